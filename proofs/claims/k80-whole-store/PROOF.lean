import PyProof.Rows.All
import Wide.All
import OpenK.AllK
import Wide.FinOn
import PySem.Challenge.RW_slotfall_k80_whole_store_and_functions
import HandS.ForMost
import HandS.Defaults
import HandS.MakeKw
import HandS.Style
import HandS.Walk
import HandS.SetFor
import HandS.Strs
import KE.GoesEnum
import HandS.OwnEq
import HandS.TupMul
import HandS.TupAny
import HandS.DictComp
import HandS.Head0
import HandS.Head1
import HandS.Head2
import HandS.HeadEnd
import HandS.HeadHook1
import HandS.HeadHook2
import HandS.Codes
import KE.KStateDown
import HandS.Flow
import HandS.Conv
import HandS.IsInst
import HandS.Evl
import HandS.Dict
set_option Elab.async false
set_option linter.all false
set_option maxRecDepth 100000
set_option maxHeartbeats 8000000
/-! The text by places: each reached def, its names (parameters first). Printed by gen.py. -/
namespace Sf
open PySem L2
def top (i : Nat) : Stmt := PySem.Challenge.pw_slotfall_k80_whole_store_and_functions.main.body.getD i (.Pass ⟨0, 0, 0, 0⟩)
abbrev s_is_integer : Stmt := top 17
abbrev s_is_between : Stmt := top 18
abbrev s_is_limit : Stmt := top 19
abbrev s_is_row : Stmt := top 20
abbrev s_reference_counts : Stmt := top 21
abbrev s_first_fault : Stmt := top 22
abbrev s_have_shape : Stmt := top 23
abbrev s_is_heap : Stmt := top 24
abbrev s_is_live : Stmt := top 25
abbrev s_require_node : Stmt := top 26
abbrev s_require_reference : Stmt := top 27
abbrev s_live_nodes : Stmt := top 28
abbrev s_holders : Stmt := top 29
abbrev s_Unwinding_init : Stmt := inClass (top 31) 0
abbrev s_Unwinding_release : Stmt := inClass (top 31) 1
abbrev s_Unwinding_destroy : Stmt := inClass (top 31) 2
abbrev s_Unwinding_unwind : Stmt := inClass (top 31) 3
abbrev s_Unwinding_drop_outside : Stmt := inClass (top 31) 4
abbrev s_Unwinding_fill : Stmt := inClass (top 31) 5
abbrev s_Unwinding_strip : Stmt := inClass (top 31) 6
abbrev s_Unwinding_heap : Stmt := inClass (top 31) 7
abbrev s_Unwinding_result : Stmt := inClass (top 31) 8
abbrev s_require_slot : Stmt := top 32
abbrev s_require_fill : Stmt := top 33
abbrev s_drop : Stmt := top 34
abbrev s_set_slot : Stmt := top 35
abbrev s_empty_slots : Stmt := top 36
abbrev s_held_nodes : Stmt := top 38
abbrev s_came_from : Stmt := top 39
abbrev s_nodes_with_outside : Stmt := top 40
abbrev s_reachable : Stmt := top 41
abbrev s_unreachable : Stmt := top 42
abbrev s_reach_certificate : Stmt := top 43
abbrev s_strip_all : Stmt := top 45
abbrev s_collect : Stmt := top 46
abbrev s_with_node : Stmt := top 53
abbrev s_with_reference : Stmt := top 54
abbrev s_still_referenced : Stmt := top 55
abbrev s_Store_init : Stmt := inClass (top 56) 0
abbrev s_Store_require_idle : Stmt := inClass (top 56) 1
abbrev s_Store_notify : Stmt := inClass (top 56) 2
abbrev s_Store_commit : Stmt := inClass (top 56) 3
abbrev s_Store_commit_run : Stmt := inClass (top 56) 4
abbrev s_Store_begin : Stmt := inClass (top 56) 5
abbrev s_Store_new : Stmt := inClass (top 56) 6
abbrev s_Store_hold : Stmt := inClass (top 56) 7
abbrev s_Store_drop : Stmt := inClass (top 56) 8
abbrev s_Store_put : Stmt := inClass (top 56) 9
abbrev s_Store_empty_slots : Stmt := inClass (top 56) 10
abbrev s_Store_collect : Stmt := inClass (top 56) 11
abbrev s_Store_collect_local : Stmt := inClass (top 56) 12
abbrev s_Store_set_limit : Stmt := inClass (top 56) 13
abbrev s_Store_heap : Stmt := inClass (top 56) 15
abbrev s_Store_current_limit : Stmt := inClass (top 56) 16
abbrev s_Store_free_numbers : Stmt := inClass (top 56) 17
abbrev s_Store_candidates : Stmt := inClass (top 56) 18
abbrev s_Store_history : Stmt := inClass (top 56) 19
abbrev s_Store_destroyed : Stmt := inClass (top 56) 20
abbrev s_Store_len : Stmt := inClass (top 56) 22
abbrev s_require_pair : Stmt := top 58
abbrev s_check_path : Stmt := top 59
abbrev s_check_closed : Stmt := top 60
abbrev s_check_reach : Stmt := top 61
abbrev s_l_pen : Stmt := top 63
abbrev s_l_draw : Stmt := top 64
abbrev s_l_shuffled : Stmt := top 65
abbrev s_l_linked : Stmt := top 66
abbrev s_l_base : Stmt := top 67
abbrev s_l_loose : Stmt := top 68
abbrev s_l_begun : Stmt := top 69
abbrev s_l_choice : Stmt := top 81
abbrev s_l_by_modules : Stmt := top 82
abbrev s_l_call : Stmt := top 78
abbrev s_l_sound : Stmt := top 83
abbrev s_law : Stmt := top 84
abbrev N_is_integer : List Str := ["value"]
theorem sc_is_integer : FnScope N_is_integer ["value"] (defScope s_is_integer) := ⟨rfl, rfl, rfl, by decide +kernel, rfl, by decide +kernel, by decide +kernel⟩
-- cells: []
abbrev N_is_between : List Str := ["value", "least", "most"]
theorem sc_is_between : FnScope N_is_between ["value", "least", "most"] (defScope s_is_between) := ⟨rfl, rfl, rfl, by decide +kernel, rfl, by decide +kernel, by decide +kernel⟩
-- cells: []
abbrev N_is_limit : List Str := ["value"]
theorem sc_is_limit : FnScope N_is_limit ["value"] (defScope s_is_limit) := ⟨rfl, rfl, rfl, by decide +kernel, rfl, by decide +kernel, by decide +kernel⟩
-- cells: []
abbrev N_is_row : List Str := ["value", "size", "entry"]
theorem sc_is_row : FnScope N_is_row ["value", "size"] (defScope s_is_row) := ⟨rfl, rfl, rfl, by decide +kernel, rfl, by decide +kernel, by decide +kernel⟩
-- cells: ['size']
abbrev N_reference_counts : List Str := ["slots", "outside", "found", "row", "held"]
theorem sc_reference_counts : FnScope N_reference_counts ["slots", "outside"] (defScope s_reference_counts) := ⟨rfl, rfl, rfl, by decide +kernel, rfl, by decide +kernel, by decide +kernel⟩
-- cells: []
abbrev N_first_fault : List Str := ["slots", "outside", "size", "node", "found"]
theorem sc_first_fault : FnScope N_first_fault ["slots", "outside"] (defScope s_first_fault) := ⟨rfl, rfl, rfl, by decide +kernel, rfl, by decide +kernel, by decide +kernel⟩
-- cells: []
abbrev N_have_shape : List Str := ["slots", "outside"]
theorem sc_have_shape : FnScope N_have_shape ["slots", "outside"] (defScope s_have_shape) := ⟨rfl, rfl, rfl, by decide +kernel, rfl, by decide +kernel, by decide +kernel⟩
-- cells: []
abbrev N_is_heap : List Str := ["value", "slots", "outside", "row"]
theorem sc_is_heap : FnScope N_is_heap ["value"] (defScope s_is_heap) := ⟨rfl, rfl, rfl, by decide +kernel, rfl, by decide +kernel, by decide +kernel⟩
-- cells: []
abbrev N_is_live : List Str := ["heap", "value"]
theorem sc_is_live : FnScope N_is_live ["heap", "value"] (defScope s_is_live) := ⟨rfl, rfl, rfl, by decide +kernel, rfl, by decide +kernel, by decide +kernel⟩
-- cells: []
abbrev N_require_node : List Str := ["heap", "value"]
theorem sc_require_node : FnScope N_require_node ["heap", "value"] (defScope s_require_node) := ⟨rfl, rfl, rfl, by decide +kernel, rfl, by decide +kernel, by decide +kernel⟩
-- cells: []
abbrev N_require_reference : List Str := ["heap", "value"]
theorem sc_require_reference : FnScope N_require_reference ["heap", "value"] (defScope s_require_reference) := ⟨rfl, rfl, rfl, by decide +kernel, rfl, by decide +kernel, by decide +kernel⟩
-- cells: []
abbrev N_live_nodes : List Str := ["heap", "node", "row"]
theorem sc_live_nodes : FnScope N_live_nodes ["heap"] (defScope s_live_nodes) := ⟨rfl, rfl, rfl, by decide +kernel, rfl, by decide +kernel, by decide +kernel⟩
-- cells: []
abbrev N_holders : List Str := ["heap", "node", "found", "holder", "slot", "held"]
theorem sc_holders : FnScope N_holders ["heap", "node"] (defScope s_holders) := ⟨rfl, rfl, rfl, by decide +kernel, rfl, by decide +kernel, by decide +kernel⟩
-- cells: ['holder', 'node']
abbrev N_Unwinding_init : List Str := ["self", "heap", "limit", "slots", "outside", "row"]
theorem sc_Unwinding_init : FnScope N_Unwinding_init ["self", "heap", "limit"] (defScope s_Unwinding_init) := ⟨rfl, rfl, rfl, by decide +kernel, rfl, by decide +kernel, by decide +kernel⟩
-- cells: []
abbrev N_Unwinding_release : List Str := ["self", "holder", "slot", "node", "depth"]
theorem sc_Unwinding_release : FnScope N_Unwinding_release ["self", "holder", "slot", "node", "depth"] (defScope s_Unwinding_release) := ⟨rfl, rfl, rfl, by decide +kernel, rfl, by decide +kernel, by decide +kernel⟩
-- cells: []
abbrev N_Unwinding_destroy : List Str := ["self", "node", "depth", "row", "slot", "held"]
theorem sc_Unwinding_destroy : FnScope N_Unwinding_destroy ["self", "node", "depth"] (defScope s_Unwinding_destroy) := ⟨rfl, rfl, rfl, by decide +kernel, rfl, by decide +kernel, by decide +kernel⟩
-- cells: []
abbrev N_Unwinding_unwind : List Str := ["self", "holder", "slot", "node", "taken"]
theorem sc_Unwinding_unwind : FnScope N_Unwinding_unwind ["self", "holder", "slot", "node"] (defScope s_Unwinding_unwind) := ⟨rfl, rfl, rfl, by decide +kernel, rfl, by decide +kernel, by decide +kernel⟩
-- cells: []
abbrev N_Unwinding_drop_outside : List Str := ["self", "node"]
theorem sc_Unwinding_drop_outside : FnScope N_Unwinding_drop_outside ["self", "node"] (defScope s_Unwinding_drop_outside) := ⟨rfl, rfl, rfl, by decide +kernel, rfl, by decide +kernel, by decide +kernel⟩
-- cells: []
abbrev N_Unwinding_fill : List Str := ["self", "node", "slot", "target", "held"]
theorem sc_Unwinding_fill : FnScope N_Unwinding_fill ["self", "node", "slot", "target"] (defScope s_Unwinding_fill) := ⟨rfl, rfl, rfl, by decide +kernel, rfl, by decide +kernel, by decide +kernel⟩
-- cells: []
abbrev N_Unwinding_strip : List Str := ["self", "node", "slot"]
theorem sc_Unwinding_strip : FnScope N_Unwinding_strip ["self", "node"] (defScope s_Unwinding_strip) := ⟨rfl, rfl, rfl, by decide +kernel, rfl, by decide +kernel, by decide +kernel⟩
-- cells: []
abbrev N_Unwinding_heap : List Str := ["self", "row"]
theorem sc_Unwinding_heap : FnScope N_Unwinding_heap ["self"] (defScope s_Unwinding_heap) := ⟨rfl, rfl, rfl, by decide +kernel, rfl, by decide +kernel, by decide +kernel⟩
-- cells: []
abbrev N_Unwinding_result : List Str := ["self"]
theorem sc_Unwinding_result : FnScope N_Unwinding_result ["self"] (defScope s_Unwinding_result) := ⟨rfl, rfl, rfl, by decide +kernel, rfl, by decide +kernel, by decide +kernel⟩
-- cells: []
abbrev N_require_slot : List Str := ["heap", "node", "slot"]
theorem sc_require_slot : FnScope N_require_slot ["heap", "node", "slot"] (defScope s_require_slot) := ⟨rfl, rfl, rfl, by decide +kernel, rfl, by decide +kernel, by decide +kernel⟩
-- cells: []
abbrev N_require_fill : List Str := ["heap", "node", "slot", "target"]
theorem sc_require_fill : FnScope N_require_fill ["heap", "node", "slot", "target"] (defScope s_require_fill) := ⟨rfl, rfl, rfl, by decide +kernel, rfl, by decide +kernel, by decide +kernel⟩
-- cells: []
abbrev N_drop : List Str := ["heap", "node", "limit", "run"]
theorem sc_drop : FnScope N_drop ["heap", "node", "limit"] (defScope s_drop) := ⟨rfl, rfl, rfl, by decide +kernel, rfl, by decide +kernel, by decide +kernel⟩
-- cells: []
abbrev N_set_slot : List Str := ["heap", "node", "slot", "target", "limit", "run"]
theorem sc_set_slot : FnScope N_set_slot ["heap", "node", "slot", "target", "limit"] (defScope s_set_slot) := ⟨rfl, rfl, rfl, by decide +kernel, rfl, by decide +kernel, by decide +kernel⟩
-- cells: []
abbrev N_empty_slots : List Str := ["heap", "node", "limit", "run"]
theorem sc_empty_slots : FnScope N_empty_slots ["heap", "node", "limit"] (defScope s_empty_slots) := ⟨rfl, rfl, rfl, by decide +kernel, rfl, by decide +kernel, by decide +kernel⟩
-- cells: []
abbrev N_held_nodes : List Str := ["heap", "node", "held"]
theorem sc_held_nodes : FnScope N_held_nodes ["heap", "node"] (defScope s_held_nodes) := ⟨rfl, rfl, rfl, by decide +kernel, rfl, by decide +kernel, by decide +kernel⟩
-- cells: []
abbrev N_came_from : List Str := ["heap", "starts", "found", "node", "line", "at", "held"]
theorem sc_came_from : FnScope N_came_from ["heap", "starts"] (defScope s_came_from) := ⟨rfl, rfl, rfl, by decide +kernel, rfl, by decide +kernel, by decide +kernel⟩
-- cells: []
abbrev N_nodes_with_outside : List Str := ["heap", "node"]
theorem sc_nodes_with_outside : FnScope N_nodes_with_outside ["heap"] (defScope s_nodes_with_outside) := ⟨rfl, rfl, rfl, by decide +kernel, rfl, by decide +kernel, by decide +kernel⟩
-- cells: ['heap']
abbrev N_reachable : List Str := ["heap"]
theorem sc_reachable : FnScope N_reachable ["heap"] (defScope s_reachable) := ⟨rfl, rfl, rfl, by decide +kernel, rfl, by decide +kernel, by decide +kernel⟩
-- cells: []
abbrev N_unreachable : List Str := ["heap", "found", "node"]
theorem sc_unreachable : FnScope N_unreachable ["heap"] (defScope s_unreachable) := ⟨rfl, rfl, rfl, by decide +kernel, rfl, by decide +kernel, by decide +kernel⟩
-- cells: ['found']
abbrev N_reach_certificate : List Str := ["heap", "node", "found", "path"]
theorem sc_reach_certificate : FnScope N_reach_certificate ["heap", "node"] (defScope s_reach_certificate) := ⟨rfl, rfl, rfl, by decide +kernel, rfl, by decide +kernel, by decide +kernel⟩
-- cells: []
abbrev N_strip_all : List Str := ["run", "nodes", "node"]
theorem sc_strip_all : FnScope N_strip_all ["run", "nodes"] (defScope s_strip_all) := ⟨rfl, rfl, rfl, by decide +kernel, rfl, by decide +kernel, by decide +kernel⟩
-- cells: []
abbrev N_collect : List Str := ["heap", "limit", "run"]
theorem sc_collect : FnScope N_collect ["heap", "limit"] (defScope s_collect) := ⟨rfl, rfl, rfl, by decide +kernel, rfl, by decide +kernel, by decide +kernel⟩
-- cells: []
abbrev N_with_node : List Str := ["heap", "node", "width", "rows", "outside"]
theorem sc_with_node : FnScope N_with_node ["heap", "node", "width"] (defScope s_with_node) := ⟨rfl, rfl, rfl, by decide +kernel, rfl, by decide +kernel, by decide +kernel⟩
-- cells: []
abbrev N_with_reference : List Str := ["heap", "node", "outside"]
theorem sc_with_reference : FnScope N_with_reference ["heap", "node"] (defScope s_with_reference) := ⟨rfl, rfl, rfl, by decide +kernel, rfl, by decide +kernel, by decide +kernel⟩
-- cells: []
abbrev N_still_referenced : List Str := ["events", "event"]
theorem sc_still_referenced : FnScope N_still_referenced ["events"] (defScope s_still_referenced) := ⟨rfl, rfl, rfl, by decide +kernel, rfl, by decide +kernel, by decide +kernel⟩
-- cells: []
abbrev N_Store_init : List Str := ["self", "heap", "limit", "observer", "free", "node", "row"]
theorem sc_Store_init : FnScope N_Store_init ["self", "heap", "limit", "observer"] (defScope s_Store_init) := ⟨rfl, rfl, rfl, by decide +kernel, rfl, by decide +kernel, by decide +kernel⟩
-- cells: []
abbrev N_Store_require_idle : List Str := ["self"]
theorem sc_Store_require_idle : FnScope N_Store_require_idle ["self"] (defScope s_Store_require_idle) := ⟨rfl, rfl, rfl, by decide +kernel, rfl, by decide +kernel, by decide +kernel⟩
-- cells: []
abbrev N_Store_notify : List Str := ["self", "name", "log", "observer"]
theorem sc_Store_notify : FnScope N_Store_notify ["self", "name", "log"] (defScope s_Store_notify) := ⟨rfl, rfl, rfl, by decide +kernel, rfl, by decide +kernel, by decide +kernel⟩
-- cells: []
abbrev N_Store_commit : List Str := ["self", "action", "log", "snapshot"]
theorem sc_Store_commit : FnScope N_Store_commit ["self", "action", "log", "snapshot"] (defScope s_Store_commit) := ⟨rfl, rfl, rfl, by decide +kernel, rfl, by decide +kernel, by decide +kernel⟩
-- cells: []
abbrev N_Store_commit_run : List Str := ["self", "action", "run", "heap", "limit", "free", "candidates", "log", "after", "found", "left", "node"]
theorem sc_Store_commit_run : FnScope N_Store_commit_run ["self", "action", "run"] (defScope s_Store_commit_run) := ⟨rfl, rfl, rfl, by decide +kernel, rfl, by decide +kernel, by decide +kernel⟩
-- cells: ['after']
abbrev N_Store_begin : List Str := ["self"]
theorem sc_Store_begin : FnScope N_Store_begin ["self"] (defScope s_Store_begin) := ⟨rfl, rfl, rfl, by decide +kernel, rfl, by decide +kernel, by decide +kernel⟩
-- cells: []
abbrev N_Store_new : List Str := ["self", "width", "heap", "limit", "free", "candidates", "node"]
theorem sc_Store_new : FnScope N_Store_new ["self", "width"] (defScope s_Store_new) := ⟨rfl, rfl, rfl, by decide +kernel, rfl, by decide +kernel, by decide +kernel⟩
-- cells: []
abbrev N_Store_hold : List Str := ["self", "node", "heap", "limit", "free", "candidates"]
theorem sc_Store_hold : FnScope N_Store_hold ["self", "node"] (defScope s_Store_hold) := ⟨rfl, rfl, rfl, by decide +kernel, rfl, by decide +kernel, by decide +kernel⟩
-- cells: []
abbrev N_Store_drop : List Str := ["self", "node", "run"]
theorem sc_Store_drop : FnScope N_Store_drop ["self", "node"] (defScope s_Store_drop) := ⟨rfl, rfl, rfl, by decide +kernel, rfl, by decide +kernel, by decide +kernel⟩
-- cells: []
abbrev N_Store_put : List Str := ["self", "node", "slot", "target", "run"]
theorem sc_Store_put : FnScope N_Store_put ["self", "node", "slot", "target"] (defScope s_Store_put) := ⟨rfl, rfl, rfl, by decide +kernel, rfl, by decide +kernel, by decide +kernel⟩
-- cells: []
abbrev N_Store_empty_slots : List Str := ["self", "node", "run"]
theorem sc_Store_empty_slots : FnScope N_Store_empty_slots ["self", "node"] (defScope s_Store_empty_slots) := ⟨rfl, rfl, rfl, by decide +kernel, rfl, by decide +kernel, by decide +kernel⟩
-- cells: []
abbrev N_Store_collect : List Str := ["self", "run"]
theorem sc_Store_collect : FnScope N_Store_collect ["self"] (defScope s_Store_collect) := ⟨rfl, rfl, rfl, by decide +kernel, rfl, by decide +kernel, by decide +kernel⟩
-- cells: []
abbrev N_Store_collect_local : List Str := ["self", "visited", "lost", "run", "node"]
theorem sc_Store_collect_local : FnScope N_Store_collect_local ["self"] (defScope s_Store_collect_local) := ⟨rfl, rfl, rfl, by decide +kernel, rfl, by decide +kernel, by decide +kernel⟩
-- cells: ['lost']
abbrev N_Store_set_limit : List Str := ["self", "limit", "heap", "old", "free", "candidates"]
theorem sc_Store_set_limit : FnScope N_Store_set_limit ["self", "limit"] (defScope s_Store_set_limit) := ⟨rfl, rfl, rfl, by decide +kernel, rfl, by decide +kernel, by decide +kernel⟩
-- cells: []
abbrev N_Store_heap : List Str := ["self"]
theorem sc_Store_heap : FnScope N_Store_heap ["self"] (defScope s_Store_heap) := ⟨rfl, rfl, rfl, by decide +kernel, rfl, by decide +kernel, by decide +kernel⟩
-- cells: []
abbrev N_Store_current_limit : List Str := ["self"]
theorem sc_Store_current_limit : FnScope N_Store_current_limit ["self"] (defScope s_Store_current_limit) := ⟨rfl, rfl, rfl, by decide +kernel, rfl, by decide +kernel, by decide +kernel⟩
-- cells: []
abbrev N_Store_free_numbers : List Str := ["self"]
theorem sc_Store_free_numbers : FnScope N_Store_free_numbers ["self"] (defScope s_Store_free_numbers) := ⟨rfl, rfl, rfl, by decide +kernel, rfl, by decide +kernel, by decide +kernel⟩
-- cells: []
abbrev N_Store_candidates : List Str := ["self"]
theorem sc_Store_candidates : FnScope N_Store_candidates ["self"] (defScope s_Store_candidates) := ⟨rfl, rfl, rfl, by decide +kernel, rfl, by decide +kernel, by decide +kernel⟩
-- cells: []
abbrev N_Store_history : List Str := ["self", "action", "log"]
theorem sc_Store_history : FnScope N_Store_history ["self"] (defScope s_Store_history) := ⟨rfl, rfl, rfl, by decide +kernel, rfl, by decide +kernel, by decide +kernel⟩
-- cells: []
abbrev N_Store_destroyed : List Str := ["self", "found", "action", "log"]
theorem sc_Store_destroyed : FnScope N_Store_destroyed ["self"] (defScope s_Store_destroyed) := ⟨rfl, rfl, rfl, by decide +kernel, rfl, by decide +kernel, by decide +kernel⟩
-- cells: []
abbrev N_Store_len : List Str := ["self"]
theorem sc_Store_len : FnScope N_Store_len ["self"] (defScope s_Store_len) := ⟨rfl, rfl, rfl, by decide +kernel, rfl, by decide +kernel, by decide +kernel⟩
-- cells: []
abbrev N_require_pair : List Str := ["value", "labels"]
theorem sc_require_pair : FnScope N_require_pair ["value", "labels"] (defScope s_require_pair) := ⟨rfl, rfl, rfl, by decide +kernel, rfl, by decide +kernel, by decide +kernel⟩
-- cells: []
abbrev N_check_path : List Str := ["heap", "node", "path", "index", "entry"]
theorem sc_check_path : FnScope N_check_path ["heap", "node", "path"] (defScope s_check_path) := ⟨rfl, rfl, rfl, by decide +kernel, rfl, by decide +kernel, by decide +kernel⟩
-- cells: []
abbrev N_check_closed : List Str := ["heap", "node", "nodes", "index", "entry", "holder", "slot"]
theorem sc_check_closed : FnScope N_check_closed ["heap", "node", "nodes"] (defScope s_check_closed) := ⟨rfl, rfl, rfl, by decide +kernel, rfl, by decide +kernel, by decide +kernel⟩
-- cells: ['nodes']
abbrev N_check_reach : List Str := ["heap", "node", "value"]
theorem sc_check_reach : FnScope N_check_reach ["heap", "node", "value"] (defScope s_check_reach) := ⟨rfl, rfl, rfl, by decide +kernel, rfl, by decide +kernel, by decide +kernel⟩
-- cells: []
abbrev N_l_pen : List Str := ["_law_script"]
theorem sc_l_pen : FnScope N_l_pen ["_law_script"] (defScope s_l_pen) := ⟨rfl, rfl, rfl, by decide +kernel, rfl, by decide +kernel, by decide +kernel⟩
-- cells: []
abbrev N_l_draw : List Str := ["_law_pen_here", "_law_most_one", "_law_digit", "_law_place", "_law_cell", "_law_whole", "_law_mixed"]
theorem sc_l_draw : FnScope N_l_draw ["_law_pen_here", "_law_most_one"] (defScope s_l_draw) := ⟨rfl, rfl, rfl, by decide +kernel, rfl, by decide +kernel, by decide +kernel⟩
-- cells: []
abbrev N_l_shuffled : List Str := ["_law_pen_here", "_law_row", "_law_result", "_law_entry"]
theorem sc_l_shuffled : FnScope N_l_shuffled ["_law_pen_here", "_law_row"] (defScope s_l_shuffled) := ⟨rfl, rfl, rfl, by decide +kernel, rfl, by decide +kernel, by decide +kernel⟩
-- cells: []
abbrev N_l_linked : List Str := ["_law_pen_here", "_law_labels", "_law_alive", "_law_rows", "_law_label", "_law_way", "_law_place", "_law_near", "_law_back", "_law_row", "_law_forward", "_law_turn", "_law_one", "_law_other", "_law_entry"]
theorem sc_l_linked : FnScope N_l_linked ["_law_pen_here", "_law_labels", "_law_alive"] (defScope s_l_linked) := ⟨rfl, rfl, rfl, by decide +kernel, rfl, by decide +kernel, by decide +kernel⟩
-- cells: []
abbrev N_l_base : List Str := ["_law_pen_here", "_law_alive", "_law_spare", "_law_labels", "_law_rows", "_law_handles", "_law_label", "_law_turn", "_law_row"]
theorem sc_l_base : FnScope N_l_base ["_law_pen_here"] (defScope s_l_base) := ⟨rfl, rfl, rfl, by decide +kernel, rfl, by decide +kernel, by decide +kernel⟩
-- cells: []
abbrev N_l_loose : List Str := ["_law_pen_here", "_law_base_here", "_law_rows", "_law_handles", "_law_alive", "_law_spot", "_law_row", "_law_turn", "_law_one", "_law_other"]
theorem sc_l_loose : FnScope N_l_loose ["_law_pen_here", "_law_base_here"] (defScope s_l_loose) := ⟨rfl, rfl, rfl, by decide +kernel, rfl, by decide +kernel, by decide +kernel⟩
-- cells: []
abbrev N_l_begun : List Str := ["_law_pen_here", "_law_way", "_law_base_here"]
theorem sc_l_begun : FnScope N_l_begun ["_law_pen_here"] (defScope s_l_begun) := ⟨rfl, rfl, rfl, by decide +kernel, rfl, by decide +kernel, by decide +kernel⟩
-- cells: []
abbrev N_l_choice : List Str := ["_law_pen_here", "_law_state", "_law_base_here", "_law_way", "_law_alive", "_law_spot", "_law_row", "_law_wide", "_law_bare", "_law_width", "_law_number", "_law_goal"]
theorem sc_l_choice : FnScope N_l_choice ["_law_pen_here", "_law_state"] (defScope s_l_choice) := ⟨rfl, rfl, rfl, by decide +kernel, rfl, by decide +kernel, by decide +kernel⟩
-- cells: ['_law_base_here']
abbrev N_l_by_modules : List Str := ["_law_base_here", "_law_bound", "_law_action"]
theorem sc_l_by_modules : FnScope N_l_by_modules ["_law_base_here", "_law_bound", "_law_action"] (defScope s_l_by_modules) := ⟨rfl, rfl, rfl, by decide +kernel, rfl, by decide +kernel, by decide +kernel⟩
-- cells: []
abbrev N_l_call : List Str := ["_law_store", "_law_action"]
theorem sc_l_call : FnScope N_l_call ["_law_store", "_law_action"] (defScope s_l_call) := ⟨rfl, rfl, rfl, by decide +kernel, rfl, by decide +kernel, by decide +kernel⟩
-- cells: []
abbrev N_l_sound : List Str := ["_law_store", "_law_begun_with", "_law_base_here", "_law_alive", "_law_free", "_law_spot", "_law_row", "_law_marks", "_law_found", "_law_made_here", "_law_action"]
theorem sc_l_sound : FnScope N_l_sound ["_law_store", "_law_begun_with"] (defScope s_l_sound) := ⟨rfl, rfl, rfl, by decide +kernel, rfl, by decide +kernel, by decide +kernel⟩
-- cells: ['_law_alive']
abbrev N_law : List Str := ["_law_script", "_law_pen_here", "_law_base_here", "_law_bound", "_law_store", "_law_begun_with", "_law_step", "_law_action", "_law_told", "_law_result"]
theorem sc_law : FnScope N_law ["_law_script"] (defScope s_law) := ⟨rfl, rfl, rfl, by decide +kernel, rfl, by decide +kernel, by decide +kernel⟩
-- cells: []
end Sf
/-! Rules that the layer lacks: xs[i] op= e, enumerate(tuple), tuple[::-1], set(list of ints). -/
namespace Sf
open PySem PySem.Spec PyProof.Rows L2
section
variable {X : Cx}
/-- o[i] of a list, for an augmented store: 0 ≤ i -/
def rGetL (K : PySem.W.Frag) : V → V → Hp → VK → Prop := fun o i H Q => ∃ (p : Addr) (xs : List V) (n : Nat) (v : V), o = .ref p ∧ i = .int (n : Int) ∧ SqL K H p xs ∧ xs[n]? = some v ∧ Q v H
theorem pget_list : PGet X (rGetL X.K) := by
  intro pins s σ H o i ov iv Q I ro ri h
  obtain ⟨p, xs, n, v, rfl, rfl, hq, hv, q⟩ := h
  cases ro
  obtain ⟨t, rfl⟩ := ri
  obtain ⟨its, r, pl, hz⟩ := I.list hq
  obtain ⟨u, hu, ru⟩ := r.get hv
  have hl := r.length
  have hn := line63
  have hlt : n < its.length := (List.getElem?_eq_some_iff.mp hu).1
  exact wpAny_getItem_list (k := (n : Int)) pl.isList (by omega) (by omega) (x := u) (by simpa using hu) ⟨v, H, I, ru, q⟩
end

/-! ### enumerate(tuple) -/
theorem meets_enumerate_1 {v : Value} {o : Obj} {Hh : Heap → Prop} (B : Begins v o Hh) :
    Meets (Builtin.«enumerate.__new__» ⟨[.type "enumerate", v], []⟩) (fun _ R s => Hh s.heap ∧
      R (.ok (.ret (.ref (s.heap.push o).objs.size))) { s with heap := (s.heap.push o).push { cls := .type "enumerate", data := .fields #[.none, .bool false, .ref s.heap.objs.size, rawInt 0, .none, .none] } }) :=
  .of_wp fun prog w A R s h => by
    obtain ⟨hp, g, d, tk, os⟩ := s
    obtain ⟨h1, h⟩ := h
    have hsub := sub_enumerate
    have q1 : ∀ {A' : Around} {E' : Value → Shared → Prop} {Q' : Value → Shared → Prop}, Q' (.ref hp.objs.size) ⟨hp.push o, g, d, tk, os⟩ → wpAny (model prog w) A' (pyIter v) Q' E' ⟨hp, g, d, tk, os⟩ :=
      fun z => B.iter prog w _ _ ⟨hp, g, d, tk, os⟩ _ h1 z
    wp_walk using q1
    refine wpAny_stack_any fun st => wpAny_pure ?_
    split
    · rename_i c _ _ _ _ _
      by_cases hc : (c == Value.type "enumerate") = true
      · rw [hc]
        wp_walk using q1
        exact ⟨_, rfl, h⟩
      · rw [Bool.eq_false_iff.mpr hc]
        wp_walk using q1
        exact ⟨_, rfl, h⟩
    · wp_walk using q1
      exact ⟨_, rfl, h⟩
theorem enum_begins_1 {prog : Program} {w : World} {A : Around} {E : Value → Shared → Prop} {s : Shared} {v : Value} {o : Obj} {Hh : Heap → Prop} {Q : Value → Shared → Prop} (B : Begins v o Hh) (h1 : Hh s.heap)
    (h : ∀ h', IsEnum h' (s.heap.objs.size + 1) s.heap.objs.size 0 .none → h'.get? s.heap.objs.size = some o → h'.objs.size = s.heap.objs.size + 2 →
      (∀ b ob, s.heap.get? b = some ob → h'.get? b = some ob) → Q (.ref (s.heap.objs.size + 1)) { s with heap := h' }) :
    wpAny (model prog w) A (call (.type "enumerate") [v]) Q E s := by
  refine callType_new F.called_enumerate (by decide) (F.typeCall_enumerate_1 _) (F.newCall_enumerate_1 _) (fun obj => F.args_object_init_2 obj _) F.entry_enumerate_new (meets_enumerate_1 B) ⟨h1, ?_⟩
  have hz : (s.heap.push o).objs.size = s.heap.objs.size + 1 := Heap.size_push ..
  show _ ∧ _
  rw [hz]
  have he : IsEnum ((s.heap.push o).push { cls := .type "enumerate", data := .fields #[.none, .bool false, .ref s.heap.objs.size, rawInt 0, .none, .none] }) (s.heap.objs.size + 1) s.heap.objs.size 0 .none := by
    have q := Heap.get?_push_size (s.heap.push o) (o := { cls := .type "enumerate", data := .fields #[.none, .bool false, .ref s.heap.objs.size, rawInt 0, .none, .none] }) rfl
    rw [hz] at q
    exact q
  exact ⟨⟨_, he, rfl⟩, h _ he (Heap.get?_push_of_some _ (Heap.get?_push_size _ B.free)) (by rw [Heap.size_push, hz]) fun b ob x => Heap.get?_push_of_some _ (Heap.get?_push_of_some _ x)⟩
/-- the tuple at a, each item in a new pair -/
def IteT (K : PySem.W.Frag) (a : Addr) : It :=
  ⟨fun i H => ∃ (xs : List V) (x : V), SqT K H a xs ∧ xs[i]? = some x, fun i H v H' => ∃ T x, v = .ref T ∧ H T = none ∧ H' = upd H T (.tup [.int (i : Nat), x]) ∧ ∀ xs, SqT K H a xs → xs[i]? = some x, fun i H => ∃ xs : List V, SqT K H a xs ∧ i = xs.length⟩
theorem turn_enumT {P : Program} {w : World} {K : PySem.W.Frag} {elts : List Expr} {kk : Nat} {tpos : Pos} (a e it : Addr) (hae : a ≠ e) (hai : a ≠ it) :
    Turn P w K (.Tuple elts kk tpos) (IteT K a) [e, it] e (fun i h => (∃ old, IsEnum h e it ((i : Nat) : Int) old) ∧ h.IsTupleIter it a i ∧ e ≠ it) where
  mem := by simp
  obj := fun i h st b hb => by
    obtain ⟨⟨old, he⟩, ⟨o, ho, hc, hd⟩, _⟩ := st
    have e' : b = e ∨ b = it := by simpa using hb
    rcases e' with z | z
    · rw [z]
      exact ⟨_, he, fun v q => nomatch q⟩
    · rw [z]
      exact ⟨o, ho, fun v q => by rw [hd] at q; cases q⟩
  keep := fun i h h' st k => by
    obtain ⟨⟨old, he⟩, hi, hne⟩ := st
    exact ⟨⟨old, k e (by simp) _ he⟩, hi.at fun o q => k it (by simp) o q, hne⟩
  item := by
    intro X hP hw hK hc i pins s σ H E I hf st hg
    subst hP hw hK
    obtain ⟨⟨old, he⟩, hit, hne⟩ := st
    obtain ⟨xs, x, hq, hx⟩ := hg
    obtain ⟨its, rv, p, hz⟩ := I.tuple hq
    obtain ⟨u, hu, ru⟩ := rv.get hx
    have hel : e < s.heap.objs.size := Heap.lt_size he
    have hil : it < s.heap.objs.size := by
      obtain ⟨_, q, _⟩ := hit
      exact Heap.lt_size q
    have hlt : i < its.toArray.size := by
      rw [List.size_toArray]
      exact (List.getElem?_eq_some_iff.mp hu).1
    have pT : s.heap.IsTuple a its.toArray := p
    refine wpAny_pyNext_enum_itemD (Draws.tuple (A := X.A.in1) (show X.A.in1.handled = none from I.ok.hd hc) it a hai its.toArray) he ⟨hit, pT⟩ hlt hne (by simp [hne, Ne.symm hae]) fun y h' tk hy ho hs' hT hsz hk => ?_
    have ey : y = u := by
      have q : its[i]? = some y := by simpa using hy
      rw [hu] at q
      exact (Option.some.inj q).symm
    subst ey
    refine ⟨_, rfl, wpAny_letOwnedTupleGo_enum (s := { s with heap := h', toks := tk + 1 }) ho fun h'' he' sb => ?_⟩
    have hT2 : h''.get? s.heap.objs.size = some { cls := .type "tuple", data := .seq #[.int i tk, y] } := (sb.2 _ (Nat.ne_of_gt hel)).trans hT
    have new : ObjOk X.prog X.w (upd H s.heap.objs.size (.tup [.int (i : Nat), x])) h'' s.heap.objs.size (.tup [.int (i : Nat), x]) :=
      ⟨by show 2 ≤ sizeLine; decide, [.int i tk, y], .cons ⟨_, rfl⟩ (.cons ru .nil), ⟨_, hT2, rfl, _, rfl⟩⟩
    have I1 : Inv X pins σ (upd H s.heap.objs.size (.tup [.int (i : Nat), x])) { s with heap := h'', toks := tk + 1 } :=
      I.turnedNew (ch := [e, it]) (fun b ob hb q => (sb.2 b (fun z => hb (by simp [z]))).trans (hk b ob (fun z => hb (by simp [z])) (fun z => hb (by simp [z])) q)) hf (Nat.le_refl _) new
    refine ⟨.ref s.heap.objs.size, _, I1, rfl, ⟨_, x, rfl, I.hok.fresh (Nat.le_refl _), rfl, fun ys hy => by rw [I.tuple_inj hy hq]; exact hx⟩, ⟨⟨y, ?_⟩, hs'.1.at fun o q => (sb.2 it (Ne.symm hne)).trans q, hne⟩, fun b hb => ?_⟩
    · have e1 : ((i + 1 : Nat) : Int) = (i : Int) + 1 := by omega
      rw [e1]
      exact he'
    · have hb' : b < s.heap.objs.size := by
        have e' : b = e ∨ b = it := by simpa using hb
        rcases e' with z | z
        · rw [z]
          exact hel
        · rw [z]
          exact hil
      rw [upd_ne (Nat.ne_of_lt hb')]
      exact (hf b hb).1
  done := by
    intro X hP hw hK hc i pins s σ H E I hf st hg
    subst hP hw hK
    obtain ⟨⟨old, he⟩, hit, hne⟩ := st
    obtain ⟨xs, hq, hx⟩ := hg
    obtain ⟨its, rv, p, hz⟩ := I.tuple hq
    obtain ⟨f0, f1, f2, f3, f4, f5⟩ := hf it (by simp)
    have hl := rv.length
    have hi : i = its.toArray.size := by rw [List.size_toArray]; omega
    subst hi
    have pT : s.heap.IsTuple a its.toArray := p
    exact wpAny_pyNext_enum_endD (Draws.tuple (A := X.A.in1) (show X.A.in1.handled = none from I.ok.hd hc) it a hai its.toArray) he ⟨hit, pT⟩ fun h' eb => ⟨rfl, I.turned (t' := s.toks) (fun b o hb q => eb b o hb q) f0 f1 f3 f4 f5⟩
  self := fun A i s Q E st h => by
    obtain ⟨⟨_, he⟩, _⟩ := st
    exact wpAny_pyIter_enum he h
def iEnumT (K : PySem.W.Frag) (ta : TA) : TI := fun σ H R => ta σ H fun vs H1 => ∃ a xs, vs = [.ref a] ∧ SqT K H1 a xs ∧ R (IteT K a) H1
theorem pi_enumT {X : Cx} {e : Expr} {ta : TA} {p pos tpos : Pos} {elts : List Expr} {kk : Nat} (hg : Gl X "enumerate") (hm : X.mg "enumerate" = none) (ha : PA X [e] ta) (hs : starEach [e] X.env = [(false, eval e X.env)] := by rfl) :
    PI X (.Tuple elts kk tpos) (.Call (.Name "enumerate" p) [e] [] pos) (iEnumT X.K ta) := by
  refine ⟨fun pins s σ H R I h => ?_⟩
  refine Call_ (ld_blt I hg hm boot_enumerate (PyProof.Rows.callWith_type1 (thn (ha.run pos pins s σ H _ I h) fun us s1 ⟨vs, H1, I1, r1, q1⟩ => ?_) hs rfl))
  obtain ⟨a, xs, ex, hq, q⟩ := q1
  subst ex
  cases r1 with
  | cons r rr =>
    cases rr
    cases r
    obtain ⟨its, rv, p', hz⟩ := I1.tuple hq
    have pT : s1.heap.IsTuple a its.toArray := p'
    have al : a < s1.heap.objs.size := p'.lt
    refine enum_begins_1 (begins_tuple a its.toArray) pT fun h' he ho hsz hk => wpAny_pyIter_enum he ?_
    have I2 : Inv X pins σ H1 { s1 with heap := h' } := I1.kept (t' := s1.toks) hk
    refine ⟨s1.heap.objs.size + 1, [s1.heap.objs.size + 1, s1.heap.objs.size], _, _, H1, rfl, I2, turn_enumT a (s1.heap.objs.size + 1) s1.heap.objs.size (Nat.ne_of_lt (Nat.lt_succ_of_lt al)) (Nat.ne_of_lt al), ⟨⟨.none, he⟩, ⟨_, ho, rfl, rfl⟩, Nat.succ_ne_self _⟩, fun b hb => ?_, q⟩
    have e' : b = s1.heap.objs.size + 1 ∨ b = s1.heap.objs.size := by simpa using hb
    have hle : s1.heap.objs.size ≤ b := by
      rcases e' with z | z
      · rw [z]
        exact Nat.le_add_right _ _
      · rw [z]
        exact Nat.le_refl _
    exact I1.fpOk hle (I1.hok.fresh hle)
theorem walk_enumT {K : PySem.W.Frag} {a : Addr} {xs : List V} : Walk (IteT K a) xs.length (fun H => SqT K H a xs) (YPair (fun i => some (.int (i : Nat))) (fun i => xs[i]?)) := by
  refine ⟨fun i _ hi q => ⟨xs, xs[i], q, by simp [hi]⟩, fun _ q => ⟨xs, q, rfl⟩, fun i H v H' _ q y => ?_⟩
  obtain ⟨T, x, h1, h2, h3, h4⟩ := y
  exact ⟨T, .int (i : Nat), x, h1, h2, h3, rfl, h4 xs q⟩
end Sf
namespace Sf
open PySem PySem.Spec PyProof.Rows L2
/-! ### tuple[::-1] -/
theorem rev_adjust (n : Nat) : Builtin.Slice.sliceAdjust none none (-1) (n : Int) = ((n : Int) - 1, -1) := by
  unfold Builtin.Slice.sliceAdjust
  have h1 : ((-1 : Int) < 0) := by decide
  simp only [h1, if_true]
theorem rev_places (n : Nat) : Builtin.Slice.slicePlaces ((n : Int) - 1) (-1) (-1) = n := by
  unfold Builtin.Slice.slicePlaces
  have h1 : ¬ ((-1 : Int) > 0) := by decide
  rw [if_neg h1]
  by_cases h : (n : Int) - 1 > -1
  · rw [if_pos h]
    have e : ((n : Int) - 1 - -1 - 1) / (- -1) = (n : Int) - 1 := by
      rw [show (- -1 : Int) = 1 by decide, Int.ediv_one]
      omega
    rw [e]
    omega
  · rw [if_neg h]
    omega
theorem rev_pick (xs : Array Value) : ((List.range xs.size).filterMap fun (k : Nat) => xs[(((xs.size : Nat) : Int) - 1 + (k : Int) * -1).toNat]?).toArray = xs.toList.reverse.toArray := by
  have e : (List.range xs.size).filterMap (fun (k : Nat) => xs[(((xs.size : Nat) : Int) - 1 + (k : Int) * -1).toNat]?) = ((List.range xs.size).map fun k => xs.size - 1 - k).filterMap (xs[·]?) := by
    rw [List.filterMap_map]
    refine congrArg (fun f => List.filterMap f (List.range xs.size)) (funext fun k => ?_)
    show xs[(((xs.size : Nat) : Int) - 1 + (k : Int) * -1).toNat]? = xs[xs.size - 1 - k]?
    by_cases hk : k < xs.size
    · have q : (((xs.size : Nat) : Int) - 1 + (k : Int) * -1).toNat = xs.size - 1 - k := by omega
      rw [q]
    · have q : (((xs.size : Nat) : Int) - 1 + (k : Int) * -1).toNat = xs.size - 1 - k := by omega
      rw [q]
  rw [e, PySem.W.krv_range, List.filterMap_reverse, PySem.W.krv_all]
section
variable {prog : Program} {w : World} {A : Around} {E : Value → Shared → Prop} {s : Shared}
theorem getItem_tuple_rev {t sl : Addr} {items : Array Value} {k : Tok} {Q : Value → Shared → Prop} (ht : IsTup s.heap t items) (hs : s.heap.IsSliceOf sl .none .none (.int (-1) k))
    (h : Q (.ref s.heap.objs.size) { s with heap := s.heap.push { cls := .type "tuple", data := .seq items.toList.reverse.toArray } }) (hsz : items.size ≤ sizeLine) : wpAny (model prog w) A (getItem (.ref t) (.ref sl)) Q E s := by
  have hok : sizeOk (.seq items.toList.reverse.toArray) := by
    show items.toList.reverse.toArray.size ≤ sizeLine
    rw [List.size_toArray, List.length_reverse, Array.length_toList]
    exact hsz
  obtain ⟨os, hos, hcs, hds⟩ := id hs
  have hTs : s.TypeIs (.ref sl) "slice" := ⟨os, hos, hcs⟩
  unfold getItem
  try with_reducible refine wpAny_holding ?_
  first
    | refine wpAny_bind (wpAny_pure ?_)
    | skip
  refine wpAny_bind (wpAny_sequenceKey ht.typeIs (by decide) ?_)
  refine wpAny_bind (wpAny_callSpecial?_slot (name := Str.ofString "__getitem__") ht.typeIs PyProof.Rows.slot_tuple_getitem (wpAny_call_entry PyProof.Rows.slot_tuple_getitem ht.typeIs entry_tuple_getitem ?_ (args_tuple_getitem _ _)))
  show wpAny _ _ (Builtin.Tuple.tupleItemsOf (.ref t) >>= _) _ _ s
  refine wpAny_bind (tupleItemsOf_ ht ?_)
  refine wpAny_bind (wpAny_typeOf hTs ?_)
  rw [if_pos (by decide)]
  refine wpAny_bind (m := Builtin.Slice.sliceApplied (.ref sl) (pure (items.size : Int))) ?_
  unfold Builtin.Slice.sliceApplied Builtin.Slice.sliceFields
  refine wpAny_bind (wpAny_bind (wpAny_field hos hds (x := .none) rfl (wpAny_bind (wpAny_field hos hds (x := .none) rfl (wpAny_bind (wpAny_field hos hds (x := .int (-1) k) rfl (wpAny_pure ?_)))))))
  refine wpAny_bind (slicePart_int ?_)
  show wpAny _ _ (if ((-1 : Int) == 0) = true then _ else _) _ _ s
  rw [if_neg (by decide)]
  refine wpAny_bind (slicePart_none (wpAny_bind (slicePart_none (wpAny_bind (wpAny_pure ?_)))))
  show wpAny _ _ (match Builtin.Slice.sliceAdjust none none (-1) (items.size : Int) with | (lo, hi) => pure (lo, (-1 : Int), Builtin.Slice.slicePlaces lo hi (-1))) _ _ s
  rw [rev_adjust]
  show wpAny _ _ (pure (((items.size : Nat) : Int) - 1, (-1 : Int), Builtin.Slice.slicePlaces (((items.size : Nat) : Int) - 1) (-1) (-1))) _ _ s
  rw [rev_places]
  refine wpAny_pure ?_
  have hno : ¬ (((((items.size : Nat) : Int) - 1) == 0 && (-1 : Int) == 1 && items.size == items.size) = true) := by
    rw [show ((-1 : Int) == 1) = false by decide, Bool.and_false, Bool.false_and]
    exact Bool.false_ne_true
  show wpAny _ _ (if (((((items.size : Nat) : Int) - 1) == 0 && (-1 : Int) == 1 && items.size == items.size) = true) then _ else _) _ _ s
  rw [if_neg hno, rev_pick]
  first
    | exact wpAny_bind (m := Builtin.Tuple.tupleExact _) (wpAny_newObj_type (wpAny_pure ⟨_, rfl, wpAny_pure h⟩) hok)
    | exact wpAny_bind (m := Builtin.Tuple.tupleExact _) (wpAny_newObj_type (wpAny_bind (wpAny_pure (wpAny_pure ⟨_, rfl, wpAny_pure h⟩))) hok)
    | exact wpAny_bind (wpAny_bind (m := Builtin.Tuple.tupleExact _) (wpAny_newObj_type (wpAny_pure (wpAny_pure ⟨_, rfl, wpAny_pure h⟩)) hok))
    | exact wpAny_bind (wpAny_bind (m := Builtin.Tuple.tupleExact _) (wpAny_newObj_type (wpAny_pure ⟨_, rfl, wpAny_pure h⟩) hok))
end
def tRevT (K : PySem.W.Frag) (te : TE) : TE := fun σ H Q => te σ H fun x H1 => ∃ a xs, x = .ref a ∧ SqT K H1 a xs ∧ ∀ p, H1 p = none → Q (.ref p) (upd H1 p (.tup xs.reverse))
theorem pe_revT {X : Cx} {e : Expr} {te : TE} {k : Nat} {p1 p2 p3 pos : Pos} (he : PE X e te) : PE X (.Subscript e (.Slice none none (some (.UnaryOp .USub (.Constant (.int 1) k p1) p2)) p3) pos) (tRevT X.K te) := by
  refine ⟨fun pins s σ H Q I h => ?_⟩
  refine Subscript_ (thn (he.run pins s σ H _ I h) fun v s1 ⟨x, H1, I1, r1, q1⟩ => ?_)
  obtain ⟨a, xs, ex, hx, q⟩ := q1
  subst ex
  cases r1
  have hst : PO X (some (.UnaryOp .USub (.Constant (.int 1) k p1) p2)) (tPart (tUn (rU fun i => .int (-i)) (tC (.int 1)))) := po_some (pe_un un_neg pe_int)
  refine wpAny_Slice (thn (po_none.run pins s1 σ H1 (fun o H2 => o = none ∧ H2 = H1) I1 ⟨rfl, rfl⟩) fun vl s2 ⟨l, H2, I2, pl, el, e2⟩ => ?_)
  subst el e2
  refine thn (po_none.run pins s2 σ H2 (fun o H3 => o = none ∧ H3 = H2) I2 ⟨rfl, rfl⟩) fun vu s3 ⟨u, H3, I3, pu, eu, e3⟩ => ?_
  subst eu e3
  refine thn (hst.run pins s3 σ H3 (fun o H4 => o = some (-1) ∧ H4 = H3) I3 ⟨1, rfl, -1, rfl, rfl, rfl⟩) fun vs s4 ⟨o, H4, I4, ps, eo, e4⟩ => ?_
  subst eo e4
  have evl : vl = .none := by
    cases pl
    rfl
  have evu : vu = .none := by
    cases pu
    rfl
  obtain ⟨tk, evs⟩ : ∃ t, vs = .int (-1) t := by
    cases ps with
    | int i t => exact ⟨t, rfl⟩
  subst evl evu evs
  have I5 : Inv X pins σ H4 { s4 with heap := s4.heap.push { cls := .type "slice", data := .fields #[.none, .none, .int (-1) tk] } } := I4.kept (t' := s4.toks) fun b ob z => Heap.get?_push_of_some _ z
  obtain ⟨its, r, ht, hz⟩ := I5.tuple hx
  have hlen := r.length
  show wpAny (model X.prog X.w) X.A (subscriptTail e (.Slice none none (some (.UnaryOp .USub (.Constant (.int 1) k p1) p2)) p3) (.ref a) (.ref s4.heap.objs.size)) (EP X pins σ Q) X.xe { s4 with heap := s4.heap.push { cls := .type "slice", data := .fields #[.none, .none, .int (-1) tk] } }
  refine tail_any (ops := [.ref a, .ref s4.heap.objs.size]) ht.typeIs (PyProof.Rows.slot_tuple_getitem.lookup) ?_ (by with_unfolding_all rfl)
  refine getItem_tuple_rev ht (Heap.IsSliceOf.new _ _ _ _) ?_ (by rw [List.size_toArray]; omega)
  exact ⟨.ref _, _, I5.laid (t' := s4.toks) (o := .tup xs.reverse) (fun b ob z => Heap.get?_push_of_some _ z) (Nat.le_refl _) ⟨by rw [List.length_reverse]; exact hz, _, r.reverse, IsTup.new _ _⟩, rfl, q _ (I5.hok.fresh (Nat.le_refl _))⟩
end Sf
/-! set(a list of ints), kept with its order told (the library has it for a tuple). -/
namespace Sf
open PySem PySem.Spec PyProof.Rows L2
abbrev freshSet (w : World) : Obj := { cls := .type "set", dict := none, data := .set #[] 0 (.fresh 0 0 (!w.params.followText "set-order")) }
section
variable {P : Program} {w : World} {A : Around} {E : Value → Shared → Prop} {s : Shared}
set_option maxHeartbeats 6400000 in
theorem call_set_listI {l : Addr} {items : Array Value} (ns : List Int) {Q : Value → Shared → Prop} (hh : A.handled = none) (hl : s.heap.IsList l items) (hit : IntsAre items.toList ns) (hb : ns.length + 1 < scanBound)
    (h : ∀ (h' : Heap) (tk c : Nat), SetR w h' s.heap.objs.size (fun j => decide (j ∈ ns)) c → c ≤ ns.length → (∀ b o, s.heap.get? b = some o → h'.get? b = some o) → Q (.ref s.heap.objs.size) { s with heap := h', toks := tk }) :
    wpAny (model P w) A (call (.type "set") [.ref l]) Q E s := by
  have szE : items.size = ns.length := by
    have q := IntsAre.length hit
    rw [Array.length_toList] at q
    exact q
  obtain ⟨c, tl, mr⟩ := F.called_set.mro
  have md := F.called_set.made
  have sb0 := F.called_set.sub
  refine wpAny_call (codeAny_of_tree ?_)
  show wpAny _ _ (callAny (.type "set") _) _ _ _
  refine wpAny_pure ⟨Code.quiet_builtin _ (by decide +kernel), codeAny_builtin F.entry_type_call ?_⟩
  rw [Around.under_plain (weight_type_call_type "set" [.ref l] []) rfl]
  have h1 := F.called_set.notType
  have h2 := F.called_set.canCreate
  have hct := F.typeCall_set_1 (.ref l)
  repeat (any_goals (first | assumption | wp_step))

  refine codeAny_mono (code_set_led1 (.ref l) (E := E) (Q₁ := fun obj s₁ => obj = .ref s.heap.objs.size ∧ s₁ = { s with heap := s.heap.push (freshSet w) }) ⟨rfl, rfl⟩) fun r s₁ hr => ?_
  cases r with
  | error e => exact hr
  | ok fl =>
    cases fl with
    | ret obj =>
      obtain ⟨rfl, rfl⟩ := hr
      have hS : (s.heap.push (freshSet w)).get? s.heap.objs.size = some (freshSet w) := Heap.get?_push_size _ rfl
      have hT : Shared.TypeIs { s with heap := s.heap.push (freshSet w) } (.ref s.heap.objs.size) "set" := ⟨_, hS, rfl⟩
      have hli := F.called_set.init.lookup
      have hbi := F.called_set.init.bind (.ref s.heap.objs.size)
      repeat (any_goals (first | assumption | wp_step))

      refine codeAny_mono (codeAny_call_builtin (R := wants (fun r s₂ => r = .none ∧ ∃ h' tk c, s₂ = { s with heap := h', toks := tk } ∧ SetR w h' s.heap.objs.size (fun j => decide (j ∈ ns)) c ∧ c ≤ ns.length ∧
          (∀ b o, s.heap.get? b = some o → h'.get? b = some o)) E) F.called_set.init.plain F.entry_set_init (check_set_init_1 hT ?_)) fun r₂ s₂ hr₂ => ?_
      · obtain ⟨ol, hol, hcl, nl, hdl⟩ := hl
        obtain ⟨ocls, odict, odata, oslots⟩ := ol
        simp only at hcl hdl
        subst hcl; subst hdl
        have lob : (s.heap.push (freshSet w)).get? l = some { cls := .type "list", dict := odict, data := .seq items nl, slots := oslots } := Heap.get?_push_of_some _ hol
        have hsls := F.sub_list_set
        have hslf := F.sub_list_frozenset
        have hne : (Value.type "list" == Value.type "dict") = false := by decide
        have hl1 : (s.heap.push (freshSet w)).IsList l items := ⟨_, lob, rfl, nl, rfl⟩
        unfold Builtin.«set.__init__» noKeywords Builtin.Frozenset.updateFrom
        generalize hPI : pyIter = PI
        wp_walk
        subst hPI

        refine wpAny_pyIter_list hl1 ?_
        refine wpAny_bind (wpAny_runValue ?_)
        have hlS : l < s.heap.objs.size := Heap.lt_size hol
        have calm3 : A.in1.in1.in1.handled = none := by simp [hh]
        have hz1 : (s.heap.push (freshSet w)).objs.size = s.heap.objs.size + 1 := Heap.size_push ..
        have apI : l ≠ (s.heap.push (freshSet w)).objs.size := by
          rw [Heap.size_push]; exact Nat.ne_of_lt (Nat.lt_succ_of_lt hlS)
        have apS : s.heap.objs.size ∉ [(s.heap.push (freshSet w)).objs.size, l] := by
          rw [Heap.size_push]; simp only [List.mem_cons, List.mem_singleton, List.not_mem_nil, or_false, not_or]
          exact ⟨Nat.ne_of_lt (Nat.lt_succ_self _), Nat.ne_of_gt hlS⟩
        have each : ∀ (i : Nat) (v : Value), items[i]? = some v → ∃ k t, ns[i]? = some k ∧ v = .int k t := fun i v hv => by
          have hi : i < ns.length := by rw [← szE]; exact (Array.getElem?_eq_some_iff.mp hv).1
          obtain ⟨t, e⟩ := PyProof.Rows.IntsAre.int_at hit i v (by rw [Array.getElem?_toList]; exact hv)
          refine ⟨ns[i], t, List.getElem?_eq_getElem hi, ?_⟩
          rw [e, List.getD_eq_getElem?_getD, List.getElem?_eq_getElem hi] <;> rfl
        refine set_update_ints ((Walks.list calm3 _ l apI items).toS) s.heap.objs.size
          apS ns szE hb each (items.size - 0) 0 _ (by omega) (Nat.zero_le _)
          ⟨⟨_, Heap.get?_push_size _ rfl, rfl, rfl⟩, (hl1.push _)⟩ ?hS0 ?hR
        case hS0 =>
          have atS : ((s.heap.push (freshSet w)).push { cls := .type "list_iterator", data := .fields #[.ref l, .int 0 0] }).get? s.heap.objs.size
              = some (freshSet w) := Heap.get?_push_of_some _ hS
          exact ⟨0, Nat.le_refl 0, setR_new_at atS⟩
        case hR =>
          intro s' c' hm hc' hS'
          obtain ⟨h', g2, d', tk', os'⟩ := s'
          have eg : g2 = s.gens := hm.gens
          have ed : d' = s.drawn := hm.drawn
          have eo : os' = s.os := hm.os
          subst eg; subst ed; subst eo
          show wpAny _ _ _ _ _ _
          refine wpAny_pure ?_
          show wpAny _ _ (ret Value.none) _ _ _
          rw [szE] at hc'
          refine wpAny_pure ⟨rfl, h', tk', c', rfl, hS', hc', fun b o e => ?_⟩
          have hb0 : b < s.heap.objs.size := Heap.lt_size e
          have hb1 : b ≠ s.heap.objs.size := Nat.ne_of_lt hb0
          have hb2 : b ≠ (s.heap.push (freshSet w)).objs.size := by
            rw [Heap.size_push]; exact Nat.ne_of_lt (Nat.lt_succ_of_lt hb0)
          exact hm.heap b o (by simp only [List.mem_cons, List.mem_singleton, List.not_mem_nil, or_false, not_or]; exact ⟨hb1, hb2⟩) (Heap.get?_push_of_some _ (Heap.get?_push_of_some _ e))

      · cases r₂ with
        | error e => exact hr₂
        | ok fl₂ =>
          cases fl₂ with
          | ret r =>
            obtain ⟨rfl, h', tk, c', rfl, hS', hc', hk'⟩ := hr₂
            repeat (any_goals (first | assumption | wp_step))
            exact h _ _ _ hS' hc' hk'
          | _ => exact hr₂.elim
    | _ => exact hr.elim

end

end Sf
/-! set(list of ints) as a rule; len of an own instance; repr of truth values and of data. -/
namespace Sf
open PySem PySem.Spec PyProof.Rows L2
/-! ### distinct small numbers are few -/
theorem nodup_len : ∀ (N : Nat) (l : List Nat), l.Nodup → (∀ x ∈ l, x < N) → l.length ≤ N
  | 0, l, _, h => by
    cases l with
    | nil => exact Nat.le_refl _
    | cons a r => exact absurd (h a List.mem_cons_self) (Nat.not_lt_zero _)
  | N + 1, l, nd, h => by
    have h2 := nodup_len N (l.erase N) (nd.erase N) fun x hx => by
      have hm := List.mem_of_mem_erase hx
      have hn : x ≠ N := fun e => by
        rw [e] at hx
        exact (List.Nodup.not_mem_erase nd) hx
      have := h x hm
      omega
    by_cases hm : N ∈ l
    · rw [List.length_erase_of_mem hm] at h2
      omega
    · rw [List.erase_of_not_mem hm] at h2
      omega
section
variable {X : Cx}
def rSetI (K : PySem.W.Frag) (w : World) : List V → Hp → VK → Prop := fun vs H Q => ∃ (a : Addr) (ns : List Int), vs = [V.ref a] ∧ SqL K H a (ns.map V.int) ∧ ns.length ≤ 4000 ∧
  ∀ (p : Addr) (c : Nat), H p = none → (∀ N : Nat, (∀ k ∈ ns, 0 ≤ k ∧ k < (N : Int)) → c ≤ N) → Q (.ref p) (upd H p (SetO w p (fun j => decide (j ∈ ns)) c))
theorem setR_few {w : World} {h : Heap} {a : Addr} {ns : List Int} {c N : Nat} (R : SetR w h a (fun j => decide (j ∈ ns)) c) (hN : ∀ k ∈ ns, 0 ≤ k ∧ k < (N : Int)) : c ≤ N := by
  obtain ⟨o, es, ep, t, ho, hex, hd, g, nd, hm, hb, hf, hn, hr, hl⟩ := R
  have hk : ∀ k ∈ es.toList.map keyOf, 0 ≤ k ∧ k < (N : Int) := fun k q => hN k (of_decide_eq_true ((hm k).2 q))
  have q := nodup_len N ((es.toList.map keyOf).map Int.toNat) ?_ ?_
  · rw [List.length_map, List.length_map, Array.length_toList] at q
    omega
  · refine List.pairwise_map.mpr (List.Pairwise.imp_of_mem (fun {x y} hx hy hne e => ?_) nd)
    have h1 := hk x hx
    have h2 := hk y hy
    exact hne (by omega)
  · intro x hx
    obtain ⟨k, hk1, rfl⟩ := List.mem_map.mp hx
    have := hk k hk1
    omega
theorem cr_setI (hc : X.calm = true) : CallR X (.type "set") (rSetI X.K X.w) := by
  intro pins s σ H vs us Q I r h
  obtain ⟨a, ns, rfl, hs, hl, q⟩ := h
  obtain ⟨its, rv, pl, hz⟩ := I.list hs
  rw [Vals.ref1 r]
  refine call_set_listI (P := X.prog) (w := X.w) ns (I.ok.hd hc) pl.isList (by simpa using rv.ints) (by unfold scanBound; omega) fun h' tk c R hcn k => ?_
  have hn : H s.heap.objs.size = none := I.hok.fresh (Nat.le_refl _)
  exact ⟨.ref _, _, I.laid (t' := tk) k (Nat.le_refl _) (setO_new R), rfl, q _ c hn fun N hN => setR_few R hN⟩
/-! ### len(o), o an own instance with __len__ -/
def tLenO (C : Addr) (sp : Sp) (E : XK) (t : TA) : TE := fun σ H Q => t σ H fun vs H1 => ∃ a dx fs, vs = [.ref a] ∧ H1 a = some (.ins C dx fs) ∧ sp [.ref a] H1 (fun v H2 => ∃ n : Nat, v = .int (n : Int) ∧ (n : Int) < 2 ^ 63 ∧ Q (.int (n : Int)) H2) E
theorem cr_lenO {CX : CXT} {C f : Addr} {k : Nat} {fd : FuncData} {ps : List Str} {sp : Sp} {E : XK} (F : FnOk X.prog X.w X.K X.mg X.base CX k f fd ps sp) (hr : Room (k + 1) X.A)
    (hm : Meth X.K C "__len__" f) (hb : Binds X.K fd ps []) (hx : Passes CX X E) :
    CallR X (.builtin "len") (fun vs H1 Q => ∃ a dx fs, vs = [.ref a] ∧ H1 a = some (.ins C dx fs) ∧ sp [.ref a] H1 (fun v H2 => ∃ n : Nat, v = .int (n : Int) ∧ (n : Int) < 2 ^ 63 ∧ Q (.int (n : Int)) H2) E) := by
  intro pins s σ H vs us Q I r h
  obtain ⟨a, dx, fs, rfl, ha, hsp⟩ := h
  rw [Vals.ref1 r]
  obtain ⟨mA, J, _⟩ := ins_get I.hok ha
  obtain ⟨od, J, _⟩ := J.look
  obtain ⟨m, hF⟩ := I.fr
  refine PySem.W.len_K hF I.ok.mod.kin J hm.at_ hm.fn ?_
  have e0 : Env0 X.prog X.w X.K X.mg X.base X.A.in1 X.stack s H := by
    have e := I.env0
    exact ⟨e.frames, e.mod, e.bs, e.bsz, e.funs, e.frf, e.hok, e.bare⟩
  have hl := F.len _ _ _ _ hsp
  have r2 : Vals [V.ref a] [Value.ref a] := .cons rfl .nil
  refine wpAny_call (codeAny_mono (F.run X.A.in1 X.stack s H ⟨[.ref a], []⟩ [.ref a] [.ref a] _ E hr.in1 e0 (by simpa using hb s [.ref a] I.kIn (by simpa using hl)) r2 hsp) fun r s' hq => ?_)
  cases r with
  | error e => exact hx pins σ H s e s' I hq
  | ok fl =>
    cases fl with
    | ret u =>
      obtain ⟨v, H', I', rv, n, ev, hn, q⟩ := I.after hq
      subst ev
      obtain ⟨t, rfl⟩ := rv
      exact ⟨⟨by omega, hn⟩, ⟨.int (n : Int), H', I'.tok _, ⟨_, rfl⟩, q⟩⟩
    | next => exact False.elim hq
    | brk => exact False.elim hq
    | cont => exact False.elim hq
/-! ### repr -/
theorem cr_reprB : CallR X (.builtin "repr") (fun vs H Q => ∃ b : Bool, vs = [.bl b] ∧ Q (.str (if b then "True" else "False")) H) := by
  intro pins s σ H vs us Q I r h
  obtain ⟨b, rfl, q⟩ := h
  obtain ⟨u, rfl, rx⟩ := vals1 r
  cases (show u = Value.bool b from rx)
  exact PySem.P.repr_of_bool ⟨.str _, H, I.tok _, ⟨_, rfl⟩, q⟩
def rRepr (K : PySem.W.Frag) : List V → Hp → VK → Prop := fun vs H Q => ∃ (p : Addr) (d : PyData), vs = [.ref p] ∧ Dp K H (.ref p) d ∧ d.showable = true ∧ d.hasDict = false ∧ d.depth ≤ 50 ∧ d.shown.length ≤ sizeLine ∧ Q (.str d.shown) H
theorem cr_reprD (hg : X.A.guards = some []) (hu : X.A.units + 64 < cLine) : CallR X (.builtin "repr") (rRepr X.K) := by
  intro pins s σ H vs us Q I r h
  obtain ⟨p, d, rfl, hd, hs, hn, hdp, hsz, q⟩ := h
  rw [Vals.ref1 r]
  obtain ⟨as, rd⟩ := Dp.reads I d (.ref p) (.ref p) hd rfl
  exact repr_of_reads' rd hs (PyData.noDict_hsm hn) hg (by omega) (fun _ _ e => e) (fun h' u tk hk => ⟨.str d.shown, H, I.kept (t' := tk) hk, ⟨u, rfl⟩, q⟩) hsz
end
end Sf
/-! sorted(a tuple of ints) -/
namespace Sf
open PySem PySem.Spec PyProof.Rows L2
section
variable {prog : Program} {w : World} {A : Around} {E : Value → Shared → Prop} {s : Shared}
theorem collect_tupleI {l : Addr} {vs : List Value} {Q : List Value → Shared → Prop} (hl : IsTup s.heap l vs.toArray) (hsz : vs.length ≤ sizeLine)
    (h : Q vs { s with heap := (s.heap.push (seqObj "list" #[] 0)).update s.heap.objs.size (Obj.mapSeq (· ++ vs.toArray)) }) : wpAny (model prog w) A (collect (.ref l)) Q E s := by
  obtain ⟨o, ho, hc, n, hd⟩ := id hl
  unfold collect
  refine wpAny_bind (wpAny_runValue (codeAny_builtin entry_proto_collect' ?_))
  show wpAny _ _ (do again (.builtin "list.__iadd__" ⟨[← newList [], .ref l], []⟩)) _ _ s
  refine wpAny_bind (wpAny_newList (wpAny_pure ⟨Code.quiet_builtin _ (by decide +kernel), codeAny_builtin entry_list_iadd' ?_⟩))
  show wpAny _ _ (Builtin.List.listExtendWith (.ref s.heap.objs.size) (.ref l) (.ref s.heap.objs.size)) _ _ { s with heap := s.heap.push (seqObj "list" #[] 0) }
  unfold Builtin.List.listExtendWith
  have lt : (s.heap.push (seqObj "list" #[] 0)).get? l = some o := Heap.get?_push_of_some _ ho
  have ln : (s.heap.push (seqObj "list" #[] 0)).get? s.heap.objs.size = some (seqObj "list" #[] 0) := Heap.get?_push_size _ rfl
  refine wpAny_bind (wpAny_typeOf (T := "tuple") ⟨o, lt, hc⟩ ?_)
  rw [if_pos (by rw [show (Value.type "tuple" == Value.type "tuple") = true from rfl, Bool.or_true])]
  refine wpAny_bind (listItems_at lt hd ?_)
  refine wpAny_bind (listItems_at (xs := #[]) (n := 0) ln rfl ?_)
  rw [if_neg (by simp)]
  refine wpAny_bind (listUpdate_at (xs := #[]) (n := 0) ln rfl ?_ (Nat.zero_le _) (by show (#[] ++ vs.toArray).size ≤ sizeLine + 1; simp only [Array.size_append, List.size_toArray, List.length_nil]; omega))
  refine wpAny_pure ?_
  show wpAny (model prog w) A (do
      let ob ← load s.heap.objs.size
      match ob.data with
      | .seq xs _ => pure xs.toList
      | _ => unsupported "internal:collect") Q E { s with heap := (s.heap.push (seqObj "list" #[] 0)).update s.heap.objs.size (Obj.mapSeq (· ++ vs.toArray)) }
  refine wpAny_bind (wpAny_load (get?_update_seq ln _) ?_)
  show wpAny _ _ (pure ((#[] : Array Value) ++ vs.toArray).toList) Q E _
  have e : ((#[] : Array Value) ++ vs.toArray).toList = vs := by simp
  rw [e]
  exact wpAny_pure h
theorem sorted_intsT {l : Addr} {vs : List Value} {ns : List Int} {Q : Value → Shared → Prop} (hl : IsTup s.heap l vs.toArray) (hI : IntsAre vs ns) (h64 : vs.length < 64)
    (h : ∀ (out : Array Value) (ns' : List Int), IntsAre out.toList ns' → ns'.Perm ns → ns'.Pairwise (· ≤ ·) → Q (.ref (s.heap.objs.size + 1)) { s with heap := sortedAll s.heap vs out }) :
    wpAny (model prog w) A (call (.builtin "sorted") [.ref l]) Q E s := by
  have hz : vs.length ≤ sizeLine := small64 h64
  refine Calls.call_function_entry kind_sorted plain_sorted entry_sorted (args_sorted1 _) ?_
  unfold Builtin.«sorted»
  refine wpAny_bind (m := checkCount "sorted" 1 1 _) (wpAny_pure ?_)
  refine wpAny_bind (collect_tupleI hl hz ?_)
  refine wpAny_bind (wpAny_newList ?_ hz)
  have sz : ((s.heap.push (seqObj "list" #[] 0)).update s.heap.objs.size (Obj.mapSeq (· ++ vs.toArray))).objs.size = s.heap.objs.size + 1 := by
    rw [Heap.size_update, size_push']
  have at_ : (((s.heap.push (seqObj "list" #[] 0)).update s.heap.objs.size (Obj.mapSeq (· ++ vs.toArray))).push (seqObj "list" vs.toArray 0)).get? (s.heap.objs.size + 1) = some (seqObj "list" vs.toArray 0) := by
    rw [← sz]
    exact Heap.get?_push_size _ rfl
  show wpAny _ _ _ _ _ { s with heap := ((s.heap.push (seqObj "list" #[] 0)).update s.heap.objs.size (Obj.mapSeq (· ++ vs.toArray))).push (seqObj "list" vs.toArray 0) }
  rw [sz]
  refine wpAny_bind (wpAny_holding (wpAny_call_entry slot_list_sort ⟨_, at_, rfl⟩ entry_list_sort (list_sort_tree at_ hI h64 fun out ns' a1 a2 a3 => ⟨_, rfl, ?_⟩) (args_list_sort _)))
  exact wpAny_pure ⟨_, rfl, h out ns' a1 a2 a3⟩
end
section
variable {X : Cx}
def rSortedT (K : PySem.W.Frag) : List V → Hp → VK → Prop := fun vs H Q => ∃ (a : Addr) (ns : List Int), vs = [V.ref a] ∧ SqT K H a (ns.map V.int) ∧ ns.length < 64 ∧
  ∀ (ns' : List Int) (p : Addr), ns'.Perm ns → ns'.Pairwise (· ≤ ·) → H p = none → Q (.ref p) (upd H p (.lst (ns'.map V.int)))
theorem cr_sortedTup : CallR X (.builtin "sorted") (rSortedT X.K) := by
  intro pins s σ H vs us Q I r h
  obtain ⟨a, ns, rfl, hs, h64, q⟩ := h
  obtain ⟨its, rv, hl, _⟩ := I.tuple hs
  rw [Vals.ref1 r]
  have hi := rv.ints
  refine sorted_intsT hl hi (by rw [hi.length]; exact h64) fun out ns' h1 h2 h3 => ?_
  obtain ⟨ep, he'⟩ := PyProof.Rows.sortedAll_at s.heap its out
  have hlen : (ns'.map V.int).length ≤ sizeLine := by
    rw [List.length_map, h2.length_eq]
    exact small64 h64
  exact ⟨.ref _, upd H (s.heap.objs.size + 1) (.lst (ns'.map V.int)), I.laid (t' := s.toks) (fun _ _ => PyProof.Rows.sortedAll_old) (Nat.le_succ _) ⟨hlen, out.toList, ep, vals_of_ints h1, he'⟩, rfl, q ns' _ h2 h3 (I.hok.fresh (Nat.le_succ _))⟩
end
end Sf
/-! name = {.. for ..}; tuple += tuple; tuple * any small int; keyword arguments without defaults. -/
namespace Sf
open PySem PySem.Spec PyProof.Rows L2
section
variable {X : Cx}
theorem swd_true {kx vx : Expr} {gs : List Comprehension} {scope : Scope} {pos py : Pos} {y : Str} {l : Nat} {env : Env} (hk : env.scope.kind = .function) (hy : env.scope.names.lookup y = some .local) (hl : (py.line == pos.line) = true)
    (ha : (scope.names.any fun (n, k) => n == y && (k == .local || k == .cell)) = false) : swapsWith (.DictComp kx vx gs scope pos) (some (.Name y py)) l env = pure true := by
  have ky : env.kindOf y = some .local := hy
  have hb : env.blockKind = .function := by
    unfold Env.blockKind
    rw [hk]
    rfl
  unfold swapsWith
  simp only [hb, ky, ha, Expr.pos, hl]
  rfl
theorem ps_setDc {i : Nat} {y : Str} {py : Pos} {kx vx tg iter : Expr} {ifs : List Expr} {scope : Scope} {own : List (Str × Nat)} {pos spos : Pos} {wi : TI} {g : TG} {tt : TT} {tk tv : TE} (hc : X.calm = true) (hN : X.N.Nodup) (hy : X.N[i]? = some y) (hyl : X.env.scope.names.lookup y = some .local)
    (hsw : swapsWith (.DictComp kx vx [⟨tg, iter, ifs, 0⟩] scope pos) (some (.Name y py)) spos.line X.env = pure true) (hi : PI X tg iter wi) (ok : BlkOk X.N X.env.scope scope own)
    (hg : ∀ (s : Shared) (H : Hp) (C : Addr) (cl : List (Str × Addr)) (fp : List Addr), PG (X.blk s H scope (compEnvC scope cl C X.env) fp) tg g) (ht : ∀ (s : Shared) (H : Hp) (C : Addr) (cl : List (Str × Addr)) (fp : List Addr), PTs (X.blk s H scope (compEnvC scope cl C X.env) fp) ifs tt)
    (hk : ∀ (s : Shared) (H : Hp) (C : Addr) (cl : List (Str × Addr)) (fp : List Addr), PE (X.blk s H scope (compEnvC scope cl C X.env) fp) kx tk)
    (he : ∀ (s : Shared) (H : Hp) (C : Addr) (cl : List (Str × Addr)) (fp : List Addr), PE (X.blk s H scope (compEnvC scope cl C X.env) fp) vx tv) (hs : ∀ x, foldedSetIterable iter X.env x = pure x := by intro _; rfl) :
    PS X (.Assign [.Name y py] (.DictComp kx vx [⟨tg, iter, ifs, 0⟩] scope pos) spos) (tAsg (tDc wi g tt tk tv (own.map (·.2))) (gName i)) := by
  refine ⟨fun pins s σ H D I h => ?_⟩
  rw [exec_Assign_Name_used _ _ _ _ hsw]
  refine wpAny_bind (wpAny_standAt (wpAny_bind ?_))
  show wpAny _ X.A (do let _ ← comprehension (.DictComp kx vx [⟨tg, iter, ifs, 0⟩] scope pos) scope X.env (firstIterPos [⟨tg, iter, ifs, 0⟩] pos) newDict false (eval iter X.env) (some (assign (.Name y py) X.env))) _ _ s
  have h : tDc wi g tt tk tv (own.map (·.2)) σ H (fun x H1 => gName i x σ H1 D.nx) := h
  refine wpAny_bind (thn (dc_core (Qf := fun _ s' => SP X pins D .next s') hc hN I hi ok hg ht hk he hs h fun L C s' m H' I' q hn f => ?_) fun _ s' hq => wpAny_pure (wpAny_pure hq))
  show wpAny _ _ (assign (.Name y py) X.env (.ref L)) _ _ _
  refine wpAny_assign_Name (store_ok2 (v := V.ref L) I' hN hy (.inl hyl) rfl (fun s2 I2 ⟨a, sb, ha⟩ => ?_) (.inr hyl))
  obtain ⟨f0, f1, f2, f3, f4, f5⟩ := f
  have away : C ≠ a := by
    rcases ha with z | z
    · rw [z]
      exact f1
    · exact fun e => f4 y a z e.symm
  exact ⟨m, hn.sameBut sb away, fun h3 sb3 => ⟨_, H', I2.turned (t' := s2.toks) (fun b o hb e => (sb3.2 b hb).trans e) f0 f1 f3 f4 f5, q⟩⟩
/-! ### tuple += tuple -/
theorem no_tuple_iadd : typeLookup (.type "tuple") (dunderI "add") = pure none := by
  rw [typeLookup_type, builtinLookup_eq_fast]
  kernel_rfl
theorem iop_catA : OpR X (inplaceOp .Add) (rCatA X.K) := by
  intro pins s σ H x y v u Q I rx ry h
  obtain ⟨a, b, xs, ys, rfl, rfl, ha, hb, hz, q0, q1, q2⟩ := h
  cases rx
  cases ry
  obtain ⟨its, r1, p1, _⟩ := I.tuple ha
  obtain ⟨its2, r2, p2, _⟩ := I.tuple hb
  obtain ⟨⟨cls, dd, data, sl⟩, ho, hc, n, hd⟩ := id p1
  obtain ⟨⟨cls2, dd2, data2, sl2⟩, ho2, hc2, n2, hd2⟩ := id p2
  simp only at hc hd hc2 hd2
  subst hc hd hc2 hd2
  have w := fun {Q' : Value → Shared → Prop} (z : wpAny (model X.prog X.w) X.A (call (.builtin "tuple.__add__") [.ref a, .ref b]) Q' X.xe s) =>
    PySem.wpAny_inplaceOp_concat (s := s) (a := .ref a) (b := .ref b) (T := "tuple") (Q := Q') ⟨_, ho, rfl⟩ ⟨_, ho2, rfl⟩ no_tuple_iadd noFill_tuple_add seq_tuple_add z
  by_cases hx : xs = []
  · have e1 : its = [] := r1.nil_iff.mpr hx
    exact w (call_meets PySem.F.slot_tuple_add ⟨_, ho, rfl⟩ PySem.F.entry_tuple_add (PySem.F.args_tuple_add_2 _ _) (tuple_addW0 a b its.toArray its2.toArray n n2 dd dd2 sl sl2 (by simp [e1])) ⟨ho, ho2, ⟨.ref b, H, I, rfl, q0 hx⟩⟩)
  · have n1 : its ≠ [] := fun z => hx (r1.nil_iff.mp z)
    by_cases hy : ys = []
    · have e2 : its2 = [] := r2.nil_iff.mpr hy
      exact w (call_meets PySem.F.slot_tuple_add ⟨_, ho, rfl⟩ PySem.F.entry_tuple_add (PySem.F.args_tuple_add_2 _ _) (tuple_addW1 a b its.toArray its2.toArray n n2 dd dd2 sl sl2 (by simpa using n1) (by simp [e2])) ⟨ho, ho2, ⟨.ref a, H, I, rfl, q1 hx hy⟩⟩)
    · have n2' : its2 ≠ [] := fun z => hy (r2.nil_iff.mp z)
      refine w (call_meets PySem.F.slot_tuple_add ⟨_, ho, rfl⟩ PySem.F.entry_tuple_add (PySem.F.args_tuple_add_2 _ _) (tuple_addW2 a b its.toArray its2.toArray n n2 dd dd2 sl sl2 (by simpa using n1) (by simpa using n2') (by rw [List.size_toArray, List.size_toArray, ← r1.length, ← r2.length]; exact hz)) ⟨ho, ho2, ?_⟩)
      have e : its.toArray ++ its2.toArray = (its ++ its2).toArray := by simp
      rw [e]
      exact ⟨.ref s.heap.objs.size, _, I.laid (t' := s.toks) (o := .tup (xs ++ ys)) (fun b ob q => Heap.get?_push_of_some _ q) (Nat.le_refl _) ⟨by rw [List.length_append]; exact hz, _, r1.append r2, IsTup.new _ _⟩, rfl, q2 hx hy _ (I.hok.fresh (Nat.le_refl _))⟩
theorem ip_catA : PIp X .Add (rCatA X.K) := by
  intro pins s σ H x y v u Q I r1 r2 h
  exact iop_catA pins s σ H x y v u Q I r1 r2 h
end
/-! ### f(e, .., k = v), no defaults at all -/
section
variable {K : PySem.W.Frag} {x qual : Str} {params : Arguments} {body : List Stmt} {scope : Scope} {kws : List (Str × V)} {f : Addr} {fd : FuncData} {ps : List Str}
theorem kbindsN (F : FunD K x qual params body scope [] kws f fd) (n : Nat) (ks : List Str)
    (h : ∀ (kV doc pm : Value) (an : Option Addr) (cdv ct : Value) (us ws : List Value), us.length = n → ws.length = ks.length → bindArgs (PySem.W.fnOf x qual params body scope .none kV doc pm an cdv ct) ⟨us, ks.zip ws⟩ = pure (ps.zip (us ++ ws))) :
    KBn K fd ps n ks (fun us ws => us ++ ws) (fun vs zs => vs ++ zs) := by
  obtain ⟨oc, od, dV, kV, doc, pm, an, cdv, ct, osl, rfl, lk, hcd, hD, hK⟩ := F.ex
  rcases hD with ⟨_, rfl⟩ | ⟨e, _⟩
  · exact ⟨fun s us ws _ l1 l2 => .of_eq (h kV doc pm an cdv ct us ws l1 l2), fun r1 r2 => r1.append r2⟩
  · exact absurd rfl e
end
end Sf
/-! (x,) * k for any small k -/
namespace Sf
open PySem PySem.Spec PyProof.Rows L2
open AutoSeq1 (wpAny_loadPart')
theorem tuple_mul_1 (l : Addr) (items : Array Value) (n : Nat) (dd : Option Addr) (sl : Array (Option Value)) (u : Tok) :
    Meets (Builtin.«tuple.__mul__» ⟨[.ref l, .int 1 u], []⟩) (fun _ R s => s.heap.get? l = some { cls := .type "tuple", dict := dd, data := .seq items n, slots := sl } ∧ R (.ok (.ret (Value.ref l))) s) :=
  .of_wp fun prog w A R s h => by
    obtain ⟨hp, g, d, tk, os⟩ := s
    obtain ⟨hl, h⟩ := h
    have f1 := AutoSeq1.idx_int
    have c0 : (decide ((1 : Int) < -(2 ^ 63)) || decide ((1 : Int) ≥ 2 ^ 63)) = false := by decide
    have c1 : (items.isEmpty || (1 : Int) == 1) = true := by rw [show ((1 : Int) == 1) = true from rfl, Bool.or_true]
    wp_walk using wpAny_loadPart' hl
    exact ⟨_, rfl, h⟩
theorem tuple_mul_0 (l : Addr) (v : Value) (n : Nat) (dd : Option Addr) (sl : Array (Option Value)) (u : Tok) :
    Meets (Builtin.«tuple.__mul__» ⟨[.ref l, .int 0 u], []⟩) (fun _ R s => s.heap.get? l = some { cls := .type "tuple", dict := dd, data := .seq #[v] n, slots := sl } ∧
      R (.ok (.ret (Value.ref s.heap.objs.size))) { s with heap := s.heap.push { cls := Value.type "tuple", data := Data.seq #[] } }) :=
  .of_wp fun prog w A R s h => by
    obtain ⟨hp, g, d, tk, os⟩ := s
    obtain ⟨hl, h⟩ := h
    have f1 := AutoSeq1.idx_int
    have c0 : (decide ((0 : Int) < -(2 ^ 63)) || decide ((0 : Int) ≥ 2 ^ 63)) = false := by decide
    have c1 : ((#[v] : Array Value).isEmpty || (0 : Int) == 1) = false := rfl
    have c2 : (decide ((0 : Int) ≤ 0) || (#[v] : Array Value).isEmpty) = true := rfl
    wp_walk using wpAny_loadPart' hl
    exact ⟨_, rfl, h⟩
section
variable {X : Cx}
def rRepA (K : PySem.W.Frag) : R2 := fun x y H Q => ∃ (l : Addr) (k : Nat) (v : V), x = .ref l ∧ y = .int (k : Int) ∧ SqT K H l [v] ∧ k ≤ 1000 ∧ (k = 1 → Q (.ref l) H) ∧ (k ≠ 1 → ∀ p, H p = none → Q (.ref p) (upd H p (.tup (List.replicate k v))))
theorem rep_flat (v : V) : ∀ k : Nat, (List.replicate k [v]).flatten = List.replicate k v
  | 0 => rfl
  | k + 1 => by rw [List.replicate_succ, List.replicate_succ, List.flatten_cons, rep_flat v k]; rfl
theorem op_repTA : OpR X (binaryOp .Mult) (rRepA X.K) := by
  intro pins s σ H x y v u Q I rx ry h
  obtain ⟨l, k, a, rfl, rfl, hT, hk, q1, q2⟩ := h
  by_cases h2 : 2 ≤ k
  · refine op_repT pins s σ H _ _ v u Q I rx ry ⟨l, (k : Int), [a], rfl, rfl, hT, List.cons_ne_nil _ _, by omega, by omega, by show 1 ≤ 1000; decide, fun p hp => ?_⟩
    rw [Int.toNat_natCast, rep_flat]
    exact q2 (by omega) p hp
  · cases rx
    obtain ⟨t, rfl⟩ := ry
    obtain ⟨its, r, ⟨⟨cls, dd, data, sl⟩, ho, hc, n, hd⟩, hs⟩ := I.tuple hT
    simp only at hc hd
    subst hc hd
    obtain ⟨b, rfl⟩ : ∃ b, its = [b] := by
      cases r with
      | cons p q =>
        cases q
        exact ⟨_, rfl⟩
    have hk01 : k = 0 ∨ k = 1 := by omega
    have road := fun {k : Int} {Q' : Value → Shared → Prop} (z : wpAny (model X.prog X.w) X.A (call (.builtin "tuple.__mul__") [.ref l, .int k t]) Q' X.xe s) =>
      wpAny_binaryOp_repeat_ref (M := model X.prog X.w) (A := X.A) (E := X.xe) (s := s) (a := .ref l) (n := .int k t) (Q := Q') (T := "tuple") (U := "int") (by decide) ⟨_, ho, rfl⟩ (fun s' => typeIs_int s' k t) noFill_tuple_mul F.fills_int_mul F.slot_int_rmul repeat_tuple F.slot_int_index.lookup
        (call_meets F.slot_int_rmul (typeIs_int s k t) F.entry_int_rmul (F.args_int_rmul_2 _ _) (int_rmul_tuple k t l #[b] n dd sl) ⟨ho, rfl, ⟨_, ho, rfl⟩, z⟩)
    rcases hk01 with e | e
    · subst e
      refine road (call_meets F.slot_tuple_mul ⟨_, ho, rfl⟩ F.entry_tuple_mul (F.args_tuple_mul_2 _ _) (tuple_mul_0 l b n dd sl t) ⟨ho, ?_⟩)
      exact ⟨.ref s.heap.objs.size, _, I.laid (t' := s.toks) (o := .tup []) (fun b ob q => Heap.get?_push_of_some _ q) (Nat.le_refl _) ⟨Nat.zero_le _, [], .nil, IsTup.new _ _⟩, rfl, q2 (by decide) _ (I.hok.fresh (Nat.le_refl _))⟩
    · subst e
      exact road (call_meets F.slot_tuple_mul ⟨_, ho, rfl⟩ F.entry_tuple_mul (F.args_tuple_mul_2 _ _) (tuple_mul_1 l #[b] n dd sl t) ⟨ho, ⟨.ref l, H, I, rfl, q1 rfl⟩⟩)
end
end Sf
/-! The defs' data, the facts, by names. Printed by genhead.py. -/
namespace Sf
open PySem PySem.Spec PyProof.Rows L2
def d_is_integer : He.DefD := ⟨("is_integer", none), "is_integer", "is_integer", defArgs s_is_integer, defBody s_is_integer, defScope s_is_integer, [], []⟩
def d_is_between : He.DefD := ⟨("is_between", none), "is_between", "is_between", defArgs s_is_between, defBody s_is_between, defScope s_is_between, [], []⟩
def d_is_limit : He.DefD := ⟨("is_limit", none), "is_limit", "is_limit", defArgs s_is_limit, defBody s_is_limit, defScope s_is_limit, [], []⟩
def d_is_row : He.DefD := ⟨("is_row", none), "is_row", "is_row", defArgs s_is_row, defBody s_is_row, defScope s_is_row, [], []⟩
def d_reference_counts : He.DefD := ⟨("reference_counts", none), "reference_counts", "reference_counts", defArgs s_reference_counts, defBody s_reference_counts, defScope s_reference_counts, [], []⟩
def d_first_fault : He.DefD := ⟨("first_fault", none), "first_fault", "first_fault", defArgs s_first_fault, defBody s_first_fault, defScope s_first_fault, [], []⟩
def d_have_shape : He.DefD := ⟨("have_shape", none), "have_shape", "have_shape", defArgs s_have_shape, defBody s_have_shape, defScope s_have_shape, [], []⟩
def d_is_heap : He.DefD := ⟨("is_heap", none), "is_heap", "is_heap", defArgs s_is_heap, defBody s_is_heap, defScope s_is_heap, [], []⟩
def d_is_live : He.DefD := ⟨("is_live", none), "is_live", "is_live", defArgs s_is_live, defBody s_is_live, defScope s_is_live, [], []⟩
def d_require_node : He.DefD := ⟨("require_node", none), "require_node", "require_node", defArgs s_require_node, defBody s_require_node, defScope s_require_node, [], []⟩
def d_require_reference : He.DefD := ⟨("require_reference", none), "require_reference", "require_reference", defArgs s_require_reference, defBody s_require_reference, defScope s_require_reference, [], []⟩
def d_live_nodes : He.DefD := ⟨("live_nodes", none), "live_nodes", "live_nodes", defArgs s_live_nodes, defBody s_live_nodes, defScope s_live_nodes, [], []⟩
def d_holders : He.DefD := ⟨("holders", none), "holders", "holders", defArgs s_holders, defBody s_holders, defScope s_holders, [], []⟩
def d_Unwinding_init : He.DefD := ⟨("Unwinding", some "__init__"), "__init__", "Unwinding.__init__", defArgs s_Unwinding_init, defBody s_Unwinding_init, defScope s_Unwinding_init, [], []⟩
def d_Unwinding_release : He.DefD := ⟨("Unwinding", some "release"), "release", "Unwinding.release", defArgs s_Unwinding_release, defBody s_Unwinding_release, defScope s_Unwinding_release, [], []⟩
def d_Unwinding_destroy : He.DefD := ⟨("Unwinding", some "destroy"), "destroy", "Unwinding.destroy", defArgs s_Unwinding_destroy, defBody s_Unwinding_destroy, defScope s_Unwinding_destroy, [], []⟩
def d_Unwinding_unwind : He.DefD := ⟨("Unwinding", some "unwind"), "unwind", "Unwinding.unwind", defArgs s_Unwinding_unwind, defBody s_Unwinding_unwind, defScope s_Unwinding_unwind, [], []⟩
def d_Unwinding_drop_outside : He.DefD := ⟨("Unwinding", some "drop_outside"), "drop_outside", "Unwinding.drop_outside", defArgs s_Unwinding_drop_outside, defBody s_Unwinding_drop_outside, defScope s_Unwinding_drop_outside, [], []⟩
def d_Unwinding_fill : He.DefD := ⟨("Unwinding", some "fill"), "fill", "Unwinding.fill", defArgs s_Unwinding_fill, defBody s_Unwinding_fill, defScope s_Unwinding_fill, [], []⟩
def d_Unwinding_strip : He.DefD := ⟨("Unwinding", some "strip"), "strip", "Unwinding.strip", defArgs s_Unwinding_strip, defBody s_Unwinding_strip, defScope s_Unwinding_strip, [], []⟩
def d_Unwinding_heap : He.DefD := ⟨("Unwinding", some "heap"), "heap", "Unwinding.heap", defArgs s_Unwinding_heap, defBody s_Unwinding_heap, defScope s_Unwinding_heap, [], []⟩
def d_Unwinding_result : He.DefD := ⟨("Unwinding", some "result"), "result", "Unwinding.result", defArgs s_Unwinding_result, defBody s_Unwinding_result, defScope s_Unwinding_result, [], []⟩
def d_require_slot : He.DefD := ⟨("require_slot", none), "require_slot", "require_slot", defArgs s_require_slot, defBody s_require_slot, defScope s_require_slot, [], []⟩
def d_require_fill : He.DefD := ⟨("require_fill", none), "require_fill", "require_fill", defArgs s_require_fill, defBody s_require_fill, defScope s_require_fill, [], []⟩
def d_drop : He.DefD := ⟨("drop", none), "drop", "drop", defArgs s_drop, defBody s_drop, defScope s_drop, [], []⟩
def d_set_slot : He.DefD := ⟨("set_slot", none), "set_slot", "set_slot", defArgs s_set_slot, defBody s_set_slot, defScope s_set_slot, [], []⟩
def d_empty_slots : He.DefD := ⟨("empty_slots", none), "empty_slots", "empty_slots", defArgs s_empty_slots, defBody s_empty_slots, defScope s_empty_slots, [], []⟩
def d_held_nodes : He.DefD := ⟨("held_nodes", none), "held_nodes", "held_nodes", defArgs s_held_nodes, defBody s_held_nodes, defScope s_held_nodes, [], []⟩
def d_came_from : He.DefD := ⟨("came_from", none), "came_from", "came_from", defArgs s_came_from, defBody s_came_from, defScope s_came_from, [], []⟩
def d_nodes_with_outside : He.DefD := ⟨("nodes_with_outside", none), "nodes_with_outside", "nodes_with_outside", defArgs s_nodes_with_outside, defBody s_nodes_with_outside, defScope s_nodes_with_outside, [], []⟩
def d_reachable : He.DefD := ⟨("reachable", none), "reachable", "reachable", defArgs s_reachable, defBody s_reachable, defScope s_reachable, [], []⟩
def d_unreachable : He.DefD := ⟨("unreachable", none), "unreachable", "unreachable", defArgs s_unreachable, defBody s_unreachable, defScope s_unreachable, [], []⟩
def d_reach_certificate : He.DefD := ⟨("reach_certificate", none), "reach_certificate", "reach_certificate", defArgs s_reach_certificate, defBody s_reach_certificate, defScope s_reach_certificate, [], []⟩
def d_strip_all : He.DefD := ⟨("strip_all", none), "strip_all", "strip_all", defArgs s_strip_all, defBody s_strip_all, defScope s_strip_all, [], []⟩
def d_collect : He.DefD := ⟨("collect", none), "collect", "collect", defArgs s_collect, defBody s_collect, defScope s_collect, [], []⟩
def d_with_node : He.DefD := ⟨("with_node", none), "with_node", "with_node", defArgs s_with_node, defBody s_with_node, defScope s_with_node, [], []⟩
def d_with_reference : He.DefD := ⟨("with_reference", none), "with_reference", "with_reference", defArgs s_with_reference, defBody s_with_reference, defScope s_with_reference, [], []⟩
def d_still_referenced : He.DefD := ⟨("still_referenced", none), "still_referenced", "still_referenced", defArgs s_still_referenced, defBody s_still_referenced, defScope s_still_referenced, [], []⟩
def d_Store_init : He.DefD := ⟨("Store", some "__init__"), "__init__", "Store.__init__", defArgs s_Store_init, defBody s_Store_init, defScope s_Store_init, [.glo "NO_HEAP"], [("limit", .int 50), ("observer", .non)]⟩
def d_Store_require_idle : He.DefD := ⟨("Store", some "require_idle"), "require_idle", "Store.require_idle", defArgs s_Store_require_idle, defBody s_Store_require_idle, defScope s_Store_require_idle, [], []⟩
def d_Store_notify : He.DefD := ⟨("Store", some "notify"), "notify", "Store.notify", defArgs s_Store_notify, defBody s_Store_notify, defScope s_Store_notify, [], []⟩
def d_Store_commit : He.DefD := ⟨("Store", some "commit"), "commit", "Store.commit", defArgs s_Store_commit, defBody s_Store_commit, defScope s_Store_commit, [], []⟩
def d_Store_commit_run : He.DefD := ⟨("Store", some "commit_run"), "commit_run", "Store.commit_run", defArgs s_Store_commit_run, defBody s_Store_commit_run, defScope s_Store_commit_run, [], []⟩
def d_Store_begin : He.DefD := ⟨("Store", some "begin"), "begin", "Store.begin", defArgs s_Store_begin, defBody s_Store_begin, defScope s_Store_begin, [], []⟩
def d_Store_new : He.DefD := ⟨("Store", some "new"), "new", "Store.new", defArgs s_Store_new, defBody s_Store_new, defScope s_Store_new, [.int 0], []⟩
def d_Store_hold : He.DefD := ⟨("Store", some "hold"), "hold", "Store.hold", defArgs s_Store_hold, defBody s_Store_hold, defScope s_Store_hold, [], []⟩
def d_Store_drop : He.DefD := ⟨("Store", some "drop"), "drop", "Store.drop", defArgs s_Store_drop, defBody s_Store_drop, defScope s_Store_drop, [], []⟩
def d_Store_put : He.DefD := ⟨("Store", some "put"), "put", "Store.put", defArgs s_Store_put, defBody s_Store_put, defScope s_Store_put, [], []⟩
def d_Store_empty_slots : He.DefD := ⟨("Store", some "empty_slots"), "empty_slots", "Store.empty_slots", defArgs s_Store_empty_slots, defBody s_Store_empty_slots, defScope s_Store_empty_slots, [], []⟩
def d_Store_collect : He.DefD := ⟨("Store", some "collect"), "collect", "Store.collect", defArgs s_Store_collect, defBody s_Store_collect, defScope s_Store_collect, [], []⟩
def d_Store_collect_local : He.DefD := ⟨("Store", some "collect_local"), "collect_local", "Store.collect_local", defArgs s_Store_collect_local, defBody s_Store_collect_local, defScope s_Store_collect_local, [], []⟩
def d_Store_set_limit : He.DefD := ⟨("Store", some "set_limit"), "set_limit", "Store.set_limit", defArgs s_Store_set_limit, defBody s_Store_set_limit, defScope s_Store_set_limit, [], []⟩
def d_Store_heap : He.DefD := ⟨("Store", some "heap"), "heap", "Store.heap", defArgs s_Store_heap, defBody s_Store_heap, defScope s_Store_heap, [], []⟩
def d_Store_current_limit : He.DefD := ⟨("Store", some "current_limit"), "current_limit", "Store.current_limit", defArgs s_Store_current_limit, defBody s_Store_current_limit, defScope s_Store_current_limit, [], []⟩
def d_Store_free_numbers : He.DefD := ⟨("Store", some "free_numbers"), "free_numbers", "Store.free_numbers", defArgs s_Store_free_numbers, defBody s_Store_free_numbers, defScope s_Store_free_numbers, [], []⟩
def d_Store_candidates : He.DefD := ⟨("Store", some "candidates"), "candidates", "Store.candidates", defArgs s_Store_candidates, defBody s_Store_candidates, defScope s_Store_candidates, [], []⟩
def d_Store_history : He.DefD := ⟨("Store", some "history"), "history", "Store.history", defArgs s_Store_history, defBody s_Store_history, defScope s_Store_history, [], []⟩
def d_Store_destroyed : He.DefD := ⟨("Store", some "destroyed"), "destroyed", "Store.destroyed", defArgs s_Store_destroyed, defBody s_Store_destroyed, defScope s_Store_destroyed, [], []⟩
def d_Store_len : He.DefD := ⟨("Store", some "__len__"), "__len__", "Store.__len__", defArgs s_Store_len, defBody s_Store_len, defScope s_Store_len, [], []⟩
def d_require_pair : He.DefD := ⟨("require_pair", none), "require_pair", "require_pair", defArgs s_require_pair, defBody s_require_pair, defScope s_require_pair, [], []⟩
def d_check_path : He.DefD := ⟨("check_path", none), "check_path", "check_path", defArgs s_check_path, defBody s_check_path, defScope s_check_path, [], []⟩
def d_check_closed : He.DefD := ⟨("check_closed", none), "check_closed", "check_closed", defArgs s_check_closed, defBody s_check_closed, defScope s_check_closed, [], []⟩
def d_check_reach : He.DefD := ⟨("check_reach", none), "check_reach", "check_reach", defArgs s_check_reach, defBody s_check_reach, defScope s_check_reach, [], []⟩
def d_l_pen : He.DefD := ⟨("_law_pen", none), "_law_pen", "_law_pen", defArgs s_l_pen, defBody s_l_pen, defScope s_l_pen, [], []⟩
def d_l_draw : He.DefD := ⟨("_law_draw", none), "_law_draw", "_law_draw", defArgs s_l_draw, defBody s_l_draw, defScope s_l_draw, [], []⟩
def d_l_shuffled : He.DefD := ⟨("_law_shuffled", none), "_law_shuffled", "_law_shuffled", defArgs s_l_shuffled, defBody s_l_shuffled, defScope s_l_shuffled, [], []⟩
def d_l_linked : He.DefD := ⟨("_law_linked", none), "_law_linked", "_law_linked", defArgs s_l_linked, defBody s_l_linked, defScope s_l_linked, [], []⟩
def d_l_base : He.DefD := ⟨("_law_base", none), "_law_base", "_law_base", defArgs s_l_base, defBody s_l_base, defScope s_l_base, [], []⟩
def d_l_loose : He.DefD := ⟨("_law_loose", none), "_law_loose", "_law_loose", defArgs s_l_loose, defBody s_l_loose, defScope s_l_loose, [], []⟩
def d_l_begun : He.DefD := ⟨("_law_begun", none), "_law_begun", "_law_begun", defArgs s_l_begun, defBody s_l_begun, defScope s_l_begun, [], []⟩
def d_l_choice : He.DefD := ⟨("_law_choice", none), "_law_choice", "_law_choice", defArgs s_l_choice, defBody s_l_choice, defScope s_l_choice, [], []⟩
def d_l_by_modules : He.DefD := ⟨("_law_by_modules", none), "_law_by_modules", "_law_by_modules", defArgs s_l_by_modules, defBody s_l_by_modules, defScope s_l_by_modules, [], []⟩
def d_l_call : He.DefD := ⟨("_law_call", none), "_law_call", "_law_call", defArgs s_l_call, defBody s_l_call, defScope s_l_call, [], []⟩
def d_l_sound : He.DefD := ⟨("_law_sound", none), "_law_sound", "_law_sound", defArgs s_l_sound, defBody s_l_sound, defScope s_l_sound, [], []⟩
def d_law : He.DefD := ⟨("law", none), "law", "law", defArgs s_law, defBody s_law, defScope s_law, [], []⟩
def fn0 : List He.DefD := [d_is_integer, d_is_between, d_is_limit, d_is_row, d_reference_counts, d_first_fault, d_have_shape, d_is_heap, d_is_live, d_require_node, d_require_reference, d_live_nodes, d_holders, d_Unwinding_init, d_Unwinding_release, d_Unwinding_destroy, d_Unwinding_unwind, d_Unwinding_drop_outside, d_Unwinding_fill, d_Unwinding_strip, d_Unwinding_heap, d_Unwinding_result, d_require_slot, d_require_fill, d_drop, d_set_slot, d_empty_slots, d_held_nodes, d_came_from, d_nodes_with_outside]
def fn1 : List He.DefD := [d_reachable, d_unreachable, d_reach_certificate, d_strip_all, d_collect, d_with_node, d_with_reference, d_still_referenced, d_Store_init, d_Store_require_idle, d_Store_notify, d_Store_commit, d_Store_commit_run, d_Store_begin, d_Store_new, d_Store_hold, d_Store_drop, d_Store_put, d_Store_empty_slots, d_Store_collect, d_Store_collect_local, d_Store_set_limit, d_Store_heap, d_Store_current_limit, d_Store_free_numbers, d_Store_candidates, d_Store_history, d_Store_destroyed, d_Store_len, d_require_pair]
def fn2 : List He.DefD := [d_check_path, d_check_closed, d_check_reach, d_l_pen, d_l_draw, d_l_shuffled, d_l_linked, d_l_base, d_l_loose, d_l_begun, d_l_choice, d_l_by_modules, d_l_call, d_l_sound, d_law]
def fn : List He.DefD := fn0 ++ fn1 ++ fn2
def fa0 : List He.Fa := [.glo "is_integer", .glo "is_between", .glo "is_limit", .glo "is_row", .glo "reference_counts", .glo "first_fault", .glo "have_shape", .glo "is_heap", .glo "is_live", .glo "require_node", .glo "require_reference", .glo "live_nodes", .glo "holders", .glo "require_slot", .glo "require_fill", .glo "drop", .glo "set_slot", .glo "empty_slots", .glo "held_nodes", .glo "came_from", .glo "nodes_with_outside", .glo "reachable", .glo "unreachable", .glo "reach_certificate", .glo "strip_all", .glo "collect", .glo "with_node", .glo "with_reference", .glo "still_referenced", .glo "require_pair"]
def fa1 : List He.Fa := [.glo "check_path", .glo "check_closed", .glo "check_reach", .glo "_law_pen", .glo "_law_draw", .glo "_law_shuffled", .glo "_law_linked", .glo "_law_base", .glo "_law_loose", .glo "_law_begun", .glo "_law_choice", .glo "_law_by_modules", .glo "_law_call", .glo "_law_sound", .glo "law", .glo "Unwinding", .cls "Unwinding", .mkr "Unwinding", .noat "Unwinding" "rows", .noat "Unwinding" "references", .noat "Unwinding" "tallies", .noat "Unwinding" "bound", .noat "Unwinding" "log", .noat "Unwinding" "shelf", .noat "Unwinding" "peak", .noat "Unwinding" "events", .glo "Store", .cls "Store", .mkr "Store", .noat "Store" "snapshots"]
def fa2 : List He.Fa := [.noat "Store" "recorded", .noat "Store" "observer", .noat "Store" "is_busy", .meth "Unwinding" "release", .meth "Unwinding" "destroy", .meth "Unwinding" "unwind", .meth "Unwinding" "drop_outside", .meth "Unwinding" "fill", .meth "Unwinding" "strip", .meth "Unwinding" "heap", .meth "Unwinding" "result", .meth "Store" "require_idle", .meth "Store" "notify", .meth "Store" "commit", .meth "Store" "commit_run", .meth "Store" "begin", .meth "Store" "new", .meth "Store" "hold", .meth "Store" "drop", .meth "Store" "put", .meth "Store" "empty_slots", .meth "Store" "collect", .meth "Store" "collect_local", .meth "Store" "set_limit", .meth "Store" "heap", .meth "Store" "current_limit", .meth "Store" "free_numbers", .meth "Store" "candidates", .meth "Store" "history", .meth "Store" "destroyed"]
def fa3 : List He.Fa := [.meth "Store" "__len__", .int "MOST_NODES" 40, .int "MOST_SLOTS" 40, .int "MOST_OUTSIDE" 9, .int "MOST_LIMIT" 1000000000000000000000000000000, .free "isinstance", .free "int", .free "bool", .free "list", .free "tuple", .free "len", .free "range", .free "all", .free "str", .free "max", .free "min", .free "enumerate", .free "set", .free "sorted", .free "repr", .free "abs"]
def fa : List He.Fa := fa0 ++ fa1 ++ fa2 ++ fa3
/-- the module as the top leaves it -/
structure Tx (K : PySem.W.Frag) (mg : Str → Option Value) : Prop where
  ex : ∃ h : Heap, K.In h ∧ h.Ns mainGlobals mg ∧ He.SaysD fa fn K
abbrev C_Unwinding (K : PySem.W.Frag) : Addr := He.ga K "Unwinding"
abbrev C_Store (K : PySem.W.Frag) : Addr := He.ga K "Store"
open Classical in
noncomputable def fdOf (K : PySem.W.Frag) (d : He.DefD) : FuncData := if h : ∃ fd, FunD K d.name d.qual d.params d.body d.scope (d.dvs K) (d.kws K) (He.fAd K d.at_) fd then Classical.choose h else Classical.choice ⟨PySem.W.fnOf Str.empty Str.empty d.params d.body d.scope .none .none .none .none none .none .none⟩
section
variable {K : PySem.W.Frag} {mg : Str → Option Value}
theorem Tx.fun_ (T : Tx K mg) {d : He.DefD} (i : Nat) (h : fn[i]? = some d) : FunD K d.name d.qual d.params d.body d.scope (d.dvs K) (d.kws K) (He.fAd K d.at_) (fdOf K d) := by
  obtain ⟨hp, _, _, c⟩ := T.ex
  have e := c.def_ i (d := d) h
  unfold fdOf
  rw [dif_pos e]
  exact Classical.choose_spec e
theorem Tx.fact (T : Tx K mg) {f : He.Fa} (i : Nat) (h : fa[i]? = some f) : f.ok K = true := by
  obtain ⟨_, _, _, c⟩ := T.ex
  exact c.fact i h
abbrev a_is_integer (K : PySem.W.Frag) : Addr := He.fAd K ("is_integer", none)
noncomputable abbrev fd_is_integer (K : PySem.W.Frag) : FuncData := fdOf K d_is_integer
abbrev F_is_integer (K : PySem.W.Frag) : Prop := FunD K "is_integer" "is_integer" (defArgs s_is_integer) (defBody s_is_integer) (defScope s_is_integer) (d_is_integer.dvs K) (d_is_integer.kws K) (a_is_integer K) (fd_is_integer K)
theorem Tx.f_is_integer (T : Tx K mg) : F_is_integer K := T.fun_ 0 (d := d_is_integer) rfl
theorem Tx.k_is_integer (T : Tx K mg) : PySem.W.keepIn K (.ref (a_is_integer K)) = true := T.f_is_integer.kp
theorem Tx.b_is_integer (T : Tx K mg) : Binds K (fd_is_integer K) ["value"] [] := FunD.bindsN (ps := ["value"]) T.f_is_integer fun _ _ _ _ _ _ us hl => match us, hl with | [_], _ => rfl
abbrev a_is_between (K : PySem.W.Frag) : Addr := He.fAd K ("is_between", none)
noncomputable abbrev fd_is_between (K : PySem.W.Frag) : FuncData := fdOf K d_is_between
abbrev F_is_between (K : PySem.W.Frag) : Prop := FunD K "is_between" "is_between" (defArgs s_is_between) (defBody s_is_between) (defScope s_is_between) (d_is_between.dvs K) (d_is_between.kws K) (a_is_between K) (fd_is_between K)
theorem Tx.f_is_between (T : Tx K mg) : F_is_between K := T.fun_ 1 (d := d_is_between) rfl
theorem Tx.k_is_between (T : Tx K mg) : PySem.W.keepIn K (.ref (a_is_between K)) = true := T.f_is_between.kp
theorem Tx.b_is_between (T : Tx K mg) : Binds K (fd_is_between K) ["value", "least", "most"] [] := FunD.bindsN (ps := ["value", "least", "most"]) T.f_is_between fun _ _ _ _ _ _ us hl => match us, hl with | [_, _, _], _ => rfl
abbrev a_is_limit (K : PySem.W.Frag) : Addr := He.fAd K ("is_limit", none)
noncomputable abbrev fd_is_limit (K : PySem.W.Frag) : FuncData := fdOf K d_is_limit
abbrev F_is_limit (K : PySem.W.Frag) : Prop := FunD K "is_limit" "is_limit" (defArgs s_is_limit) (defBody s_is_limit) (defScope s_is_limit) (d_is_limit.dvs K) (d_is_limit.kws K) (a_is_limit K) (fd_is_limit K)
theorem Tx.f_is_limit (T : Tx K mg) : F_is_limit K := T.fun_ 2 (d := d_is_limit) rfl
theorem Tx.k_is_limit (T : Tx K mg) : PySem.W.keepIn K (.ref (a_is_limit K)) = true := T.f_is_limit.kp
theorem Tx.b_is_limit (T : Tx K mg) : Binds K (fd_is_limit K) ["value"] [] := FunD.bindsN (ps := ["value"]) T.f_is_limit fun _ _ _ _ _ _ us hl => match us, hl with | [_], _ => rfl
abbrev a_is_row (K : PySem.W.Frag) : Addr := He.fAd K ("is_row", none)
noncomputable abbrev fd_is_row (K : PySem.W.Frag) : FuncData := fdOf K d_is_row
abbrev F_is_row (K : PySem.W.Frag) : Prop := FunD K "is_row" "is_row" (defArgs s_is_row) (defBody s_is_row) (defScope s_is_row) (d_is_row.dvs K) (d_is_row.kws K) (a_is_row K) (fd_is_row K)
theorem Tx.f_is_row (T : Tx K mg) : F_is_row K := T.fun_ 3 (d := d_is_row) rfl
theorem Tx.k_is_row (T : Tx K mg) : PySem.W.keepIn K (.ref (a_is_row K)) = true := T.f_is_row.kp
theorem Tx.b_is_row (T : Tx K mg) : Binds K (fd_is_row K) ["value", "size"] [] := FunD.bindsN (ps := ["value", "size"]) T.f_is_row fun _ _ _ _ _ _ us hl => match us, hl with | [_, _], _ => rfl
abbrev a_reference_counts (K : PySem.W.Frag) : Addr := He.fAd K ("reference_counts", none)
noncomputable abbrev fd_reference_counts (K : PySem.W.Frag) : FuncData := fdOf K d_reference_counts
abbrev F_reference_counts (K : PySem.W.Frag) : Prop := FunD K "reference_counts" "reference_counts" (defArgs s_reference_counts) (defBody s_reference_counts) (defScope s_reference_counts) (d_reference_counts.dvs K) (d_reference_counts.kws K) (a_reference_counts K) (fd_reference_counts K)
theorem Tx.f_reference_counts (T : Tx K mg) : F_reference_counts K := T.fun_ 4 (d := d_reference_counts) rfl
theorem Tx.k_reference_counts (T : Tx K mg) : PySem.W.keepIn K (.ref (a_reference_counts K)) = true := T.f_reference_counts.kp
theorem Tx.b_reference_counts (T : Tx K mg) : Binds K (fd_reference_counts K) ["slots", "outside"] [] := FunD.bindsN (ps := ["slots", "outside"]) T.f_reference_counts fun _ _ _ _ _ _ us hl => match us, hl with | [_, _], _ => rfl
abbrev a_first_fault (K : PySem.W.Frag) : Addr := He.fAd K ("first_fault", none)
noncomputable abbrev fd_first_fault (K : PySem.W.Frag) : FuncData := fdOf K d_first_fault
abbrev F_first_fault (K : PySem.W.Frag) : Prop := FunD K "first_fault" "first_fault" (defArgs s_first_fault) (defBody s_first_fault) (defScope s_first_fault) (d_first_fault.dvs K) (d_first_fault.kws K) (a_first_fault K) (fd_first_fault K)
theorem Tx.f_first_fault (T : Tx K mg) : F_first_fault K := T.fun_ 5 (d := d_first_fault) rfl
theorem Tx.k_first_fault (T : Tx K mg) : PySem.W.keepIn K (.ref (a_first_fault K)) = true := T.f_first_fault.kp
theorem Tx.b_first_fault (T : Tx K mg) : Binds K (fd_first_fault K) ["slots", "outside"] [] := FunD.bindsN (ps := ["slots", "outside"]) T.f_first_fault fun _ _ _ _ _ _ us hl => match us, hl with | [_, _], _ => rfl
abbrev a_have_shape (K : PySem.W.Frag) : Addr := He.fAd K ("have_shape", none)
noncomputable abbrev fd_have_shape (K : PySem.W.Frag) : FuncData := fdOf K d_have_shape
abbrev F_have_shape (K : PySem.W.Frag) : Prop := FunD K "have_shape" "have_shape" (defArgs s_have_shape) (defBody s_have_shape) (defScope s_have_shape) (d_have_shape.dvs K) (d_have_shape.kws K) (a_have_shape K) (fd_have_shape K)
theorem Tx.f_have_shape (T : Tx K mg) : F_have_shape K := T.fun_ 6 (d := d_have_shape) rfl
theorem Tx.k_have_shape (T : Tx K mg) : PySem.W.keepIn K (.ref (a_have_shape K)) = true := T.f_have_shape.kp
theorem Tx.b_have_shape (T : Tx K mg) : Binds K (fd_have_shape K) ["slots", "outside"] [] := FunD.bindsN (ps := ["slots", "outside"]) T.f_have_shape fun _ _ _ _ _ _ us hl => match us, hl with | [_, _], _ => rfl
abbrev a_is_heap (K : PySem.W.Frag) : Addr := He.fAd K ("is_heap", none)
noncomputable abbrev fd_is_heap (K : PySem.W.Frag) : FuncData := fdOf K d_is_heap
abbrev F_is_heap (K : PySem.W.Frag) : Prop := FunD K "is_heap" "is_heap" (defArgs s_is_heap) (defBody s_is_heap) (defScope s_is_heap) (d_is_heap.dvs K) (d_is_heap.kws K) (a_is_heap K) (fd_is_heap K)
theorem Tx.f_is_heap (T : Tx K mg) : F_is_heap K := T.fun_ 7 (d := d_is_heap) rfl
theorem Tx.k_is_heap (T : Tx K mg) : PySem.W.keepIn K (.ref (a_is_heap K)) = true := T.f_is_heap.kp
theorem Tx.b_is_heap (T : Tx K mg) : Binds K (fd_is_heap K) ["value"] [] := FunD.bindsN (ps := ["value"]) T.f_is_heap fun _ _ _ _ _ _ us hl => match us, hl with | [_], _ => rfl
abbrev a_is_live (K : PySem.W.Frag) : Addr := He.fAd K ("is_live", none)
noncomputable abbrev fd_is_live (K : PySem.W.Frag) : FuncData := fdOf K d_is_live
abbrev F_is_live (K : PySem.W.Frag) : Prop := FunD K "is_live" "is_live" (defArgs s_is_live) (defBody s_is_live) (defScope s_is_live) (d_is_live.dvs K) (d_is_live.kws K) (a_is_live K) (fd_is_live K)
theorem Tx.f_is_live (T : Tx K mg) : F_is_live K := T.fun_ 8 (d := d_is_live) rfl
theorem Tx.k_is_live (T : Tx K mg) : PySem.W.keepIn K (.ref (a_is_live K)) = true := T.f_is_live.kp
theorem Tx.b_is_live (T : Tx K mg) : Binds K (fd_is_live K) ["heap", "value"] [] := FunD.bindsN (ps := ["heap", "value"]) T.f_is_live fun _ _ _ _ _ _ us hl => match us, hl with | [_, _], _ => rfl
abbrev a_require_node (K : PySem.W.Frag) : Addr := He.fAd K ("require_node", none)
noncomputable abbrev fd_require_node (K : PySem.W.Frag) : FuncData := fdOf K d_require_node
abbrev F_require_node (K : PySem.W.Frag) : Prop := FunD K "require_node" "require_node" (defArgs s_require_node) (defBody s_require_node) (defScope s_require_node) (d_require_node.dvs K) (d_require_node.kws K) (a_require_node K) (fd_require_node K)
theorem Tx.f_require_node (T : Tx K mg) : F_require_node K := T.fun_ 9 (d := d_require_node) rfl
theorem Tx.k_require_node (T : Tx K mg) : PySem.W.keepIn K (.ref (a_require_node K)) = true := T.f_require_node.kp
theorem Tx.b_require_node (T : Tx K mg) : Binds K (fd_require_node K) ["heap", "value"] [] := FunD.bindsN (ps := ["heap", "value"]) T.f_require_node fun _ _ _ _ _ _ us hl => match us, hl with | [_, _], _ => rfl
abbrev a_require_reference (K : PySem.W.Frag) : Addr := He.fAd K ("require_reference", none)
noncomputable abbrev fd_require_reference (K : PySem.W.Frag) : FuncData := fdOf K d_require_reference
abbrev F_require_reference (K : PySem.W.Frag) : Prop := FunD K "require_reference" "require_reference" (defArgs s_require_reference) (defBody s_require_reference) (defScope s_require_reference) (d_require_reference.dvs K) (d_require_reference.kws K) (a_require_reference K) (fd_require_reference K)
theorem Tx.f_require_reference (T : Tx K mg) : F_require_reference K := T.fun_ 10 (d := d_require_reference) rfl
theorem Tx.k_require_reference (T : Tx K mg) : PySem.W.keepIn K (.ref (a_require_reference K)) = true := T.f_require_reference.kp
theorem Tx.b_require_reference (T : Tx K mg) : Binds K (fd_require_reference K) ["heap", "value"] [] := FunD.bindsN (ps := ["heap", "value"]) T.f_require_reference fun _ _ _ _ _ _ us hl => match us, hl with | [_, _], _ => rfl
abbrev a_live_nodes (K : PySem.W.Frag) : Addr := He.fAd K ("live_nodes", none)
noncomputable abbrev fd_live_nodes (K : PySem.W.Frag) : FuncData := fdOf K d_live_nodes
abbrev F_live_nodes (K : PySem.W.Frag) : Prop := FunD K "live_nodes" "live_nodes" (defArgs s_live_nodes) (defBody s_live_nodes) (defScope s_live_nodes) (d_live_nodes.dvs K) (d_live_nodes.kws K) (a_live_nodes K) (fd_live_nodes K)
theorem Tx.f_live_nodes (T : Tx K mg) : F_live_nodes K := T.fun_ 11 (d := d_live_nodes) rfl
theorem Tx.k_live_nodes (T : Tx K mg) : PySem.W.keepIn K (.ref (a_live_nodes K)) = true := T.f_live_nodes.kp
theorem Tx.b_live_nodes (T : Tx K mg) : Binds K (fd_live_nodes K) ["heap"] [] := FunD.bindsN (ps := ["heap"]) T.f_live_nodes fun _ _ _ _ _ _ us hl => match us, hl with | [_], _ => rfl
abbrev a_holders (K : PySem.W.Frag) : Addr := He.fAd K ("holders", none)
noncomputable abbrev fd_holders (K : PySem.W.Frag) : FuncData := fdOf K d_holders
abbrev F_holders (K : PySem.W.Frag) : Prop := FunD K "holders" "holders" (defArgs s_holders) (defBody s_holders) (defScope s_holders) (d_holders.dvs K) (d_holders.kws K) (a_holders K) (fd_holders K)
theorem Tx.f_holders (T : Tx K mg) : F_holders K := T.fun_ 12 (d := d_holders) rfl
theorem Tx.k_holders (T : Tx K mg) : PySem.W.keepIn K (.ref (a_holders K)) = true := T.f_holders.kp
theorem Tx.b_holders (T : Tx K mg) : Binds K (fd_holders K) ["heap", "node"] [] := FunD.bindsN (ps := ["heap", "node"]) T.f_holders fun _ _ _ _ _ _ us hl => match us, hl with | [_, _], _ => rfl
abbrev a_Unwinding_init (K : PySem.W.Frag) : Addr := He.fAd K ("Unwinding", some "__init__")
noncomputable abbrev fd_Unwinding_init (K : PySem.W.Frag) : FuncData := fdOf K d_Unwinding_init
abbrev F_Unwinding_init (K : PySem.W.Frag) : Prop := FunD K "__init__" "Unwinding.__init__" (defArgs s_Unwinding_init) (defBody s_Unwinding_init) (defScope s_Unwinding_init) (d_Unwinding_init.dvs K) (d_Unwinding_init.kws K) (a_Unwinding_init K) (fd_Unwinding_init K)
theorem Tx.f_Unwinding_init (T : Tx K mg) : F_Unwinding_init K := T.fun_ 13 (d := d_Unwinding_init) rfl
theorem Tx.k_Unwinding_init (T : Tx K mg) : PySem.W.keepIn K (.ref (a_Unwinding_init K)) = true := T.f_Unwinding_init.kp
theorem Tx.b_Unwinding_init (T : Tx K mg) : Binds K (fd_Unwinding_init K) ["self", "heap", "limit"] [] := FunD.bindsN (ps := ["self", "heap", "limit"]) T.f_Unwinding_init fun _ _ _ _ _ _ us hl => match us, hl with | [_, _, _], _ => rfl
abbrev a_Unwinding_release (K : PySem.W.Frag) : Addr := He.fAd K ("Unwinding", some "release")
noncomputable abbrev fd_Unwinding_release (K : PySem.W.Frag) : FuncData := fdOf K d_Unwinding_release
abbrev F_Unwinding_release (K : PySem.W.Frag) : Prop := FunD K "release" "Unwinding.release" (defArgs s_Unwinding_release) (defBody s_Unwinding_release) (defScope s_Unwinding_release) (d_Unwinding_release.dvs K) (d_Unwinding_release.kws K) (a_Unwinding_release K) (fd_Unwinding_release K)
theorem Tx.f_Unwinding_release (T : Tx K mg) : F_Unwinding_release K := T.fun_ 14 (d := d_Unwinding_release) rfl
theorem Tx.k_Unwinding_release (T : Tx K mg) : PySem.W.keepIn K (.ref (a_Unwinding_release K)) = true := T.f_Unwinding_release.kp
theorem Tx.b_Unwinding_release (T : Tx K mg) : Binds K (fd_Unwinding_release K) ["self", "holder", "slot", "node", "depth"] [] := FunD.bindsN (ps := ["self", "holder", "slot", "node", "depth"]) T.f_Unwinding_release fun _ _ _ _ _ _ us hl => match us, hl with | [_, _, _, _, _], _ => rfl
abbrev a_Unwinding_destroy (K : PySem.W.Frag) : Addr := He.fAd K ("Unwinding", some "destroy")
noncomputable abbrev fd_Unwinding_destroy (K : PySem.W.Frag) : FuncData := fdOf K d_Unwinding_destroy
abbrev F_Unwinding_destroy (K : PySem.W.Frag) : Prop := FunD K "destroy" "Unwinding.destroy" (defArgs s_Unwinding_destroy) (defBody s_Unwinding_destroy) (defScope s_Unwinding_destroy) (d_Unwinding_destroy.dvs K) (d_Unwinding_destroy.kws K) (a_Unwinding_destroy K) (fd_Unwinding_destroy K)
theorem Tx.f_Unwinding_destroy (T : Tx K mg) : F_Unwinding_destroy K := T.fun_ 15 (d := d_Unwinding_destroy) rfl
theorem Tx.k_Unwinding_destroy (T : Tx K mg) : PySem.W.keepIn K (.ref (a_Unwinding_destroy K)) = true := T.f_Unwinding_destroy.kp
theorem Tx.b_Unwinding_destroy (T : Tx K mg) : Binds K (fd_Unwinding_destroy K) ["self", "node", "depth"] [] := FunD.bindsN (ps := ["self", "node", "depth"]) T.f_Unwinding_destroy fun _ _ _ _ _ _ us hl => match us, hl with | [_, _, _], _ => rfl
abbrev a_Unwinding_unwind (K : PySem.W.Frag) : Addr := He.fAd K ("Unwinding", some "unwind")
noncomputable abbrev fd_Unwinding_unwind (K : PySem.W.Frag) : FuncData := fdOf K d_Unwinding_unwind
abbrev F_Unwinding_unwind (K : PySem.W.Frag) : Prop := FunD K "unwind" "Unwinding.unwind" (defArgs s_Unwinding_unwind) (defBody s_Unwinding_unwind) (defScope s_Unwinding_unwind) (d_Unwinding_unwind.dvs K) (d_Unwinding_unwind.kws K) (a_Unwinding_unwind K) (fd_Unwinding_unwind K)
theorem Tx.f_Unwinding_unwind (T : Tx K mg) : F_Unwinding_unwind K := T.fun_ 16 (d := d_Unwinding_unwind) rfl
theorem Tx.k_Unwinding_unwind (T : Tx K mg) : PySem.W.keepIn K (.ref (a_Unwinding_unwind K)) = true := T.f_Unwinding_unwind.kp
theorem Tx.b_Unwinding_unwind (T : Tx K mg) : Binds K (fd_Unwinding_unwind K) ["self", "holder", "slot", "node"] [] := FunD.bindsN (ps := ["self", "holder", "slot", "node"]) T.f_Unwinding_unwind fun _ _ _ _ _ _ us hl => match us, hl with | [_, _, _, _], _ => rfl
abbrev a_Unwinding_drop_outside (K : PySem.W.Frag) : Addr := He.fAd K ("Unwinding", some "drop_outside")
noncomputable abbrev fd_Unwinding_drop_outside (K : PySem.W.Frag) : FuncData := fdOf K d_Unwinding_drop_outside
abbrev F_Unwinding_drop_outside (K : PySem.W.Frag) : Prop := FunD K "drop_outside" "Unwinding.drop_outside" (defArgs s_Unwinding_drop_outside) (defBody s_Unwinding_drop_outside) (defScope s_Unwinding_drop_outside) (d_Unwinding_drop_outside.dvs K) (d_Unwinding_drop_outside.kws K) (a_Unwinding_drop_outside K) (fd_Unwinding_drop_outside K)
theorem Tx.f_Unwinding_drop_outside (T : Tx K mg) : F_Unwinding_drop_outside K := T.fun_ 17 (d := d_Unwinding_drop_outside) rfl
theorem Tx.k_Unwinding_drop_outside (T : Tx K mg) : PySem.W.keepIn K (.ref (a_Unwinding_drop_outside K)) = true := T.f_Unwinding_drop_outside.kp
theorem Tx.b_Unwinding_drop_outside (T : Tx K mg) : Binds K (fd_Unwinding_drop_outside K) ["self", "node"] [] := FunD.bindsN (ps := ["self", "node"]) T.f_Unwinding_drop_outside fun _ _ _ _ _ _ us hl => match us, hl with | [_, _], _ => rfl
abbrev a_Unwinding_fill (K : PySem.W.Frag) : Addr := He.fAd K ("Unwinding", some "fill")
noncomputable abbrev fd_Unwinding_fill (K : PySem.W.Frag) : FuncData := fdOf K d_Unwinding_fill
abbrev F_Unwinding_fill (K : PySem.W.Frag) : Prop := FunD K "fill" "Unwinding.fill" (defArgs s_Unwinding_fill) (defBody s_Unwinding_fill) (defScope s_Unwinding_fill) (d_Unwinding_fill.dvs K) (d_Unwinding_fill.kws K) (a_Unwinding_fill K) (fd_Unwinding_fill K)
theorem Tx.f_Unwinding_fill (T : Tx K mg) : F_Unwinding_fill K := T.fun_ 18 (d := d_Unwinding_fill) rfl
theorem Tx.k_Unwinding_fill (T : Tx K mg) : PySem.W.keepIn K (.ref (a_Unwinding_fill K)) = true := T.f_Unwinding_fill.kp
theorem Tx.b_Unwinding_fill (T : Tx K mg) : Binds K (fd_Unwinding_fill K) ["self", "node", "slot", "target"] [] := FunD.bindsN (ps := ["self", "node", "slot", "target"]) T.f_Unwinding_fill fun _ _ _ _ _ _ us hl => match us, hl with | [_, _, _, _], _ => rfl
abbrev a_Unwinding_strip (K : PySem.W.Frag) : Addr := He.fAd K ("Unwinding", some "strip")
noncomputable abbrev fd_Unwinding_strip (K : PySem.W.Frag) : FuncData := fdOf K d_Unwinding_strip
abbrev F_Unwinding_strip (K : PySem.W.Frag) : Prop := FunD K "strip" "Unwinding.strip" (defArgs s_Unwinding_strip) (defBody s_Unwinding_strip) (defScope s_Unwinding_strip) (d_Unwinding_strip.dvs K) (d_Unwinding_strip.kws K) (a_Unwinding_strip K) (fd_Unwinding_strip K)
theorem Tx.f_Unwinding_strip (T : Tx K mg) : F_Unwinding_strip K := T.fun_ 19 (d := d_Unwinding_strip) rfl
theorem Tx.k_Unwinding_strip (T : Tx K mg) : PySem.W.keepIn K (.ref (a_Unwinding_strip K)) = true := T.f_Unwinding_strip.kp
theorem Tx.b_Unwinding_strip (T : Tx K mg) : Binds K (fd_Unwinding_strip K) ["self", "node"] [] := FunD.bindsN (ps := ["self", "node"]) T.f_Unwinding_strip fun _ _ _ _ _ _ us hl => match us, hl with | [_, _], _ => rfl
abbrev a_Unwinding_heap (K : PySem.W.Frag) : Addr := He.fAd K ("Unwinding", some "heap")
noncomputable abbrev fd_Unwinding_heap (K : PySem.W.Frag) : FuncData := fdOf K d_Unwinding_heap
abbrev F_Unwinding_heap (K : PySem.W.Frag) : Prop := FunD K "heap" "Unwinding.heap" (defArgs s_Unwinding_heap) (defBody s_Unwinding_heap) (defScope s_Unwinding_heap) (d_Unwinding_heap.dvs K) (d_Unwinding_heap.kws K) (a_Unwinding_heap K) (fd_Unwinding_heap K)
theorem Tx.f_Unwinding_heap (T : Tx K mg) : F_Unwinding_heap K := T.fun_ 20 (d := d_Unwinding_heap) rfl
theorem Tx.k_Unwinding_heap (T : Tx K mg) : PySem.W.keepIn K (.ref (a_Unwinding_heap K)) = true := T.f_Unwinding_heap.kp
theorem Tx.b_Unwinding_heap (T : Tx K mg) : Binds K (fd_Unwinding_heap K) ["self"] [] := FunD.bindsN (ps := ["self"]) T.f_Unwinding_heap fun _ _ _ _ _ _ us hl => match us, hl with | [_], _ => rfl
abbrev a_Unwinding_result (K : PySem.W.Frag) : Addr := He.fAd K ("Unwinding", some "result")
noncomputable abbrev fd_Unwinding_result (K : PySem.W.Frag) : FuncData := fdOf K d_Unwinding_result
abbrev F_Unwinding_result (K : PySem.W.Frag) : Prop := FunD K "result" "Unwinding.result" (defArgs s_Unwinding_result) (defBody s_Unwinding_result) (defScope s_Unwinding_result) (d_Unwinding_result.dvs K) (d_Unwinding_result.kws K) (a_Unwinding_result K) (fd_Unwinding_result K)
theorem Tx.f_Unwinding_result (T : Tx K mg) : F_Unwinding_result K := T.fun_ 21 (d := d_Unwinding_result) rfl
theorem Tx.k_Unwinding_result (T : Tx K mg) : PySem.W.keepIn K (.ref (a_Unwinding_result K)) = true := T.f_Unwinding_result.kp
theorem Tx.b_Unwinding_result (T : Tx K mg) : Binds K (fd_Unwinding_result K) ["self"] [] := FunD.bindsN (ps := ["self"]) T.f_Unwinding_result fun _ _ _ _ _ _ us hl => match us, hl with | [_], _ => rfl
abbrev a_require_slot (K : PySem.W.Frag) : Addr := He.fAd K ("require_slot", none)
noncomputable abbrev fd_require_slot (K : PySem.W.Frag) : FuncData := fdOf K d_require_slot
abbrev F_require_slot (K : PySem.W.Frag) : Prop := FunD K "require_slot" "require_slot" (defArgs s_require_slot) (defBody s_require_slot) (defScope s_require_slot) (d_require_slot.dvs K) (d_require_slot.kws K) (a_require_slot K) (fd_require_slot K)
theorem Tx.f_require_slot (T : Tx K mg) : F_require_slot K := T.fun_ 22 (d := d_require_slot) rfl
theorem Tx.k_require_slot (T : Tx K mg) : PySem.W.keepIn K (.ref (a_require_slot K)) = true := T.f_require_slot.kp
theorem Tx.b_require_slot (T : Tx K mg) : Binds K (fd_require_slot K) ["heap", "node", "slot"] [] := FunD.bindsN (ps := ["heap", "node", "slot"]) T.f_require_slot fun _ _ _ _ _ _ us hl => match us, hl with | [_, _, _], _ => rfl
abbrev a_require_fill (K : PySem.W.Frag) : Addr := He.fAd K ("require_fill", none)
noncomputable abbrev fd_require_fill (K : PySem.W.Frag) : FuncData := fdOf K d_require_fill
abbrev F_require_fill (K : PySem.W.Frag) : Prop := FunD K "require_fill" "require_fill" (defArgs s_require_fill) (defBody s_require_fill) (defScope s_require_fill) (d_require_fill.dvs K) (d_require_fill.kws K) (a_require_fill K) (fd_require_fill K)
theorem Tx.f_require_fill (T : Tx K mg) : F_require_fill K := T.fun_ 23 (d := d_require_fill) rfl
theorem Tx.k_require_fill (T : Tx K mg) : PySem.W.keepIn K (.ref (a_require_fill K)) = true := T.f_require_fill.kp
theorem Tx.b_require_fill (T : Tx K mg) : Binds K (fd_require_fill K) ["heap", "node", "slot", "target"] [] := FunD.bindsN (ps := ["heap", "node", "slot", "target"]) T.f_require_fill fun _ _ _ _ _ _ us hl => match us, hl with | [_, _, _, _], _ => rfl
abbrev a_drop (K : PySem.W.Frag) : Addr := He.fAd K ("drop", none)
noncomputable abbrev fd_drop (K : PySem.W.Frag) : FuncData := fdOf K d_drop
abbrev F_drop (K : PySem.W.Frag) : Prop := FunD K "drop" "drop" (defArgs s_drop) (defBody s_drop) (defScope s_drop) (d_drop.dvs K) (d_drop.kws K) (a_drop K) (fd_drop K)
theorem Tx.f_drop (T : Tx K mg) : F_drop K := T.fun_ 24 (d := d_drop) rfl
theorem Tx.k_drop (T : Tx K mg) : PySem.W.keepIn K (.ref (a_drop K)) = true := T.f_drop.kp
abbrev a_set_slot (K : PySem.W.Frag) : Addr := He.fAd K ("set_slot", none)
noncomputable abbrev fd_set_slot (K : PySem.W.Frag) : FuncData := fdOf K d_set_slot
abbrev F_set_slot (K : PySem.W.Frag) : Prop := FunD K "set_slot" "set_slot" (defArgs s_set_slot) (defBody s_set_slot) (defScope s_set_slot) (d_set_slot.dvs K) (d_set_slot.kws K) (a_set_slot K) (fd_set_slot K)
theorem Tx.f_set_slot (T : Tx K mg) : F_set_slot K := T.fun_ 25 (d := d_set_slot) rfl
theorem Tx.k_set_slot (T : Tx K mg) : PySem.W.keepIn K (.ref (a_set_slot K)) = true := T.f_set_slot.kp
abbrev a_empty_slots (K : PySem.W.Frag) : Addr := He.fAd K ("empty_slots", none)
noncomputable abbrev fd_empty_slots (K : PySem.W.Frag) : FuncData := fdOf K d_empty_slots
abbrev F_empty_slots (K : PySem.W.Frag) : Prop := FunD K "empty_slots" "empty_slots" (defArgs s_empty_slots) (defBody s_empty_slots) (defScope s_empty_slots) (d_empty_slots.dvs K) (d_empty_slots.kws K) (a_empty_slots K) (fd_empty_slots K)
theorem Tx.f_empty_slots (T : Tx K mg) : F_empty_slots K := T.fun_ 26 (d := d_empty_slots) rfl
theorem Tx.k_empty_slots (T : Tx K mg) : PySem.W.keepIn K (.ref (a_empty_slots K)) = true := T.f_empty_slots.kp
abbrev a_held_nodes (K : PySem.W.Frag) : Addr := He.fAd K ("held_nodes", none)
noncomputable abbrev fd_held_nodes (K : PySem.W.Frag) : FuncData := fdOf K d_held_nodes
abbrev F_held_nodes (K : PySem.W.Frag) : Prop := FunD K "held_nodes" "held_nodes" (defArgs s_held_nodes) (defBody s_held_nodes) (defScope s_held_nodes) (d_held_nodes.dvs K) (d_held_nodes.kws K) (a_held_nodes K) (fd_held_nodes K)
theorem Tx.f_held_nodes (T : Tx K mg) : F_held_nodes K := T.fun_ 27 (d := d_held_nodes) rfl
theorem Tx.k_held_nodes (T : Tx K mg) : PySem.W.keepIn K (.ref (a_held_nodes K)) = true := T.f_held_nodes.kp
theorem Tx.b_held_nodes (T : Tx K mg) : Binds K (fd_held_nodes K) ["heap", "node"] [] := FunD.bindsN (ps := ["heap", "node"]) T.f_held_nodes fun _ _ _ _ _ _ us hl => match us, hl with | [_, _], _ => rfl
abbrev a_came_from (K : PySem.W.Frag) : Addr := He.fAd K ("came_from", none)
noncomputable abbrev fd_came_from (K : PySem.W.Frag) : FuncData := fdOf K d_came_from
abbrev F_came_from (K : PySem.W.Frag) : Prop := FunD K "came_from" "came_from" (defArgs s_came_from) (defBody s_came_from) (defScope s_came_from) (d_came_from.dvs K) (d_came_from.kws K) (a_came_from K) (fd_came_from K)
theorem Tx.f_came_from (T : Tx K mg) : F_came_from K := T.fun_ 28 (d := d_came_from) rfl
theorem Tx.k_came_from (T : Tx K mg) : PySem.W.keepIn K (.ref (a_came_from K)) = true := T.f_came_from.kp
theorem Tx.b_came_from (T : Tx K mg) : Binds K (fd_came_from K) ["heap", "starts"] [] := FunD.bindsN (ps := ["heap", "starts"]) T.f_came_from fun _ _ _ _ _ _ us hl => match us, hl with | [_, _], _ => rfl
abbrev a_nodes_with_outside (K : PySem.W.Frag) : Addr := He.fAd K ("nodes_with_outside", none)
noncomputable abbrev fd_nodes_with_outside (K : PySem.W.Frag) : FuncData := fdOf K d_nodes_with_outside
abbrev F_nodes_with_outside (K : PySem.W.Frag) : Prop := FunD K "nodes_with_outside" "nodes_with_outside" (defArgs s_nodes_with_outside) (defBody s_nodes_with_outside) (defScope s_nodes_with_outside) (d_nodes_with_outside.dvs K) (d_nodes_with_outside.kws K) (a_nodes_with_outside K) (fd_nodes_with_outside K)
theorem Tx.f_nodes_with_outside (T : Tx K mg) : F_nodes_with_outside K := T.fun_ 29 (d := d_nodes_with_outside) rfl
theorem Tx.k_nodes_with_outside (T : Tx K mg) : PySem.W.keepIn K (.ref (a_nodes_with_outside K)) = true := T.f_nodes_with_outside.kp
theorem Tx.b_nodes_with_outside (T : Tx K mg) : Binds K (fd_nodes_with_outside K) ["heap"] [] := FunD.bindsN (ps := ["heap"]) T.f_nodes_with_outside fun _ _ _ _ _ _ us hl => match us, hl with | [_], _ => rfl
abbrev a_reachable (K : PySem.W.Frag) : Addr := He.fAd K ("reachable", none)
noncomputable abbrev fd_reachable (K : PySem.W.Frag) : FuncData := fdOf K d_reachable
abbrev F_reachable (K : PySem.W.Frag) : Prop := FunD K "reachable" "reachable" (defArgs s_reachable) (defBody s_reachable) (defScope s_reachable) (d_reachable.dvs K) (d_reachable.kws K) (a_reachable K) (fd_reachable K)
theorem Tx.f_reachable (T : Tx K mg) : F_reachable K := T.fun_ 30 (d := d_reachable) rfl
theorem Tx.k_reachable (T : Tx K mg) : PySem.W.keepIn K (.ref (a_reachable K)) = true := T.f_reachable.kp
theorem Tx.b_reachable (T : Tx K mg) : Binds K (fd_reachable K) ["heap"] [] := FunD.bindsN (ps := ["heap"]) T.f_reachable fun _ _ _ _ _ _ us hl => match us, hl with | [_], _ => rfl
abbrev a_unreachable (K : PySem.W.Frag) : Addr := He.fAd K ("unreachable", none)
noncomputable abbrev fd_unreachable (K : PySem.W.Frag) : FuncData := fdOf K d_unreachable
abbrev F_unreachable (K : PySem.W.Frag) : Prop := FunD K "unreachable" "unreachable" (defArgs s_unreachable) (defBody s_unreachable) (defScope s_unreachable) (d_unreachable.dvs K) (d_unreachable.kws K) (a_unreachable K) (fd_unreachable K)
theorem Tx.f_unreachable (T : Tx K mg) : F_unreachable K := T.fun_ 31 (d := d_unreachable) rfl
theorem Tx.k_unreachable (T : Tx K mg) : PySem.W.keepIn K (.ref (a_unreachable K)) = true := T.f_unreachable.kp
theorem Tx.b_unreachable (T : Tx K mg) : Binds K (fd_unreachable K) ["heap"] [] := FunD.bindsN (ps := ["heap"]) T.f_unreachable fun _ _ _ _ _ _ us hl => match us, hl with | [_], _ => rfl
abbrev a_reach_certificate (K : PySem.W.Frag) : Addr := He.fAd K ("reach_certificate", none)
noncomputable abbrev fd_reach_certificate (K : PySem.W.Frag) : FuncData := fdOf K d_reach_certificate
abbrev F_reach_certificate (K : PySem.W.Frag) : Prop := FunD K "reach_certificate" "reach_certificate" (defArgs s_reach_certificate) (defBody s_reach_certificate) (defScope s_reach_certificate) (d_reach_certificate.dvs K) (d_reach_certificate.kws K) (a_reach_certificate K) (fd_reach_certificate K)
theorem Tx.f_reach_certificate (T : Tx K mg) : F_reach_certificate K := T.fun_ 32 (d := d_reach_certificate) rfl
theorem Tx.k_reach_certificate (T : Tx K mg) : PySem.W.keepIn K (.ref (a_reach_certificate K)) = true := T.f_reach_certificate.kp
theorem Tx.b_reach_certificate (T : Tx K mg) : Binds K (fd_reach_certificate K) ["heap", "node"] [] := FunD.bindsN (ps := ["heap", "node"]) T.f_reach_certificate fun _ _ _ _ _ _ us hl => match us, hl with | [_, _], _ => rfl
abbrev a_strip_all (K : PySem.W.Frag) : Addr := He.fAd K ("strip_all", none)
noncomputable abbrev fd_strip_all (K : PySem.W.Frag) : FuncData := fdOf K d_strip_all
abbrev F_strip_all (K : PySem.W.Frag) : Prop := FunD K "strip_all" "strip_all" (defArgs s_strip_all) (defBody s_strip_all) (defScope s_strip_all) (d_strip_all.dvs K) (d_strip_all.kws K) (a_strip_all K) (fd_strip_all K)
theorem Tx.f_strip_all (T : Tx K mg) : F_strip_all K := T.fun_ 33 (d := d_strip_all) rfl
theorem Tx.k_strip_all (T : Tx K mg) : PySem.W.keepIn K (.ref (a_strip_all K)) = true := T.f_strip_all.kp
theorem Tx.b_strip_all (T : Tx K mg) : Binds K (fd_strip_all K) ["run", "nodes"] [] := FunD.bindsN (ps := ["run", "nodes"]) T.f_strip_all fun _ _ _ _ _ _ us hl => match us, hl with | [_, _], _ => rfl
abbrev a_collect (K : PySem.W.Frag) : Addr := He.fAd K ("collect", none)
noncomputable abbrev fd_collect (K : PySem.W.Frag) : FuncData := fdOf K d_collect
abbrev F_collect (K : PySem.W.Frag) : Prop := FunD K "collect" "collect" (defArgs s_collect) (defBody s_collect) (defScope s_collect) (d_collect.dvs K) (d_collect.kws K) (a_collect K) (fd_collect K)
theorem Tx.f_collect (T : Tx K mg) : F_collect K := T.fun_ 34 (d := d_collect) rfl
theorem Tx.k_collect (T : Tx K mg) : PySem.W.keepIn K (.ref (a_collect K)) = true := T.f_collect.kp
abbrev a_with_node (K : PySem.W.Frag) : Addr := He.fAd K ("with_node", none)
noncomputable abbrev fd_with_node (K : PySem.W.Frag) : FuncData := fdOf K d_with_node
abbrev F_with_node (K : PySem.W.Frag) : Prop := FunD K "with_node" "with_node" (defArgs s_with_node) (defBody s_with_node) (defScope s_with_node) (d_with_node.dvs K) (d_with_node.kws K) (a_with_node K) (fd_with_node K)
theorem Tx.f_with_node (T : Tx K mg) : F_with_node K := T.fun_ 35 (d := d_with_node) rfl
theorem Tx.k_with_node (T : Tx K mg) : PySem.W.keepIn K (.ref (a_with_node K)) = true := T.f_with_node.kp
theorem Tx.b_with_node (T : Tx K mg) : Binds K (fd_with_node K) ["heap", "node", "width"] [] := FunD.bindsN (ps := ["heap", "node", "width"]) T.f_with_node fun _ _ _ _ _ _ us hl => match us, hl with | [_, _, _], _ => rfl
abbrev a_with_reference (K : PySem.W.Frag) : Addr := He.fAd K ("with_reference", none)
noncomputable abbrev fd_with_reference (K : PySem.W.Frag) : FuncData := fdOf K d_with_reference
abbrev F_with_reference (K : PySem.W.Frag) : Prop := FunD K "with_reference" "with_reference" (defArgs s_with_reference) (defBody s_with_reference) (defScope s_with_reference) (d_with_reference.dvs K) (d_with_reference.kws K) (a_with_reference K) (fd_with_reference K)
theorem Tx.f_with_reference (T : Tx K mg) : F_with_reference K := T.fun_ 36 (d := d_with_reference) rfl
theorem Tx.k_with_reference (T : Tx K mg) : PySem.W.keepIn K (.ref (a_with_reference K)) = true := T.f_with_reference.kp
theorem Tx.b_with_reference (T : Tx K mg) : Binds K (fd_with_reference K) ["heap", "node"] [] := FunD.bindsN (ps := ["heap", "node"]) T.f_with_reference fun _ _ _ _ _ _ us hl => match us, hl with | [_, _], _ => rfl
abbrev a_still_referenced (K : PySem.W.Frag) : Addr := He.fAd K ("still_referenced", none)
noncomputable abbrev fd_still_referenced (K : PySem.W.Frag) : FuncData := fdOf K d_still_referenced
abbrev F_still_referenced (K : PySem.W.Frag) : Prop := FunD K "still_referenced" "still_referenced" (defArgs s_still_referenced) (defBody s_still_referenced) (defScope s_still_referenced) (d_still_referenced.dvs K) (d_still_referenced.kws K) (a_still_referenced K) (fd_still_referenced K)
theorem Tx.f_still_referenced (T : Tx K mg) : F_still_referenced K := T.fun_ 37 (d := d_still_referenced) rfl
theorem Tx.k_still_referenced (T : Tx K mg) : PySem.W.keepIn K (.ref (a_still_referenced K)) = true := T.f_still_referenced.kp
theorem Tx.b_still_referenced (T : Tx K mg) : Binds K (fd_still_referenced K) ["events"] [] := FunD.bindsN (ps := ["events"]) T.f_still_referenced fun _ _ _ _ _ _ us hl => match us, hl with | [_], _ => rfl
abbrev a_Store_init (K : PySem.W.Frag) : Addr := He.fAd K ("Store", some "__init__")
noncomputable abbrev fd_Store_init (K : PySem.W.Frag) : FuncData := fdOf K d_Store_init
abbrev F_Store_init (K : PySem.W.Frag) : Prop := FunD K "__init__" "Store.__init__" (defArgs s_Store_init) (defBody s_Store_init) (defScope s_Store_init) (d_Store_init.dvs K) (d_Store_init.kws K) (a_Store_init K) (fd_Store_init K)
theorem Tx.f_Store_init (T : Tx K mg) : F_Store_init K := T.fun_ 38 (d := d_Store_init) rfl
theorem Tx.k_Store_init (T : Tx K mg) : PySem.W.keepIn K (.ref (a_Store_init K)) = true := T.f_Store_init.kp
abbrev a_Store_require_idle (K : PySem.W.Frag) : Addr := He.fAd K ("Store", some "require_idle")
noncomputable abbrev fd_Store_require_idle (K : PySem.W.Frag) : FuncData := fdOf K d_Store_require_idle
abbrev F_Store_require_idle (K : PySem.W.Frag) : Prop := FunD K "require_idle" "Store.require_idle" (defArgs s_Store_require_idle) (defBody s_Store_require_idle) (defScope s_Store_require_idle) (d_Store_require_idle.dvs K) (d_Store_require_idle.kws K) (a_Store_require_idle K) (fd_Store_require_idle K)
theorem Tx.f_Store_require_idle (T : Tx K mg) : F_Store_require_idle K := T.fun_ 39 (d := d_Store_require_idle) rfl
theorem Tx.k_Store_require_idle (T : Tx K mg) : PySem.W.keepIn K (.ref (a_Store_require_idle K)) = true := T.f_Store_require_idle.kp
theorem Tx.b_Store_require_idle (T : Tx K mg) : Binds K (fd_Store_require_idle K) ["self"] [] := FunD.bindsN (ps := ["self"]) T.f_Store_require_idle fun _ _ _ _ _ _ us hl => match us, hl with | [_], _ => rfl
abbrev a_Store_notify (K : PySem.W.Frag) : Addr := He.fAd K ("Store", some "notify")
noncomputable abbrev fd_Store_notify (K : PySem.W.Frag) : FuncData := fdOf K d_Store_notify
abbrev F_Store_notify (K : PySem.W.Frag) : Prop := FunD K "notify" "Store.notify" (defArgs s_Store_notify) (defBody s_Store_notify) (defScope s_Store_notify) (d_Store_notify.dvs K) (d_Store_notify.kws K) (a_Store_notify K) (fd_Store_notify K)
theorem Tx.f_Store_notify (T : Tx K mg) : F_Store_notify K := T.fun_ 40 (d := d_Store_notify) rfl
theorem Tx.k_Store_notify (T : Tx K mg) : PySem.W.keepIn K (.ref (a_Store_notify K)) = true := T.f_Store_notify.kp
theorem Tx.b_Store_notify (T : Tx K mg) : Binds K (fd_Store_notify K) ["self", "name", "log"] [] := FunD.bindsN (ps := ["self", "name", "log"]) T.f_Store_notify fun _ _ _ _ _ _ us hl => match us, hl with | [_, _, _], _ => rfl
abbrev a_Store_commit (K : PySem.W.Frag) : Addr := He.fAd K ("Store", some "commit")
noncomputable abbrev fd_Store_commit (K : PySem.W.Frag) : FuncData := fdOf K d_Store_commit
abbrev F_Store_commit (K : PySem.W.Frag) : Prop := FunD K "commit" "Store.commit" (defArgs s_Store_commit) (defBody s_Store_commit) (defScope s_Store_commit) (d_Store_commit.dvs K) (d_Store_commit.kws K) (a_Store_commit K) (fd_Store_commit K)
theorem Tx.f_Store_commit (T : Tx K mg) : F_Store_commit K := T.fun_ 41 (d := d_Store_commit) rfl
theorem Tx.k_Store_commit (T : Tx K mg) : PySem.W.keepIn K (.ref (a_Store_commit K)) = true := T.f_Store_commit.kp
theorem Tx.b_Store_commit (T : Tx K mg) : Binds K (fd_Store_commit K) ["self", "action", "log", "snapshot"] [] := FunD.bindsN (ps := ["self", "action", "log", "snapshot"]) T.f_Store_commit fun _ _ _ _ _ _ us hl => match us, hl with | [_, _, _, _], _ => rfl
abbrev a_Store_commit_run (K : PySem.W.Frag) : Addr := He.fAd K ("Store", some "commit_run")
noncomputable abbrev fd_Store_commit_run (K : PySem.W.Frag) : FuncData := fdOf K d_Store_commit_run
abbrev F_Store_commit_run (K : PySem.W.Frag) : Prop := FunD K "commit_run" "Store.commit_run" (defArgs s_Store_commit_run) (defBody s_Store_commit_run) (defScope s_Store_commit_run) (d_Store_commit_run.dvs K) (d_Store_commit_run.kws K) (a_Store_commit_run K) (fd_Store_commit_run K)
theorem Tx.f_Store_commit_run (T : Tx K mg) : F_Store_commit_run K := T.fun_ 42 (d := d_Store_commit_run) rfl
theorem Tx.k_Store_commit_run (T : Tx K mg) : PySem.W.keepIn K (.ref (a_Store_commit_run K)) = true := T.f_Store_commit_run.kp
theorem Tx.b_Store_commit_run (T : Tx K mg) : Binds K (fd_Store_commit_run K) ["self", "action", "run"] [] := FunD.bindsN (ps := ["self", "action", "run"]) T.f_Store_commit_run fun _ _ _ _ _ _ us hl => match us, hl with | [_, _, _], _ => rfl
abbrev a_Store_begin (K : PySem.W.Frag) : Addr := He.fAd K ("Store", some "begin")
noncomputable abbrev fd_Store_begin (K : PySem.W.Frag) : FuncData := fdOf K d_Store_begin
abbrev F_Store_begin (K : PySem.W.Frag) : Prop := FunD K "begin" "Store.begin" (defArgs s_Store_begin) (defBody s_Store_begin) (defScope s_Store_begin) (d_Store_begin.dvs K) (d_Store_begin.kws K) (a_Store_begin K) (fd_Store_begin K)
theorem Tx.f_Store_begin (T : Tx K mg) : F_Store_begin K := T.fun_ 43 (d := d_Store_begin) rfl
theorem Tx.k_Store_begin (T : Tx K mg) : PySem.W.keepIn K (.ref (a_Store_begin K)) = true := T.f_Store_begin.kp
theorem Tx.b_Store_begin (T : Tx K mg) : Binds K (fd_Store_begin K) ["self"] [] := FunD.bindsN (ps := ["self"]) T.f_Store_begin fun _ _ _ _ _ _ us hl => match us, hl with | [_], _ => rfl
abbrev a_Store_new (K : PySem.W.Frag) : Addr := He.fAd K ("Store", some "new")
noncomputable abbrev fd_Store_new (K : PySem.W.Frag) : FuncData := fdOf K d_Store_new
abbrev F_Store_new (K : PySem.W.Frag) : Prop := FunD K "new" "Store.new" (defArgs s_Store_new) (defBody s_Store_new) (defScope s_Store_new) (d_Store_new.dvs K) (d_Store_new.kws K) (a_Store_new K) (fd_Store_new K)
theorem Tx.f_Store_new (T : Tx K mg) : F_Store_new K := T.fun_ 44 (d := d_Store_new) rfl
theorem Tx.k_Store_new (T : Tx K mg) : PySem.W.keepIn K (.ref (a_Store_new K)) = true := T.f_Store_new.kp
abbrev a_Store_hold (K : PySem.W.Frag) : Addr := He.fAd K ("Store", some "hold")
noncomputable abbrev fd_Store_hold (K : PySem.W.Frag) : FuncData := fdOf K d_Store_hold
abbrev F_Store_hold (K : PySem.W.Frag) : Prop := FunD K "hold" "Store.hold" (defArgs s_Store_hold) (defBody s_Store_hold) (defScope s_Store_hold) (d_Store_hold.dvs K) (d_Store_hold.kws K) (a_Store_hold K) (fd_Store_hold K)
theorem Tx.f_Store_hold (T : Tx K mg) : F_Store_hold K := T.fun_ 45 (d := d_Store_hold) rfl
theorem Tx.k_Store_hold (T : Tx K mg) : PySem.W.keepIn K (.ref (a_Store_hold K)) = true := T.f_Store_hold.kp
theorem Tx.b_Store_hold (T : Tx K mg) : Binds K (fd_Store_hold K) ["self", "node"] [] := FunD.bindsN (ps := ["self", "node"]) T.f_Store_hold fun _ _ _ _ _ _ us hl => match us, hl with | [_, _], _ => rfl
abbrev a_Store_drop (K : PySem.W.Frag) : Addr := He.fAd K ("Store", some "drop")
noncomputable abbrev fd_Store_drop (K : PySem.W.Frag) : FuncData := fdOf K d_Store_drop
abbrev F_Store_drop (K : PySem.W.Frag) : Prop := FunD K "drop" "Store.drop" (defArgs s_Store_drop) (defBody s_Store_drop) (defScope s_Store_drop) (d_Store_drop.dvs K) (d_Store_drop.kws K) (a_Store_drop K) (fd_Store_drop K)
theorem Tx.f_Store_drop (T : Tx K mg) : F_Store_drop K := T.fun_ 46 (d := d_Store_drop) rfl
theorem Tx.k_Store_drop (T : Tx K mg) : PySem.W.keepIn K (.ref (a_Store_drop K)) = true := T.f_Store_drop.kp
theorem Tx.b_Store_drop (T : Tx K mg) : Binds K (fd_Store_drop K) ["self", "node"] [] := FunD.bindsN (ps := ["self", "node"]) T.f_Store_drop fun _ _ _ _ _ _ us hl => match us, hl with | [_, _], _ => rfl
abbrev a_Store_put (K : PySem.W.Frag) : Addr := He.fAd K ("Store", some "put")
noncomputable abbrev fd_Store_put (K : PySem.W.Frag) : FuncData := fdOf K d_Store_put
abbrev F_Store_put (K : PySem.W.Frag) : Prop := FunD K "put" "Store.put" (defArgs s_Store_put) (defBody s_Store_put) (defScope s_Store_put) (d_Store_put.dvs K) (d_Store_put.kws K) (a_Store_put K) (fd_Store_put K)
theorem Tx.f_Store_put (T : Tx K mg) : F_Store_put K := T.fun_ 47 (d := d_Store_put) rfl
theorem Tx.k_Store_put (T : Tx K mg) : PySem.W.keepIn K (.ref (a_Store_put K)) = true := T.f_Store_put.kp
theorem Tx.b_Store_put (T : Tx K mg) : Binds K (fd_Store_put K) ["self", "node", "slot", "target"] [] := FunD.bindsN (ps := ["self", "node", "slot", "target"]) T.f_Store_put fun _ _ _ _ _ _ us hl => match us, hl with | [_, _, _, _], _ => rfl
abbrev a_Store_empty_slots (K : PySem.W.Frag) : Addr := He.fAd K ("Store", some "empty_slots")
noncomputable abbrev fd_Store_empty_slots (K : PySem.W.Frag) : FuncData := fdOf K d_Store_empty_slots
abbrev F_Store_empty_slots (K : PySem.W.Frag) : Prop := FunD K "empty_slots" "Store.empty_slots" (defArgs s_Store_empty_slots) (defBody s_Store_empty_slots) (defScope s_Store_empty_slots) (d_Store_empty_slots.dvs K) (d_Store_empty_slots.kws K) (a_Store_empty_slots K) (fd_Store_empty_slots K)
theorem Tx.f_Store_empty_slots (T : Tx K mg) : F_Store_empty_slots K := T.fun_ 48 (d := d_Store_empty_slots) rfl
theorem Tx.k_Store_empty_slots (T : Tx K mg) : PySem.W.keepIn K (.ref (a_Store_empty_slots K)) = true := T.f_Store_empty_slots.kp
theorem Tx.b_Store_empty_slots (T : Tx K mg) : Binds K (fd_Store_empty_slots K) ["self", "node"] [] := FunD.bindsN (ps := ["self", "node"]) T.f_Store_empty_slots fun _ _ _ _ _ _ us hl => match us, hl with | [_, _], _ => rfl
abbrev a_Store_collect (K : PySem.W.Frag) : Addr := He.fAd K ("Store", some "collect")
noncomputable abbrev fd_Store_collect (K : PySem.W.Frag) : FuncData := fdOf K d_Store_collect
abbrev F_Store_collect (K : PySem.W.Frag) : Prop := FunD K "collect" "Store.collect" (defArgs s_Store_collect) (defBody s_Store_collect) (defScope s_Store_collect) (d_Store_collect.dvs K) (d_Store_collect.kws K) (a_Store_collect K) (fd_Store_collect K)
theorem Tx.f_Store_collect (T : Tx K mg) : F_Store_collect K := T.fun_ 49 (d := d_Store_collect) rfl
theorem Tx.k_Store_collect (T : Tx K mg) : PySem.W.keepIn K (.ref (a_Store_collect K)) = true := T.f_Store_collect.kp
theorem Tx.b_Store_collect (T : Tx K mg) : Binds K (fd_Store_collect K) ["self"] [] := FunD.bindsN (ps := ["self"]) T.f_Store_collect fun _ _ _ _ _ _ us hl => match us, hl with | [_], _ => rfl
abbrev a_Store_collect_local (K : PySem.W.Frag) : Addr := He.fAd K ("Store", some "collect_local")
noncomputable abbrev fd_Store_collect_local (K : PySem.W.Frag) : FuncData := fdOf K d_Store_collect_local
abbrev F_Store_collect_local (K : PySem.W.Frag) : Prop := FunD K "collect_local" "Store.collect_local" (defArgs s_Store_collect_local) (defBody s_Store_collect_local) (defScope s_Store_collect_local) (d_Store_collect_local.dvs K) (d_Store_collect_local.kws K) (a_Store_collect_local K) (fd_Store_collect_local K)
theorem Tx.f_Store_collect_local (T : Tx K mg) : F_Store_collect_local K := T.fun_ 50 (d := d_Store_collect_local) rfl
theorem Tx.k_Store_collect_local (T : Tx K mg) : PySem.W.keepIn K (.ref (a_Store_collect_local K)) = true := T.f_Store_collect_local.kp
theorem Tx.b_Store_collect_local (T : Tx K mg) : Binds K (fd_Store_collect_local K) ["self"] [] := FunD.bindsN (ps := ["self"]) T.f_Store_collect_local fun _ _ _ _ _ _ us hl => match us, hl with | [_], _ => rfl
abbrev a_Store_set_limit (K : PySem.W.Frag) : Addr := He.fAd K ("Store", some "set_limit")
noncomputable abbrev fd_Store_set_limit (K : PySem.W.Frag) : FuncData := fdOf K d_Store_set_limit
abbrev F_Store_set_limit (K : PySem.W.Frag) : Prop := FunD K "set_limit" "Store.set_limit" (defArgs s_Store_set_limit) (defBody s_Store_set_limit) (defScope s_Store_set_limit) (d_Store_set_limit.dvs K) (d_Store_set_limit.kws K) (a_Store_set_limit K) (fd_Store_set_limit K)
theorem Tx.f_Store_set_limit (T : Tx K mg) : F_Store_set_limit K := T.fun_ 51 (d := d_Store_set_limit) rfl
theorem Tx.k_Store_set_limit (T : Tx K mg) : PySem.W.keepIn K (.ref (a_Store_set_limit K)) = true := T.f_Store_set_limit.kp
theorem Tx.b_Store_set_limit (T : Tx K mg) : Binds K (fd_Store_set_limit K) ["self", "limit"] [] := FunD.bindsN (ps := ["self", "limit"]) T.f_Store_set_limit fun _ _ _ _ _ _ us hl => match us, hl with | [_, _], _ => rfl
abbrev a_Store_heap (K : PySem.W.Frag) : Addr := He.fAd K ("Store", some "heap")
noncomputable abbrev fd_Store_heap (K : PySem.W.Frag) : FuncData := fdOf K d_Store_heap
abbrev F_Store_heap (K : PySem.W.Frag) : Prop := FunD K "heap" "Store.heap" (defArgs s_Store_heap) (defBody s_Store_heap) (defScope s_Store_heap) (d_Store_heap.dvs K) (d_Store_heap.kws K) (a_Store_heap K) (fd_Store_heap K)
theorem Tx.f_Store_heap (T : Tx K mg) : F_Store_heap K := T.fun_ 52 (d := d_Store_heap) rfl
theorem Tx.k_Store_heap (T : Tx K mg) : PySem.W.keepIn K (.ref (a_Store_heap K)) = true := T.f_Store_heap.kp
theorem Tx.b_Store_heap (T : Tx K mg) : Binds K (fd_Store_heap K) ["self"] [] := FunD.bindsN (ps := ["self"]) T.f_Store_heap fun _ _ _ _ _ _ us hl => match us, hl with | [_], _ => rfl
abbrev a_Store_current_limit (K : PySem.W.Frag) : Addr := He.fAd K ("Store", some "current_limit")
noncomputable abbrev fd_Store_current_limit (K : PySem.W.Frag) : FuncData := fdOf K d_Store_current_limit
abbrev F_Store_current_limit (K : PySem.W.Frag) : Prop := FunD K "current_limit" "Store.current_limit" (defArgs s_Store_current_limit) (defBody s_Store_current_limit) (defScope s_Store_current_limit) (d_Store_current_limit.dvs K) (d_Store_current_limit.kws K) (a_Store_current_limit K) (fd_Store_current_limit K)
theorem Tx.f_Store_current_limit (T : Tx K mg) : F_Store_current_limit K := T.fun_ 53 (d := d_Store_current_limit) rfl
theorem Tx.k_Store_current_limit (T : Tx K mg) : PySem.W.keepIn K (.ref (a_Store_current_limit K)) = true := T.f_Store_current_limit.kp
theorem Tx.b_Store_current_limit (T : Tx K mg) : Binds K (fd_Store_current_limit K) ["self"] [] := FunD.bindsN (ps := ["self"]) T.f_Store_current_limit fun _ _ _ _ _ _ us hl => match us, hl with | [_], _ => rfl
abbrev a_Store_free_numbers (K : PySem.W.Frag) : Addr := He.fAd K ("Store", some "free_numbers")
noncomputable abbrev fd_Store_free_numbers (K : PySem.W.Frag) : FuncData := fdOf K d_Store_free_numbers
abbrev F_Store_free_numbers (K : PySem.W.Frag) : Prop := FunD K "free_numbers" "Store.free_numbers" (defArgs s_Store_free_numbers) (defBody s_Store_free_numbers) (defScope s_Store_free_numbers) (d_Store_free_numbers.dvs K) (d_Store_free_numbers.kws K) (a_Store_free_numbers K) (fd_Store_free_numbers K)
theorem Tx.f_Store_free_numbers (T : Tx K mg) : F_Store_free_numbers K := T.fun_ 54 (d := d_Store_free_numbers) rfl
theorem Tx.k_Store_free_numbers (T : Tx K mg) : PySem.W.keepIn K (.ref (a_Store_free_numbers K)) = true := T.f_Store_free_numbers.kp
theorem Tx.b_Store_free_numbers (T : Tx K mg) : Binds K (fd_Store_free_numbers K) ["self"] [] := FunD.bindsN (ps := ["self"]) T.f_Store_free_numbers fun _ _ _ _ _ _ us hl => match us, hl with | [_], _ => rfl
abbrev a_Store_candidates (K : PySem.W.Frag) : Addr := He.fAd K ("Store", some "candidates")
noncomputable abbrev fd_Store_candidates (K : PySem.W.Frag) : FuncData := fdOf K d_Store_candidates
abbrev F_Store_candidates (K : PySem.W.Frag) : Prop := FunD K "candidates" "Store.candidates" (defArgs s_Store_candidates) (defBody s_Store_candidates) (defScope s_Store_candidates) (d_Store_candidates.dvs K) (d_Store_candidates.kws K) (a_Store_candidates K) (fd_Store_candidates K)
theorem Tx.f_Store_candidates (T : Tx K mg) : F_Store_candidates K := T.fun_ 55 (d := d_Store_candidates) rfl
theorem Tx.k_Store_candidates (T : Tx K mg) : PySem.W.keepIn K (.ref (a_Store_candidates K)) = true := T.f_Store_candidates.kp
theorem Tx.b_Store_candidates (T : Tx K mg) : Binds K (fd_Store_candidates K) ["self"] [] := FunD.bindsN (ps := ["self"]) T.f_Store_candidates fun _ _ _ _ _ _ us hl => match us, hl with | [_], _ => rfl
abbrev a_Store_history (K : PySem.W.Frag) : Addr := He.fAd K ("Store", some "history")
noncomputable abbrev fd_Store_history (K : PySem.W.Frag) : FuncData := fdOf K d_Store_history
abbrev F_Store_history (K : PySem.W.Frag) : Prop := FunD K "history" "Store.history" (defArgs s_Store_history) (defBody s_Store_history) (defScope s_Store_history) (d_Store_history.dvs K) (d_Store_history.kws K) (a_Store_history K) (fd_Store_history K)
theorem Tx.f_Store_history (T : Tx K mg) : F_Store_history K := T.fun_ 56 (d := d_Store_history) rfl
theorem Tx.k_Store_history (T : Tx K mg) : PySem.W.keepIn K (.ref (a_Store_history K)) = true := T.f_Store_history.kp
theorem Tx.b_Store_history (T : Tx K mg) : Binds K (fd_Store_history K) ["self"] [] := FunD.bindsN (ps := ["self"]) T.f_Store_history fun _ _ _ _ _ _ us hl => match us, hl with | [_], _ => rfl
abbrev a_Store_destroyed (K : PySem.W.Frag) : Addr := He.fAd K ("Store", some "destroyed")
noncomputable abbrev fd_Store_destroyed (K : PySem.W.Frag) : FuncData := fdOf K d_Store_destroyed
abbrev F_Store_destroyed (K : PySem.W.Frag) : Prop := FunD K "destroyed" "Store.destroyed" (defArgs s_Store_destroyed) (defBody s_Store_destroyed) (defScope s_Store_destroyed) (d_Store_destroyed.dvs K) (d_Store_destroyed.kws K) (a_Store_destroyed K) (fd_Store_destroyed K)
theorem Tx.f_Store_destroyed (T : Tx K mg) : F_Store_destroyed K := T.fun_ 57 (d := d_Store_destroyed) rfl
theorem Tx.k_Store_destroyed (T : Tx K mg) : PySem.W.keepIn K (.ref (a_Store_destroyed K)) = true := T.f_Store_destroyed.kp
theorem Tx.b_Store_destroyed (T : Tx K mg) : Binds K (fd_Store_destroyed K) ["self"] [] := FunD.bindsN (ps := ["self"]) T.f_Store_destroyed fun _ _ _ _ _ _ us hl => match us, hl with | [_], _ => rfl
abbrev a_Store_len (K : PySem.W.Frag) : Addr := He.fAd K ("Store", some "__len__")
noncomputable abbrev fd_Store_len (K : PySem.W.Frag) : FuncData := fdOf K d_Store_len
abbrev F_Store_len (K : PySem.W.Frag) : Prop := FunD K "__len__" "Store.__len__" (defArgs s_Store_len) (defBody s_Store_len) (defScope s_Store_len) (d_Store_len.dvs K) (d_Store_len.kws K) (a_Store_len K) (fd_Store_len K)
theorem Tx.f_Store_len (T : Tx K mg) : F_Store_len K := T.fun_ 58 (d := d_Store_len) rfl
theorem Tx.k_Store_len (T : Tx K mg) : PySem.W.keepIn K (.ref (a_Store_len K)) = true := T.f_Store_len.kp
theorem Tx.b_Store_len (T : Tx K mg) : Binds K (fd_Store_len K) ["self"] [] := FunD.bindsN (ps := ["self"]) T.f_Store_len fun _ _ _ _ _ _ us hl => match us, hl with | [_], _ => rfl
abbrev a_require_pair (K : PySem.W.Frag) : Addr := He.fAd K ("require_pair", none)
noncomputable abbrev fd_require_pair (K : PySem.W.Frag) : FuncData := fdOf K d_require_pair
abbrev F_require_pair (K : PySem.W.Frag) : Prop := FunD K "require_pair" "require_pair" (defArgs s_require_pair) (defBody s_require_pair) (defScope s_require_pair) (d_require_pair.dvs K) (d_require_pair.kws K) (a_require_pair K) (fd_require_pair K)
theorem Tx.f_require_pair (T : Tx K mg) : F_require_pair K := T.fun_ 59 (d := d_require_pair) rfl
theorem Tx.k_require_pair (T : Tx K mg) : PySem.W.keepIn K (.ref (a_require_pair K)) = true := T.f_require_pair.kp
theorem Tx.b_require_pair (T : Tx K mg) : Binds K (fd_require_pair K) ["value", "labels"] [] := FunD.bindsN (ps := ["value", "labels"]) T.f_require_pair fun _ _ _ _ _ _ us hl => match us, hl with | [_, _], _ => rfl
abbrev a_check_path (K : PySem.W.Frag) : Addr := He.fAd K ("check_path", none)
noncomputable abbrev fd_check_path (K : PySem.W.Frag) : FuncData := fdOf K d_check_path
abbrev F_check_path (K : PySem.W.Frag) : Prop := FunD K "check_path" "check_path" (defArgs s_check_path) (defBody s_check_path) (defScope s_check_path) (d_check_path.dvs K) (d_check_path.kws K) (a_check_path K) (fd_check_path K)
theorem Tx.f_check_path (T : Tx K mg) : F_check_path K := T.fun_ 60 (d := d_check_path) rfl
theorem Tx.k_check_path (T : Tx K mg) : PySem.W.keepIn K (.ref (a_check_path K)) = true := T.f_check_path.kp
theorem Tx.b_check_path (T : Tx K mg) : Binds K (fd_check_path K) ["heap", "node", "path"] [] := FunD.bindsN (ps := ["heap", "node", "path"]) T.f_check_path fun _ _ _ _ _ _ us hl => match us, hl with | [_, _, _], _ => rfl
abbrev a_check_closed (K : PySem.W.Frag) : Addr := He.fAd K ("check_closed", none)
noncomputable abbrev fd_check_closed (K : PySem.W.Frag) : FuncData := fdOf K d_check_closed
abbrev F_check_closed (K : PySem.W.Frag) : Prop := FunD K "check_closed" "check_closed" (defArgs s_check_closed) (defBody s_check_closed) (defScope s_check_closed) (d_check_closed.dvs K) (d_check_closed.kws K) (a_check_closed K) (fd_check_closed K)
theorem Tx.f_check_closed (T : Tx K mg) : F_check_closed K := T.fun_ 61 (d := d_check_closed) rfl
theorem Tx.k_check_closed (T : Tx K mg) : PySem.W.keepIn K (.ref (a_check_closed K)) = true := T.f_check_closed.kp
theorem Tx.b_check_closed (T : Tx K mg) : Binds K (fd_check_closed K) ["heap", "node", "nodes"] [] := FunD.bindsN (ps := ["heap", "node", "nodes"]) T.f_check_closed fun _ _ _ _ _ _ us hl => match us, hl with | [_, _, _], _ => rfl
abbrev a_check_reach (K : PySem.W.Frag) : Addr := He.fAd K ("check_reach", none)
noncomputable abbrev fd_check_reach (K : PySem.W.Frag) : FuncData := fdOf K d_check_reach
abbrev F_check_reach (K : PySem.W.Frag) : Prop := FunD K "check_reach" "check_reach" (defArgs s_check_reach) (defBody s_check_reach) (defScope s_check_reach) (d_check_reach.dvs K) (d_check_reach.kws K) (a_check_reach K) (fd_check_reach K)
theorem Tx.f_check_reach (T : Tx K mg) : F_check_reach K := T.fun_ 62 (d := d_check_reach) rfl
theorem Tx.k_check_reach (T : Tx K mg) : PySem.W.keepIn K (.ref (a_check_reach K)) = true := T.f_check_reach.kp
theorem Tx.b_check_reach (T : Tx K mg) : Binds K (fd_check_reach K) ["heap", "node", "value"] [] := FunD.bindsN (ps := ["heap", "node", "value"]) T.f_check_reach fun _ _ _ _ _ _ us hl => match us, hl with | [_, _, _], _ => rfl
abbrev a_l_pen (K : PySem.W.Frag) : Addr := He.fAd K ("_law_pen", none)
noncomputable abbrev fd_l_pen (K : PySem.W.Frag) : FuncData := fdOf K d_l_pen
abbrev F_l_pen (K : PySem.W.Frag) : Prop := FunD K "_law_pen" "_law_pen" (defArgs s_l_pen) (defBody s_l_pen) (defScope s_l_pen) (d_l_pen.dvs K) (d_l_pen.kws K) (a_l_pen K) (fd_l_pen K)
theorem Tx.f_l_pen (T : Tx K mg) : F_l_pen K := T.fun_ 63 (d := d_l_pen) rfl
theorem Tx.k_l_pen (T : Tx K mg) : PySem.W.keepIn K (.ref (a_l_pen K)) = true := T.f_l_pen.kp
theorem Tx.b_l_pen (T : Tx K mg) : Binds K (fd_l_pen K) ["_law_script"] [] := FunD.bindsN (ps := ["_law_script"]) T.f_l_pen fun _ _ _ _ _ _ us hl => match us, hl with | [_], _ => rfl
abbrev a_l_draw (K : PySem.W.Frag) : Addr := He.fAd K ("_law_draw", none)
noncomputable abbrev fd_l_draw (K : PySem.W.Frag) : FuncData := fdOf K d_l_draw
abbrev F_l_draw (K : PySem.W.Frag) : Prop := FunD K "_law_draw" "_law_draw" (defArgs s_l_draw) (defBody s_l_draw) (defScope s_l_draw) (d_l_draw.dvs K) (d_l_draw.kws K) (a_l_draw K) (fd_l_draw K)
theorem Tx.f_l_draw (T : Tx K mg) : F_l_draw K := T.fun_ 64 (d := d_l_draw) rfl
theorem Tx.k_l_draw (T : Tx K mg) : PySem.W.keepIn K (.ref (a_l_draw K)) = true := T.f_l_draw.kp
theorem Tx.b_l_draw (T : Tx K mg) : Binds K (fd_l_draw K) ["_law_pen_here", "_law_most_one"] [] := FunD.bindsN (ps := ["_law_pen_here", "_law_most_one"]) T.f_l_draw fun _ _ _ _ _ _ us hl => match us, hl with | [_, _], _ => rfl
abbrev a_l_shuffled (K : PySem.W.Frag) : Addr := He.fAd K ("_law_shuffled", none)
noncomputable abbrev fd_l_shuffled (K : PySem.W.Frag) : FuncData := fdOf K d_l_shuffled
abbrev F_l_shuffled (K : PySem.W.Frag) : Prop := FunD K "_law_shuffled" "_law_shuffled" (defArgs s_l_shuffled) (defBody s_l_shuffled) (defScope s_l_shuffled) (d_l_shuffled.dvs K) (d_l_shuffled.kws K) (a_l_shuffled K) (fd_l_shuffled K)
theorem Tx.f_l_shuffled (T : Tx K mg) : F_l_shuffled K := T.fun_ 65 (d := d_l_shuffled) rfl
theorem Tx.k_l_shuffled (T : Tx K mg) : PySem.W.keepIn K (.ref (a_l_shuffled K)) = true := T.f_l_shuffled.kp
theorem Tx.b_l_shuffled (T : Tx K mg) : Binds K (fd_l_shuffled K) ["_law_pen_here", "_law_row"] [] := FunD.bindsN (ps := ["_law_pen_here", "_law_row"]) T.f_l_shuffled fun _ _ _ _ _ _ us hl => match us, hl with | [_, _], _ => rfl
abbrev a_l_linked (K : PySem.W.Frag) : Addr := He.fAd K ("_law_linked", none)
noncomputable abbrev fd_l_linked (K : PySem.W.Frag) : FuncData := fdOf K d_l_linked
abbrev F_l_linked (K : PySem.W.Frag) : Prop := FunD K "_law_linked" "_law_linked" (defArgs s_l_linked) (defBody s_l_linked) (defScope s_l_linked) (d_l_linked.dvs K) (d_l_linked.kws K) (a_l_linked K) (fd_l_linked K)
theorem Tx.f_l_linked (T : Tx K mg) : F_l_linked K := T.fun_ 66 (d := d_l_linked) rfl
theorem Tx.k_l_linked (T : Tx K mg) : PySem.W.keepIn K (.ref (a_l_linked K)) = true := T.f_l_linked.kp
theorem Tx.b_l_linked (T : Tx K mg) : Binds K (fd_l_linked K) ["_law_pen_here", "_law_labels", "_law_alive"] [] := FunD.bindsN (ps := ["_law_pen_here", "_law_labels", "_law_alive"]) T.f_l_linked fun _ _ _ _ _ _ us hl => match us, hl with | [_, _, _], _ => rfl
abbrev a_l_base (K : PySem.W.Frag) : Addr := He.fAd K ("_law_base", none)
noncomputable abbrev fd_l_base (K : PySem.W.Frag) : FuncData := fdOf K d_l_base
abbrev F_l_base (K : PySem.W.Frag) : Prop := FunD K "_law_base" "_law_base" (defArgs s_l_base) (defBody s_l_base) (defScope s_l_base) (d_l_base.dvs K) (d_l_base.kws K) (a_l_base K) (fd_l_base K)
theorem Tx.f_l_base (T : Tx K mg) : F_l_base K := T.fun_ 67 (d := d_l_base) rfl
theorem Tx.k_l_base (T : Tx K mg) : PySem.W.keepIn K (.ref (a_l_base K)) = true := T.f_l_base.kp
theorem Tx.b_l_base (T : Tx K mg) : Binds K (fd_l_base K) ["_law_pen_here"] [] := FunD.bindsN (ps := ["_law_pen_here"]) T.f_l_base fun _ _ _ _ _ _ us hl => match us, hl with | [_], _ => rfl
abbrev a_l_loose (K : PySem.W.Frag) : Addr := He.fAd K ("_law_loose", none)
noncomputable abbrev fd_l_loose (K : PySem.W.Frag) : FuncData := fdOf K d_l_loose
abbrev F_l_loose (K : PySem.W.Frag) : Prop := FunD K "_law_loose" "_law_loose" (defArgs s_l_loose) (defBody s_l_loose) (defScope s_l_loose) (d_l_loose.dvs K) (d_l_loose.kws K) (a_l_loose K) (fd_l_loose K)
theorem Tx.f_l_loose (T : Tx K mg) : F_l_loose K := T.fun_ 68 (d := d_l_loose) rfl
theorem Tx.k_l_loose (T : Tx K mg) : PySem.W.keepIn K (.ref (a_l_loose K)) = true := T.f_l_loose.kp
theorem Tx.b_l_loose (T : Tx K mg) : Binds K (fd_l_loose K) ["_law_pen_here", "_law_base_here"] [] := FunD.bindsN (ps := ["_law_pen_here", "_law_base_here"]) T.f_l_loose fun _ _ _ _ _ _ us hl => match us, hl with | [_, _], _ => rfl
abbrev a_l_begun (K : PySem.W.Frag) : Addr := He.fAd K ("_law_begun", none)
noncomputable abbrev fd_l_begun (K : PySem.W.Frag) : FuncData := fdOf K d_l_begun
abbrev F_l_begun (K : PySem.W.Frag) : Prop := FunD K "_law_begun" "_law_begun" (defArgs s_l_begun) (defBody s_l_begun) (defScope s_l_begun) (d_l_begun.dvs K) (d_l_begun.kws K) (a_l_begun K) (fd_l_begun K)
theorem Tx.f_l_begun (T : Tx K mg) : F_l_begun K := T.fun_ 69 (d := d_l_begun) rfl
theorem Tx.k_l_begun (T : Tx K mg) : PySem.W.keepIn K (.ref (a_l_begun K)) = true := T.f_l_begun.kp
theorem Tx.b_l_begun (T : Tx K mg) : Binds K (fd_l_begun K) ["_law_pen_here"] [] := FunD.bindsN (ps := ["_law_pen_here"]) T.f_l_begun fun _ _ _ _ _ _ us hl => match us, hl with | [_], _ => rfl
abbrev a_l_choice (K : PySem.W.Frag) : Addr := He.fAd K ("_law_choice", none)
noncomputable abbrev fd_l_choice (K : PySem.W.Frag) : FuncData := fdOf K d_l_choice
abbrev F_l_choice (K : PySem.W.Frag) : Prop := FunD K "_law_choice" "_law_choice" (defArgs s_l_choice) (defBody s_l_choice) (defScope s_l_choice) (d_l_choice.dvs K) (d_l_choice.kws K) (a_l_choice K) (fd_l_choice K)
theorem Tx.f_l_choice (T : Tx K mg) : F_l_choice K := T.fun_ 70 (d := d_l_choice) rfl
theorem Tx.k_l_choice (T : Tx K mg) : PySem.W.keepIn K (.ref (a_l_choice K)) = true := T.f_l_choice.kp
theorem Tx.b_l_choice (T : Tx K mg) : Binds K (fd_l_choice K) ["_law_pen_here", "_law_state"] [] := FunD.bindsN (ps := ["_law_pen_here", "_law_state"]) T.f_l_choice fun _ _ _ _ _ _ us hl => match us, hl with | [_, _], _ => rfl
abbrev a_l_by_modules (K : PySem.W.Frag) : Addr := He.fAd K ("_law_by_modules", none)
noncomputable abbrev fd_l_by_modules (K : PySem.W.Frag) : FuncData := fdOf K d_l_by_modules
abbrev F_l_by_modules (K : PySem.W.Frag) : Prop := FunD K "_law_by_modules" "_law_by_modules" (defArgs s_l_by_modules) (defBody s_l_by_modules) (defScope s_l_by_modules) (d_l_by_modules.dvs K) (d_l_by_modules.kws K) (a_l_by_modules K) (fd_l_by_modules K)
theorem Tx.f_l_by_modules (T : Tx K mg) : F_l_by_modules K := T.fun_ 71 (d := d_l_by_modules) rfl
theorem Tx.k_l_by_modules (T : Tx K mg) : PySem.W.keepIn K (.ref (a_l_by_modules K)) = true := T.f_l_by_modules.kp
theorem Tx.b_l_by_modules (T : Tx K mg) : Binds K (fd_l_by_modules K) ["_law_base_here", "_law_bound", "_law_action"] [] := FunD.bindsN (ps := ["_law_base_here", "_law_bound", "_law_action"]) T.f_l_by_modules fun _ _ _ _ _ _ us hl => match us, hl with | [_, _, _], _ => rfl
abbrev a_l_call (K : PySem.W.Frag) : Addr := He.fAd K ("_law_call", none)
noncomputable abbrev fd_l_call (K : PySem.W.Frag) : FuncData := fdOf K d_l_call
abbrev F_l_call (K : PySem.W.Frag) : Prop := FunD K "_law_call" "_law_call" (defArgs s_l_call) (defBody s_l_call) (defScope s_l_call) (d_l_call.dvs K) (d_l_call.kws K) (a_l_call K) (fd_l_call K)
theorem Tx.f_l_call (T : Tx K mg) : F_l_call K := T.fun_ 72 (d := d_l_call) rfl
theorem Tx.k_l_call (T : Tx K mg) : PySem.W.keepIn K (.ref (a_l_call K)) = true := T.f_l_call.kp
theorem Tx.b_l_call (T : Tx K mg) : Binds K (fd_l_call K) ["_law_store", "_law_action"] [] := FunD.bindsN (ps := ["_law_store", "_law_action"]) T.f_l_call fun _ _ _ _ _ _ us hl => match us, hl with | [_, _], _ => rfl
abbrev a_l_sound (K : PySem.W.Frag) : Addr := He.fAd K ("_law_sound", none)
noncomputable abbrev fd_l_sound (K : PySem.W.Frag) : FuncData := fdOf K d_l_sound
abbrev F_l_sound (K : PySem.W.Frag) : Prop := FunD K "_law_sound" "_law_sound" (defArgs s_l_sound) (defBody s_l_sound) (defScope s_l_sound) (d_l_sound.dvs K) (d_l_sound.kws K) (a_l_sound K) (fd_l_sound K)
theorem Tx.f_l_sound (T : Tx K mg) : F_l_sound K := T.fun_ 73 (d := d_l_sound) rfl
theorem Tx.k_l_sound (T : Tx K mg) : PySem.W.keepIn K (.ref (a_l_sound K)) = true := T.f_l_sound.kp
theorem Tx.b_l_sound (T : Tx K mg) : Binds K (fd_l_sound K) ["_law_store", "_law_begun_with"] [] := FunD.bindsN (ps := ["_law_store", "_law_begun_with"]) T.f_l_sound fun _ _ _ _ _ _ us hl => match us, hl with | [_, _], _ => rfl
abbrev a_law (K : PySem.W.Frag) : Addr := He.fAd K ("law", none)
noncomputable abbrev fd_law (K : PySem.W.Frag) : FuncData := fdOf K d_law
abbrev F_law (K : PySem.W.Frag) : Prop := FunD K "law" "law" (defArgs s_law) (defBody s_law) (defScope s_law) (d_law.dvs K) (d_law.kws K) (a_law K) (fd_law K)
theorem Tx.f_law (T : Tx K mg) : F_law K := T.fun_ 74 (d := d_law) rfl
theorem Tx.k_law (T : Tx K mg) : PySem.W.keepIn K (.ref (a_law K)) = true := T.f_law.kp
theorem Tx.b_law (T : Tx K mg) : Binds K (fd_law K) ["_law_script"] [] := FunD.bindsN (ps := ["_law_script"]) T.f_law fun _ _ _ _ _ _ us hl => match us, hl with | [_], _ => rfl
theorem Tx.g_is_integer (T : Tx K mg) : mg "is_integer" = some (.ref (a_is_integer K)) := by
  obtain ⟨_, X, G, _⟩ := T.ex
  exact He.glo_ok X G (T.fact (f := .glo "is_integer") 0 rfl)
theorem Tx.g_is_between (T : Tx K mg) : mg "is_between" = some (.ref (a_is_between K)) := by
  obtain ⟨_, X, G, _⟩ := T.ex
  exact He.glo_ok X G (T.fact (f := .glo "is_between") 1 rfl)
theorem Tx.g_is_limit (T : Tx K mg) : mg "is_limit" = some (.ref (a_is_limit K)) := by
  obtain ⟨_, X, G, _⟩ := T.ex
  exact He.glo_ok X G (T.fact (f := .glo "is_limit") 2 rfl)
theorem Tx.g_is_row (T : Tx K mg) : mg "is_row" = some (.ref (a_is_row K)) := by
  obtain ⟨_, X, G, _⟩ := T.ex
  exact He.glo_ok X G (T.fact (f := .glo "is_row") 3 rfl)
theorem Tx.g_reference_counts (T : Tx K mg) : mg "reference_counts" = some (.ref (a_reference_counts K)) := by
  obtain ⟨_, X, G, _⟩ := T.ex
  exact He.glo_ok X G (T.fact (f := .glo "reference_counts") 4 rfl)
theorem Tx.g_first_fault (T : Tx K mg) : mg "first_fault" = some (.ref (a_first_fault K)) := by
  obtain ⟨_, X, G, _⟩ := T.ex
  exact He.glo_ok X G (T.fact (f := .glo "first_fault") 5 rfl)
theorem Tx.g_have_shape (T : Tx K mg) : mg "have_shape" = some (.ref (a_have_shape K)) := by
  obtain ⟨_, X, G, _⟩ := T.ex
  exact He.glo_ok X G (T.fact (f := .glo "have_shape") 6 rfl)
theorem Tx.g_is_heap (T : Tx K mg) : mg "is_heap" = some (.ref (a_is_heap K)) := by
  obtain ⟨_, X, G, _⟩ := T.ex
  exact He.glo_ok X G (T.fact (f := .glo "is_heap") 7 rfl)
theorem Tx.g_is_live (T : Tx K mg) : mg "is_live" = some (.ref (a_is_live K)) := by
  obtain ⟨_, X, G, _⟩ := T.ex
  exact He.glo_ok X G (T.fact (f := .glo "is_live") 8 rfl)
theorem Tx.g_require_node (T : Tx K mg) : mg "require_node" = some (.ref (a_require_node K)) := by
  obtain ⟨_, X, G, _⟩ := T.ex
  exact He.glo_ok X G (T.fact (f := .glo "require_node") 9 rfl)
theorem Tx.g_require_reference (T : Tx K mg) : mg "require_reference" = some (.ref (a_require_reference K)) := by
  obtain ⟨_, X, G, _⟩ := T.ex
  exact He.glo_ok X G (T.fact (f := .glo "require_reference") 10 rfl)
theorem Tx.g_live_nodes (T : Tx K mg) : mg "live_nodes" = some (.ref (a_live_nodes K)) := by
  obtain ⟨_, X, G, _⟩ := T.ex
  exact He.glo_ok X G (T.fact (f := .glo "live_nodes") 11 rfl)
theorem Tx.g_holders (T : Tx K mg) : mg "holders" = some (.ref (a_holders K)) := by
  obtain ⟨_, X, G, _⟩ := T.ex
  exact He.glo_ok X G (T.fact (f := .glo "holders") 12 rfl)
theorem Tx.g_require_slot (T : Tx K mg) : mg "require_slot" = some (.ref (a_require_slot K)) := by
  obtain ⟨_, X, G, _⟩ := T.ex
  exact He.glo_ok X G (T.fact (f := .glo "require_slot") 13 rfl)
theorem Tx.g_require_fill (T : Tx K mg) : mg "require_fill" = some (.ref (a_require_fill K)) := by
  obtain ⟨_, X, G, _⟩ := T.ex
  exact He.glo_ok X G (T.fact (f := .glo "require_fill") 14 rfl)
theorem Tx.g_drop (T : Tx K mg) : mg "drop" = some (.ref (a_drop K)) := by
  obtain ⟨_, X, G, _⟩ := T.ex
  exact He.glo_ok X G (T.fact (f := .glo "drop") 15 rfl)
theorem Tx.g_set_slot (T : Tx K mg) : mg "set_slot" = some (.ref (a_set_slot K)) := by
  obtain ⟨_, X, G, _⟩ := T.ex
  exact He.glo_ok X G (T.fact (f := .glo "set_slot") 16 rfl)
theorem Tx.g_empty_slots (T : Tx K mg) : mg "empty_slots" = some (.ref (a_empty_slots K)) := by
  obtain ⟨_, X, G, _⟩ := T.ex
  exact He.glo_ok X G (T.fact (f := .glo "empty_slots") 17 rfl)
theorem Tx.g_held_nodes (T : Tx K mg) : mg "held_nodes" = some (.ref (a_held_nodes K)) := by
  obtain ⟨_, X, G, _⟩ := T.ex
  exact He.glo_ok X G (T.fact (f := .glo "held_nodes") 18 rfl)
theorem Tx.g_came_from (T : Tx K mg) : mg "came_from" = some (.ref (a_came_from K)) := by
  obtain ⟨_, X, G, _⟩ := T.ex
  exact He.glo_ok X G (T.fact (f := .glo "came_from") 19 rfl)
theorem Tx.g_nodes_with_outside (T : Tx K mg) : mg "nodes_with_outside" = some (.ref (a_nodes_with_outside K)) := by
  obtain ⟨_, X, G, _⟩ := T.ex
  exact He.glo_ok X G (T.fact (f := .glo "nodes_with_outside") 20 rfl)
theorem Tx.g_reachable (T : Tx K mg) : mg "reachable" = some (.ref (a_reachable K)) := by
  obtain ⟨_, X, G, _⟩ := T.ex
  exact He.glo_ok X G (T.fact (f := .glo "reachable") 21 rfl)
theorem Tx.g_unreachable (T : Tx K mg) : mg "unreachable" = some (.ref (a_unreachable K)) := by
  obtain ⟨_, X, G, _⟩ := T.ex
  exact He.glo_ok X G (T.fact (f := .glo "unreachable") 22 rfl)
theorem Tx.g_reach_certificate (T : Tx K mg) : mg "reach_certificate" = some (.ref (a_reach_certificate K)) := by
  obtain ⟨_, X, G, _⟩ := T.ex
  exact He.glo_ok X G (T.fact (f := .glo "reach_certificate") 23 rfl)
theorem Tx.g_strip_all (T : Tx K mg) : mg "strip_all" = some (.ref (a_strip_all K)) := by
  obtain ⟨_, X, G, _⟩ := T.ex
  exact He.glo_ok X G (T.fact (f := .glo "strip_all") 24 rfl)
theorem Tx.g_collect (T : Tx K mg) : mg "collect" = some (.ref (a_collect K)) := by
  obtain ⟨_, X, G, _⟩ := T.ex
  exact He.glo_ok X G (T.fact (f := .glo "collect") 25 rfl)
theorem Tx.g_with_node (T : Tx K mg) : mg "with_node" = some (.ref (a_with_node K)) := by
  obtain ⟨_, X, G, _⟩ := T.ex
  exact He.glo_ok X G (T.fact (f := .glo "with_node") 26 rfl)
theorem Tx.g_with_reference (T : Tx K mg) : mg "with_reference" = some (.ref (a_with_reference K)) := by
  obtain ⟨_, X, G, _⟩ := T.ex
  exact He.glo_ok X G (T.fact (f := .glo "with_reference") 27 rfl)
theorem Tx.g_still_referenced (T : Tx K mg) : mg "still_referenced" = some (.ref (a_still_referenced K)) := by
  obtain ⟨_, X, G, _⟩ := T.ex
  exact He.glo_ok X G (T.fact (f := .glo "still_referenced") 28 rfl)
theorem Tx.g_require_pair (T : Tx K mg) : mg "require_pair" = some (.ref (a_require_pair K)) := by
  obtain ⟨_, X, G, _⟩ := T.ex
  exact He.glo_ok X G (T.fact (f := .glo "require_pair") 29 rfl)
theorem Tx.g_check_path (T : Tx K mg) : mg "check_path" = some (.ref (a_check_path K)) := by
  obtain ⟨_, X, G, _⟩ := T.ex
  exact He.glo_ok X G (T.fact (f := .glo "check_path") 30 rfl)
theorem Tx.g_check_closed (T : Tx K mg) : mg "check_closed" = some (.ref (a_check_closed K)) := by
  obtain ⟨_, X, G, _⟩ := T.ex
  exact He.glo_ok X G (T.fact (f := .glo "check_closed") 31 rfl)
theorem Tx.g_check_reach (T : Tx K mg) : mg "check_reach" = some (.ref (a_check_reach K)) := by
  obtain ⟨_, X, G, _⟩ := T.ex
  exact He.glo_ok X G (T.fact (f := .glo "check_reach") 32 rfl)
theorem Tx.g_l_pen (T : Tx K mg) : mg "_law_pen" = some (.ref (a_l_pen K)) := by
  obtain ⟨_, X, G, _⟩ := T.ex
  exact He.glo_ok X G (T.fact (f := .glo "_law_pen") 33 rfl)
theorem Tx.g_l_draw (T : Tx K mg) : mg "_law_draw" = some (.ref (a_l_draw K)) := by
  obtain ⟨_, X, G, _⟩ := T.ex
  exact He.glo_ok X G (T.fact (f := .glo "_law_draw") 34 rfl)
theorem Tx.g_l_shuffled (T : Tx K mg) : mg "_law_shuffled" = some (.ref (a_l_shuffled K)) := by
  obtain ⟨_, X, G, _⟩ := T.ex
  exact He.glo_ok X G (T.fact (f := .glo "_law_shuffled") 35 rfl)
theorem Tx.g_l_linked (T : Tx K mg) : mg "_law_linked" = some (.ref (a_l_linked K)) := by
  obtain ⟨_, X, G, _⟩ := T.ex
  exact He.glo_ok X G (T.fact (f := .glo "_law_linked") 36 rfl)
theorem Tx.g_l_base (T : Tx K mg) : mg "_law_base" = some (.ref (a_l_base K)) := by
  obtain ⟨_, X, G, _⟩ := T.ex
  exact He.glo_ok X G (T.fact (f := .glo "_law_base") 37 rfl)
theorem Tx.g_l_loose (T : Tx K mg) : mg "_law_loose" = some (.ref (a_l_loose K)) := by
  obtain ⟨_, X, G, _⟩ := T.ex
  exact He.glo_ok X G (T.fact (f := .glo "_law_loose") 38 rfl)
theorem Tx.g_l_begun (T : Tx K mg) : mg "_law_begun" = some (.ref (a_l_begun K)) := by
  obtain ⟨_, X, G, _⟩ := T.ex
  exact He.glo_ok X G (T.fact (f := .glo "_law_begun") 39 rfl)
theorem Tx.g_l_choice (T : Tx K mg) : mg "_law_choice" = some (.ref (a_l_choice K)) := by
  obtain ⟨_, X, G, _⟩ := T.ex
  exact He.glo_ok X G (T.fact (f := .glo "_law_choice") 40 rfl)
theorem Tx.g_l_by_modules (T : Tx K mg) : mg "_law_by_modules" = some (.ref (a_l_by_modules K)) := by
  obtain ⟨_, X, G, _⟩ := T.ex
  exact He.glo_ok X G (T.fact (f := .glo "_law_by_modules") 41 rfl)
theorem Tx.g_l_call (T : Tx K mg) : mg "_law_call" = some (.ref (a_l_call K)) := by
  obtain ⟨_, X, G, _⟩ := T.ex
  exact He.glo_ok X G (T.fact (f := .glo "_law_call") 42 rfl)
theorem Tx.g_l_sound (T : Tx K mg) : mg "_law_sound" = some (.ref (a_l_sound K)) := by
  obtain ⟨_, X, G, _⟩ := T.ex
  exact He.glo_ok X G (T.fact (f := .glo "_law_sound") 43 rfl)
theorem Tx.g_law (T : Tx K mg) : mg "law" = some (.ref (a_law K)) := by
  obtain ⟨_, X, G, _⟩ := T.ex
  exact He.glo_ok X G (T.fact (f := .glo "law") 44 rfl)
theorem Tx.g_Unwinding (T : Tx K mg) : mg "Unwinding" = some (.ref (C_Unwinding K)) := by
  obtain ⟨_, X, G, _⟩ := T.ex
  exact He.glo_ok X G (T.fact (f := .glo "Unwinding") 45 rfl)
theorem Tx.c_Unwinding (T : Tx K mg) : Cls K (C_Unwinding K) := He.cls_ok (T.fact (f := .cls "Unwinding") 46 rfl)
theorem Tx.m_Unwinding (T : Tx K mg) : Mk K (C_Unwinding K) (a_Unwinding_init K) := He.mkr_ok (T.fact (f := .mkr "Unwinding") 47 rfl)
theorem Tx.n_Unwinding_rows (T : Tx K mg) : NoAttr K (C_Unwinding K) "rows" := He.noat_ok (T.fact (f := .noat "Unwinding" "rows") 48 rfl)
theorem Tx.n_Unwinding_references (T : Tx K mg) : NoAttr K (C_Unwinding K) "references" := He.noat_ok (T.fact (f := .noat "Unwinding" "references") 49 rfl)
theorem Tx.n_Unwinding_tallies (T : Tx K mg) : NoAttr K (C_Unwinding K) "tallies" := He.noat_ok (T.fact (f := .noat "Unwinding" "tallies") 50 rfl)
theorem Tx.n_Unwinding_bound (T : Tx K mg) : NoAttr K (C_Unwinding K) "bound" := He.noat_ok (T.fact (f := .noat "Unwinding" "bound") 51 rfl)
theorem Tx.n_Unwinding_log (T : Tx K mg) : NoAttr K (C_Unwinding K) "log" := He.noat_ok (T.fact (f := .noat "Unwinding" "log") 52 rfl)
theorem Tx.n_Unwinding_shelf (T : Tx K mg) : NoAttr K (C_Unwinding K) "shelf" := He.noat_ok (T.fact (f := .noat "Unwinding" "shelf") 53 rfl)
theorem Tx.n_Unwinding_peak (T : Tx K mg) : NoAttr K (C_Unwinding K) "peak" := He.noat_ok (T.fact (f := .noat "Unwinding" "peak") 54 rfl)
theorem Tx.n_Unwinding_events (T : Tx K mg) : NoAttr K (C_Unwinding K) "events" := He.noat_ok (T.fact (f := .noat "Unwinding" "events") 55 rfl)
theorem Tx.g_Store (T : Tx K mg) : mg "Store" = some (.ref (C_Store K)) := by
  obtain ⟨_, X, G, _⟩ := T.ex
  exact He.glo_ok X G (T.fact (f := .glo "Store") 56 rfl)
theorem Tx.c_Store (T : Tx K mg) : Cls K (C_Store K) := He.cls_ok (T.fact (f := .cls "Store") 57 rfl)
theorem Tx.m_Store (T : Tx K mg) : Mk K (C_Store K) (a_Store_init K) := He.mkr_ok (T.fact (f := .mkr "Store") 58 rfl)
theorem Tx.n_Store_snapshots (T : Tx K mg) : NoAttr K (C_Store K) "snapshots" := He.noat_ok (T.fact (f := .noat "Store" "snapshots") 59 rfl)
theorem Tx.n_Store_recorded (T : Tx K mg) : NoAttr K (C_Store K) "recorded" := He.noat_ok (T.fact (f := .noat "Store" "recorded") 60 rfl)
theorem Tx.n_Store_observer (T : Tx K mg) : NoAttr K (C_Store K) "observer" := He.noat_ok (T.fact (f := .noat "Store" "observer") 61 rfl)
theorem Tx.n_Store_is_busy (T : Tx K mg) : NoAttr K (C_Store K) "is_busy" := He.noat_ok (T.fact (f := .noat "Store" "is_busy") 62 rfl)
theorem Tx.t_Unwinding_release (T : Tx K mg) : Meth K (C_Unwinding K) "release" (a_Unwinding_release K) := He.meth_ok (T.fact (f := .meth "Unwinding" "release") 63 rfl)
theorem Tx.t_Unwinding_destroy (T : Tx K mg) : Meth K (C_Unwinding K) "destroy" (a_Unwinding_destroy K) := He.meth_ok (T.fact (f := .meth "Unwinding" "destroy") 64 rfl)
theorem Tx.t_Unwinding_unwind (T : Tx K mg) : Meth K (C_Unwinding K) "unwind" (a_Unwinding_unwind K) := He.meth_ok (T.fact (f := .meth "Unwinding" "unwind") 65 rfl)
theorem Tx.t_Unwinding_drop_outside (T : Tx K mg) : Meth K (C_Unwinding K) "drop_outside" (a_Unwinding_drop_outside K) := He.meth_ok (T.fact (f := .meth "Unwinding" "drop_outside") 66 rfl)
theorem Tx.t_Unwinding_fill (T : Tx K mg) : Meth K (C_Unwinding K) "fill" (a_Unwinding_fill K) := He.meth_ok (T.fact (f := .meth "Unwinding" "fill") 67 rfl)
theorem Tx.t_Unwinding_strip (T : Tx K mg) : Meth K (C_Unwinding K) "strip" (a_Unwinding_strip K) := He.meth_ok (T.fact (f := .meth "Unwinding" "strip") 68 rfl)
theorem Tx.t_Unwinding_heap (T : Tx K mg) : Meth K (C_Unwinding K) "heap" (a_Unwinding_heap K) := He.meth_ok (T.fact (f := .meth "Unwinding" "heap") 69 rfl)
theorem Tx.t_Unwinding_result (T : Tx K mg) : Meth K (C_Unwinding K) "result" (a_Unwinding_result K) := He.meth_ok (T.fact (f := .meth "Unwinding" "result") 70 rfl)
theorem Tx.t_Store_require_idle (T : Tx K mg) : Meth K (C_Store K) "require_idle" (a_Store_require_idle K) := He.meth_ok (T.fact (f := .meth "Store" "require_idle") 71 rfl)
theorem Tx.t_Store_notify (T : Tx K mg) : Meth K (C_Store K) "notify" (a_Store_notify K) := He.meth_ok (T.fact (f := .meth "Store" "notify") 72 rfl)
theorem Tx.t_Store_commit (T : Tx K mg) : Meth K (C_Store K) "commit" (a_Store_commit K) := He.meth_ok (T.fact (f := .meth "Store" "commit") 73 rfl)
theorem Tx.t_Store_commit_run (T : Tx K mg) : Meth K (C_Store K) "commit_run" (a_Store_commit_run K) := He.meth_ok (T.fact (f := .meth "Store" "commit_run") 74 rfl)
theorem Tx.t_Store_begin (T : Tx K mg) : Meth K (C_Store K) "begin" (a_Store_begin K) := He.meth_ok (T.fact (f := .meth "Store" "begin") 75 rfl)
theorem Tx.t_Store_new (T : Tx K mg) : Meth K (C_Store K) "new" (a_Store_new K) := He.meth_ok (T.fact (f := .meth "Store" "new") 76 rfl)
theorem Tx.t_Store_hold (T : Tx K mg) : Meth K (C_Store K) "hold" (a_Store_hold K) := He.meth_ok (T.fact (f := .meth "Store" "hold") 77 rfl)
theorem Tx.t_Store_drop (T : Tx K mg) : Meth K (C_Store K) "drop" (a_Store_drop K) := He.meth_ok (T.fact (f := .meth "Store" "drop") 78 rfl)
theorem Tx.t_Store_put (T : Tx K mg) : Meth K (C_Store K) "put" (a_Store_put K) := He.meth_ok (T.fact (f := .meth "Store" "put") 79 rfl)
theorem Tx.t_Store_empty_slots (T : Tx K mg) : Meth K (C_Store K) "empty_slots" (a_Store_empty_slots K) := He.meth_ok (T.fact (f := .meth "Store" "empty_slots") 80 rfl)
theorem Tx.t_Store_collect (T : Tx K mg) : Meth K (C_Store K) "collect" (a_Store_collect K) := He.meth_ok (T.fact (f := .meth "Store" "collect") 81 rfl)
theorem Tx.t_Store_collect_local (T : Tx K mg) : Meth K (C_Store K) "collect_local" (a_Store_collect_local K) := He.meth_ok (T.fact (f := .meth "Store" "collect_local") 82 rfl)
theorem Tx.t_Store_set_limit (T : Tx K mg) : Meth K (C_Store K) "set_limit" (a_Store_set_limit K) := He.meth_ok (T.fact (f := .meth "Store" "set_limit") 83 rfl)
theorem Tx.t_Store_heap (T : Tx K mg) : Meth K (C_Store K) "heap" (a_Store_heap K) := He.meth_ok (T.fact (f := .meth "Store" "heap") 84 rfl)
theorem Tx.t_Store_current_limit (T : Tx K mg) : Meth K (C_Store K) "current_limit" (a_Store_current_limit K) := He.meth_ok (T.fact (f := .meth "Store" "current_limit") 85 rfl)
theorem Tx.t_Store_free_numbers (T : Tx K mg) : Meth K (C_Store K) "free_numbers" (a_Store_free_numbers K) := He.meth_ok (T.fact (f := .meth "Store" "free_numbers") 86 rfl)
theorem Tx.t_Store_candidates (T : Tx K mg) : Meth K (C_Store K) "candidates" (a_Store_candidates K) := He.meth_ok (T.fact (f := .meth "Store" "candidates") 87 rfl)
theorem Tx.t_Store_history (T : Tx K mg) : Meth K (C_Store K) "history" (a_Store_history K) := He.meth_ok (T.fact (f := .meth "Store" "history") 88 rfl)
theorem Tx.t_Store_destroyed (T : Tx K mg) : Meth K (C_Store K) "destroyed" (a_Store_destroyed K) := He.meth_ok (T.fact (f := .meth "Store" "destroyed") 89 rfl)
theorem Tx.t_Store_len (T : Tx K mg) : Meth K (C_Store K) "__len__" (a_Store_len K) := He.meth_ok (T.fact (f := .meth "Store" "__len__") 90 rfl)
theorem Tx.i_MOST_NODES (T : Tx K mg) : ∃ u, mg "MOST_NODES" = some u ∧ RelV (.int 40) u := by
  obtain ⟨_, X, G, _⟩ := T.ex
  obtain ⟨t, e⟩ := He.int_ok X G (T.fact (f := .int "MOST_NODES" 40) 91 rfl)
  exact ⟨_, e, t, rfl⟩
theorem Tx.i_MOST_SLOTS (T : Tx K mg) : ∃ u, mg "MOST_SLOTS" = some u ∧ RelV (.int 40) u := by
  obtain ⟨_, X, G, _⟩ := T.ex
  obtain ⟨t, e⟩ := He.int_ok X G (T.fact (f := .int "MOST_SLOTS" 40) 92 rfl)
  exact ⟨_, e, t, rfl⟩
theorem Tx.i_MOST_OUTSIDE (T : Tx K mg) : ∃ u, mg "MOST_OUTSIDE" = some u ∧ RelV (.int 9) u := by
  obtain ⟨_, X, G, _⟩ := T.ex
  obtain ⟨t, e⟩ := He.int_ok X G (T.fact (f := .int "MOST_OUTSIDE" 9) 93 rfl)
  exact ⟨_, e, t, rfl⟩
theorem Tx.i_MOST_LIMIT (T : Tx K mg) : ∃ u, mg "MOST_LIMIT" = some u ∧ RelV (.int 1000000000000000000000000000000) u := by
  obtain ⟨_, X, G, _⟩ := T.ex
  obtain ⟨t, e⟩ := He.int_ok X G (T.fact (f := .int "MOST_LIMIT" 1000000000000000000000000000000) 94 rfl)
  exact ⟨_, e, t, rfl⟩
theorem Tx.z_isinstance (T : Tx K mg) : mg "isinstance" = none := by
  obtain ⟨_, X, G, _⟩ := T.ex
  exact He.free_ok X G (T.fact (f := .free "isinstance") 95 rfl)
theorem Tx.z_int (T : Tx K mg) : mg "int" = none := by
  obtain ⟨_, X, G, _⟩ := T.ex
  exact He.free_ok X G (T.fact (f := .free "int") 96 rfl)
theorem Tx.z_bool (T : Tx K mg) : mg "bool" = none := by
  obtain ⟨_, X, G, _⟩ := T.ex
  exact He.free_ok X G (T.fact (f := .free "bool") 97 rfl)
theorem Tx.z_list (T : Tx K mg) : mg "list" = none := by
  obtain ⟨_, X, G, _⟩ := T.ex
  exact He.free_ok X G (T.fact (f := .free "list") 98 rfl)
theorem Tx.z_tuple (T : Tx K mg) : mg "tuple" = none := by
  obtain ⟨_, X, G, _⟩ := T.ex
  exact He.free_ok X G (T.fact (f := .free "tuple") 99 rfl)
theorem Tx.z_len (T : Tx K mg) : mg "len" = none := by
  obtain ⟨_, X, G, _⟩ := T.ex
  exact He.free_ok X G (T.fact (f := .free "len") 100 rfl)
theorem Tx.z_range (T : Tx K mg) : mg "range" = none := by
  obtain ⟨_, X, G, _⟩ := T.ex
  exact He.free_ok X G (T.fact (f := .free "range") 101 rfl)
theorem Tx.z_all (T : Tx K mg) : mg "all" = none := by
  obtain ⟨_, X, G, _⟩ := T.ex
  exact He.free_ok X G (T.fact (f := .free "all") 102 rfl)
theorem Tx.z_str (T : Tx K mg) : mg "str" = none := by
  obtain ⟨_, X, G, _⟩ := T.ex
  exact He.free_ok X G (T.fact (f := .free "str") 103 rfl)
theorem Tx.z_max (T : Tx K mg) : mg "max" = none := by
  obtain ⟨_, X, G, _⟩ := T.ex
  exact He.free_ok X G (T.fact (f := .free "max") 104 rfl)
theorem Tx.z_min (T : Tx K mg) : mg "min" = none := by
  obtain ⟨_, X, G, _⟩ := T.ex
  exact He.free_ok X G (T.fact (f := .free "min") 105 rfl)
theorem Tx.z_enumerate (T : Tx K mg) : mg "enumerate" = none := by
  obtain ⟨_, X, G, _⟩ := T.ex
  exact He.free_ok X G (T.fact (f := .free "enumerate") 106 rfl)
theorem Tx.z_set (T : Tx K mg) : mg "set" = none := by
  obtain ⟨_, X, G, _⟩ := T.ex
  exact He.free_ok X G (T.fact (f := .free "set") 107 rfl)
theorem Tx.z_sorted (T : Tx K mg) : mg "sorted" = none := by
  obtain ⟨_, X, G, _⟩ := T.ex
  exact He.free_ok X G (T.fact (f := .free "sorted") 108 rfl)
theorem Tx.z_repr (T : Tx K mg) : mg "repr" = none := by
  obtain ⟨_, X, G, _⟩ := T.ex
  exact He.free_ok X G (T.fact (f := .free "repr") 109 rfl)
theorem Tx.z_abs (T : Tx K mg) : mg "abs" = none := by
  obtain ⟨_, X, G, _⟩ := T.ex
  exact He.free_ok X G (T.fact (f := .free "abs") 110 rfl)
end
end Sf
/-! The head: one kernel run. Printed by genhead.py. -/
namespace Sf
open PySem PySem.Spec PyProof.Rows L2
abbrev R : PySem.W.OpenRow := PySem.W.OpenLaw.row PySem.Challenge.rw_slotfall_k80_whole_store_and_functions
/-- what one object names, as far as the facts ask: a dict's values, a def's code and defaults, a class's own dict -/
def namedBy : Obj → List Addr
  | ⟨_, _, .dict es _, _⟩ => es.toList.flatMap fun e => He.refV e.val
  | ⟨_, _, .func fd, _⟩ => He.refV fd.code ++ (He.refV fd.defaults ++ He.refV fd.kwdefaults)
  | ⟨_, _, .cls cd, _⟩ => [cd.ns]
  | _ => []
def layer (g : Addr → Option Obj) (as : List Addr) : List Addr := as.flatMap fun a => match g a with
  | some o => namedBy o
  | none => []
/-- the module's dict; its values; their code, defaults, class dicts; the methods; their code -/
def asL (g : Addr → Option Obj) : List Addr :=
  (fun l1 => (fun l2 => (fun l3 => mainGlobals :: (l1 ++ (l2 ++ (l3 ++ layer g l3)))) (layer g (l2.filter fun a => match g a with
    | some ⟨_, _, .dict _ _, _⟩ => true
    | _ => false))) (layer g l1)) (layer g [mainGlobals])
def obL (g : Addr → Option Obj) : He.AlD := (fun K => He.obsD fa fn K) (He.frG g (asL g))
def hk : PySem.W.Hook where
  α := He.AlD
  obs := fun s => obL s.heap.get?
  val := fun _ => He.valD fn
  says := fun _ h => ∃ K : PySem.W.Frag, K.In h ∧ He.SaysD fa fn K
  of := fun _ _ e => ⟨_, He.frG_in, e⟩
  keeps := fun _ _ _ ⟨K, hK, c⟩ k => ⟨K, PySem.W.Frag.In.keeps hK k, c⟩
def ob (s : PySem.W.SharedT) : He.AlD := obL (HandSHeadRun.getT s)
theorem ob_eq (s : PySem.W.SharedT) : ob s = hk.obs s.abs := by
  have e : HandSHeadRun.getT s = s.abs.heap.get? := funext (HandSHeadRun.getT_eq s)
  show obL (HandSHeadRun.getT s) = obL s.abs.heap.get?
  rw [e]
def nm0 : List PySem.Str := ["_wall", "HeapError", "MissingError", "InvalidCertificate", "InvalidLimit", "InvalidWidth", "Full", "Busy", "NoNode", "NoReference", "NoSlot", "MOST_NODES", "MOST_SLOTS", "MOST_OUTSIDE", "MOST_LIMIT", "is_integer", "is_between", "is_limit", "is_row", "reference_counts", "first_fault", "have_shape", "is_heap", "is_live", "require_node", "require_reference", "live_nodes", "holders", "Unwinding", "require_slot"]
def nm1 : List PySem.Str := ["require_fill", "drop", "set_slot", "empty_slots", "held_nodes", "came_from", "nodes_with_outside", "reachable", "unreachable", "reach_certificate", "strip_all", "collect", "line_of", "format_heap", "NO_HEAP", "USUAL_LIMIT", "with_node", "with_reference", "still_referenced", "Store", "require_pair", "check_path", "check_closed", "check_reach", "_law_pen", "_law_draw", "_law_shuffled", "_law_linked", "_law_base", "_law_loose"]
def nm2 : List PySem.Str := ["_law_begun", "_law_model", "_law_dropped", "_law_filled", "_law_swept", "_law_from", "_law_lost", "_law_made", "_law_next", "_law_call", "_law_stands", "_law_start", "_law_choice", "_law_by_modules", "_law_sound"]
def nm : List PySem.Str := nm0 ++ nm1 ++ nm2
theorem run (w : World) : HandSHeadRun.RunEq R (PySem.W.view R.prog [84]) hk ob 6000 nm w := by
  intro os
  kernel_rfl
end Sf
/-! Calls by keywords and with defaults, of the text's own. -/
namespace Sf
open PySem PySem.Spec PyProof.Rows L2
theorem pe_gc {X : Cx} {x : Str} {pos : Pos} {v : V} (hg : Gl X x) (h : ∃ u, X.mg x = some u ∧ RelV v u) (hdb : (x == ("__debug__" : Str)) = false := by decide) : PE X (.Name x pos) (tC v) := by
  obtain ⟨u, h1, h2⟩ := h
  exact pe_glob hg h1 h2 hdb
/-! the rules that read the written part, K told (a comprehension's block has its own context) -/
section
variable {X : Cx} {K : PySem.W.Frag}
theorem ixL (h : X.K = K := by rfl) : IxR X (rIxL K) := h ▸ ix_list
theorem ixT (h : X.K = K := by rfl) : IxR X (rIxT K) := h ▸ ix_tup
theorem cIsi (h : X.K = K := by rfl) : CallR X (.builtin "isinstance") (rIsi K) := h ▸ call_isi
theorem cIsiT (h : X.K = K := by rfl) : CallR X (.builtin "isinstance") (rIsiT K) := h ▸ call_isiT
def rListOf (K : PySem.W.Frag) : List V → Hp → VK → Prop := fun xs H Q => ∃ p ys, xs = [.ref p] ∧ (SqL K H p ys ∨ SqT K H p ys) ∧ ∀ l, H l = none → Q (.ref l) (upd H l (.lst ys))
theorem cList (h : X.K = K := by rfl) : CallR X (.type "list") (rListOf K) := h ▸ call_list_of
def rTupleOf (K : PySem.W.Frag) : List V → Hp → VK → Prop := fun xs H Q => ∃ p ys, xs = [.ref p] ∧ ((SqL K H p ys ∧ ∀ l, H l = none → Q (.ref l) (upd H l (.tup ys))) ∨ (SqT K H p ys ∧ Q (.ref p) H))
theorem cTuple (h : X.K = K := by rfl) : CallR X (.type "tuple") (rTupleOf K) := h ▸ call_tuple_of
def rLenA (K : PySem.W.Frag) : List V → Hp → VK → Prop := fun xs H Q => ∃ x n, xs = [x] ∧ LenV K x H n ∧ Q (.int (n : Nat)) H
theorem cLen (h : X.K = K := by rfl) : CallR X (.builtin "len") (rLenA K) := h ▸ call_len
theorem inS (h : X.K = K := by rfl) : OpR X (compareOp .In) (rIn K false) := h ▸ op_in_seq
theorem ninS (h : X.K = K := by rfl) : OpR X (compareOp .NotIn) (rIn K true) := h ▸ op_notIn_seq
theorem pgTup {es : List Expr} {k : Nat} {t : TGs} {n : Nat} {pos : Pos} (hc : X.calm = true) (h : PGs X es t) (hK : X.K = K := by rfl)
    (hn : (assignEach es X.env).length = n := by rfl) (hst : (assignEach es X.env).findIdx? (·.1) = none := by rfl) : PG X (.Tuple es k pos) (gTup K n t) := hK ▸ pg_tup hc h hn hst
theorem eqD (hu : X.A.units + 64 < cLine) (h : X.K = K := by rfl) : OpR X (compareOp .Eq) (rEqD K) := h ▸ op_eqD hu
theorem neD (hu : X.A.units + 64 < cLine) (h : X.K = K := by rfl) : OpR X (compareOp .NotEq) (rNeD K) := h ▸ op_neD hu
end
section
variable {K : PySem.W.Frag} {mg : Str → Option Value}
theorem Tx.kb_drop (T : Tx K mg) : KBn K (fd_drop K) ["heap", "node", "limit"] 2 ["limit"] (fun us ws => us ++ ws) (fun vs zs => vs ++ zs) :=
  kbindsN T.f_drop 2 ["limit"] fun _ _ _ _ _ _ us ws l1 l2 => match us, ws, l1, l2 with | [_, _], [_], _, _ => rfl
theorem Tx.kb_set_slot (T : Tx K mg) : KBn K (fd_set_slot K) ["heap", "node", "slot", "target", "limit"] 4 ["limit"] (fun us ws => us ++ ws) (fun vs zs => vs ++ zs) :=
  kbindsN T.f_set_slot 4 ["limit"] fun _ _ _ _ _ _ us ws l1 l2 => match us, ws, l1, l2 with | [_, _, _, _], [_], _, _ => rfl
theorem Tx.kb_empty_slots (T : Tx K mg) : KBn K (fd_empty_slots K) ["heap", "node", "limit"] 2 ["limit"] (fun us ws => us ++ ws) (fun vs zs => vs ++ zs) :=
  kbindsN T.f_empty_slots 2 ["limit"] fun _ _ _ _ _ _ us ws l1 l2 => match us, ws, l1, l2 with | [_, _], [_], _, _ => rfl
theorem Tx.kb_collect (T : Tx K mg) : KBn K (fd_collect K) ["heap", "limit"] 1 ["limit"] (fun us ws => us ++ ws) (fun vs zs => vs ++ zs) :=
  kbindsN T.f_collect 1 ["limit"] fun _ _ _ _ _ _ us ws l1 l2 => match us, ws, l1, l2 with | [_], [_], _, _ => rfl
theorem Tx.b_Store_new (T : Tx K mg) : Binds K (fd_Store_new K) ["self", "width"] [] := by
  obtain ⟨ds, h1, h2⟩ := FunD.binds1 (ps := ["self", "width"]) T.f_Store_new 2 1 (List.cons_ne_nil _ _) rfl fun _ _ _ _ _ _ _ us its l1 l2 => match us, its, l1, l2 with | [_, _], [_], _, _ => ⟨_, rfl, rfl⟩
  cases h1
  exact h2
theorem Tx.kb_Store (T : Tx K mg) : ∃ its mv : List Value, KBn K (fd_Store_init K) ["self", "heap", "limit", "observer"] 2 ["limit"] (fun us ws => us ++ (ws ++ mv)) (fun vs zs => vs ++ (zs ++ [.non])) :=
  FunD.kbinds (ps := ["self", "heap", "limit", "observer"]) T.f_Store_init 2 ["limit"] [("observer", .non)] (fun us _ mv ws => us ++ (ws ++ mv)) (List.cons_ne_nil _ _) (List.cons_ne_nil _ _) (fun q hq => by
    have e : q = (("observer" : Str), V.non) := by simpa using hq
    rw [e]
    exact List.mem_cons_of_mem _ List.mem_cons_self) (fun r1 _ r3 r4 => r1.append (r4.append r3)) fun _ _ _ _ _ _ _ us its mv ws l1 l2 l3 l4 =>
      match us, its, mv, ws, l1, l2, l3, l4 with
      | [_, _], [_], [_], [_], _, _, _, _ => ⟨_, rfl, _, _, _, _, _, _, rfl, rfl, rfl⟩
end
end Sf
/-! Steps of a reading by the head of what stands there. -/
namespace Sf
open PySem PySem.Spec PyProof.Rows L2 Evl
section
variable {σ : L2.St} {H H1 H2 : Hp} {K : PySem.W.Frag} {Q : VK} {v x y z : V} {ta tb tc te : TE} {t u : TT}
theorem rd_var {i : Nat} (h : σ[i]? = some (some v)) (q : Q v H) : tVar i σ H Q := ⟨v, h, q⟩
theorem rd_c (q : Q v H) : tC v σ H Q := q
theorem rd_op {r : R2} (h : ta σ H fun x H1 => tb σ H1 fun y H2 => r x y H2 Q) : tOp r ta tb σ H Q := h
theorem rd_un {r : V → Hp → VK → Prop} (h : ta σ H fun x H1 => r x H1 Q) : tUn r ta σ H Q := h
theorem rd_CB {r : List V → Hp → VK → Prop} {a : TA} (h : a σ H fun vs H1 => r vs H1 Q) : tCB r a σ H Q := h
theorem rd_call {sp : Sp} {E : XK} {a : TA} (h : a σ H fun vs H1 => sp vs H1 Q E) : tCall sp [] E a σ H Q := by
  show a σ H fun vs H1 => sp (vs ++ []) H1 Q E
  simpa using h
theorem rd_nil {R : List V → Hp → Prop} (q : R [] H) : tNil σ H R := q
theorem rd_cons {a : TA} {R : List V → Hp → Prop} (h : te σ H fun x H1 => a σ H1 fun xs H2 => R (x :: xs) H2) : tCons te a σ H R := h
theorem rd_I0 {g : Int → Int → V} {i j : Int} (q : Q (g i j) H) : rI0 g (.int i) (.int j) H Q := ⟨i, j, rfl, rfl, q⟩
theorem rd_I {C : Int → Int → Prop} {g : Int → Int → V} {i j : Int} (c : C i j) (q : Q (g i j) H) : rI C g (.int i) (.int j) H Q := ⟨i, j, rfl, rfl, c, q⟩
theorem rd_U {g : Int → V} {i : Int} (q : Q (g i) H) : rU g (.int i) H Q := ⟨i, rfl, q⟩
theorem rd_ret {D : Ends} (h : te σ H D.rt) : tRet te D σ H := h
theorem rd_retN {D : Ends} (h : D.rt .non H) : tRetN D σ H := h
theorem rd_seq {D : Ends} {a b : TS} (h : a { D with nx := b D } σ H) : tSeq a b D σ H := h
theorem rd_next {D : Ends} (h : D.nx σ H) : tNext D σ H := h
theorem rd_asg {D : Ends} {g : TG} (h : te σ H fun x H1 => g x σ H1 D.nx) : tAsg te g D σ H := h
theorem rd_gName {i : Nat} {R : L2.St → Hp → Prop} (h : R (σ.set i (some v)) H) : gName i v σ H R := h
theorem rd_drop {D : Ends} (h : te σ H fun _ H1 => D.nx σ H1) : tDrop te D σ H := h
theorem rd_ifS {D : Ends} {a b : TS} (h : t σ H fun c H1 => if c = true then a D σ H1 else b D σ H1) : tIfS t a b D σ H := h
theorem rd_test {R : Bool → Hp → Prop} (h : te σ H fun x H' => ∃ k, x = .bl k ∧ R k H') : tTest te σ H R := h
theorem rd_B {R : Bool → Hp → Prop} (h : te σ H fun x H' => ∃ k, x = .bl k ∧ R k H') : tB te σ H R := h
theorem rd_k {k : Bool} {R : Bool → Prop} (h : R k) : ∃ c, V.bl k = .bl c ∧ R c := ⟨k, rfl, h⟩
theorem rd_notT {R : Bool → Hp → Prop} (h : t σ H fun c H1 => R (!c) H1) : tNot t σ H R := h
theorem rd_andT {R : Bool → Hp → Prop} (h : t σ H fun c H1 => if c = true then u σ H1 R else R false H1) : tAnd t u σ H R := h
theorem rd_orT {R : Bool → Hp → Prop} (h : t σ H fun c H1 => if c = true then R true H1 else u σ H1 R) : tOr t u σ H R := h
theorem rd_andV (h : ta σ H fun x H1 => ∃ c, x = .bl c ∧ if c = true then tb σ H1 Q else Q (.bl false) H1) : tAndV ta tb σ H Q := h
theorem rd_orV (h : ta σ H fun x H1 => ∃ c, x = .bl c ∧ if c = true then Q (.bl true) H1 else tb σ H1 Q) : tOrV ta tb σ H Q := h
theorem rd_notV (h : ta σ H fun x H1 => ∃ c, x = .bl c ∧ Q (.bl (!c)) H1) : tNotV ta σ H Q := h
theorem rd_ifE (h : t σ H fun c H1 => if c = true then ta σ H1 Q else tb σ H1 Q) : tIf t ta tb σ H Q := h
theorem rd_chain {r r' : R2} (h : ta σ H fun x H1 => tb σ H1 fun y H2 => r x y H2 fun z H3 => ∃ k, z = .bl k ∧ if k = true then tc σ H3 (fun w H4 => r' y w H4 Q) else Q (.bl false) H3) : tChain r r' ta tb tc σ H Q := h
theorem rd_tup {a : TA} (h : a σ H fun xs H1 => xs.length ≤ sizeLine ∧ ∀ p, H1 p = none → Q (.ref p) (upd H1 p (.tup xs))) : tTup a σ H Q := h
theorem rd_lst {a : TA} (h : a σ H fun xs H1 => xs.length ≤ sizeLine ∧ ∀ p, H1 p = none → Q (.ref p) (upd H1 p (.lst xs))) : tLst a σ H Q := h
theorem rd_ixT {p : Addr} {xs : List V} {i : Nat} (hp : SqT K H p xs) (hi : xs[i]? = some v) (q : Q v H) : rIxT K (.ref p) (.int (i : Int)) H Q := by
  refine ⟨p, xs, _, v, rfl, rfl, hp, ?_, q⟩
  have := (List.getElem?_eq_some_iff.mp hi).1
  unfold atI ixN
  rw [if_pos (Int.natCast_nonneg i), if_pos (by omega)]
  simpa using hi
theorem rd_ixL {p : Addr} {xs : List V} {i : Nat} (hp : SqL K H p xs) (hi : xs[i]? = some v) (q : Q v H) : rIxL K (.ref p) (.int (i : Int)) H Q := by
  refine ⟨p, xs, _, v, rfl, rfl, hp, ?_, q⟩
  have := (List.getElem?_eq_some_iff.mp hi).1
  unfold atI ixN
  rw [if_pos (Int.natCast_nonneg i), if_pos (by omega)]
  simpa using hi
theorem rd_ixT0 {p : Addr} {xs : List V} (hp : SqT K H p xs) (hi : xs[0]? = some v) (q : Q v H) : rIxT K (.ref p) (.int 0) H Q := rd_ixT (i := 0) hp hi q
theorem rd_ixT1 {p : Addr} {xs : List V} (hp : SqT K H p xs) (hi : xs[1]? = some v) (q : Q v H) : rIxT K (.ref p) (.int 1) H Q := rd_ixT (i := 1) hp hi q
theorem rd_ixT2 {p : Addr} {xs : List V} (hp : SqT K H p xs) (hi : xs[2]? = some v) (q : Q v H) : rIxT K (.ref p) (.int 2) H Q := rd_ixT (i := 2) hp hi q
theorem rd_ixT3 {p : Addr} {xs : List V} (hp : SqT K H p xs) (hi : xs[3]? = some v) (q : Q v H) : rIxT K (.ref p) (.int 3) H Q := rd_ixT (i := 3) hp hi q
theorem rd_ixT4 {p : Addr} {xs : List V} (hp : SqT K H p xs) (hi : xs[4]? = some v) (q : Q v H) : rIxT K (.ref p) (.int 4) H Q := rd_ixT (i := 4) hp hi q
theorem rd_ixL0 {p : Addr} {xs : List V} (hp : SqL K H p xs) (hi : xs[0]? = some v) (q : Q v H) : rIxL K (.ref p) (.int 0) H Q := rd_ixL (i := 0) hp hi q
theorem rd_ixL1 {p : Addr} {xs : List V} (hp : SqL K H p xs) (hi : xs[1]? = some v) (q : Q v H) : rIxL K (.ref p) (.int 1) H Q := rd_ixL (i := 1) hp hi q
theorem rd_ixL2 {p : Addr} {xs : List V} (hp : SqL K H p xs) (hi : xs[2]? = some v) (q : Q v H) : rIxL K (.ref p) (.int 2) H Q := rd_ixL (i := 2) hp hi q
theorem rd_ixLast {p : Addr} {xs : List V} (hp : SqL K H p xs) (hi : xs.getLast? = some v) (q : Q v H) : rIxL K (.ref p) (.int (-1)) H Q := by
  refine ⟨p, xs, _, v, rfl, rfl, hp, ?_, q⟩
  have hl : xs ≠ [] := by
    intro e
    rw [e] at hi
    cases hi
  have hl2 : 0 < xs.length := List.length_pos_iff.mpr hl
  unfold atI ixN
  rw [if_neg (by decide), if_pos (by omega)]
  have e : ((-1 : Int) + (xs.length : Nat)).toNat = xs.length - 1 := by omega
  rw [List.getLast?_eq_getElem?] at hi
  simpa [e] using hi
theorem rd_ixTLast {p : Addr} {xs : List V} (hp : SqT K H p xs) (hi : xs.getLast? = some v) (q : Q v H) : rIxT K (.ref p) (.int (-1)) H Q := by
  refine ⟨p, xs, _, v, rfl, rfl, hp, ?_, q⟩
  have hl : xs ≠ [] := by
    intro e
    rw [e] at hi
    cases hi
  have hl2 : 0 < xs.length := List.length_pos_iff.mpr hl
  unfold atI ixN
  rw [if_neg (by decide), if_pos (by omega)]
  have e : ((-1 : Int) + (xs.length : Nat)).toNat = xs.length - 1 := by omega
  rw [List.getLast?_eq_getElem?] at hi
  simpa [e] using hi
theorem rd_lenT {p : Addr} {xs : List V} (hp : SqT K H p xs) (q : Q (.int (xs.length : Nat)) H) : rLenA K [.ref p] H Q := ⟨.ref p, xs.length, rfl, Or.inr ⟨xs, hp, rfl⟩, q⟩
theorem rd_lenL {p : Addr} {xs : List V} (hp : SqL K H p xs) (q : Q (.int (xs.length : Nat)) H) : rLenA K [.ref p] H Q := ⟨.ref p, xs.length, rfl, Or.inl ⟨xs, hp, rfl⟩, q⟩
theorem rd_eqS (h : scal x y = true) (q : Q (.bl (decide (x = y))) H) : rEq x y H Q := ⟨h, q⟩
theorem rd_neS (h : scal x y = true) (q : Q (.bl (!decide (x = y))) H) : rNe x y H Q := ⟨h, q⟩
theorem rd_and {A B : Prop} (h : A) (q : B) : A ∧ B := ⟨h, q⟩
theorem if_t {c : Bool} {A B : Prop} (h : c = true) (q : A) : if c = true then A else B := by
  rw [if_pos h]
  exact q
theorem if_f {c : Bool} {A B : Prop} (h : c = false) (q : B) : if c = true then A else B := by
  rw [if_neg (by rw [h]; decide)]
  exact q
theorem if_b {c : Bool} {A B : Prop} (h1 : c = true → A) (h2 : c = false → B) : if c = true then A else B := by
  cases c with
  | true => exact h1 rfl
  | false => exact h2 rfl
theorem rd_isi {n : String} {b : Bool} {k : String} (ht : TyX K H x (.type k)) (hk : kitB k n = some b) (q : Q (.bl b) H) : rIsi K [x, .ty n] H Q := ⟨x, .ty n, _, _, b, rfl, .ty n, ht, kit_ty hk, q⟩
theorem rd_nx {f n b c : L2.St → Hp → Prop} {r : VK} (h : f σ H) : Ends.nx (Ends.mk f r b c) σ H := h
theorem rd_ct {f n b c : L2.St → Hp → Prop} {r : VK} (h : c σ H) : Ends.ct (Ends.mk f r b c) σ H := h
theorem rd_bk {f n b c : L2.St → Hp → Prop} {r : VK} (h : b σ H) : Ends.bk (Ends.mk f r b c) σ H := h
theorem rd_rt {f n b c : L2.St → Hp → Prop} {r : VK} (h : r v H) : Ends.rt (Ends.mk f r b c) v H := h
theorem kb_ii : kitB "int" "int" = some true := by decide +kernel
theorem kb_ib : kitB "int" "bool" = some false := by decide +kernel
theorem kb_tt : kitB "tuple" "tuple" = some true := by decide +kernel
theorem kb_tl : kitB "tuple" "list" = some false := by decide +kernel
theorem kb_ss : kitB "str" "str" = some true := by decide +kernel
theorem kb_nt : kitB "NoneType" "tuple" = some false := by decide +kernel
theorem rd_isiT2 {tp : Addr} {k a b : String} (hx : TyX K H x (.type k)) (ht : H tp = some (.tup [.ty a, .ty b])) (h1 : kitB k a = some false) (h2 : kitB k b = some true) (q : Q (.bl true) H) : rIsiT K [x, .ref tp] H Q :=
  ⟨x, tp, _, _, _, true, rfl, ht, .cons (.ty a) (.cons (.ty b) .nil), hx, kitAny_cons (kit_ty h1) (fun _ => kitAny_cons (kit_ty h2) (fun z => nomatch z) fun _ => rfl) (fun z => nomatch z), q⟩
theorem rd_all {a : Addr} {bs : List Bool} (h : SqL K H a (bs.map V.bl)) (q : Q (.bl (bs.all id)) H) : rAll K [.ref a] H Q := ⟨a, bs, rfl, h, q⟩
theorem rd_for {D : Ends} {wi : TI} {g : TG} {tb : TS} (h : wi σ H fun J H1 => ∃ W : Nat → Nat → L2.St → Hp → Prop, (∃ m, W 0 m σ H1) ∧ ∀ i m σ H, W i m σ H →
      (J.stop i H ∧ D.nx σ H) ∨ (J.go i H ∧ ∃ N : L2.St → Hp → Prop, (∀ σ' H', N σ' H' → ∃ m', m' < m ∧ W (i + 1) m' σ' H') ∧ ∀ x H', J.yld i H x H' → g x σ H' fun σ2 H2 => tb { D with nx := N, ct := N, bk := D.nx } σ2 H2)) : tFor wi g tb D σ H := h
def iT1 (K : PySem.W.Frag) (R : It → Hp → Prop) : VK := fun x H1 => ∃ a, x = .ref a ∧ (∃ xs, SqT K H1 a xs) ∧ R (Itt K a) H1
theorem rd_iTup {R : It → Hp → Prop} (h : te σ H (iT1 K R)) : iTup K te σ H R := h
def iL1 (K : PySem.W.Frag) (R : It → Hp → Prop) : VK := fun x H1 => ∃ a, x = .ref a ∧ (∃ xs, SqL K H1 a xs) ∧ R (Itl K a) H1
theorem rd_iList {R : It → Hp → Prop} (h : te σ H (iL1 K R)) : iList K te σ H R := h
theorem rd_itt {R : It → Hp → Prop} {a : Addr} {xs : List V} (h : SqT K H a xs) (q : R (Itt K a) H) : iT1 K R (.ref a) H := ⟨a, rfl, ⟨xs, h⟩, q⟩
theorem rd_itl {R : It → Hp → Prop} {a : Addr} {xs : List V} (h : SqL K H a xs) (q : R (Itl K a) H) : iL1 K R (.ref a) H := ⟨a, rfl, ⟨xs, h⟩, q⟩
def iR1 (R : It → Hp → Prop) : List V → Hp → Prop := fun vs H1 => ∃ j : Int, vs = [.int j] ∧ -(2 ^ 62) ≤ j ∧ j < 2 ^ 62 ∧ R (Itr 0 j.toNat) H1
theorem rd_iRng1 {a : TA} {R : It → Hp → Prop} (h : a σ H (iR1 R)) : iRng1 a σ H R := h
theorem rd_rng1 {n : Nat} {R : It → Hp → Prop} (hn : n < 2 ^ 62) (q : R (Itr 0 n) H) : iR1 R [V.int (n : Int)] H := ⟨n, rfl, by omega, by omega, by simpa using q⟩
def iR2 (R : It → Hp → Prop) : List V → Hp → Prop := fun vs H1 => ∃ i j : Int, vs = [.int i, .int j] ∧ (-(2 ^ 62) ≤ i ∧ i < 2 ^ 62 ∧ -(2 ^ 62) ≤ j ∧ j < 2 ^ 62) ∧ R (Itr i (j - i).toNat) H1
theorem rd_iRng2 {a : TA} {R : It → Hp → Prop} (h : a σ H (iR2 R)) : iRng2 a σ H R := h
theorem rd_rng2 {i j : Int} {R : It → Hp → Prop} (hn : -(2 ^ 62) ≤ i ∧ i < 2 ^ 62 ∧ -(2 ^ 62) ≤ j ∧ j < 2 ^ 62) (q : R (Itr i (j - i).toNat) H) : iR2 R [V.int i, V.int j] H := ⟨i, j, rfl, hn, q⟩
def iE1 (K : PySem.W.Frag) (R : It → Hp → Prop) : List V → Hp → Prop := fun vs H1 => ∃ a xs, vs = [.ref a] ∧ SqT K H1 a xs ∧ R (IteT K a) H1
theorem rd_iEnumT {a : TA} {R : It → Hp → Prop} (h : a σ H (iE1 K R)) : iEnumT K a σ H R := h
theorem rd_enumT {a : Addr} {xs : List V} {R : It → Hp → Prop} (hs : SqT K H a xs) (q : R (IteT K a) H) : iE1 K R [V.ref a] H := ⟨a, xs, rfl, hs, q⟩
def iE2 (K : PySem.W.Frag) (R : It → Hp → Prop) : List V → Hp → Prop := fun vs H1 => ∃ a xs, vs = [.ref a] ∧ SqL K H1 a xs ∧ R (Ite K a) H1
theorem rd_iEnum {a : TA} {R : It → Hp → Prop} (h : a σ H (iE2 K R)) : iEnum K a σ H R := h
theorem rd_enumL {a : Addr} {xs : List V} {R : It → Hp → Prop} (hs : SqL K H a xs) (q : R (Ite K a) H) : iE2 K R [V.ref a] H := ⟨a, xs, rfl, hs, q⟩
theorem rd_lc {wi : TI} {g : TG} {tt : TT} {vs : List Nat} (h : wi σ H fun J H1 => ∀ D, H1 D = none → ∃ W : Nat → Nat → Hp → Prop, (∃ m, W 0 m (upd H1 D (.lst []))) ∧ ∀ i m H, W i m H →
      (J.stop i H ∧ Q (.ref D) H) ∨ (J.go i H ∧ ∃ Nx : Hp → Prop, (∀ H', Nx H' → ∃ m', m' < m ∧ W (i + 1) m' H') ∧ ∀ x H', J.yld i H x H' → g x (wipe σ vs) H' fun σ2 H2 => wipe σ2 vs = wipe σ vs ∧ tt σ2 H2 fun b H3 =>
        if b = true then te σ2 H3 fun y H4 => ∃ acc, H4 D = some (.lst acc) ∧ acc.length < sizeLine ∧ Nx (upd H4 D (.lst (acc ++ [y]))) else Nx H3)) : tLc wi g tt te vs σ H Q := h
theorem rd_yes {R : Bool → Hp → Prop} (h : R true H) : tYes σ H R := h
theorem rd_gTup {a : Addr} {xs : List V} {n : Nat} {g : TGs} {R : L2.St → Hp → Prop} (hs : SqT K H a xs) (hn : xs.length = n) (h : g xs σ H R) : gTup K n g (.ref a) σ H R := ⟨a, xs, rfl, hs, hn, h⟩
theorem rd_gCons {g : TG} {gs : TGs} {r : List V} {R : L2.St → Hp → Prop} (h : g v σ H fun σ' H' => gs r σ' H' R) : gCons g gs (v :: r) σ H R := ⟨v, r, rfl, h⟩
theorem rd_gNil {R : L2.St → Hp → Prop} (h : R σ H) : gNil [] σ H R := ⟨rfl, h⟩
def fl1 (K : PySem.W.Frag) (f : Str) (Q : VK) : VK := fun x H1 => ∃ a C dx fs v, x = .ref a ∧ H1 a = some (.ins C dx fs) ∧ Cls K C ∧ NoAttr K C f ∧ fs.lookup f = some v ∧ Q v H1
theorem rd_fld {f : Str} (h : ta σ H (fl1 K f Q)) : tFld K ta f σ H Q := h
theorem rd_fld1 {f : Str} {a C dx : Addr} {fs : List (Str × V)} (h1 : H a = some (.ins C dx fs)) (c : Cls K C) (n : NoAttr K C f) (l : fs.lookup f = some v) (q : Q v H) : fl1 K f Q (.ref a) H := ⟨a, C, dx, fs, v, rfl, h1, c, n, l, q⟩
def me1 (C : Addr) (m : Str) (R : V → Hp → Prop) : VK := fun x H1 => ∃ b dx fs, x = .ref b ∧ H1 b = some (.ins C dx fs) ∧ fs.lookup m = none ∧ R x H1
theorem rd_meth {C : Addr} {m : Str} {sp : Sp} {E : XK} {a : TA} (h : ta σ H (me1 C m fun x H1 => a σ H1 fun vs H2 => sp (x :: vs) H2 Q E)) : tMeth C m sp [] E ta a σ H Q := by
  refine cast ?_ h
  unfold tMeth me1
  simp only [List.append_nil]
theorem rd_meth1 {C dx a : Addr} {fs : List (Str × V)} {m : Str} {R : V → Hp → Prop} (h1 : H a = some (.ins C dx fs)) (l : fs.lookup m = none) (q : R (.ref a) H) : me1 C m R (.ref a) H := ⟨a, dx, fs, rfl, h1, l, q⟩
def sf1 (K : PySem.W.Frag) (f : Str) (y : V) (R : Hp → Prop) : VK := fun x H2 => ∃ a C dx fs, x = .ref a ∧ H2 a = some (.ins C dx fs) ∧ Cls K C ∧ NoAttr K C f ∧ fs.length < 1000 ∧ R (upd H2 a (.ins C dx (putF f y fs)))
theorem rd_sFld {D : Ends} {f : Str} (h : tb σ H fun y H1 => ta σ H1 (sf1 K f y fun H2 => D.nx σ H2)) : sFld K ta tb f D σ H := h
theorem rd_sFld1 {f : Str} {y : V} {R : Hp → Prop} {a C dx : Addr} {fs : List (Str × V)} (h1 : H a = some (.ins C dx fs)) (c : Cls K C) (n : NoAttr K C f) (l : fs.length < 1000) (q : R (upd H a (.ins C dx (putF f y fs)))) : sf1 K f y R (.ref a) H := ⟨a, C, dx, fs, rfl, h1, c, n, l, q⟩
theorem rd_BM {T : String} {r : V → List V → Hp → VK → Prop} {a : TA} (h : te σ H fun x H1 => tyV K T x H1 ∧ a σ H1 fun xs H2 => r x xs H2 Q) : tBM K T r te a σ H Q := h
theorem rd_BM0 {T : String} {r : V → List V → Hp → VK → Prop} (h : te σ H fun x H1 => tyV K T x H1 ∧ r x [] H1 Q) : tBM0 K T r te σ H Q := h
theorem rd_append {l : Addr} {xs : List V} (h : H l = some (.lst xs)) (hl : xs.length < sizeLine) (q : Q .non (upd H l (.lst (xs ++ [v])))) : rAppend (.ref l) [v] H Q := ⟨l, xs, v, rfl, rfl, h, hl, q⟩
theorem rd_tyL {l : Addr} {xs : List V} (h : H l = some (.lst xs)) : tyV K "list" (.ref l) H := .inl ⟨rfl, _, SqL.of h⟩
theorem rd_orTr (h : ta σ H fun x H1 => ∃ k, TruV K x H1 k ∧ if k = true then Q x H1 else tb σ H1 Q) : tOrT K ta tb σ H Q := h
theorem rd_augS {D : Ends} {tget : V → V → Hp → VK → Prop} {tip : TIp} {tset : TSet} (h : ta σ H fun o H1 => tb σ H1 fun i H2 => tget o i H2 fun x H3 => tc σ H3 fun y H4 => tip x y H4 fun z H5 => tset o i z H5 fun H6 => D.nx σ H6) : tAugS ta tb tc tget tip tset D σ H := h
theorem rd_getL {p : Addr} {xs : List V} {n : Nat} (h : SqL K H p xs) (hi : xs[n]? = some v) (q : Q v H) : rGetL K (.ref p) (.int (n : Int)) H Q := ⟨p, xs, n, v, rfl, rfl, h, hi, q⟩
theorem rd_ip {f : Int → Int → Int} {i j : Int} (q : Q (.int (f i j)) H) : ipI f (.int i) (.int j) H Q := ⟨i, j, rfl, rfl, q⟩
theorem rd_setL {p : Addr} {xs : List V} {n : Nat} {R : Hp → Prop} (h : H p = some (.lst xs)) (hi : n < xs.length) (q : R (upd H p (.lst (xs.set n v)))) : rSetL (.ref p) (.int (n : Int)) v H R := by
  refine ⟨p, xs, _, n, rfl, rfl, h, ?_, q⟩
  unfold ixN
  rw [if_pos (Int.natCast_nonneg n), if_pos (by omega)]
  simp
theorem rd_gSub {ts : TSet} {R : L2.St → Hp → Prop} (h : ta σ H fun o H1 => tb σ H1 fun i H2 => ts o i v H2 fun H3 => R σ H3) : gSub ta tb ts v σ H R := h
theorem rd_aug {D : Ends} {i : Nat} {ti : TIp} (h1 : σ[i]? = some (some x)) (h : te σ H fun y H1 => ti x y H1 fun z H2 => D.nx (σ.set i (some z)) H2) : tAug i te ti D σ H := ⟨x, h1, h⟩
theorem rd_par {D : Ends} {i j : Nat} {a : TA} (h : a σ H fun vs H1 => ∃ v w, vs = [v, w] ∧ D.nx ((σ.set i (some v)).set j (some w)) H1) : tPar i j a D σ H := h
theorem rd_par1 {R : V → V → Prop} (h : R x y) : ∃ v w, [x, y] = [v, w] ∧ R v w := ⟨x, y, rfl, h⟩
theorem rd_listOfT {p : Addr} {ys : List V} (h : SqT K H p ys) (q : ∀ l, H l = none → Q (.ref l) (upd H l (.lst ys))) : rListOf K [.ref p] H Q := ⟨p, ys, rfl, .inr h, q⟩
theorem rd_listOfL {p : Addr} {ys : List V} (h : SqL K H p ys) (q : ∀ l, H l = none → Q (.ref l) (upd H l (.lst ys))) : rListOf K [.ref p] H Q := ⟨p, ys, rfl, .inl h, q⟩
theorem rd_tupleOfL {p : Addr} {ys : List V} (h : SqL K H p ys) (q : ∀ l, H l = none → Q (.ref l) (upd H l (.tup ys))) : rTupleOf K [.ref p] H Q := ⟨p, ys, rfl, .inl ⟨h, q⟩⟩
theorem rd_extend {l b : Addr} {xs zs : List V} (h1 : H l = some (.lst xs)) (h2 : H b = some (.lst zs)) (hl : xs.length + zs.length ≤ sizeLine) (q : Q .non (upd H l (.lst (xs ++ zs)))) : rExtend (.ref l) [.ref b] H Q := ⟨l, b, xs, zs, rfl, rfl, h1, h2, hl, q⟩
theorem rd_pop {l : Addr} {xs : List V} {y : V} (h1 : H l = some (.lst xs)) (h2 : xs.getLast? = some y) (q : Q y (upd H l (.lst xs.dropLast))) : rPop (.ref l) [] H Q := ⟨l, xs, y, rfl, rfl, h1, by rw [← List.getLast?_eq_getElem?]; exact h2, q⟩
theorem rd_sl {r : V → Option Int → Option Int → Hp → VK → Prop} {tl th : TO} (h : te σ H fun x H1 => tl σ H1 fun l H2 => th σ H2 fun u H3 => r x l u H3 Q) : tSl r te tl th σ H Q := h
theorem rd_noPart {R : Option Int → Hp → Prop} (h : R none H) : tNoPart σ H R := h
def pt1 (R : Option Int → Hp → Prop) : VK := fun x H1 => ∃ i, x = .int i ∧ R (some i) H1
theorem rd_part {R : Option Int → Hp → Prop} (h : te σ H (pt1 R)) : tPart te σ H R := h
theorem rd_pt1 {R : Option Int → Hp → Prop} {i : Int} (h : R (some i) H) : pt1 R (.int i) H := ⟨i, rfl, h⟩
/-! the heap grows -/
theorem upd_fr {a p : Addr} {u o : HO} (h : H a = some u) (hp : H p = none) : upd H p o a = some u := by
  rw [upd_ne (ne_of_none h hp)]
  exact h
theorem ex_get {a : Addr} {o : HO} (e : Ex H H1) (h : H a = some o) : H1 a = some o := e a o h
theorem sqT_ex {a : Addr} {xs : List V} (e : Ex H H1) (h : H a = some (.tup xs)) : SqT K H1 a xs := st_of (e a _ h)
theorem sqL_ex {a : Addr} {xs : List V} (e : Ex H H1) (h : H a = some (.lst xs)) : SqL K H1 a xs := sq_of (e a _ h)
theorem ex_new {p : Addr} {o : HO} (e : Ex H H1) (h : H1 p = none) : Ex H (upd H1 p o) := e.trans (Ex.new h)
/-- a place that was free before may be set again -/
theorem ex_set {p : Addr} {o : HO} (e : Ex H H1) (h : H p = none) : Ex H (upd H1 p o) := Ex.mut e h
theorem free_back (e : Ex H H1) {p : Addr} (h : H1 p = none) : H p = none := fresh_back e h
theorem rd_catA {a b : Addr} {xs ys : List V} (h1 : H a = some (.tup xs)) (h2 : H b = some (.tup ys)) (hl : xs.length + ys.length ≤ sizeLine) (q : ∀ c H', Ex H H' → H' c = some (.tup (xs ++ ys)) → Q (.ref c) H') : rCatA K (.ref a) (.ref b) H Q := by
  refine ⟨a, b, xs, ys, rfl, rfl, st_of h1, st_of h2, hl, fun e => ?_, fun _ e => ?_, fun _ _ p hp => q p _ (Ex.new hp) upd_same⟩
  · subst e
    exact q b H (Ex.refl H) h2
  · subst e
    exact q a H (Ex.refl H) (by simpa using h1)
theorem cut_all {xs : List V} {lo hi : Option Int} (h : HT.sIx xs.length 0 lo = 0 ∧ HT.sIx xs.length xs.length hi = xs.length) : cutV xs lo hi = xs := by
  unfold cutV
  rw [h.1, h.2]
  simp
theorem rd_slA {a : Addr} {xs : List V} {lo hi : Option Int} (h1 : H a = some (.tup xs)) (q : ∀ c H', Ex H H' → H' c = some (.tup (cutV xs lo hi)) → Q (.ref c) H') : rSlA K (.ref a) lo hi H Q :=
  ⟨a, xs, rfl, st_of h1, fun e => q a H (Ex.refl H) (by rw [cut_all e]; exact h1), fun _ p hp => q p _ (Ex.new hp) upd_same⟩
def rt1 (K : PySem.W.Frag) (Q : VK) : VK := fun x H1 => ∃ a xs, x = .ref a ∧ SqT K H1 a xs ∧ ∀ p, H1 p = none → Q (.ref p) (upd H1 p (.tup xs.reverse))
theorem rd_revT (h : te σ H (rt1 K Q)) : tRevT K te σ H Q := h
theorem rd_rt1 {a : Addr} {xs : List V} (h : SqT K H a xs) (q : ∀ p, H p = none → Q (.ref p) (upd H p (.tup xs.reverse))) : rt1 K Q (.ref a) H := ⟨a, xs, rfl, h, q⟩
theorem rd_cat {l b : Addr} {xs zs : List V} (h1 : H l = some (.lst xs)) (h2 : H b = some (.lst zs)) (hl : xs.length + zs.length ≤ sizeLine) (q : ∀ p, H p = none → Q (.ref p) (upd H p (.lst (xs ++ zs)))) : rCat (.ref l) (.ref b) H Q := ⟨l, b, xs, zs, rfl, rfl, h1, h2, hl, q⟩
theorem rd_in {p : Addr} {xs : List V} {neg : Bool} (h : SqL K H p xs ∨ SqT K H p xs) (f : flatV x = true) (g : xs.all flatV = true) (q : Q (.bl (if neg then !inV x xs else inV x xs)) H) : rIn K neg x (.ref p) H Q := ⟨p, xs, rfl, h, f, g, q⟩
theorem rd_make {C : Addr} {sp : Sp} {E : XK} {a : TA} (h : a σ H fun vs H1 => ∀ x dx, H1 x = none → H1 dx = none → dx ≠ x → sp (V.ref x :: vs) (upd (upd H1 dx (.own x)) x (.ins C dx [])) (fun v H2 => v = .non ∧ Q (.ref x) H2) E) : tMake C sp [] E a σ H Q := by
  unfold tMake
  simp only [List.append_nil]
  exact h
theorem rd_setI {w : World} {a : Addr} {ns : List Int} (h1 : SqL K H a (ns.map V.int)) (h2 : ns.length ≤ 4000) (q : ∀ (p : Addr) (c : Nat), H p = none → (∀ N : Nat, (∀ k ∈ ns, 0 ≤ k ∧ k < (N : Int)) → c ≤ N) → Q (.ref p) (upd H p (SetO w p (fun j => decide (j ∈ ns)) c))) : rSetI K w [.ref a] H Q := ⟨a, ns, rfl, h1, h2, q⟩
theorem rd_sortedSet {w : World} {a : Addr} {S : Int → Bool} {n : Nat} (h1 : H a = some (SetO w a S n)) (h2 : n < 64) (q : ∀ (ns : List Int) (p : Addr), ns.Pairwise (· < ·) → (∀ k : Int, k ∈ ns ↔ S k = true) → ns.length = n → H p = none → Q (.ref p) (upd H p (.lst (ns.map V.int)))) : rSortedSet w [.ref a] H Q := ⟨a, S, n, rfl, h1, h2, q⟩
theorem rd_sortedTup {a : Addr} {ns : List Int} (h1 : SqT K H a (ns.map V.int)) (h2 : ns.length < 64) (q : ∀ (ns' : List Int) (p : Addr), ns'.Perm ns → ns'.Pairwise (· ≤ ·) → H p = none → Q (.ref p) (upd H p (.lst (ns'.map V.int)))) : rSortedT K [.ref a] H Q := ⟨a, ns, rfl, h1, h2, q⟩
end
end Sf
/-! The data: rows, heaps, how they stand in the machine's heap. -/
namespace Sf
open PySem PySem.Spec PyProof.Rows L2 Evl
abbrev Row := Option (List (Option Nat))
abbrev Hv := List Row × List Nat
@[reducible] def ent : Option Nat → V
  | none => .non
  | some n => .int (n : Int)
def ivs (ns : List Nat) : List V := ns.map fun n : Nat => V.int (n : Int)
theorem ivs_len (ns : List Nat) : (ivs ns).length = ns.length := by simp [ivs]
theorem ivs_get {ns : List Nat} {i n : Nat} (h : ns[i]? = some n) : (ivs ns)[i]? = some (.int (n : Int)) := by simp [ivs, h]
theorem ivs_of {ns : List Nat} {i : Nat} {v : V} (h : (ivs ns)[i]? = some v) : ∃ n, ns[i]? = some n ∧ v = .int (n : Int) := by
  unfold ivs at h
  rw [List.getElem?_map] at h
  cases e : ns[i]? with
  | none => rw [e] at h; cases h
  | some n => rw [e] at h; exact ⟨n, rfl, (Option.some.inj h).symm⟩
theorem ivs_cast (ns : List Nat) : ivs ns = (ns.map fun n : Nat => (n : Int)).map V.int := by simp [ivs]
theorem ents_get {xs : List (Option Nat)} {i : Nat} {e : Option Nat} (h : xs[i]? = some e) : (xs.map ent)[i]? = some (ent e) := by simp [h]
theorem ents_of {xs : List (Option Nat)} {i : Nat} {v : V} (h : (xs.map ent)[i]? = some v) : ∃ e, xs[i]? = some e ∧ v = ent e := by
  rw [List.getElem?_map] at h
  cases e : xs[i]? with
  | none => rw [e] at h; cases h
  | some n => rw [e] at h; exact ⟨n, rfl, (Option.some.inj h).symm⟩
def RowV (H : Hp) (v : V) : Row → Prop
  | none => v = .non
  | some xs => ∃ a, v = .ref a ∧ H a = some (.tup (xs.map ent))
def RowsV (H : Hp) (vs : List V) (rs : List Row) : Prop := vs.length = rs.length ∧ ∀ (i : Nat) (r : Row), rs[i]? = some r → ∃ v, vs[i]? = some v ∧ RowV H v r
def SlotsV (H : Hp) (v : V) (rs : List Row) : Prop := ∃ a vs, v = .ref a ∧ H a = some (.tup vs) ∧ RowsV H vs rs
def OutsV (H : Hp) (v : V) (os : List Nat) : Prop := ∃ a, v = .ref a ∧ H a = some (.tup (ivs os))
def HeapV (H : Hp) (v : V) (hp : Hv) : Prop := ∃ a s o, v = .ref a ∧ H a = some (.tup [s, o]) ∧ SlotsV H s hp.1 ∧ OutsV H o hp.2
section
variable {H H1 : Hp} {v : V}
theorem RowV.mono (e : Ex H H1) : ∀ {r : Row}, RowV H v r → RowV H1 v r
  | none, h => h
  | some _, ⟨a, h1, h2⟩ => ⟨a, h1, e _ _ h2⟩
theorem RowsV.mono {vs : List V} {rs : List Row} (e : Ex H H1) (h : RowsV H vs rs) : RowsV H1 vs rs := ⟨h.1, fun i r hi => let ⟨v, h1, h2⟩ := h.2 i r hi; ⟨v, h1, h2.mono e⟩⟩
theorem SlotsV.mono {rs : List Row} (e : Ex H H1) : SlotsV H v rs → SlotsV H1 v rs := fun ⟨a, vs, h1, h2, h3⟩ => ⟨a, vs, h1, e _ _ h2, h3.mono e⟩
theorem OutsV.mono {os : List Nat} (e : Ex H H1) : OutsV H v os → OutsV H1 v os := fun ⟨a, h1, h2⟩ => ⟨a, h1, e _ _ h2⟩
theorem HeapV.mono {hp : Hv} (e : Ex H H1) : HeapV H v hp → HeapV H1 v hp := fun ⟨a, s, o, h1, h2, h3, h4⟩ => ⟨a, s, o, h1, e _ _ h2, h3.mono e, h4.mono e⟩
theorem RowsV.of {vs : List V} {rs : List Row} {i : Nat} {v : V} (h : RowsV H vs rs) (hi : vs[i]? = some v) : ∃ r, rs[i]? = some r ∧ RowV H v r := by
  have hl := (List.getElem?_eq_some_iff.mp hi).1
  have hl2 : i < rs.length := by rw [← h.1]; exact hl
  obtain ⟨v', h1, h2⟩ := h.2 i rs[i] (List.getElem?_eq_getElem hl2)
  rw [hi] at h1
  cases h1
  exact ⟨_, List.getElem?_eq_getElem hl2, h2⟩
end
theorem small40 {n : Nat} (h : n ≤ 1000000) : n ≤ sizeLine := Nat.le_trans h (by decide)
theorem lt40 {n : Nat} (h : n ≤ 1000000) : n < sizeLine := Nat.lt_of_le_of_lt h (by decide)
def rowL (r : Row) : List (Option Nat) := r.getD []
theorem rd_orRow {K : PySem.W.Frag} {σ : L2.St} {H : Hp} {i : Nat} {x : V} {r : Row} {Q : VK} (h1 : σ[i]? = some (some x)) (h2 : RowV H x r) (h : ∀ a H', Ex H H' → H' a = some (.tup ((rowL r).map ent)) → Q (.ref a) H') : tOrT K (tVar i) (tTup tNil) σ H Q := by
  refine ⟨x, h1, ?_⟩
  have fresh : (rowL r).map ent = [] → tTup tNil σ H Q := fun e => ⟨small40 (by decide), fun p hp => h p _ (Ex.new hp) (by rw [e]; exact upd_same)⟩
  cases r with
  | none =>
    have e : x = .non := h2
    subst e
    exact ⟨false, rfl, fresh rfl⟩
  | some xs =>
    obtain ⟨a, rfl, ha⟩ := h2
    refine ⟨_, Or.inr (Or.inl ⟨_, st_of ha, rfl⟩), ?_⟩
    cases xs with
    | nil => exact fresh rfl
    | cons y ys => exact h a H (Ex.refl H) ha
/-- how often v stands in the row -/
def occr (r : Row) (v : Nat) : Nat := match r with
  | none => 0
  | some xs => xs.count (some v)
def cnt (rs : List Row) (v : Nat) : Nat := (rs.map fun r => occr r v).sum
def outc (os : List Nat) (v : Nat) : Nat := (os[v]?).getD 0
def refc (rs : List Row) (os : List Nat) : List Nat := (List.range os.length).map fun v => outc os v + cnt rs v
def RowOk (n : Nat) (r : Row) : Prop := ∀ xs, r = some xs → xs.length ≤ 40 ∧ ∀ v, some v ∈ xs → v < n
/-- a heap -/
structure Vh (hp : Hv) : Prop where
  len : hp.1.length = hp.2.length
  n40 : hp.1.length ≤ 40
  rows : ∀ (i : Nat) (r : Row), hp.1[i]? = some r → RowOk hp.1.length r
  nine : ∀ (i o : Nat), hp.2[i]? = some o → o ≤ 9
  free : ∀ v : Nat, hp.1[v]? = some none → outc hp.2 v + cnt hp.1 v = 0
  live : ∀ (v : Nat) (xs : List (Option Nat)), hp.1[v]? = some (some xs) → 1 ≤ outc hp.2 v + cnt hp.1 v
def Live (rs : List Row) (v : Nat) : Prop := ∃ xs, rs[v]? = some (some xs)
theorem refc_get {rs : List Row} {os : List Nat} {v : Nat} (h : v < os.length) : (refc rs os)[v]? = some (outc os v + cnt rs v) := by
  unfold refc
  rw [List.getElem?_map, List.getElem?_range h]
  rfl
theorem refc_len (rs : List Row) (os : List Nat) : (refc rs os).length = os.length := by simp [refc]
theorem outs_of {os : List Nat} {v n : Nat} (h : os[v]? = some n) : outc os v = n := by simp [outc, h]
theorem walk_rng {n : Nat} : Walk (Itr 0 n) n (fun _ => True) (YFn fun i => .int (i : Int)) := walk_range.mono (fun _ _ => trivial) fun i H x H' _ _ y => ⟨y.1, y.2.trans (congrArg V.int (Int.zero_add _))⟩
/-! a list that grows at D, all else as it stood in H -/
def Acc (H : Hp) (D : Addr) (xs : List V) (H1 : Hp) : Prop := H D = none ∧ Ex H H1 ∧ H1 D = some (.lst xs)
section
variable {H H1 H2 : Hp} {D : Addr} {xs ys : List V} {y : V}
theorem Acc.ex (a : Acc H D xs H1) (e : Ex H1 H2) : Acc H D xs H2 := ⟨a.1, a.2.1.trans e, e _ _ a.2.2⟩
theorem Acc.put (a : Acc H D xs H1) : Acc H D ys (upd H1 D (.lst ys)) := ⟨a.1, Ex.mut a.2.1 a.1, upd_same⟩
theorem Acc.new (e : Ex H H1) (h : H1 D = none) : Acc H D xs (upd H1 D (.lst xs)) := ⟨fresh_back e h, ex_new e h, upd_same⟩
theorem Acc.at {a : Addr} {o : HO} (z : Acc H D xs H1) (h : H a = some o) : H1 a = some o := z.2.1 _ _ h
theorem acc_add (a : Acc H D xs H1) (hl : xs.length ≤ 1000000) (e : ys = xs ++ [y]) : ∃ acc, H1 D = some (.lst acc) ∧ acc.length < sizeLine ∧ Acc H D ys (upd H1 D (.lst (acc ++ [y]))) := by
  subst e
  exact ⟨xs, a.2.2, lt40 hl, a.put⟩
end
/-- the numbers below n that p picks -/
def picks (n : Nat) (p : Nat → Bool) : List Nat := (List.range n).filter p
theorem picks_yes {n : Nat} {p : Nat → Bool} (h : p n = true) : picks (n + 1) p = picks n p ++ [n] := by
  unfold picks
  rw [List.range_succ, List.filter_append]
  simp [h]
theorem picks_no {n : Nat} {p : Nat → Bool} (h : p n = false) : picks (n + 1) p = picks n p := by
  unfold picks
  rw [List.range_succ, List.filter_append]
  simp [h]
theorem picks_len (n : Nat) (p : Nat → Bool) : (picks n p).length ≤ n := by
  have h := List.length_filter_le p (List.range n)
  rw [List.length_range] at h
  exact h
theorem mem_picks {n v : Nat} {p : Nat → Bool} : v ∈ picks n p ↔ v < n ∧ p v = true := by simp [picks]
theorem picks_sorted (n : Nat) (p : Nat → Bool) : (picks n p).Pairwise (· < ·) := List.Pairwise.filter _ List.pairwise_lt_range
theorem ivs_app (a b : List Nat) : ivs (a ++ b) = ivs a ++ ivs b := by simp [ivs]
theorem picks_ivs {n : Nat} {p : Nat → Bool} (h : p n = true) : ivs (picks (n + 1) p) = ivs (picks n p) ++ [.int (n : Int)] := by
  rw [picks_yes h, ivs_app]
  rfl
def liveB (rs : List Row) (v : Nat) : Bool := match rs[v]? with
  | some (some _) => true
  | _ => false
def liveN (rs : List Row) : List Nat := picks rs.length (liveB rs)
def freeN (rs : List Row) : List Nat := picks rs.length fun v => !liveB rs v
theorem liveB_iff {rs : List Row} {v : Nat} : liveB rs v = true ↔ Live rs v := by
  unfold liveB Live
  split
  · rename_i xs h
    exact ⟨fun _ => ⟨xs, h⟩, fun _ => rfl⟩
  · rename_i h
    exact ⟨fun z => (nomatch z), fun ⟨xs, e⟩ => (h xs e).elim⟩
theorem Live.lt {rs : List Row} {v : Nat} (h : Live rs v) : v < rs.length := by
  obtain ⟨xs, e⟩ := h
  exact (List.getElem?_eq_some_iff.mp e).1
theorem liveB_some {rs : List Row} {v : Nat} {xs : List (Option Nat)} (h : rs[v]? = some (some xs)) : liveB rs v = true := liveB_iff.mpr ⟨xs, h⟩
theorem liveB_none {rs : List Row} {v : Nat} (h : rs[v]? = some none) : liveB rs v = false := by simp [liveB, h]
theorem mem_liveN {rs : List Row} {v : Nat} : v ∈ liveN rs ↔ Live rs v := by
  unfold liveN
  rw [mem_picks, liveB_iff]
  exact ⟨fun h => h.2, fun h => ⟨h.lt, h⟩⟩
theorem RowV.live {H : Hp} {v : V} {r : Row} (h : RowV H v r) : (v = .non ↔ r = none) := by
  cases r with
  | none => exact ⟨fun _ => rfl, fun _ => h⟩
  | some xs =>
    obtain ⟨a, e, _⟩ := h
    subst e
    exact ⟨fun z => (by cases z), fun z => (by cases z)⟩
end Sf
/-! Counting: plain. -/
namespace Sf
theorem cnt_take {rs : List Row} {i : Nat} {r : Row} (h : rs[i]? = some r) (v : Nat) : cnt (rs.take (i + 1)) v = cnt (rs.take i) v + occr r v := by
  unfold cnt
  rw [List.take_add_one, h]
  simp [List.sum_append]
theorem count_take {xs : List (Option Nat)} {j : Nat} {e : Option Nat} (h : xs[j]? = some e) (x : Option Nat) : (xs.take (j + 1)).count x = (xs.take j).count x + (if e = x then 1 else 0) := by
  rw [List.take_add_one, h]
  simp only [Option.toList_some, List.count_append, List.count_singleton]
  by_cases hx : e = x
  · simp [hx]
  · simp [hx]
theorem map_range_set {n h : Nat} {f g : Nat → Nat} (hh : h < n) (h1 : g h = f h + 1) (h2 : ∀ v, v ≠ h → g v = f v) : ((List.range n).map f).set h (f h + 1) = (List.range n).map g := by
  apply List.ext_getElem?
  intro v
  rw [List.getElem?_set]
  by_cases e : h = v
  · subst e
    rw [if_pos rfl]
    simp [hh, h1]
  · rw [if_neg e]
    rw [List.getElem?_map, List.getElem?_map]
    by_cases hv : v < n
    · rw [List.getElem?_range hv]
      simp [h2 v (fun z => e z.symm)]
    · rw [List.getElem?_eq_none (by simpa using Nat.le_of_not_lt hv)]
      rfl
theorem set_ivs {ns : List Nat} {i n : Nat} : (ivs ns).set i (.int (n : Int)) = ivs (ns.set i n) := by
  unfold ivs
  rw [List.map_set]
theorem sum_zero : ∀ {l : List Nat}, l.sum = 0 ↔ ∀ x ∈ l, x = 0
  | [] => by simp
  | a :: l => by
    rw [List.sum_cons]
    constructor
    · intro h x hx
      rcases List.mem_cons.mp hx with e | m
      · omega
      · exact sum_zero.mp (by omega) x m
    · intro h
      have h1 := h a (List.mem_cons_self ..)
      have h2 := sum_zero.mpr fun x hx => h x (List.mem_cons_of_mem _ hx)
      omega
theorem cnt_eq_zero {rs : List Row} {v : Nat} : cnt rs v = 0 ↔ ∀ (i : Nat) (xs : List (Option Nat)), rs[i]? = some (some xs) → some v ∉ xs := by
  unfold cnt
  constructor
  · intro h i xs hi hm
    have h0 : ∀ x ∈ rs.map (fun r => occr r v), x = 0 := by
      intro x hx
      exact sum_zero.mp h x hx
    have h1 := h0 (occr (some xs) v) (List.mem_map.mpr ⟨some xs, List.mem_of_getElem? hi, rfl⟩)
    exact absurd h1 (by
      show xs.count (some v) ≠ 0
      have := List.count_pos_iff.mpr hm
      omega)
  · intro h
    apply sum_zero.mpr
    intro x hx
    obtain ⟨r, hr, rfl⟩ := List.mem_map.mp hx
    obtain ⟨i, hi⟩ := List.getElem?_of_mem hr
    cases r with
    | none => rfl
    | some xs => exact List.count_eq_zero.mpr (h i xs hi)
theorem cnt_pos {rs : List Row} {v i : Nat} {xs : List (Option Nat)} (h : rs[i]? = some (some xs)) (hm : some v ∈ xs) : 1 ≤ cnt rs v := by
  by_cases e : cnt rs v = 0
  · exact absurd hm (cnt_eq_zero.mp e i xs h)
  · omega
end Sf
/-! heaps: the small ones -/
namespace Sf
open PySem PySem.Spec PyProof.Rows L2 Evl
local macro_rules | `(tactic| walk_at "hx") => `(tactic| first | assumption | exact upd_same | (with_reducible refine upd_fr ?_ (by assumption); walk_at "hx") | (refine ex_get (by assumption) ?_; walk_at "hx"))
local macro_rules | `(tactic| walk_at "ex") => `(tactic| first | assumption | exact Ex.refl _ | (with_reducible refine ex_new ?_ (by assumption); walk_at "ex") | (refine Ex.trans ?_ (by assumption); walk_at "ex"))
local macro_rules | `(tactic| walk_at "sqT") => `(tactic| first | (with_reducible assumption) | exact st_of (by walk_at "hx"))
local macro_rules | `(tactic| walk_at "sqL") => `(tactic| first | (with_reducible assumption) | exact sq_of (by walk_at "hx"))
local macro_rules | `(tactic| walk_at "sq") => `(tactic| first | (with_reducible assumption) | exact st_of (by walk_at "hx") | exact sq_of (by walk_at "hx"))
local macro_rules | `(tactic| walk_at "ty") => `(tactic| first | exact TyX.base (.int _) | exact TyX.base .non | exact TyX.base (.bl _) | exact TyX.base (.str _) | exact TyX.base (.tup (by walk_at "hx")) | exact TyX.base (.lst (by walk_at "hx")))
local macro_rules | `(tactic| walk_at "rd1") => `(tactic| first
  | with_reducible refine rd_seq ?_
  | ((with_reducible refine' rd_var ?h ?_); (case h => exact rfl))
  | with_reducible refine rd_c ?_
  | with_reducible refine rd_op ?_
  | with_reducible refine rd_un ?_
  | with_reducible refine rd_CB ?_
  | with_reducible refine rd_call ?_
  | with_reducible refine rd_cons ?_
  | with_reducible refine rd_nil ?_
  | with_reducible refine rd_I0 ?_
  | with_reducible refine rd_U ?_
  | with_reducible refine rd_ret ?_
  | with_reducible refine rd_retN ?_
  | with_reducible refine rd_next ?_
  | with_reducible refine rd_asg ?_
  | with_reducible refine rd_gName ?_
  | with_reducible refine rd_drop ?_
  | with_reducible refine rd_ifS ?_
  | with_reducible refine rd_test ?_
  | with_reducible refine rd_B ?_
  | with_reducible refine rd_notT ?_
  | with_reducible refine rd_andT ?_
  | with_reducible refine rd_orT ?_
  | with_reducible refine rd_andV ?_
  | with_reducible refine rd_orV ?_
  | with_reducible refine rd_notV ?_
  | with_reducible refine rd_ifE ?_
  | with_reducible refine rd_chain ?_
  | with_reducible refine rd_tup ?_
  | with_reducible refine rd_lst ?_
  | with_reducible refine rd_k ?_
  | with_reducible refine rd_eqS rfl ?_
  | with_reducible refine rd_neS rfl ?_
  | ((with_reducible refine rd_and (small40 (Nat.le_of_ble_eq_true rfl)) ?_); intro _ _)
  | (with_reducible refine' rd_isiT2 (k := "tuple") ?ty ?hx kb_tl kb_tt ?_; (case ty => walk_at "ty"); (case hx => walk_at "hx"))
  | with_reducible refine us_is_integer ?_
  | with_reducible refine us_is_between ?_
  | ((with_reducible refine' rd_ixT0 ?sq ?g ?_); (case sq => walk_at "sqT"); (case g => first | exact rfl | assumption))
  | ((with_reducible refine' rd_ixT1 ?sq ?g ?_); (case sq => walk_at "sqT"); (case g => first | exact rfl | assumption))
  | ((with_reducible refine' rd_ixT2 ?sq ?g ?_); (case sq => walk_at "sqT"); (case g => first | exact rfl | assumption))
  | ((with_reducible refine' rd_ixT3 ?sq ?g ?_); (case sq => walk_at "sqT"); (case g => first | exact rfl | assumption))
  | ((with_reducible refine' rd_ixT4 ?sq ?g ?_); (case sq => walk_at "sqT"); (case g => first | exact rfl | assumption))
  | ((with_reducible refine' rd_ixL0 ?sq ?g ?_); (case sq => walk_at "sqL"); (case g => first | exact rfl | assumption))
  | ((with_reducible refine' rd_ixL1 ?sq ?g ?_); (case sq => walk_at "sqL"); (case g => first | exact rfl | assumption))
  | ((with_reducible refine' rd_ixL2 ?sq ?g ?_); (case sq => walk_at "sqL"); (case g => first | exact rfl | assumption))
  | ((with_reducible refine' rd_ixT ?sq ?g ?_); (case sq => walk_at "sqT"); (case g => first | assumption | exact rfl))
  | ((with_reducible refine' rd_ixL ?sq ?g ?_); (case sq => walk_at "sqL"); (case g => first | assumption | exact rfl))
  | with_reducible refine rd_sl ?_
  | with_reducible refine rd_noPart ?_
  | with_reducible refine rd_part ?_
  | with_reducible refine rd_pt1 ?_
  | with_reducible refine rd_make ?_
  | with_reducible refine rd_callN ?_
  | with_reducible refine rd_makeN ?_
  | with_reducible refine rd_revT ?_
  | with_reducible refine rd_dc ?_
  | with_reducible refine rd_notinD ?_
  | with_reducible refine rd_inD ?_
  | with_reducible refine rd_dget ?_
  | with_reducible refine rd_dput ?_
  | ((with_reducible refine' rd_fld1 ?h ?c ?n ?l ?_); (case h => walk_at "hx"); (case c => first | exact Tx.c_Unwinding (by assumption) | exact Tx.c_Store (by assumption)); (case n => first | exact Tx.n_Unwinding_rows (by assumption) | exact Tx.n_Unwinding_references (by assumption) | exact Tx.n_Unwinding_tallies (by assumption) | exact Tx.n_Unwinding_bound (by assumption) | exact Tx.n_Unwinding_log (by assumption) | exact Tx.n_Unwinding_shelf (by assumption) | exact Tx.n_Unwinding_peak (by assumption) | exact Tx.n_Unwinding_events (by assumption) | exact Tx.n_Store_snapshots (by assumption) | exact Tx.n_Store_recorded (by assumption) | exact Tx.n_Store_observer (by assumption) | exact Tx.n_Store_is_busy (by assumption)); (case l => exact rfl))
  | ((with_reducible refine' rd_sFld1 ?h ?c ?n ?l ?_); (case h => walk_at "hx"); (case c => first | exact Tx.c_Unwinding (by assumption) | exact Tx.c_Store (by assumption)); (case n => first | exact Tx.n_Unwinding_rows (by assumption) | exact Tx.n_Unwinding_references (by assumption) | exact Tx.n_Unwinding_tallies (by assumption) | exact Tx.n_Unwinding_bound (by assumption) | exact Tx.n_Unwinding_log (by assumption) | exact Tx.n_Unwinding_shelf (by assumption) | exact Tx.n_Unwinding_peak (by assumption) | exact Tx.n_Unwinding_events (by assumption) | exact Tx.n_Store_snapshots (by assumption) | exact Tx.n_Store_recorded (by assumption) | exact Tx.n_Store_observer (by assumption) | exact Tx.n_Store_is_busy (by assumption)); (case l => exact Nat.le_of_ble_eq_true rfl))
  | ((with_reducible refine' rd_meth1 ?h ?l ?_); (case h => walk_at "hx"); (case l => exact rfl))
  | ((with_reducible refine' rd_and (rd_tyL ?h) ?_); (case h => walk_at "hx"))
  | ((with_reducible refine' rd_rng1 ?hn ?_); (case hn => first | omega | (simp; omega)))
  | with_reducible refine rd_nx ?_
  | with_reducible refine rd_rt ?_
  | with_reducible refine rd_ct ?_
  | with_reducible refine rd_bk ?_
  | ((with_reducible refine' rd_isi ?ty ?kb ?_); (case ty => walk_at "ty"); (case kb => first | exact kb_ii | exact kb_ib | exact kb_tt | exact kb_tl | exact kb_ss | exact kb_nt))
  | with_reducible refine rd_for ?_
  | with_reducible refine rd_iTup ?_
  | with_reducible refine rd_iList ?_
  | with_reducible refine rd_iRng1 ?_
  | with_reducible refine rd_iRng2 ?_
  | with_reducible refine rd_iEnumT ?_
  | with_reducible refine rd_iEnum ?_
  | with_reducible refine rd_lc ?_
  | with_reducible refine rd_yes ?_
  | ((with_reducible refine' rd_gTup ?sq ?n ?_); (case sq => walk_at "sqT"); (case n => exact rfl))
  | with_reducible refine rd_gCons ?_
  | with_reducible refine rd_gNil ?_
  | with_reducible refine rd_fld ?_
  | with_reducible refine rd_meth ?_
  | with_reducible refine rd_sFld ?_
  | with_reducible refine rd_BM ?_
  | with_reducible refine rd_BM0 ?_
  | ((with_reducible refine' rd_orRow ?h (by assumption) ?_); (case h => exact rfl))
  | with_reducible refine rd_augS ?_
  | with_reducible refine rd_ip ?_
  | with_reducible refine rd_gSub ?_
  | ((with_reducible refine' rd_aug ?h ?_); (case h => exact rfl))
  | with_reducible refine rd_par ?_
  | with_reducible refine rd_par1 ?_
  | ((with_reducible refine' rd_lenT ?sq ?_); (case sq => exact st_of (by walk_at "hx")))
  | ((with_reducible refine' rd_lenL ?sq ?_); (case sq => exact sq_of (by walk_at "hx")))
  | ((with_reducible refine' rd_itt ?sq ?_); (case sq => walk_at "sqT"))
  | ((with_reducible refine' rd_itl ?sq ?_); (case sq => walk_at "sqL"))
  | ((with_reducible refine' rd_enumT ?sq ?_); (case sq => walk_at "sqT"))
  | ((with_reducible refine' rd_enumL ?sq ?_); (case sq => walk_at "sqL"))
  | with_reducible refine rd_and rfl ?_
  | with_reducible refine if_t rfl ?_
  | with_reducible refine if_f rfl ?_)
local macro_rules | `(tactic| walk_at "rd") => `(tactic| repeat (walk_at "rd1"))
def sp_is_integer : Sp := fun vs H Q _ => match vs with
  | [x] => ∃ i, x = .int i ∧ Q (.bl true) H
  | _ => False
def sp_is_between : Sp := fun vs H Q _ => match vs with
  | [x, y, z] => ∃ i a b, x = .int i ∧ y = .int a ∧ z = .int b ∧ Q (.bl (decide (a ≤ i ∧ i ≤ b))) H
  | _ => False
def sp_is_limit : Sp := fun vs H Q _ => match vs with
  | [x] => ∃ i, x = .int i ∧ 1 ≤ i ∧ i ≤ 10 ^ 30 ∧ Q (.bl true) H
  | _ => False
theorem us_is_integer {H : Hp} {Q : VK} {E : XK} {i : Int} (q : Q (.bl true) H) : sp_is_integer [.int i] H Q E := ⟨i, rfl, q⟩
theorem us_is_between {H : Hp} {Q : VK} {E : XK} {i a b : Int} (q : Q (.bl (decide (a ≤ i ∧ i ≤ b))) H) : sp_is_between [.int i, .int a, .int b] H Q E := ⟨i, a, b, rfl, rfl, rfl, q⟩
section
variable {P : Program} {w : World} {K : PySem.W.Frag} {mg : Str → Option Value} {base : Heap}
theorem ok_is_integer (T : Tx K mg) : FnOk P w K mg base CX0 1 (a_is_integer K) (fd_is_integer K) ["value"] (sp_is_integer) := by
  refine FunD.ok T.f_is_integer sc_is_integer (fun vs H Q E h => match vs, h with | [_], _ => rfl) (fun cdv A outer s H vs Q E hr h => ⟨_, PSs.nox (pss_one (ps_ret (pe_and (pe_callB (cIsi (K := K)) (by rfl) T.z_isinstance (by decide +kernel) (pa_cons (pv 0) (pa_cons (pe_bltn (v := .ty "int") (by rfl) T.z_int (by decide +kernel) rfl) pa_nil))) (pe_one (pe_not (pe_callB (cIsi (K := K)) (by rfl) T.z_isinstance (by decide +kernel) (pa_cons (pv 0) (pa_cons (pe_bltn (v := .ty "bool") (by rfl) T.z_bool (by decide +kernel) rfl) pa_nil)))))))), ?_⟩)
  match vs, h with
  | [v0], h =>
    obtain ⟨i, rfl, q⟩ := h
    walk_at "rd"
    exact q
theorem ok_is_between (T : Tx K mg) : FnOk P w K mg base CX0 2 (a_is_between K) (fd_is_between K) ["value", "least", "most"] (sp_is_between) := by
  refine FunD.ok T.f_is_between sc_is_between (fun vs H Q E h => match vs, h with | [_, _, _], _ => rfl) (fun cdv A outer s H vs Q E hr h => ⟨_, PSs.nox (pss_one (ps_ret (pe_and (pe_call (ok_is_integer T) (hr.mono (by omega)) (by rfl) T.g_is_integer T.k_is_integer T.b_is_integer .nil pass0 (pa_cons (pv 0) pa_nil)) (pe_one (pe_chain op_le op_le (pv 1) (pv 0) (pv 2)))))), ?_⟩)
  match vs, h with
  | [v0, v1, v2], h =>
    obtain ⟨i, a, b, rfl, rfl, rfl, q⟩ := h
    walk_at "rd"
    refine us_is_integer ?_
    walk_at "rd"
    refine if_b (fun hc => ?_) (fun hc => ?_)
    · walk_at "rd"
      simp only [decide_eq_true_eq] at hc
      have e : decide (a ≤ i ∧ i ≤ b) = decide (i ≤ b) := by simp [hc]
      rw [e] at q
      exact q
    · simp only [decide_eq_false_iff_not] at hc
      have e : decide (a ≤ i ∧ i ≤ b) = false := by simp [hc]
      rw [e] at q
      exact q
theorem ok_is_limit (T : Tx K mg) : FnOk P w K mg base CX0 3 (a_is_limit K) (fd_is_limit K) ["value"] (sp_is_limit) := by
  refine FunD.ok T.f_is_limit sc_is_limit (fun vs H Q E h => match vs, h with | [_], _ => rfl) (fun cdv A outer s H vs Q E hr h => ⟨_, PSs.nox (pss_one (ps_ret (pe_call (ok_is_between T) (hr.mono (by omega)) (by rfl) T.g_is_between T.k_is_between T.b_is_between .nil pass0 (pa_cons (pv 0) (pa_cons pe_int (pa_cons (pe_gc (by rfl) T.i_MOST_LIMIT) pa_nil)))))), ?_⟩)
  match vs, h with
  | [v0], h =>
    obtain ⟨i, rfl, h1, h2, q⟩ := h
    walk_at "rd"
    refine us_is_between ?_
    have e : decide ((1 : Int) ≤ i ∧ i ≤ 1000000000000000000000000000000) = true := by simp; omega
    rw [e]
    exact q
end
end Sf
/-! heaps: rows, counts, faults -/
namespace Sf
open PySem PySem.Spec PyProof.Rows L2 Evl
local macro_rules | `(tactic| walk_at "hx") => `(tactic| first | assumption | exact upd_same | (with_reducible refine upd_fr ?_ (by assumption); walk_at "hx") | (refine ex_get (by assumption) ?_; walk_at "hx"))
local macro_rules | `(tactic| walk_at "ex") => `(tactic| first | assumption | exact Ex.refl _ | (with_reducible refine ex_new ?_ (by assumption); walk_at "ex") | (refine Ex.trans ?_ (by assumption); walk_at "ex"))
local macro_rules | `(tactic| walk_at "sqT") => `(tactic| first | (with_reducible assumption) | exact st_of (by walk_at "hx"))
local macro_rules | `(tactic| walk_at "sqL") => `(tactic| first | (with_reducible assumption) | exact sq_of (by walk_at "hx"))
local macro_rules | `(tactic| walk_at "sq") => `(tactic| first | (with_reducible assumption) | exact st_of (by walk_at "hx") | exact sq_of (by walk_at "hx"))
local macro_rules | `(tactic| walk_at "ty") => `(tactic| first | exact TyX.base (.int _) | exact TyX.base .non | exact TyX.base (.bl _) | exact TyX.base (.str _) | exact TyX.base (.tup (by walk_at "hx")) | exact TyX.base (.lst (by walk_at "hx")))
local macro_rules | `(tactic| walk_at "rd1") => `(tactic| first
  | with_reducible refine rd_seq ?_
  | ((with_reducible refine' rd_var ?h ?_); (case h => exact rfl))
  | with_reducible refine rd_c ?_
  | with_reducible refine rd_op ?_
  | with_reducible refine rd_un ?_
  | with_reducible refine rd_CB ?_
  | with_reducible refine rd_call ?_
  | with_reducible refine rd_cons ?_
  | with_reducible refine rd_nil ?_
  | with_reducible refine rd_I0 ?_
  | with_reducible refine rd_U ?_
  | with_reducible refine rd_ret ?_
  | with_reducible refine rd_retN ?_
  | with_reducible refine rd_next ?_
  | with_reducible refine rd_asg ?_
  | with_reducible refine rd_gName ?_
  | with_reducible refine rd_drop ?_
  | with_reducible refine rd_ifS ?_
  | with_reducible refine rd_test ?_
  | with_reducible refine rd_B ?_
  | with_reducible refine rd_notT ?_
  | with_reducible refine rd_andT ?_
  | with_reducible refine rd_orT ?_
  | with_reducible refine rd_andV ?_
  | with_reducible refine rd_orV ?_
  | with_reducible refine rd_notV ?_
  | with_reducible refine rd_ifE ?_
  | with_reducible refine rd_chain ?_
  | with_reducible refine rd_tup ?_
  | with_reducible refine rd_lst ?_
  | with_reducible refine rd_k ?_
  | with_reducible refine rd_eqS rfl ?_
  | with_reducible refine rd_neS rfl ?_
  | ((with_reducible refine rd_and (small40 (Nat.le_of_ble_eq_true rfl)) ?_); intro _ _)
  | (with_reducible refine' rd_isiT2 (k := "tuple") ?ty ?hx kb_tl kb_tt ?_; (case ty => walk_at "ty"); (case hx => walk_at "hx"))
  | with_reducible refine us_is_integer ?_
  | with_reducible refine us_is_between ?_
  | ((with_reducible refine' rd_ixT0 ?sq ?g ?_); (case sq => walk_at "sqT"); (case g => first | exact rfl | assumption))
  | ((with_reducible refine' rd_ixT1 ?sq ?g ?_); (case sq => walk_at "sqT"); (case g => first | exact rfl | assumption))
  | ((with_reducible refine' rd_ixT2 ?sq ?g ?_); (case sq => walk_at "sqT"); (case g => first | exact rfl | assumption))
  | ((with_reducible refine' rd_ixT3 ?sq ?g ?_); (case sq => walk_at "sqT"); (case g => first | exact rfl | assumption))
  | ((with_reducible refine' rd_ixT4 ?sq ?g ?_); (case sq => walk_at "sqT"); (case g => first | exact rfl | assumption))
  | ((with_reducible refine' rd_ixL0 ?sq ?g ?_); (case sq => walk_at "sqL"); (case g => first | exact rfl | assumption))
  | ((with_reducible refine' rd_ixL1 ?sq ?g ?_); (case sq => walk_at "sqL"); (case g => first | exact rfl | assumption))
  | ((with_reducible refine' rd_ixL2 ?sq ?g ?_); (case sq => walk_at "sqL"); (case g => first | exact rfl | assumption))
  | ((with_reducible refine' rd_ixT ?sq ?g ?_); (case sq => walk_at "sqT"); (case g => first | assumption | exact rfl))
  | ((with_reducible refine' rd_ixL ?sq ?g ?_); (case sq => walk_at "sqL"); (case g => first | assumption | exact rfl))
  | with_reducible refine rd_sl ?_
  | with_reducible refine rd_noPart ?_
  | with_reducible refine rd_part ?_
  | with_reducible refine rd_pt1 ?_
  | with_reducible refine rd_make ?_
  | with_reducible refine rd_callN ?_
  | with_reducible refine rd_makeN ?_
  | with_reducible refine rd_revT ?_
  | with_reducible refine rd_dc ?_
  | with_reducible refine rd_notinD ?_
  | with_reducible refine rd_inD ?_
  | with_reducible refine rd_dget ?_
  | with_reducible refine rd_dput ?_
  | ((with_reducible refine' rd_fld1 ?h ?c ?n ?l ?_); (case h => walk_at "hx"); (case c => first | exact Tx.c_Unwinding (by assumption) | exact Tx.c_Store (by assumption)); (case n => first | exact Tx.n_Unwinding_rows (by assumption) | exact Tx.n_Unwinding_references (by assumption) | exact Tx.n_Unwinding_tallies (by assumption) | exact Tx.n_Unwinding_bound (by assumption) | exact Tx.n_Unwinding_log (by assumption) | exact Tx.n_Unwinding_shelf (by assumption) | exact Tx.n_Unwinding_peak (by assumption) | exact Tx.n_Unwinding_events (by assumption) | exact Tx.n_Store_snapshots (by assumption) | exact Tx.n_Store_recorded (by assumption) | exact Tx.n_Store_observer (by assumption) | exact Tx.n_Store_is_busy (by assumption)); (case l => exact rfl))
  | ((with_reducible refine' rd_sFld1 ?h ?c ?n ?l ?_); (case h => walk_at "hx"); (case c => first | exact Tx.c_Unwinding (by assumption) | exact Tx.c_Store (by assumption)); (case n => first | exact Tx.n_Unwinding_rows (by assumption) | exact Tx.n_Unwinding_references (by assumption) | exact Tx.n_Unwinding_tallies (by assumption) | exact Tx.n_Unwinding_bound (by assumption) | exact Tx.n_Unwinding_log (by assumption) | exact Tx.n_Unwinding_shelf (by assumption) | exact Tx.n_Unwinding_peak (by assumption) | exact Tx.n_Unwinding_events (by assumption) | exact Tx.n_Store_snapshots (by assumption) | exact Tx.n_Store_recorded (by assumption) | exact Tx.n_Store_observer (by assumption) | exact Tx.n_Store_is_busy (by assumption)); (case l => exact Nat.le_of_ble_eq_true rfl))
  | ((with_reducible refine' rd_meth1 ?h ?l ?_); (case h => walk_at "hx"); (case l => exact rfl))
  | ((with_reducible refine' rd_and (rd_tyL ?h) ?_); (case h => walk_at "hx"))
  | ((with_reducible refine' rd_rng1 ?hn ?_); (case hn => first | omega | (simp; omega)))
  | with_reducible refine rd_nx ?_
  | with_reducible refine rd_rt ?_
  | with_reducible refine rd_ct ?_
  | with_reducible refine rd_bk ?_
  | ((with_reducible refine' rd_isi ?ty ?kb ?_); (case ty => walk_at "ty"); (case kb => first | exact kb_ii | exact kb_ib | exact kb_tt | exact kb_tl | exact kb_ss | exact kb_nt))
  | with_reducible refine rd_for ?_
  | with_reducible refine rd_iTup ?_
  | with_reducible refine rd_iList ?_
  | with_reducible refine rd_iRng1 ?_
  | with_reducible refine rd_iRng2 ?_
  | with_reducible refine rd_iEnumT ?_
  | with_reducible refine rd_iEnum ?_
  | with_reducible refine rd_lc ?_
  | with_reducible refine rd_yes ?_
  | ((with_reducible refine' rd_gTup ?sq ?n ?_); (case sq => walk_at "sqT"); (case n => exact rfl))
  | with_reducible refine rd_gCons ?_
  | with_reducible refine rd_gNil ?_
  | with_reducible refine rd_fld ?_
  | with_reducible refine rd_meth ?_
  | with_reducible refine rd_sFld ?_
  | with_reducible refine rd_BM ?_
  | with_reducible refine rd_BM0 ?_
  | ((with_reducible refine' rd_orRow ?h (by assumption) ?_); (case h => exact rfl))
  | with_reducible refine rd_augS ?_
  | with_reducible refine rd_ip ?_
  | with_reducible refine rd_gSub ?_
  | ((with_reducible refine' rd_aug ?h ?_); (case h => exact rfl))
  | with_reducible refine rd_par ?_
  | with_reducible refine rd_par1 ?_
  | ((with_reducible refine' rd_lenT ?sq ?_); (case sq => exact st_of (by walk_at "hx")))
  | ((with_reducible refine' rd_lenL ?sq ?_); (case sq => exact sq_of (by walk_at "hx")))
  | ((with_reducible refine' rd_itt ?sq ?_); (case sq => walk_at "sqT"))
  | ((with_reducible refine' rd_itl ?sq ?_); (case sq => walk_at "sqL"))
  | ((with_reducible refine' rd_enumT ?sq ?_); (case sq => walk_at "sqT"))
  | ((with_reducible refine' rd_enumL ?sq ?_); (case sq => walk_at "sqL"))
  | with_reducible refine rd_and rfl ?_
  | with_reducible refine if_t rfl ?_
  | with_reducible refine if_f rfl ?_)
local macro_rules | `(tactic| walk_at "rd") => `(tactic| repeat (walk_at "rd1"))
def sp_is_row : Sp := fun vs H Q _ => match vs with
  | [x, y] => ∃ (r : Row) (n : Nat), y = .int (n : Int) ∧ RowV H x r ∧ RowOk n r ∧ ∀ H', Ex H H' → Q (.bl true) H'
  | _ => False
def sp_reference_counts : Sp := fun vs H Q _ => match vs with
  | [x, y] => ∃ (rs : List Row) (os : List Nat), SlotsV H x rs ∧ OutsV H y os ∧ (∀ (i : Nat) (r : Row), rs[i]? = some r → RowOk os.length r) ∧ os.length ≤ 40 ∧
      ∀ p H', H p = none → Ex H H' → H' p = some (.lst (ivs (refc rs os))) → Q (.ref p) H'
  | _ => False
theorem count_le_len {xs : List (Option Nat)} : xs.length ≤ 40 → xs.length ≤ sizeLine := fun h => small40 (by omega)
section
variable {P : Program} {w : World} {K : PySem.W.Frag} {mg : Str → Option Value} {base : Heap}
theorem ok_is_row (T : Tx K mg) : FnOk P w K mg base CX0 3 (a_is_row K) (fd_is_row K) ["value", "size"] (sp_is_row) := by
  refine FunD.ok T.f_is_row sc_is_row (fun vs H Q E h => match vs, h with | [_, _], _ => rfl) (fun cdv A outer s H vs Q E hr h => ⟨_, PSs.nox (pss_cons (ps_if (pt_cmpR op_isN (pv 0) pe_non (nomark _)) (pss_one (ps_ret pe_bl)) pss_nil)
      (pss_cons (ps_if (PW.pt (pw_or (pt_not (pt_val (pe_callB (cIsiT (K := K)) (by rfl) T.z_isinstance (by decide +kernel) (pa_cons (pv 0) (pa_cons (pe_tup (pa_cons (pe_bltn (v := .ty "list") (by rfl) T.z_list (by decide +kernel) rfl) (pa_cons (pe_bltn (v := .ty "tuple") (by rfl) T.z_tuple (by decide +kernel) rfl) pa_nil))) pa_nil))))) (pw_or1 (pt_cmpR op_gt (pe_callB (cLen (K := K)) (by rfl) T.z_len (by decide +kernel) (pa_cons (pv 0) pa_nil)) (pe_gc (by rfl) T.i_MOST_SLOTS) (nomark _))))) (pss_one (ps_ret pe_bl)) pss_nil)
      (pss_one (ps_ret (pe_callB (cr_all rfl) (by rfl) T.z_all (by decide +kernel) (pa_cons (pe_lc rfl sc_is_row.nd (pi_tup (pv 0)) (blkOk_by (own := [("entry", 2)]) (N := N_is_row) (sc := defScope s_is_row) (by decide +kernel)) (fun _ _ _ _ _ => (pg_name (i := 2) sc_is_row.nd rfl (Or.inl rfl) (by exact Or.inr rfl))) (fun _ _ _ _ _ => pts_nil) (fun _ _ _ _ _ => (pe_or (pe_cmpR op_isN (pv 2) pe_non (nomark _)) (pe_one (pe_call (ok_is_between T) (hr.mono (by omega)) (by rfl) T.g_is_between T.k_is_between T.b_is_between .nil pass0 (pa_cons (pv 2) (pa_cons pe_int (pa_cons (pe_op op_sub (pv 1) pe_int) pa_nil)))))))) pa_nil)))))), ?_⟩)
  match vs, h with
  | [v0, v1], h =>
    obtain ⟨r, n, rfl, hr1, hok, q⟩ := h
    cases r with
    | none =>
      have e : v0 = .non := hr1
      subst e
      walk_at "rd"
      exact q H (Ex.refl H)
    | some xs =>
      obtain ⟨a, rfl, ha⟩ := hr1
      obtain ⟨h40, hent⟩ := hok xs rfl
      walk_at "rd"
      refine if_f (by simp; omega) ?_
      walk_at "rd"
      intro D hD
      have hD0 : H D = none := free_back (H1 := _) (by walk_at "ex") hD
      refine lc_it (walk_tup (xs := xs.map ent)) (fun i H' => Ex H H' ∧ H' D = some (.lst ((List.replicate i true).map V.bl))) ⟨ex_set (by walk_at "ex") hD0, upd_same⟩ (fun i H' _ z => sqT_ex z.1 ha) ?_ ?_
      · rintro i x _ H1 hi ⟨e1, e2⟩ ⟨rfl, hx⟩
        obtain ⟨e, he, rfl⟩ := ents_of hx
        have hi2 := (List.getElem?_eq_some_iff.mp he).1
        have fin : ∀ b : Bool, b = true → ∃ acc, H1 D = some (.lst acc) ∧ acc.length < sizeLine ∧ (Ex H (upd H1 D (.lst (acc ++ [V.bl b]))) ∧ upd H1 D (.lst (acc ++ [V.bl b])) D = some (.lst ((List.replicate (i + 1) true).map V.bl))) := by
          rintro b rfl
          refine ⟨_, e2, ?_, Ex.mut e1 hD0, ?_⟩
          · rw [List.length_map, List.length_replicate]
            exact lt40 (by omega)
          · rw [upd_same, List.replicate_succ']
            simp
        cases e with
        | none =>
          walk_at "rd"
          exact fin _ rfl
        | some v =>
          walk_at "rd"
          refine fin _ ?_
          have := hent v (List.mem_of_getElem? he)
          simp
          omega
      · rintro H1 ⟨e1, e2⟩
        walk_at "rd"
        refine rd_all (sq_of e2) ?_
        have e : (List.replicate (List.map ent xs).length true).all id = true := by simp
        rw [e]
        exact q H1 e1
theorem ok_reference_counts (T : Tx K mg) : FnOk P w K mg base CX0 1 (a_reference_counts K) (fd_reference_counts K) ["slots", "outside"] (sp_reference_counts) := by
  refine FunD.ok T.f_reference_counts sc_reference_counts (fun vs H Q E h => match vs, h with | [_, _], _ => rfl) (fun cdv A outer s H vs Q E hr h => ⟨_, PSs.nox (pss_cons (ps_set (i := 2) sc_reference_counts.nd rfl (Or.inl rfl) (pe_callTy (cList (K := K)) (by rfl) T.z_list (by decide +kernel) (pa_cons (pv 1) pa_nil)))
      (pss_cons (ps_for PassesOwn.never rfl (pi_tup (pv 0)) (pg_name (i := 3) sc_reference_counts.nd rfl (Or.inl rfl) (by exact Or.inl rfl)) (pss_one (ps_for PassesOwn.never rfl (pi_tup (pe_orT (pv 3) (pe_one (pe_tup pa_nil)))) (pg_name (i := 4) sc_reference_counts.nd rfl (Or.inl rfl) (by exact Or.inl rfl)) (pss_one (ps_if (pt_cmpR op_notN (pv 4) pe_non (nomark _)) (pss_one (ps_augS (pv 2) (pv 4) pget_list pe_int ip_add set_list)) pss_nil)))))
      (pss_one (ps_ret (pv 2))))), ?_⟩)
  match vs, h with
  | [v0, v1], h =>
    obtain ⟨rs, os, ⟨a, vs, rfl, ha, hvs⟩, ⟨b, rfl, hb⟩, hok, h40, q⟩ := h
    walk_at "rd"
    refine rd_listOfT (st_of hb) fun p hp => ?_
    walk_at "rd"
    refine for_it (walk_tup (xs := vs)) (fun i σ H' => (∃ x y, σ = [some (.ref a), some (.ref b), some (.ref p), x, y]) ∧ Acc H p (ivs ((List.range os.length).map fun v => outc os v + cnt (rs.take i) v)) H')
      ⟨⟨_, _, rfl⟩, ?_⟩ (fun i σ H' _ z => sqT_ex z.2.2.1 ha) ?_ ?_
    · refine cast ?_ (Acc.new (xs := ivs os) (Ex.refl H) hp)
      congr 1
      congr 1
      apply List.ext_getElem?
      intro v
      by_cases hv : v < os.length
      · rw [List.getElem?_map, List.getElem?_range hv]
        simp [outc, cnt, hv]
      · rw [List.getElem?_eq_none (by omega), List.getElem?_eq_none (by simp; omega)]
    · rintro i x _ _ H1 hi ⟨⟨y, z, rfl⟩, acc⟩ ⟨rfl, hx⟩
      obtain ⟨r, hr1, hrv⟩ := hvs.of hx
      have hrv1 := hrv.mono acc.2.1
      walk_at "rd"
      intro c H2 e2 hc
      walk_at "rd"
      have acc2 := acc.ex e2
      have hcp : c ≠ p := ne_of hc acc2.2.2 (by intro z; cases z)
      have hrok := hok i r hr1
      refine for_it (walk_tup (xs := (rowL r).map ent)) (fun j σ H' => (∃ y, σ = [some (.ref a), some (.ref b), some (.ref p), some x, y]) ∧ H' c = some (.tup ((rowL r).map ent)) ∧ Acc H p (ivs ((List.range os.length).map fun v => outc os v + cnt (rs.take i) v + ((rowL r).take j).count (some v))) H')
        ⟨⟨_, rfl⟩, hc, by simpa using acc2⟩ (fun i σ H' _ z => st_of z.2.1) ?_ ?_
      · rintro j x2 _ _ H3 hj ⟨⟨y, rfl⟩, hc3, acc3⟩ ⟨rfl, hx2⟩
        obtain ⟨e, he, rfl⟩ := ents_of hx2
        cases e with
        | none =>
          walk_at "rd"
          refine ⟨⟨_, rfl⟩, hc3, ?_⟩
          refine cast ?_ acc3
          congr 2
          apply List.map_congr_left
          intro v _
          rw [count_take he]
          simp
        | some v =>
          have hv : v < os.length := by
            cases r with
            | none => cases he
            | some xs => exact (hrok xs rfl).2 v (List.mem_of_getElem? he)
          walk_at "rd"
          refine rd_getL (sq_of acc3.2.2) (ivs_get (n := outc os v + cnt (rs.take i) v + ((rowL r).take j).count (some v)) (by simp [hv])) ?_
          walk_at "rd"
          refine rd_setL acc3.2.2 (by rw [ivs_len]; simpa using hv) ?_
          walk_at "rd"
          refine ⟨⟨_, rfl⟩, ?_, ?_⟩
          · rw [upd_ne hcp]
            exact hc3
          · refine cast ?_ (acc3.put (ys := (ivs ((List.range os.length).map fun v => outc os v + cnt (rs.take i) v + ((rowL r).take j).count (some v))).set v (.int (((outc os v + cnt (rs.take i) v + ((rowL r).take j).count (some v) : Nat) : Int) + 1))))
            have e1 : (((outc os v + cnt (rs.take i) v + ((rowL r).take j).count (some v) : Nat) : Int) + 1) = ((outc os v + cnt (rs.take i) v + ((rowL r).take j).count (some v) + 1 : Nat) : Int) := by omega
            rw [e1, set_ivs, map_range_set (g := fun v => outc os v + cnt (rs.take i) v + ((rowL r).take (j + 1)).count (some v)) hv]
            · simp only [count_take he]
              simp
              omega
            · intro u hu
              simp only [count_take he]
              simp [Ne.symm hu]
      · rintro σ H3 ⟨⟨y, rfl⟩, hc3, acc3⟩
        walk_at "rd"
        refine ⟨⟨_, _, rfl⟩, ?_⟩
        refine cast ?_ acc3
        congr 2
        apply List.map_congr_left
        intro v _
        rw [cnt_take hr1]
        cases r with
        | none => simp [rowL, occr]
        | some xs =>
          simp [rowL, occr]
          omega
    · rintro σ H1 ⟨⟨y, z, rfl⟩, acc⟩
      walk_at "rd"
      refine q p H1 hp acc.2.1 ?_
      rw [acc.2.2]
      unfold refc
      rw [hvs.1, List.take_length]
end
end Sf
/-! heaps: faults, whole heaps, live nodes, holders -/
namespace Sf
open PySem PySem.Spec PyProof.Rows L2 Evl
local macro_rules | `(tactic| walk_at "hx") => `(tactic| first | assumption | exact upd_same | (with_reducible refine upd_fr ?_ (by assumption); walk_at "hx") | (refine ex_get (by assumption) ?_; walk_at "hx"))
local macro_rules | `(tactic| walk_at "ex") => `(tactic| first | assumption | exact Ex.refl _ | (with_reducible refine ex_new ?_ (by assumption); walk_at "ex") | (refine Ex.trans ?_ (by assumption); walk_at "ex"))
local macro_rules | `(tactic| walk_at "sqT") => `(tactic| first | (with_reducible assumption) | exact st_of (by walk_at "hx"))
local macro_rules | `(tactic| walk_at "sqL") => `(tactic| first | (with_reducible assumption) | exact sq_of (by walk_at "hx"))
local macro_rules | `(tactic| walk_at "sq") => `(tactic| first | (with_reducible assumption) | exact st_of (by walk_at "hx") | exact sq_of (by walk_at "hx"))
local macro_rules | `(tactic| walk_at "ty") => `(tactic| first | exact TyX.base (.int _) | exact TyX.base .non | exact TyX.base (.bl _) | exact TyX.base (.str _) | exact TyX.base (.tup (by walk_at "hx")) | exact TyX.base (.lst (by walk_at "hx")))
local macro_rules | `(tactic| walk_at "rd1") => `(tactic| first
  | with_reducible refine rd_seq ?_
  | ((with_reducible refine' rd_var ?h ?_); (case h => exact rfl))
  | with_reducible refine rd_c ?_
  | with_reducible refine rd_op ?_
  | with_reducible refine rd_un ?_
  | with_reducible refine rd_CB ?_
  | with_reducible refine rd_call ?_
  | with_reducible refine rd_cons ?_
  | with_reducible refine rd_nil ?_
  | with_reducible refine rd_I0 ?_
  | with_reducible refine rd_U ?_
  | with_reducible refine rd_ret ?_
  | with_reducible refine rd_retN ?_
  | with_reducible refine rd_next ?_
  | with_reducible refine rd_asg ?_
  | with_reducible refine rd_gName ?_
  | with_reducible refine rd_drop ?_
  | with_reducible refine rd_ifS ?_
  | with_reducible refine rd_test ?_
  | with_reducible refine rd_B ?_
  | with_reducible refine rd_notT ?_
  | with_reducible refine rd_andT ?_
  | with_reducible refine rd_orT ?_
  | with_reducible refine rd_andV ?_
  | with_reducible refine rd_orV ?_
  | with_reducible refine rd_notV ?_
  | with_reducible refine rd_ifE ?_
  | with_reducible refine rd_chain ?_
  | with_reducible refine rd_tup ?_
  | with_reducible refine rd_lst ?_
  | with_reducible refine rd_k ?_
  | with_reducible refine rd_eqS rfl ?_
  | with_reducible refine rd_neS rfl ?_
  | ((with_reducible refine rd_and (small40 (Nat.le_of_ble_eq_true rfl)) ?_); intro _ _)
  | (with_reducible refine' rd_isiT2 (k := "tuple") ?ty ?hx kb_tl kb_tt ?_; (case ty => walk_at "ty"); (case hx => walk_at "hx"))
  | with_reducible refine us_is_integer ?_
  | with_reducible refine us_is_between ?_
  | ((with_reducible refine' rd_ixT0 ?sq ?g ?_); (case sq => walk_at "sqT"); (case g => first | exact rfl | assumption))
  | ((with_reducible refine' rd_ixT1 ?sq ?g ?_); (case sq => walk_at "sqT"); (case g => first | exact rfl | assumption))
  | ((with_reducible refine' rd_ixT2 ?sq ?g ?_); (case sq => walk_at "sqT"); (case g => first | exact rfl | assumption))
  | ((with_reducible refine' rd_ixT3 ?sq ?g ?_); (case sq => walk_at "sqT"); (case g => first | exact rfl | assumption))
  | ((with_reducible refine' rd_ixT4 ?sq ?g ?_); (case sq => walk_at "sqT"); (case g => first | exact rfl | assumption))
  | ((with_reducible refine' rd_ixL0 ?sq ?g ?_); (case sq => walk_at "sqL"); (case g => first | exact rfl | assumption))
  | ((with_reducible refine' rd_ixL1 ?sq ?g ?_); (case sq => walk_at "sqL"); (case g => first | exact rfl | assumption))
  | ((with_reducible refine' rd_ixL2 ?sq ?g ?_); (case sq => walk_at "sqL"); (case g => first | exact rfl | assumption))
  | ((with_reducible refine' rd_ixT ?sq ?g ?_); (case sq => walk_at "sqT"); (case g => first | assumption | exact rfl))
  | ((with_reducible refine' rd_ixL ?sq ?g ?_); (case sq => walk_at "sqL"); (case g => first | assumption | exact rfl))
  | with_reducible refine rd_sl ?_
  | with_reducible refine rd_noPart ?_
  | with_reducible refine rd_part ?_
  | with_reducible refine rd_pt1 ?_
  | with_reducible refine rd_make ?_
  | with_reducible refine rd_callN ?_
  | with_reducible refine rd_makeN ?_
  | with_reducible refine rd_revT ?_
  | with_reducible refine rd_dc ?_
  | with_reducible refine rd_notinD ?_
  | with_reducible refine rd_inD ?_
  | with_reducible refine rd_dget ?_
  | with_reducible refine rd_dput ?_
  | ((with_reducible refine' rd_fld1 ?h ?c ?n ?l ?_); (case h => walk_at "hx"); (case c => first | exact Tx.c_Unwinding (by assumption) | exact Tx.c_Store (by assumption)); (case n => first | exact Tx.n_Unwinding_rows (by assumption) | exact Tx.n_Unwinding_references (by assumption) | exact Tx.n_Unwinding_tallies (by assumption) | exact Tx.n_Unwinding_bound (by assumption) | exact Tx.n_Unwinding_log (by assumption) | exact Tx.n_Unwinding_shelf (by assumption) | exact Tx.n_Unwinding_peak (by assumption) | exact Tx.n_Unwinding_events (by assumption) | exact Tx.n_Store_snapshots (by assumption) | exact Tx.n_Store_recorded (by assumption) | exact Tx.n_Store_observer (by assumption) | exact Tx.n_Store_is_busy (by assumption)); (case l => exact rfl))
  | ((with_reducible refine' rd_sFld1 ?h ?c ?n ?l ?_); (case h => walk_at "hx"); (case c => first | exact Tx.c_Unwinding (by assumption) | exact Tx.c_Store (by assumption)); (case n => first | exact Tx.n_Unwinding_rows (by assumption) | exact Tx.n_Unwinding_references (by assumption) | exact Tx.n_Unwinding_tallies (by assumption) | exact Tx.n_Unwinding_bound (by assumption) | exact Tx.n_Unwinding_log (by assumption) | exact Tx.n_Unwinding_shelf (by assumption) | exact Tx.n_Unwinding_peak (by assumption) | exact Tx.n_Unwinding_events (by assumption) | exact Tx.n_Store_snapshots (by assumption) | exact Tx.n_Store_recorded (by assumption) | exact Tx.n_Store_observer (by assumption) | exact Tx.n_Store_is_busy (by assumption)); (case l => exact Nat.le_of_ble_eq_true rfl))
  | ((with_reducible refine' rd_meth1 ?h ?l ?_); (case h => walk_at "hx"); (case l => exact rfl))
  | ((with_reducible refine' rd_and (rd_tyL ?h) ?_); (case h => walk_at "hx"))
  | ((with_reducible refine' rd_rng1 ?hn ?_); (case hn => first | omega | (simp; omega)))
  | with_reducible refine rd_nx ?_
  | with_reducible refine rd_rt ?_
  | with_reducible refine rd_ct ?_
  | with_reducible refine rd_bk ?_
  | ((with_reducible refine' rd_isi ?ty ?kb ?_); (case ty => walk_at "ty"); (case kb => first | exact kb_ii | exact kb_ib | exact kb_tt | exact kb_tl | exact kb_ss | exact kb_nt))
  | with_reducible refine rd_for ?_
  | with_reducible refine rd_iTup ?_
  | with_reducible refine rd_iList ?_
  | with_reducible refine rd_iRng1 ?_
  | with_reducible refine rd_iRng2 ?_
  | with_reducible refine rd_iEnumT ?_
  | with_reducible refine rd_iEnum ?_
  | with_reducible refine rd_lc ?_
  | with_reducible refine rd_yes ?_
  | ((with_reducible refine' rd_gTup ?sq ?n ?_); (case sq => walk_at "sqT"); (case n => exact rfl))
  | with_reducible refine rd_gCons ?_
  | with_reducible refine rd_gNil ?_
  | with_reducible refine rd_fld ?_
  | with_reducible refine rd_meth ?_
  | with_reducible refine rd_sFld ?_
  | with_reducible refine rd_BM ?_
  | with_reducible refine rd_BM0 ?_
  | ((with_reducible refine' rd_orRow ?h (by assumption) ?_); (case h => exact rfl))
  | with_reducible refine rd_augS ?_
  | with_reducible refine rd_ip ?_
  | with_reducible refine rd_gSub ?_
  | ((with_reducible refine' rd_aug ?h ?_); (case h => exact rfl))
  | with_reducible refine rd_par ?_
  | with_reducible refine rd_par1 ?_
  | ((with_reducible refine' rd_lenT ?sq ?_); (case sq => exact st_of (by walk_at "hx")))
  | ((with_reducible refine' rd_lenL ?sq ?_); (case sq => exact sq_of (by walk_at "hx")))
  | ((with_reducible refine' rd_itt ?sq ?_); (case sq => walk_at "sqT"))
  | ((with_reducible refine' rd_itl ?sq ?_); (case sq => walk_at "sqL"))
  | ((with_reducible refine' rd_enumT ?sq ?_); (case sq => walk_at "sqT"))
  | ((with_reducible refine' rd_enumL ?sq ?_); (case sq => walk_at "sqL"))
  | with_reducible refine rd_and rfl ?_
  | with_reducible refine if_t rfl ?_
  | with_reducible refine if_f rfl ?_)
local macro_rules | `(tactic| walk_at "rd") => `(tactic| repeat (walk_at "rd1"))
def sp_first_fault : Sp := fun vs H Q _ => match vs with
  | [x, y] => ∃ hp : Hv, SlotsV H x hp.1 ∧ OutsV H y hp.2 ∧ Vh hp ∧ ∀ H', Ex H H' → Q .non H'
  | _ => False
def sp_have_shape : Sp := fun vs H Q _ => match vs with
  | [x, y] => ∃ a b xs ys, x = .ref a ∧ y = .ref b ∧ H a = some (.tup xs) ∧ H b = some (.tup ys) ∧ xs.length = ys.length ∧ xs.length ≤ 40 ∧ ∀ H', Ex H H' → Q (.bl true) H'
  | _ => False
def sp_is_heap : Sp := fun vs H Q _ => match vs with
  | [x] => ∃ hp : Hv, HeapV H x hp ∧ Vh hp ∧ ∀ H', Ex H H' → Q (.bl true) H'
  | _ => False
def sp_is_live : Sp := fun vs H Q _ => match vs with
  | [x, y] => ∃ (hp : Hv) (v : Nat), HeapV H x hp ∧ y = .int (v : Int) ∧ Q (.bl (liveB hp.1 v)) H
  | _ => False
def sp_require_node : Sp := fun vs H Q _ => match vs with
  | [x, y] => ∃ (hp : Hv) (v : Nat), HeapV H x hp ∧ y = .int (v : Int) ∧ Live hp.1 v ∧ Q .non H
  | _ => False
def sp_require_reference : Sp := fun vs H Q _ => match vs with
  | [x, y] => ∃ (hp : Hv) (v : Nat), HeapV H x hp ∧ y = .int (v : Int) ∧ Live hp.1 v ∧ v < hp.2.length ∧ 0 < outc hp.2 v ∧ Q .non H
  | _ => False
def sp_live_nodes : Sp := fun vs H Q _ => match vs with
  | [x] => ∃ hp : Hv, HeapV H x hp ∧ hp.1.length ≤ 40 ∧ ∀ p H', H p = none → Ex H H' → H' p = some (.lst (ivs (liveN hp.1))) → Q (.ref p) H'
  | _ => False
/-- pairs of a holder and a slot -/
def HoldV (rs : List Row) (node : Nat) (H : Hp) (v : V) : Prop := ∃ (t : Addr) (a b : Nat) (xs : List (Option Nat)), v = .ref t ∧ H t = some (.tup [.int (a : Int), .int (b : Int)]) ∧ rs[a]? = some (some xs) ∧ some node ∈ xs
def sp_holders : Sp := fun vs H Q _ => match vs with
  | [x, y] => ∃ (hp : Hv) (v : Nat), HeapV H x hp ∧ Vh hp ∧ y = .int (v : Int) ∧ Live hp.1 v ∧
      ∀ p H' ws, H p = none → Ex H H' → H' p = some (.lst ws) → ws.length ≤ 1600 → (∀ u ∈ ws, HoldV hp.1 v H' u) → Q (.ref p) H'
  | _ => False
theorem us_live_nodes {H : Hp} {Q : VK} {E : XK} {x : V} {hp : Hv} (h : HeapV H x hp) (h40 : hp.1.length ≤ 40) (q : ∀ p H', H p = none → Ex H H' → H' p = some (.lst (ivs (liveN hp.1))) → Q (.ref p) H') : sp_live_nodes [x] H Q E := ⟨hp, h, h40, q⟩
theorem outc_get {os : List Nat} {v : Nat} (h : v < os.length) : os[v]? = some (outc os v) := by simp [outc, h]
theorem out_ivs {os : List Nat} {v : Nat} (h : v < os.length) : (ivs os)[v]? = some (.int (outc os v : Nat)) := ivs_get (outc_get h)
section
variable {P : Program} {w : World} {K : PySem.W.Frag} {mg : Str → Option Value} {base : Heap}
theorem ok_first_fault (T : Tx K mg) : FnOk P w K mg base CX0 4 (a_first_fault K) (fd_first_fault K) ["slots", "outside"] (sp_first_fault) := by
  refine FunD.ok T.f_first_fault sc_first_fault (fun vs H Q E h => match vs, h with | [_, _], _ => rfl) (fun cdv A outer s H vs Q E hr h => ⟨_, PSs.nox (pss_cons (ps_set (i := 2) sc_first_fault.nd rfl (Or.inl rfl) (pe_callB (cLen (K := K)) (by rfl) T.z_len (by decide +kernel) (pa_cons (pv 0) pa_nil)))
      (pss_cons (ps_for PassesOwn.never rfl (pi_range1 (by rfl) T.z_range (pa_cons (pv 2) pa_nil)) (pg_name (i := 3) sc_first_fault.nd rfl (Or.inl rfl) (by exact Or.inl rfl)) (pss_one (ps_if (pt_not (pt_val (pe_call (ok_is_row T) (hr.mono (by omega)) (by rfl) T.g_is_row T.k_is_row T.b_is_row .nil pass0 (pa_cons (pe_ix (ixT (K := K)) (pv 0) (pv 3) (fun _ _ => rfl)) (pa_cons (pv 2) pa_nil))))) (pss_one (ps_ret (pe_tup (pa_cons pe_str (pa_cons (pv 3) pa_nil))))) pss_nil)))
      (pss_cons (ps_for PassesOwn.never rfl (pi_range1 (by rfl) T.z_range (pa_cons (pv 2) pa_nil)) (pg_name (i := 3) sc_first_fault.nd rfl (Or.inl rfl) (by exact Or.inl rfl)) (pss_one (ps_if (pt_not (pt_val (pe_call (ok_is_between T) (hr.mono (by omega)) (by rfl) T.g_is_between T.k_is_between T.b_is_between .nil pass0 (pa_cons (pe_ix (ixT (K := K)) (pv 1) (pv 3) (fun _ _ => rfl)) (pa_cons pe_int (pa_cons (pe_gc (by rfl) T.i_MOST_OUTSIDE) pa_nil)))))) (pss_one (ps_ret (pe_tup (pa_cons pe_str (pa_cons (pv 3) pa_nil))))) pss_nil)))
      (pss_cons (ps_set (i := 4) sc_first_fault.nd rfl (Or.inl rfl) (pe_call (ok_reference_counts T) (hr.mono (by omega)) (by rfl) T.g_reference_counts T.k_reference_counts T.b_reference_counts .nil pass0 (pa_cons (pv 0) (pa_cons (pv 1) pa_nil))))
      (pss_cons (ps_for PassesOwn.never rfl (pi_range1 (by rfl) T.z_range (pa_cons (pv 2) pa_nil)) (pg_name (i := 3) sc_first_fault.nd rfl (Or.inl rfl) (by exact Or.inl rfl)) (pss_one (ps_if (PW.pt (pw_and (pt_cmpR op_isN (pe_ix (ixT (K := K)) (pv 0) (pv 3) (fun _ _ => rfl)) pe_non (nomark _)) (pw_and1 (pt_cmpR op_gt (pe_ix (ixL (K := K)) (pv 4) (pv 3) (fun _ _ => rfl)) pe_int (nomark _))))) (pss_one (ps_ret (pe_tup (pa_cons pe_str (pa_cons (pv 3) pa_nil))))) pss_nil)))
      (pss_cons (ps_for PassesOwn.never rfl (pi_range1 (by rfl) T.z_range (pa_cons (pv 2) pa_nil)) (pg_name (i := 3) sc_first_fault.nd rfl (Or.inl rfl) (by exact Or.inl rfl)) (pss_one (ps_if (PW.pt (pw_and (pt_cmpR op_notN (pe_ix (ixT (K := K)) (pv 0) (pv 3) (fun _ _ => rfl)) pe_non (nomark _)) (pw_and1 (pt_cmpR op_eq (pe_ix (ixL (K := K)) (pv 4) (pv 3) (fun _ _ => rfl)) pe_int (nomark _))))) (pss_one (ps_ret (pe_tup (pa_cons pe_str (pa_cons (pv 3) pa_nil))))) pss_nil)))
      (pss_one (ps_ret pe_non)))))))), ?_⟩)
  match vs, h with
  | [v0, v1], h =>
    obtain ⟨hp, ⟨a, vs, rfl, ha, hvs⟩, ⟨b, rfl, hb⟩, hV, q⟩ := h
    have hn : vs.length ≤ 40 := by rw [hvs.1]; exact hV.n40
    have hno : vs.length = hp.2.length := by rw [hvs.1]; exact hV.len
    walk_at "rd"
    refine for_it walk_rng (fun i σ H' => (∃ x y, σ = [some (.ref a), some (.ref b), some (.int (vs.length : Nat)), x, y]) ∧ Ex H H') ⟨⟨_, _, rfl⟩, Ex.refl H⟩ (fun _ _ _ _ _ => trivial) ?_ ?_
    · rintro i x _ _ H1 hi ⟨⟨y, z, rfl⟩, e1⟩ ⟨rfl, rfl⟩
      have hx := List.getElem?_eq_getElem hi
      obtain ⟨r, h1, h2⟩ := hvs.of hx
      generalize vs[i] = x at hx h2
      walk_at "rd"
      refine Exists.intro r ⟨_, rfl, h2.mono e1, by rw [hvs.1]; exact hV.rows i r h1, fun H2 e2 => ?_⟩
      walk_at "rd"
      exact ⟨⟨_, _, rfl⟩, e1.trans e2⟩
    · rintro σ H1 ⟨⟨y, z, rfl⟩, e1⟩
      walk_at "rd"
      refine for_it walk_rng (fun i σ H' => (∃ x y, σ = [some (.ref a), some (.ref b), some (.int (vs.length : Nat)), x, y]) ∧ Ex H H') ⟨⟨_, _, rfl⟩, e1⟩ (fun _ _ _ _ _ => trivial) ?_ ?_
      · rintro i x _ _ H2 hi ⟨⟨y, z, rfl⟩, e2⟩ ⟨rfl, rfl⟩
        have hx := out_ivs (os := hp.2) (v := i) (by omega)
        have h9 := hV.nine i _ (outc_get (by omega))
        walk_at "rd"
        have e : decide ((0 : Int) ≤ (outc hp.2 i : Nat) ∧ ((outc hp.2 i : Nat) : Int) ≤ 9) = true := by simp; omega
        rw [e]
        walk_at "rd"
        exact ⟨⟨_, _, rfl⟩, e2⟩
      · rintro σ H2 ⟨⟨y, z, rfl⟩, e2⟩
        walk_at "rd"
        refine Exists.intro hp.1 ⟨hp.2, ⟨a, vs, rfl, e2 _ _ ha, hvs.mono e2⟩, ⟨b, rfl, e2 _ _ hb⟩, (by rw [← hV.len]; exact hV.rows), by omega, fun p H3 hp3 e3 hf => ?_⟩
        walk_at "rd"
        have eH3 := e2.trans e3
        refine for_it walk_rng (fun i σ H' => (∃ x, σ = [some (.ref a), some (.ref b), some (.int (vs.length : Nat)), x, some (.ref p)]) ∧ Ex H3 H') ⟨⟨_, rfl⟩, Ex.refl _⟩ (fun _ _ _ _ _ => trivial) ?_ ?_
        · rintro i x _ _ H4 hi ⟨⟨y, rfl⟩, e4⟩ ⟨rfl, rfl⟩
          have hx := List.getElem?_eq_getElem hi
          obtain ⟨r, h1, h2⟩ := hvs.of hx
          generalize vs[i] = x at hx h2
          have hf2 := ivs_get (refc_get (rs := hp.1) (os := hp.2) (v := i) (by omega))
          walk_at "rd"
          cases r with
          | none =>
            have e : x = .non := h2
            subst e
            have := hV.free i h1
            walk_at "rd"
            refine if_f (by simp; omega) ?_
            walk_at "rd"
            exact ⟨⟨_, rfl⟩, e4⟩
          | some xs =>
            obtain ⟨c, rfl, hc⟩ := h2
            walk_at "rd"
            exact ⟨⟨_, rfl⟩, e4⟩
        · rintro σ H4 ⟨⟨y, rfl⟩, e4⟩
          walk_at "rd"
          refine for_it walk_rng (fun i σ H' => (∃ x, σ = [some (.ref a), some (.ref b), some (.int (vs.length : Nat)), x, some (.ref p)]) ∧ Ex H4 H') ⟨⟨_, rfl⟩, Ex.refl _⟩ (fun _ _ _ _ _ => trivial) ?_ ?_
          · rintro i x _ _ H5 hi ⟨⟨y, rfl⟩, e5⟩ ⟨rfl, rfl⟩
            have hx := List.getElem?_eq_getElem hi
            obtain ⟨r, h1, h2⟩ := hvs.of hx
            generalize vs[i] = x at hx h2
            have hf2 := ivs_get (refc_get (rs := hp.1) (os := hp.2) (v := i) (by omega))
            walk_at "rd"
            cases r with
            | none =>
              have e : x = .non := h2
              subst e
              walk_at "rd"
              exact ⟨⟨_, rfl⟩, e5⟩
            | some xs =>
              obtain ⟨c, rfl, hc⟩ := h2
              have := hV.live i xs h1
              walk_at "rd"
              refine if_f (by simp; omega) ?_
              walk_at "rd"
              exact ⟨⟨_, rfl⟩, e5⟩
          · rintro σ H5 ⟨⟨y, rfl⟩, e5⟩
            walk_at "rd"
            exact q H5 ((eH3.trans e4).trans e5)
theorem ok_have_shape (T : Tx K mg) : FnOk P w K mg base CX0 1 (a_have_shape K) (fd_have_shape K) ["slots", "outside"] (sp_have_shape) := by
  refine FunD.ok T.f_have_shape sc_have_shape (fun vs H Q E h => match vs, h with | [_, _], _ => rfl) (fun cdv A outer s H vs Q E hr h => ⟨_, PSs.nox (pss_cons (ps_if (PW.pt (pw_or (pt_not (pt_val (pe_callB (cIsiT (K := K)) (by rfl) T.z_isinstance (by decide +kernel) (pa_cons (pv 0) (pa_cons (pe_tup (pa_cons (pe_bltn (v := .ty "list") (by rfl) T.z_list (by decide +kernel) rfl) (pa_cons (pe_bltn (v := .ty "tuple") (by rfl) T.z_tuple (by decide +kernel) rfl) pa_nil))) pa_nil))))) (pw_or1 (pt_not (pt_val (pe_callB (cIsiT (K := K)) (by rfl) T.z_isinstance (by decide +kernel) (pa_cons (pv 1) (pa_cons (pe_tup (pa_cons (pe_bltn (v := .ty "list") (by rfl) T.z_list (by decide +kernel) rfl) (pa_cons (pe_bltn (v := .ty "tuple") (by rfl) T.z_tuple (by decide +kernel) rfl) pa_nil))) pa_nil)))))))) (pss_one (ps_ret pe_bl)) pss_nil)
      (pss_one (ps_ret (pe_chain op_eq op_le (pe_callB (cLen (K := K)) (by rfl) T.z_len (by decide +kernel) (pa_cons (pv 0) pa_nil)) (pe_callB (cLen (K := K)) (by rfl) T.z_len (by decide +kernel) (pa_cons (pv 1) pa_nil)) (pe_gc (by rfl) T.i_MOST_NODES))))), ?_⟩)
  match vs, h with
  | [v0, v1], h =>
    obtain ⟨a, b, xs, ys, rfl, rfl, ha, hb, hl, h40, q⟩ := h
    walk_at "rd"
    refine if_t (by simp [hl]) ?_
    walk_at "rd"
    have e : decide ((ys.length : Int) ≤ 40) = true := by simp; omega
    rw [e]
    exact q _ (by walk_at "ex")
theorem ok_is_live (T : Tx K mg) : FnOk P w K mg base CX0 3 (a_is_live K) (fd_is_live K) ["heap", "value"] (sp_is_live) := by
  refine FunD.ok T.f_is_live sc_is_live (fun vs H Q E h => match vs, h with | [_, _], _ => rfl) (fun cdv A outer s H vs Q E hr h => ⟨_, PSs.nox (pss_one (ps_ret (pe_and (pe_call (ok_is_between T) (hr.mono (by omega)) (by rfl) T.g_is_between T.k_is_between T.b_is_between .nil pass0 (pa_cons (pv 1) (pa_cons pe_int (pa_cons (pe_op op_sub (pe_callB (cLen (K := K)) (by rfl) T.z_len (by decide +kernel) (pa_cons (pe_ix (ixT (K := K)) (pv 0) pe_int (fun _ _ => rfl)) pa_nil)) pe_int) pa_nil)))) (pe_one (pe_cmpR op_notN (pe_ix (ixT (K := K)) (pe_ix (ixT (K := K)) (pv 0) pe_int (fun _ _ => rfl)) (pv 1) (fun _ _ => rfl)) pe_non (nomark _)))))), ?_⟩)
  match vs, h with
  | [v0, v1], h =>
    obtain ⟨⟨rs, os⟩, v, ⟨a, s, o, rfl, ha, ⟨b, vs, rfl, hb, hvs⟩, ⟨c, rfl, hc⟩⟩, rfl, q⟩ := h
    walk_at "rd"
    refine if_b (fun hc => ?_) (fun hc => ?_)
    · simp only [decide_eq_true_eq] at hc
      have hv : v < vs.length := by omega
      have hv2 := List.getElem?_eq_getElem hv
      obtain ⟨r, h1, h2⟩ := hvs.of hv2
      generalize vs[v] = x at hv2 h2
      walk_at "rd"
      cases r with
      | none =>
        have e : x = .non := h2
        subst e
        have e2 : liveB rs v = false := liveB_none h1
        rw [e2] at q
        exact q
      | some xs =>
        obtain ⟨d, rfl, hd⟩ := h2
        have e2 : liveB rs v = true := liveB_some h1
        rw [e2] at q
        exact q
    · simp only [decide_eq_false_iff_not] at hc
      have hv : vs.length ≤ v := by omega
      have e2 : liveB rs v = false := by
        unfold liveB
        rw [List.getElem?_eq_none (by rw [← hvs.1]; exact hv)]
      rw [e2] at q
      exact q
theorem ok_require_node (T : Tx K mg) : FnOk P w K mg base CX0 4 (a_require_node K) (fd_require_node K) ["heap", "value"] (sp_require_node) := by
  refine FunD.ok T.f_require_node sc_require_node (fun vs H Q E h => match vs, h with | [_, _], _ => rfl) (fun cdv A outer s H vs Q E hr h => ⟨_, PSs.nox (pss_one (ps_if (pt_not (pt_val (pe_call (ok_is_live T) (hr.mono (by omega)) (by rfl) T.g_is_live T.k_is_live T.b_is_live .nil pass0 (pa_cons (pv 0) (pa_cons (pv 1) pa_nil))))) (pss_one ps_never) pss_nil)), ?_⟩)
  match vs, h with
  | [v0, v1], h =>
    obtain ⟨hp, v, hh, rfl, hl, q⟩ := h
    walk_at "rd"
    refine Exists.intro hp ⟨v, hh, rfl, ?_⟩
    rw [liveB_iff.mpr hl]
    walk_at "rd"
    exact q
theorem ok_require_reference (T : Tx K mg) : FnOk P w K mg base CX0 5 (a_require_reference K) (fd_require_reference K) ["heap", "value"] (sp_require_reference) := by
  refine FunD.ok T.f_require_reference sc_require_reference (fun vs H Q E h => match vs, h with | [_, _], _ => rfl) (fun cdv A outer s H vs Q E hr h => ⟨_, PSs.nox (pss_cons (ps_expr (pe_call (ok_require_node T) (hr.mono (by omega)) (by rfl) T.g_require_node T.k_require_node T.b_require_node .nil pass0 (pa_cons (pv 0) (pa_cons (pv 1) pa_nil))))
      (pss_one (ps_if (pt_cmpR op_eq (pe_ix (ixT (K := K)) (pe_ix (ixT (K := K)) (pv 0) pe_int (fun _ _ => rfl)) (pv 1) (fun _ _ => rfl)) pe_int (nomark _)) (pss_one ps_never) pss_nil))), ?_⟩)
  match vs, h with
  | [v0, v1], h =>
    obtain ⟨hp, v, hh, rfl, hl, hv, ho, q⟩ := h
    walk_at "rd"
    refine Exists.intro hp ⟨v, hh, rfl, hl, ?_⟩
    obtain ⟨a, s, o, rfl, ha, ⟨b, vs, rfl, hb, hvs⟩, ⟨c, rfl, hc⟩⟩ := hh
    have hx := out_ivs hv
    walk_at "rd"
    refine if_f (by simp; omega) ?_
    walk_at "rd"
    exact q
theorem ok_live_nodes (T : Tx K mg) : FnOk P w K mg base CX0 1 (a_live_nodes K) (fd_live_nodes K) ["heap"] (sp_live_nodes) := by
  refine FunD.ok T.f_live_nodes sc_live_nodes (fun vs H Q E h => match vs, h with | [_], _ => rfl) (fun cdv A outer s H vs Q E hr h => ⟨_, PSs.nox (pss_one (ps_ret (pe_lc rfl sc_live_nodes.nd (pi_enumT (by rfl) T.z_enumerate (pa_cons (pe_ix (ixT (K := K)) (pv 0) pe_int (fun _ _ => rfl)) pa_nil)) (blkOk_by (own := [("node", 1), ("row", 2)]) (N := N_live_nodes) (sc := defScope s_live_nodes) (by decide +kernel)) (fun _ _ _ _ _ => (pgTup (K := K) (n := 2) rfl (pgs_cons (pg_name (i := 1) sc_live_nodes.nd rfl (Or.inl rfl) (by exact Or.inr rfl)) (pgs_cons (pg_name (i := 2) sc_live_nodes.nd rfl (Or.inl rfl) (by exact Or.inr rfl)) pgs_nil)))) (fun _ _ _ _ _ => (pts_one (pt_cmpR op_notN (pv 2) pe_non (nomark _)))) (fun _ _ _ _ _ => (pv 1))))), ?_⟩)
  match vs, h with
  | [v0], h =>
    obtain ⟨⟨rs, os⟩, ⟨a, s, o, rfl, ha, ⟨b, vs, rfl, hb, hvs⟩, ⟨c, rfl, hc⟩⟩, h40, q⟩ := h
    walk_at "rd"
    intro D hD
    refine lc_it (walk_enumT (xs := vs)) (fun i H' => Acc H D (ivs (picks i (liveB rs))) H') (Acc.new (Ex.refl H) hD) (fun i H' _ z => sqT_ex z.2.1 hb) ?_ ?_
    · rintro i x H1 H2 hi acc ⟨t, u, y, rfl, ht, rfl, hu, hy⟩
      cases hu
      obtain ⟨r, h1, h2⟩ := hvs.of hy
      have acc2 := acc.ex (Ex.new (o := .tup [.int (i : Nat), y]) ht)
      walk_at "rd"
      cases r with
      | none =>
        have e : y = .non := h2
        subst e
        walk_at "rd"
        rw [picks_no (liveB_none h1)]
        exact acc2
      | some xs =>
        obtain ⟨d, rfl, hd⟩ := h2
        walk_at "rd"
        refine acc_add acc2 ?_ (picks_ivs (liveB_some h1))
        have := picks_len i (liveB rs)
        have e1 : vs.length = rs.length := hvs.1
        have e2 : rs.length ≤ 40 := h40
        rw [ivs_len]
        omega
    · intro H1 acc
      walk_at "rd"
      refine q D H1 hD acc.2.1 ?_
      rw [acc.2.2]
      unfold liveN
      rw [hvs.1]
theorem ok_is_heap (T : Tx K mg) : FnOk P w K mg base CX0 5 (a_is_heap K) (fd_is_heap K) ["value"] (sp_is_heap) := by
  refine FunD.ok T.f_is_heap sc_is_heap (fun vs H Q E h => match vs, h with | [_], _ => rfl) (fun cdv A outer s H vs Q E hr h => ⟨_, PSs.nox (pss_cons (ps_if (PW.pt (pw_or (pt_not (pt_val (pe_callB (cIsi (K := K)) (by rfl) T.z_isinstance (by decide +kernel) (pa_cons (pv 0) (pa_cons (pe_bltn (v := .ty "tuple") (by rfl) T.z_tuple (by decide +kernel) rfl) pa_nil))))) (pw_or1 (pt_cmpR op_ne (pe_callB (cLen (K := K)) (by rfl) T.z_len (by decide +kernel) (pa_cons (pv 0) pa_nil)) pe_int (nomark _))))) (pss_one (ps_ret pe_bl)) pss_nil)
      (pss_cons (ps_asg (pv 0) (pgTup (K := K) (n := 2) rfl (pgs_cons (pg_name (i := 1) sc_is_heap.nd rfl (Or.inl rfl) (by exact Or.inl rfl)) (pgs_cons (pg_name (i := 2) sc_is_heap.nd rfl (Or.inl rfl) (by exact Or.inl rfl)) pgs_nil))))
      (pss_cons (ps_if (PW.pt (pw_or (pt_not (pt_val (pe_callB (cIsi (K := K)) (by rfl) T.z_isinstance (by decide +kernel) (pa_cons (pv 1) (pa_cons (pe_bltn (v := .ty "tuple") (by rfl) T.z_tuple (by decide +kernel) rfl) pa_nil))))) (pw_or (pt_not (pt_val (pe_callB (cIsi (K := K)) (by rfl) T.z_isinstance (by decide +kernel) (pa_cons (pv 2) (pa_cons (pe_bltn (v := .ty "tuple") (by rfl) T.z_tuple (by decide +kernel) rfl) pa_nil))))) (pw_or1 (pt_not (pt_val (pe_call (ok_have_shape T) (hr.mono (by omega)) (by rfl) T.g_have_shape T.k_have_shape T.b_have_shape .nil pass0 (pa_cons (pv 1) (pa_cons (pv 2) pa_nil))))))))) (pss_one (ps_ret pe_bl)) pss_nil)
      (pss_cons (ps_if (pt_not (pt_val (pe_callB (cr_all rfl) (by rfl) T.z_all (by decide +kernel) (pa_cons (pe_lc rfl sc_is_heap.nd (pi_tup (pv 1)) (blkOk_by (own := [("row", 3)]) (N := N_is_heap) (sc := defScope s_is_heap) (by decide +kernel)) (fun _ _ _ _ _ => (pg_name (i := 3) sc_is_heap.nd rfl (Or.inl rfl) (by exact Or.inr rfl))) (fun _ _ _ _ _ => pts_nil) (fun _ _ _ _ _ => (pe_or (pe_cmpR op_isN (pv 3) pe_non (nomark _)) (pe_one (pe_callB (cIsi (K := K)) (by rfl) T.z_isinstance (by decide +kernel) (pa_cons (pv 3) (pa_cons (pe_bltn (v := .ty "tuple") (by rfl) T.z_tuple (by decide +kernel) rfl) pa_nil))))))) pa_nil)))) (pss_one (ps_ret pe_bl)) pss_nil)
      (pss_one (ps_ret (pe_cmpR op_isN (pe_call (ok_first_fault T) (hr.mono (by omega)) (by rfl) T.g_first_fault T.k_first_fault T.b_first_fault .nil pass0 (pa_cons (pv 1) (pa_cons (pv 2) pa_nil))) pe_non (nomark _)))))))), ?_⟩)
  match vs, h with
  | [v0], h =>
    obtain ⟨⟨rs, os⟩, hh, hV, q⟩ := h
    have hh0 := hh
    obtain ⟨a, s, o, rfl, ha, ⟨b, vs, rfl, hb, hvs⟩, ⟨c, rfl, hc⟩⟩ := hh0
    have e1 : vs.length = rs.length := hvs.1
    have e2 : rs.length = os.length := hV.len
    have e3 : rs.length ≤ 40 := hV.n40
    walk_at "rd"
    refine Exists.intro b ⟨c, vs, ivs os, rfl, rfl, hb, hc, by rw [ivs_len]; omega, by omega, fun H1 ex1 => ?_⟩
    walk_at "rd"
    intro D hD
    refine lc_it (walk_tup (xs := vs)) (fun i H' => Acc H1 D ((List.replicate i true).map V.bl) H') (Acc.new (Ex.refl _) hD) (fun i H' _ z => sqT_ex (ex1.trans z.2.1) hb) ?_ ?_
    · rintro i x _ H2 hi acc ⟨rfl, hx⟩
      obtain ⟨r, h1, h2⟩ := hvs.of hx
      have h3 := (h2.mono ex1).mono acc.2.1
      have fin : ∀ b : Bool, b = true → ∃ xs, H2 D = some (.lst xs) ∧ xs.length < sizeLine ∧ Acc H1 D ((List.replicate (i + 1) true).map V.bl) (upd H2 D (.lst (xs ++ [V.bl b]))) := by
        rintro b rfl
        refine acc_add acc ?_ (by rw [List.replicate_succ']; simp)
        rw [List.length_map, List.length_replicate]
        omega
      cases r with
      | none =>
        have e : x = .non := h2
        subst e
        walk_at "rd"
        exact fin _ rfl
      | some xs =>
        obtain ⟨d, rfl, hd⟩ := h3
        walk_at "rd"
        exact fin _ rfl
    · intro H2 acc
      walk_at "rd"
      refine rd_all (sq_of acc.2.2) ?_
      have e : (List.replicate vs.length true).all id = true := by simp
      rw [e]
      walk_at "rd"
      have ex2 := ex1.trans acc.2.1
      refine Exists.intro (rs, os) ⟨⟨b, vs, rfl, ex2 _ _ hb, hvs.mono ex2⟩, ⟨c, rfl, ex2 _ _ hc⟩, hV, fun H3 ex3 => ?_⟩
      walk_at "rd"
      exact q H3 (ex2.trans ex3)
theorem ok_holders (T : Tx K mg) : FnOk P w K mg base CX0 5 (a_holders K) (fd_holders K) ["heap", "node"] (sp_holders) := by
  refine FunD.ok T.f_holders sc_holders (fun vs H Q E h => match vs, h with | [_, _], _ => rfl) (fun cdv A outer s H vs Q E hr h => ⟨_, PSs.nox (pss_cons (ps_expr (pe_call (ok_require_node T) (hr.mono (by omega)) (by rfl) T.g_require_node T.k_require_node T.b_require_node .nil pass0 (pa_cons (pv 0) (pa_cons (pv 1) pa_nil))))
      (pss_cons (ps_set (i := 2) sc_holders.nd rfl (Or.inl rfl) (pe_lst pa_nil))
      (pss_cons (ps_for PassesOwn.never rfl (pi_list (pe_call (ok_live_nodes T) (hr.mono (by omega)) (by rfl) T.g_live_nodes T.k_live_nodes T.b_live_nodes .nil pass0 (pa_cons (pv 0) pa_nil))) (pg_name (i := 3) sc_holders.nd rfl (Or.inr rfl) (by exact Or.inl rfl)) (pss_one (ps_expr (pe_bm PySem.F.plainAttrs_list PySem.F.slot_list_extend PySem.F.type_list_extend mt_extend (pv 2) (pa_cons (pe_lc rfl sc_holders.nd (pi_enumT (by rfl) T.z_enumerate (pa_cons (pe_ix (ixT (K := K)) (pe_ix (ixT (K := K)) (pv 0) pe_int (fun _ _ => rfl)) (pv 3) (fun _ _ => rfl)) pa_nil)) (blkOk_by (own := [("slot", 4), ("held", 5)]) (N := N_holders) (sc := defScope s_holders) (by decide +kernel)) (fun _ _ _ _ _ => (pgTup (K := K) (n := 2) rfl (pgs_cons (pg_name (i := 4) sc_holders.nd rfl (Or.inl rfl) (by exact Or.inr rfl)) (pgs_cons (pg_name (i := 5) sc_holders.nd rfl (Or.inl rfl) (by exact Or.inr rfl)) pgs_nil)))) (fun _ _ _ _ _ => (pts_one (pt_cmpR op_eq (pv 5) (pv 1) (nomark _)))) (fun _ _ _ _ _ => (pe_tup (pa_cons (pv 3) (pa_cons (pv 4) pa_nil))))) pa_nil)))))
      (pss_one (ps_ret (pv 2)))))), ?_⟩)
  match vs, h with
  | [v0, v1], h =>
    obtain ⟨⟨rs, os⟩, v, hh, hV, rfl, hl, q⟩ := h
    have hh0 := hh
    obtain ⟨a, s, o, rfl, ha, ⟨b, vs, rfl, hb, hvs⟩, ⟨c, rfl, hc⟩⟩ := hh0
    have e1 : vs.length = rs.length := hvs.1
    have e3 : rs.length ≤ 40 := hV.n40
    walk_at "rd"
    refine Exists.intro (rs, os) ⟨v, hh, rfl, hl, ?_⟩
    walk_at "rd"
    rename_i p hp
    refine us_live_nodes (hh.mono (Ex.new hp)) e3 fun L H1 hL ex1 hL1 => ?_
    walk_at "rd"
    have ex2 : Ex H H1 := (Ex.new hp).trans ex1
    have hp1 : H1 p = some (.lst []) := ex1 _ _ upd_same
    have hpL : p ≠ L := by
      rintro rfl
      rw [upd_same] at hL
      cases hL
    refine for_it (walk_list (xs := ivs (liveN rs))) (fun i σ H' => (∃ x y z, σ = [some (.ref a), some (.int (v : Int)), some (.ref p), x, y, z]) ∧ Ex H H' ∧ H' L = some (.lst (ivs (liveN rs))) ∧ ∃ ws, H' p = some (.lst ws) ∧ ws.length ≤ 40 * i ∧ ∀ u ∈ ws, HoldV rs v H' u)
      ⟨⟨_, _, _, rfl⟩, ex2, hL1, [], hp1, by simp, by simp⟩ (fun i σ H' _ z => sq_of z.2.2.1) ?_ ?_
    · rintro i x _ _ H2 hi ⟨⟨x1, y1, z1, rfl⟩, e2, hL2, ws, hp2, hws, hH⟩ ⟨rfl, hx⟩
      obtain ⟨u, hu, rfl⟩ := ivs_of hx
      obtain ⟨xs, hxs⟩ := mem_liveN.mp (List.mem_of_getElem? hu)
      obtain ⟨w, hw1, hw2⟩ := hvs.2 u _ hxs
      obtain ⟨d, rfl, hd⟩ := hw2
      have x40 := (hV.rows u _ hxs xs rfl).1
      have h1 := e2 _ _ hb
      have h2 := e2 _ _ ha
      have h3 := e2 _ _ hd
      walk_at "rd"
      intro D hD
      refine lc_it (walk_enumT (xs := xs.map ent)) (fun i H' => ∃ zs, Acc H2 D zs H' ∧ zs.length ≤ i ∧ ∀ u ∈ zs, HoldV rs v H' u) ⟨[], Acc.new (Ex.refl _) hD, by simp, by simp⟩ (fun i H' _ z => let ⟨_, z, _⟩ := z; sqT_ex z.2.1 h3) ?_ ?_
      · rintro j x3 H3 H4 hj ⟨zs, acc, hzs, hzH⟩ ⟨t, u2, y, rfl, ht, rfl, hu2, hy⟩
        cases hu2
        obtain ⟨e, he, rfl⟩ := ents_of hy
        have ex4 := Ex.new (o := .tup [.int (j : Nat), ent e]) ht
        have acc2 := acc.ex ex4
        have hzH2 : ∀ u ∈ zs, HoldV rs v (upd H3 t (.tup [.int (j : Nat), ent e])) u := fun u hu => by
          obtain ⟨t, a, b, xs, e1, e2, e3⟩ := hzH u hu
          exact ⟨t, a, b, xs, e1, ex4 _ _ e2, e3⟩
        cases e with
        | none =>
          walk_at "rd"
          exact ⟨zs, acc2, by omega, hzH2⟩
        | some n =>
          walk_at "rd"
          refine if_b (fun hdec => ?_) (fun hdec => ?_)
          · have hnv : n = v := by
              have := of_decide_eq_true hdec
              injection this with this
              omega
            subst hnv
            walk_at "rd"

            rename_i q2 hq2
            have ex5 := Ex.new (o := .tup [.int (u : Nat), .int (j : Nat)]) hq2
            have acc3 := acc2.ex ex5
            have hDq : D ≠ q2 := ne_of_none acc2.2.2 hq2
            refine ⟨zs, acc3.2.2, lt40 (by simp at hj; omega), zs ++ [.ref q2], acc3.put, by simp; omega, ?_⟩
            have ex6 : ∀ b xs, upd (upd H3 t (.tup [.int (j : Nat), ent (some n)])) q2 (.tup [.int (u : Nat), .int (j : Nat)]) b = some (.tup xs) → upd (upd (upd H3 t (.tup [.int (j : Nat), ent (some n)])) q2 (.tup [.int (u : Nat), .int (j : Nat)])) D (.lst (zs ++ [.ref q2])) b = some (.tup xs) := by
              intro b xs hb
              rw [upd_ne (ne_of hb acc3.2.2 (by intro z; cases z))]
              exact hb
            intro w hw
            rcases List.mem_append.mp hw with hw | hw
            · obtain ⟨t, a, b, xs, f1, f2, f3⟩ := hzH2 w hw
              exact ⟨t, a, b, xs, f1, ex6 _ _ (ex5 _ _ f2), f3⟩
            · cases List.mem_singleton.mp hw
              exact ⟨q2, u, j, xs, rfl, ex6 _ _ upd_same, hxs, List.mem_of_getElem? he⟩
          · walk_at "rd"
            exact ⟨zs, acc2, by omega, hzH2⟩
      · rintro H3 ⟨zs, acc, hzs, hzH⟩
        walk_at "rd"
        have hi2 : i < 40 := by
          have := picks_len rs.length (liveB rs)
          unfold liveN at hi
          rw [ivs_len] at hi
          omega
        have hz3 : zs.length ≤ 40 := by simp at hzs; omega
        refine rd_extend (acc.2.1 _ _ hp2) acc.2.2 (Nat.le_trans (show ws.length + zs.length ≤ 2000 by omega) (by decide)) ?_
        have hp3 := acc.2.1 _ _ hp2
        have hpH : ∀ b xs, H3 b = some (.tup xs) → upd H3 p (.lst (ws ++ zs)) b = some (.tup xs) := by
          intro b xs hb
          rw [upd_ne (ne_of hb hp3 (by intro z; cases z))]
          exact hb
        refine ⟨⟨_, _, _, rfl⟩, ex_set (e2.trans acc.2.1) hp, ?_, _, upd_same, by simp; omega, ?_⟩
        · rw [upd_ne (Ne.symm hpL)]
          exact acc.2.1 _ _ hL2
        · intro w hw
          rcases List.mem_append.mp hw with hw | hw
          · obtain ⟨t, a, b, xs, f1, f2, f3⟩ := hH w hw
            exact ⟨t, a, b, xs, f1, hpH _ _ (acc.2.1 _ _ f2), f3⟩
          · obtain ⟨t, a, b, xs, f1, f2, f3⟩ := hzH w hw
            exact ⟨t, a, b, xs, f1, hpH _ _ f2, f3⟩
    · rintro σ H2 ⟨⟨x1, y1, z1, rfl⟩, e2, hL2, ws, hp2, hws, hH⟩
      walk_at "rd"
      refine q p H2 ws hp e2 hp2 ?_ hH
      have := picks_len rs.length (liveB rs)
      unfold liveN at hws
      rw [ivs_len] at hws
      omega
end
end Sf
/-! What an unwinding does, as plain functions; none: something the program never meets. -/
namespace Sf
structure Un where
  rows : List Row
  refs : List Nat
  tal : List Nat
  log : List Nat
  shelf : List Nat
  evs : List (Option (Nat × Nat))
abbrev big : Nat := 100000
def Un.ev (s : Un) (e : Option (Nat × Nat)) : Un := { s with evs := s.evs ++ [e] }
def Un.setT (s : Un) (h t : Nat) : Un := { s with tal := s.tal.set h t }
def Un.setR (s : Un) (v : Nat) (r : Row) : Un := { s with rows := s.rows.set v r }
def rel (B : Int) (D : Un → Nat → Nat → Option Un) (s : Un) (h d : Nat) : Option Un :=
  match s.tal[h]? with
  | some (t + 1) =>
    if s.evs.length < big ∧ s.shelf.length < big then
      if 0 < t then some ((s.setT h t).ev (some (h, t)))
      else if (d : Int) < B then D ((s.setT h t).ev (some (h, t))) h d
      else some ({ (s.setT h t).ev (some (h, t)) with shelf := s.shelf ++ [h] }.ev none)
    else none
  | _ => none
def slotsL (R : Un → Nat → Nat → Option Un) (v d : Nat) : Nat → Nat → Un → Option Un
  | 0, _, s => some s
  | k + 1, i, s => match s.rows[v]? with
    | some (some xs) => match xs[i]? with
      | some none => slotsL R v d k (i + 1) (s.setR v (some (xs.set i none)))
      | some (some h) => (R (s.setR v (some (xs.set i none))) h (d + 1)).bind (slotsL R v d k (i + 1))
      | none => none
    | _ => none
def des (B : Int) : Nat → Un → Nat → Nat → Option Un
  | 0, _, _, _ => none
  | f + 1, s, v, d => match s.rows[v]? with
    | some (some xs) =>
      if s.evs.length < big ∧ s.log.length < big then
        (slotsL (rel B (des B f)) v d xs.length 0 ({ s with log := s.log ++ [v] }.ev none)).bind fun s2 => if v < s2.rows.length then some (s2.setR v none) else none
      else none
    | _ => none
abbrev F0 : Nat := 41
def drain (B : Int) : Nat → Un → Option Un
  | 0, s => if s.shelf = [] then some s else none
  | k + 1, s => match s.shelf.getLast? with
    | none => some s
    | some t => if s.evs.length < big then (des B F0 ({ s with shelf := s.shelf.dropLast }.ev none) t 0).bind (drain B k) else none
def unw (B : Int) (s : Un) (h : Nat) : Option Un := (rel B (des B F0) s h 0).bind (drain B F0)
def dropO (B : Int) (s : Un) (v : Nat) : Option Un := match s.refs[v]? with
  | some (r + 1) => unw B { s with refs := s.refs.set v r } v
  | _ => none
/-- the target's tally, one more -/
def Un.aim (s : Un) : Option Nat → Option Un
  | none => some s
  | some t => match s.tal[t]? with
    | some k => some (s.setT t (k + 1))
    | none => none
def fillS (B : Int) (s : Un) (v i : Nat) (target : Option Nat) : Option Un := match s.rows[v]? with
  | some (some xs) => match xs[i]? with
    | some held => ((s.setR v (some (xs.set i target))).aim target).bind fun s2 => match held with
      | none => some s2
      | some h => unw B s2 h
    | none => none
  | _ => none
def fills (B : Int) (v : Nat) : Nat → Nat → Un → Option Un
  | 0, _, s => some s
  | k + 1, i, s => (fillS B s v i none).bind (fills B v k (i + 1))
def strip (B : Int) (s : Un) (v : Nat) : Option Un := match s.tal[v]?, s.rows[v]? with
  | some k, some (some xs) => (fills B v xs.length 0 (s.setT v (k + 1))).bind fun s2 => unw B s2 v
  | _, _ => none
def stripAll (B : Int) : List Nat → Un → Option Un
  | [], s => some s
  | v :: vs, s => match s.rows[v]? with
    | some none => stripAll B vs s
    | some (some _) => (strip B s v).bind (stripAll B vs)
    | none => none
def Un.start (hp : Hv) : Un := ⟨hp.1, hp.2, refc hp.1 hp.2, [], [], []⟩
def Un.heap (s : Un) : Hv := (s.rows, s.refs)
end Sf
/-! An unwinding as it stands in the machine's heap. -/
namespace Sf
open PySem PySem.Spec PyProof.Rows L2 Evl
/-- its places: the instance, its dict, its lists, the rows' lists; lab tells them apart -/
structure UA where
  u : Addr
  dx : Addr
  rws : Addr
  rfs : Addr
  tl : Addr
  lg : Addr
  sh : Addr
  ev : Addr
  row : Nat → Addr
  lab : Addr → Nat
def UA.fs (A : UA) (B pk : Int) : List (Str × V) := [("rows", .ref A.rws), ("references", .ref A.rfs), ("tallies", .ref A.tl), ("bound", .int B), ("log", .ref A.lg), ("shelf", .ref A.sh), ("peak", .int pk), ("events", .ref A.ev)]
@[reducible] def UA.rowV (A : UA) (v : Nat) : Row → V
  | none => .non
  | some _ => .ref (A.row v)
def EvV (H : Hp) (v : V) : Option (Nat × Nat) → Prop
  | some (h, t) => ∃ a x y, v = .ref a ∧ H a = some (.tup [.str "release", x, y, .int (h : Int), .int (t : Int)])
  | none => ∃ a n r, v = .ref a ∧ H a = some (.tup (.str n :: r)) ∧ n ≠ "release"
def EvsV (H : Hp) (es : List V) (evs : List (Option (Nat × Nat))) : Prop := es.length = evs.length ∧ ∀ (i : Nat) e, evs[i]? = some e → ∃ v, es[i]? = some v ∧ EvV H v e
/-- tuples stay -/
def TupK (H H1 : Hp) : Prop := ∀ a xs, H a = some (.tup xs) → H1 a = some (.tup xs)
structure UW (K : PySem.W.Frag) (H0 : Hp) (A : UA) (B : Int) (H : Hp) (s : Un) : Prop where
  ex : Ex H0 H
  f0 : H0 A.u = none
  f1 : H0 A.rws = none
  f2 : H0 A.rfs = none
  f3 : H0 A.tl = none
  f4 : H0 A.lg = none
  f5 : H0 A.sh = none
  f6 : H0 A.ev = none
  f7 : ∀ (v : Nat) (xs : List (Option Nat)), s.rows[v]? = some (some xs) → H0 (A.row v) = none
  b1 : A.lab A.rws = 0
  b2 : A.lab A.rfs = 1
  b3 : A.lab A.tl = 2
  b4 : A.lab A.lg = 3
  b5 : A.lab A.sh = 4
  b6 : A.lab A.ev = 5
  b7 : ∀ v xs, s.rows[v]? = some (some xs) → A.lab (A.row v) = 6 + v
  at0 : ∃ pk, H A.u = some (.ins (C_Unwinding K) A.dx (A.fs B pk))
  at1 : H A.rws = some (.lst (s.rows.mapIdx A.rowV))
  at2 : H A.rfs = some (.lst (ivs s.refs))
  at3 : H A.tl = some (.lst (ivs s.tal))
  at4 : H A.lg = some (.lst (ivs s.log))
  at5 : H A.sh = some (.lst (ivs s.shelf))
  at6 : ∃ es, H A.ev = some (.lst es) ∧ EvsV H es s.evs
  at7 : ∀ v xs, s.rows[v]? = some (some xs) → H (A.row v) = some (.lst (xs.map ent))
  sz : ∀ (v : Nat) (xs : List (Option Nat)), s.rows[v]? = some (some xs) → xs.length < 2 ^ 62
section
variable {K : PySem.W.Frag} {H0 H H1 : Hp} {A : UA} {B : Int} {s : Un}
theorem EvV.mono {v : V} (k : TupK H H1) : ∀ {e : Option (Nat × Nat)}, EvV H v e → EvV H1 v e
  | some (_, _), ⟨a, x, y, e, h⟩ => ⟨a, x, y, e, k _ _ h⟩
  | none, ⟨a, n, r, e, h, h2⟩ => ⟨a, n, r, e, k _ _ h, h2⟩
theorem EvsV.mono {es : List V} {evs : List (Option (Nat × Nat))} (k : TupK H H1) (h : EvsV H es evs) : EvsV H1 es evs := ⟨h.1, fun i e hi => let ⟨v, a, b⟩ := h.2 i e hi; ⟨v, a, b.mono k⟩⟩
theorem EvsV.add {es : List V} {evs : List (Option (Nat × Nat))} {v : V} {e : Option (Nat × Nat)} (h : EvsV H es evs) (hv : EvV H v e) : EvsV H (es ++ [v]) (evs ++ [e]) := by
  refine ⟨by simp [h.1], fun i e' hi => ?_⟩
  by_cases hl : i < evs.length
  · rw [List.getElem?_append_left hl] at hi
    rw [List.getElem?_append_left (by rw [h.1]; exact hl)]
    exact h.2 i e' hi
  · rw [List.getElem?_append_right (by omega)] at hi
    rw [List.getElem?_append_right (by rw [h.1]; omega), h.1]
    have h0 : i - evs.length = 0 := by
      have := (List.getElem?_eq_some_iff.mp hi).1
      simp at this
      omega
    rw [h0] at hi ⊢
    cases hi
    exact ⟨v, rfl, hv⟩
theorem TupK.lst {l : Addr} {xs : List V} {o : HO} (h : H l = some (.lst xs)) : TupK H (upd H l o) := fun a ys ha => by
  rw [upd_ne (ne_of ha h (by intro z; cases z))]
  exact ha
theorem TupK.ins {l C dx : Addr} {fs : List (Str × V)} {o : HO} (h : H l = some (.ins C dx fs)) : TupK H (upd H l o) := fun a ys ha => by
  rw [upd_ne (ne_of ha h (by intro z; cases z))]
  exact ha
theorem TupK.ex (e : Ex H H1) : TupK H H1 := fun a xs h => e _ _ h
/-- more is laid -/
theorem UW.more (w : UW K H0 A B H s) (e : Ex H H1) : UW K H0 A B H1 s where
  ex := w.ex.trans e
  f0 := w.f0
  f1 := w.f1
  f2 := w.f2
  f3 := w.f3
  f4 := w.f4
  f5 := w.f5
  f6 := w.f6
  f7 := w.f7
  b1 := w.b1
  b2 := w.b2
  b3 := w.b3
  b4 := w.b4
  b5 := w.b5
  b6 := w.b6
  b7 := w.b7
  at0 := let ⟨pk, h⟩ := w.at0; ⟨pk, e _ _ h⟩
  at1 := e _ _ w.at1
  at2 := e _ _ w.at2
  at3 := e _ _ w.at3
  at4 := e _ _ w.at4
  at5 := e _ _ w.at5
  at6 := let ⟨es, h, h2⟩ := w.at6; ⟨es, e _ _ h, h2.mono (.ex e)⟩
  at7 := fun v xs h => e _ _ (w.at7 v xs h)
  sz := w.sz
theorem UW.row_small (w : UW K H0 A B H s) {v : Nat} {xs : List (Option Nat)} (h : s.rows[v]? = some (some xs)) : xs.length < 2 ^ 62 := w.sz v xs h
theorem UW.row_ne (w : UW K H0 A B H s) {v : Nat} {xs : List (Option Nat)} (h : s.rows[v]? = some (some xs)) {l : Addr} (hl : A.lab l < 6) : A.row v ≠ l := fun e => by
  have := w.b7 v xs h
  rw [e] at this
  omega
theorem lab_ne {l m : Addr} {i j : Nat} (h1 : A.lab l = i) (h2 : A.lab m = j) (h : i ≠ j) : l ≠ m := fun e => h (by rw [← h1, ← h2, e])
theorem UW.u_ne (w : UW K H0 A B H s) {l : Addr} {xs : List V} (h : H l = some (.lst xs)) : A.u ≠ l := by
  obtain ⟨pk, h0⟩ := w.at0
  exact ne_of h0 h (by intro z; cases z)
theorem UW.peak (w : UW K H0 A B H s) (pk : Int) : UW K H0 A B (upd H A.u (.ins (C_Unwinding K) A.dx (A.fs B pk))) s := by
  obtain ⟨pk0, h0⟩ := w.at0
  have tk : TupK H (upd H A.u (.ins (C_Unwinding K) A.dx (A.fs B pk))) := .ins h0
  have ne : ∀ {l xs}, H l = some (.lst xs) → upd H A.u (.ins (C_Unwinding K) A.dx (A.fs B pk)) l = some (.lst xs) := fun {l xs} h => by
    rw [upd_ne (Ne.symm (w.u_ne h))]
    exact h
  exact { w with
    ex := Ex.mut w.ex w.f0
    at0 := ⟨pk, upd_same⟩
    at1 := ne w.at1
    at2 := ne w.at2
    at3 := ne w.at3
    at4 := ne w.at4
    at5 := ne w.at5
    at6 := let ⟨es, h, h2⟩ := w.at6; ⟨es, ne h, h2.mono tk⟩
    at7 := fun v xs h => ne (w.at7 v xs h) }
theorem UW.setTal (w : UW K H0 A B H s) (t : List Nat) : UW K H0 A B (upd H A.tl (.lst (ivs t))) { s with tal := t } := by
  have tk : TupK H (upd H A.tl (.lst (ivs t))) := .lst w.at3
  exact { w with
    ex := Ex.mut w.ex w.f3
    at0 := let ⟨pk, h⟩ := w.at0; ⟨pk, by rw [upd_ne (w.u_ne w.at3)]; exact h⟩
    at1 := by rw [upd_ne (lab_ne w.b1 w.b3 (by decide))]; exact w.at1
    at2 := by rw [upd_ne (lab_ne w.b2 w.b3 (by decide))]; exact w.at2
    at3 := upd_same
    at4 := by rw [upd_ne (lab_ne w.b4 w.b3 (by decide))]; exact w.at4
    at5 := by rw [upd_ne (lab_ne w.b5 w.b3 (by decide))]; exact w.at5
    at6 := let ⟨es, h, h2⟩ := w.at6; ⟨es, by rw [upd_ne (lab_ne w.b6 w.b3 (by decide))]; exact h, h2.mono tk⟩
    at7 := fun v xs h => by rw [upd_ne (w.row_ne h (by rw [w.b3]; decide))]; exact w.at7 v xs h }
theorem UW.setRefs (w : UW K H0 A B H s) (t : List Nat) : UW K H0 A B (upd H A.rfs (.lst (ivs t))) { s with refs := t } := by
  have tk : TupK H (upd H A.rfs (.lst (ivs t))) := .lst w.at2
  exact { w with
    ex := Ex.mut w.ex w.f2
    at0 := let ⟨pk, h⟩ := w.at0; ⟨pk, by rw [upd_ne (w.u_ne w.at2)]; exact h⟩
    at1 := by rw [upd_ne (lab_ne w.b1 w.b2 (by decide))]; exact w.at1
    at2 := upd_same
    at3 := by rw [upd_ne (lab_ne w.b3 w.b2 (by decide))]; exact w.at3
    at4 := by rw [upd_ne (lab_ne w.b4 w.b2 (by decide))]; exact w.at4
    at5 := by rw [upd_ne (lab_ne w.b5 w.b2 (by decide))]; exact w.at5
    at6 := let ⟨es, h, h2⟩ := w.at6; ⟨es, by rw [upd_ne (lab_ne w.b6 w.b2 (by decide))]; exact h, h2.mono tk⟩
    at7 := fun v xs h => by rw [upd_ne (w.row_ne h (by rw [w.b2]; decide))]; exact w.at7 v xs h }
theorem UW.setLog (w : UW K H0 A B H s) (t : List Nat) : UW K H0 A B (upd H A.lg (.lst (ivs t))) { s with log := t } := by
  have tk : TupK H (upd H A.lg (.lst (ivs t))) := .lst w.at4
  exact { w with
    ex := Ex.mut w.ex w.f4
    at0 := let ⟨pk, h⟩ := w.at0; ⟨pk, by rw [upd_ne (w.u_ne w.at4)]; exact h⟩
    at1 := by rw [upd_ne (lab_ne w.b1 w.b4 (by decide))]; exact w.at1
    at2 := by rw [upd_ne (lab_ne w.b2 w.b4 (by decide))]; exact w.at2
    at3 := by rw [upd_ne (lab_ne w.b3 w.b4 (by decide))]; exact w.at3
    at4 := upd_same
    at5 := by rw [upd_ne (lab_ne w.b5 w.b4 (by decide))]; exact w.at5
    at6 := let ⟨es, h, h2⟩ := w.at6; ⟨es, by rw [upd_ne (lab_ne w.b6 w.b4 (by decide))]; exact h, h2.mono tk⟩
    at7 := fun v xs h => by rw [upd_ne (w.row_ne h (by rw [w.b4]; decide))]; exact w.at7 v xs h }
theorem UW.setShelf (w : UW K H0 A B H s) (t : List Nat) : UW K H0 A B (upd H A.sh (.lst (ivs t))) { s with shelf := t } := by
  have tk : TupK H (upd H A.sh (.lst (ivs t))) := .lst w.at5
  exact { w with
    ex := Ex.mut w.ex w.f5
    at0 := let ⟨pk, h⟩ := w.at0; ⟨pk, by rw [upd_ne (w.u_ne w.at5)]; exact h⟩
    at1 := by rw [upd_ne (lab_ne w.b1 w.b5 (by decide))]; exact w.at1
    at2 := by rw [upd_ne (lab_ne w.b2 w.b5 (by decide))]; exact w.at2
    at3 := by rw [upd_ne (lab_ne w.b3 w.b5 (by decide))]; exact w.at3
    at4 := by rw [upd_ne (lab_ne w.b4 w.b5 (by decide))]; exact w.at4
    at5 := upd_same
    at6 := let ⟨es, h, h2⟩ := w.at6; ⟨es, by rw [upd_ne (lab_ne w.b6 w.b5 (by decide))]; exact h, h2.mono tk⟩
    at7 := fun v xs h => by rw [upd_ne (w.row_ne h (by rw [w.b5]; decide))]; exact w.at7 v xs h }
theorem UW.addEv (w : UW K H0 A B H s) {es : List V} {v : V} {e : Option (Nat × Nat)} (he : H A.ev = some (.lst es)) (hv : EvV H v e) : UW K H0 A B (upd H A.ev (.lst (es ++ [v]))) (s.ev e) := by
  have tk : TupK H (upd H A.ev (.lst (es ++ [v]))) := .lst he
  exact { w with
    ex := Ex.mut w.ex w.f6
    at0 := let ⟨pk, h⟩ := w.at0; ⟨pk, by rw [upd_ne (w.u_ne he)]; exact h⟩
    at1 := by rw [upd_ne (lab_ne w.b1 w.b6 (by decide))]; exact w.at1
    at2 := by rw [upd_ne (lab_ne w.b2 w.b6 (by decide))]; exact w.at2
    at3 := by rw [upd_ne (lab_ne w.b3 w.b6 (by decide))]; exact w.at3
    at4 := by rw [upd_ne (lab_ne w.b4 w.b6 (by decide))]; exact w.at4
    at5 := by rw [upd_ne (lab_ne w.b5 w.b6 (by decide))]; exact w.at5
    at6 := by
      obtain ⟨es', h, h2⟩ := w.at6
      rw [he] at h
      cases h
      exact ⟨_, upd_same, (h2.add hv).mono tk⟩
    at7 := fun v xs h => by rw [upd_ne (w.row_ne h (by rw [w.b6]; decide))]; exact w.at7 v xs h }
theorem mapIdx_get {rs : List Row} {v : Nat} {r : Row} (h : rs[v]? = some r) : (rs.mapIdx A.rowV)[v]? = some (A.rowV v r) := by simp [h]
/-- a slot of a live node's row -/
theorem UW.setRow (w : UW K H0 A B H s) {v : Nat} {xs ys : List (Option Nat)} (h : s.rows[v]? = some (some xs)) (hz : ys.length = xs.length) : UW K H0 A B (upd H (A.row v) (.lst (ys.map ent))) (s.setR v (some ys)) := by
  have hv := w.at7 v xs h
  have tk : TupK H (upd H (A.row v) (.lst (ys.map ent))) := .lst hv
  have hlt := (List.getElem?_eq_some_iff.mp h).1
  have back : ∀ (u : Nat) (zs : List (Option Nat)), (s.rows.set v (some ys))[u]? = some (some zs) → ∃ zs', s.rows[u]? = some (some zs') := by
    intro u zs hu
    rw [List.getElem?_set] at hu
    by_cases e : v = u
    · subst e
      exact ⟨xs, h⟩
    · rw [if_neg e] at hu
      exact ⟨zs, hu⟩
  exact { w with
    ex := Ex.mut w.ex (w.f7 v xs h)
    f7 := fun u zs hu => let ⟨_, h1⟩ := back u zs hu; w.f7 u _ h1
    at0 := let ⟨pk, h⟩ := w.at0; ⟨pk, by rw [upd_ne (w.u_ne hv)]; exact h⟩
    at1 := by
      rw [upd_ne (Ne.symm (w.row_ne h (by rw [w.b1]; decide)))]
      show _ = some (HO.lst ((s.rows.set v (some ys)).mapIdx A.rowV))
      rw [w.at1]
      congr 2
      apply List.ext_getElem?
      intro u
      rw [List.getElem?_mapIdx, List.getElem?_mapIdx, List.getElem?_set]
      by_cases e : v = u
      · subst e
        rw [if_pos rfl, if_pos hlt, h]
        rfl
      · rw [if_neg e]
    at2 := by rw [upd_ne (Ne.symm (w.row_ne h (by rw [w.b2]; decide)))]; exact w.at2
    at3 := by rw [upd_ne (Ne.symm (w.row_ne h (by rw [w.b3]; decide)))]; exact w.at3
    at4 := by rw [upd_ne (Ne.symm (w.row_ne h (by rw [w.b4]; decide)))]; exact w.at4
    at5 := by rw [upd_ne (Ne.symm (w.row_ne h (by rw [w.b5]; decide)))]; exact w.at5
    at6 := let ⟨es, h', h2⟩ := w.at6; ⟨es, by rw [upd_ne (Ne.symm (w.row_ne h (by rw [w.b6]; decide)))]; exact h', h2.mono tk⟩
    sz := fun u zs hu => by
      have hu' : (s.rows.set v (some ys))[u]? = some (some zs) := hu
      rw [List.getElem?_set] at hu'
      by_cases e : v = u
      · subst e
        rw [if_pos rfl, if_pos hlt] at hu'
        cases hu'
        rw [hz]
        exact w.sz v xs h
      · rw [if_neg e] at hu'
        exact w.sz u zs hu'
    b7 := fun u zs hu => let ⟨_, h1⟩ := back u zs hu; w.b7 u _ h1
    at7 := fun u zs hu => by
      obtain ⟨zs', h1⟩ := back u zs hu
      have hu' : (s.rows.set v (some ys))[u]? = some (some zs) := hu
      rw [List.getElem?_set] at hu'
      by_cases e : v = u
      · subst e
        rw [if_pos rfl, if_pos hlt] at hu'
        cases hu'
        exact upd_same
      · rw [if_neg e] at hu'
        have l1 := w.b7 v xs h
        have l2 := w.b7 u zs hu'
        rw [upd_ne (lab_ne l2 l1 (by omega))]
        exact w.at7 u zs hu' }
/-- a node's row is gone -/
theorem UW.noRow (w : UW K H0 A B H s) {v : Nat} (h : v < s.rows.length) : UW K H0 A B (upd H A.rws (.lst ((s.rows.mapIdx A.rowV).set v .non))) (s.setR v none) := by
  have tk : TupK H (upd H A.rws (.lst ((s.rows.mapIdx A.rowV).set v .non))) := .lst w.at1
  have back : ∀ (u : Nat) (zs : List (Option Nat)), (s.rows.set v none)[u]? = some (some zs) → s.rows[u]? = some (some zs) := by
    intro u zs hu
    rw [List.getElem?_set] at hu
    by_cases e : v = u
    · subst e
      rw [if_pos rfl, if_pos h] at hu
      cases hu
    · rw [if_neg e] at hu
      exact hu
  exact { w with
    ex := Ex.mut w.ex w.f1
    at0 := let ⟨pk, h⟩ := w.at0; ⟨pk, by rw [upd_ne (w.u_ne w.at1)]; exact h⟩
    at1 := by
      rw [upd_same]
      congr 2
      apply List.ext_getElem?
      intro u
      show _ = ((s.rows.set v none).mapIdx A.rowV)[u]?
      rw [List.getElem?_mapIdx, List.getElem?_set, List.getElem?_set]
      by_cases e : v = u
      · subst e
        rw [if_pos rfl, if_pos rfl, if_pos h, if_pos (by simpa using h)]
        rfl
      · rw [if_neg e, if_neg e, List.getElem?_mapIdx]
    at2 := by rw [upd_ne (lab_ne w.b2 w.b1 (by decide))]; exact w.at2
    at3 := by rw [upd_ne (lab_ne w.b3 w.b1 (by decide))]; exact w.at3
    at4 := by rw [upd_ne (lab_ne w.b4 w.b1 (by decide))]; exact w.at4
    at5 := by rw [upd_ne (lab_ne w.b5 w.b1 (by decide))]; exact w.at5
    at6 := let ⟨es, h, h2⟩ := w.at6; ⟨es, by rw [upd_ne (lab_ne w.b6 w.b1 (by decide))]; exact h, h2.mono tk⟩
    sz := fun u zs hu => w.sz u zs (back u zs hu)
    f7 := fun u zs hu => w.f7 u zs (back u zs hu)
    b7 := fun u zs hu => w.b7 u zs (back u zs hu)
    at7 := fun u zs hu => by
      rw [upd_ne (w.row_ne (back u zs hu) (by rw [w.b1]; decide))]
      exact w.at7 u zs (back u zs hu) }
/-- what was laid behind its start counts as laid ahead of it -/
theorem UW.base (w : UW K H0 A B H s) {l : Addr} {o : HO} (e : Ex H H1) (hl : H l = none) (ho : H1 l = some o) : UW K (upd H0 l o) A B H1 s := by
  have w1 := w.more e
  have ne : ∀ {a o'}, H a = some o' → H0 a = none → upd H0 l o a = none := fun {a o'} h h0 => by
    rw [upd_ne (ne_of_none h hl)]
    exact h0
  obtain ⟨pk, t0⟩ := w.at0
  obtain ⟨es, t6, _⟩ := w.at6
  exact { w1 with
    ex := by
      intro a u ha
      by_cases h : a = l
      · subst h
        rw [upd_same] at ha
        cases ha
        exact ho
      · rw [upd_ne h] at ha
        exact w1.ex a u ha
    f0 := ne t0 w.f0
    f1 := ne w.at1 w.f1
    f2 := ne w.at2 w.f2
    f3 := ne w.at3 w.f3
    f4 := ne w.at4 w.f4
    f5 := ne w.at5 w.f5
    f6 := ne t6 w.f6
    f7 := fun v xs h => ne (w.at7 v xs h) (w.f7 v xs h) }
end
end Sf
/-! Sequences compared. -/
namespace Sf
open PySem PySem.Spec PyProof.Rows L2 Evl
/-- a small datum of a value -/
def atD : V → PyData
  | .int i => .int i
  | .bl b => .bool b
  | _ => .none
def isAt : V → Bool
  | .int _ => true
  | .non => true
  | _ => false
section
variable {K : PySem.W.Frag} {H : Hp} {Q : VK}
theorem dp_ats : ∀ xs : List V, (∀ x ∈ xs, isAt x = true) → DpAll K H xs (xs.map atD)
  | [], _ => .nil
  | x :: r, h => by
    have h1 := h x (List.mem_cons_self ..)
    refine .cons ?_ (dp_ats r fun y hy => h y (List.mem_cons_of_mem _ hy))
    cases x <;> first | exact Dp.non | exact Dp.int _ | cases h1
theorem lay_ats : ∀ xs : List V, (∀ x ∈ xs, isAt x = true) → PyData.canLayAll0 (xs.map atD) = true ∧ PyData.depthAll (xs.map atD) = 0
  | [], _ => ⟨rfl, rfl⟩
  | x :: r, h => by
    have h1 := h x (List.mem_cons_self ..)
    obtain ⟨a, b⟩ := lay_ats r fun y hy => h y (List.mem_cons_of_mem _ hy)
    have e : PyData.canLay0 (atD x) = true ∧ PyData.depth (atD x) = 0 := by
      cases x <;> first | exact ⟨rfl, rfl⟩ | cases h1
    constructor
    · show (PyData.canLay0 (atD x) && PyData.canLayAll0 (r.map atD)) = true
      rw [e.1, a] <;> rfl
    · show max (PyData.depth (atD x)) (PyData.depthAll (r.map atD)) = 0
      rw [e.2, b] <;> rfl
theorem shaped_l {ds : List PyData} (h : PyData.canLayAll0 ds = true) (d : PyData.depthAll ds = 0) : SeqAt.shaped (.list ds) = true := by
  show (PyData.canLayAll0 ds && decide (PyData.depthAll ds + 1 ≤ 64)) = true
  rw [h, d] <;> rfl
theorem shaped_t {ds : List PyData} (h : PyData.canLayAll0 ds = true) (d : PyData.depthAll ds = 0) : SeqAt.shaped (.tuple ds) = true := by
  show (PyData.canLayAll0 ds && decide (PyData.depthAll ds + 1 ≤ 64)) = true
  rw [h, d] <;> rfl
theorem eqv_nil (xs : List V) : PyData.eqvAll (xs.map atD) [] = xs.isEmpty := by cases xs <;> rfl
theorem eqv_ints : ∀ ns ms : List Int, PyData.eqvAll ((ns.map V.int).map atD) ((ms.map V.int).map atD) = decide (ns = ms)
  | [], [] => rfl
  | [], _ :: _ => rfl
  | _ :: _, [] => rfl
  | n :: r, m :: q => by
    show ((n == m) && PyData.eqvAll ((r.map V.int).map atD) ((q.map V.int).map atD)) = _
    rw [eqv_ints r q]
    by_cases h : n = m
    · subst h
      simp
    · simp [h]
theorem rd_neL0 {a b : Addr} {xs : List V} (h1 : H a = some (.lst xs)) (h2 : H b = some (.lst [])) (h : ∀ x ∈ xs, isAt x = true) (q : Q (.bl (!xs.isEmpty)) H) : rNeD K (.ref a) (.ref b) H Q :=
  ⟨_, _, .lst (sq_of h1) (dp_ats xs h), .lst (sq_of h2) .nil, shaped_l (lay_ats xs h).1 (lay_ats xs h).2, shaped_l rfl rfl, by
    show Q (.bl (!PyData.eqvAll (xs.map atD) [])) H
    rw [eqv_nil]
    exact q⟩
theorem rd_eqL0 {a b : Addr} {xs : List V} (h1 : H a = some (.lst xs)) (h2 : H b = some (.lst [])) (h : ∀ x ∈ xs, isAt x = true) (q : Q (.bl xs.isEmpty) H) : rEqD K (.ref a) (.ref b) H Q :=
  ⟨_, _, .lst (sq_of h1) (dp_ats xs h), .lst (sq_of h2) .nil, shaped_l (lay_ats xs h).1 (lay_ats xs h).2, shaped_l rfl rfl, by
    show Q (.bl (PyData.eqvAll (xs.map atD) [])) H
    rw [eqv_nil]
    exact q⟩
theorem rd_neT0 {a b : Addr} {xs : List V} (h1 : H a = some (.tup xs)) (h2 : H b = some (.tup [])) (h : ∀ x ∈ xs, isAt x = true) (q : Q (.bl (!xs.isEmpty)) H) : rNeD K (.ref a) (.ref b) H Q :=
  ⟨_, _, .tup (st_of h1) (dp_ats xs h), .tup (st_of h2) .nil, shaped_t (lay_ats xs h).1 (lay_ats xs h).2, shaped_t rfl rfl, by
    show Q (.bl (!PyData.eqvAll (xs.map atD) [])) H
    rw [eqv_nil]
    exact q⟩
theorem rd_eqT0 {a b : Addr} {xs : List V} (h1 : H a = some (.tup xs)) (h2 : H b = some (.tup [])) (h : ∀ x ∈ xs, isAt x = true) (q : Q (.bl xs.isEmpty) H) : rEqD K (.ref a) (.ref b) H Q :=
  ⟨_, _, .tup (st_of h1) (dp_ats xs h), .tup (st_of h2) .nil, shaped_t (lay_ats xs h).1 (lay_ats xs h).2, shaped_t rfl rfl, by
    show Q (.bl (PyData.eqvAll (xs.map atD) [])) H
    rw [eqv_nil]
    exact q⟩
theorem at_ints (ns : List Int) : ∀ x ∈ ns.map V.int, isAt x = true := by
  intro x hx
  obtain ⟨n, _, rfl⟩ := List.mem_map.mp hx
  rfl
theorem at_ivs (ns : List Nat) : ∀ x ∈ ivs ns, isAt x = true := by
  intro x hx
  obtain ⟨n, _, rfl⟩ := List.mem_map.mp hx
  rfl
theorem at_ents (xs : List (Option Nat)) : ∀ x ∈ xs.map ent, isAt x = true := by
  intro x hx
  obtain ⟨n, _, rfl⟩ := List.mem_map.mp hx
  cases n <;> rfl
theorem rd_neLL {a b : Addr} {ns ms : List Int} (h1 : SqL K H a (ns.map V.int)) (h2 : SqL K H b (ms.map V.int)) (q : Q (.bl (!decide (ns = ms))) H) : rNeD K (.ref a) (.ref b) H Q :=
  ⟨_, _, .lst h1 (dp_ats _ (at_ints ns)), .lst h2 (dp_ats _ (at_ints ms)), shaped_l (lay_ats _ (at_ints ns)).1 (lay_ats _ (at_ints ns)).2, shaped_l (lay_ats _ (at_ints ms)).1 (lay_ats _ (at_ints ms)).2, by
    show Q (.bl (!PyData.eqvAll ((ns.map V.int).map atD) ((ms.map V.int).map atD))) H
    rw [eqv_ints]
    exact q⟩
theorem ivs_empty (ns : List Nat) : (ivs ns).isEmpty = ns.isEmpty := by cases ns <;> rfl
end
end Sf
/-! A loop over a list or a tuple; a dict comprehension over any walk. -/
namespace Sf
open PySem PySem.Spec PyProof.Rows L2 Evl
def iSeq (K : PySem.W.Frag) (tl : TE) : TI := fun σ H R => iList K tl σ H R ∨ iTup K tl σ H R
theorem pi_seq {X : Cx} {tg l : Expr} {tl : TE} (hl : PE X l tl) : PI X tg l (iSeq X.K tl) :=
  ⟨fun pins s σ H R I h => h.elim (fun h => (pi_list hl).run pins s σ H R I h) (fun h => (pi_tup hl).run pins s σ H R I h)⟩
section
variable {K : PySem.W.Frag} {H H1 : Hp} {σ : L2.St}
theorem rd_iSeq {i : Nat} {a : Addr} {xs : List V} {R : It → Hp → Prop} (h : σ[i]? = some (some (.ref a))) (hs : SqL K H a xs ∨ SqT K H a xs) (q : ∀ J, Walk J xs.length (fun H' => Ex H H') (YAt xs) → R J H) : iSeq K (tVar i) σ H R := by
  rcases hs with hs | hs
  · exact Or.inl ⟨_, h, a, rfl, ⟨xs, hs⟩, q _ (walk_list.mono (fun H' e => ex_l e hs) fun _ _ _ _ _ _ y => y)⟩
  · exact Or.inr ⟨_, h, a, rfl, ⟨xs, hs⟩, q _ (walk_tup.mono (fun H' e => ex_t e hs) fun _ _ _ _ _ _ y => y)⟩
theorem rd_dc {wi : TI} {g : TG} {tt : TT} {tk tv : TE} {vs : List Nat} {Q : VK} (h : wi σ H fun J H1 => ∀ D, H1 D = none → ∃ W : Nat → Nat → Hp → Prop, (∃ m, W 0 m (upd H1 D (.dK []))) ∧ ∀ i m H, W i m H →
      (J.stop i H ∧ Q (.ref D) H) ∨ (J.go i H ∧ ∃ Nx : Hp → Prop, (∀ H', Nx H' → ∃ m', m' < m ∧ W (i + 1) m' H') ∧ ∀ x H', J.yld i H x H' → g x (wipe σ vs) H' fun σ2 H2 => wipe σ2 vs = wipe σ vs ∧ tt σ2 H2 fun b H3 =>
        if b = true then tk σ2 H3 fun y H4 => tv σ2 H4 fun z H5 => ∃ kvs k, y = kV k ∧ H5 D = some (.dK kvs) ∧ kvs.length < sizeLine ∧ Nx (upd H5 D (.dK (putK kvs k z))) else Nx H3)) : tDc wi g tt tk tv vs σ H Q := h
theorem dc_it {J : It} {n : Nat} {G : Hp → Prop} {Y : Nat → Hp → V → Hp → Prop} (w : Walk J n G Y) {g : TG} {tt : TT} {tk tv : TE} {vs : List Nat} {D : Addr} {Qd : Hp → Prop} (Pv : Nat → Hp → Prop) (h0 : Pv 0 (upd H1 D (.dK []))) (hG : ∀ i H, i ≤ n → Pv i H → G H)
    (hs : ∀ i x H H', i < n → Pv i H → Y i H x H' → g x (wipe σ vs) H' fun σ2 H2 => wipe σ2 vs = wipe σ vs ∧ tt σ2 H2 fun b H3 =>
      if b = true then tk σ2 H3 fun y H4 => tv σ2 H4 fun z H5 => ∃ kvs k, y = kV k ∧ H5 D = some (.dK kvs) ∧ kvs.length < sizeLine ∧ Pv (i + 1) (upd H5 D (.dK (putK kvs k z))) else Pv (i + 1) H3) (hd : ∀ H, Pv n H → Qd H) :
    ∃ W : Nat → Nat → Hp → Prop, (∃ m, W 0 m (upd H1 D (.dK []))) ∧ ∀ i m H, W i m H →
      (J.stop i H ∧ Qd H) ∨ (J.go i H ∧ ∃ Nx : Hp → Prop, (∀ H', Nx H' → ∃ m', m' < m ∧ W (i + 1) m' H') ∧ ∀ x H', J.yld i H x H' → g x (wipe σ vs) H' fun σ2 H2 => wipe σ2 vs = wipe σ vs ∧ tt σ2 H2 fun b H3 =>
        if b = true then tk σ2 H3 fun y H4 => tv σ2 H4 fun z H5 => ∃ kvs k, y = kV k ∧ H5 D = some (.dK kvs) ∧ kvs.length < sizeLine ∧ Nx (upd H5 D (.dK (putK kvs k z))) else Nx H3) := by
  refine ⟨fun i m H => m = n - i ∧ i ≤ n ∧ Pv i H, ⟨n, by simp, Nat.zero_le _, h0⟩, ?_⟩
  rintro i m H ⟨rfl, hi, p⟩
  have q := hG i H hi p
  by_cases hlt : i < n
  · exact .inr ⟨w.goes i H hlt q, Pv (i + 1), fun H' p' => ⟨n - (i + 1), by omega, rfl, hlt, p'⟩, fun x H' y => hs i x H H' hlt p (w.yields i H x H' hlt q y)⟩
  · have e : i = n := by omega
    subst e
    exact .inl ⟨w.stops H q, hd H p⟩
theorem rd_notinD {td ty : TE} {Q : VK} (h : ty σ H fun y H1 => td σ H1 fun x H2 => ∃ a o, x = .ref a ∧ DGet H2 a y o ∧ Q (.bl (!o.isSome)) H2) : tDNotIn ty td σ H Q := h
theorem rd_inD {td ty : TE} {Q : VK} (h : ty σ H fun y H1 => td σ H1 fun x H2 => ∃ a o, x = .ref a ∧ DGet H2 a y o ∧ Q (.bl o.isSome) H2) : tDIn ty td σ H Q := h
theorem rd_dget {td ty : TE} {Q : VK} (h : td σ H fun x H1 => ty σ H1 fun y H2 => ∃ a v, x = .ref a ∧ DGet H2 a y (some v) ∧ Q v H2) : tDGet td ty σ H Q := h
theorem rd_dput {D : Ends} {td ty tv : TE} (h : tv σ H fun v H1 => td σ H1 fun x H2 => ty σ H2 fun y H3 => ∃ a H4, x = .ref a ∧ DPut H3 a y v H4 ∧ D.nx σ H4) : sDPut td ty tv D σ H := h
end
end Sf
/-! What can be reached: plain. -/
namespace Sf
open L2
def Edge (rs : List Row) (p n : Nat) : Prop := ∃ xs, rs[p]? = some (some xs) ∧ some n ∈ xs
inductive Rch (rs : List Row) (S : Nat → Prop) : Nat → Prop
  | st {n : Nat} : S n → Rch rs S n
  | step {p n : Nat} : Rch rs S p → Edge rs p n → Rch rs S n
def heldL (xs : List (Option Nat)) : List Nat := xs.filterMap id
theorem mem_held {xs : List (Option Nat)} {n : Nat} : n ∈ heldL xs ↔ some n ∈ xs := by simp [heldL]
abbrev Fr := List (Nat × Option Nat)
def keys (fr : Fr) : List Nat := fr.map Prod.fst
theorem keys_app (a b : Fr) : keys (a ++ b) = keys a ++ keys b := by simp [keys]
theorem keys_len (a : Fr) : (keys a).length = a.length := by simp [keys]
theorem keys_get {fr : Fr} {i n : Nat} {q : Option Nat} (h : fr[i]? = some (n, q)) : (keys fr)[i]? = some n := by simp [keys, h]
theorem keys_mem {fr : Fr} {n : Nat} {q : Option Nat} (h : (n, q) ∈ fr) : n ∈ keys fr := List.mem_map.mpr ⟨_, h, rfl⟩
theorem keys_of {fr : Fr} {n : Nat} (h : n ∈ keys fr) : ∃ q, (n, q) ∈ fr := by
  obtain ⟨⟨a, q⟩, h1, h2⟩ := List.mem_map.mp h
  cases h2
  exact ⟨q, h1⟩
structure Cf (rs : List Row) (ss : List Nat) (fr : Fr) : Prop where
  nd : (keys fr).Nodup
  lv : ∀ n ∈ keys fr, Live rs n
  st : ∀ n ∈ ss, n ∈ keys fr
  pr : ∀ (i n p : Nat), fr[i]? = some (n, some p) → Edge rs p n ∧ ∃ j q, j < i ∧ fr[j]? = some (p, q)
  no : ∀ n : Nat, (n, none) ∈ fr → n ∈ ss
def Closed (rs : List Row) (k : Nat) (fr : Fr) : Prop := ∀ (j p : Nat) (q : Option Nat) (n : Nat), j < k → fr[j]? = some (p, q) → Edge rs p n → n ∈ keys fr
theorem Cf.start {rs : List Row} {ss : List Nat} (nd : ss.Nodup) (lv : ∀ n ∈ ss, Live rs n) : Cf rs ss (ss.map fun n => (n, none)) := by
  have e : keys (ss.map fun n => (n, none)) = ss := by simp [keys, Function.comp_def]
  refine ⟨by rw [e]; exact nd, by rw [e]; exact lv, fun n h => by rw [e]; exact h, fun i n p h => ?_, fun n h => ?_⟩
  · rw [List.getElem?_map] at h
    cases h2 : ss[i]? with
    | none => rw [h2] at h; cases h
    | some x => rw [h2] at h; cases h
  · obtain ⟨x, h1, h2⟩ := List.mem_map.mp h
    cases h2
    exact h1
theorem Cf.add {rs : List Row} {ss : List Nat} {fr : Fr} {i p h : Nat} {q : Option Nat} (c : Cf rs ss fr) (hi : fr[i]? = some (p, q)) (he : Edge rs p h) (hn : h ∉ keys fr) (hl : Live rs h) : Cf rs ss (fr ++ [(h, some p)]) := by
  have hk : keys (fr ++ [(h, some p)]) = keys fr ++ [h] := by simp [keys]
  have hil := (List.getElem?_eq_some_iff.mp hi).1
  refine ⟨?_, ?_, ?_, ?_, ?_⟩
  · rw [hk]
    exact List.nodup_append.mpr ⟨c.nd, by simp, fun a ha b hb e => by
      cases List.mem_singleton.mp hb
      exact hn (e ▸ ha)⟩
  · intro n m
    rw [hk] at m
    rcases List.mem_append.mp m with m | m
    · exact c.lv n m
    · cases List.mem_singleton.mp m
      exact hl
  · intro n m
    rw [hk]
    exact List.mem_append_left _ (c.st n m)
  · intro k n p' hg
    by_cases hkl : k < fr.length
    · rw [List.getElem?_append_left hkl] at hg
      obtain ⟨e1, j, q', e2, e3⟩ := c.pr k n p' hg
      exact ⟨e1, j, q', e2, by rw [List.getElem?_append_left (by omega)]; exact e3⟩
    · rw [List.getElem?_append_right (by omega)] at hg
      have hk0 : k - fr.length = 0 := by
        have := (List.getElem?_eq_some_iff.mp hg).1
        simp at this
        omega
      rw [hk0] at hg
      cases hg
      exact ⟨he, i, q, by omega, by rw [List.getElem?_append_left hil]; exact hi⟩
  · intro n m
    rcases List.mem_append.mp m with m | m
    · exact c.no n m
    · cases List.mem_singleton.mp m
theorem Cf.done {rs : List Row} {ss : List Nat} {fr : Fr} (c : Cf rs ss fr) (h : Closed rs fr.length fr) (n : Nat) : n ∈ keys fr ↔ Rch rs (· ∈ ss) n := by
  constructor
  · have all : ∀ i : Nat, ∀ (n : Nat) q, fr[i]? = some (n, q) → Rch rs (· ∈ ss) n := by
      intro i
      induction i using Nat.strongRecOn with
      | ind i ih =>
        intro n q hi
        cases q with
        | none => exact .st (c.no n (List.mem_of_getElem? hi))
        | some p =>
          obtain ⟨e1, j, q, e2, e3⟩ := c.pr i n p hi
          exact .step (ih j e2 p q e3) e1
    intro m
    obtain ⟨q, hq⟩ := keys_of m
    obtain ⟨i, hi⟩ := List.getElem?_of_mem hq
    exact all i n q hi
  · intro r
    induction r with
    | st m => exact c.st _ m
    | step _ e ih =>
      obtain ⟨q, hq⟩ := keys_of ih
      obtain ⟨i, hi⟩ := List.getElem?_of_mem hq
      exact h i _ q _ (List.getElem?_eq_some_iff.mp hi).1 hi e
/-- the dict -/
def kvsF (fr : Fr) : List (Key × V) := fr.map fun e => (.inl (e.1 : Int), ent e.2)
theorem kvs_len (fr : Fr) : (kvsF fr).length = fr.length := by simp [kvsF]
theorem kvs_none : ∀ {fr : Fr} {h : Nat}, h ∉ keys fr → valV (kvsF fr) (.inl (h : Int)) = none
  | [], _, _ => rfl
  | (n, q) :: r, h, hn => by
    show valV ((Sum.inl (n : Int), ent q) :: kvsF r) (.inl (h : Int)) = none
    rw [valV_neg]
    · exact kvs_none fun m => hn (List.mem_cons_of_mem _ m)
    · intro e
      have : (n : Int) = (h : Int) := Sum.inl.inj e
      exact hn (by
        have e2 : n = h := by omega
        subst e2
        exact List.mem_cons_self ..)
theorem kvs_some : ∀ {fr : Fr} {h : Nat} {q : Option Nat}, (keys fr).Nodup → (h, q) ∈ fr → valV (kvsF fr) (.inl (h : Int)) = some (ent q)
  | (n, q') :: r, h, q, nd, m => by
    show valV ((Sum.inl (n : Int), ent q') :: kvsF r) (.inl (h : Int)) = some (ent q)
    have nd2 : n ∉ keys r ∧ (keys r).Nodup := List.nodup_cons.mp nd
    rcases List.mem_cons.mp m with e | m
    · cases e
      rw [valV_pos rfl]
    · rw [valV_neg]
      · exact kvs_some nd2.2 m
      · intro e
        have : (n : Int) = (h : Int) := Sum.inl.inj e
        have e2 : n = h := by omega
        subst e2
        exact nd2.1 (keys_mem m)
theorem kvs_put {fr : Fr} {h p : Nat} (hn : h ∉ keys fr) : putK (kvsF fr) (.inl (h : Int)) (ent (some p)) = kvsF (fr ++ [(h, some p)]) := by
  rw [putK_new _ (kvs_none hn)]
  simp [kvsF]
theorem kvs_put0 {fr : Fr} {h : Nat} (hn : h ∉ keys fr) : putK (kvsF fr) (.inl (h : Int)) .non = kvsF (fr ++ [(h, none)]) := by
  rw [putK_new _ (kvs_none hn)]
  simp [kvsF]
theorem nd_take {l : List Nat} {i x : Nat} (nd : l.Nodup) (h : l[i]? = some x) : x ∉ l.take i := by
  obtain ⟨hi, hx⟩ := List.getElem?_eq_some_iff.mp h
  intro m
  have e : l = l.take i ++ l.drop i := (List.take_append_drop i l).symm
  rw [e] at nd
  refine (List.nodup_append.mp nd).2.2 x m x ?_ rfl
  rw [List.drop_eq_getElem_cons hi, hx]
  exact List.mem_cons_self ..
theorem Closed.next {rs : List Row} {i p : Nat} {q : Option Nat} {fr : Fr} {xs : List (Option Nat)} (c : Closed rs i fr) (hi : fr[i]? = some (p, q)) (hx : rs[p]? = some (some xs)) (h : ∀ n ∈ heldL xs, n ∈ keys fr) : Closed rs (i + 1) fr := by
  intro j p' q' n hj hg he
  by_cases e : j = i
  · subst e
    rw [hi] at hg
    cases hg
    obtain ⟨ys, e1, e2⟩ := he
    rw [hx] at e1
    cases e1
    exact h n (mem_held.mpr e2)
  · exact c j p' q' n (by omega) hg he
theorem Closed.add {rs : List Row} {i : Nat} {e : Nat × Option Nat} {fr : Fr} (c : Closed rs i fr) (hi : i ≤ fr.length) : Closed rs i (fr ++ [e]) := by
  intro j p q n hj hg he
  rw [List.getElem?_append_left (by omega)] at hg
  rw [keys_app]
  exact List.mem_append_left _ (c j p q n hj hg he)
theorem kvs_isSome {fr : Fr} {h : Nat} (nd : (keys fr).Nodup) : (valV (kvsF fr) (.inl (h : Int))).isSome = decide (h ∈ keys fr) := by
  by_cases m : h ∈ keys fr
  · obtain ⟨q, hq⟩ := keys_of m
    rw [kvs_some nd hq]
    simp [m]
  · rw [kvs_none m]
    simp [m]
theorem Vh.edge {hp : Hv} (V : Vh hp) {p n : Nat} (e : Edge hp.1 p n) : Live hp.1 n := by
  obtain ⟨xs, h1, h2⟩ := e
  have hl := (V.rows p _ h1 xs rfl).2 n h2
  have hc := cnt_pos h1 h2
  have hg := List.getElem?_eq_getElem hl
  cases h : hp.1[n] with
  | none =>
    rw [h] at hg
    have := V.free n hg
    omega
  | some ys =>
    rw [h] at hg
    exact ⟨ys, hg⟩
theorem nodup_lt {N : Nat} {l : List Nat} (nd : l.Nodup) (h : ∀ x ∈ l, x < N) : l.length ≤ N := nodup_len N l nd h
theorem Cf.len {rs : List Row} {ss : List Nat} {fr : Fr} (c : Cf rs ss fr) : fr.length ≤ rs.length := by
  rw [← keys_len]
  exact nodup_lt c.nd fun x m => (c.lv x m).lt
end Sf
/-! machine: release and destroy -/
namespace Sf
open PySem PySem.Spec PyProof.Rows L2 Evl
local macro_rules | `(tactic| walk_at "hx") => `(tactic| first | assumption | exact upd_same | (with_reducible refine upd_fr ?_ (by assumption); walk_at "hx") | (refine ex_get (by assumption) ?_; walk_at "hx"))
local macro_rules | `(tactic| walk_at "ex") => `(tactic| first | assumption | exact Ex.refl _ | (with_reducible refine ex_new ?_ (by assumption); walk_at "ex") | (refine Ex.trans ?_ (by assumption); walk_at "ex"))
local macro_rules | `(tactic| walk_at "sqT") => `(tactic| first | (with_reducible assumption) | exact st_of (by walk_at "hx"))
local macro_rules | `(tactic| walk_at "sqL") => `(tactic| first | (with_reducible assumption) | exact sq_of (by walk_at "hx"))
local macro_rules | `(tactic| walk_at "sq") => `(tactic| first | (with_reducible assumption) | exact st_of (by walk_at "hx") | exact sq_of (by walk_at "hx"))
local macro_rules | `(tactic| walk_at "ty") => `(tactic| first | exact TyX.base (.int _) | exact TyX.base .non | exact TyX.base (.bl _) | exact TyX.base (.str _) | exact TyX.base (.tup (by walk_at "hx")) | exact TyX.base (.lst (by walk_at "hx")))
local macro_rules | `(tactic| walk_at "rd1") => `(tactic| first
  | with_reducible refine rd_seq ?_
  | ((with_reducible refine' rd_var ?h ?_); (case h => exact rfl))
  | with_reducible refine rd_c ?_
  | with_reducible refine rd_op ?_
  | with_reducible refine rd_un ?_
  | with_reducible refine rd_CB ?_
  | with_reducible refine rd_call ?_
  | with_reducible refine rd_cons ?_
  | with_reducible refine rd_nil ?_
  | with_reducible refine rd_I0 ?_
  | with_reducible refine rd_U ?_
  | with_reducible refine rd_ret ?_
  | with_reducible refine rd_retN ?_
  | with_reducible refine rd_next ?_
  | with_reducible refine rd_asg ?_
  | with_reducible refine rd_gName ?_
  | with_reducible refine rd_drop ?_
  | with_reducible refine rd_ifS ?_
  | with_reducible refine rd_test ?_
  | with_reducible refine rd_B ?_
  | with_reducible refine rd_notT ?_
  | with_reducible refine rd_andT ?_
  | with_reducible refine rd_orT ?_
  | with_reducible refine rd_andV ?_
  | with_reducible refine rd_orV ?_
  | with_reducible refine rd_notV ?_
  | with_reducible refine rd_ifE ?_
  | with_reducible refine rd_chain ?_
  | with_reducible refine rd_tup ?_
  | with_reducible refine rd_lst ?_
  | with_reducible refine rd_k ?_
  | with_reducible refine rd_eqS rfl ?_
  | with_reducible refine rd_neS rfl ?_
  | ((with_reducible refine rd_and (small40 (Nat.le_of_ble_eq_true rfl)) ?_); intro _ _)
  | (with_reducible refine' rd_isiT2 (k := "tuple") ?ty ?hx kb_tl kb_tt ?_; (case ty => walk_at "ty"); (case hx => walk_at "hx"))
  | with_reducible refine us_is_integer ?_
  | with_reducible refine us_is_between ?_
  | ((with_reducible refine' rd_ixT0 ?sq ?g ?_); (case sq => walk_at "sqT"); (case g => first | exact rfl | assumption))
  | ((with_reducible refine' rd_ixT1 ?sq ?g ?_); (case sq => walk_at "sqT"); (case g => first | exact rfl | assumption))
  | ((with_reducible refine' rd_ixT2 ?sq ?g ?_); (case sq => walk_at "sqT"); (case g => first | exact rfl | assumption))
  | ((with_reducible refine' rd_ixT3 ?sq ?g ?_); (case sq => walk_at "sqT"); (case g => first | exact rfl | assumption))
  | ((with_reducible refine' rd_ixT4 ?sq ?g ?_); (case sq => walk_at "sqT"); (case g => first | exact rfl | assumption))
  | ((with_reducible refine' rd_ixL0 ?sq ?g ?_); (case sq => walk_at "sqL"); (case g => first | exact rfl | assumption))
  | ((with_reducible refine' rd_ixL1 ?sq ?g ?_); (case sq => walk_at "sqL"); (case g => first | exact rfl | assumption))
  | ((with_reducible refine' rd_ixL2 ?sq ?g ?_); (case sq => walk_at "sqL"); (case g => first | exact rfl | assumption))
  | ((with_reducible refine' rd_ixT ?sq ?g ?_); (case sq => walk_at "sqT"); (case g => first | assumption | exact rfl))
  | ((with_reducible refine' rd_ixL ?sq ?g ?_); (case sq => walk_at "sqL"); (case g => first | assumption | exact rfl))
  | with_reducible refine rd_sl ?_
  | with_reducible refine rd_noPart ?_
  | with_reducible refine rd_part ?_
  | with_reducible refine rd_pt1 ?_
  | with_reducible refine rd_make ?_
  | with_reducible refine rd_callN ?_
  | with_reducible refine rd_makeN ?_
  | with_reducible refine rd_revT ?_
  | with_reducible refine rd_dc ?_
  | with_reducible refine rd_notinD ?_
  | with_reducible refine rd_inD ?_
  | with_reducible refine rd_dget ?_
  | with_reducible refine rd_dput ?_
  | ((with_reducible refine' rd_fld1 ?h ?c ?n ?l ?_); (case h => walk_at "hx"); (case c => first | exact Tx.c_Unwinding (by assumption) | exact Tx.c_Store (by assumption)); (case n => first | exact Tx.n_Unwinding_rows (by assumption) | exact Tx.n_Unwinding_references (by assumption) | exact Tx.n_Unwinding_tallies (by assumption) | exact Tx.n_Unwinding_bound (by assumption) | exact Tx.n_Unwinding_log (by assumption) | exact Tx.n_Unwinding_shelf (by assumption) | exact Tx.n_Unwinding_peak (by assumption) | exact Tx.n_Unwinding_events (by assumption) | exact Tx.n_Store_snapshots (by assumption) | exact Tx.n_Store_recorded (by assumption) | exact Tx.n_Store_observer (by assumption) | exact Tx.n_Store_is_busy (by assumption)); (case l => exact rfl))
  | ((with_reducible refine' rd_sFld1 ?h ?c ?n ?l ?_); (case h => walk_at "hx"); (case c => first | exact Tx.c_Unwinding (by assumption) | exact Tx.c_Store (by assumption)); (case n => first | exact Tx.n_Unwinding_rows (by assumption) | exact Tx.n_Unwinding_references (by assumption) | exact Tx.n_Unwinding_tallies (by assumption) | exact Tx.n_Unwinding_bound (by assumption) | exact Tx.n_Unwinding_log (by assumption) | exact Tx.n_Unwinding_shelf (by assumption) | exact Tx.n_Unwinding_peak (by assumption) | exact Tx.n_Unwinding_events (by assumption) | exact Tx.n_Store_snapshots (by assumption) | exact Tx.n_Store_recorded (by assumption) | exact Tx.n_Store_observer (by assumption) | exact Tx.n_Store_is_busy (by assumption)); (case l => exact Nat.le_of_ble_eq_true rfl))
  | ((with_reducible refine' rd_meth1 ?h ?l ?_); (case h => walk_at "hx"); (case l => exact rfl))
  | ((with_reducible refine' rd_and (rd_tyL ?h) ?_); (case h => walk_at "hx"))
  | ((with_reducible refine' rd_rng1 ?hn ?_); (case hn => first | omega | (simp; omega)))
  | with_reducible refine rd_nx ?_
  | with_reducible refine rd_rt ?_
  | with_reducible refine rd_ct ?_
  | with_reducible refine rd_bk ?_
  | ((with_reducible refine' rd_isi ?ty ?kb ?_); (case ty => walk_at "ty"); (case kb => first | exact kb_ii | exact kb_ib | exact kb_tt | exact kb_tl | exact kb_ss | exact kb_nt))
  | with_reducible refine rd_for ?_
  | with_reducible refine rd_iTup ?_
  | with_reducible refine rd_iList ?_
  | with_reducible refine rd_iRng1 ?_
  | with_reducible refine rd_iRng2 ?_
  | with_reducible refine rd_iEnumT ?_
  | with_reducible refine rd_iEnum ?_
  | with_reducible refine rd_lc ?_
  | with_reducible refine rd_yes ?_
  | ((with_reducible refine' rd_gTup ?sq ?n ?_); (case sq => walk_at "sqT"); (case n => exact rfl))
  | with_reducible refine rd_gCons ?_
  | with_reducible refine rd_gNil ?_
  | with_reducible refine rd_fld ?_
  | with_reducible refine rd_meth ?_
  | with_reducible refine rd_sFld ?_
  | with_reducible refine rd_BM ?_
  | with_reducible refine rd_BM0 ?_
  | ((with_reducible refine' rd_orRow ?h (by assumption) ?_); (case h => exact rfl))
  | with_reducible refine rd_augS ?_
  | with_reducible refine rd_ip ?_
  | with_reducible refine rd_gSub ?_
  | ((with_reducible refine' rd_aug ?h ?_); (case h => exact rfl))
  | with_reducible refine rd_par ?_
  | with_reducible refine rd_par1 ?_
  | ((with_reducible refine' rd_lenT ?sq ?_); (case sq => exact st_of (by walk_at "hx")))
  | ((with_reducible refine' rd_lenL ?sq ?_); (case sq => exact sq_of (by walk_at "hx")))
  | ((with_reducible refine' rd_itt ?sq ?_); (case sq => walk_at "sqT"))
  | ((with_reducible refine' rd_itl ?sq ?_); (case sq => walk_at "sqL"))
  | ((with_reducible refine' rd_enumT ?sq ?_); (case sq => walk_at "sqT"))
  | ((with_reducible refine' rd_enumL ?sq ?_); (case sq => walk_at "sqL"))
  | with_reducible refine rd_and rfl ?_
  | with_reducible refine if_t rfl ?_
  | with_reducible refine if_f rfl ?_)
local macro_rules | `(tactic| walk_at "rd") => `(tactic| repeat (walk_at "rd1"))
def sp_Unwinding_release (K : PySem.W.Frag) (f : Nat) : Sp := fun vs H Q _ => match vs with
  | [x, _, _, y, z] => ∃ H0 A B s h d s', x = .ref (UA.u A) ∧ y = .int ((h : Nat) : Int) ∧ z = .int ((d : Nat) : Int) ∧ UW K H0 A B H s ∧ rel B (des B f) s h d = some s' ∧ ∀ H', UW K H0 A B H' s' → Q .non H'
  | _ => False
def sp_Unwinding_destroy (K : PySem.W.Frag) (f : Nat) : Sp := fun vs H Q _ => match vs with
  | [x, y, z] => ∃ H0 A B s v d s', x = .ref (UA.u A) ∧ y = .int ((v : Nat) : Int) ∧ z = .int ((d : Nat) : Int) ∧ UW K H0 A B H s ∧ des B f s v d = some s' ∧ ∀ H', UW K H0 A B H' s' → Q .non H'
  | _ => False
theorem big_lt {n : Nat} (h : n < big) : n < sizeLine := Nat.lt_trans h (by decide)
section
variable {P : Program} {w : World} {K : PySem.W.Frag} {mg : Str → Option Value} {base : Heap}
theorem ok_release_of (T : Tx K mg) (f : Nat) (ok_Unwinding_destroy : Tx K mg → FnOk P w K mg base CX0 (2 * f + 1) (a_Unwinding_destroy K) (fd_Unwinding_destroy K) ["self", "node", "depth"] (sp_Unwinding_destroy K f)) :
    FnOk P w K mg base CX0 (2 * f + 2) (a_Unwinding_release K) (fd_Unwinding_release K) ["self", "holder", "slot", "node", "depth"] (sp_Unwinding_release K f) := by
  refine FunD.ok T.f_Unwinding_release sc_Unwinding_release (fun vs H Q E h => match vs, h with | [_, _, _, _, _], _ => rfl) (fun cdv A0 outer s0 H vs Q E hr h => ⟨_, PSs.nox (pss_cons (ps_augS (pe_fld (pv 0) rfl) (pv 3) pget_list pe_int ip_sub set_list)
      (pss_cons (ps_expr (pe_bm PySem.F.plainAttrs_list PySem.F.slot_list_append PySem.F.type_list_append mt_append (pe_fld (pv 0) rfl) (pa_cons (pe_tup (pa_cons pe_str (pa_cons (pv 1) (pa_cons (pv 2) (pa_cons (pv 3) (pa_cons (pe_ix (ixL (K := K)) (pe_fld (pv 0) rfl) (pv 3) (fun _ _ => rfl)) pa_nil)))))) pa_nil)))
      (pss_cons (ps_if (pt_cmpR op_gt (pe_ix (ixL (K := K)) (pe_fld (pv 0) rfl) (pv 3) (fun _ _ => rfl)) pe_int (nomark _)) (pss_one ps_retN) pss_nil)
      (pss_cons (ps_if (pt_cmpR op_lt (pv 4) (pe_fld (pv 0) rfl) (nomark _)) (pss_cons (ps_expr (pe_meth (pv 0) T.c_Unwinding T.t_Unwinding_destroy (ok_Unwinding_destroy T) (hr.mono (by omega)) T.b_Unwinding_destroy .nil pass0 (pa_cons (pv 3) (pa_cons (pv 4) pa_nil))))
      (pss_one ps_retN)) pss_nil)
      (pss_cons (ps_expr (pe_bm PySem.F.plainAttrs_list PySem.F.slot_list_append PySem.F.type_list_append mt_append (pe_fld (pv 0) rfl) (pa_cons (pv 3) pa_nil)))
      (pss_cons (ps_fld (pv 0) (pe_callB (call_max2 rfl) (by rfl) T.z_max (by decide +kernel) (pa_cons (pe_fld (pv 0) rfl) (pa_cons (pe_callB (cLen (K := K)) (by rfl) T.z_len (by decide +kernel) (pa_cons (pe_fld (pv 0) rfl) pa_nil)) pa_nil))) rfl)
      (pss_one (ps_expr (pe_bm PySem.F.plainAttrs_list PySem.F.slot_list_append PySem.F.type_list_append mt_append (pe_fld (pv 0) rfl) (pa_cons (pe_tup (pa_cons pe_str (pa_cons (pv 3) (pa_cons (pe_callB (cLen (K := K)) (by rfl) T.z_len (by decide +kernel) (pa_cons (pe_fld (pv 0) rfl) pa_nil)) pa_nil)))) pa_nil)))))))))), ?_⟩)
  match vs, h with
  | [v0, v1, v2, v3, v4], h =>
    obtain ⟨H0, A, B, s, h, d, s', rfl, rfl, rfl, w, hrel, q⟩ := h
    obtain ⟨pk, t0⟩ := w.at0
    have t3 := w.at3
    unfold rel at hrel
    split at hrel
    · rename_i t ht
      split at hrel
      · rename_i hbig
        have hlt := (List.getElem?_eq_some_iff.mp ht).1
        walk_at "rd"
        refine rd_getL (sq_of t3) (ivs_get ht) ?_
        walk_at "rd"
        refine rd_setL t3 (by rw [ivs_len]; exact hlt) ?_
        have e1 : (((t + 1 : Nat) : Int)) - 1 = (t : Nat) := by omega
        rw [e1, set_ivs]
        have w1 := w.setTal (s.tal.set h t)
        generalize upd H A.tl (.lst (ivs (s.tal.set h t))) = H1 at w1 ⊢
        obtain ⟨pk1, t0'⟩ := w1.at0
        have t3' := w1.at3
        obtain ⟨es, t6, hes⟩ := w1.at6
        have ht2 : (ivs (s.tal.set h t))[h]? = some (.int (t : Nat)) := ivs_get (by simp [hlt])
        walk_at "rd"
        rename_i p hp
        have wp := w1.more (Ex.new (o := .tup [.str "release", v1, v2, .int (h : Nat), .int (t : Nat)]) hp)
        have t6p : upd H1 p (.tup [.str "release", v1, v2, .int (h : Nat), .int (t : Nat)]) A.ev = some (.lst es) := upd_fr t6 hp
        refine rd_append t6p (by rw [hes.1]; exact big_lt hbig.1) ?_
        have w2 := wp.addEv t6p (v := .ref p) (e := some (h, t)) ⟨p, v1, v2, rfl, upd_same⟩
        generalize upd (upd H1 p (.tup [.str "release", v1, v2, .int (h : Nat), .int (t : Nat)])) A.ev (.lst (es ++ [.ref p])) = H2 at w2 ⊢
        obtain ⟨pk2, t0''⟩ := w2.at0
        have t3'' : H2 A.tl = some (.lst (ivs (s.tal.set h t))) := w2.at3
        walk_at "rd"
        split at hrel
        · rename_i h0
          cases hrel
          refine if_t (by simp; omega) ?_
          walk_at "rd"
          exact q H2 w2
        · rename_i h0
          refine if_f (by simp; omega) ?_
          walk_at "rd"
          split at hrel
          · rename_i hd
            refine if_t (by simp; exact hd) ?_
            walk_at "rd"
            refine Exists.intro H0 ⟨A, B, _, h, d, s', rfl, rfl, rfl, w2, hrel, fun H3 w3 => ?_⟩
            walk_at "rd"
            exact q H3 w3
          · rename_i hd
            cases hrel
            refine if_f (by simp; omega) ?_
            have t5 : H2 A.sh = some (.lst (ivs s.shelf)) := w2.at5
            walk_at "rd"
            refine rd_append t5 (by rw [ivs_len]; exact big_lt hbig.2) ?_
            have e2 : ivs s.shelf ++ [V.int (h : Nat)] = ivs (s.shelf ++ [h]) := by rw [ivs_app]; rfl
            rw [e2]
            have w3 := w2.setShelf (s.shelf ++ [h])
            generalize upd H2 A.sh (.lst (ivs (s.shelf ++ [h]))) = H3 at w3 ⊢
            obtain ⟨pk3, t03⟩ := w3.at0
            have t53 : H3 A.sh = some (.lst (ivs (s.shelf ++ [h]))) := w3.at5
            walk_at "rd"
            refine ⟨_, _, rfl, ?_⟩
            generalize (if ((ivs (s.shelf ++ [h])).length : Int) > pk3 then ((ivs (s.shelf ++ [h])).length : Int) else pk3) = pk4
            walk_at "rd"
            have e3 : putF "peak" (.int pk4) (A.fs B pk3) = A.fs B pk4 := rfl
            rw [e3]
            have w4 := w3.peak pk4
            generalize upd H3 A.u (.ins (C_Unwinding K) A.dx (A.fs B pk4)) = H4 at w4 ⊢
            obtain ⟨pk5, t04⟩ := w4.at0
            have t54 : H4 A.sh = some (.lst (ivs (s.shelf ++ [h]))) := w4.at5
            obtain ⟨es4, t64, hes4⟩ := w4.at6
            walk_at "rd"
            rename_i p5 hp5
            have t6p5 := upd_fr (o := .tup [.str "shelve", .int (h : Nat), .int ((ivs (s.shelf ++ [h])).length : Nat)]) t64 hp5
            refine rd_append t6p5 ?_ ?_
            · rw [hes4.1]
              show (s.evs ++ [some (h, t)]).length < sizeLine
              simp
              exact Nat.lt_of_le_of_lt (show s.evs.length + 1 ≤ 200000 by have := hbig.1; unfold big at this; omega) (by decide)
            have w5 := (w4.more (Ex.new (o := .tup [.str "shelve", .int (h : Nat), .int ((ivs (s.shelf ++ [h])).length : Nat)]) hp5)).addEv t6p5 (v := .ref p5) (e := none) ⟨p5, "shelve", _, rfl, upd_same, by decide⟩
            exact q _ w5
      · cases hrel
    · cases hrel
theorem ok_destroy_of (T : Tx K mg) (f : Nat) (ok_Unwinding_release : Tx K mg → FnOk P w K mg base CX0 (2 * f + 2) (a_Unwinding_release K) (fd_Unwinding_release K) ["self", "holder", "slot", "node", "depth"] (sp_Unwinding_release K f)) :
    FnOk P w K mg base CX0 (2 * (f + 1) + 1) (a_Unwinding_destroy K) (fd_Unwinding_destroy K) ["self", "node", "depth"] (sp_Unwinding_destroy K (f + 1)) := by
  refine FunD.ok T.f_Unwinding_destroy sc_Unwinding_destroy (fun vs H Q E h => match vs, h with | [_, _, _], _ => rfl) (fun cdv A0 outer s0 H vs Q E hr h => ⟨_, PSs.nox (pss_cons (ps_expr (pe_bm PySem.F.plainAttrs_list PySem.F.slot_list_append PySem.F.type_list_append mt_append (pe_fld (pv 0) rfl) (pa_cons (pv 1) pa_nil)))
      (pss_cons (ps_expr (pe_bm PySem.F.plainAttrs_list PySem.F.slot_list_append PySem.F.type_list_append mt_append (pe_fld (pv 0) rfl) (pa_cons (pe_tup (pa_cons pe_str (pa_cons (pv 1) (pa_cons (pv 2) pa_nil)))) pa_nil)))
      (pss_cons (ps_set (i := 3) sc_Unwinding_destroy.nd rfl (Or.inl rfl) (pe_ix (ixL (K := K)) (pe_fld (pv 0) rfl) (pv 1) (fun _ _ => rfl)))
      (pss_cons (ps_for PassesOwn.never rfl (pi_range1 (by rfl) T.z_range (pa_cons (pe_callB (cLen (K := K)) (by rfl) T.z_len (by decide +kernel) (pa_cons (pv 3) pa_nil)) pa_nil)) (pg_name (i := 4) sc_Unwinding_destroy.nd rfl (Or.inl rfl) (by exact Or.inl rfl)) (pss_cons (ps_set (i := 5) sc_Unwinding_destroy.nd rfl (Or.inl rfl) (pe_ix (ixL (K := K)) (pv 3) (pv 4) (fun _ _ => rfl)))
      (pss_cons (ps_asg pe_non (pg_sub (pv 3) (pv 4) set_list))
      (pss_one (ps_if (pt_cmpR op_notN (pv 5) pe_non (nomark _)) (pss_one (ps_expr (pe_meth (pv 0) T.c_Unwinding T.t_Unwinding_release (ok_Unwinding_release T) (hr.mono (by omega)) T.b_Unwinding_release .nil pass0 (pa_cons (pv 1) (pa_cons (pv 4) (pa_cons (pv 5) (pa_cons (pe_op op_add (pv 2) pe_int) pa_nil))))))) pss_nil)))))
      (pss_one (ps_asg pe_non (pg_sub (pe_fld (pv 0) rfl) (pv 1) set_list))))))), ?_⟩)
  match vs, h with
  | [v0, v1, v2], h =>
    obtain ⟨H0, A, B, s, v, d, s', rfl, rfl, rfl, w, hdes, q⟩ := h
    obtain ⟨pk, t0⟩ := w.at0
    have t4 := w.at4
    unfold des at hdes
    split at hdes
    · rename_i xs hxs
      split at hdes
      · rename_i hbig
        have t7 := w.at7 v xs hxs
        walk_at "rd"
        refine rd_append t4 (by rw [ivs_len]; exact big_lt hbig.2) ?_
        have e2 : ivs s.log ++ [V.int (v : Nat)] = ivs (s.log ++ [v]) := by rw [ivs_app]; rfl
        rw [e2]
        have w1 := w.setLog (s.log ++ [v])
        generalize upd H A.lg (.lst (ivs (s.log ++ [v]))) = H1 at w1 ⊢
        obtain ⟨pk1, t01⟩ := w1.at0
        obtain ⟨es, t6, hes⟩ := w1.at6
        walk_at "rd"
        rename_i p hp
        have t6p := upd_fr (o := .tup [.str "destroy", .int (v : Nat), .int (d : Nat)]) t6 hp
        refine rd_append t6p (by rw [hes.1]; exact big_lt hbig.1) ?_
        have w2 := (w1.more (Ex.new (o := .tup [.str "destroy", .int (v : Nat), .int (d : Nat)]) hp)).addEv t6p (v := .ref p) (e := none) ⟨p, "destroy", _, rfl, upd_same, by decide⟩
        generalize upd (upd H1 p (.tup [.str "destroy", .int (v : Nat), .int (d : Nat)])) A.ev (.lst (es ++ [.ref p])) = H2 at w2 ⊢
        obtain ⟨pk2, t02⟩ := w2.at0
        have t12 : H2 A.rws = some (.lst (s.rows.mapIdx A.rowV)) := w2.at1
        have hrv : (s.rows.mapIdx A.rowV)[v]? = some (.ref (A.row v)) := mapIdx_get (A := A) hxs
        have t72 := w2.at7 v xs hxs
        obtain ⟨s2, hs2, hend⟩ := Option.bind_eq_some_iff.mp hdes
        split at hend
        · rename_i hv2
          cases hend
          have hnn : xs.length ≤ 2 ^ 24 ∨ True := Or.inr trivial
          walk_at "rd"
          refine rd_rng1 ?_ ?_
          · have := w.row_small hxs
            rw [List.length_map]
            omega
          refine for_it walk_rng (fun i σ H' => (∃ x y, σ = [some (.ref A.u), some (.int (v : Nat)), some (.int (d : Nat)), some (.ref (A.row v)), x, y]) ∧ ∃ si, UW K H0 A B H' si ∧ slotsL (rel B (des B f)) v d (xs.length - i) i si = some s2)
            ⟨⟨_, _, rfl⟩, _, w2, hs2⟩ (fun _ _ _ _ _ => trivial) ?_ ?_
          · rintro i x _ _ H3 hi ⟨⟨x1, y1, rfl⟩, si, w3, hsi⟩ ⟨rfl, rfl⟩
            rw [List.length_map] at hi
            obtain ⟨k, hk⟩ : ∃ k, xs.length - i = k + 1 := ⟨xs.length - i - 1, by omega⟩
            have hk2 : xs.length - (i + 1) = k := by omega
            rw [hk] at hsi
            unfold slotsL at hsi
            split at hsi
            · rename_i ys hys
              have t73 := w3.at7 v ys hys
              split at hsi
              · rename_i he
                have he2 := ents_get he
                have hil := (List.getElem?_eq_some_iff.mp he).1
                walk_at "rd"
                refine rd_setL (n := i) t73 (by simpa using hil) ?_
                have e3 : (ys.map ent).set i V.non = (ys.set i none).map ent := by rw [List.map_set]
                rw [e3]
                have w4 := w3.setRow (ys := ys.set i none) hys (by simp)
                generalize upd H3 (A.row v) (.lst ((ys.set i none).map ent)) = H4 at w4 ⊢
                walk_at "rd"
                rw [hk2]
                exact ⟨⟨_, _, rfl⟩, _, w4, hsi⟩
              · rename_i h he
                have he2 := ents_get he
                have hil := (List.getElem?_eq_some_iff.mp he).1
                walk_at "rd"
                refine rd_setL (n := i) t73 (by simpa using hil) ?_
                have e3 : (ys.map ent).set i V.non = (ys.set i none).map ent := by rw [List.map_set]
                rw [e3]
                have w4 := w3.setRow (ys := ys.set i none) hys (by simp)
                generalize upd H3 (A.row v) (.lst ((ys.set i none).map ent)) = H4 at w4 ⊢
                obtain ⟨pk4, t04⟩ := w4.at0
                obtain ⟨sj, hsj, hrest⟩ := Option.bind_eq_some_iff.mp hsi
                walk_at "rd"
                refine Exists.intro H0 ⟨A, B, _, h, d + 1, sj, rfl, rfl, rfl, w4, hsj, fun H5 w5 => ?_⟩
                walk_at "rd"
                rw [hk2]
                exact ⟨⟨_, _, rfl⟩, _, w5, hrest⟩
              · cases hsi
            · cases hsi
          · rintro σ H3 ⟨⟨x1, y1, rfl⟩, si, w3, hsi⟩
            rw [List.length_map, Nat.sub_self] at hsi
            cases hsi
            obtain ⟨pk3, t03⟩ := w3.at0
            have t13 := w3.at1
            walk_at "rd"
            refine rd_setL t13 (by simpa using hv2) ?_
            exact q _ (w3.noRow hv2)
        · cases hend
      · cases hdes
    · cases hdes
theorem ok_destroy_zero (T : Tx K mg) : FnOk P w K mg base CX0 (2 * 0 + 1) (a_Unwinding_destroy K) (fd_Unwinding_destroy K) ["self", "node", "depth"] (sp_Unwinding_destroy K 0) := by
  refine FunD.ok T.f_Unwinding_destroy sc_Unwinding_destroy (fun vs H Q E h => match vs, h with | [_, _, _], _ => rfl) (fun cdv A0 outer s0 H vs Q E hr h => ⟨_, PSs.nox pss_never, ?_⟩)
  match vs, h with
  | [v0, v1, v2], h =>
    obtain ⟨H0, A, B, s, v, d, s', rfl, rfl, rfl, w, hdes, q⟩ := h
    cases hdes
theorem okf_destroy (T : Tx K mg) : ∀ f : Nat, FnOk P w K mg base CX0 (2 * f + 1) (a_Unwinding_destroy K) (fd_Unwinding_destroy K) ["self", "node", "depth"] (sp_Unwinding_destroy K f)
  | 0 => ok_destroy_zero T
  | f + 1 => ok_destroy_of T f fun T => ok_release_of T f fun T => okf_destroy T f
theorem ok_Unwinding_destroy (T : Tx K mg) : FnOk P w K mg base CX0 83 (a_Unwinding_destroy K) (fd_Unwinding_destroy K) ["self", "node", "depth"] (sp_Unwinding_destroy K F0) := okf_destroy T F0
theorem ok_Unwinding_release (T : Tx K mg) : FnOk P w K mg base CX0 84 (a_Unwinding_release K) (fd_Unwinding_release K) ["self", "holder", "slot", "node", "depth"] (sp_Unwinding_release K F0) :=
  ok_release_of T F0 fun T => okf_destroy T F0
end
end Sf
/-! machine: the rest of Unwinding -/
namespace Sf
open PySem PySem.Spec PyProof.Rows L2 Evl
local macro_rules | `(tactic| walk_at "hx") => `(tactic| first | assumption | exact upd_same | (with_reducible refine upd_fr ?_ (by assumption); walk_at "hx") | (refine ex_get (by assumption) ?_; walk_at "hx"))
local macro_rules | `(tactic| walk_at "ex") => `(tactic| first | assumption | exact Ex.refl _ | (with_reducible refine ex_new ?_ (by assumption); walk_at "ex") | (refine Ex.trans ?_ (by assumption); walk_at "ex"))
local macro_rules | `(tactic| walk_at "sqT") => `(tactic| first | (with_reducible assumption) | exact st_of (by walk_at "hx"))
local macro_rules | `(tactic| walk_at "sqL") => `(tactic| first | (with_reducible assumption) | exact sq_of (by walk_at "hx"))
local macro_rules | `(tactic| walk_at "sq") => `(tactic| first | (with_reducible assumption) | exact st_of (by walk_at "hx") | exact sq_of (by walk_at "hx"))
local macro_rules | `(tactic| walk_at "ty") => `(tactic| first | exact TyX.base (.int _) | exact TyX.base .non | exact TyX.base (.bl _) | exact TyX.base (.str _) | exact TyX.base (.tup (by walk_at "hx")) | exact TyX.base (.lst (by walk_at "hx")))
local macro_rules | `(tactic| walk_at "rd1") => `(tactic| first
  | with_reducible refine rd_seq ?_
  | ((with_reducible refine' rd_var ?h ?_); (case h => exact rfl))
  | with_reducible refine rd_c ?_
  | with_reducible refine rd_op ?_
  | with_reducible refine rd_un ?_
  | with_reducible refine rd_CB ?_
  | with_reducible refine rd_call ?_
  | with_reducible refine rd_cons ?_
  | with_reducible refine rd_nil ?_
  | with_reducible refine rd_I0 ?_
  | with_reducible refine rd_U ?_
  | with_reducible refine rd_ret ?_
  | with_reducible refine rd_retN ?_
  | with_reducible refine rd_next ?_
  | with_reducible refine rd_asg ?_
  | with_reducible refine rd_gName ?_
  | with_reducible refine rd_drop ?_
  | with_reducible refine rd_ifS ?_
  | with_reducible refine rd_test ?_
  | with_reducible refine rd_B ?_
  | with_reducible refine rd_notT ?_
  | with_reducible refine rd_andT ?_
  | with_reducible refine rd_orT ?_
  | with_reducible refine rd_andV ?_
  | with_reducible refine rd_orV ?_
  | with_reducible refine rd_notV ?_
  | with_reducible refine rd_ifE ?_
  | with_reducible refine rd_chain ?_
  | with_reducible refine rd_tup ?_
  | with_reducible refine rd_lst ?_
  | with_reducible refine rd_k ?_
  | with_reducible refine rd_eqS rfl ?_
  | with_reducible refine rd_neS rfl ?_
  | ((with_reducible refine rd_and (small40 (Nat.le_of_ble_eq_true rfl)) ?_); intro _ _)
  | (with_reducible refine' rd_isiT2 (k := "tuple") ?ty ?hx kb_tl kb_tt ?_; (case ty => walk_at "ty"); (case hx => walk_at "hx"))
  | with_reducible refine us_is_integer ?_
  | with_reducible refine us_is_between ?_
  | ((with_reducible refine' rd_ixT0 ?sq ?g ?_); (case sq => walk_at "sqT"); (case g => first | exact rfl | assumption))
  | ((with_reducible refine' rd_ixT1 ?sq ?g ?_); (case sq => walk_at "sqT"); (case g => first | exact rfl | assumption))
  | ((with_reducible refine' rd_ixT2 ?sq ?g ?_); (case sq => walk_at "sqT"); (case g => first | exact rfl | assumption))
  | ((with_reducible refine' rd_ixT3 ?sq ?g ?_); (case sq => walk_at "sqT"); (case g => first | exact rfl | assumption))
  | ((with_reducible refine' rd_ixT4 ?sq ?g ?_); (case sq => walk_at "sqT"); (case g => first | exact rfl | assumption))
  | ((with_reducible refine' rd_ixL0 ?sq ?g ?_); (case sq => walk_at "sqL"); (case g => first | exact rfl | assumption))
  | ((with_reducible refine' rd_ixL1 ?sq ?g ?_); (case sq => walk_at "sqL"); (case g => first | exact rfl | assumption))
  | ((with_reducible refine' rd_ixL2 ?sq ?g ?_); (case sq => walk_at "sqL"); (case g => first | exact rfl | assumption))
  | ((with_reducible refine' rd_ixT ?sq ?g ?_); (case sq => walk_at "sqT"); (case g => first | assumption | exact rfl))
  | ((with_reducible refine' rd_ixL ?sq ?g ?_); (case sq => walk_at "sqL"); (case g => first | assumption | exact rfl))
  | with_reducible refine rd_sl ?_
  | with_reducible refine rd_noPart ?_
  | with_reducible refine rd_part ?_
  | with_reducible refine rd_pt1 ?_
  | with_reducible refine rd_make ?_
  | with_reducible refine rd_callN ?_
  | with_reducible refine rd_makeN ?_
  | with_reducible refine rd_revT ?_
  | with_reducible refine rd_dc ?_
  | with_reducible refine rd_notinD ?_
  | with_reducible refine rd_inD ?_
  | with_reducible refine rd_dget ?_
  | with_reducible refine rd_dput ?_
  | ((with_reducible refine' rd_fld1 ?h ?c ?n ?l ?_); (case h => walk_at "hx"); (case c => first | exact Tx.c_Unwinding (by assumption) | exact Tx.c_Store (by assumption)); (case n => first | exact Tx.n_Unwinding_rows (by assumption) | exact Tx.n_Unwinding_references (by assumption) | exact Tx.n_Unwinding_tallies (by assumption) | exact Tx.n_Unwinding_bound (by assumption) | exact Tx.n_Unwinding_log (by assumption) | exact Tx.n_Unwinding_shelf (by assumption) | exact Tx.n_Unwinding_peak (by assumption) | exact Tx.n_Unwinding_events (by assumption) | exact Tx.n_Store_snapshots (by assumption) | exact Tx.n_Store_recorded (by assumption) | exact Tx.n_Store_observer (by assumption) | exact Tx.n_Store_is_busy (by assumption)); (case l => exact rfl))
  | ((with_reducible refine' rd_sFld1 ?h ?c ?n ?l ?_); (case h => walk_at "hx"); (case c => first | exact Tx.c_Unwinding (by assumption) | exact Tx.c_Store (by assumption)); (case n => first | exact Tx.n_Unwinding_rows (by assumption) | exact Tx.n_Unwinding_references (by assumption) | exact Tx.n_Unwinding_tallies (by assumption) | exact Tx.n_Unwinding_bound (by assumption) | exact Tx.n_Unwinding_log (by assumption) | exact Tx.n_Unwinding_shelf (by assumption) | exact Tx.n_Unwinding_peak (by assumption) | exact Tx.n_Unwinding_events (by assumption) | exact Tx.n_Store_snapshots (by assumption) | exact Tx.n_Store_recorded (by assumption) | exact Tx.n_Store_observer (by assumption) | exact Tx.n_Store_is_busy (by assumption)); (case l => exact Nat.le_of_ble_eq_true rfl))
  | ((with_reducible refine' rd_meth1 ?h ?l ?_); (case h => walk_at "hx"); (case l => exact rfl))
  | ((with_reducible refine' rd_and (rd_tyL ?h) ?_); (case h => walk_at "hx"))
  | ((with_reducible refine' rd_rng1 ?hn ?_); (case hn => first | omega | (simp; omega)))
  | with_reducible refine rd_nx ?_
  | with_reducible refine rd_rt ?_
  | with_reducible refine rd_ct ?_
  | with_reducible refine rd_bk ?_
  | ((with_reducible refine' rd_isi ?ty ?kb ?_); (case ty => walk_at "ty"); (case kb => first | exact kb_ii | exact kb_ib | exact kb_tt | exact kb_tl | exact kb_ss | exact kb_nt))
  | with_reducible refine rd_for ?_
  | with_reducible refine rd_iTup ?_
  | with_reducible refine rd_iList ?_
  | with_reducible refine rd_iRng1 ?_
  | with_reducible refine rd_iRng2 ?_
  | with_reducible refine rd_iEnumT ?_
  | with_reducible refine rd_iEnum ?_
  | with_reducible refine rd_lc ?_
  | with_reducible refine rd_yes ?_
  | ((with_reducible refine' rd_gTup ?sq ?n ?_); (case sq => walk_at "sqT"); (case n => exact rfl))
  | with_reducible refine rd_gCons ?_
  | with_reducible refine rd_gNil ?_
  | with_reducible refine rd_fld ?_
  | with_reducible refine rd_meth ?_
  | with_reducible refine rd_sFld ?_
  | with_reducible refine rd_BM ?_
  | with_reducible refine rd_BM0 ?_
  | ((with_reducible refine' rd_orRow ?h (by assumption) ?_); (case h => exact rfl))
  | with_reducible refine rd_augS ?_
  | with_reducible refine rd_ip ?_
  | with_reducible refine rd_gSub ?_
  | ((with_reducible refine' rd_aug ?h ?_); (case h => exact rfl))
  | with_reducible refine rd_par ?_
  | with_reducible refine rd_par1 ?_
  | ((with_reducible refine' rd_lenT ?sq ?_); (case sq => exact st_of (by walk_at "hx")))
  | ((with_reducible refine' rd_lenL ?sq ?_); (case sq => exact sq_of (by walk_at "hx")))
  | ((with_reducible refine' rd_itt ?sq ?_); (case sq => walk_at "sqT"))
  | ((with_reducible refine' rd_itl ?sq ?_); (case sq => walk_at "sqL"))
  | ((with_reducible refine' rd_enumT ?sq ?_); (case sq => walk_at "sqT"))
  | ((with_reducible refine' rd_enumL ?sq ?_); (case sq => walk_at "sqL"))
  | with_reducible refine rd_and rfl ?_
  | with_reducible refine if_t rfl ?_
  | with_reducible refine if_f rfl ?_)
local macro_rules | `(tactic| walk_at "rd") => `(tactic| repeat (walk_at "rd1"))
def sp_Unwinding_unwind (K : PySem.W.Frag) : Sp := fun vs H Q _ => match vs with
  | [x, _, _, y] => ∃ H0 A B s h s', x = .ref (UA.u A) ∧ y = .int ((h : Nat) : Int) ∧ UW K H0 A B H s ∧ unw B s h = some s' ∧ ∀ H', UW K H0 A B H' s' → Q .non H'
  | _ => False
def sp_Unwinding_drop_outside (K : PySem.W.Frag) : Sp := fun vs H Q _ => match vs with
  | [x, y] => ∃ H0 A B s h s', x = .ref (UA.u A) ∧ y = .int ((h : Nat) : Int) ∧ UW K H0 A B H s ∧ dropO B s h = some s' ∧ ∀ H', UW K H0 A B H' s' → Q .non H'
  | _ => False
def sp_Unwinding_fill (K : PySem.W.Frag) : Sp := fun vs H Q _ => match vs with
  | [x, y, z, t] => ∃ H0 A B s v i g s', x = .ref (UA.u A) ∧ y = .int ((v : Nat) : Int) ∧ z = .int ((i : Nat) : Int) ∧ t = ent g ∧ UW K H0 A B H s ∧ fillS B s v i g = some s' ∧ ∀ H', UW K H0 A B H' s' → Q .non H'
  | _ => False
def sp_Unwinding_strip (K : PySem.W.Frag) : Sp := fun vs H Q _ => match vs with
  | [x, y] => ∃ H0 A B s v s', x = .ref (UA.u A) ∧ y = .int ((v : Nat) : Int) ∧ UW K H0 A B H s ∧ strip B s v = some s' ∧ ∀ H', UW K H0 A B H' s' → Q .non H'
  | _ => False
section
variable {P : Program} {w : World} {K : PySem.W.Frag} {mg : Str → Option Value} {base : Heap}
theorem ok_Unwinding_unwind (T : Tx K mg) : FnOk P w K mg base CX0 85 (a_Unwinding_unwind K) (fd_Unwinding_unwind K) ["self", "holder", "slot", "node"] (sp_Unwinding_unwind K) := by
  refine FunD.ok T.f_Unwinding_unwind sc_Unwinding_unwind (fun vs H Q E h => match vs, h with | [_, _, _, _], _ => rfl) (fun cdv A outer s H vs Q E hr h => ⟨_, PSs.nox (pss_cons (ps_expr (pe_meth (pv 0) T.c_Unwinding T.t_Unwinding_release (ok_Unwinding_release T) (hr.mono (by omega)) T.b_Unwinding_release .nil pass0 (pa_cons (pv 1) (pa_cons (pv 2) (pa_cons (pv 3) (pa_cons pe_int pa_nil))))))
      (pss_one (ps_while PassesOwn.never (pt_cmpR (neD (K := K) hr.units) (pe_fld (pv 0) rfl) (pe_lst pa_nil) (nomark _)) (pss_cons (ps_set (i := 4) sc_Unwinding_unwind.nd rfl (Or.inl rfl) (pe_bm0 PySem.F.plainAttrs_list PySem.F.slot_list_pop PySem.F.type_list_pop mt_pop (pe_fld (pv 0) rfl)))
      (pss_cons (ps_expr (pe_bm PySem.F.plainAttrs_list PySem.F.slot_list_append PySem.F.type_list_append mt_append (pe_fld (pv 0) rfl) (pa_cons (pe_tup (pa_cons pe_str (pa_cons (pv 4) (pa_cons (pe_callB (cLen (K := K)) (by rfl) T.z_len (by decide +kernel) (pa_cons (pe_fld (pv 0) rfl) pa_nil)) pa_nil)))) pa_nil)))
      (pss_one (ps_expr (pe_meth (pv 0) T.c_Unwinding T.t_Unwinding_destroy (ok_Unwinding_destroy T) (hr.mono (by omega)) T.b_Unwinding_destroy .nil pass0 (pa_cons (pv 4) (pa_cons pe_int pa_nil)))))))))), ?_⟩)
  match vs, h with
  | [v0, v1, v2, v3], h =>
    obtain ⟨H0, A, B, s, h, s', rfl, rfl, w, hun, q⟩ := h
    obtain ⟨pk, t0⟩ := w.at0
    obtain ⟨s1, hs1, hdr⟩ := Option.bind_eq_some_iff.mp hun
    walk_at "rd"
    refine Exists.intro H0 ⟨A, B, s, h, 0, s1, rfl, rfl, rfl, w, hs1, fun H1 w1 => ?_⟩
    refine ⟨fun m σ H' => (∃ x, σ = [some (.ref A.u), some v1, some v2, some (.int (h : Nat)), x]) ∧ ∃ si, UW K H0 A B H' si ∧ drain B m si = some s', ⟨F0, ⟨_, rfl⟩, s1, w1, hdr⟩, ?_⟩
    rintro m σ H2 ⟨⟨x, rfl⟩, si, w2, hd2⟩
    obtain ⟨pk2, t02⟩ := w2.at0
    have t5 := w2.at5
    walk_at "rd"
    rename_i p hp
    refine rd_neL0 (by walk_at "hx") upd_same (at_ivs _) ?_
    rw [ivs_empty]
    have w3 := w2.more (Ex.new (o := .lst []) hp)
    generalize upd H2 p (.lst []) = H3 at w3 ⊢
    obtain ⟨pk3, t03⟩ := w3.at0
    have t53 := w3.at5
    walk_at "rd"
    refine if_b (fun he => ?_) (fun he => ?_)
    · cases m with
      | zero =>
        unfold drain at hd2
        split at hd2
        · rename_i hnil
          rw [hnil] at he
          cases he
        · cases hd2
      | succ k =>
        unfold drain at hd2
        split at hd2
        · rename_i hl
          rw [List.getLast?_eq_none_iff.mp hl] at he
          cases he
        · rename_i t hl
          split at hd2
          · rename_i hbig
            refine ⟨fun σ H' => (∃ x, σ = [some (.ref A.u), some v1, some v2, some (.int (h : Nat)), x]) ∧ ∃ si, UW K H0 A B H' si ∧ drain B k si = some s', fun σ' H' z => ⟨k, by omega, z⟩, ?_⟩
            obtain ⟨sj, hsj, hrest⟩ := Option.bind_eq_some_iff.mp hd2
            walk_at "rd"
            refine rd_pop t53 (y := .int (t : Nat)) (by simp [ivs, hl]) ?_
            have e1 : (ivs si.shelf).dropLast = ivs si.shelf.dropLast := by simp [ivs, List.map_dropLast]
            rw [e1]
            have w4 := w3.setShelf si.shelf.dropLast
            generalize upd H3 A.sh (.lst (ivs si.shelf.dropLast)) = H4 at w4 ⊢
            obtain ⟨pk4, t04⟩ := w4.at0
            have t54 : H4 A.sh = some (.lst (ivs si.shelf.dropLast)) := w4.at5
            obtain ⟨es, t64, hes⟩ := w4.at6
            walk_at "rd"
            rename_i p5 hp5
            have t65 := upd_fr (o := .tup [.str "take", .int (t : Nat), .int ((ivs si.shelf.dropLast).length : Nat)]) t64 hp5
            refine rd_append t65 (by rw [hes.1]; exact big_lt hbig) ?_
            have w5 := (w4.more (Ex.new (o := .tup [.str "take", .int (t : Nat), .int ((ivs si.shelf.dropLast).length : Nat)]) hp5)).addEv t65 (v := .ref p5) (e := none) ⟨p5, "take", _, rfl, upd_same, by decide⟩
            generalize upd (upd H4 p5 (.tup [.str "take", .int (t : Nat), .int ((ivs si.shelf.dropLast).length : Nat)])) A.ev (.lst (es ++ [.ref p5])) = H5 at w5 ⊢
            obtain ⟨pk5, t05⟩ := w5.at0
            walk_at "rd"
            refine Exists.intro H0 ⟨A, B, _, t, 0, sj, rfl, rfl, rfl, w5, hsj, fun H6 w6 => ?_⟩
            exact ⟨⟨_, rfl⟩, sj, w6, hrest⟩
          · cases hd2
    · have hnil : si.shelf = [] := by
        cases hsh : si.shelf with
        | nil => rfl
        | cons a b =>
          rw [hsh] at he
          cases he
      have e : si = s' := by
        cases m with
        | zero =>
          unfold drain at hd2
          rw [if_pos hnil] at hd2
          exact Option.some.inj hd2
        | succ k =>
          unfold drain at hd2
          rw [hnil] at hd2
          exact Option.some.inj hd2
      rw [← e] at q
      exact q H3 w3
theorem ok_Unwinding_drop_outside (T : Tx K mg) : FnOk P w K mg base CX0 86 (a_Unwinding_drop_outside K) (fd_Unwinding_drop_outside K) ["self", "node"] (sp_Unwinding_drop_outside K) := by
  refine FunD.ok T.f_Unwinding_drop_outside sc_Unwinding_drop_outside (fun vs H Q E h => match vs, h with | [_, _], _ => rfl) (fun cdv A outer s H vs Q E hr h => ⟨_, PSs.nox (pss_cons (ps_augS (pe_fld (pv 0) rfl) (pv 1) pget_list pe_int ip_sub set_list)
      (pss_one (ps_expr (pe_meth (pv 0) T.c_Unwinding T.t_Unwinding_unwind (ok_Unwinding_unwind T) (hr.mono (by omega)) T.b_Unwinding_unwind .nil pass0 (pa_cons pe_non (pa_cons pe_non (pa_cons (pv 1) pa_nil))))))), ?_⟩)
  match vs, h with
  | [v0, v1], h =>
    obtain ⟨H0, A, B, s, v, s', rfl, rfl, w, hun, q⟩ := h
    obtain ⟨pk, t0⟩ := w.at0
    have t2 := w.at2
    unfold dropO at hun
    split at hun
    · rename_i r hr2
      have hlt := (List.getElem?_eq_some_iff.mp hr2).1
      walk_at "rd"
      refine rd_getL (sq_of t2) (ivs_get hr2) ?_
      walk_at "rd"
      refine rd_setL t2 (by rw [ivs_len]; exact hlt) ?_
      have e1 : (((r + 1 : Nat) : Int)) - 1 = (r : Nat) := by omega
      rw [e1, set_ivs]
      have w1 := w.setRefs (s.refs.set v r)
      generalize upd H A.rfs (.lst (ivs (s.refs.set v r))) = H1 at w1 ⊢
      obtain ⟨pk1, t01⟩ := w1.at0
      walk_at "rd"
      exact Exists.intro H0 ⟨A, B, _, v, s', rfl, rfl, w1, hun, fun H2 w2 => q H2 w2⟩
    · cases hun
theorem ok_Unwinding_fill (T : Tx K mg) : FnOk P w K mg base CX0 86 (a_Unwinding_fill K) (fd_Unwinding_fill K) ["self", "node", "slot", "target"] (sp_Unwinding_fill K) := by
  refine FunD.ok T.f_Unwinding_fill sc_Unwinding_fill (fun vs H Q E h => match vs, h with | [_, _, _, _], _ => rfl) (fun cdv A outer s H vs Q E hr h => ⟨_, PSs.nox (pss_cons (ps_set (i := 4) sc_Unwinding_fill.nd rfl (Or.inl rfl) (pe_ix (ixL (K := K)) (pe_ix (ixL (K := K)) (pe_fld (pv 0) rfl) (pv 1) (fun _ _ => rfl)) (pv 2) (fun _ _ => rfl)))
      (pss_cons (ps_asg (pv 3) (pg_sub (pe_ix (ixL (K := K)) (pe_fld (pv 0) rfl) (pv 1) (fun _ _ => rfl)) (pv 2) set_list))
      (pss_cons (ps_if (pt_cmpR op_notN (pv 3) pe_non (nomark _)) (pss_one (ps_augS (pe_fld (pv 0) rfl) (pv 3) pget_list pe_int ip_add set_list)) pss_nil)
      (pss_one (ps_if (pt_cmpR op_notN (pv 4) pe_non (nomark _)) (pss_one (ps_expr (pe_meth (pv 0) T.c_Unwinding T.t_Unwinding_unwind (ok_Unwinding_unwind T) (hr.mono (by omega)) T.b_Unwinding_unwind .nil pass0 (pa_cons (pv 1) (pa_cons (pv 2) (pa_cons (pv 4) pa_nil)))))) pss_nil))))), ?_⟩)
  match vs, h with
  | [v0, v1, v2, v3], h =>
    obtain ⟨H0, A, B, s, v, i, g, s', rfl, rfl, rfl, rfl, w, hun, q⟩ := h
    obtain ⟨pk, t0⟩ := w.at0
    have t1 := w.at1
    unfold fillS at hun
    split at hun
    · rename_i xs hxs
      have t7 := w.at7 v xs hxs
      have hrv : (s.rows.mapIdx A.rowV)[v]? = some (.ref (A.row v)) := mapIdx_get (A := A) hxs
      split at hun
      · rename_i held hh
        have hh2 := ents_get hh
        have hil := (List.getElem?_eq_some_iff.mp hh).1
        obtain ⟨s2, hs2, hend⟩ := Option.bind_eq_some_iff.mp hun
        walk_at "rd"
        refine rd_setL t7 (by simpa using hil) ?_
        have e3 : (xs.map ent).set i (ent g) = (xs.set i g).map ent := by rw [List.map_set]
        rw [e3]
        have w4 := w.setRow (ys := xs.set i g) hxs (by simp)
        generalize upd H (A.row v) (.lst ((xs.set i g).map ent)) = H4 at w4 ⊢
        obtain ⟨pk4, t04⟩ := w4.at0
        have t34 := w4.at3
        have rest : ∀ H5, UW K H0 A B H5 s2 → ((ent held = .non → Q .non H5) ∧ (∀ h, held = some h → unw B s2 h = some s')) := by
          intro H5 w5
          refine ⟨fun e => ?_, fun h e => ?_⟩
          · cases held with
            | none =>
              cases hend
              exact q _ w5
            | some h => cases e
          · subst e
            exact hend
        cases g with
        | none =>
          cases hs2
          walk_at "rd"
          cases held with
          | none =>
            walk_at "rd"
            exact (rest H4 w4).1 rfl
          | some h =>
            walk_at "rd"
            exact Exists.intro H0 ⟨A, B, _, h, s', rfl, rfl, w4, (rest H4 w4).2 h rfl, fun H2 w2 => q H2 w2⟩
        | some t =>
          dsimp only [Un.aim] at hs2
          split at hs2
          · rename_i k hk
            have hlt := (List.getElem?_eq_some_iff.mp hk).1
            cases hs2
            walk_at "rd"
            refine rd_getL (sq_of t34) (ivs_get hk) ?_
            walk_at "rd"
            refine rd_setL t34 (by rw [ivs_len]; exact hlt) ?_
            have e1 : ((k : Nat) : Int) + 1 = (k + 1 : Nat) := by omega
            rw [e1, set_ivs]
            have w5 := w4.setTal ((s.setR v (some (xs.set i (some t)))).tal.set t (k + 1))
            generalize upd H4 A.tl (.lst (ivs ((s.setR v (some (xs.set i (some t)))).tal.set t (k + 1)))) = H5 at w5 ⊢
            obtain ⟨pk5, t05⟩ := w5.at0
            walk_at "rd"
            cases held with
            | none =>
              walk_at "rd"
              exact (rest H5 w5).1 rfl
            | some h =>
              walk_at "rd"
              exact Exists.intro H0 ⟨A, B, _, h, s', rfl, rfl, w5, (rest H5 w5).2 h rfl, fun H2 w2 => q H2 w2⟩
          · cases hs2
      · cases hun
    · cases hun
end
end Sf
/-! machine: strip, heap, result, __init__ -/
namespace Sf
open PySem PySem.Spec PyProof.Rows L2 Evl
local macro_rules | `(tactic| walk_at "hx") => `(tactic| first | assumption | exact upd_same | (with_reducible refine upd_fr ?_ (by assumption); walk_at "hx") | (refine ex_get (by assumption) ?_; walk_at "hx"))
local macro_rules | `(tactic| walk_at "ex") => `(tactic| first | assumption | exact Ex.refl _ | (with_reducible refine ex_new ?_ (by assumption); walk_at "ex") | (refine Ex.trans ?_ (by assumption); walk_at "ex"))
local macro_rules | `(tactic| walk_at "sqT") => `(tactic| first | (with_reducible assumption) | exact st_of (by walk_at "hx"))
local macro_rules | `(tactic| walk_at "sqL") => `(tactic| first | (with_reducible assumption) | exact sq_of (by walk_at "hx"))
local macro_rules | `(tactic| walk_at "sq") => `(tactic| first | (with_reducible assumption) | exact st_of (by walk_at "hx") | exact sq_of (by walk_at "hx"))
local macro_rules | `(tactic| walk_at "ty") => `(tactic| first | exact TyX.base (.int _) | exact TyX.base .non | exact TyX.base (.bl _) | exact TyX.base (.str _) | exact TyX.base (.tup (by walk_at "hx")) | exact TyX.base (.lst (by walk_at "hx")))
local macro_rules | `(tactic| walk_at "rd1") => `(tactic| first
  | with_reducible refine rd_seq ?_
  | ((with_reducible refine' rd_var ?h ?_); (case h => exact rfl))
  | with_reducible refine rd_c ?_
  | with_reducible refine rd_op ?_
  | with_reducible refine rd_un ?_
  | with_reducible refine rd_CB ?_
  | with_reducible refine rd_call ?_
  | with_reducible refine rd_cons ?_
  | with_reducible refine rd_nil ?_
  | with_reducible refine rd_I0 ?_
  | with_reducible refine rd_U ?_
  | with_reducible refine rd_ret ?_
  | with_reducible refine rd_retN ?_
  | with_reducible refine rd_next ?_
  | with_reducible refine rd_asg ?_
  | with_reducible refine rd_gName ?_
  | with_reducible refine rd_drop ?_
  | with_reducible refine rd_ifS ?_
  | with_reducible refine rd_test ?_
  | with_reducible refine rd_B ?_
  | with_reducible refine rd_notT ?_
  | with_reducible refine rd_andT ?_
  | with_reducible refine rd_orT ?_
  | with_reducible refine rd_andV ?_
  | with_reducible refine rd_orV ?_
  | with_reducible refine rd_notV ?_
  | with_reducible refine rd_ifE ?_
  | with_reducible refine rd_chain ?_
  | with_reducible refine rd_tup ?_
  | with_reducible refine rd_lst ?_
  | with_reducible refine rd_k ?_
  | with_reducible refine rd_eqS rfl ?_
  | with_reducible refine rd_neS rfl ?_
  | ((with_reducible refine rd_and (small40 (Nat.le_of_ble_eq_true rfl)) ?_); intro _ _)
  | (with_reducible refine' rd_isiT2 (k := "tuple") ?ty ?hx kb_tl kb_tt ?_; (case ty => walk_at "ty"); (case hx => walk_at "hx"))
  | with_reducible refine us_is_integer ?_
  | with_reducible refine us_is_between ?_
  | ((with_reducible refine' rd_ixT0 ?sq ?g ?_); (case sq => walk_at "sqT"); (case g => first | exact rfl | assumption))
  | ((with_reducible refine' rd_ixT1 ?sq ?g ?_); (case sq => walk_at "sqT"); (case g => first | exact rfl | assumption))
  | ((with_reducible refine' rd_ixT2 ?sq ?g ?_); (case sq => walk_at "sqT"); (case g => first | exact rfl | assumption))
  | ((with_reducible refine' rd_ixT3 ?sq ?g ?_); (case sq => walk_at "sqT"); (case g => first | exact rfl | assumption))
  | ((with_reducible refine' rd_ixT4 ?sq ?g ?_); (case sq => walk_at "sqT"); (case g => first | exact rfl | assumption))
  | ((with_reducible refine' rd_ixL0 ?sq ?g ?_); (case sq => walk_at "sqL"); (case g => first | exact rfl | assumption))
  | ((with_reducible refine' rd_ixL1 ?sq ?g ?_); (case sq => walk_at "sqL"); (case g => first | exact rfl | assumption))
  | ((with_reducible refine' rd_ixL2 ?sq ?g ?_); (case sq => walk_at "sqL"); (case g => first | exact rfl | assumption))
  | ((with_reducible refine' rd_ixT ?sq ?g ?_); (case sq => walk_at "sqT"); (case g => first | assumption | exact rfl))
  | ((with_reducible refine' rd_ixL ?sq ?g ?_); (case sq => walk_at "sqL"); (case g => first | assumption | exact rfl))
  | with_reducible refine rd_sl ?_
  | with_reducible refine rd_noPart ?_
  | with_reducible refine rd_part ?_
  | with_reducible refine rd_pt1 ?_
  | with_reducible refine rd_make ?_
  | with_reducible refine rd_callN ?_
  | with_reducible refine rd_makeN ?_
  | with_reducible refine rd_revT ?_
  | with_reducible refine rd_dc ?_
  | with_reducible refine rd_notinD ?_
  | with_reducible refine rd_inD ?_
  | with_reducible refine rd_dget ?_
  | with_reducible refine rd_dput ?_
  | ((with_reducible refine' rd_fld1 ?h ?c ?n ?l ?_); (case h => walk_at "hx"); (case c => first | exact Tx.c_Unwinding (by assumption) | exact Tx.c_Store (by assumption)); (case n => first | exact Tx.n_Unwinding_rows (by assumption) | exact Tx.n_Unwinding_references (by assumption) | exact Tx.n_Unwinding_tallies (by assumption) | exact Tx.n_Unwinding_bound (by assumption) | exact Tx.n_Unwinding_log (by assumption) | exact Tx.n_Unwinding_shelf (by assumption) | exact Tx.n_Unwinding_peak (by assumption) | exact Tx.n_Unwinding_events (by assumption) | exact Tx.n_Store_snapshots (by assumption) | exact Tx.n_Store_recorded (by assumption) | exact Tx.n_Store_observer (by assumption) | exact Tx.n_Store_is_busy (by assumption)); (case l => exact rfl))
  | ((with_reducible refine' rd_sFld1 ?h ?c ?n ?l ?_); (case h => walk_at "hx"); (case c => first | exact Tx.c_Unwinding (by assumption) | exact Tx.c_Store (by assumption)); (case n => first | exact Tx.n_Unwinding_rows (by assumption) | exact Tx.n_Unwinding_references (by assumption) | exact Tx.n_Unwinding_tallies (by assumption) | exact Tx.n_Unwinding_bound (by assumption) | exact Tx.n_Unwinding_log (by assumption) | exact Tx.n_Unwinding_shelf (by assumption) | exact Tx.n_Unwinding_peak (by assumption) | exact Tx.n_Unwinding_events (by assumption) | exact Tx.n_Store_snapshots (by assumption) | exact Tx.n_Store_recorded (by assumption) | exact Tx.n_Store_observer (by assumption) | exact Tx.n_Store_is_busy (by assumption)); (case l => exact Nat.le_of_ble_eq_true rfl))
  | ((with_reducible refine' rd_meth1 ?h ?l ?_); (case h => walk_at "hx"); (case l => exact rfl))
  | ((with_reducible refine' rd_and (rd_tyL ?h) ?_); (case h => walk_at "hx"))
  | ((with_reducible refine' rd_rng1 ?hn ?_); (case hn => first | omega | (simp; omega)))
  | with_reducible refine rd_nx ?_
  | with_reducible refine rd_rt ?_
  | with_reducible refine rd_ct ?_
  | with_reducible refine rd_bk ?_
  | ((with_reducible refine' rd_isi ?ty ?kb ?_); (case ty => walk_at "ty"); (case kb => first | exact kb_ii | exact kb_ib | exact kb_tt | exact kb_tl | exact kb_ss | exact kb_nt))
  | with_reducible refine rd_for ?_
  | with_reducible refine rd_iTup ?_
  | with_reducible refine rd_iList ?_
  | with_reducible refine rd_iRng1 ?_
  | with_reducible refine rd_iRng2 ?_
  | with_reducible refine rd_iEnumT ?_
  | with_reducible refine rd_iEnum ?_
  | with_reducible refine rd_lc ?_
  | with_reducible refine rd_yes ?_
  | ((with_reducible refine' rd_gTup ?sq ?n ?_); (case sq => walk_at "sqT"); (case n => exact rfl))
  | with_reducible refine rd_gCons ?_
  | with_reducible refine rd_gNil ?_
  | with_reducible refine rd_fld ?_
  | with_reducible refine rd_meth ?_
  | with_reducible refine rd_sFld ?_
  | with_reducible refine rd_BM ?_
  | with_reducible refine rd_BM0 ?_
  | ((with_reducible refine' rd_orRow ?h (by assumption) ?_); (case h => exact rfl))
  | with_reducible refine rd_augS ?_
  | with_reducible refine rd_ip ?_
  | with_reducible refine rd_gSub ?_
  | ((with_reducible refine' rd_aug ?h ?_); (case h => exact rfl))
  | with_reducible refine rd_par ?_
  | with_reducible refine rd_par1 ?_
  | ((with_reducible refine' rd_lenT ?sq ?_); (case sq => exact st_of (by walk_at "hx")))
  | ((with_reducible refine' rd_lenL ?sq ?_); (case sq => exact sq_of (by walk_at "hx")))
  | ((with_reducible refine' rd_itt ?sq ?_); (case sq => walk_at "sqT"))
  | ((with_reducible refine' rd_itl ?sq ?_); (case sq => walk_at "sqL"))
  | ((with_reducible refine' rd_enumT ?sq ?_); (case sq => walk_at "sqT"))
  | ((with_reducible refine' rd_enumL ?sq ?_); (case sq => walk_at "sqL"))
  | with_reducible refine rd_and rfl ?_
  | with_reducible refine if_t rfl ?_
  | with_reducible refine if_f rfl ?_)
local macro_rules | `(tactic| walk_at "rd") => `(tactic| repeat (walk_at "rd1"))
theorem RowV.tk {H H1 : Hp} {v : V} (e : TupK H H1) : ∀ {r : Row}, RowV H v r → RowV H1 v r
  | none, h => h
  | some _, ⟨a, h1, h2⟩ => ⟨a, h1, e _ _ h2⟩
theorem RowsV.tk {H H1 : Hp} {vs : List V} {rs : List Row} (e : TupK H H1) (h : RowsV H vs rs) : RowsV H1 vs rs := ⟨h.1, fun i r hi => let ⟨v, h1, h2⟩ := h.2 i r hi; ⟨v, h1, h2.tk e⟩⟩
theorem RowsV.add {H : Hp} {vs : List V} {rs : List Row} {i : Nat} {v : V} {r : Row} (h : RowsV H vs (rs.take i)) (hr : rs[i]? = some r) (hv : RowV H v r) : RowsV H (vs ++ [v]) (rs.take (i + 1)) := by
  have hlt := (List.getElem?_eq_some_iff.mp hr).1
  have hl : vs.length = i := by rw [h.1, List.length_take]; omega
  refine ⟨by rw [List.length_append, hl, List.length_take]; simp; omega, fun j r' hj => ?_⟩
  rw [List.getElem?_take] at hj
  split at hj
  · rename_i hji
    by_cases e : j < i
    · obtain ⟨v', h1, h2⟩ := h.2 j r' (by rw [List.getElem?_take, if_pos e]; exact hj)
      exact ⟨v', by rw [List.getElem?_append_left (by omega)]; exact h1, h2⟩
    · have e2 : j = i := by omega
      subst e2
      rw [hr] at hj
      cases hj
      exact ⟨v, by rw [List.getElem?_append_right (by omega), hl]; simp, hv⟩
  · cases hj
/-- what an unwinding gives -/
def ResV (H : Hp) (v : V) (log : List Nat) (hp : Hv) : Prop := ∃ t l pk h, v = .ref t ∧ H t = some (.tup [.ref l, .int pk, h]) ∧ H l = some (.tup (ivs log)) ∧ HeapV H h hp
def sp_Unwinding_heap (K : PySem.W.Frag) : Sp := fun vs H Q _ => match vs with
  | [x] => ∃ H0 A B s, x = .ref (UA.u A) ∧ UW K H0 A B H s ∧ s.rows.length ≤ 40 ∧ ∀ v H', Ex H H' → HeapV H' v s.heap → Q v H'
  | _ => False
def sp_Unwinding_result (K : PySem.W.Frag) : Sp := fun vs H Q _ => match vs with
  | [x] => ∃ H0 A B s, x = .ref (UA.u A) ∧ UW K H0 A B H s ∧ s.rows.length ≤ 40 ∧ ∀ v H', Ex H H' → ResV H' v s.log s.heap → Q v H'
  | _ => False
section
variable {P : Program} {w : World} {K : PySem.W.Frag} {mg : Str → Option Value} {base : Heap}
theorem ok_Unwinding_strip (T : Tx K mg) : FnOk P w K mg base CX0 87 (a_Unwinding_strip K) (fd_Unwinding_strip K) ["self", "node"] (sp_Unwinding_strip K) := by
  refine FunD.ok T.f_Unwinding_strip sc_Unwinding_strip (fun vs H Q E h => match vs, h with | [_, _], _ => rfl) (fun cdv A outer s H vs Q E hr h => ⟨_, PSs.nox (pss_cons (ps_augS (pe_fld (pv 0) rfl) (pv 1) pget_list pe_int ip_add set_list)
      (pss_cons (ps_for PassesOwn.never rfl (pi_range1 (by rfl) T.z_range (pa_cons (pe_callB (cLen (K := K)) (by rfl) T.z_len (by decide +kernel) (pa_cons (pe_ix (ixL (K := K)) (pe_fld (pv 0) rfl) (pv 1) (fun _ _ => rfl)) pa_nil)) pa_nil)) (pg_name (i := 2) sc_Unwinding_strip.nd rfl (Or.inl rfl) (by exact Or.inl rfl)) (pss_one (ps_expr (pe_meth (pv 0) T.c_Unwinding T.t_Unwinding_fill (ok_Unwinding_fill T) (hr.mono (by omega)) T.b_Unwinding_fill .nil pass0 (pa_cons (pv 1) (pa_cons (pv 2) (pa_cons pe_non pa_nil)))))))
      (pss_one (ps_expr (pe_meth (pv 0) T.c_Unwinding T.t_Unwinding_unwind (ok_Unwinding_unwind T) (hr.mono (by omega)) T.b_Unwinding_unwind .nil pass0 (pa_cons pe_non (pa_cons pe_non (pa_cons (pv 1) pa_nil)))))))), ?_⟩)
  match vs, h with
  | [v0, v1], h =>
    obtain ⟨H0, A, B, s, v, s', rfl, rfl, w, hun, q⟩ := h
    obtain ⟨pk, t0⟩ := w.at0
    have t3 := w.at3
    unfold strip at hun
    split at hun
    · rename_i k xs hk hxs
      have hlt := (List.getElem?_eq_some_iff.mp hk).1
      obtain ⟨s2, hs2, hend⟩ := Option.bind_eq_some_iff.mp hun
      have hsm := w.sz v xs hxs
      walk_at "rd"
      refine rd_getL (sq_of t3) (ivs_get hk) ?_
      walk_at "rd"
      refine rd_setL t3 (by rw [ivs_len]; exact hlt) ?_
      have e1 : ((k : Nat) : Int) + 1 = (k + 1 : Nat) := by omega
      rw [e1, set_ivs]
      have w1 := w.setTal (s.tal.set v (k + 1))
      generalize upd H A.tl (.lst (ivs (s.tal.set v (k + 1)))) = H1 at w1 ⊢
      obtain ⟨pk1, t01⟩ := w1.at0
      have t1 : H1 A.rws = some (.lst (s.rows.mapIdx A.rowV)) := w1.at1
      have hrv : (s.rows.mapIdx A.rowV)[v]? = some (.ref (A.row v)) := mapIdx_get (A := A) hxs
      have t7 := w1.at7 v xs hxs
      walk_at "rd"
      refine for_it walk_rng (fun i σ H' => (∃ x, σ = [some (.ref A.u), some (.int (v : Nat)), x]) ∧ ∃ si, UW K H0 A B H' si ∧ fills B v (xs.length - i) i si = some s2)
        ⟨⟨_, rfl⟩, _, w1, hs2⟩ (fun _ _ _ _ _ => trivial) ?_ ?_
      · rintro i x _ _ H3 hi ⟨⟨x1, rfl⟩, si, w3, hsi⟩ ⟨rfl, rfl⟩
        rw [List.length_map] at hi
        obtain ⟨k, hk⟩ : ∃ k, xs.length - i = k + 1 := ⟨xs.length - i - 1, by omega⟩
        have hk2 : xs.length - (i + 1) = k := by omega
        rw [hk] at hsi
        unfold fills at hsi
        obtain ⟨sj, hsj, hrest⟩ := Option.bind_eq_some_iff.mp hsi
        obtain ⟨pk3, t03⟩ := w3.at0
        walk_at "rd"
        refine Exists.intro H0 ⟨A, B, si, v, i, none, sj, rfl, rfl, rfl, rfl, w3, hsj, fun H4 w4 => ?_⟩
        rw [hk2]
        exact ⟨⟨_, rfl⟩, sj, w4, hrest⟩
      · rintro σ H3 ⟨⟨x1, rfl⟩, si, w3, hsi⟩
        rw [List.length_map, Nat.sub_self] at hsi
        cases hsi
        obtain ⟨pk3, t03⟩ := w3.at0
        walk_at "rd"
        exact Exists.intro H0 ⟨A, B, _, v, s', rfl, rfl, w3, hend, fun H4 w4 => q H4 w4⟩
    · cases hun
theorem ok_Unwinding_heap (T : Tx K mg) : FnOk P w K mg base CX0 1 (a_Unwinding_heap K) (fd_Unwinding_heap K) ["self"] (sp_Unwinding_heap K) := by
  refine FunD.ok T.f_Unwinding_heap sc_Unwinding_heap (fun vs H Q E h => match vs, h with | [_], _ => rfl) (fun cdv A outer s H vs Q E hr h => ⟨_, PSs.nox (pss_one (ps_ret (pe_tup (pa_cons (pe_callTy (cTuple (K := K)) (by rfl) T.z_tuple (by decide +kernel) (pa_cons (pe_lc rfl sc_Unwinding_heap.nd (pi_list (pe_fld (pv 0) rfl)) (blkOk_by (own := [("row", 1)]) (N := N_Unwinding_heap) (sc := defScope s_Unwinding_heap) (by decide +kernel)) (fun _ _ _ _ _ => (pg_name (i := 1) sc_Unwinding_heap.nd rfl (Or.inl rfl) (by exact Or.inr rfl))) (fun _ _ _ _ _ => pts_nil) (fun _ _ _ _ _ => (pe_ifExp (pt_cmpR op_isN (pv 1) pe_non (nomark _)) pe_non (pe_callTy (cTuple (K := K)) (by rfl) T.z_tuple (by decide +kernel) (pa_cons (pv 1) pa_nil))))) pa_nil)) (pa_cons (pe_callTy (cTuple (K := K)) (by rfl) T.z_tuple (by decide +kernel) (pa_cons (pe_fld (pv 0) rfl) pa_nil)) pa_nil))))), ?_⟩)
  match vs, h with
  | [v0], h =>
    obtain ⟨H0, A, B, s, rfl, w, h40, q⟩ := h
    obtain ⟨pk, t0⟩ := w.at0
    have t1 := w.at1
    have t2 := w.at2
    walk_at "rd"
    intro D hD
    refine lc_it (walk_list (xs := s.rows.mapIdx A.rowV)) (fun i H' => ∃ vs, Acc H D vs H' ∧ vs.length ≤ i ∧ RowsV H' vs (s.rows.take i)) ⟨[], Acc.new (Ex.refl H) hD, by simp, ⟨rfl, fun i r h => by simp at h⟩⟩ (fun i H' _ z => let ⟨_, z, _⟩ := z; sqL_ex z.2.1 t1) ?_ ?_
    · rintro i x _ H1 hi ⟨vs, acc, hvl, hvs⟩ ⟨rfl, hx⟩
      have hi2 : i < s.rows.length := by simpa using hi
      have hr := List.getElem?_eq_getElem hi2
      have hx2 := mapIdx_get (A := A) hr
      rw [hx2] at hx
      cases hx
      generalize s.rows[i] = r at hr hx2
      cases r with
      | none =>
        walk_at "rd"
        refine ⟨vs, acc.2.2, lt40 (by omega), _, acc.put, by simp; omega, ?_⟩
        exact (hvs.tk (.lst acc.2.2)).add hr rfl
      | some xs =>
        have t7 := acc.2.1 _ _ (w.at7 i xs hr)
        walk_at "rd"
        refine rd_tupleOfL (sq_of t7) fun p hp => ?_
        walk_at "rd"
        have acc2 := acc.ex (Ex.new (o := .tup (xs.map ent)) hp)
        refine ⟨vs, acc2.2.2, lt40 (by omega), _, acc2.put, by simp; omega, ?_⟩
        refine ((hvs.mono (Ex.new hp)).tk (.lst acc2.2.2)).add hr ⟨p, rfl, ?_⟩
        exact TupK.lst acc2.2.2 _ _ upd_same
    · rintro H1 ⟨vs, acc, hvl, hvs⟩
      walk_at "rd"
      refine rd_tupleOfL (sq_of acc.2.2) fun p hp => ?_
      have t22 := acc.2.1 _ _ t2
      have t02 := acc.2.1 _ _ t0
      walk_at "rd"
      refine rd_tupleOfL (sq_of (upd_fr t22 hp)) fun p2 hp2 => ?_
      walk_at "rd"
      rename_i p3 hp3
      have ex1 : Ex H1 (upd (upd H1 p (.tup vs)) p2 (.tup (ivs s.refs))) := by walk_at "ex"
      refine q _ _ ((acc.2.1.trans ex1).trans (Ex.new hp3)) ⟨p3, .ref p, .ref p2, rfl, upd_same, ⟨p, vs, rfl, upd_fr (upd_fr upd_same hp2) hp3, ?_⟩, ⟨p2, rfl, upd_fr upd_same hp3⟩⟩
      have e : s.rows.take (s.rows.mapIdx A.rowV).length = s.rows := by rw [List.length_mapIdx, List.take_length]
      rw [e] at hvs
      exact (hvs.mono ex1).mono (Ex.new hp3)
theorem ok_Unwinding_result (T : Tx K mg) : FnOk P w K mg base CX0 2 (a_Unwinding_result K) (fd_Unwinding_result K) ["self"] (sp_Unwinding_result K) := by
  refine FunD.ok T.f_Unwinding_result sc_Unwinding_result (fun vs H Q E h => match vs, h with | [_], _ => rfl) (fun cdv A outer s H vs Q E hr h => ⟨_, PSs.nox (pss_one (ps_ret (pe_tup (pa_cons (pe_callTy (cTuple (K := K)) (by rfl) T.z_tuple (by decide +kernel) (pa_cons (pe_fld (pv 0) rfl) pa_nil)) (pa_cons (pe_fld (pv 0) rfl) (pa_cons (pe_meth0 (pv 0) T.c_Unwinding T.t_Unwinding_heap (ok_Unwinding_heap T) (hr.mono (by omega)) T.b_Unwinding_heap .nil pass0) pa_nil)))))), ?_⟩)
  match vs, h with
  | [v0], h =>
    obtain ⟨H0, A, B, s, rfl, w, h40, q⟩ := h
    obtain ⟨pk, t0⟩ := w.at0
    have t4 := w.at4
    walk_at "rd"
    refine rd_tupleOfL (sq_of t4) fun p hp => ?_
    have w1 := w.more (Ex.new (o := .tup (ivs s.log)) hp)
    obtain ⟨pk1, t01⟩ := w1.at0
    walk_at "rd"
    refine Exists.intro H0 ⟨A, B, s, rfl, w1, h40, fun v H2 ex2 hv => ?_⟩
    walk_at "rd"
    rename_i p3 hp3
    exact q _ _ (((Ex.new hp).trans ex2).trans (Ex.new hp3)) ⟨p3, p, _, v, rfl, upd_same, upd_fr (ex2 _ _ upd_same) hp3, hv.mono (Ex.new hp3)⟩
end
end Sf
/-! machine: Unwinding(heap, limit) -/
namespace Sf
open PySem PySem.Spec PyProof.Rows L2 Evl
local macro_rules | `(tactic| walk_at "hx") => `(tactic| first | assumption | exact upd_same | (with_reducible refine upd_fr ?_ (by assumption); walk_at "hx") | (refine ex_get (by assumption) ?_; walk_at "hx"))
local macro_rules | `(tactic| walk_at "ex") => `(tactic| first | assumption | exact Ex.refl _ | (with_reducible refine ex_new ?_ (by assumption); walk_at "ex") | (refine Ex.trans ?_ (by assumption); walk_at "ex"))
local macro_rules | `(tactic| walk_at "sqT") => `(tactic| first | (with_reducible assumption) | exact st_of (by walk_at "hx"))
local macro_rules | `(tactic| walk_at "sqL") => `(tactic| first | (with_reducible assumption) | exact sq_of (by walk_at "hx"))
local macro_rules | `(tactic| walk_at "sq") => `(tactic| first | (with_reducible assumption) | exact st_of (by walk_at "hx") | exact sq_of (by walk_at "hx"))
local macro_rules | `(tactic| walk_at "ty") => `(tactic| first | exact TyX.base (.int _) | exact TyX.base .non | exact TyX.base (.bl _) | exact TyX.base (.str _) | exact TyX.base (.tup (by walk_at "hx")) | exact TyX.base (.lst (by walk_at "hx")))
local macro_rules | `(tactic| walk_at "rd1") => `(tactic| first
  | with_reducible refine rd_seq ?_
  | ((with_reducible refine' rd_var ?h ?_); (case h => exact rfl))
  | with_reducible refine rd_c ?_
  | with_reducible refine rd_op ?_
  | with_reducible refine rd_un ?_
  | with_reducible refine rd_CB ?_
  | with_reducible refine rd_call ?_
  | with_reducible refine rd_cons ?_
  | with_reducible refine rd_nil ?_
  | with_reducible refine rd_I0 ?_
  | with_reducible refine rd_U ?_
  | with_reducible refine rd_ret ?_
  | with_reducible refine rd_retN ?_
  | with_reducible refine rd_next ?_
  | with_reducible refine rd_asg ?_
  | with_reducible refine rd_gName ?_
  | with_reducible refine rd_drop ?_
  | with_reducible refine rd_ifS ?_
  | with_reducible refine rd_test ?_
  | with_reducible refine rd_B ?_
  | with_reducible refine rd_notT ?_
  | with_reducible refine rd_andT ?_
  | with_reducible refine rd_orT ?_
  | with_reducible refine rd_andV ?_
  | with_reducible refine rd_orV ?_
  | with_reducible refine rd_notV ?_
  | with_reducible refine rd_ifE ?_
  | with_reducible refine rd_chain ?_
  | with_reducible refine rd_tup ?_
  | with_reducible refine rd_lst ?_
  | with_reducible refine rd_k ?_
  | with_reducible refine rd_eqS rfl ?_
  | with_reducible refine rd_neS rfl ?_
  | ((with_reducible refine rd_and (small40 (Nat.le_of_ble_eq_true rfl)) ?_); intro _ _)
  | (with_reducible refine' rd_isiT2 (k := "tuple") ?ty ?hx kb_tl kb_tt ?_; (case ty => walk_at "ty"); (case hx => walk_at "hx"))
  | with_reducible refine us_is_integer ?_
  | with_reducible refine us_is_between ?_
  | ((with_reducible refine' rd_ixT0 ?sq ?g ?_); (case sq => walk_at "sqT"); (case g => first | exact rfl | assumption))
  | ((with_reducible refine' rd_ixT1 ?sq ?g ?_); (case sq => walk_at "sqT"); (case g => first | exact rfl | assumption))
  | ((with_reducible refine' rd_ixT2 ?sq ?g ?_); (case sq => walk_at "sqT"); (case g => first | exact rfl | assumption))
  | ((with_reducible refine' rd_ixT3 ?sq ?g ?_); (case sq => walk_at "sqT"); (case g => first | exact rfl | assumption))
  | ((with_reducible refine' rd_ixT4 ?sq ?g ?_); (case sq => walk_at "sqT"); (case g => first | exact rfl | assumption))
  | ((with_reducible refine' rd_ixL0 ?sq ?g ?_); (case sq => walk_at "sqL"); (case g => first | exact rfl | assumption))
  | ((with_reducible refine' rd_ixL1 ?sq ?g ?_); (case sq => walk_at "sqL"); (case g => first | exact rfl | assumption))
  | ((with_reducible refine' rd_ixL2 ?sq ?g ?_); (case sq => walk_at "sqL"); (case g => first | exact rfl | assumption))
  | ((with_reducible refine' rd_ixT ?sq ?g ?_); (case sq => walk_at "sqT"); (case g => first | assumption | exact rfl))
  | ((with_reducible refine' rd_ixL ?sq ?g ?_); (case sq => walk_at "sqL"); (case g => first | assumption | exact rfl))
  | with_reducible refine rd_sl ?_
  | with_reducible refine rd_noPart ?_
  | with_reducible refine rd_part ?_
  | with_reducible refine rd_pt1 ?_
  | with_reducible refine rd_make ?_
  | with_reducible refine rd_callN ?_
  | with_reducible refine rd_makeN ?_
  | with_reducible refine rd_revT ?_
  | with_reducible refine rd_dc ?_
  | with_reducible refine rd_notinD ?_
  | with_reducible refine rd_inD ?_
  | with_reducible refine rd_dget ?_
  | with_reducible refine rd_dput ?_
  | ((with_reducible refine' rd_fld1 ?h ?c ?n ?l ?_); (case h => walk_at "hx"); (case c => first | exact Tx.c_Unwinding (by assumption) | exact Tx.c_Store (by assumption)); (case n => first | exact Tx.n_Unwinding_rows (by assumption) | exact Tx.n_Unwinding_references (by assumption) | exact Tx.n_Unwinding_tallies (by assumption) | exact Tx.n_Unwinding_bound (by assumption) | exact Tx.n_Unwinding_log (by assumption) | exact Tx.n_Unwinding_shelf (by assumption) | exact Tx.n_Unwinding_peak (by assumption) | exact Tx.n_Unwinding_events (by assumption) | exact Tx.n_Store_snapshots (by assumption) | exact Tx.n_Store_recorded (by assumption) | exact Tx.n_Store_observer (by assumption) | exact Tx.n_Store_is_busy (by assumption)); (case l => exact rfl))
  | ((with_reducible refine' rd_sFld1 ?h ?c ?n ?l ?_); (case h => walk_at "hx"); (case c => first | exact Tx.c_Unwinding (by assumption) | exact Tx.c_Store (by assumption)); (case n => first | exact Tx.n_Unwinding_rows (by assumption) | exact Tx.n_Unwinding_references (by assumption) | exact Tx.n_Unwinding_tallies (by assumption) | exact Tx.n_Unwinding_bound (by assumption) | exact Tx.n_Unwinding_log (by assumption) | exact Tx.n_Unwinding_shelf (by assumption) | exact Tx.n_Unwinding_peak (by assumption) | exact Tx.n_Unwinding_events (by assumption) | exact Tx.n_Store_snapshots (by assumption) | exact Tx.n_Store_recorded (by assumption) | exact Tx.n_Store_observer (by assumption) | exact Tx.n_Store_is_busy (by assumption)); (case l => exact Nat.le_of_ble_eq_true rfl))
  | ((with_reducible refine' rd_meth1 ?h ?l ?_); (case h => walk_at "hx"); (case l => exact rfl))
  | ((with_reducible refine' rd_and (rd_tyL ?h) ?_); (case h => walk_at "hx"))
  | ((with_reducible refine' rd_rng1 ?hn ?_); (case hn => first | omega | (simp; omega)))
  | with_reducible refine rd_nx ?_
  | with_reducible refine rd_rt ?_
  | with_reducible refine rd_ct ?_
  | with_reducible refine rd_bk ?_
  | ((with_reducible refine' rd_isi ?ty ?kb ?_); (case ty => walk_at "ty"); (case kb => first | exact kb_ii | exact kb_ib | exact kb_tt | exact kb_tl | exact kb_ss | exact kb_nt))
  | with_reducible refine rd_for ?_
  | with_reducible refine rd_iTup ?_
  | with_reducible refine rd_iList ?_
  | with_reducible refine rd_iRng1 ?_
  | with_reducible refine rd_iRng2 ?_
  | with_reducible refine rd_iEnumT ?_
  | with_reducible refine rd_iEnum ?_
  | with_reducible refine rd_lc ?_
  | with_reducible refine rd_yes ?_
  | ((with_reducible refine' rd_gTup ?sq ?n ?_); (case sq => walk_at "sqT"); (case n => exact rfl))
  | with_reducible refine rd_gCons ?_
  | with_reducible refine rd_gNil ?_
  | with_reducible refine rd_fld ?_
  | with_reducible refine rd_meth ?_
  | with_reducible refine rd_sFld ?_
  | with_reducible refine rd_BM ?_
  | with_reducible refine rd_BM0 ?_
  | ((with_reducible refine' rd_orRow ?h (by assumption) ?_); (case h => exact rfl))
  | with_reducible refine rd_augS ?_
  | with_reducible refine rd_ip ?_
  | with_reducible refine rd_gSub ?_
  | ((with_reducible refine' rd_aug ?h ?_); (case h => exact rfl))
  | with_reducible refine rd_par ?_
  | with_reducible refine rd_par1 ?_
  | ((with_reducible refine' rd_lenT ?sq ?_); (case sq => exact st_of (by walk_at "hx")))
  | ((with_reducible refine' rd_lenL ?sq ?_); (case sq => exact sq_of (by walk_at "hx")))
  | ((with_reducible refine' rd_itt ?sq ?_); (case sq => walk_at "sqT"))
  | ((with_reducible refine' rd_itl ?sq ?_); (case sq => walk_at "sqL"))
  | ((with_reducible refine' rd_enumT ?sq ?_); (case sq => walk_at "sqT"))
  | ((with_reducible refine' rd_enumL ?sq ?_); (case sq => walk_at "sqL"))
  | with_reducible refine rd_and rfl ?_
  | with_reducible refine if_t rfl ?_
  | with_reducible refine if_f rfl ?_)
local macro_rules | `(tactic| walk_at "rd") => `(tactic| repeat (walk_at "rd1"))
def sp_Unwinding_init (K : PySem.W.Frag) : Sp := fun vs H Q _ => match vs with
  | [x, y, z] => ∃ u dx hp B H0, x = .ref u ∧ H u = some (.ins (C_Unwinding K) dx []) ∧ H0 u = none ∧ Ex H0 H ∧ HeapV H0 y hp ∧ Vh hp ∧ z = .int B ∧ ∀ H' A, UA.u A = u → UW K H0 A B H' (Un.start hp) → Q .non H'
  | _ => False
/-- one more name for a place -/
theorem lab_new (lab : Addr → Nat) {H : Hp} {p : Addr} (hp : H p = none) (n : Nat) : ∃ lab' : Addr → Nat, lab' p = n ∧ ∀ a o, H a = some o → lab' a = lab a :=
  ⟨fun a => if a = p then n else lab a, if_pos rfl, fun a o h => if_neg (ne_of_none h hp)⟩
def rowsL (row : Nat → Addr) (rs : List Row) : List V := rs.mapIdx fun v r => (match r with | none => .non | some _ => .ref (row v) : V)
/-- an instance on its way: the rows' lists, then further lists, each with its name -/
structure Ini (H0 : Hp) (u : Addr) (rs : List Row) (row : Nat → Addr) (D : Addr) (lab : Addr → Nat) (ps : List (Addr × List V)) (H : Hp) : Prop where
  ex : Ex H0 H
  hD : H D = some (.lst (rowsL row rs))
  lD : lab D = 0
  rw : ∀ (v : Nat) (xs : List (Option Nat)), rs[v]? = some (some xs) → H (row v) = some (.lst (xs.map ent)) ∧ lab (row v) = 6 + v
  pl : ∀ (k : Nat) (p : Addr × List V), ps[k]? = some p → H p.1 = some (.lst p.2) ∧ lab p.1 = k + 1 ∧ H0 p.1 = none
section
variable {H0 H H' : Hp} {u D : Addr} {rs : List Row} {row : Nat → Addr} {lab : Addr → Nat} {ps : List (Addr × List V)}
theorem Ini.add (i : Ini H0 u rs row D lab ps H) (e : Ex H H') {p : Addr} {xs : List V} (hp : H p = none) (hx : H' p = some (.lst xs)) : ∃ lab', Ini H0 u rs row D lab' (ps ++ [(p, xs)]) H' := by
  obtain ⟨lab', l1, l2⟩ := lab_new lab hp (ps.length + 1)
  refine ⟨lab', i.ex.trans e, e _ _ i.hD, by rw [l2 _ _ i.hD]; exact i.lD, fun v ys h => ?_, fun k q h => ?_⟩
  · obtain ⟨f1, f2⟩ := i.rw v ys h
    exact ⟨e _ _ f1, by rw [l2 _ _ f1]; exact f2⟩
  · by_cases hk : k < ps.length
    · rw [List.getElem?_append_left hk] at h
      obtain ⟨f1, f2, f3⟩ := i.pl k q h
      exact ⟨e _ _ f1, by rw [l2 _ _ f1]; exact f2, f3⟩
    · rw [List.getElem?_append_right (by omega)] at h
      have hk0 : k - ps.length = 0 := by
        have := (List.getElem?_eq_some_iff.mp h).1
        simp at this
        omega
      have hk1 : k = ps.length := by omega
      subst hk1
      rw [hk0] at h
      cases h
      exact ⟨hx, l1, free_back i.ex hp⟩
theorem Ini.fld (i : Ini H0 u rs row D lab ps H) {C dx : Addr} {fs fs' : List (Str × V)} (hu : H u = some (.ins C dx fs)) (h0 : H0 u = none) : Ini H0 u rs row D lab ps (upd H u (.ins C dx fs')) := by
  have ne : ∀ {l xs}, H l = some (.lst xs) → upd H u (.ins C dx fs') l = some (.lst xs) := fun {l xs} h => by
    rw [upd_ne (ne_of h hu (by intro z; cases z))]
    exact h
  exact ⟨Ex.mut i.ex h0, ne i.hD, i.lD, fun v xs h => ⟨ne (i.rw v xs h).1, (i.rw v xs h).2⟩, fun k p h => ⟨ne (i.pl k p h).1, (i.pl k p h).2⟩⟩
theorem Ini.done {K : PySem.W.Frag} {os tl : List Nat} {B : Int} {dx p1 p2 p3 p4 p5 : Addr} (i : Ini H0 u rs row D lab [(p1, ivs os), (p2, ivs tl), (p3, ivs []), (p4, ivs []), (p5, [])] H)
    (hu0 : H0 u = none) (hD0 : H0 D = none) (hrow : ∀ v, H0 (row v) = none) (hsz : ∀ (v : Nat) (xs : List (Option Nat)), rs[v]? = some (some xs) → xs.length < 2 ^ 62)
    (hu : H u = some (.ins (C_Unwinding K) dx [("rows", .ref D), ("references", .ref p1), ("tallies", .ref p2), ("bound", .int B), ("log", .ref p3), ("shelf", .ref p4), ("peak", .int 0), ("events", .ref p5)])) :
    UW K H0 ⟨u, dx, D, p1, p2, p3, p4, p5, row, lab⟩ B H ⟨rs, os, tl, [], [], []⟩ :=
  have a1 := i.pl 0 _ rfl
  have a2 := i.pl 1 _ rfl
  have a3 := i.pl 2 _ rfl
  have a4 := i.pl 3 _ rfl
  have a5 := i.pl 4 _ rfl
  { ex := i.ex, f0 := hu0, f1 := hD0, f2 := a1.2.2, f3 := a2.2.2, f4 := a3.2.2, f5 := a4.2.2, f6 := a5.2.2, f7 := fun v _ _ => hrow v
    b1 := i.lD, b2 := a1.2.1, b3 := a2.2.1, b4 := a3.2.1, b5 := a4.2.1, b6 := a5.2.1, b7 := fun v xs h => (i.rw v xs h).2
    at0 := ⟨0, hu⟩, at1 := i.hD, at2 := a1.1, at3 := a2.1, at4 := a3.1, at5 := a4.1, at6 := ⟨[], a5.1, rfl, fun i e h => by simp at h⟩
    at7 := fun v xs h => (i.rw v xs h).1, sz := hsz }
end
section
variable {P : Program} {w : World} {K : PySem.W.Frag} {mg : Str → Option Value} {base : Heap}
theorem ok_Unwinding_init (T : Tx K mg) : FnOk P w K mg base CX0 2 (a_Unwinding_init K) (fd_Unwinding_init K) ["self", "heap", "limit"] (sp_Unwinding_init K) := by
  refine FunD.ok T.f_Unwinding_init sc_Unwinding_init (fun vs H Q E h => match vs, h with | [_, _, _], _ => rfl) (fun cdv A outer s H vs Q E hr h => ⟨_, PSs.nox (pss_cons (ps_asg (pv 1) (pgTup (K := K) (n := 2) rfl (pgs_cons (pg_name (i := 3) sc_Unwinding_init.nd rfl (Or.inl rfl) (by exact Or.inl rfl)) (pgs_cons (pg_name (i := 4) sc_Unwinding_init.nd rfl (Or.inl rfl) (by exact Or.inl rfl)) pgs_nil))))
      (pss_cons (ps_fld (pv 0) (pe_lc rfl sc_Unwinding_init.nd (pi_tup (pv 3)) (blkOk_by (own := [("row", 5)]) (N := N_Unwinding_init) (sc := defScope s_Unwinding_init) (by decide +kernel)) (fun _ _ _ _ _ => (pg_name (i := 5) sc_Unwinding_init.nd rfl (Or.inl rfl) (by exact Or.inr rfl))) (fun _ _ _ _ _ => pts_nil) (fun _ _ _ _ _ => (pe_ifExp (pt_cmpR op_isN (pv 5) pe_non (nomark _)) pe_non (pe_callTy (cList (K := K)) (by rfl) T.z_list (by decide +kernel) (pa_cons (pv 5) pa_nil))))) rfl)
      (pss_cons (ps_fld (pv 0) (pe_callTy (cList (K := K)) (by rfl) T.z_list (by decide +kernel) (pa_cons (pv 4) pa_nil)) rfl)
      (pss_cons (ps_fld (pv 0) (pe_call (ok_reference_counts T) (hr.mono (by omega)) (by rfl) T.g_reference_counts T.k_reference_counts T.b_reference_counts .nil pass0 (pa_cons (pv 3) (pa_cons (pv 4) pa_nil))) rfl)
      (pss_cons (ps_fld (pv 0) (pv 2) rfl)
      (pss_cons (ps_fld (pv 0) (pe_lst pa_nil) rfl)
      (pss_cons (ps_fld (pv 0) (pe_lst pa_nil) rfl)
      (pss_cons (ps_fld (pv 0) pe_int rfl)
      (pss_one (ps_fld (pv 0) (pe_lst pa_nil) rfl)))))))))), ?_⟩)
  match vs, h with
  | [v0, v1, v2], h =>
    obtain ⟨u, dx, ⟨rs, os⟩, B, H0, rfl, hu, hu0, ex0, hh, hV, rfl, q⟩ := h
    have hh0 := hh
    obtain ⟨a, s, o, rfl, ha, ⟨b, vs, rfl, hb, hvs⟩, ⟨c, rfl, hc⟩⟩ := hh0
    have ha1 := ex0 _ _ ha
    have hb1 := ex0 _ _ hb
    have hc1 := ex0 _ _ hc
    have e1 : vs.length = rs.length := hvs.1
    have e3 : rs.length ≤ 40 := hV.n40
    walk_at "rd"
    intro D hD
    have hD0 : H0 D = none := free_back ex0 hD
    have hDu : D ≠ u := by
      rintro rfl
      rw [hu] at hD
      cases hD
    refine lc_it (walk_tup (xs := vs)) (fun i H' => ∃ (row lab : Addr → Addr), Acc H D ((rs.take i).mapIdx fun v r => (match r with | none => .non | some _ => .ref (row v) : V)) H' ∧ lab D = 0 ∧ (∀ v, H0 (row v) = none) ∧
        ∀ (v : Nat) (xs : List (Option Nat)), v < i → rs[v]? = some (some xs) → H' (row v) = some (.lst (xs.map ent)) ∧ lab (row v) = 6 + v ∧ row v ≠ u)
      ⟨fun _ => D, fun _ => 0, Acc.new (Ex.refl H) hD, rfl, fun _ => hD0, fun v xs hv => by omega⟩ (fun i H' _ z => let ⟨_, _, z, _⟩ := z; sqT_ex (ex0.trans z.2.1) hb) ?_ ?_
    · rintro i x _ H1 hi ⟨row, lab, acc, hl0, hrow, hrows⟩ ⟨rfl, hx⟩
      obtain ⟨r, h1, h2⟩ := hvs.of hx
      have hi2 : i < rs.length := by omega
      have ht : rs.take (i + 1) = rs.take i ++ [r] := by rw [List.take_add_one]; simp [show rs[i]? = some r from h1]
      have htl : (rs.take i).length = i := by rw [List.length_take]; omega
      cases r with
      | none =>
        have e : x = .non := h2
        subst e
        walk_at "rd"
        refine ⟨_, acc.2.2, lt40 (by rw [List.length_mapIdx]; omega), row, lab, ?_, hl0, hrow, ?_⟩
        · refine cast ?_ (acc.put (ys := ((rs.take i).mapIdx fun v r => (match r with | none => .non | some _ => .ref (row v) : V)) ++ [V.non]))
          rw [ht, List.mapIdx_append]
          rfl
        · intro v xs hv hvx
          by_cases hvi : v < i
          · obtain ⟨f1, f2, f3⟩ := hrows v xs hvi hvx
            refine ⟨?_, f2, f3⟩
            rw [upd_ne (lab_ne (A := ⟨u, dx, D, D, D, D, D, D, row, lab⟩) f2 hl0 (by omega))]
            exact f1
          · have e : v = i := by omega
            subst e
            have h1' : rs[v]? = some none := h1
            rw [h1'] at hvx
            cases hvx
      | some xs =>
        obtain ⟨d, rfl, hd⟩ := h2
        have hd1 := acc.2.1 _ _ (ex0 _ _ hd)
        walk_at "rd"
        refine rd_listOfT (st_of hd1) fun p hp => ?_
        walk_at "rd"
        have hpD : D ≠ p := ne_of_none acc.2.2 hp
        have hpu : p ≠ u := Ne.symm (ne_of_none (acc.2.1 _ _ hu) hp)
        have hp0 : H0 p = none := free_back (ex0.trans acc.2.1) hp
        have acc2 := acc.ex (Ex.new (o := .lst (xs.map ent)) hp)
        obtain ⟨lab', l1, l2⟩ := lab_new lab hp (6 + i)
        refine ⟨_, acc2.2.2, lt40 (by rw [List.length_mapIdx]; omega), fun v => if v = i then p else row v, lab', ?_, ?_, ?_, ?_⟩
        · refine cast ?_ (acc2.put (ys := ((rs.take i).mapIdx fun v r => (match r with | none => .non | some _ => .ref (row v) : V)) ++ [V.ref p]))
          rw [ht, List.mapIdx_append, htl]
          congr 1
          congr 1
          · apply List.ext_getElem?
            intro v
            rw [List.getElem?_mapIdx, List.getElem?_mapIdx]
            by_cases hv : v < i
            · have hne : ¬ v = i := by omega
              simp only [if_neg hne]
            · rw [List.getElem?_eq_none (by omega)]
              rfl
          · simp
        · rw [l2 D _ acc.2.2]
          exact hl0
        · intro v
          by_cases hv : v = i
          · simp only [if_pos hv]
            exact hp0
          · simp only [if_neg hv]
            exact hrow v
        · intro v ys hv hvx
          by_cases hvi : v = i
          · subst hvi
            have h1' : rs[v]? = some (some xs) := h1
            rw [h1'] at hvx
            cases hvx
            simp only [if_pos]
            refine ⟨?_, l1, hpu⟩
            rw [upd_ne (Ne.symm hpD)]
            exact upd_same
          · obtain ⟨f1, f2, f3⟩ := hrows v ys (by omega) hvx
            simp only [if_neg hvi]
            refine ⟨?_, ?_, f3⟩
            · rw [upd_ne (lab_ne (A := ⟨u, dx, D, D, D, D, D, D, row, lab⟩) f2 hl0 (by omega))]
              exact upd_fr f1 hp
            · rw [l2 _ _ f1]
              exact f2
    · rintro H1 ⟨row, lab, acc, hl0, hrow, hrows⟩
      rw [e1, List.take_length] at acc
      rw [e1] at hrows
      have hu1 := acc.2.1 _ _ hu
      have i0 : Ini H0 u rs row D lab [] H1 := ⟨ex0.trans acc.2.1, acc.2.2, hl0, fun v xs h => let z := hrows v xs (List.getElem?_eq_some_iff.mp h).1 h; ⟨z.1, z.2.1⟩, fun k p h => by simp at h⟩
      walk_at "rd"
      have hu2 : upd H1 u (.ins (C_Unwinding K) dx (putF "rows" (.ref D) [])) u = some (.ins (C_Unwinding K) dx [("rows", .ref D)]) := upd_same
      have i1 := i0.fld (fs' := putF "rows" (.ref D) []) hu1 hu0
      generalize upd H1 u (.ins (C_Unwinding K) dx (putF "rows" (.ref D) [])) = H2 at hu2 i1 ⊢
      refine rd_listOfT (st_of (i1.ex _ _ hc)) fun p1 hp1 => ?_
      have hu2' := upd_fr (o := .lst (ivs os)) hu2 hp1
      obtain ⟨lab1, i2⟩ := i1.add (Ex.new (o := .lst (ivs os)) hp1) hp1 upd_same
      generalize upd H2 p1 (.lst (ivs os)) = H3 at hu2' i2 ⊢
      walk_at "rd"
      have hu3 : upd H3 u (.ins (C_Unwinding K) dx (putF "references" (.ref p1) [("rows", .ref D)])) u = some (.ins (C_Unwinding K) dx [("rows", .ref D), ("references", .ref p1)]) := upd_same
      have i3 := i2.fld (fs' := putF "references" (.ref p1) [("rows", .ref D)]) hu2' hu0
      generalize upd H3 u (.ins (C_Unwinding K) dx (putF "references" (.ref p1) [("rows", .ref D)])) = H4 at hu3 i3 ⊢
      refine Exists.intro rs ⟨os, ⟨b, vs, rfl, i3.ex _ _ hb, hvs.mono i3.ex⟩, ⟨c, rfl, i3.ex _ _ hc⟩, (by
        have e := hV.len
        intro i r h
        have := hV.rows i r h
        rw [e] at this
        exact this), by have : rs.length = os.length := hV.len; omega, fun p2 H5 hp2 ex5 ht5 => ?_⟩
      obtain ⟨lab2, i4⟩ := i3.add ex5 hp2 ht5
      have hu4 := ex5 _ _ hu3
      walk_at "rd"
      have hu5 : upd H5 u (.ins (C_Unwinding K) dx (putF "tallies" (.ref p2) [("rows", .ref D), ("references", .ref p1)])) u = some (.ins (C_Unwinding K) dx [("rows", .ref D), ("references", .ref p1), ("tallies", .ref p2)]) := upd_same
      have i5 := i4.fld (fs' := putF "tallies" (.ref p2) [("rows", .ref D), ("references", .ref p1)]) hu4 hu0
      rename_i p3 hp3 p4 hp4 p5 hp5
      have i6 := i5.fld (fs' := putF "bound" (.int B) (putF "tallies" (.ref p2) [("rows", .ref D), ("references", .ref p1)])) hu5 hu0
      obtain ⟨lab3, i7⟩ := i6.add (xs := []) (Ex.new (o := .lst []) hp3) hp3 upd_same
      have h7 := upd_fr (o := .lst []) upd_same hp3
      have i8 := i7.fld (fs' := putF "log" (.ref p3) (putF "bound" (.int B) (putF "tallies" (.ref p2) [("rows", .ref D), ("references", .ref p1)]))) h7 hu0
      obtain ⟨lab4, i9⟩ := i8.add (xs := []) (Ex.new (o := .lst []) hp4) hp4 upd_same
      have h9 := upd_fr (o := .lst []) upd_same hp4
      have i10 := i9.fld (fs' := putF "shelf" (.ref p4) (putF "log" (.ref p3) (putF "bound" (.int B) (putF "tallies" (.ref p2) [("rows", .ref D), ("references", .ref p1)])))) h9 hu0
      have i11 := i10.fld (fs' := putF "peak" (.int 0) (putF "shelf" (.ref p4) (putF "log" (.ref p3) (putF "bound" (.int B) (putF "tallies" (.ref p2) [("rows", .ref D), ("references", .ref p1)]))))) upd_same hu0
      obtain ⟨lab5, i12⟩ := i11.add (xs := []) (Ex.new (o := .lst []) hp5) hp5 upd_same
      have h12 := upd_fr (o := .lst []) upd_same hp5
      have i13 := i12.fld (fs' := putF "events" (.ref p5) (putF "peak" (.int 0) (putF "shelf" (.ref p4) (putF "log" (.ref p3) (putF "bound" (.int B) (putF "tallies" (.ref p2) [("rows", .ref D), ("references", .ref p1)])))))) h12 hu0
      refine q _ ⟨u, dx, D, p1, p2, p3, p4, p5, row, lab5⟩ rfl ?_
      exact Ini.done (os := os) (tl := refc rs os) i13 hu0 hD0 hrow (fun v xs h => Nat.lt_of_le_of_lt (hV.rows v _ h xs rfl).1 (by decide)) upd_same
end
end Sf
/-! machine: the functions -/
namespace Sf
open PySem PySem.Spec PyProof.Rows L2 Evl
local macro_rules | `(tactic| walk_at "hx") => `(tactic| first | assumption | exact upd_same | (with_reducible refine upd_fr ?_ (by assumption); walk_at "hx") | (refine ex_get (by assumption) ?_; walk_at "hx"))
local macro_rules | `(tactic| walk_at "ex") => `(tactic| first | assumption | exact Ex.refl _ | (with_reducible refine ex_new ?_ (by assumption); walk_at "ex") | (refine Ex.trans ?_ (by assumption); walk_at "ex"))
local macro_rules | `(tactic| walk_at "sqT") => `(tactic| first | (with_reducible assumption) | exact st_of (by walk_at "hx"))
local macro_rules | `(tactic| walk_at "sqL") => `(tactic| first | (with_reducible assumption) | exact sq_of (by walk_at "hx"))
local macro_rules | `(tactic| walk_at "sq") => `(tactic| first | (with_reducible assumption) | exact st_of (by walk_at "hx") | exact sq_of (by walk_at "hx"))
local macro_rules | `(tactic| walk_at "ty") => `(tactic| first | exact TyX.base (.int _) | exact TyX.base .non | exact TyX.base (.bl _) | exact TyX.base (.str _) | exact TyX.base (.tup (by walk_at "hx")) | exact TyX.base (.lst (by walk_at "hx")))
local macro_rules | `(tactic| walk_at "rd1") => `(tactic| first
  | with_reducible refine rd_seq ?_
  | ((with_reducible refine' rd_var ?h ?_); (case h => exact rfl))
  | with_reducible refine rd_c ?_
  | with_reducible refine rd_op ?_
  | with_reducible refine rd_un ?_
  | with_reducible refine rd_CB ?_
  | with_reducible refine rd_call ?_
  | with_reducible refine rd_cons ?_
  | with_reducible refine rd_nil ?_
  | with_reducible refine rd_I0 ?_
  | with_reducible refine rd_U ?_
  | with_reducible refine rd_ret ?_
  | with_reducible refine rd_retN ?_
  | with_reducible refine rd_next ?_
  | with_reducible refine rd_asg ?_
  | with_reducible refine rd_gName ?_
  | with_reducible refine rd_drop ?_
  | with_reducible refine rd_ifS ?_
  | with_reducible refine rd_test ?_
  | with_reducible refine rd_B ?_
  | with_reducible refine rd_notT ?_
  | with_reducible refine rd_andT ?_
  | with_reducible refine rd_orT ?_
  | with_reducible refine rd_andV ?_
  | with_reducible refine rd_orV ?_
  | with_reducible refine rd_notV ?_
  | with_reducible refine rd_ifE ?_
  | with_reducible refine rd_chain ?_
  | with_reducible refine rd_tup ?_
  | with_reducible refine rd_lst ?_
  | with_reducible refine rd_k ?_
  | with_reducible refine rd_eqS rfl ?_
  | with_reducible refine rd_neS rfl ?_
  | ((with_reducible refine rd_and (small40 (Nat.le_of_ble_eq_true rfl)) ?_); intro _ _)
  | (with_reducible refine' rd_isiT2 (k := "tuple") ?ty ?hx kb_tl kb_tt ?_; (case ty => walk_at "ty"); (case hx => walk_at "hx"))
  | with_reducible refine us_is_integer ?_
  | with_reducible refine us_is_between ?_
  | ((with_reducible refine' rd_ixT0 ?sq ?g ?_); (case sq => walk_at "sqT"); (case g => first | exact rfl | assumption))
  | ((with_reducible refine' rd_ixT1 ?sq ?g ?_); (case sq => walk_at "sqT"); (case g => first | exact rfl | assumption))
  | ((with_reducible refine' rd_ixT2 ?sq ?g ?_); (case sq => walk_at "sqT"); (case g => first | exact rfl | assumption))
  | ((with_reducible refine' rd_ixT3 ?sq ?g ?_); (case sq => walk_at "sqT"); (case g => first | exact rfl | assumption))
  | ((with_reducible refine' rd_ixT4 ?sq ?g ?_); (case sq => walk_at "sqT"); (case g => first | exact rfl | assumption))
  | ((with_reducible refine' rd_ixL0 ?sq ?g ?_); (case sq => walk_at "sqL"); (case g => first | exact rfl | assumption))
  | ((with_reducible refine' rd_ixL1 ?sq ?g ?_); (case sq => walk_at "sqL"); (case g => first | exact rfl | assumption))
  | ((with_reducible refine' rd_ixL2 ?sq ?g ?_); (case sq => walk_at "sqL"); (case g => first | exact rfl | assumption))
  | ((with_reducible refine' rd_ixT ?sq ?g ?_); (case sq => walk_at "sqT"); (case g => first | assumption | exact rfl))
  | ((with_reducible refine' rd_ixL ?sq ?g ?_); (case sq => walk_at "sqL"); (case g => first | assumption | exact rfl))
  | with_reducible refine rd_sl ?_
  | with_reducible refine rd_noPart ?_
  | with_reducible refine rd_part ?_
  | with_reducible refine rd_pt1 ?_
  | with_reducible refine rd_make ?_
  | with_reducible refine rd_callN ?_
  | with_reducible refine rd_makeN ?_
  | with_reducible refine rd_revT ?_
  | with_reducible refine rd_dc ?_
  | with_reducible refine rd_notinD ?_
  | with_reducible refine rd_inD ?_
  | with_reducible refine rd_dget ?_
  | with_reducible refine rd_dput ?_
  | ((with_reducible refine' rd_fld1 ?h ?c ?n ?l ?_); (case h => walk_at "hx"); (case c => first | exact Tx.c_Unwinding (by assumption) | exact Tx.c_Store (by assumption)); (case n => first | exact Tx.n_Unwinding_rows (by assumption) | exact Tx.n_Unwinding_references (by assumption) | exact Tx.n_Unwinding_tallies (by assumption) | exact Tx.n_Unwinding_bound (by assumption) | exact Tx.n_Unwinding_log (by assumption) | exact Tx.n_Unwinding_shelf (by assumption) | exact Tx.n_Unwinding_peak (by assumption) | exact Tx.n_Unwinding_events (by assumption) | exact Tx.n_Store_snapshots (by assumption) | exact Tx.n_Store_recorded (by assumption) | exact Tx.n_Store_observer (by assumption) | exact Tx.n_Store_is_busy (by assumption)); (case l => exact rfl))
  | ((with_reducible refine' rd_sFld1 ?h ?c ?n ?l ?_); (case h => walk_at "hx"); (case c => first | exact Tx.c_Unwinding (by assumption) | exact Tx.c_Store (by assumption)); (case n => first | exact Tx.n_Unwinding_rows (by assumption) | exact Tx.n_Unwinding_references (by assumption) | exact Tx.n_Unwinding_tallies (by assumption) | exact Tx.n_Unwinding_bound (by assumption) | exact Tx.n_Unwinding_log (by assumption) | exact Tx.n_Unwinding_shelf (by assumption) | exact Tx.n_Unwinding_peak (by assumption) | exact Tx.n_Unwinding_events (by assumption) | exact Tx.n_Store_snapshots (by assumption) | exact Tx.n_Store_recorded (by assumption) | exact Tx.n_Store_observer (by assumption) | exact Tx.n_Store_is_busy (by assumption)); (case l => exact Nat.le_of_ble_eq_true rfl))
  | ((with_reducible refine' rd_meth1 ?h ?l ?_); (case h => walk_at "hx"); (case l => exact rfl))
  | ((with_reducible refine' rd_and (rd_tyL ?h) ?_); (case h => walk_at "hx"))
  | ((with_reducible refine' rd_rng1 ?hn ?_); (case hn => first | omega | (simp; omega)))
  | with_reducible refine rd_nx ?_
  | with_reducible refine rd_rt ?_
  | with_reducible refine rd_ct ?_
  | with_reducible refine rd_bk ?_
  | ((with_reducible refine' rd_isi ?ty ?kb ?_); (case ty => walk_at "ty"); (case kb => first | exact kb_ii | exact kb_ib | exact kb_tt | exact kb_tl | exact kb_ss | exact kb_nt))
  | with_reducible refine rd_for ?_
  | with_reducible refine rd_iTup ?_
  | with_reducible refine rd_iList ?_
  | with_reducible refine rd_iRng1 ?_
  | with_reducible refine rd_iRng2 ?_
  | with_reducible refine rd_iEnumT ?_
  | with_reducible refine rd_iEnum ?_
  | with_reducible refine rd_lc ?_
  | with_reducible refine rd_yes ?_
  | ((with_reducible refine' rd_gTup ?sq ?n ?_); (case sq => walk_at "sqT"); (case n => exact rfl))
  | with_reducible refine rd_gCons ?_
  | with_reducible refine rd_gNil ?_
  | with_reducible refine rd_fld ?_
  | with_reducible refine rd_meth ?_
  | with_reducible refine rd_sFld ?_
  | with_reducible refine rd_BM ?_
  | with_reducible refine rd_BM0 ?_
  | ((with_reducible refine' rd_orRow ?h (by assumption) ?_); (case h => exact rfl))
  | with_reducible refine rd_augS ?_
  | with_reducible refine rd_ip ?_
  | with_reducible refine rd_gSub ?_
  | ((with_reducible refine' rd_aug ?h ?_); (case h => exact rfl))
  | with_reducible refine rd_par ?_
  | with_reducible refine rd_par1 ?_
  | ((with_reducible refine' rd_lenT ?sq ?_); (case sq => exact st_of (by walk_at "hx")))
  | ((with_reducible refine' rd_lenL ?sq ?_); (case sq => exact sq_of (by walk_at "hx")))
  | ((with_reducible refine' rd_itt ?sq ?_); (case sq => walk_at "sqT"))
  | ((with_reducible refine' rd_itl ?sq ?_); (case sq => walk_at "sqL"))
  | ((with_reducible refine' rd_enumT ?sq ?_); (case sq => walk_at "sqT"))
  | ((with_reducible refine' rd_enumL ?sq ?_); (case sq => walk_at "sqL"))
  | with_reducible refine rd_and rfl ?_
  | with_reducible refine if_t rfl ?_
  | with_reducible refine if_f rfl ?_)
local macro_rules | `(tactic| walk_at "rd") => `(tactic| repeat (walk_at "rd1"))
theorem us_init {K : PySem.W.Frag} {H : Hp} {y : V} {hp : Hv} {B : Int} {R : VK} {E : XK} {x dx : Addr} (hh : HeapV H y hp) (hV : Vh hp) (hx : H x = none) (hdx : H dx = none) (hne : dx ≠ x) (q : ∀ A H2, UA.u A = x → UW K H A B H2 (Un.start hp) → R .non H2) :
    sp_Unwinding_init K [V.ref x, y, .int B] (upd (upd H dx (.own x)) x (.ins (C_Unwinding K) dx [])) R E := by
  have hx2 : upd H dx (.own x) x = none := by rw [upd_ne (Ne.symm hne)]; exact hx
  exact Exists.intro x ⟨dx, hp, B, H, rfl, upd_same, hx, (Ex.new hdx).trans (Ex.new hx2), hh, hV, rfl, fun H2 A e w => q A H2 e w⟩
def sp_require_slot : Sp := fun vs H Q _ => match vs with
  | [x, y, z] => ∃ hp v i xs, HeapV H x hp ∧ y = .int ((v : Nat) : Int) ∧ z = .int ((i : Nat) : Int) ∧ hp.1[v]? = some (some xs) ∧ i < xs.length ∧ Q .non H
  | _ => False
def sp_require_fill : Sp := fun vs H Q _ => match vs with
  | [x, y, z, t] => ∃ hp v i xs g, HeapV H x hp ∧ y = .int ((v : Nat) : Int) ∧ z = .int ((i : Nat) : Int) ∧ hp.1[v]? = some (some xs) ∧ i < xs.length ∧ t = ent g ∧ (∀ u, g = some u → Live hp.1 u) ∧ Q .non H
  | _ => False
def sp_drop : Sp := fun vs H Q _ => match vs with
  | [x, y, z] => ∃ hp v B s', HeapV H x hp ∧ Vh hp ∧ y = .int ((v : Nat) : Int) ∧ Live hp.1 v ∧ 0 < outc hp.2 v ∧ z = .int B ∧ dropO B (Un.start hp) v = some s' ∧ s'.rows.length ≤ 40 ∧ ∀ r H', Ex H H' → ResV H' r s'.log s'.heap → Q r H'
  | _ => False
def sp_set_slot : Sp := fun vs H Q _ => match vs with
  | [x, y, z, t, l] => ∃ hp v i xs g B s', HeapV H x hp ∧ Vh hp ∧ y = .int ((v : Nat) : Int) ∧ z = .int ((i : Nat) : Int) ∧ hp.1[v]? = some (some xs) ∧ i < xs.length ∧ t = ent g ∧ (∀ u, g = some u → Live hp.1 u) ∧ l = .int B ∧ fillS B (Un.start hp) v i g = some s' ∧ s'.rows.length ≤ 40 ∧ ∀ r H', Ex H H' → ResV H' r s'.log s'.heap → Q r H'
  | _ => False
def sp_empty_slots : Sp := fun vs H Q _ => match vs with
  | [x, y, z] => ∃ hp v B s', HeapV H x hp ∧ Vh hp ∧ y = .int ((v : Nat) : Int) ∧ Live hp.1 v ∧ z = .int B ∧ strip B (Un.start hp) v = some s' ∧ s'.rows.length ≤ 40 ∧ ∀ r H', Ex H H' → ResV H' r s'.log s'.heap → Q r H'
  | _ => False
section
variable {P : Program} {w : World} {K : PySem.W.Frag} {mg : Str → Option Value} {base : Heap}
theorem ok_require_slot (T : Tx K mg) : FnOk P w K mg base CX0 3 (a_require_slot K) (fd_require_slot K) ["heap", "node", "slot"] (sp_require_slot) := by
  refine FunD.ok T.f_require_slot sc_require_slot (fun vs H Q E h => match vs, h with | [_, _, _], _ => rfl) (fun cdv A outer s H vs Q E hr h => ⟨_, PSs.nox (pss_one (ps_if (pt_not (pt_val (pe_call (ok_is_between T) (hr.mono (by omega)) (by rfl) T.g_is_between T.k_is_between T.b_is_between .nil pass0 (pa_cons (pv 2) (pa_cons pe_int (pa_cons (pe_op op_sub (pe_callB (cLen (K := K)) (by rfl) T.z_len (by decide +kernel) (pa_cons (pe_ix (ixT (K := K)) (pe_ix (ixT (K := K)) (pv 0) pe_int (fun _ _ => rfl)) (pv 1) (fun _ _ => rfl)) pa_nil)) pe_int) pa_nil)))))) (pss_one ps_never) pss_nil)), ?_⟩)
  match vs, h with
  | [v0, v1, v2], h =>
    obtain ⟨⟨rs, os⟩, v, i, xs, ⟨a, s, o, rfl, ha, ⟨b, vs, rfl, hb, hvs⟩, ⟨c, rfl, hc⟩⟩, rfl, rfl, hxs, hi, q⟩ := h
    obtain ⟨x, hx1, d, rfl, hd⟩ := hvs.2 v _ hxs
    walk_at "rd"
    have e : decide ((0 : Int) ≤ (i : Nat) ∧ ((i : Nat) : Int) ≤ ((xs.map ent).length : Nat) - 1) = true := by simp; omega
    rw [e]
    walk_at "rd"
    exact q
theorem ok_require_fill (T : Tx K mg) : FnOk P w K mg base CX0 5 (a_require_fill K) (fd_require_fill K) ["heap", "node", "slot", "target"] (sp_require_fill) := by
  refine FunD.ok T.f_require_fill sc_require_fill (fun vs H Q E h => match vs, h with | [_, _, _, _], _ => rfl) (fun cdv A outer s H vs Q E hr h => ⟨_, PSs.nox (pss_cons (ps_expr (pe_call (ok_require_node T) (hr.mono (by omega)) (by rfl) T.g_require_node T.k_require_node T.b_require_node .nil pass0 (pa_cons (pv 0) (pa_cons (pv 1) pa_nil))))
      (pss_cons (ps_expr (pe_call (ok_require_slot T) (hr.mono (by omega)) (by rfl) T.g_require_slot T.k_require_slot T.b_require_slot .nil pass0 (pa_cons (pv 0) (pa_cons (pv 1) (pa_cons (pv 2) pa_nil)))))
      (pss_one (ps_if (pt_cmpR op_notN (pv 3) pe_non (nomark _)) (pss_one (ps_expr (pe_call (ok_require_node T) (hr.mono (by omega)) (by rfl) T.g_require_node T.k_require_node T.b_require_node .nil pass0 (pa_cons (pv 0) (pa_cons (pv 3) pa_nil))))) pss_nil)))), ?_⟩)
  match vs, h with
  | [v0, v1, v2, v3], h =>
    obtain ⟨hp, v, i, xs, g, hh, rfl, rfl, hxs, hi, rfl, hg, q⟩ := h
    walk_at "rd"
    refine Exists.intro hp ⟨v, hh, rfl, ⟨xs, hxs⟩, ?_⟩
    walk_at "rd"
    refine Exists.intro hp ⟨v, i, xs, hh, rfl, rfl, hxs, hi, ?_⟩
    cases g with
    | none =>
      walk_at "rd"
      exact q
    | some u =>
      walk_at "rd"
      exact Exists.intro hp ⟨u, hh, rfl, hg u rfl, q⟩
theorem ok_drop (T : Tx K mg) : FnOk P w K mg base CX0 87 (a_drop K) (fd_drop K) ["heap", "node", "limit"] (sp_drop) := by
  refine FunD.ok T.f_drop sc_drop (fun vs H Q E h => match vs, h with | [_, _, _], _ => rfl) (fun cdv A outer s H vs Q E hr h => ⟨_, PSs.nox (pss_cons (ps_expr (pe_call (ok_require_reference T) (hr.mono (by omega)) (by rfl) T.g_require_reference T.k_require_reference T.b_require_reference .nil pass0 (pa_cons (pv 0) (pa_cons (pv 1) pa_nil))))
      (pss_cons (ps_set (i := 3) sc_drop.nd rfl (Or.inl rfl) (pe_make T.m_Unwinding (ok_Unwinding_init T) (hr.mono (by omega)) (by rfl) T.g_Unwinding T.b_Unwinding_init .nil pass0 (pa_cons (pv 0) (pa_cons (pv 2) pa_nil))))
      (pss_cons (ps_expr (pe_meth (pv 3) T.c_Unwinding T.t_Unwinding_drop_outside (ok_Unwinding_drop_outside T) (hr.mono (by omega)) T.b_Unwinding_drop_outside .nil pass0 (pa_cons (pv 1) pa_nil)))
      (pss_one (ps_ret (pe_meth0 (pv 3) T.c_Unwinding T.t_Unwinding_result (ok_Unwinding_result T) (hr.mono (by omega)) T.b_Unwinding_result .nil pass0)))))), ?_⟩)
  match vs, h with
  | [v0, v1, v2], h =>
    obtain ⟨hp, v, B, s', hh, hV, rfl, hl, ho, rfl, hs, h40, q⟩ := h
    walk_at "rd"
    refine Exists.intro hp ⟨v, hh, rfl, hl, by rw [← hV.len]; exact hl.lt, ho, ?_⟩
    walk_at "rd"
    intro x dx hx hdx hne
    refine us_init hh hV hx hdx hne fun A H1 hA w1 => ?_
    subst hA
    refine ⟨rfl, ?_⟩
    obtain ⟨pk1, t01⟩ := w1.at0
    walk_at "rd"
    refine Exists.intro H ⟨A, B, _, v, s', rfl, rfl, w1, hs, fun H2 w2 => ?_⟩
    obtain ⟨pk2, t02⟩ := w2.at0
    walk_at "rd"
    exact Exists.intro H ⟨A, B, s', rfl, w2, h40, fun r H3 ex3 hr3 => q r H3 (w2.ex.trans ex3) hr3⟩
theorem ok_set_slot (T : Tx K mg) : FnOk P w K mg base CX0 87 (a_set_slot K) (fd_set_slot K) ["heap", "node", "slot", "target", "limit"] (sp_set_slot) := by
  refine FunD.ok T.f_set_slot sc_set_slot (fun vs H Q E h => match vs, h with | [_, _, _, _, _], _ => rfl) (fun cdv A outer s H vs Q E hr h => ⟨_, PSs.nox (pss_cons (ps_expr (pe_call (ok_require_fill T) (hr.mono (by omega)) (by rfl) T.g_require_fill T.k_require_fill T.b_require_fill .nil pass0 (pa_cons (pv 0) (pa_cons (pv 1) (pa_cons (pv 2) (pa_cons (pv 3) pa_nil))))))
      (pss_cons (ps_set (i := 5) sc_set_slot.nd rfl (Or.inl rfl) (pe_make T.m_Unwinding (ok_Unwinding_init T) (hr.mono (by omega)) (by rfl) T.g_Unwinding T.b_Unwinding_init .nil pass0 (pa_cons (pv 0) (pa_cons (pv 4) pa_nil))))
      (pss_cons (ps_expr (pe_meth (pv 5) T.c_Unwinding T.t_Unwinding_fill (ok_Unwinding_fill T) (hr.mono (by omega)) T.b_Unwinding_fill .nil pass0 (pa_cons (pv 1) (pa_cons (pv 2) (pa_cons (pv 3) pa_nil)))))
      (pss_one (ps_ret (pe_meth0 (pv 5) T.c_Unwinding T.t_Unwinding_result (ok_Unwinding_result T) (hr.mono (by omega)) T.b_Unwinding_result .nil pass0)))))), ?_⟩)
  match vs, h with
  | [v0, v1, v2, v3, v4], h =>
    obtain ⟨hp, v, i, xs, g, B, s', hh, hV, rfl, rfl, hxs, hi, rfl, hg, rfl, hs, h40, q⟩ := h
    walk_at "rd"
    refine Exists.intro hp ⟨v, i, xs, g, hh, rfl, rfl, hxs, hi, rfl, hg, ?_⟩
    walk_at "rd"
    intro x dx hx hdx hne
    refine us_init hh hV hx hdx hne fun A H1 hA w1 => ?_
    subst hA
    refine ⟨rfl, ?_⟩
    obtain ⟨pk1, t01⟩ := w1.at0
    walk_at "rd"
    refine Exists.intro H ⟨A, B, _, v, i, g, s', rfl, rfl, rfl, rfl, w1, hs, fun H2 w2 => ?_⟩
    obtain ⟨pk2, t02⟩ := w2.at0
    walk_at "rd"
    exact Exists.intro H ⟨A, B, s', rfl, w2, h40, fun r H3 ex3 hr3 => q r H3 (w2.ex.trans ex3) hr3⟩
theorem ok_empty_slots (T : Tx K mg) : FnOk P w K mg base CX0 88 (a_empty_slots K) (fd_empty_slots K) ["heap", "node", "limit"] (sp_empty_slots) := by
  refine FunD.ok T.f_empty_slots sc_empty_slots (fun vs H Q E h => match vs, h with | [_, _, _], _ => rfl) (fun cdv A outer s H vs Q E hr h => ⟨_, PSs.nox (pss_cons (ps_expr (pe_call (ok_require_node T) (hr.mono (by omega)) (by rfl) T.g_require_node T.k_require_node T.b_require_node .nil pass0 (pa_cons (pv 0) (pa_cons (pv 1) pa_nil))))
      (pss_cons (ps_set (i := 3) sc_empty_slots.nd rfl (Or.inl rfl) (pe_make T.m_Unwinding (ok_Unwinding_init T) (hr.mono (by omega)) (by rfl) T.g_Unwinding T.b_Unwinding_init .nil pass0 (pa_cons (pv 0) (pa_cons (pv 2) pa_nil))))
      (pss_cons (ps_expr (pe_meth (pv 3) T.c_Unwinding T.t_Unwinding_strip (ok_Unwinding_strip T) (hr.mono (by omega)) T.b_Unwinding_strip .nil pass0 (pa_cons (pv 1) pa_nil)))
      (pss_one (ps_ret (pe_meth0 (pv 3) T.c_Unwinding T.t_Unwinding_result (ok_Unwinding_result T) (hr.mono (by omega)) T.b_Unwinding_result .nil pass0)))))), ?_⟩)
  match vs, h with
  | [v0, v1, v2], h =>
    obtain ⟨hp, v, B, s', hh, hV, rfl, hl, rfl, hs, h40, q⟩ := h
    walk_at "rd"
    refine Exists.intro hp ⟨v, hh, rfl, hl, ?_⟩
    walk_at "rd"
    intro x dx hx hdx hne
    refine us_init hh hV hx hdx hne fun A H1 hA w1 => ?_
    subst hA
    refine ⟨rfl, ?_⟩
    obtain ⟨pk1, t01⟩ := w1.at0
    walk_at "rd"
    refine Exists.intro H ⟨A, B, _, v, s', rfl, rfl, w1, hs, fun H2 w2 => ?_⟩
    obtain ⟨pk2, t02⟩ := w2.at0
    walk_at "rd"
    exact Exists.intro H ⟨A, B, s', rfl, w2, h40, fun r H3 ex3 hr3 => q r H3 (w2.ex.trans ex3) hr3⟩
end
end Sf
/-! reach -/
namespace Sf
open PySem PySem.Spec PyProof.Rows L2 Evl
local macro_rules | `(tactic| walk_at "hx") => `(tactic| first | assumption | exact upd_same | (with_reducible refine upd_fr ?_ (by assumption); walk_at "hx") | (refine ex_get (by assumption) ?_; walk_at "hx"))
local macro_rules | `(tactic| walk_at "ex") => `(tactic| first | assumption | exact Ex.refl _ | (with_reducible refine ex_new ?_ (by assumption); walk_at "ex") | (refine Ex.trans ?_ (by assumption); walk_at "ex"))
local macro_rules | `(tactic| walk_at "sqT") => `(tactic| first | (with_reducible assumption) | exact st_of (by walk_at "hx"))
local macro_rules | `(tactic| walk_at "sqL") => `(tactic| first | (with_reducible assumption) | exact sq_of (by walk_at "hx"))
local macro_rules | `(tactic| walk_at "sq") => `(tactic| first | (with_reducible assumption) | exact st_of (by walk_at "hx") | exact sq_of (by walk_at "hx"))
local macro_rules | `(tactic| walk_at "ty") => `(tactic| first | exact TyX.base (.int _) | exact TyX.base .non | exact TyX.base (.bl _) | exact TyX.base (.str _) | exact TyX.base (.tup (by walk_at "hx")) | exact TyX.base (.lst (by walk_at "hx")))
local macro_rules | `(tactic| walk_at "rd1") => `(tactic| first
  | with_reducible refine rd_seq ?_
  | ((with_reducible refine' rd_var ?h ?_); (case h => exact rfl))
  | with_reducible refine rd_c ?_
  | with_reducible refine rd_op ?_
  | with_reducible refine rd_un ?_
  | with_reducible refine rd_CB ?_
  | with_reducible refine rd_call ?_
  | with_reducible refine rd_cons ?_
  | with_reducible refine rd_nil ?_
  | with_reducible refine rd_I0 ?_
  | with_reducible refine rd_U ?_
  | with_reducible refine rd_ret ?_
  | with_reducible refine rd_retN ?_
  | with_reducible refine rd_next ?_
  | with_reducible refine rd_asg ?_
  | with_reducible refine rd_gName ?_
  | with_reducible refine rd_drop ?_
  | with_reducible refine rd_ifS ?_
  | with_reducible refine rd_test ?_
  | with_reducible refine rd_B ?_
  | with_reducible refine rd_notT ?_
  | with_reducible refine rd_andT ?_
  | with_reducible refine rd_orT ?_
  | with_reducible refine rd_andV ?_
  | with_reducible refine rd_orV ?_
  | with_reducible refine rd_notV ?_
  | with_reducible refine rd_ifE ?_
  | with_reducible refine rd_chain ?_
  | with_reducible refine rd_tup ?_
  | with_reducible refine rd_lst ?_
  | with_reducible refine rd_k ?_
  | with_reducible refine rd_eqS rfl ?_
  | with_reducible refine rd_neS rfl ?_
  | ((with_reducible refine rd_and (small40 (Nat.le_of_ble_eq_true rfl)) ?_); intro _ _)
  | (with_reducible refine' rd_isiT2 (k := "tuple") ?ty ?hx kb_tl kb_tt ?_; (case ty => walk_at "ty"); (case hx => walk_at "hx"))
  | with_reducible refine us_is_integer ?_
  | with_reducible refine us_is_between ?_
  | ((with_reducible refine' rd_ixT0 ?sq ?g ?_); (case sq => walk_at "sqT"); (case g => first | exact rfl | assumption))
  | ((with_reducible refine' rd_ixT1 ?sq ?g ?_); (case sq => walk_at "sqT"); (case g => first | exact rfl | assumption))
  | ((with_reducible refine' rd_ixT2 ?sq ?g ?_); (case sq => walk_at "sqT"); (case g => first | exact rfl | assumption))
  | ((with_reducible refine' rd_ixT3 ?sq ?g ?_); (case sq => walk_at "sqT"); (case g => first | exact rfl | assumption))
  | ((with_reducible refine' rd_ixT4 ?sq ?g ?_); (case sq => walk_at "sqT"); (case g => first | exact rfl | assumption))
  | ((with_reducible refine' rd_ixL0 ?sq ?g ?_); (case sq => walk_at "sqL"); (case g => first | exact rfl | assumption))
  | ((with_reducible refine' rd_ixL1 ?sq ?g ?_); (case sq => walk_at "sqL"); (case g => first | exact rfl | assumption))
  | ((with_reducible refine' rd_ixL2 ?sq ?g ?_); (case sq => walk_at "sqL"); (case g => first | exact rfl | assumption))
  | ((with_reducible refine' rd_ixT ?sq ?g ?_); (case sq => walk_at "sqT"); (case g => first | assumption | exact rfl))
  | ((with_reducible refine' rd_ixL ?sq ?g ?_); (case sq => walk_at "sqL"); (case g => first | assumption | exact rfl))
  | with_reducible refine rd_sl ?_
  | with_reducible refine rd_noPart ?_
  | with_reducible refine rd_part ?_
  | with_reducible refine rd_pt1 ?_
  | with_reducible refine rd_make ?_
  | with_reducible refine rd_callN ?_
  | with_reducible refine rd_makeN ?_
  | with_reducible refine rd_revT ?_
  | with_reducible refine rd_dc ?_
  | with_reducible refine rd_notinD ?_
  | with_reducible refine rd_inD ?_
  | with_reducible refine rd_dget ?_
  | with_reducible refine rd_dput ?_
  | ((with_reducible refine' rd_fld1 ?h ?c ?n ?l ?_); (case h => walk_at "hx"); (case c => first | exact Tx.c_Unwinding (by assumption) | exact Tx.c_Store (by assumption)); (case n => first | exact Tx.n_Unwinding_rows (by assumption) | exact Tx.n_Unwinding_references (by assumption) | exact Tx.n_Unwinding_tallies (by assumption) | exact Tx.n_Unwinding_bound (by assumption) | exact Tx.n_Unwinding_log (by assumption) | exact Tx.n_Unwinding_shelf (by assumption) | exact Tx.n_Unwinding_peak (by assumption) | exact Tx.n_Unwinding_events (by assumption) | exact Tx.n_Store_snapshots (by assumption) | exact Tx.n_Store_recorded (by assumption) | exact Tx.n_Store_observer (by assumption) | exact Tx.n_Store_is_busy (by assumption)); (case l => exact rfl))
  | ((with_reducible refine' rd_sFld1 ?h ?c ?n ?l ?_); (case h => walk_at "hx"); (case c => first | exact Tx.c_Unwinding (by assumption) | exact Tx.c_Store (by assumption)); (case n => first | exact Tx.n_Unwinding_rows (by assumption) | exact Tx.n_Unwinding_references (by assumption) | exact Tx.n_Unwinding_tallies (by assumption) | exact Tx.n_Unwinding_bound (by assumption) | exact Tx.n_Unwinding_log (by assumption) | exact Tx.n_Unwinding_shelf (by assumption) | exact Tx.n_Unwinding_peak (by assumption) | exact Tx.n_Unwinding_events (by assumption) | exact Tx.n_Store_snapshots (by assumption) | exact Tx.n_Store_recorded (by assumption) | exact Tx.n_Store_observer (by assumption) | exact Tx.n_Store_is_busy (by assumption)); (case l => exact Nat.le_of_ble_eq_true rfl))
  | ((with_reducible refine' rd_meth1 ?h ?l ?_); (case h => walk_at "hx"); (case l => exact rfl))
  | ((with_reducible refine' rd_and (rd_tyL ?h) ?_); (case h => walk_at "hx"))
  | ((with_reducible refine' rd_rng1 ?hn ?_); (case hn => first | omega | (simp; omega)))
  | with_reducible refine rd_nx ?_
  | with_reducible refine rd_rt ?_
  | with_reducible refine rd_ct ?_
  | with_reducible refine rd_bk ?_
  | ((with_reducible refine' rd_isi ?ty ?kb ?_); (case ty => walk_at "ty"); (case kb => first | exact kb_ii | exact kb_ib | exact kb_tt | exact kb_tl | exact kb_ss | exact kb_nt))
  | with_reducible refine rd_for ?_
  | with_reducible refine rd_iTup ?_
  | with_reducible refine rd_iList ?_
  | with_reducible refine rd_iRng1 ?_
  | with_reducible refine rd_iRng2 ?_
  | with_reducible refine rd_iEnumT ?_
  | with_reducible refine rd_iEnum ?_
  | with_reducible refine rd_lc ?_
  | with_reducible refine rd_yes ?_
  | ((with_reducible refine' rd_gTup ?sq ?n ?_); (case sq => walk_at "sqT"); (case n => exact rfl))
  | with_reducible refine rd_gCons ?_
  | with_reducible refine rd_gNil ?_
  | with_reducible refine rd_fld ?_
  | with_reducible refine rd_meth ?_
  | with_reducible refine rd_sFld ?_
  | with_reducible refine rd_BM ?_
  | with_reducible refine rd_BM0 ?_
  | ((with_reducible refine' rd_orRow ?h (by assumption) ?_); (case h => exact rfl))
  | with_reducible refine rd_augS ?_
  | with_reducible refine rd_ip ?_
  | with_reducible refine rd_gSub ?_
  | ((with_reducible refine' rd_aug ?h ?_); (case h => exact rfl))
  | with_reducible refine rd_par ?_
  | with_reducible refine rd_par1 ?_
  | ((with_reducible refine' rd_lenT ?sq ?_); (case sq => exact st_of (by walk_at "hx")))
  | ((with_reducible refine' rd_lenL ?sq ?_); (case sq => exact sq_of (by walk_at "hx")))
  | ((with_reducible refine' rd_itt ?sq ?_); (case sq => walk_at "sqT"))
  | ((with_reducible refine' rd_itl ?sq ?_); (case sq => walk_at "sqL"))
  | ((with_reducible refine' rd_enumT ?sq ?_); (case sq => walk_at "sqT"))
  | ((with_reducible refine' rd_enumL ?sq ?_); (case sq => walk_at "sqL"))
  | with_reducible refine rd_and rfl ?_
  | with_reducible refine if_t rfl ?_
  | with_reducible refine if_f rfl ?_)
local macro_rules | `(tactic| walk_at "rd") => `(tactic| repeat (walk_at "rd1"))
theorem filter_take_yes {l : List Nat} {i x : Nat} {p : Nat → Bool} (h : l[i]? = some x) (hp : p x = true) : (l.take (i + 1)).filter p = (l.take i).filter p ++ [x] := by
  rw [List.take_add_one, h, List.filter_append]
  simp [hp]
theorem filter_take_no {l : List Nat} {i x : Nat} {p : Nat → Bool} (h : l[i]? = some x) (hp : p x = false) : (l.take (i + 1)).filter p = (l.take i).filter p := by
  rw [List.take_add_one, h, List.filter_append]
  simp [hp]
theorem ivs_one (ns : List Nat) (n : Nat) : ivs (ns ++ [n]) = ivs ns ++ [.int (n : Int)] := by rw [ivs_app]; rfl
def outN (hp : Hv) : List Nat := (liveN hp.1).filter fun v => decide (0 < outc hp.2 v)
theorem mem_outN {hp : Hv} {v : Nat} : v ∈ outN hp ↔ Live hp.1 v ∧ 0 < outc hp.2 v := by simp [outN, mem_liveN]
theorem liveN_nd (rs : List Row) : (liveN rs).Nodup := (picks_sorted _ _).imp fun h => Nat.ne_of_lt h
theorem outN_nd (hp : Hv) : (outN hp).Nodup := (liveN_nd _).filter _
theorem liveN_len (rs : List Row) : (liveN rs).length ≤ rs.length := picks_len _ _
/-- a node is reached from outside -/
def RchO (hp : Hv) (v : Nat) : Prop := Rch hp.1 (· ∈ outN hp) v
noncomputable def rchB (hp : Hv) (v : Nat) : Bool := @decide (RchO hp v) (Classical.propDecidable _)
theorem rchB_iff {hp : Hv} {v : Nat} : rchB hp v = true ↔ RchO hp v := by simp [rchB]
noncomputable def unr (hp : Hv) : List Nat := (liveN hp.1).filter fun v => !rchB hp v
theorem rd_listOfS {K : PySem.W.Frag} {H : Hp} {Q : VK} {p : Addr} {ys : List V} (h : SqL K H p ys ∨ SqT K H p ys) (q : ∀ l, H l = none → Q (.ref l) (upd H l (.lst ys))) : rListOf K [.ref p] H Q := ⟨p, ys, rfl, h, q⟩
def sp_held_nodes : Sp := fun vs H Q _ => match vs with
  | [x, y] => ∃ (hp : Hv) (v : Nat) (xs : List (Option Nat)), HeapV H x hp ∧ y = .int (v : Int) ∧ hp.1[v]? = some (some xs) ∧ xs.length ≤ 40 ∧ ∀ p H', H p = none → Ex H H' → H' p = some (.lst (ivs (heldL xs))) → Q (.ref p) H'
  | _ => False
def sp_came_from : Sp := fun vs H Q _ => match vs with
  | [x, y] => ∃ (hp : Hv) (ss : List Nat) (a : Addr), HeapV H x hp ∧ Vh hp ∧ y = .ref a ∧ (H a = some (.lst (ivs ss)) ∨ H a = some (.tup (ivs ss))) ∧ ss.Nodup ∧ (∀ v ∈ ss, Live hp.1 v) ∧
      ∀ p H' fr, H p = none → Ex H H' → H' p = some (.dK (kvsF fr)) → Cf hp.1 ss fr → Closed hp.1 fr.length fr → Q (.ref p) H'
  | _ => False
def sp_nodes_with_outside : Sp := fun vs H Q _ => match vs with
  | [x] => ∃ hp : Hv, HeapV H x hp ∧ Vh hp ∧ ∀ p H', H p = none → Ex H H' → H' p = some (.lst (ivs (outN hp))) → Q (.ref p) H'
  | _ => False
section
variable {P : Program} {w : World} {K : PySem.W.Frag} {mg : Str → Option Value} {base : Heap}
theorem ok_held_nodes (T : Tx K mg) : FnOk P w K mg base CX0 1 (a_held_nodes K) (fd_held_nodes K) ["heap", "node"] (sp_held_nodes) := by
  refine FunD.ok T.f_held_nodes sc_held_nodes (fun vs H Q E h => match vs, h with | [_, _], _ => rfl) (fun cdv A outer s H vs Q E hr h => ⟨_, PSs.nox (pss_one (ps_ret (pe_lc rfl sc_held_nodes.nd (pi_tup (pe_ix (ixT (K := K)) (pe_ix (ixT (K := K)) (pv 0) pe_int (fun _ _ => rfl)) (pv 1) (fun _ _ => rfl))) (blkOk_by (own := [("held", 2)]) (N := N_held_nodes) (sc := defScope s_held_nodes) (by decide +kernel)) (fun _ _ _ _ _ => (pg_name (i := 2) sc_held_nodes.nd rfl (Or.inl rfl) (by exact Or.inr rfl))) (fun _ _ _ _ _ => (pts_one (pt_cmpR op_notN (pv 2) pe_non (nomark _)))) (fun _ _ _ _ _ => (pv 2))))), ?_⟩)
  match vs, h with
  | [v0, v1], h =>
    obtain ⟨⟨rs, os⟩, v, xs, ⟨a, s, o, rfl, ha, ⟨b, vs, rfl, hb, hvs⟩, ⟨c, rfl, hc⟩⟩, rfl, hxs, h40, q⟩ := h
    obtain ⟨x, hx1, d, rfl, hd⟩ := hvs.2 v _ hxs
    walk_at "rd"
    intro D hD
    refine lc_it (walk_tup (xs := xs.map ent)) (fun i H' => Acc H D (ivs (heldL (xs.take i))) H') (Acc.new (Ex.refl H) hD) (fun i H' _ z => sqT_ex z.2.1 hd) ?_ ?_
    · rintro i x _ H1 hi acc ⟨rfl, hx⟩
      obtain ⟨e, he, rfl⟩ := ents_of hx
      have ht : xs.take (i + 1) = xs.take i ++ [e] := by rw [List.take_add_one]; simp [he]
      rw [ht]
      cases e with
      | none =>
        walk_at "rd"
        refine cast ?_ acc
        congr 2
        simp [heldL]
      | some n =>
        walk_at "rd"
        refine acc_add acc ?_ ?_
        · rw [ivs_len]
          have := List.length_filterMap_le id (xs.take i)
          have h2 : (xs.take i).length ≤ 40 := by rw [List.length_take]; omega
          unfold heldL
          omega
        · rw [← ivs_one]
          congr 1
          simp [heldL]
    · rintro H1 acc
      walk_at "rd"
      refine q D H1 hD acc.2.1 ?_
      rw [acc.2.2, List.length_map, List.take_length]
theorem ok_nodes_with_outside (T : Tx K mg) : FnOk P w K mg base CX0 2 (a_nodes_with_outside K) (fd_nodes_with_outside K) ["heap"] (sp_nodes_with_outside) := by
  refine FunD.ok T.f_nodes_with_outside sc_nodes_with_outside (fun vs H Q E h => match vs, h with | [_], _ => rfl) (fun cdv A outer s H vs Q E hr h => ⟨_, PSs.nox (pss_one (ps_ret (pe_lc rfl sc_nodes_with_outside.nd (pi_list (pe_call (ok_live_nodes T) (hr.mono (by omega)) (by rfl) T.g_live_nodes T.k_live_nodes T.b_live_nodes .nil pass0 (pa_cons (pv 0) pa_nil))) (blkOk_by (own := [("node", 1)]) (N := N_nodes_with_outside) (sc := defScope s_nodes_with_outside) (by decide +kernel)) (fun _ _ _ _ _ => (pg_name (i := 1) sc_nodes_with_outside.nd rfl (Or.inl rfl) (by exact Or.inr rfl))) (fun _ _ _ _ _ => (pts_one (pt_cmpR op_gt (pe_ix (ixT (K := K)) (pe_ix (ixT (K := K)) (pv 0) pe_int (fun _ _ => rfl)) (pv 1) (fun _ _ => rfl)) pe_int (nomark _)))) (fun _ _ _ _ _ => (pv 1))))), ?_⟩)
  match vs, h with
  | [v0], h =>
    obtain ⟨hp, hh, hV, q⟩ := h
    have hh0 := hh
    obtain ⟨a, s, o, rfl, ha, ⟨b, vs, rfl, hb, hvs⟩, ⟨c, rfl, hc⟩⟩ := hh0
    have h40 := hV.n40
    walk_at "rd"
    refine us_live_nodes hh h40 fun p H1 hp1 ex1 ht => ?_
    walk_at "rd"
    intro D hD
    refine lc_it (walk_list (xs := ivs (liveN hp.1))) (fun i H' => Acc H1 D (ivs (((liveN hp.1).take i).filter fun v => decide (0 < outc hp.2 v))) H') (Acc.new (Ex.refl H1) hD) (fun i H' _ z => sqL_ex z.2.1 ht) ?_ ?_
    · rintro i x _ H2 hi acc ⟨rfl, hx⟩
      obtain ⟨n, hn, rfl⟩ := ivs_of hx
      have hl := mem_liveN.mp (List.mem_of_getElem? hn)
      have ho := out_ivs (os := hp.2) (v := n) (by rw [← hV.len]; exact hl.lt)
      have ha1 := acc.2.1 _ _ (ex1 _ _ ha)
      have hc1 := acc.2.1 _ _ (ex1 _ _ hc)
      walk_at "rd"
      have hle : (((liveN hp.1).take i).filter fun v => decide (0 < outc hp.2 v)).length ≤ 40 := by
        have h1 := List.length_filter_le (fun v => decide (0 < outc hp.2 v)) ((liveN hp.1).take i)
        have h2 := liveN_len hp.1
        rw [List.length_take] at h1
        omega
      by_cases hpos : 0 < outc hp.2 n
      · refine if_t (by simp; exact hpos) ?_
        walk_at "rd"
        refine acc_add acc (by rw [ivs_len]; omega) ?_
        rw [filter_take_yes hn (by simpa using hpos), ivs_one]
      · refine if_f (by simp; omega) ?_
        rw [filter_take_no hn (by simpa using hpos)]
        exact acc
    · rintro H2 acc
      walk_at "rd"
      refine q D H2 (free_back ex1 hD) (ex1.trans acc.2.1) ?_
      rw [acc.2.2, ivs_len, List.take_length]
      rfl
theorem ok_came_from (T : Tx K mg) : FnOk P w K mg base CX0 2 (a_came_from K) (fd_came_from K) ["heap", "starts"] (sp_came_from) := by
  refine FunD.ok T.f_came_from sc_came_from (fun vs H Q E h => match vs, h with | [_, _], _ => rfl) (fun cdv A outer s H vs Q E hr h => ⟨_, PSs.nox (pss_cons (ps_setDc (i := 2) rfl sc_came_from.nd rfl rfl (swd_true rfl rfl rfl (by decide +kernel)) (pi_seq (pv 1)) (blkOk_by (own := [("node", 3)]) (N := N_came_from) (sc := defScope s_came_from) (by decide +kernel)) (fun _ _ _ _ _ => (pg_name (i := 3) sc_came_from.nd rfl (Or.inl rfl) (by exact Or.inr rfl))) (fun _ _ _ _ _ => pts_nil) (fun _ _ _ _ _ => (pv 3)) (fun _ _ _ _ _ => pe_non))
      (pss_cons (ps_set (i := 4) sc_came_from.nd rfl (Or.inl rfl) (pe_callTy (cList (K := K)) (by rfl) T.z_list (by decide +kernel) (pa_cons (pv 1) pa_nil)))
      (pss_cons (ps_set (i := 5) sc_came_from.nd rfl (Or.inl rfl) pe_int)
      (pss_cons (ps_while PassesOwn.never (pt_cmpR op_lt (pv 5) (pe_callB (cLen (K := K)) (by rfl) T.z_len (by decide +kernel) (pa_cons (pv 4) pa_nil)) (nomark _)) (pss_cons (ps_for PassesOwn.never rfl (pi_list (pe_call (ok_held_nodes T) (hr.mono (by omega)) (by rfl) T.g_held_nodes T.k_held_nodes T.b_held_nodes .nil pass0 (pa_cons (pv 0) (pa_cons (pe_ix (ixL (K := K)) (pv 4) (pv 5) (fun _ _ => rfl)) pa_nil)))) (pg_name (i := 6) sc_came_from.nd rfl (Or.inl rfl) (by exact Or.inl rfl)) (pss_one (ps_if (pt_cmp (pc_dnotin (hu_of hr) (pv 6) (pv 2))) (pss_cons (ps_dput (hu_of hr) (pv 2) (pv 6) (pe_ix (ixL (K := K)) (pv 4) (pv 5) (fun _ _ => rfl)) rfl)
      (pss_one (ps_expr (pe_bm PySem.F.plainAttrs_list PySem.F.slot_list_append PySem.F.type_list_append mt_append (pv 4) (pa_cons (pv 6) pa_nil))))) pss_nil)))
      (pss_one (ps_aug (i := 5) sc_came_from.nd rfl (Or.inl rfl) pe_int ip_add))))
      (pss_one (ps_ret (pv 2))))))), ?_⟩)
  match vs, h with
  | [v0, v1], h =>
    obtain ⟨hp, ss, a, hh, hV, rfl, hss, nd, lv, q⟩ := h
    have h40 := hV.n40
    have hsl : ss.length ≤ 40 := by
      have := nodup_lt nd fun x m => (lv x m).lt
      omega
    walk_at "rd"
    refine rd_iSeq (a := a) (xs := ivs ss) rfl (hss.elim (fun h => .inl (sq_of h)) (fun h => .inr (st_of h))) fun J wJ => ?_
    intro D hD
    refine dc_it wJ (fun i H' => Ex H H' ∧ H' D = some (.dK (kvsF ((ss.take i).map fun n => (n, none))))) ⟨Ex.new hD, upd_same⟩ (fun i H' _ z => z.1) ?_ ?_
    · rintro i x _ H1 hi ⟨e1, e2⟩ ⟨rfl, hx⟩
      obtain ⟨n, hn, rfl⟩ := ivs_of hx
      walk_at "rd"
      refine ⟨_, .inl (n : Int), rfl, e2, ?_, Ex.mut e1 hD, ?_⟩
      · rw [kvs_len, List.length_map, List.length_take]
        exact lt40 (by omega)
      · rw [upd_same, List.take_add_one, hn]
        have hn2 : n ∉ keys ((ss.take i).map fun n => (n, none)) := by
          have e : keys ((ss.take i).map fun n => (n, (none : Option Nat))) = ss.take i := by simp [keys, Function.comp_def]
          rw [e]
          exact nd_take nd hn
        show some (HO.dK (putK (kvsF ((ss.take i).map fun n => (n, none))) (.inl (n : Int)) .non)) = _
        rw [kvs_put0 hn2]
        simp
    · rintro H1 ⟨e1, e2⟩
      rw [ivs_len, List.take_length] at e2
      walk_at "rd"
      refine rd_listOfS (hss.elim (fun h => .inl (sq_of (e1 _ _ h))) (fun h => .inr (st_of (e1 _ _ h)))) fun L hL => ?_
      have hLD : L ≠ D := Ne.symm (ne_of_none e2 hL)
      have hL0 : H L = none := free_back e1 hL
      walk_at "rd"
      have k0 : keys (ss.map fun n => (n, (none : Option Nat))) = ss := by simp [keys, Function.comp_def]
      refine ⟨fun m σ H' => ∃ i fr x y, σ = [some v0, some (.ref a), some (.ref D), y, some (.ref L), some (.int ((i : Nat) : Int)), x] ∧ Ex H H' ∧ H' D = some (.dK (kvsF fr)) ∧ H' L = some (.lst (ivs (keys fr))) ∧ Cf hp.1 ss fr ∧ Closed hp.1 i fr ∧ i ≤ fr.length ∧ m = 41 - i,
        ⟨41, 0, _, _, _, rfl, ex_new e1 hL, upd_fr e2 hL, by rw [k0]; exact upd_same, Cf.start nd lv, fun j p q n hj => by omega, by omega, rfl⟩, ?_⟩
      rintro m σ H2 ⟨i, fr, x, y, rfl, f1, f2, f3, cf, cl, hil, rfl⟩
      have hfl := cf.len
      walk_at "rd"
      rw [ivs_len, keys_len]
      refine if_b (fun hc => ?_) (fun hc => ?_)
      · have hc := of_decide_eq_true hc
        have hlt : i < fr.length := by omega
        have hg := List.getElem?_eq_getElem hlt
        cases hfi : fr[i] with
        | mk p pq =>
        rw [hfi] at hg
        have hkg := ivs_get (keys_get hg)
        have hpk : p ∈ keys fr := List.mem_of_getElem? (keys_get hg)
        obtain ⟨xs, hxs⟩ := cf.lv p hpk
        have hx40 := (hV.rows p _ hxs xs rfl).1
        refine ⟨fun σ H' => ∃ fr x y, σ = [some v0, some (.ref a), some (.ref D), y, some (.ref L), some (.int ((i + 1 : Nat) : Int)), x] ∧ Ex H H' ∧ H' D = some (.dK (kvsF fr)) ∧ H' L = some (.lst (ivs (keys fr))) ∧ Cf hp.1 ss fr ∧ Closed hp.1 (i + 1) fr ∧ i + 1 ≤ fr.length,
          fun σ' H' ⟨fr, x, y, g1, g2, g3, g4, g5, g6, g7⟩ => ⟨41 - (i + 1), by omega, i + 1, fr, x, y, g1, g2, g3, g4, g5, g6, g7, rfl⟩, ?_⟩
        walk_at "rd"
        refine Exists.intro hp ⟨p, xs, hh.mono f1, rfl, hxs, hx40, fun Bh H3 hB ex3 hB3 => ?_⟩
        walk_at "rd"
        have hLB : L ≠ Bh := ne_of_none f3 hB
        have hB0 : H Bh = none := free_back f1 hB
        have hDB : D ≠ Bh := ne_of_none f2 hB
        refine for_it (walk_list (xs := ivs (heldL xs))) (fun j σ H' => ∃ fr x, σ = [some v0, some (.ref a), some (.ref D), y, some (.ref L), some (.int (i : Nat)), x] ∧ Ex H H' ∧ H' Bh = some (.lst (ivs (heldL xs))) ∧ H' D = some (.dK (kvsF fr)) ∧ H' L = some (.lst (ivs (keys fr))) ∧ Cf hp.1 ss fr ∧ Closed hp.1 i fr ∧ fr[i]? = some (p, pq) ∧ ∀ (j' h' : Nat), j' < j → (heldL xs)[j']? = some h' → h' ∈ keys fr)
          ⟨fr, x, rfl, f1.trans ex3, hB3, ex3 _ _ f2, ex3 _ _ f3, cf, cl, hg, fun j' h' hj => by omega⟩ (fun i σ H' _ z => let ⟨_, _, _, _, z, _⟩ := z; sq_of z) ?_ ?_
        · rintro j xh _ _ H4 hj ⟨fr4, x4, rfl, g1, g2, g3, g4, cf4, cl4, hg4, hj4⟩ ⟨rfl, hx4⟩
          obtain ⟨h', hh', rfl⟩ := ivs_of hx4
          have hfl4 := cf4.len
          have hil4 := (List.getElem?_eq_some_iff.mp hg4).1
          have hedge : Edge hp.1 p h' := ⟨xs, hxs, mem_held.mp (List.mem_of_getElem? hh')⟩
          have hkg4 := ivs_get (keys_get hg4)
          walk_at "rd"
          refine ⟨D, _, rfl, DGet.k (k := .inl (h' : Int)) g3, ?_⟩
          rw [kvs_isSome cf4.nd]
          walk_at "rd"
          refine if_b (fun hc2 => ?_) (fun hc2 => ?_)
          · have hnk : h' ∉ keys fr4 := by simpa using hc2
            walk_at "rd"
            refine ⟨D, _, rfl, DPut.k (k := .inl (h' : Int)) g3 (by rw [kvs_len]; exact lt40 (by omega)), ?_⟩
            rw [show putK (kvsF fr4) (.inl (h' : Int)) (V.int (p : Nat)) = kvsF (fr4 ++ [(h', some p)]) from kvs_put hnk]
            have g4' : upd H4 D (.dK (kvsF (fr4 ++ [(h', some p)]))) L = some (.lst (ivs (keys fr4))) := by rw [upd_ne hLD]; exact g4
            walk_at "rd"
            refine rd_append g4' (by rw [ivs_len, keys_len]; exact lt40 (by omega)) ?_
            refine ⟨fr4 ++ [(h', some p)], _, rfl, ex_set (ex_set g1 hD) hL0, ?_, ?_, ?_, cf4.add hg4 hedge hnk (hV.edge hedge), cl4.add (by omega), by rw [List.getElem?_append_left hil4]; exact hg4, ?_⟩
            · rw [upd_ne (Ne.symm hLB), upd_ne (Ne.symm hDB)]
              exact g2
            · rw [upd_ne (Ne.symm hLD)]
              exact upd_same
            · rw [upd_same, keys_app, ivs_app]
              rfl
            · intro j' h'' hjl hg5
              rw [keys_app]
              by_cases e : j' < j
              · exact List.mem_append_left _ (hj4 j' h'' e hg5)
              · have e2 : j' = j := by omega
                subst e2
                rw [hh'] at hg5
                cases hg5
                exact List.mem_append_right _ (List.mem_cons_self ..)
          · have hnk : h' ∈ keys fr4 := by simpa using hc2
            walk_at "rd"
            refine ⟨fr4, _, rfl, g1, g2, g3, g4, cf4, cl4, hg4, ?_⟩
            intro j' h'' hjl hg5
            by_cases e : j' < j
            · exact hj4 j' h'' e hg5
            · have e2 : j' = j := by omega
              subst e2
              rw [hh'] at hg5
              cases hg5
              exact hnk
        · rintro σ H4 ⟨fr4, x4, rfl, g1, g2, g3, g4, cf4, cl4, hg4, hj4⟩
          have hil4 := (List.getElem?_eq_some_iff.mp hg4).1
          walk_at "rd"
          refine ⟨fr4, _, _, rfl, g1, g3, g4, cf4, cl4.next hg4 hxs fun n hn => ?_, by omega⟩
          obtain ⟨j, hj⟩ := List.getElem?_of_mem hn
          exact hj4 j n (by rw [ivs_len]; exact (List.getElem?_eq_some_iff.mp hj).1) hj
      · have hc := of_decide_eq_false hc
        have e : i = fr.length := by omega
        subst e
        walk_at "rd"
        exact q D H2 fr hD f1 f2 cf cl
end
end Sf
/-! reach: the rest; collecting -/
namespace Sf
open PySem PySem.Spec PyProof.Rows L2 Evl
local macro_rules | `(tactic| walk_at "hx") => `(tactic| first | assumption | exact upd_same | (with_reducible refine upd_fr ?_ (by assumption); walk_at "hx") | (refine ex_get (by assumption) ?_; walk_at "hx"))
local macro_rules | `(tactic| walk_at "ex") => `(tactic| first | assumption | exact Ex.refl _ | (with_reducible refine ex_new ?_ (by assumption); walk_at "ex") | (refine Ex.trans ?_ (by assumption); walk_at "ex"))
local macro_rules | `(tactic| walk_at "sqT") => `(tactic| first | (with_reducible assumption) | exact st_of (by walk_at "hx"))
local macro_rules | `(tactic| walk_at "sqL") => `(tactic| first | (with_reducible assumption) | exact sq_of (by walk_at "hx"))
local macro_rules | `(tactic| walk_at "sq") => `(tactic| first | (with_reducible assumption) | exact st_of (by walk_at "hx") | exact sq_of (by walk_at "hx"))
local macro_rules | `(tactic| walk_at "ty") => `(tactic| first | exact TyX.base (.int _) | exact TyX.base .non | exact TyX.base (.bl _) | exact TyX.base (.str _) | exact TyX.base (.tup (by walk_at "hx")) | exact TyX.base (.lst (by walk_at "hx")))
local macro_rules | `(tactic| walk_at "rd1") => `(tactic| first
  | with_reducible refine rd_seq ?_
  | ((with_reducible refine' rd_var ?h ?_); (case h => exact rfl))
  | with_reducible refine rd_c ?_
  | with_reducible refine rd_op ?_
  | with_reducible refine rd_un ?_
  | with_reducible refine rd_CB ?_
  | with_reducible refine rd_call ?_
  | with_reducible refine rd_cons ?_
  | with_reducible refine rd_nil ?_
  | with_reducible refine rd_I0 ?_
  | with_reducible refine rd_U ?_
  | with_reducible refine rd_ret ?_
  | with_reducible refine rd_retN ?_
  | with_reducible refine rd_next ?_
  | with_reducible refine rd_asg ?_
  | with_reducible refine rd_gName ?_
  | with_reducible refine rd_drop ?_
  | with_reducible refine rd_ifS ?_
  | with_reducible refine rd_test ?_
  | with_reducible refine rd_B ?_
  | with_reducible refine rd_notT ?_
  | with_reducible refine rd_andT ?_
  | with_reducible refine rd_orT ?_
  | with_reducible refine rd_andV ?_
  | with_reducible refine rd_orV ?_
  | with_reducible refine rd_notV ?_
  | with_reducible refine rd_ifE ?_
  | with_reducible refine rd_chain ?_
  | with_reducible refine rd_tup ?_
  | with_reducible refine rd_lst ?_
  | with_reducible refine rd_k ?_
  | with_reducible refine rd_eqS rfl ?_
  | with_reducible refine rd_neS rfl ?_
  | ((with_reducible refine rd_and (small40 (Nat.le_of_ble_eq_true rfl)) ?_); intro _ _)
  | (with_reducible refine' rd_isiT2 (k := "tuple") ?ty ?hx kb_tl kb_tt ?_; (case ty => walk_at "ty"); (case hx => walk_at "hx"))
  | with_reducible refine us_is_integer ?_
  | with_reducible refine us_is_between ?_
  | ((with_reducible refine' rd_ixT0 ?sq ?g ?_); (case sq => walk_at "sqT"); (case g => first | exact rfl | assumption))
  | ((with_reducible refine' rd_ixT1 ?sq ?g ?_); (case sq => walk_at "sqT"); (case g => first | exact rfl | assumption))
  | ((with_reducible refine' rd_ixT2 ?sq ?g ?_); (case sq => walk_at "sqT"); (case g => first | exact rfl | assumption))
  | ((with_reducible refine' rd_ixT3 ?sq ?g ?_); (case sq => walk_at "sqT"); (case g => first | exact rfl | assumption))
  | ((with_reducible refine' rd_ixT4 ?sq ?g ?_); (case sq => walk_at "sqT"); (case g => first | exact rfl | assumption))
  | ((with_reducible refine' rd_ixL0 ?sq ?g ?_); (case sq => walk_at "sqL"); (case g => first | exact rfl | assumption))
  | ((with_reducible refine' rd_ixL1 ?sq ?g ?_); (case sq => walk_at "sqL"); (case g => first | exact rfl | assumption))
  | ((with_reducible refine' rd_ixL2 ?sq ?g ?_); (case sq => walk_at "sqL"); (case g => first | exact rfl | assumption))
  | ((with_reducible refine' rd_ixT ?sq ?g ?_); (case sq => walk_at "sqT"); (case g => first | assumption | exact rfl))
  | ((with_reducible refine' rd_ixL ?sq ?g ?_); (case sq => walk_at "sqL"); (case g => first | assumption | exact rfl))
  | with_reducible refine rd_sl ?_
  | with_reducible refine rd_noPart ?_
  | with_reducible refine rd_part ?_
  | with_reducible refine rd_pt1 ?_
  | with_reducible refine rd_make ?_
  | with_reducible refine rd_callN ?_
  | with_reducible refine rd_makeN ?_
  | with_reducible refine rd_revT ?_
  | with_reducible refine rd_dc ?_
  | with_reducible refine rd_notinD ?_
  | with_reducible refine rd_inD ?_
  | with_reducible refine rd_dget ?_
  | with_reducible refine rd_dput ?_
  | ((with_reducible refine' rd_fld1 ?h ?c ?n ?l ?_); (case h => walk_at "hx"); (case c => first | exact Tx.c_Unwinding (by assumption) | exact Tx.c_Store (by assumption)); (case n => first | exact Tx.n_Unwinding_rows (by assumption) | exact Tx.n_Unwinding_references (by assumption) | exact Tx.n_Unwinding_tallies (by assumption) | exact Tx.n_Unwinding_bound (by assumption) | exact Tx.n_Unwinding_log (by assumption) | exact Tx.n_Unwinding_shelf (by assumption) | exact Tx.n_Unwinding_peak (by assumption) | exact Tx.n_Unwinding_events (by assumption) | exact Tx.n_Store_snapshots (by assumption) | exact Tx.n_Store_recorded (by assumption) | exact Tx.n_Store_observer (by assumption) | exact Tx.n_Store_is_busy (by assumption)); (case l => exact rfl))
  | ((with_reducible refine' rd_sFld1 ?h ?c ?n ?l ?_); (case h => walk_at "hx"); (case c => first | exact Tx.c_Unwinding (by assumption) | exact Tx.c_Store (by assumption)); (case n => first | exact Tx.n_Unwinding_rows (by assumption) | exact Tx.n_Unwinding_references (by assumption) | exact Tx.n_Unwinding_tallies (by assumption) | exact Tx.n_Unwinding_bound (by assumption) | exact Tx.n_Unwinding_log (by assumption) | exact Tx.n_Unwinding_shelf (by assumption) | exact Tx.n_Unwinding_peak (by assumption) | exact Tx.n_Unwinding_events (by assumption) | exact Tx.n_Store_snapshots (by assumption) | exact Tx.n_Store_recorded (by assumption) | exact Tx.n_Store_observer (by assumption) | exact Tx.n_Store_is_busy (by assumption)); (case l => exact Nat.le_of_ble_eq_true rfl))
  | ((with_reducible refine' rd_meth1 ?h ?l ?_); (case h => walk_at "hx"); (case l => exact rfl))
  | ((with_reducible refine' rd_and (rd_tyL ?h) ?_); (case h => walk_at "hx"))
  | ((with_reducible refine' rd_rng1 ?hn ?_); (case hn => first | omega | (simp; omega)))
  | with_reducible refine rd_nx ?_
  | with_reducible refine rd_rt ?_
  | with_reducible refine rd_ct ?_
  | with_reducible refine rd_bk ?_
  | ((with_reducible refine' rd_isi ?ty ?kb ?_); (case ty => walk_at "ty"); (case kb => first | exact kb_ii | exact kb_ib | exact kb_tt | exact kb_tl | exact kb_ss | exact kb_nt))
  | with_reducible refine rd_for ?_
  | with_reducible refine rd_iTup ?_
  | with_reducible refine rd_iList ?_
  | with_reducible refine rd_iRng1 ?_
  | with_reducible refine rd_iRng2 ?_
  | with_reducible refine rd_iEnumT ?_
  | with_reducible refine rd_iEnum ?_
  | with_reducible refine rd_lc ?_
  | with_reducible refine rd_yes ?_
  | ((with_reducible refine' rd_gTup ?sq ?n ?_); (case sq => walk_at "sqT"); (case n => exact rfl))
  | with_reducible refine rd_gCons ?_
  | with_reducible refine rd_gNil ?_
  | with_reducible refine rd_fld ?_
  | with_reducible refine rd_meth ?_
  | with_reducible refine rd_sFld ?_
  | with_reducible refine rd_BM ?_
  | with_reducible refine rd_BM0 ?_
  | ((with_reducible refine' rd_orRow ?h (by assumption) ?_); (case h => exact rfl))
  | with_reducible refine rd_augS ?_
  | with_reducible refine rd_ip ?_
  | with_reducible refine rd_gSub ?_
  | ((with_reducible refine' rd_aug ?h ?_); (case h => exact rfl))
  | with_reducible refine rd_par ?_
  | with_reducible refine rd_par1 ?_
  | ((with_reducible refine' rd_lenT ?sq ?_); (case sq => exact st_of (by walk_at "hx")))
  | ((with_reducible refine' rd_lenL ?sq ?_); (case sq => exact sq_of (by walk_at "hx")))
  | ((with_reducible refine' rd_itt ?sq ?_); (case sq => walk_at "sqT"))
  | ((with_reducible refine' rd_itl ?sq ?_); (case sq => walk_at "sqL"))
  | ((with_reducible refine' rd_enumT ?sq ?_); (case sq => walk_at "sqT"))
  | ((with_reducible refine' rd_enumL ?sq ?_); (case sq => walk_at "sqL"))
  | with_reducible refine rd_and rfl ?_
  | with_reducible refine if_t rfl ?_
  | with_reducible refine if_f rfl ?_)
local macro_rules | `(tactic| walk_at "rd") => `(tactic| repeat (walk_at "rd1"))
def PathOk (hp : Hv) (v : Nat) (P : List Nat) : Prop := (∃ a, P[0]? = some a ∧ 0 < outc hp.2 a) ∧ P.getLast? = some v ∧ (∀ n ∈ P, Live hp.1 n) ∧ ∀ (k a b : Nat), P[k]? = some a → P[k + 1]? = some b → Edge hp.1 a b
def sp_reachable : Sp := fun vs H Q _ => match vs with
  | [x] => ∃ hp : Hv, HeapV H x hp ∧ Vh hp ∧ ∀ p H' ys, H p = none → Ex H H' → H' p = some (.lst (List.map V.int ys)) → ys.length ≤ 40 → (∀ v : Nat, (v : Int) ∈ ys ↔ RchO hp v) → Q (.ref p) H'
  | _ => False
def sp_unreachable : Sp := fun vs H Q _ => match vs with
  | [x] => ∃ hp : Hv, HeapV H x hp ∧ Vh hp ∧ ∀ p H', H p = none → Ex H H' → H' p = some (.lst (ivs (unr hp))) → Q (.ref p) H'
  | _ => False
def sp_reach_certificate : Sp := fun vs H Q _ => match vs with
  | [x, y] => ∃ (hp : Hv) (v : Nat), HeapV H x hp ∧ Vh hp ∧ y = .int (v : Int) ∧ Live hp.1 v ∧
      (rchB hp v = true → ∀ t p P H', Ex H H' → H' t = some (.tup [.str "reached", .ref p]) → H' p = some (.tup (ivs P)) → PathOk hp v P → P.length ≤ 40 → Q (.ref t) H') ∧
      (rchB hp v = false → ∀ t p H', Ex H H' → H' t = some (.tup [.str "unreached", .ref p]) → H' p = some (.tup (ivs (unr hp))) → Q (.ref t) H')
  | _ => False
def sp_strip_all (K : PySem.W.Frag) : Sp := fun vs H Q _ => match vs with
  | [x, y] => ∃ H0 A B s l ns s', x = .ref (UA.u A) ∧ y = .ref l ∧ UW K H0 A B H s ∧ H0 l = some (.lst (ivs ns)) ∧ stripAll B ns s = some s' ∧ ∀ H', UW K H0 A B H' s' → Q .non H'
  | _ => False
def sp_collect : Sp := fun vs H Q _ => match vs with
  | [x, z] => ∃ hp B s', HeapV H x hp ∧ Vh hp ∧ z = .int B ∧ stripAll B (unr hp) (Un.start hp) = some s' ∧ s'.rows.length ≤ 40 ∧ ∀ r H', Ex H H' → ResV H' r s'.log s'.heap → Q r H'
  | _ => False
theorem keys_rch {hp : Hv} {fr : Fr} (c : Cf hp.1 (outN hp) fr) (h : Closed hp.1 fr.length fr) (n : Nat) : decide (n ∈ keys fr) = rchB hp n := by
  have h1 := c.done h n
  by_cases m : n ∈ keys fr
  · rw [decide_eq_true m, rchB_iff.mpr (h1.mp m)]
  · rw [decide_eq_false m]
    cases e : rchB hp n with
    | false => rfl
    | true => exact absurd (h1.mpr (rchB_iff.mp e)) m
section
variable {P : Program} {w : World} {K : PySem.W.Frag} {mg : Str → Option Value} {base : Heap}
theorem ok_reachable (T : Tx K mg) : FnOk P w K mg base CX0 3 (a_reachable K) (fd_reachable K) ["heap"] (sp_reachable) := by
  refine FunD.ok T.f_reachable sc_reachable (fun vs H Q E h => match vs, h with | [_], _ => rfl) (fun cdv A outer s H vs Q E hr h => ⟨_, PSs.nox (pss_one (ps_ret (pe_callB (call_sortedDI rfl) (by rfl) T.z_sorted (by decide +kernel) (pa_cons (pe_call (ok_came_from T) (hr.mono (by omega)) (by rfl) T.g_came_from T.k_came_from T.b_came_from .nil pass0 (pa_cons (pv 0) (pa_cons (pe_call (ok_nodes_with_outside T) (hr.mono (by omega)) (by rfl) T.g_nodes_with_outside T.k_nodes_with_outside T.b_nodes_with_outside .nil pass0 (pa_cons (pv 0) pa_nil)) pa_nil))) pa_nil)))), ?_⟩)
  match vs, h with
  | [v0], h =>
    obtain ⟨hp, hh, hV, q⟩ := h
    have h40 := hV.n40
    walk_at "rd"
    refine Exists.intro hp ⟨hh, hV, fun p1 H1 hp1 ex1 ht1 => ?_⟩
    walk_at "rd"
    refine Exists.intro hp ⟨outN hp, p1, hh.mono ex1, hV, rfl, .inl ht1, outN_nd hp, fun v hv => (mem_outN.mp hv).1, fun p2 H2 fr hp2 ex2 hd cf cl => ?_⟩
    have hfl := cf.len
    walk_at "rd"
    refine ⟨p2, kvsF fr, (keys fr).map fun n : Nat => (n : Int), rfl, .inl hd, ?_, ?_, ?_⟩
    · simp [kvsF, keys]
    · rw [List.length_map, keys_len]
      omega
    · intro ys p hys hsrt hpn
      have ex3 := ex1.trans ex2
      refine q p _ ys (free_back ex3 hpn) (ex_new ex3 hpn) upd_same ?_ fun v => ?_
      · rw [hys.length_eq, List.length_map, keys_len]
        omega
      · rw [hys.mem_iff]
        have h1 := cf.done cl v
        constructor
        · intro m
          obtain ⟨n, m1, m2⟩ := List.mem_map.mp m
          have e : n = v := by omega
          subst e
          exact h1.mp m1
        · intro m
          exact List.mem_map.mpr ⟨v, h1.mpr m, rfl⟩
theorem ok_unreachable (T : Tx K mg) : FnOk P w K mg base CX0 3 (a_unreachable K) (fd_unreachable K) ["heap"] (sp_unreachable) := by
  refine FunD.ok T.f_unreachable sc_unreachable (fun vs H Q E h => match vs, h with | [_], _ => rfl) (fun cdv A outer s H vs Q E hr h => ⟨_, PSs.nox (pss_cons (ps_set (i := 1) sc_unreachable.nd rfl (Or.inr rfl) (pe_call (ok_came_from T) (hr.mono (by omega)) (by rfl) T.g_came_from T.k_came_from T.b_came_from .nil pass0 (pa_cons (pv 0) (pa_cons (pe_call (ok_nodes_with_outside T) (hr.mono (by omega)) (by rfl) T.g_nodes_with_outside T.k_nodes_with_outside T.b_nodes_with_outside .nil pass0 (pa_cons (pv 0) pa_nil)) pa_nil))))
      (pss_one (ps_ret (pe_lc rfl sc_unreachable.nd (pi_list (pe_call (ok_live_nodes T) (hr.mono (by omega)) (by rfl) T.g_live_nodes T.k_live_nodes T.b_live_nodes .nil pass0 (pa_cons (pv 0) pa_nil))) (blkOk_by (own := [("node", 2)]) (N := N_unreachable) (sc := defScope s_unreachable) (by decide +kernel)) (fun _ _ _ _ _ => (pg_name (i := 2) sc_unreachable.nd rfl (Or.inl rfl) (by exact Or.inr rfl))) (fun _ _ _ _ _ => (pts_one (pt_cmp (pc_dnotin (hu_of hr) (pv 2) (pv 1))))) (fun _ _ _ _ _ => (pv 2)))))), ?_⟩)
  match vs, h with
  | [v0], h =>
    obtain ⟨hp, hh, hV, q⟩ := h
    have h40 := hV.n40
    walk_at "rd"
    refine Exists.intro hp ⟨hh, hV, fun p1 H1 hp1 ex1 ht1 => ?_⟩
    walk_at "rd"
    refine Exists.intro hp ⟨outN hp, p1, hh.mono ex1, hV, rfl, .inl ht1, outN_nd hp, fun v hv => (mem_outN.mp hv).1, fun p2 H2 fr hp2 ex2 hd cf cl => ?_⟩
    have hfl := cf.len
    have ex3 := ex1.trans ex2
    walk_at "rd"
    refine us_live_nodes (hh.mono ex3) h40 fun p3 H3 hp3 ex4 ht => ?_
    walk_at "rd"
    intro D hD
    refine lc_it (walk_list (xs := ivs (liveN hp.1))) (fun i H' => Acc H3 D (ivs (((liveN hp.1).take i).filter fun v => !rchB hp v)) H') (Acc.new (Ex.refl H3) hD) (fun i H' _ z => sqL_ex z.2.1 ht) ?_ ?_
    · rintro i x _ H4 hi acc ⟨rfl, hx⟩
      obtain ⟨n, hn, rfl⟩ := ivs_of hx
      have hd4 := acc.2.1 _ _ (ex4 _ _ hd)
      walk_at "rd"
      refine ⟨p2, _, rfl, DGet.k (k := .inl (n : Int)) hd4, ?_⟩
      rw [kvs_isSome cf.nd, keys_rch cf cl]
      walk_at "rd"
      have hle : (((liveN hp.1).take i).filter fun v => !rchB hp v).length ≤ 40 := by
        have h1 := List.length_filter_le (fun v => !rchB hp v) ((liveN hp.1).take i)
        have h2 := liveN_len hp.1
        rw [List.length_take] at h1
        omega
      refine if_b (fun hc => ?_) (fun hc => ?_)
      · walk_at "rd"
        refine acc_add acc (by rw [ivs_len]; omega) ?_
        rw [filter_take_yes hn hc, ivs_one]
      · rw [filter_take_no hn hc]
        exact acc
    · rintro H4 acc
      walk_at "rd"
      refine q D H4 (free_back (ex3.trans ex4) hD) ((ex3.trans ex4).trans acc.2.1) ?_
      rw [acc.2.2, ivs_len, List.take_length]
      rfl
theorem ok_reach_certificate (T : Tx K mg) : FnOk P w K mg base CX0 5 (a_reach_certificate K) (fd_reach_certificate K) ["heap", "node"] (sp_reach_certificate) := by
  refine FunD.ok T.f_reach_certificate sc_reach_certificate (fun vs H Q E h => match vs, h with | [_, _], _ => rfl) (fun cdv A outer s H vs Q E hr h => ⟨_, PSs.nox (pss_cons (ps_expr (pe_call (ok_require_node T) (hr.mono (by omega)) (by rfl) T.g_require_node T.k_require_node T.b_require_node .nil pass0 (pa_cons (pv 0) (pa_cons (pv 1) pa_nil))))
      (pss_cons (ps_set (i := 2) sc_reach_certificate.nd rfl (Or.inl rfl) (pe_call (ok_came_from T) (hr.mono (by omega)) (by rfl) T.g_came_from T.k_came_from T.b_came_from .nil pass0 (pa_cons (pv 0) (pa_cons (pe_call (ok_nodes_with_outside T) (hr.mono (by omega)) (by rfl) T.g_nodes_with_outside T.k_nodes_with_outside T.b_nodes_with_outside .nil pass0 (pa_cons (pv 0) pa_nil)) pa_nil))))
      (pss_cons (ps_if (pt_cmp (pc_dnotin (hu_of hr) (pv 1) (pv 2))) (pss_one (ps_ret (pe_tup (pa_cons pe_str (pa_cons (pe_callTy (cTuple (K := K)) (by rfl) T.z_tuple (by decide +kernel) (pa_cons (pe_call (ok_unreachable T) (hr.mono (by omega)) (by rfl) T.g_unreachable T.k_unreachable T.b_unreachable .nil pass0 (pa_cons (pv 0) pa_nil)) pa_nil)) pa_nil))))) pss_nil)
      (pss_cons (ps_set (i := 3) sc_reach_certificate.nd rfl (Or.inl rfl) (pe_lst (pa_cons (pv 1) pa_nil)))
      (pss_cons (ps_while PassesOwn.never (pt_cmpR op_notN (pe_dget (hu_of hr) (pv 2) (pe_ix (ixL (K := K)) (pv 3) (pe_un un_neg pe_int) (fun _ _ => rfl)) (fun _ _ => rfl)) pe_non (nomark _)) (pss_one (ps_expr (pe_bm PySem.F.plainAttrs_list PySem.F.slot_list_append PySem.F.type_list_append mt_append (pv 3) (pa_cons (pe_dget (hu_of hr) (pv 2) (pe_ix (ixL (K := K)) (pv 3) (pe_un un_neg pe_int) (fun _ _ => rfl)) (fun _ _ => rfl)) pa_nil)))))
      (pss_one (ps_ret (pe_tup (pa_cons pe_str (pa_cons (pe_callTy (cTuple (K := K)) (by rfl) T.z_tuple (by decide +kernel) (pa_cons (pe_revL (pv 3)) pa_nil)) pa_nil)))))))))), ?_⟩)
  match vs, h with
  | [v0, v1], h =>
    obtain ⟨hp, v, hh, hV, rfl, hl, q1, q2⟩ := h
    have h40 := hV.n40
    walk_at "rd"
    refine Exists.intro hp ⟨v, hh, rfl, hl, ?_⟩
    walk_at "rd"
    refine Exists.intro hp ⟨hh, hV, fun p1 H1 hp1 ex1 ht1 => ?_⟩
    walk_at "rd"
    refine Exists.intro hp ⟨outN hp, p1, hh.mono ex1, hV, rfl, .inl ht1, outN_nd hp, fun v hv => (mem_outN.mp hv).1, fun D H2 fr hp2 ex2 hd cf cl => ?_⟩
    have hfl := cf.len
    have ex3 := ex1.trans ex2
    walk_at "rd"
    refine ⟨D, _, rfl, DGet.k (k := .inl (v : Int)) hd, ?_⟩
    rw [kvs_isSome cf.nd, keys_rch cf cl]
    walk_at "rd"
    refine if_b (fun hc => ?_) (fun hc => ?_)
    · walk_at "rd"
      refine Exists.intro hp ⟨hh.mono ex3, hV, fun p3 H3 hp3 ex4 ht3 => ?_⟩
      walk_at "rd"
      refine rd_tupleOfL (sq_of ht3) fun p4 hp4 => ?_
      walk_at "rd"
      rename_i p5 hp5
      exact q2 (by simpa using hc) p5 p4 _ (((ex3.trans ex4).trans (Ex.new hp4)).trans (Ex.new hp5)) upd_same (upd_fr upd_same hp5)
    · have hr1 : rchB hp v = true := by simpa using hc
      have hvk : v ∈ keys fr := by
        have := keys_rch cf cl v
        rw [hr1] at this
        exact of_decide_eq_true this
      walk_at "rd"
      rename_i L hL
      have hL0 : H L = none := free_back ex3 hL
      refine ⟨fun m σ H' => ∃ B b i q, σ = [some v0, some (.int (v : Nat)), some (.ref D), some (.ref L)] ∧ Ex H H' ∧ H' D = some (.dK (kvsF fr)) ∧ H' L = some (.lst (ivs B)) ∧ B[0]? = some v ∧ B.getLast? = some b ∧ fr[(i : Nat)]? = some (b, q) ∧ (∀ n ∈ B, n ∈ keys fr) ∧ (∀ (k a c : Nat), B[k]? = some c → B[k + 1]? = some a → Edge hp.1 a c) ∧ B.length + i ≤ fr.length ∧ m = i, ?_, ?_⟩
      · obtain ⟨qv, hqv⟩ := keys_of hvk
        obtain ⟨i, hi⟩ := List.getElem?_of_mem hqv
        refine ⟨i, [v], v, i, qv, rfl, ex_new ex3 hL, upd_fr hd hL, upd_same, rfl, rfl, hi, by simp; exact hvk, fun k a c h1 h2 => by simp at h2, ?_, rfl⟩
        have := (List.getElem?_eq_some_iff.mp hi).1
        simp
        omega
      · rintro m σ H3 ⟨B, b, i, qb, rfl, e3, d3, l3, hB0, hBl, hfi, hBk, hBe, hBs, rfl⟩
        have hgl : (ivs B).getLast? = some (.int (b : Nat)) := by simp [ivs, hBl]
        have hbm := List.mem_of_getElem? hfi
        have hfil := (List.getElem?_eq_some_iff.mp hfi).1
        walk_at "rd"
        refine rd_ixLast (sq_of l3) hgl ?_
        refine ⟨D, ent qb, rfl, by rw [← kvs_some cf.nd hbm]; exact DGet.k (k := .inl (b : Int)) d3, ?_⟩
        cases qb with
        | none =>
          walk_at "rd"
          refine ⟨_, rfl, L, ivs B, rfl, sq_of l3, fun p6 hp6 => ?_⟩
          walk_at "rd"
          refine rd_tupleOfL (sq_of upd_same) fun p7 hp7 => ?_
          walk_at "rd"
          rename_i p8 hp8
          have erev : (ivs B).reverse = ivs B.reverse := by simp [ivs, List.map_reverse]
          have hbo : b ∈ outN hp := cf.no b hbm
          have hBlen : 0 < B.length := (List.getElem?_eq_some_iff.mp hB0).1
          refine q1 hr1 p8 p7 B.reverse _ (((e3.trans (Ex.new hp6)).trans (Ex.new hp7)).trans (Ex.new hp8)) upd_same (upd_fr (by rw [← erev]; exact upd_same) hp8) ⟨⟨b, ?_, (mem_outN.mp hbo).2⟩, ?_, fun n hn => cf.lv n (hBk n (List.mem_reverse.mp hn)), ?_⟩ (by rw [List.length_reverse]; omega)
          · rw [List.getElem?_reverse hBlen, ← hBl, List.getLast?_eq_getElem?]
            rfl
          · rw [List.getLast?_reverse, List.head?_eq_getElem?]
            exact hB0
          · intro k x y h1 h2
            have hk2 : k + 1 < B.length := by
              have := (List.getElem?_eq_some_iff.mp h2).1
              rwa [List.length_reverse] at this
            rw [List.getElem?_reverse (by omega)] at h1 h2
            have e : B.length - 1 - k = (B.length - 1 - (k + 1)) + 1 := by omega
            rw [e] at h1
            exact hBe _ x y h2 h1
        | some p =>
          obtain ⟨hedge, j, qj, hj1, hj2⟩ := cf.pr _ _ _ hfi
          walk_at "rd"
          refine ⟨fun σ H' => ∃ B b q, σ = [some v0, some (.int (v : Nat)), some (.ref D), some (.ref L)] ∧ Ex H H' ∧ H' D = some (.dK (kvsF fr)) ∧ H' L = some (.lst (ivs B)) ∧ B[0]? = some v ∧ B.getLast? = some b ∧ fr[(j : Nat)]? = some (b, q) ∧ (∀ n ∈ B, n ∈ keys fr) ∧ (∀ (k a c : Nat), B[k]? = some c → B[k + 1]? = some a → Edge hp.1 a c) ∧ B.length + j ≤ fr.length,
            fun σ' H' ⟨B, b, q, g1, g2, g3, g4, g5, g6, g7, g8, g9, g10⟩ => ⟨j, hj1, B, b, j, q, g1, g2, g3, g4, g5, g6, g7, g8, g9, g10, rfl⟩, ?_⟩
          walk_at "rd"
          refine rd_ixLast (sq_of l3) hgl ?_
          refine ⟨D, ent (some p), rfl, by rw [← kvs_some cf.nd hbm]; exact DGet.k (k := .inl (b : Int)) d3, ?_⟩
          walk_at "rd"
          refine rd_append l3 (by rw [ivs_len]; exact lt40 (by omega)) ?_
          have hLD : D ≠ L := ne_of d3 l3 (by intro z; cases z)
          refine ⟨B ++ [p], p, qj, rfl, ex_set e3 hL0, by rw [upd_ne hLD]; exact d3, by rw [upd_same, ivs_one], ?_, by simp, hj2, ?_, ?_, by simp; omega⟩
          · have hBlen : 0 < B.length := (List.getElem?_eq_some_iff.mp hB0).1
            rw [List.getElem?_append_left hBlen]
            exact hB0
          · intro n hn
            rcases List.mem_append.mp hn with hn | hn
            · exact hBk n hn
            · cases List.mem_singleton.mp hn
              exact keys_mem (List.mem_of_getElem? hj2)
          · intro k a c h1 h2
            have hk := (List.getElem?_eq_some_iff.mp h2).1
            simp at hk
            by_cases hk2 : k + 1 < B.length
            · rw [List.getElem?_append_left (by omega)] at h1
              rw [List.getElem?_append_left hk2] at h2
              exact hBe k a c h1 h2
            · have e1 : k + 1 = B.length := by omega
              rw [List.getElem?_append_right (by omega)] at h2
              rw [List.getElem?_append_left (by omega)] at h1
              have e2 : k + 1 - B.length = 0 := by omega
              rw [e2] at h2
              cases h2
              have e3 : k = B.length - 1 := by omega
              rw [e3, ← List.getLast?_eq_getElem?, hBl] at h1
              cases h1
              exact hedge
theorem ok_strip_all (T : Tx K mg) : FnOk P w K mg base CX0 88 (a_strip_all K) (fd_strip_all K) ["run", "nodes"] (sp_strip_all K) := by
  refine FunD.ok T.f_strip_all sc_strip_all (fun vs H Q E h => match vs, h with | [_, _], _ => rfl) (fun cdv A outer s H vs Q E hr h => ⟨_, PSs.nox (pss_one (ps_for PassesOwn.never rfl (pi_list (pv 1)) (pg_name (i := 2) sc_strip_all.nd rfl (Or.inl rfl) (by exact Or.inl rfl)) (pss_one (ps_if (pt_cmpR op_notN (pe_ix (ixL (K := K)) (pe_fld (pv 0) rfl) (pv 2) (fun _ _ => rfl)) pe_non (nomark _)) (pss_one (ps_expr (pe_meth (pv 0) T.c_Unwinding T.t_Unwinding_strip (ok_Unwinding_strip T) (hr.mono (by omega)) T.b_Unwinding_strip .nil pass0 (pa_cons (pv 2) pa_nil)))) pss_nil)))), ?_⟩)
  match vs, h with
  | [v0, v1], h =>
    obtain ⟨H0, A, B, s, l, ns, s', rfl, rfl, w, hl, hs, q⟩ := h
    have hl1 := w.ex _ _ hl
    walk_at "rd"
    refine for_it (walk_list (xs := ivs ns)) (fun i σ H' => (∃ x, σ = [some (.ref A.u), some (.ref l), x]) ∧ ∃ si, UW K H0 A B H' si ∧ stripAll B (ns.drop i) si = some s') ⟨⟨_, rfl⟩, s, w, hs⟩ (fun i σ H' _ z => let ⟨_, _, z, _⟩ := z; sq_of (z.ex _ _ hl)) ?_ ?_
    · rintro i x _ _ H1 hi ⟨⟨x1, rfl⟩, si, w1, hsi⟩ ⟨rfl, hx⟩
      obtain ⟨v, hv, rfl⟩ := ivs_of hx
      obtain ⟨hiv, hv2⟩ := List.getElem?_eq_some_iff.mp hv
      rw [List.drop_eq_getElem_cons hiv, hv2] at hsi
      obtain ⟨pk, t0⟩ := w1.at0
      have t1 := w1.at1
      unfold stripAll at hsi
      split at hsi
      · rename_i hr1
        have hrv : (si.rows.mapIdx A.rowV)[v]? = some .non := mapIdx_get (A := A) hr1
        walk_at "rd"
        exact ⟨⟨_, rfl⟩, si, w1, hsi⟩
      · rename_i ys hr1
        have hrv : (si.rows.mapIdx A.rowV)[v]? = some (.ref (A.row v)) := mapIdx_get (A := A) hr1
        obtain ⟨sj, hsj, hrest⟩ := Option.bind_eq_some_iff.mp hsi
        walk_at "rd"
        exact Exists.intro H0 ⟨A, B, si, v, sj, rfl, rfl, w1, hsj, fun H2 w2 => ⟨⟨_, rfl⟩, sj, w2, hrest⟩⟩
      · cases hsi
    · rintro σ H1 ⟨⟨x1, rfl⟩, si, w1, hsi⟩
      rw [ivs_len, List.drop_length] at hsi
      cases hsi
      walk_at "rd"
      exact q H1 w1
theorem ok_collect (T : Tx K mg) : FnOk P w K mg base CX0 89 (a_collect K) (fd_collect K) ["heap", "limit"] (sp_collect) := by
  refine FunD.ok T.f_collect sc_collect (fun vs H Q E h => match vs, h with | [_, _], _ => rfl) (fun cdv A outer s H vs Q E hr h => ⟨_, PSs.nox (pss_cons (ps_set (i := 2) sc_collect.nd rfl (Or.inl rfl) (pe_make T.m_Unwinding (ok_Unwinding_init T) (hr.mono (by omega)) (by rfl) T.g_Unwinding T.b_Unwinding_init .nil pass0 (pa_cons (pv 0) (pa_cons (pv 1) pa_nil))))
      (pss_cons (ps_expr (pe_call (ok_strip_all T) (hr.mono (by omega)) (by rfl) T.g_strip_all T.k_strip_all T.b_strip_all .nil pass0 (pa_cons (pv 2) (pa_cons (pe_call (ok_unreachable T) (hr.mono (by omega)) (by rfl) T.g_unreachable T.k_unreachable T.b_unreachable .nil pass0 (pa_cons (pv 0) pa_nil)) pa_nil))))
      (pss_one (ps_ret (pe_meth0 (pv 2) T.c_Unwinding T.t_Unwinding_result (ok_Unwinding_result T) (hr.mono (by omega)) T.b_Unwinding_result .nil pass0))))), ?_⟩)
  match vs, h with
  | [v0, v1], h =>
    obtain ⟨hp, B, s', hh, hV, rfl, hs, h40, q⟩ := h
    walk_at "rd"
    intro x dx hx hdx hne
    refine us_init hh hV hx hdx hne fun A H1 hA w1 => ?_
    subst hA
    refine ⟨rfl, ?_⟩
    walk_at "rd"
    refine Exists.intro hp ⟨hh.mono w1.ex, hV, fun l H2 hl ex2 ht => ?_⟩
    walk_at "rd"
    have w2 := w1.base ex2 hl ht
    refine Exists.intro (upd H l (.lst (ivs (unr hp)))) ⟨A, B, _, l, _, s', rfl, rfl, w2, upd_same, hs, fun H3 w3 => ?_⟩
    obtain ⟨pk3, t03⟩ := w3.at0
    walk_at "rd"
    refine Exists.intro (upd H l (.lst (ivs (unr hp)))) ⟨A, B, s', rfl, w3, h40, fun r H4 ex4 hr4 => q r H4 ((Ex.trans (Ex.new (free_back w1.ex hl)) w3.ex).trans ex4) hr4⟩
end
end Sf
/-! A store as it stands in the machine's heap. -/
namespace Sf
open PySem PySem.Spec PyProof.Rows L2 Evl
structure SS where
  hp : Hv
  lim : Int
  fr : List Nat
  cd : List Nat
  don : List (Bool × List Nat)
structure SA where
  s : Addr
  dx : Addr
  sn : Addr
  rc : Addr
def SnapV (H : Hp) (v : V) (hp : Hv) (lim : Int) (fr cd : List Nat) : Prop := ∃ t f c h, v = .ref t ∧ H t = some (.tup [h, .int lim, .ref f, .ref c]) ∧ HeapV H h hp ∧ H f = some (.tup (ivs fr)) ∧ H c = some (.tup (ivs cd))
/-- an action whose name is n -/
def ActV (H : Hp) (a : Addr) (b : Bool) : Prop := ∃ (nm : Str) (r : List V), H a = some (.tup (.str nm :: r)) ∧ decide (nm = "new") = b
def RecV (H : Hp) (v : V) (e : Bool × List Nat) : Prop := ∃ t a l, v = .ref t ∧ H t = some (.tup [.ref a, .ref l]) ∧ ActV H a e.1 ∧ H l = some (.tup (ivs e.2))
def RecsV (H : Hp) (vs : List V) (es : List (Bool × List Nat)) : Prop := vs.length = es.length ∧ ∀ (i : Nat) e, es[i]? = some e → ∃ v, vs[i]? = some v ∧ RecV H v e
def SA.fs (A : SA) : List (Str × V) := [("snapshots", .ref A.sn), ("recorded", .ref A.rc), ("observer", .non), ("is_busy", .bl false)]
structure SW (K : PySem.W.Frag) (A : SA) (H : Hp) (ss : SS) : Prop where
  at0 : H A.s = some (.ins (C_Store K) A.dx A.fs)
  at1 : ∃ vs v, H A.sn = some (.lst (vs ++ [v])) ∧ vs.length = ss.don.length ∧ SnapV H v ss.hp ss.lim ss.fr ss.cd
  at2 : ∃ vs, H A.rc = some (.lst vs) ∧ RecsV H vs ss.don
  ne : A.sn ≠ A.rc
  sm : ss.don.length ≤ 1000
/-- all but the store's two lists stands -/
def Frm (A : SA) (H H1 : Hp) : Prop := ∀ a o, a ≠ A.sn → a ≠ A.rc → H a = some o → H1 a = some o
section
variable {K : PySem.W.Frag} {H H1 H2 : Hp} {A : SA} {ss : SS} {v : V}
theorem HeapV.tk {hp : Hv} (e : TupK H H1) : HeapV H v hp → HeapV H1 v hp := fun ⟨a, s, o, h1, h2, ⟨b, vs, h3, h4, h5⟩, ⟨c, h6, h7⟩⟩ =>
  ⟨a, s, o, h1, e _ _ h2, ⟨b, vs, h3, e _ _ h4, ⟨h5.1, fun i r hi => let ⟨x, y, z⟩ := h5.2 i r hi; ⟨x, y, match r, z with | none, z => z | some _, ⟨p, q, t⟩ => ⟨p, q, e _ _ t⟩⟩⟩⟩, ⟨c, h6, e _ _ h7⟩⟩
theorem SnapV.tk {hp : Hv} {lim : Int} {fr cd : List Nat} (e : TupK H H1) : SnapV H v hp lim fr cd → SnapV H1 v hp lim fr cd := fun ⟨t, f, c, h, h1, h2, h3, h4, h5⟩ => ⟨t, f, c, h, h1, e _ _ h2, h3.tk e, e _ _ h4, e _ _ h5⟩
theorem ActV.tk {a : Addr} {b : Bool} (e : TupK H H1) : ActV H a b → ActV H1 a b := fun ⟨n, r, h, h2⟩ => ⟨n, r, e _ _ h, h2⟩
theorem RecV.tk {x : Bool × List Nat} (e : TupK H H1) : RecV H v x → RecV H1 v x := fun ⟨t, a, l, h1, h2, h3, h4⟩ => ⟨t, a, l, h1, e _ _ h2, h3.tk e, e _ _ h4⟩
theorem RecsV.tk {vs : List V} {es : List (Bool × List Nat)} (e : TupK H H1) (h : RecsV H vs es) : RecsV H1 vs es := ⟨h.1, fun i x hi => let ⟨v, a, b⟩ := h.2 i x hi; ⟨v, a, b.tk e⟩⟩
theorem RecsV.add {vs : List V} {es : List (Bool × List Nat)} {e : Bool × List Nat} (h : RecsV H vs es) (hv : RecV H v e) : RecsV H (vs ++ [v]) (es ++ [e]) := by
  refine ⟨by simp [h.1], fun i e' hi => ?_⟩
  by_cases hl : i < es.length
  · rw [List.getElem?_append_left hl] at hi
    rw [List.getElem?_append_left (by rw [h.1]; exact hl)]
    exact h.2 i e' hi
  · rw [List.getElem?_append_right (by omega)] at hi
    rw [List.getElem?_append_right (by rw [h.1]; omega), h.1]
    have h0 : i - es.length = 0 := by
      have := (List.getElem?_eq_some_iff.mp hi).1
      simp at this
      omega
    rw [h0] at hi ⊢
    cases hi
    exact ⟨v, rfl, hv⟩
theorem SW.mono (w : SW K A H ss) (e : Ex H H1) : SW K A H1 ss := by
  obtain ⟨vs, v, h1, h2, h3⟩ := w.at1
  obtain ⟨us, h4, h5⟩ := w.at2
  exact ⟨e _ _ w.at0, ⟨vs, v, e _ _ h1, h2, h3.tk (.ex e)⟩, ⟨us, e _ _ h4, h5.tk (.ex e)⟩, w.ne, w.sm⟩
theorem Frm.ex (e : Ex H H1) : Frm A H H1 := fun a o _ _ h => e a o h
theorem Frm.trans (f : Frm A H H1) (g : Frm A H1 H2) : Frm A H H2 := fun a o n1 n2 h => g a o n1 n2 (f a o n1 n2 h)
theorem SW.tk (w : SW K A H ss) (f : Frm A H H1) : TupK H H1 := fun a xs h => by
  obtain ⟨vs, v, h1, h2, h3⟩ := w.at1
  obtain ⟨us, h4, h5⟩ := w.at2
  exact f a _ (ne_of h h1 (by intro z; cases z)) (ne_of h h4 (by intro z; cases z)) h
theorem Frm.get (f : Frm A H H1) (w : SW K A H ss) {a : Addr} {o : HO} (h : H a = some o) (hn : ∀ xs, o ≠ .lst xs) : H1 a = some o := by
  obtain ⟨vs, v, h1, h2, h3⟩ := w.at1
  obtain ⟨us, h4, h5⟩ := w.at2
  exact f a _ (ne_of h h1 (hn _)) (ne_of h h4 (hn _)) h
/-- one more is committed -/
theorem SW.commit (w : SW K A H ss) {vs rs : List V} {t : Addr} {x : V} {hp : Hv} {lim : Int} {fr cd : List Nat} {e : Bool × List Nat} (h1 : H A.sn = some (.lst vs)) (h2 : H A.rc = some (.lst rs))
    (hx : SnapV H x hp lim fr cd) (ht : upd H A.sn (.lst (vs ++ [x])) t = none) {a l : Addr} (ha : ActV H a e.1) (hl : H l = some (.tup (ivs e.2))) (hs : ss.don.length < 1000) :
    SW K A (upd (upd (upd H A.sn (.lst (vs ++ [x]))) t (.tup [.ref a, .ref l])) A.rc (.lst (rs ++ [.ref t]))) ⟨hp, lim, fr, cd, ss.don ++ [e]⟩ ∧
    Frm A H (upd (upd (upd H A.sn (.lst (vs ++ [x]))) t (.tup [.ref a, .ref l])) A.rc (.lst (rs ++ [.ref t]))) := by
  obtain ⟨vs', v', q1, q2, q3⟩ := w.at1
  obtain ⟨us, q4, q5⟩ := w.at2
  rw [h1] at q1
  cases q1
  rw [h2] at q4
  cases q4
  have k1 : TupK H (upd H A.sn (.lst (vs' ++ [v'] ++ [x]))) := .lst h1
  have h2' : upd H A.sn (.lst (vs' ++ [v'] ++ [x])) A.rc = some (.lst rs) := by rw [upd_ne (Ne.symm w.ne)]; exact h2
  have hts : A.sn ≠ t := by
    intro e
    rw [← e, upd_same] at ht
    cases ht
  have htr : A.rc ≠ t := ne_of_none h2' ht
  have k2 : TupK (upd H A.sn (.lst (vs' ++ [v'] ++ [x]))) (upd (upd H A.sn (.lst (vs' ++ [v'] ++ [x]))) t (.tup [.ref a, .ref l])) := .ex (Ex.new ht)
  have h2'' : upd (upd H A.sn (.lst (vs' ++ [v'] ++ [x]))) t (.tup [.ref a, .ref l]) A.rc = some (.lst rs) := upd_fr h2' ht
  have k3 : TupK (upd (upd H A.sn (.lst (vs' ++ [v'] ++ [x]))) t (.tup [.ref a, .ref l])) (upd (upd (upd H A.sn (.lst (vs' ++ [v'] ++ [x]))) t (.tup [.ref a, .ref l])) A.rc (.lst (rs ++ [.ref t]))) := .lst h2''
  have kk : TupK H (upd (upd (upd H A.sn (.lst (vs' ++ [v'] ++ [x]))) t (.tup [.ref a, .ref l])) A.rc (.lst (rs ++ [.ref t]))) := fun b xs h => k3 _ _ (k2 _ _ (k1 _ _ h))
  have hss : A.s ≠ A.sn := ne_of w.at0 h1 (by intro z; cases z)
  have hsr : A.s ≠ A.rc := ne_of w.at0 h2 (by intro z; cases z)
  have hst : A.s ≠ t := ne_of_none (show upd H A.sn (.lst (vs' ++ [v'] ++ [x])) A.s = some _ by rw [upd_ne hss]; exact w.at0) ht
  refine ⟨⟨?_, ⟨vs' ++ [v'], x, ?_, ?_, hx.tk kk⟩, ⟨_, upd_same, ?_⟩, w.ne, ?_⟩, ?_⟩
  · rw [upd_ne hsr, upd_ne hst, upd_ne hss]
    exact w.at0
  · rw [upd_ne w.ne, upd_ne hts]
    exact upd_same
  · simp [q2]
  · exact (q5.tk kk).add ⟨t, a, l, rfl, k3 _ _ upd_same, ha.tk kk, kk _ _ hl⟩
  · simp
    omega
  · intro b o n1 n2 hb
    have hbt : b ≠ t := ne_of_none (show upd H A.sn (.lst (vs' ++ [v'] ++ [x])) b = some o by rw [upd_ne n1]; exact hb) ht
    rw [upd_ne n2, upd_ne hbt, upd_ne n1]
    exact hb
end
end Sf
/-! store: the small ones -/
namespace Sf
open PySem PySem.Spec PyProof.Rows L2 Evl
local macro_rules | `(tactic| walk_at "hx") => `(tactic| first | assumption | exact upd_same | (with_reducible refine upd_fr ?_ (by assumption); walk_at "hx") | (refine ex_get (by assumption) ?_; walk_at "hx"))
local macro_rules | `(tactic| walk_at "ex") => `(tactic| first | assumption | exact Ex.refl _ | (with_reducible refine ex_new ?_ (by assumption); walk_at "ex") | (refine Ex.trans ?_ (by assumption); walk_at "ex"))
local macro_rules | `(tactic| walk_at "sqT") => `(tactic| first | (with_reducible assumption) | exact st_of (by walk_at "hx"))
local macro_rules | `(tactic| walk_at "sqL") => `(tactic| first | (with_reducible assumption) | exact sq_of (by walk_at "hx"))
local macro_rules | `(tactic| walk_at "sq") => `(tactic| first | (with_reducible assumption) | exact st_of (by walk_at "hx") | exact sq_of (by walk_at "hx"))
local macro_rules | `(tactic| walk_at "ty") => `(tactic| first | exact TyX.base (.int _) | exact TyX.base .non | exact TyX.base (.bl _) | exact TyX.base (.str _) | exact TyX.base (.tup (by walk_at "hx")) | exact TyX.base (.lst (by walk_at "hx")))
local macro_rules | `(tactic| walk_at "rd1") => `(tactic| first
  | with_reducible refine rd_seq ?_
  | ((with_reducible refine' rd_var ?h ?_); (case h => exact rfl))
  | with_reducible refine rd_c ?_
  | with_reducible refine rd_op ?_
  | with_reducible refine rd_un ?_
  | with_reducible refine rd_CB ?_
  | with_reducible refine rd_call ?_
  | with_reducible refine rd_cons ?_
  | with_reducible refine rd_nil ?_
  | with_reducible refine rd_I0 ?_
  | with_reducible refine rd_U ?_
  | with_reducible refine rd_ret ?_
  | with_reducible refine rd_retN ?_
  | with_reducible refine rd_next ?_
  | with_reducible refine rd_asg ?_
  | with_reducible refine rd_gName ?_
  | with_reducible refine rd_drop ?_
  | with_reducible refine rd_ifS ?_
  | with_reducible refine rd_test ?_
  | with_reducible refine rd_B ?_
  | with_reducible refine rd_notT ?_
  | with_reducible refine rd_andT ?_
  | with_reducible refine rd_orT ?_
  | with_reducible refine rd_andV ?_
  | with_reducible refine rd_orV ?_
  | with_reducible refine rd_notV ?_
  | with_reducible refine rd_ifE ?_
  | with_reducible refine rd_chain ?_
  | with_reducible refine rd_tup ?_
  | with_reducible refine rd_lst ?_
  | with_reducible refine rd_k ?_
  | with_reducible refine rd_eqS rfl ?_
  | with_reducible refine rd_neS rfl ?_
  | ((with_reducible refine rd_and (small40 (Nat.le_of_ble_eq_true rfl)) ?_); intro _ _)
  | (with_reducible refine' rd_isiT2 (k := "tuple") ?ty ?hx kb_tl kb_tt ?_; (case ty => walk_at "ty"); (case hx => walk_at "hx"))
  | with_reducible refine us_is_integer ?_
  | with_reducible refine us_is_between ?_
  | ((with_reducible refine' rd_ixT0 ?sq ?g ?_); (case sq => walk_at "sqT"); (case g => first | exact rfl | assumption))
  | ((with_reducible refine' rd_ixT1 ?sq ?g ?_); (case sq => walk_at "sqT"); (case g => first | exact rfl | assumption))
  | ((with_reducible refine' rd_ixT2 ?sq ?g ?_); (case sq => walk_at "sqT"); (case g => first | exact rfl | assumption))
  | ((with_reducible refine' rd_ixT3 ?sq ?g ?_); (case sq => walk_at "sqT"); (case g => first | exact rfl | assumption))
  | ((with_reducible refine' rd_ixT4 ?sq ?g ?_); (case sq => walk_at "sqT"); (case g => first | exact rfl | assumption))
  | ((with_reducible refine' rd_ixL0 ?sq ?g ?_); (case sq => walk_at "sqL"); (case g => first | exact rfl | assumption))
  | ((with_reducible refine' rd_ixL1 ?sq ?g ?_); (case sq => walk_at "sqL"); (case g => first | exact rfl | assumption))
  | ((with_reducible refine' rd_ixL2 ?sq ?g ?_); (case sq => walk_at "sqL"); (case g => first | exact rfl | assumption))
  | ((with_reducible refine' rd_ixT ?sq ?g ?_); (case sq => walk_at "sqT"); (case g => first | assumption | exact rfl))
  | ((with_reducible refine' rd_ixL ?sq ?g ?_); (case sq => walk_at "sqL"); (case g => first | assumption | exact rfl))
  | with_reducible refine rd_sl ?_
  | with_reducible refine rd_noPart ?_
  | with_reducible refine rd_part ?_
  | with_reducible refine rd_pt1 ?_
  | with_reducible refine rd_make ?_
  | with_reducible refine rd_callN ?_
  | with_reducible refine rd_makeN ?_
  | with_reducible refine rd_revT ?_
  | with_reducible refine rd_dc ?_
  | with_reducible refine rd_notinD ?_
  | with_reducible refine rd_inD ?_
  | with_reducible refine rd_dget ?_
  | with_reducible refine rd_dput ?_
  | ((with_reducible refine' rd_fld1 ?h ?c ?n ?l ?_); (case h => walk_at "hx"); (case c => first | exact Tx.c_Unwinding (by assumption) | exact Tx.c_Store (by assumption)); (case n => first | exact Tx.n_Unwinding_rows (by assumption) | exact Tx.n_Unwinding_references (by assumption) | exact Tx.n_Unwinding_tallies (by assumption) | exact Tx.n_Unwinding_bound (by assumption) | exact Tx.n_Unwinding_log (by assumption) | exact Tx.n_Unwinding_shelf (by assumption) | exact Tx.n_Unwinding_peak (by assumption) | exact Tx.n_Unwinding_events (by assumption) | exact Tx.n_Store_snapshots (by assumption) | exact Tx.n_Store_recorded (by assumption) | exact Tx.n_Store_observer (by assumption) | exact Tx.n_Store_is_busy (by assumption)); (case l => exact rfl))
  | ((with_reducible refine' rd_sFld1 ?h ?c ?n ?l ?_); (case h => walk_at "hx"); (case c => first | exact Tx.c_Unwinding (by assumption) | exact Tx.c_Store (by assumption)); (case n => first | exact Tx.n_Unwinding_rows (by assumption) | exact Tx.n_Unwinding_references (by assumption) | exact Tx.n_Unwinding_tallies (by assumption) | exact Tx.n_Unwinding_bound (by assumption) | exact Tx.n_Unwinding_log (by assumption) | exact Tx.n_Unwinding_shelf (by assumption) | exact Tx.n_Unwinding_peak (by assumption) | exact Tx.n_Unwinding_events (by assumption) | exact Tx.n_Store_snapshots (by assumption) | exact Tx.n_Store_recorded (by assumption) | exact Tx.n_Store_observer (by assumption) | exact Tx.n_Store_is_busy (by assumption)); (case l => exact Nat.le_of_ble_eq_true rfl))
  | ((with_reducible refine' rd_meth1 ?h ?l ?_); (case h => walk_at "hx"); (case l => exact rfl))
  | ((with_reducible refine' rd_and (rd_tyL ?h) ?_); (case h => walk_at "hx"))
  | ((with_reducible refine' rd_rng1 ?hn ?_); (case hn => first | omega | (simp; omega)))
  | with_reducible refine rd_nx ?_
  | with_reducible refine rd_rt ?_
  | with_reducible refine rd_ct ?_
  | with_reducible refine rd_bk ?_
  | ((with_reducible refine' rd_isi ?ty ?kb ?_); (case ty => walk_at "ty"); (case kb => first | exact kb_ii | exact kb_ib | exact kb_tt | exact kb_tl | exact kb_ss | exact kb_nt))
  | with_reducible refine rd_for ?_
  | with_reducible refine rd_iTup ?_
  | with_reducible refine rd_iList ?_
  | with_reducible refine rd_iRng1 ?_
  | with_reducible refine rd_iRng2 ?_
  | with_reducible refine rd_iEnumT ?_
  | with_reducible refine rd_iEnum ?_
  | with_reducible refine rd_lc ?_
  | with_reducible refine rd_yes ?_
  | ((with_reducible refine' rd_gTup ?sq ?n ?_); (case sq => walk_at "sqT"); (case n => exact rfl))
  | with_reducible refine rd_gCons ?_
  | with_reducible refine rd_gNil ?_
  | with_reducible refine rd_fld ?_
  | with_reducible refine rd_meth ?_
  | with_reducible refine rd_sFld ?_
  | with_reducible refine rd_BM ?_
  | with_reducible refine rd_BM0 ?_
  | ((with_reducible refine' rd_orRow ?h (by assumption) ?_); (case h => exact rfl))
  | with_reducible refine rd_augS ?_
  | with_reducible refine rd_ip ?_
  | with_reducible refine rd_gSub ?_
  | ((with_reducible refine' rd_aug ?h ?_); (case h => exact rfl))
  | with_reducible refine rd_par ?_
  | with_reducible refine rd_par1 ?_
  | ((with_reducible refine' rd_lenT ?sq ?_); (case sq => exact st_of (by walk_at "hx")))
  | ((with_reducible refine' rd_lenL ?sq ?_); (case sq => exact sq_of (by walk_at "hx")))
  | ((with_reducible refine' rd_itt ?sq ?_); (case sq => walk_at "sqT"))
  | ((with_reducible refine' rd_itl ?sq ?_); (case sq => walk_at "sqL"))
  | ((with_reducible refine' rd_enumT ?sq ?_); (case sq => walk_at "sqT"))
  | ((with_reducible refine' rd_enumL ?sq ?_); (case sq => walk_at "sqL"))
  | with_reducible refine rd_and rfl ?_
  | with_reducible refine if_t rfl ?_
  | with_reducible refine if_f rfl ?_)
local macro_rules | `(tactic| walk_at "rd") => `(tactic| repeat (walk_at "rd1"))
def sp_Store_heap (K : PySem.W.Frag) : Sp := fun vs H Q _ => match vs with
  | [x] => ∃ A ss, x = .ref (SA.s A) ∧ SW K A H ss ∧ ∀ v, HeapV H v ss.hp → Q v H
  | _ => False
def sp_Store_current_limit (K : PySem.W.Frag) : Sp := fun vs H Q _ => match vs with
  | [x] => ∃ A ss, x = .ref (SA.s A) ∧ SW K A H ss ∧ Q (.int ss.lim) H
  | _ => False
def sp_Store_free_numbers (K : PySem.W.Frag) : Sp := fun vs H Q _ => match vs with
  | [x] => ∃ A ss, x = .ref (SA.s A) ∧ SW K A H ss ∧ ∀ a, H a = some (.tup (ivs ss.fr)) → Q (.ref a) H
  | _ => False
def sp_Store_candidates (K : PySem.W.Frag) : Sp := fun vs H Q _ => match vs with
  | [x] => ∃ A ss, x = .ref (SA.s A) ∧ SW K A H ss ∧ ∀ a, H a = some (.tup (ivs ss.cd)) → Q (.ref a) H
  | _ => False
def ActsV (H : Hp) (vs : List V) (es : List (Bool × List Nat)) : Prop := vs.length = es.length ∧ ∀ (i : Nat) e, es[i]? = some e → ∃ a, vs[i]? = some (.ref a) ∧ ActV H a e.1
def sp_Store_history (K : PySem.W.Frag) : Sp := fun vs H Q _ => match vs with
  | [x] => ∃ A ss, x = .ref (SA.s A) ∧ SW K A H ss ∧ ∀ p ws H', Ex H H' → H' p = some (.tup ws) → ActsV H' ws ss.don → Q (.ref p) H'
  | _ => False
def logs (es : List (Bool × List Nat)) : List Nat := es.flatMap Prod.snd
def sp_Store_destroyed (K : PySem.W.Frag) : Sp := fun vs H Q _ => match vs with
  | [x] => ∃ A ss, x = .ref (SA.s A) ∧ SW K A H ss ∧ (logs ss.don).length ≤ 100000 ∧ ∀ p H', Ex H H' → H' p = some (.tup (ivs (logs ss.don))) → Q (.ref p) H'
  | _ => False
def sp_Store_len (K : PySem.W.Frag) : Sp := fun vs H Q _ => match vs with
  | [x] => ∃ A ss, x = .ref (SA.s A) ∧ SW K A H ss ∧ ss.hp.1.length ≤ 40 ∧ ∀ H', Ex H H' → Q (.int ((liveN ss.hp.1).length : Nat)) H'
  | _ => False
def sp_Store_require_idle (K : PySem.W.Frag) : Sp := fun vs H Q _ => match vs with
  | [x] => ∃ A ss, x = .ref (SA.s A) ∧ SW K A H ss ∧ Q .non H
  | _ => False
def sp_Store_notify (K : PySem.W.Frag) : Sp := fun vs H Q _ => match vs with
  | [x, _, _] => ∃ A ss, x = .ref (SA.s A) ∧ SW K A H ss ∧ Q .non H
  | _ => False
def sp_Store_commit (K : PySem.W.Frag) : Sp := fun vs H Q _ => match vs with
  | [x, y, z, t] => ∃ A ss a b l log hp lim fr cd, x = .ref (SA.s A) ∧ SW K A H ss ∧ y = .ref a ∧ ActV H a b ∧ z = .ref l ∧ H l = some (.tup (ivs log)) ∧ SnapV H t hp lim fr cd ∧ ss.don.length < 1000 ∧
      ∀ H', SW K A H' ⟨hp, lim, fr, cd, ss.don ++ [(b, log)]⟩ → Frm A H H' → Q .non H'
  | _ => False
def sp_Store_begin (K : PySem.W.Frag) : Sp := fun vs H Q _ => match vs with
  | [x] => ∃ A ss, x = .ref (SA.s A) ∧ SW K A H ss ∧ Vh ss.hp ∧ ∀ U H', UW K H U ss.lim H' (Un.start ss.hp) → Q (.ref U.u) H'
  | _ => False
theorem getLast_snoc {vs : List V} {v : V} : (vs ++ [v]).getLast? = some v := by simp
section
variable {P : Program} {w : World} {K : PySem.W.Frag} {mg : Str → Option Value} {base : Heap}
theorem ok_Store_heap (T : Tx K mg) : FnOk P w K mg base CX0 1 (a_Store_heap K) (fd_Store_heap K) ["self"] (sp_Store_heap K) := by
  refine FunD.ok T.f_Store_heap sc_Store_heap (fun vs H Q E h => match vs, h with | [_], _ => rfl) (fun cdv A outer s H vs Q E hr h => ⟨_, PSs.nox (pss_one (ps_ret (pe_ix (ixT (K := K)) (pe_ix (ixL (K := K)) (pe_fld (pv 0) rfl) (pe_un un_neg pe_int) (fun _ _ => rfl)) pe_int (fun _ _ => rfl)))), ?_⟩)
  match vs, h with
  | [v0], h =>
    obtain ⟨A, ss, rfl, w, q⟩ := h
    have t0 := w.at0
    obtain ⟨ws, v, t1, _, ⟨t, f, c, hv, rfl, t2, t3, t4, t5⟩⟩ := w.at1
    walk_at "rd"
    refine rd_ixLast (sq_of t1) getLast_snoc ?_
    walk_at "rd"
    exact q hv t3
theorem ok_Store_current_limit (T : Tx K mg) : FnOk P w K mg base CX0 1 (a_Store_current_limit K) (fd_Store_current_limit K) ["self"] (sp_Store_current_limit K) := by
  refine FunD.ok T.f_Store_current_limit sc_Store_current_limit (fun vs H Q E h => match vs, h with | [_], _ => rfl) (fun cdv A outer s H vs Q E hr h => ⟨_, PSs.nox (pss_one (ps_ret (pe_ix (ixT (K := K)) (pe_ix (ixL (K := K)) (pe_fld (pv 0) rfl) (pe_un un_neg pe_int) (fun _ _ => rfl)) pe_int (fun _ _ => rfl)))), ?_⟩)
  match vs, h with
  | [v0], h =>
    obtain ⟨A, ss, rfl, w, q⟩ := h
    have t0 := w.at0
    obtain ⟨ws, v, t1, _, ⟨t, f, c, hv, rfl, t2, t3, t4, t5⟩⟩ := w.at1
    walk_at "rd"
    refine rd_ixLast (sq_of t1) getLast_snoc ?_
    walk_at "rd"
    exact q
theorem ok_Store_free_numbers (T : Tx K mg) : FnOk P w K mg base CX0 1 (a_Store_free_numbers K) (fd_Store_free_numbers K) ["self"] (sp_Store_free_numbers K) := by
  refine FunD.ok T.f_Store_free_numbers sc_Store_free_numbers (fun vs H Q E h => match vs, h with | [_], _ => rfl) (fun cdv A outer s H vs Q E hr h => ⟨_, PSs.nox (pss_one (ps_ret (pe_ix (ixT (K := K)) (pe_ix (ixL (K := K)) (pe_fld (pv 0) rfl) (pe_un un_neg pe_int) (fun _ _ => rfl)) pe_int (fun _ _ => rfl)))), ?_⟩)
  match vs, h with
  | [v0], h =>
    obtain ⟨A, ss, rfl, w, q⟩ := h
    have t0 := w.at0
    obtain ⟨ws, v, t1, _, ⟨t, f, c, hv, rfl, t2, t3, t4, t5⟩⟩ := w.at1
    walk_at "rd"
    refine rd_ixLast (sq_of t1) getLast_snoc ?_
    walk_at "rd"
    exact q f t4
theorem ok_Store_candidates (T : Tx K mg) : FnOk P w K mg base CX0 1 (a_Store_candidates K) (fd_Store_candidates K) ["self"] (sp_Store_candidates K) := by
  refine FunD.ok T.f_Store_candidates sc_Store_candidates (fun vs H Q E h => match vs, h with | [_], _ => rfl) (fun cdv A outer s H vs Q E hr h => ⟨_, PSs.nox (pss_one (ps_ret (pe_ix (ixT (K := K)) (pe_ix (ixL (K := K)) (pe_fld (pv 0) rfl) (pe_un un_neg pe_int) (fun _ _ => rfl)) pe_int (fun _ _ => rfl)))), ?_⟩)
  match vs, h with
  | [v0], h =>
    obtain ⟨A, ss, rfl, w, q⟩ := h
    have t0 := w.at0
    obtain ⟨ws, v, t1, _, ⟨t, f, c, hv, rfl, t2, t3, t4, t5⟩⟩ := w.at1
    walk_at "rd"
    refine rd_ixLast (sq_of t1) getLast_snoc ?_
    walk_at "rd"
    exact q c t5
theorem ok_Store_require_idle (T : Tx K mg) : FnOk P w K mg base CX0 1 (a_Store_require_idle K) (fd_Store_require_idle K) ["self"] (sp_Store_require_idle K) := by
  refine FunD.ok T.f_Store_require_idle sc_Store_require_idle (fun vs H Q E h => match vs, h with | [_], _ => rfl) (fun cdv A outer s H vs Q E hr h => ⟨_, PSs.nox (pss_one (ps_if (pt_val (pe_fld (pv 0) rfl)) (pss_one ps_never) pss_nil)), ?_⟩)
  match vs, h with
  | [v0], h =>
    obtain ⟨A, ss, rfl, w, q⟩ := h
    have t0 := w.at0
    walk_at "rd"
    exact q
theorem ok_Store_notify (T : Tx K mg) : FnOk P w K mg base CX0 1 (a_Store_notify K) (fd_Store_notify K) ["self", "name", "log"] (sp_Store_notify K) := by
  refine FunD.ok T.f_Store_notify sc_Store_notify (fun vs H Q E h => match vs, h with | [_, _, _], _ => rfl) (fun cdv A outer s H vs Q E hr h => ⟨_, PSs.nox (pss_cons (ps_set (i := 3) sc_Store_notify.nd rfl (Or.inl rfl) (pe_fld (pv 0) rfl))
      (pss_one (ps_if (pt_cmpR op_notN (pv 3) pe_non (nomark _)) pss_never pss_nil))), ?_⟩)
  match vs, h with
  | [v0, v1, v2], h =>
    obtain ⟨A, ss, rfl, w, q⟩ := h
    have t0 := w.at0
    walk_at "rd"
    exact q
theorem ok_Store_len (T : Tx K mg) : FnOk P w K mg base CX0 2 (a_Store_len K) (fd_Store_len K) ["self"] (sp_Store_len K) := by
  refine FunD.ok T.f_Store_len sc_Store_len (fun vs H Q E h => match vs, h with | [_], _ => rfl) (fun cdv A outer s H vs Q E hr h => ⟨_, PSs.nox (pss_one (ps_ret (pe_callB (cLen (K := K)) (by rfl) T.z_len (by decide +kernel) (pa_cons (pe_call (ok_live_nodes T) (hr.mono (by omega)) (by rfl) T.g_live_nodes T.k_live_nodes T.b_live_nodes .nil pass0 (pa_cons (pe_meth0 (pv 0) T.c_Store T.t_Store_heap (ok_Store_heap T) (hr.mono (by omega)) T.b_Store_heap .nil pass0) pa_nil)) pa_nil)))), ?_⟩)
  match vs, h with
  | [v0], h =>
    obtain ⟨A, ss, rfl, w, h40, q⟩ := h
    have t0 := w.at0
    walk_at "rd"
    refine Exists.intro A ⟨ss, rfl, w, fun v hv => ?_⟩
    walk_at "rd"
    refine us_live_nodes hv h40 fun p H1 hp ex1 ht => ?_
    walk_at "rd"
    rw [ivs_len]
    exact q H1 ex1
theorem ok_Store_begin (T : Tx K mg) : FnOk P w K mg base CX0 4 (a_Store_begin K) (fd_Store_begin K) ["self"] (sp_Store_begin K) := by
  refine FunD.ok T.f_Store_begin sc_Store_begin (fun vs H Q E h => match vs, h with | [_], _ => rfl) (fun cdv A outer s H vs Q E hr h => ⟨_, PSs.nox (pss_one (ps_ret (pe_make T.m_Unwinding (ok_Unwinding_init T) (hr.mono (by omega)) (by rfl) T.g_Unwinding T.b_Unwinding_init .nil pass0 (pa_cons (pe_meth0 (pv 0) T.c_Store T.t_Store_heap (ok_Store_heap T) (hr.mono (by omega)) T.b_Store_heap .nil pass0) (pa_cons (pe_meth0 (pv 0) T.c_Store T.t_Store_current_limit (ok_Store_current_limit T) (hr.mono (by omega)) T.b_Store_current_limit .nil pass0) pa_nil))))), ?_⟩)
  match vs, h with
  | [v0], h =>
    obtain ⟨A, ss, rfl, w, hV, q⟩ := h
    have t0 := w.at0
    walk_at "rd"
    refine Exists.intro A ⟨ss, rfl, w, fun v hv => ?_⟩
    walk_at "rd"
    refine Exists.intro A ⟨ss, rfl, w, ?_⟩
    walk_at "rd"
    intro x dx hx hdx hne
    refine us_init hv hV hx hdx hne fun U H1 hU w1 => ?_
    subst hU
    exact ⟨rfl, q U H1 w1⟩
theorem ok_Store_commit (T : Tx K mg) : FnOk P w K mg base CX0 2 (a_Store_commit K) (fd_Store_commit K) ["self", "action", "log", "snapshot"] (sp_Store_commit K) := by
  refine FunD.ok T.f_Store_commit sc_Store_commit (fun vs H Q E h => match vs, h with | [_, _, _, _], _ => rfl) (fun cdv A outer s H vs Q E hr h => ⟨_, PSs.nox (pss_cons (ps_expr (pe_bm PySem.F.plainAttrs_list PySem.F.slot_list_append PySem.F.type_list_append mt_append (pe_fld (pv 0) rfl) (pa_cons (pv 3) pa_nil)))
      (pss_cons (ps_expr (pe_bm PySem.F.plainAttrs_list PySem.F.slot_list_append PySem.F.type_list_append mt_append (pe_fld (pv 0) rfl) (pa_cons (pe_tup (pa_cons (pv 1) (pa_cons (pv 2) pa_nil))) pa_nil)))
      (pss_one (ps_expr (pe_meth (pv 0) T.c_Store T.t_Store_notify (ok_Store_notify T) (hr.mono (by omega)) T.b_Store_notify .nil pass0 (pa_cons (pe_ix (ixT (K := K)) (pv 1) pe_int (fun _ _ => rfl)) (pa_cons (pv 2) pa_nil))))))), ?_⟩)
  match vs, h with
  | [v0, v1, v2, v3], h =>
    obtain ⟨A, ss, a, b, l, log, hp, lim, fr, cd, rfl, w, rfl, ha, rfl, hl, hs, h1000, q⟩ := h
    have t0 := w.at0
    obtain ⟨ws, v, t1, hw1, hsn⟩ := w.at1
    obtain ⟨us, t2, hrc⟩ := w.at2
    have hsm := w.sm
    have hrl := hrc.1
    walk_at "rd"
    refine rd_append t1 (lt40 (by simp; omega)) ?_
    have hss : A.s ≠ A.sn := ne_of t0 t1 (by intro z; cases z)
    have t01 : upd H A.sn (.lst (ws ++ [v] ++ [v3])) A.s = some (.ins (C_Store K) A.dx A.fs) := by rw [upd_ne hss]; exact t0
    have t21 : upd H A.sn (.lst (ws ++ [v] ++ [v3])) A.rc = some (.lst us) := by rw [upd_ne (Ne.symm w.ne)]; exact t2
    walk_at "rd"
    rename_i t ht
    refine rd_append (upd_fr t21 ht) (lt40 (by omega)) ?_
    obtain ⟨w2, f2⟩ := w.commit t1 t2 hs ht (e := (b, log)) ha hl h1000
    generalize upd (upd (upd H A.sn (.lst (ws ++ [v] ++ [v3]))) t (.tup [.ref a, .ref l])) A.rc (.lst (us ++ [.ref t])) = H2 at w2 f2 ⊢
    have t02 := w2.at0
    obtain ⟨nm, r, hact, hb⟩ := ha
    have hact2 := w.tk f2 _ _ hact
    walk_at "rd"
    exact Exists.intro A ⟨_, rfl, w2, q H2 w2 f2⟩
theorem ok_Store_history (T : Tx K mg) : FnOk P w K mg base CX0 1 (a_Store_history K) (fd_Store_history K) ["self"] (sp_Store_history K) := by
  refine FunD.ok T.f_Store_history sc_Store_history (fun vs H Q E h => match vs, h with | [_], _ => rfl) (fun cdv A outer s H vs Q E hr h => ⟨_, PSs.nox (pss_one (ps_ret (pe_callTy (cTuple (K := K)) (by rfl) T.z_tuple (by decide +kernel) (pa_cons (pe_lc rfl sc_Store_history.nd (pi_list (pe_fld (pv 0) rfl)) (blkOk_by (own := [("action", 1), ("log", 2)]) (N := N_Store_history) (sc := defScope s_Store_history) (by decide +kernel)) (fun _ _ _ _ _ => (pgTup (K := K) (n := 2) rfl (pgs_cons (pg_name (i := 1) sc_Store_history.nd rfl (Or.inl rfl) (by exact Or.inr rfl)) (pgs_cons (pg_name (i := 2) sc_Store_history.nd rfl (Or.inl rfl) (by exact Or.inr rfl)) pgs_nil)))) (fun _ _ _ _ _ => pts_nil) (fun _ _ _ _ _ => (pv 1))) pa_nil)))), ?_⟩)
  match vs, h with
  | [v0], h =>
    obtain ⟨A, ss, rfl, w, q⟩ := h
    have t0 := w.at0
    obtain ⟨us, t2, hrc⟩ := w.at2
    have hsm := w.sm
    have hrl := hrc.1
    walk_at "rd"
    intro D hD
    refine lc_it (walk_list (xs := us)) (fun i H' => ∃ ws, Acc H D ws H' ∧ ActsV H' ws (ss.don.take i)) ⟨[], Acc.new (Ex.refl H) hD, by simp, fun i e h => by simp at h⟩ (fun i H' _ z => let ⟨_, z, _⟩ := z; sqL_ex z.2.1 t2) ?_ ?_
    · rintro i x _ H1 hi ⟨ws, acc, hws⟩ ⟨rfl, hx⟩
      have hid : i < ss.don.length := by omega
      obtain ⟨x', hx', ⟨t, a, l, rfl, ht, ha, hl⟩⟩ := hrc.2 i _ (List.getElem?_eq_getElem hid)
      rw [hx] at hx'
      cases hx'
      have ht1 := acc.2.1 _ _ ht
      walk_at "rd"
      have hwl : ws.length = i := by rw [hws.1, List.length_take]; omega
      refine ⟨ws, acc.2.2, lt40 (by omega), _, acc.put, ?_, ?_⟩
      · rw [List.length_append, hwl, List.length_take]
        simp
        omega
      · have tk := TupK.lst (o := .lst (ws ++ [.ref a])) acc.2.2
        intro j e hj
        rw [List.getElem?_take] at hj
        split at hj
        · by_cases hji : j < i
          · obtain ⟨b, h1, h2⟩ := hws.2 j e (by rw [List.getElem?_take, if_pos hji]; exact hj)
            exact ⟨b, by rw [List.getElem?_append_left (by omega)]; exact h1, h2.tk tk⟩
          · have e2 : j = i := by omega
            subst e2
            rw [List.getElem?_eq_getElem hid] at hj
            cases hj
            exact ⟨a, by rw [List.getElem?_append_right (by omega), hwl]; simp, (ha.tk (.ex acc.2.1)).tk tk⟩
        · cases hj
    · rintro H1 ⟨ws, acc, hws⟩
      rw [hrl, List.take_length] at hws
      walk_at "rd"
      refine rd_tupleOfL (sq_of acc.2.2) fun p hp => ?_
      exact q p ws _ (ex_new acc.2.1 hp) upd_same ⟨hws.1, fun i e h => let ⟨a, b, c⟩ := hws.2 i e h; ⟨a, b, c.tk (.ex (Ex.new hp))⟩⟩
theorem ok_Store_destroyed (T : Tx K mg) : FnOk P w K mg base CX0 1 (a_Store_destroyed K) (fd_Store_destroyed K) ["self"] (sp_Store_destroyed K) := by
  refine FunD.ok T.f_Store_destroyed sc_Store_destroyed (fun vs H Q E h => match vs, h with | [_], _ => rfl) (fun cdv A outer s H vs Q E hr h => ⟨_, PSs.nox (pss_cons (ps_set (i := 1) sc_Store_destroyed.nd rfl (Or.inl rfl) (pe_tup pa_nil))
      (pss_cons (ps_for PassesOwn.never rfl (pi_list (pe_fld (pv 0) rfl)) (pgTup (K := K) (n := 2) rfl (pgs_cons (pg_name (i := 2) sc_Store_destroyed.nd rfl (Or.inl rfl) (by exact Or.inl rfl)) (pgs_cons (pg_name (i := 3) sc_Store_destroyed.nd rfl (Or.inl rfl) (by exact Or.inl rfl)) pgs_nil))) (pss_one (ps_aug (i := 1) sc_Store_destroyed.nd rfl (Or.inl rfl) (pv 3) ip_catA)))
      (pss_one (ps_ret (pv 1))))), ?_⟩)
  match vs, h with
  | [v0], h =>
    obtain ⟨A, ss, rfl, w, hsz, q⟩ := h
    have t0 := w.at0
    obtain ⟨us, t2, hrc⟩ := w.at2
    have hsm := w.sm
    have hrl := hrc.1
    walk_at "rd"
    rename_i p hp
    have t2p := upd_fr (o := .tup []) t2 hp
    have t0p := upd_fr (o := .tup []) t0 hp
    walk_at "rd"
    refine for_it (walk_list (xs := us)) (fun i σ H' => ∃ f x y, σ = [some (.ref A.s), some (.ref f), x, y] ∧ Ex H H' ∧ H' f = some (.tup (ivs (logs (ss.don.take i))))) ⟨p, _, _, rfl, Ex.new hp, upd_same⟩ (fun i σ H' _ z => let ⟨_, _, _, _, z, _⟩ := z; sqL_ex z t2) ?_ ?_
    · rintro i x _ _ H1 hi ⟨f, x1, y1, rfl, e1, hf⟩ ⟨rfl, hx⟩
      have hid : i < ss.don.length := by omega
      obtain ⟨x', hx', ⟨t, a, l, rfl, ht, ha, hl⟩⟩ := hrc.2 i _ (List.getElem?_eq_getElem hid)
      rw [hx] at hx'
      cases hx'
      have ht1 := e1 _ _ ht
      have hl1 := e1 _ _ hl
      have hstep : logs (ss.don.take (i + 1)) = logs (ss.don.take i) ++ ss.don[i].2 := by
        unfold logs
        rw [List.take_add_one, List.getElem?_eq_getElem hid, List.flatMap_append]
        simp only [Option.toList_some, List.flatMap_cons, List.flatMap_nil, List.append_nil]
      have hle : (logs (ss.don.take i)).length + (ss.don[i].2).length ≤ 100000 := by
        have e : logs ss.don = logs (ss.don.take (i + 1)) ++ logs (ss.don.drop (i + 1)) := by
          unfold logs
          rw [← List.flatMap_append, List.take_append_drop]
        rw [e, List.length_append, hstep, List.length_append] at hsz
        omega
      walk_at "rd"
      refine rd_catA hf hl1 (by rw [ivs_len, ivs_len]; exact small40 (by omega)) fun c H2 ex2 hc => ?_
      walk_at "rd"
      refine ⟨c, _, _, rfl, e1.trans ex2, ?_⟩
      rw [hc, hstep, ivs_app]
    · rintro σ H1 ⟨f, x1, y1, rfl, e1, hf⟩
      rw [hrl, List.take_length] at hf
      walk_at "rd"
      exact q f H1 e1 hf
end
end Sf
/-! store: new heaps, events, __init__, commit_run -/
namespace Sf
open PySem PySem.Spec PyProof.Rows L2 Evl
local macro_rules | `(tactic| walk_at "hx") => `(tactic| first | assumption | exact upd_same | (with_reducible refine upd_fr ?_ (by assumption); walk_at "hx") | (refine ex_get (by assumption) ?_; walk_at "hx"))
local macro_rules | `(tactic| walk_at "ex") => `(tactic| first | assumption | exact Ex.refl _ | (with_reducible refine ex_new ?_ (by assumption); walk_at "ex") | (refine Ex.trans ?_ (by assumption); walk_at "ex"))
local macro_rules | `(tactic| walk_at "sqT") => `(tactic| first | (with_reducible assumption) | exact st_of (by walk_at "hx"))
local macro_rules | `(tactic| walk_at "sqL") => `(tactic| first | (with_reducible assumption) | exact sq_of (by walk_at "hx"))
local macro_rules | `(tactic| walk_at "sq") => `(tactic| first | (with_reducible assumption) | exact st_of (by walk_at "hx") | exact sq_of (by walk_at "hx"))
local macro_rules | `(tactic| walk_at "ty") => `(tactic| first | exact TyX.base (.int _) | exact TyX.base .non | exact TyX.base (.bl _) | exact TyX.base (.str _) | exact TyX.base (.tup (by walk_at "hx")) | exact TyX.base (.lst (by walk_at "hx")))
local macro_rules | `(tactic| walk_at "rd1") => `(tactic| first
  | with_reducible refine rd_seq ?_
  | ((with_reducible refine' rd_var ?h ?_); (case h => exact rfl))
  | with_reducible refine rd_c ?_
  | with_reducible refine rd_op ?_
  | with_reducible refine rd_un ?_
  | with_reducible refine rd_CB ?_
  | with_reducible refine rd_call ?_
  | with_reducible refine rd_cons ?_
  | with_reducible refine rd_nil ?_
  | with_reducible refine rd_I0 ?_
  | with_reducible refine rd_U ?_
  | with_reducible refine rd_ret ?_
  | with_reducible refine rd_retN ?_
  | with_reducible refine rd_next ?_
  | with_reducible refine rd_asg ?_
  | with_reducible refine rd_gName ?_
  | with_reducible refine rd_drop ?_
  | with_reducible refine rd_ifS ?_
  | with_reducible refine rd_test ?_
  | with_reducible refine rd_B ?_
  | with_reducible refine rd_notT ?_
  | with_reducible refine rd_andT ?_
  | with_reducible refine rd_orT ?_
  | with_reducible refine rd_andV ?_
  | with_reducible refine rd_orV ?_
  | with_reducible refine rd_notV ?_
  | with_reducible refine rd_ifE ?_
  | with_reducible refine rd_chain ?_
  | with_reducible refine rd_tup ?_
  | with_reducible refine rd_lst ?_
  | with_reducible refine rd_k ?_
  | with_reducible refine rd_eqS rfl ?_
  | with_reducible refine rd_neS rfl ?_
  | ((with_reducible refine rd_and (small40 (Nat.le_of_ble_eq_true rfl)) ?_); intro _ _)
  | (with_reducible refine' rd_isiT2 (k := "tuple") ?ty ?hx kb_tl kb_tt ?_; (case ty => walk_at "ty"); (case hx => walk_at "hx"))
  | with_reducible refine us_is_integer ?_
  | with_reducible refine us_is_between ?_
  | ((with_reducible refine' rd_ixT0 ?sq ?g ?_); (case sq => walk_at "sqT"); (case g => first | exact rfl | assumption))
  | ((with_reducible refine' rd_ixT1 ?sq ?g ?_); (case sq => walk_at "sqT"); (case g => first | exact rfl | assumption))
  | ((with_reducible refine' rd_ixT2 ?sq ?g ?_); (case sq => walk_at "sqT"); (case g => first | exact rfl | assumption))
  | ((with_reducible refine' rd_ixT3 ?sq ?g ?_); (case sq => walk_at "sqT"); (case g => first | exact rfl | assumption))
  | ((with_reducible refine' rd_ixT4 ?sq ?g ?_); (case sq => walk_at "sqT"); (case g => first | exact rfl | assumption))
  | ((with_reducible refine' rd_ixL0 ?sq ?g ?_); (case sq => walk_at "sqL"); (case g => first | exact rfl | assumption))
  | ((with_reducible refine' rd_ixL1 ?sq ?g ?_); (case sq => walk_at "sqL"); (case g => first | exact rfl | assumption))
  | ((with_reducible refine' rd_ixL2 ?sq ?g ?_); (case sq => walk_at "sqL"); (case g => first | exact rfl | assumption))
  | ((with_reducible refine' rd_ixT ?sq ?g ?_); (case sq => walk_at "sqT"); (case g => first | assumption | exact rfl))
  | ((with_reducible refine' rd_ixL ?sq ?g ?_); (case sq => walk_at "sqL"); (case g => first | assumption | exact rfl))
  | with_reducible refine rd_sl ?_
  | with_reducible refine rd_noPart ?_
  | with_reducible refine rd_part ?_
  | with_reducible refine rd_pt1 ?_
  | with_reducible refine rd_make ?_
  | with_reducible refine rd_callN ?_
  | with_reducible refine rd_makeN ?_
  | with_reducible refine rd_revT ?_
  | with_reducible refine rd_dc ?_
  | with_reducible refine rd_notinD ?_
  | with_reducible refine rd_inD ?_
  | with_reducible refine rd_dget ?_
  | with_reducible refine rd_dput ?_
  | ((with_reducible refine' rd_fld1 ?h ?c ?n ?l ?_); (case h => walk_at "hx"); (case c => first | exact Tx.c_Unwinding (by assumption) | exact Tx.c_Store (by assumption)); (case n => first | exact Tx.n_Unwinding_rows (by assumption) | exact Tx.n_Unwinding_references (by assumption) | exact Tx.n_Unwinding_tallies (by assumption) | exact Tx.n_Unwinding_bound (by assumption) | exact Tx.n_Unwinding_log (by assumption) | exact Tx.n_Unwinding_shelf (by assumption) | exact Tx.n_Unwinding_peak (by assumption) | exact Tx.n_Unwinding_events (by assumption) | exact Tx.n_Store_snapshots (by assumption) | exact Tx.n_Store_recorded (by assumption) | exact Tx.n_Store_observer (by assumption) | exact Tx.n_Store_is_busy (by assumption)); (case l => exact rfl))
  | ((with_reducible refine' rd_sFld1 ?h ?c ?n ?l ?_); (case h => walk_at "hx"); (case c => first | exact Tx.c_Unwinding (by assumption) | exact Tx.c_Store (by assumption)); (case n => first | exact Tx.n_Unwinding_rows (by assumption) | exact Tx.n_Unwinding_references (by assumption) | exact Tx.n_Unwinding_tallies (by assumption) | exact Tx.n_Unwinding_bound (by assumption) | exact Tx.n_Unwinding_log (by assumption) | exact Tx.n_Unwinding_shelf (by assumption) | exact Tx.n_Unwinding_peak (by assumption) | exact Tx.n_Unwinding_events (by assumption) | exact Tx.n_Store_snapshots (by assumption) | exact Tx.n_Store_recorded (by assumption) | exact Tx.n_Store_observer (by assumption) | exact Tx.n_Store_is_busy (by assumption)); (case l => exact Nat.le_of_ble_eq_true rfl))
  | ((with_reducible refine' rd_meth1 ?h ?l ?_); (case h => walk_at "hx"); (case l => exact rfl))
  | ((with_reducible refine' rd_and (rd_tyL ?h) ?_); (case h => walk_at "hx"))
  | ((with_reducible refine' rd_rng1 ?hn ?_); (case hn => first | omega | (simp; omega)))
  | with_reducible refine rd_nx ?_
  | with_reducible refine rd_rt ?_
  | with_reducible refine rd_ct ?_
  | with_reducible refine rd_bk ?_
  | ((with_reducible refine' rd_isi ?ty ?kb ?_); (case ty => walk_at "ty"); (case kb => first | exact kb_ii | exact kb_ib | exact kb_tt | exact kb_tl | exact kb_ss | exact kb_nt))
  | with_reducible refine rd_for ?_
  | with_reducible refine rd_iTup ?_
  | with_reducible refine rd_iList ?_
  | with_reducible refine rd_iRng1 ?_
  | with_reducible refine rd_iRng2 ?_
  | with_reducible refine rd_iEnumT ?_
  | with_reducible refine rd_iEnum ?_
  | with_reducible refine rd_lc ?_
  | with_reducible refine rd_yes ?_
  | ((with_reducible refine' rd_gTup ?sq ?n ?_); (case sq => walk_at "sqT"); (case n => exact rfl))
  | with_reducible refine rd_gCons ?_
  | with_reducible refine rd_gNil ?_
  | with_reducible refine rd_fld ?_
  | with_reducible refine rd_meth ?_
  | with_reducible refine rd_sFld ?_
  | with_reducible refine rd_BM ?_
  | with_reducible refine rd_BM0 ?_
  | ((with_reducible refine' rd_orRow ?h (by assumption) ?_); (case h => exact rfl))
  | with_reducible refine rd_augS ?_
  | with_reducible refine rd_ip ?_
  | with_reducible refine rd_gSub ?_
  | ((with_reducible refine' rd_aug ?h ?_); (case h => exact rfl))
  | with_reducible refine rd_par ?_
  | with_reducible refine rd_par1 ?_
  | ((with_reducible refine' rd_lenT ?sq ?_); (case sq => exact st_of (by walk_at "hx")))
  | ((with_reducible refine' rd_lenL ?sq ?_); (case sq => exact sq_of (by walk_at "hx")))
  | ((with_reducible refine' rd_itt ?sq ?_); (case sq => walk_at "sqT"))
  | ((with_reducible refine' rd_itl ?sq ?_); (case sq => walk_at "sqL"))
  | ((with_reducible refine' rd_enumT ?sq ?_); (case sq => walk_at "sqT"))
  | ((with_reducible refine' rd_enumL ?sq ?_); (case sq => walk_at "sqL"))
  | with_reducible refine rd_and rfl ?_
  | with_reducible refine if_t rfl ?_
  | with_reducible refine if_f rfl ?_)
local macro_rules | `(tactic| walk_at "rd") => `(tactic| repeat (walk_at "rd1"))
theorem join_if {b : Bool} {t u : TS} {N bk ct : L2.St → Hp → Prop} {r : VK} {σ : L2.St} {H : Hp} (Mid : L2.St → Hp → Prop) (h : ∀ N' : L2.St → Hp → Prop, (∀ σ H, Mid σ H → N' σ H) → if b = true then t (Ends.mk N' r bk ct) σ H else u (Ends.mk N' r bk ct) σ H) (k : ∀ σ H, Mid σ H → N σ H) :
    if b = true then t (Ends.mk N r bk ct) σ H else u (Ends.mk N r bk ct) σ H := h N k
theorem rd_repA {K : PySem.W.Frag} {H : Hp} {Q : VK} {l : Addr} {v : V} {k : Nat} (h : H l = some (.tup [v])) (hk : k ≤ 1000) (q : ∀ c H', Ex H H' → H' c = some (.tup (List.replicate k v)) → Q (.ref c) H') : rRepA K (.ref l) (.int (k : Int)) H Q :=
  ⟨l, k, v, rfl, rfl, st_of h, hk, fun e => q l H (Ex.refl H) (by rw [e]; exact h), fun _ p hp => q p _ (Ex.new hp) upd_same⟩
theorem RowsV.set {H : Hp} {vs : List V} {rs : List Row} {x : V} {r : Row} (h : RowsV H vs rs) (hx : RowV H x r) (i : Nat) : RowsV H (vs.set i x) (rs.set i r) := by
  refine ⟨by simp [h.1], fun j r' hj => ?_⟩
  rw [List.getElem?_set] at hj
  split at hj
  · rename_i e
    subst e
    split at hj
    · rename_i hl
      cases hj
      exact ⟨x, by rw [List.getElem?_set, if_pos rfl, if_pos (by rw [h.1]; exact hl)], hx⟩
    · cases hj
  · rename_i e
    obtain ⟨v, h1, h2⟩ := h.2 j r' hj
    exact ⟨v, by rw [List.getElem?_set, if_neg e]; exact h1, h2⟩
theorem RowsV.snoc {H : Hp} {vs : List V} {rs : List Row} {x : V} {r : Row} (h : RowsV H vs rs) (hx : RowV H x r) : RowsV H (vs ++ [x]) (rs ++ [r]) := by
  have h2 : RowsV H vs ((rs ++ [r]).take rs.length) := by simpa using h
  have h3 := h2.add (v := x) (r := r) (by simp) hx
  have e : (rs ++ [r]).take (rs.length + 1) = rs ++ [r] := List.take_of_length_le (by simp)
  rw [e] at h3
  exact h3
def rows1 (rs : List Row) (v : Nat) : List Row := if v = rs.length then rs ++ [none] else rs
def outs1 (rs : List Row) (os : List Nat) (v : Nat) : List Nat := if v = rs.length then os ++ [0] else os
def withNode (hp : Hv) (v w : Nat) : Hv := ((rows1 hp.1 v).set v (some (List.replicate w none)), (outs1 hp.1 hp.2 v).set v 1)
def withRef (hp : Hv) (v : Nat) : Hv := (hp.1, hp.2.set v (outc hp.2 v + 1))
def stl (evs : List (Option (Nat × Nat))) : List Nat := evs.filterMap fun e => match e with
  | some (h, t) => if 0 < t then some h else none
  | none => none
def sp_with_node : Sp := fun vs H Q _ => match vs with
  | [x, y, z] => ∃ hp v w, HeapV H x hp ∧ Vh hp ∧ y = .int ((v : Nat) : Int) ∧ z = .int ((w : Nat) : Int) ∧ w ≤ 1000 ∧ v ≤ hp.1.length ∧ ∀ r H', Ex H H' → HeapV H' r (withNode hp v w) → Q r H'
  | _ => False
def sp_with_reference : Sp := fun vs H Q _ => match vs with
  | [x, y] => ∃ hp v, HeapV H x hp ∧ Vh hp ∧ y = .int ((v : Nat) : Int) ∧ v < hp.1.length ∧ ∀ r H', Ex H H' → HeapV H' r (withRef hp v) → Q r H'
  | _ => False
def sp_still_referenced : Sp := fun vs H Q _ => match vs with
  | [x] => ∃ a es evs, x = .ref a ∧ H a = some (.lst es) ∧ EvsV H es evs ∧ evs.length ≤ 200000 ∧ ∀ p H', H p = none → Ex H H' → H' p = some (.lst (ivs (stl evs))) → Q (.ref p) H'
  | _ => False
section
variable {P : Program} {w : World} {K : PySem.W.Frag} {mg : Str → Option Value} {base : Heap}
theorem ok_with_node (T : Tx K mg) : FnOk P w K mg base CX0 1 (a_with_node K) (fd_with_node K) ["heap", "node", "width"] (sp_with_node) := by
  refine FunD.ok T.f_with_node sc_with_node (fun vs H Q E h => match vs, h with | [_, _, _], _ => rfl) (fun cdv A outer s H vs Q E hr h => ⟨_, PSs.nox (pss_cons (ps_par rfl sc_with_node.nd (i := 3) (j := 4) rfl rfl (by decide) rfl rfl (pa_cons (pe_callTy (cList (K := K)) (by rfl) T.z_list (by decide +kernel) (pa_cons (pe_ix (ixT (K := K)) (pv 0) pe_int (fun _ _ => rfl)) pa_nil)) (pa_cons (pe_callTy (cList (K := K)) (by rfl) T.z_list (by decide +kernel) (pa_cons (pe_ix (ixT (K := K)) (pv 0) pe_int (fun _ _ => rfl)) pa_nil)) pa_nil)) (by rfl))
      (pss_cons (ps_if (pt_cmpR op_eq (pv 1) (pe_callB (cLen (K := K)) (by rfl) T.z_len (by decide +kernel) (pa_cons (pv 3) pa_nil)) (nomark _)) (pss_cons (ps_expr (pe_bm PySem.F.plainAttrs_list PySem.F.slot_list_append PySem.F.type_list_append mt_append (pv 3) (pa_cons pe_non pa_nil)))
      (pss_one (ps_expr (pe_bm PySem.F.plainAttrs_list PySem.F.slot_list_append PySem.F.type_list_append mt_append (pv 4) (pa_cons pe_int pa_nil))))) pss_nil)
      (pss_cons (ps_asg (pe_op op_repTA (pe_tup (pa_cons pe_non pa_nil)) (pv 2)) (pg_sub (pv 3) (pv 1) set_list))
      (pss_cons (ps_asg pe_int (pg_sub (pv 4) (pv 1) set_list))
      (pss_one (ps_ret (pe_tup (pa_cons (pe_callTy (cTuple (K := K)) (by rfl) T.z_tuple (by decide +kernel) (pa_cons (pv 3) pa_nil)) (pa_cons (pe_callTy (cTuple (K := K)) (by rfl) T.z_tuple (by decide +kernel) (pa_cons (pv 4) pa_nil)) pa_nil))))))))), ?_⟩)
  match vs, h with
  | [v0, v1, v2], h =>
    obtain ⟨hp, v, w, ⟨a, s, o, rfl, ha, ⟨b, vs, rfl, hb, hvs⟩, ⟨c, rfl, hc⟩⟩, hV, rfl, rfl, hw, hvl, q⟩ := h
    have h40 := hV.n40
    have hvs1 := hvs.1
    have hno := hV.len
    walk_at "rd"
    refine rd_listOfT (st_of hb) fun p1 hp1 => ?_
    walk_at "rd"
    refine rd_listOfT (st_of (upd_fr hc hp1)) fun p2 hp2 => ?_
    have hp12 : p1 ≠ p2 := ne_of_none upd_same hp2
    have t1 : upd (upd H p1 (.lst vs)) p2 (.lst (ivs hp.2)) p1 = some (.lst vs) := upd_fr upd_same hp2
    have t2 : upd (upd H p1 (.lst vs)) p2 (.lst (ivs hp.2)) p2 = some (.lst (ivs hp.2)) := upd_same
    have exH : Ex H (upd (upd H p1 (.lst vs)) p2 (.lst (ivs hp.2))) := (Ex.new hp1).trans (Ex.new hp2)
    have hp20 : H p2 = none := free_back (Ex.new hp1) hp2
    generalize upd (upd H p1 (.lst vs)) p2 (.lst (ivs hp.2)) = H1 at t1 t2 exH ⊢
    walk_at "rd"
    refine join_if (fun σ H' => σ = [some (.ref a), some (.int (v : Nat)), some (.int (w : Nat)), some (.ref p1), some (.ref p2)] ∧ Ex H H' ∧ ∃ vs', H' p1 = some (.lst vs') ∧ RowsV H' vs' (rows1 hp.1 v) ∧ H' p2 = some (.lst (ivs (outs1 hp.1 hp.2 v)))) (fun N' tail => if_b (fun hc1 => ?_) (fun hc1 => ?_)) ?_
    · have hc1 := of_decide_eq_true hc1
      injection hc1 with hc1
      have e : v = hp.1.length := by omega
      walk_at "rd"
      refine rd_append t1 (lt40 (by omega)) ?_
      have t2' : upd H1 p1 (.lst (vs ++ [.non])) p2 = some (.lst (ivs hp.2)) := by rw [upd_ne (Ne.symm hp12)]; exact t2
      walk_at "rd"
      refine rd_append t2' (lt40 (by rw [ivs_len]; omega)) ?_
      refine tail _ _ ⟨rfl, ex_set (ex_set exH hp1) hp20, vs ++ [.non], ?_, ?_, ?_⟩
      · rw [upd_ne hp12]
        exact upd_same
      · unfold rows1
        rw [if_pos e]
        exact (((hvs.mono exH).tk (.lst t1)).tk (.lst t2')).snoc rfl
      · unfold outs1
        rw [if_pos e, upd_same, ivs_one]
        rfl
    · have hc1 := of_decide_eq_false hc1
      have e : ¬ v = hp.1.length := by
        intro e
        exact hc1 (by rw [hvs1, e])
      walk_at "rd"
      refine tail _ _ ⟨rfl, exH, vs, t1, ?_, ?_⟩
      · unfold rows1
        rw [if_neg e]
        exact hvs.mono exH
      · unfold outs1
        rw [if_neg e]
        exact t2
    · rintro σ H2 ⟨rfl, ex2, vs', t12, hvs2, t22⟩
      have hl1 : v < vs'.length := by
        rw [hvs2.1]
        unfold rows1
        split
        · simp
          omega
        · omega
      have hl2 : v < (ivs (outs1 hp.1 hp.2 v)).length := by
        rw [ivs_len]
        unfold outs1
        split
        · simp
          omega
        · omega
      walk_at "rd"
      rename_i p3 hp3
      refine rd_repA upd_same hw fun c3 H3 ex3 hc3 => ?_
      have ex23 : Ex H2 H3 := (Ex.new hp3).trans ex3
      have t13 := ex23 _ _ t12
      have t23 := ex23 _ _ t22
      walk_at "rd"
      refine rd_setL t13 hl1 ?_
      have t24 : upd H3 p1 (.lst (vs'.set v (.ref c3))) p2 = some (.lst (ivs (outs1 hp.1 hp.2 v))) := by rw [upd_ne (Ne.symm hp12)]; exact t23
      walk_at "rd"
      refine rd_setL t24 hl2 ?_
      rw [show (V.int 1) = V.int ((1 : Nat) : Int) from rfl, set_ivs]
      have k1 : TupK H3 (upd H3 p1 (.lst (vs'.set v (.ref c3)))) := .lst t13
      have k2 : TupK (upd H3 p1 (.lst (vs'.set v (.ref c3)))) (upd (upd H3 p1 (.lst (vs'.set v (.ref c3)))) p2 (.lst (ivs ((outs1 hp.1 hp.2 v).set v 1)))) := .lst t24
      have t15 : upd (upd H3 p1 (.lst (vs'.set v (.ref c3)))) p2 (.lst (ivs ((outs1 hp.1 hp.2 v).set v 1))) p1 = some (.lst (vs'.set v (.ref c3))) := by rw [upd_ne hp12]; exact upd_same
      have t25 : upd (upd H3 p1 (.lst (vs'.set v (.ref c3)))) p2 (.lst (ivs ((outs1 hp.1 hp.2 v).set v 1))) p2 = some (.lst (ivs ((outs1 hp.1 hp.2 v).set v 1))) := upd_same
      have ex5 : Ex H (upd (upd H3 p1 (.lst (vs'.set v (.ref c3)))) p2 (.lst (ivs ((outs1 hp.1 hp.2 v).set v 1)))) := ex_set (ex_set (ex2.trans ex23) hp1) hp20
      have hrow : RowV H3 (.ref c3) (some (List.replicate w none)) := ⟨c3, rfl, by rw [hc3]; simp⟩
      have hvs5 := ((((hvs2.mono ex23).set hrow v).tk k1).tk k2)
      generalize upd (upd H3 p1 (.lst (vs'.set v (.ref c3)))) p2 (.lst (ivs ((outs1 hp.1 hp.2 v).set v 1))) = H5 at t15 t25 ex5 hvs5 ⊢
      walk_at "rd"
      refine rd_tupleOfL (sq_of t15) fun p6 hp6 => ?_
      walk_at "rd"
      refine rd_tupleOfL (sq_of (upd_fr t25 hp6)) fun p7 hp7 => ?_
      walk_at "rd"
      rename_i p8 hp8
      have e6 : Ex H5 (upd (upd H5 p6 (.tup (vs'.set v (.ref c3)))) p7 (.tup (ivs ((outs1 hp.1 hp.2 v).set v 1)))) := (Ex.new hp6).trans (Ex.new hp7)
      exact q _ _ ((ex5.trans e6).trans (Ex.new hp8)) ⟨p8, .ref p6, .ref p7, rfl, upd_same, ⟨p6, _, rfl, upd_fr (upd_fr upd_same hp7) hp8, (hvs5.mono e6).mono (Ex.new hp8)⟩, ⟨p7, rfl, upd_fr upd_same hp8⟩⟩
theorem ok_with_reference (T : Tx K mg) : FnOk P w K mg base CX0 1 (a_with_reference K) (fd_with_reference K) ["heap", "node"] (sp_with_reference) := by
  refine FunD.ok T.f_with_reference sc_with_reference (fun vs H Q E h => match vs, h with | [_, _], _ => rfl) (fun cdv A outer s H vs Q E hr h => ⟨_, PSs.nox (pss_cons (ps_set (i := 2) sc_with_reference.nd rfl (Or.inl rfl) (pe_callTy (cList (K := K)) (by rfl) T.z_list (by decide +kernel) (pa_cons (pe_ix (ixT (K := K)) (pv 0) pe_int (fun _ _ => rfl)) pa_nil)))
      (pss_cons (ps_augS (pv 2) (pv 1) pget_list pe_int ip_add set_list)
      (pss_one (ps_ret (pe_tup (pa_cons (pe_ix (ixT (K := K)) (pv 0) pe_int (fun _ _ => rfl)) (pa_cons (pe_callTy (cTuple (K := K)) (by rfl) T.z_tuple (by decide +kernel) (pa_cons (pv 2) pa_nil)) pa_nil))))))), ?_⟩)
  match vs, h with
  | [v0, v1], h =>
    obtain ⟨hp, v, ⟨a, s, o, rfl, ha, ⟨b, vs, rfl, hb, hvs⟩, ⟨c, rfl, hc⟩⟩, hV, rfl, hvl, q⟩ := h
    have hno := hV.len
    have hx := out_ivs (os := hp.2) (v := v) (by omega)
    walk_at "rd"
    refine rd_listOfT (st_of hc) fun p hp1 => ?_
    walk_at "rd"
    refine rd_getL (sq_of upd_same) hx ?_
    walk_at "rd"
    refine rd_setL (upd_same (o := .lst (ivs hp.2))) (by rw [ivs_len]; omega) ?_
    have e1 : ((outc hp.2 v : Nat) : Int) + 1 = (outc hp.2 v + 1 : Nat) := by omega
    rw [e1, set_ivs]
    have ex1 : Ex H (upd (upd H p (.lst (ivs hp.2))) p (.lst (ivs (hp.2.set v (outc hp.2 v + 1))))) := ex_set (Ex.new hp1) hp1
    have t1 : upd (upd H p (.lst (ivs hp.2))) p (.lst (ivs (hp.2.set v (outc hp.2 v + 1)))) p = some (.lst (ivs (hp.2.set v (outc hp.2 v + 1)))) := upd_same
    generalize upd (upd H p (.lst (ivs hp.2))) p (.lst (ivs (hp.2.set v (outc hp.2 v + 1)))) = H1 at ex1 t1 ⊢
    have ha1 := ex1 _ _ ha
    walk_at "rd"
    refine rd_tupleOfL (sq_of t1) fun p2 hp2 => ?_
    walk_at "rd"
    rename_i p3 hp3
    exact q _ _ ((ex1.trans (Ex.new hp2)).trans (Ex.new hp3)) ⟨p3, .ref b, .ref p2, rfl, upd_same, ⟨b, vs, rfl, upd_fr (upd_fr (ex1 _ _ hb) hp2) hp3, ((hvs.mono ex1).mono (Ex.new hp2)).mono (Ex.new hp3)⟩, ⟨p2, rfl, upd_fr upd_same hp3⟩⟩
theorem ok_still_referenced (T : Tx K mg) : FnOk P w K mg base CX0 1 (a_still_referenced K) (fd_still_referenced K) ["events"] (sp_still_referenced) := by
  refine FunD.ok T.f_still_referenced sc_still_referenced (fun vs H Q E h => match vs, h with | [_], _ => rfl) (fun cdv A outer s H vs Q E hr h => ⟨_, PSs.nox (pss_one (ps_ret (pe_lc rfl sc_still_referenced.nd (pi_list (pv 0)) (blkOk_by (own := [("event", 1)]) (N := N_still_referenced) (sc := defScope s_still_referenced) (by decide +kernel)) (fun _ _ _ _ _ => (pg_name (i := 1) sc_still_referenced.nd rfl (Or.inl rfl) (by exact Or.inr rfl))) (fun _ _ _ _ _ => (pts_one (PW.pt (pw_and (pt_cmpR op_eq (pe_ix (ixT (K := K)) (pv 1) pe_int (fun _ _ => rfl)) pe_str (nomark _)) (pw_and1 (pt_cmpR op_gt (pe_ix (ixT (K := K)) (pv 1) pe_int (fun _ _ => rfl)) pe_int (nomark _))))))) (fun _ _ _ _ _ => (pe_ix (ixT (K := K)) (pv 1) pe_int (fun _ _ => rfl)))))), ?_⟩)
  match vs, h with
  | [v0], h =>
    obtain ⟨a, es, evs, rfl, ha, hes, hl, q⟩ := h
    have hel := hes.1
    walk_at "rd"
    intro D hD
    refine lc_it (walk_list (xs := es)) (fun i H' => Acc H D (ivs (stl (evs.take i))) H') (Acc.new (Ex.refl H) hD) (fun i H' _ z => sqL_ex z.2.1 ha) ?_ ?_
    · rintro i x _ H1 hi acc ⟨rfl, hx⟩
      have hid : i < evs.length := by omega
      obtain ⟨x', hx', hev⟩ := hes.2 i _ (List.getElem?_eq_getElem hid)
      rw [hx] at hx'
      cases hx'
      have hle : (stl (evs.take i)).length ≤ 200000 := by
        have h1 := List.length_filterMap_le (fun e : Option (Nat × Nat) => match e with | some (h, t) => if 0 < t then some h else none | none => none) (evs.take i)
        rw [List.length_take] at h1
        unfold stl
        omega
      have hst : stl (evs.take (i + 1)) = stl (evs.take i) ++ stl [evs[i]] := by
        unfold stl
        rw [List.take_add_one, List.getElem?_eq_getElem hid, List.filterMap_append]
        rfl
      rw [hst]
      generalize evs[i] = e at hev
      cases e with
      | none =>
        obtain ⟨t, n, r, rfl, ht, hn⟩ := hev
        have ht1 := acc.2.1 _ _ ht
        walk_at "rd"
        refine if_f (by
          apply decide_eq_false
          intro h
          injection h with h
          exact hn h) ?_
        walk_at "rd"
        rw [show stl [none] = [] from rfl, List.append_nil]
        exact acc
      | some ht =>
        obtain ⟨h, t⟩ := ht
        obtain ⟨p, x1, y1, rfl, ht⟩ := hev
        have ht1 := acc.2.1 _ _ ht
        walk_at "rd"
        refine if_b (fun hc => ?_) (fun hc => ?_)
        · have hc2 : (0 : Int) < ((t : Nat) : Int) := of_decide_eq_true hc
          have hc3 : 0 < t := by omega
          walk_at "rd"
          refine acc_add acc (by rw [ivs_len]; omega) ?_
          rw [show stl [some (h, t)] = [h] from by simp only [stl, List.filterMap_cons, if_pos hc3]; rfl, ivs_one]
        · have hc2 : ¬ (0 : Int) < ((t : Nat) : Int) := of_decide_eq_false hc
          have hc3 : ¬ 0 < t := by omega
          walk_at "rd"
          rw [show stl [some (h, t)] = [] from by simp only [stl, List.filterMap_cons, if_neg hc3]; rfl, List.append_nil]
          exact acc
    · rintro H1 acc
      refine q D H1 hD acc.2.1 ?_
      rw [acc.2.2, hel, List.take_length]
end
end Sf
/-! store: __init__, commit_run -/
namespace Sf
open PySem PySem.Spec PyProof.Rows L2 Evl
local macro_rules | `(tactic| walk_at "hx") => `(tactic| first | assumption | exact upd_same | (with_reducible refine upd_fr ?_ (by assumption); walk_at "hx") | (refine ex_get (by assumption) ?_; walk_at "hx"))
local macro_rules | `(tactic| walk_at "ex") => `(tactic| first | assumption | exact Ex.refl _ | (with_reducible refine ex_new ?_ (by assumption); walk_at "ex") | (refine Ex.trans ?_ (by assumption); walk_at "ex"))
local macro_rules | `(tactic| walk_at "sqT") => `(tactic| first | (with_reducible assumption) | exact st_of (by walk_at "hx"))
local macro_rules | `(tactic| walk_at "sqL") => `(tactic| first | (with_reducible assumption) | exact sq_of (by walk_at "hx"))
local macro_rules | `(tactic| walk_at "sq") => `(tactic| first | (with_reducible assumption) | exact st_of (by walk_at "hx") | exact sq_of (by walk_at "hx"))
local macro_rules | `(tactic| walk_at "ty") => `(tactic| first | exact TyX.base (.int _) | exact TyX.base .non | exact TyX.base (.bl _) | exact TyX.base (.str _) | exact TyX.base (.tup (by walk_at "hx")) | exact TyX.base (.lst (by walk_at "hx")))
local macro_rules | `(tactic| walk_at "rd1") => `(tactic| first
  | with_reducible refine rd_seq ?_
  | ((with_reducible refine' rd_var ?h ?_); (case h => exact rfl))
  | with_reducible refine rd_c ?_
  | with_reducible refine rd_op ?_
  | with_reducible refine rd_un ?_
  | with_reducible refine rd_CB ?_
  | with_reducible refine rd_call ?_
  | with_reducible refine rd_cons ?_
  | with_reducible refine rd_nil ?_
  | with_reducible refine rd_I0 ?_
  | with_reducible refine rd_U ?_
  | with_reducible refine rd_ret ?_
  | with_reducible refine rd_retN ?_
  | with_reducible refine rd_next ?_
  | with_reducible refine rd_asg ?_
  | with_reducible refine rd_gName ?_
  | with_reducible refine rd_drop ?_
  | with_reducible refine rd_ifS ?_
  | with_reducible refine rd_test ?_
  | with_reducible refine rd_B ?_
  | with_reducible refine rd_notT ?_
  | with_reducible refine rd_andT ?_
  | with_reducible refine rd_orT ?_
  | with_reducible refine rd_andV ?_
  | with_reducible refine rd_orV ?_
  | with_reducible refine rd_notV ?_
  | with_reducible refine rd_ifE ?_
  | with_reducible refine rd_chain ?_
  | with_reducible refine rd_tup ?_
  | with_reducible refine rd_lst ?_
  | with_reducible refine rd_k ?_
  | with_reducible refine rd_eqS rfl ?_
  | with_reducible refine rd_neS rfl ?_
  | ((with_reducible refine rd_and (small40 (Nat.le_of_ble_eq_true rfl)) ?_); intro _ _)
  | (with_reducible refine' rd_isiT2 (k := "tuple") ?ty ?hx kb_tl kb_tt ?_; (case ty => walk_at "ty"); (case hx => walk_at "hx"))
  | with_reducible refine us_is_integer ?_
  | with_reducible refine us_is_between ?_
  | ((with_reducible refine' rd_ixT0 ?sq ?g ?_); (case sq => walk_at "sqT"); (case g => first | exact rfl | assumption))
  | ((with_reducible refine' rd_ixT1 ?sq ?g ?_); (case sq => walk_at "sqT"); (case g => first | exact rfl | assumption))
  | ((with_reducible refine' rd_ixT2 ?sq ?g ?_); (case sq => walk_at "sqT"); (case g => first | exact rfl | assumption))
  | ((with_reducible refine' rd_ixT3 ?sq ?g ?_); (case sq => walk_at "sqT"); (case g => first | exact rfl | assumption))
  | ((with_reducible refine' rd_ixT4 ?sq ?g ?_); (case sq => walk_at "sqT"); (case g => first | exact rfl | assumption))
  | ((with_reducible refine' rd_ixL0 ?sq ?g ?_); (case sq => walk_at "sqL"); (case g => first | exact rfl | assumption))
  | ((with_reducible refine' rd_ixL1 ?sq ?g ?_); (case sq => walk_at "sqL"); (case g => first | exact rfl | assumption))
  | ((with_reducible refine' rd_ixL2 ?sq ?g ?_); (case sq => walk_at "sqL"); (case g => first | exact rfl | assumption))
  | ((with_reducible refine' rd_ixT ?sq ?g ?_); (case sq => walk_at "sqT"); (case g => first | assumption | exact rfl))
  | ((with_reducible refine' rd_ixL ?sq ?g ?_); (case sq => walk_at "sqL"); (case g => first | assumption | exact rfl))
  | with_reducible refine rd_sl ?_
  | with_reducible refine rd_noPart ?_
  | with_reducible refine rd_part ?_
  | with_reducible refine rd_pt1 ?_
  | with_reducible refine rd_make ?_
  | with_reducible refine rd_callN ?_
  | with_reducible refine rd_makeN ?_
  | with_reducible refine rd_revT ?_
  | with_reducible refine rd_dc ?_
  | with_reducible refine rd_notinD ?_
  | with_reducible refine rd_inD ?_
  | with_reducible refine rd_dget ?_
  | with_reducible refine rd_dput ?_
  | ((with_reducible refine' rd_fld1 ?h ?c ?n ?l ?_); (case h => walk_at "hx"); (case c => first | exact Tx.c_Unwinding (by assumption) | exact Tx.c_Store (by assumption)); (case n => first | exact Tx.n_Unwinding_rows (by assumption) | exact Tx.n_Unwinding_references (by assumption) | exact Tx.n_Unwinding_tallies (by assumption) | exact Tx.n_Unwinding_bound (by assumption) | exact Tx.n_Unwinding_log (by assumption) | exact Tx.n_Unwinding_shelf (by assumption) | exact Tx.n_Unwinding_peak (by assumption) | exact Tx.n_Unwinding_events (by assumption) | exact Tx.n_Store_snapshots (by assumption) | exact Tx.n_Store_recorded (by assumption) | exact Tx.n_Store_observer (by assumption) | exact Tx.n_Store_is_busy (by assumption)); (case l => exact rfl))
  | ((with_reducible refine' rd_sFld1 ?h ?c ?n ?l ?_); (case h => walk_at "hx"); (case c => first | exact Tx.c_Unwinding (by assumption) | exact Tx.c_Store (by assumption)); (case n => first | exact Tx.n_Unwinding_rows (by assumption) | exact Tx.n_Unwinding_references (by assumption) | exact Tx.n_Unwinding_tallies (by assumption) | exact Tx.n_Unwinding_bound (by assumption) | exact Tx.n_Unwinding_log (by assumption) | exact Tx.n_Unwinding_shelf (by assumption) | exact Tx.n_Unwinding_peak (by assumption) | exact Tx.n_Unwinding_events (by assumption) | exact Tx.n_Store_snapshots (by assumption) | exact Tx.n_Store_recorded (by assumption) | exact Tx.n_Store_observer (by assumption) | exact Tx.n_Store_is_busy (by assumption)); (case l => exact Nat.le_of_ble_eq_true rfl))
  | ((with_reducible refine' rd_meth1 ?h ?l ?_); (case h => walk_at "hx"); (case l => exact rfl))
  | ((with_reducible refine' rd_and (rd_tyL ?h) ?_); (case h => walk_at "hx"))
  | ((with_reducible refine' rd_rng1 ?hn ?_); (case hn => first | omega | (simp; omega)))
  | with_reducible refine rd_nx ?_
  | with_reducible refine rd_rt ?_
  | with_reducible refine rd_ct ?_
  | with_reducible refine rd_bk ?_
  | ((with_reducible refine' rd_isi ?ty ?kb ?_); (case ty => walk_at "ty"); (case kb => first | exact kb_ii | exact kb_ib | exact kb_tt | exact kb_tl | exact kb_ss | exact kb_nt))
  | with_reducible refine rd_for ?_
  | with_reducible refine rd_iTup ?_
  | with_reducible refine rd_iList ?_
  | with_reducible refine rd_iRng1 ?_
  | with_reducible refine rd_iRng2 ?_
  | with_reducible refine rd_iEnumT ?_
  | with_reducible refine rd_iEnum ?_
  | with_reducible refine rd_lc ?_
  | with_reducible refine rd_yes ?_
  | ((with_reducible refine' rd_gTup ?sq ?n ?_); (case sq => walk_at "sqT"); (case n => exact rfl))
  | with_reducible refine rd_gCons ?_
  | with_reducible refine rd_gNil ?_
  | with_reducible refine rd_fld ?_
  | with_reducible refine rd_meth ?_
  | with_reducible refine rd_sFld ?_
  | with_reducible refine rd_BM ?_
  | with_reducible refine rd_BM0 ?_
  | ((with_reducible refine' rd_orRow ?h (by assumption) ?_); (case h => exact rfl))
  | with_reducible refine rd_augS ?_
  | with_reducible refine rd_ip ?_
  | with_reducible refine rd_gSub ?_
  | ((with_reducible refine' rd_aug ?h ?_); (case h => exact rfl))
  | with_reducible refine rd_par ?_
  | with_reducible refine rd_par1 ?_
  | ((with_reducible refine' rd_lenT ?sq ?_); (case sq => exact st_of (by walk_at "hx")))
  | ((with_reducible refine' rd_lenL ?sq ?_); (case sq => exact sq_of (by walk_at "hx")))
  | ((with_reducible refine' rd_itt ?sq ?_); (case sq => walk_at "sqT"))
  | ((with_reducible refine' rd_itl ?sq ?_); (case sq => walk_at "sqL"))
  | ((with_reducible refine' rd_enumT ?sq ?_); (case sq => walk_at "sqT"))
  | ((with_reducible refine' rd_enumL ?sq ?_); (case sq => walk_at "sqL"))
  | with_reducible refine rd_and rfl ?_
  | with_reducible refine if_t rfl ?_
  | with_reducible refine if_f rfl ?_)
local macro_rules | `(tactic| walk_at "rd") => `(tactic| repeat (walk_at "rd1"))
def sp_Store_init (K : PySem.W.Frag) : Sp := fun vs H Q _ => match vs with
  | [x, y, z, o] => ∃ s dx hp B H0, x = .ref s ∧ H s = some (.ins (C_Store K) dx []) ∧ H0 s = none ∧ Ex H0 H ∧ HeapV H0 y hp ∧ Vh hp ∧ z = .int B ∧ 1 ≤ B ∧ B ≤ 10 ^ 30 ∧ o = .non ∧
      ∀ H' A, SA.s A = s → H0 A.sn = none → H0 A.rc = none → SW K A H' ⟨hp, B, freeN hp.1, liveN hp.1, []⟩ → Ex H0 H' → Q .non H'
  | _ => False
def sp_Store_commit_run (K : PySem.W.Frag) : Sp := fun vs H Q _ => match vs with
  | [x, y, z] => ∃ A ss U B H0 s' a, x = .ref (SA.s A) ∧ SW K A H ss ∧ y = .ref a ∧ ActV H a false ∧ z = .ref (UA.u U) ∧ UW K H0 U B H s' ∧ s'.rows.length ≤ 40 ∧ (∀ c ∈ ss.cd, c < s'.rows.length) ∧ (∀ c ∈ stl s'.evs, c < s'.rows.length) ∧
      ss.cd.length ≤ 40 ∧ (stl s'.evs).length ≤ 3900 ∧ s'.evs.length ≤ 200000 ∧ ss.don.length < 1000 ∧ s'.log.length ≤ 1000 ∧ ss.fr.length ≤ 1000 ∧
      ∀ l cd' H', H' l = some (.tup (ivs s'.log)) → SW K A H' ⟨s'.heap, ss.lim, s'.log.reverse ++ ss.fr, cd', ss.don ++ [(false, s'.log)]⟩ → Frm A H H' → cd'.Pairwise (· < ·) → (∀ c ∈ cd', Live s'.rows c) → Q (.ref l) H'
  | _ => False
theorem TupK.ex2 {H H1 H2 : Hp} (k : TupK H H1) (e : Ex H1 H2) : TupK H H2 := fun a xs h => e _ _ (k _ _ h)
theorem ivs_rev (ns : List Nat) : (ivs ns).reverse = ivs ns.reverse := by simp [ivs, List.map_reverse]
theorem ivs_of_map {ns : List Int} (h : ∀ k ∈ ns, 0 ≤ k) : ns.map V.int = ivs (ns.map Int.toNat) := by
  unfold ivs
  rw [List.map_map]
  apply List.map_congr_left
  intro k hk
  have := h k hk
  simp
  omega
theorem free_ivs {n : Nat} {p : Nat → Bool} (h : p n = true) : ivs (picks (n + 1) p) = ivs (picks n p) ++ [.int (n : Int)] := picks_ivs h
section
variable {P : Program} {w : World} {K : PySem.W.Frag} {mg : Str → Option Value} {base : Heap}
theorem ok_Store_init (T : Tx K mg) : FnOk P w K mg base CX0 4 (a_Store_init K) (fd_Store_init K) ["self", "heap", "limit", "observer"] (sp_Store_init K) := by
  refine FunD.ok T.f_Store_init sc_Store_init (fun vs H Q E h => match vs, h with | [_, _, _, _], _ => rfl) (fun cdv A outer s H vs Q E hr h => ⟨_, PSs.nox (pss_cons (ps_if (pt_not (pt_val (pe_call (ok_is_limit T) (hr.mono (by omega)) (by rfl) T.g_is_limit T.k_is_limit T.b_is_limit .nil pass0 (pa_cons (pv 2) pa_nil)))) (pss_one ps_never) pss_nil)
      (pss_cons (ps_set (i := 4) sc_Store_init.nd rfl (Or.inl rfl) (pe_callTy (cTuple (K := K)) (by rfl) T.z_tuple (by decide +kernel) (pa_cons (pe_lc rfl sc_Store_init.nd (pi_enumT (by rfl) T.z_enumerate (pa_cons (pe_ix (ixT (K := K)) (pv 1) pe_int (fun _ _ => rfl)) pa_nil)) (blkOk_by (own := [("node", 5), ("row", 6)]) (N := N_Store_init) (sc := defScope s_Store_init) (by decide +kernel)) (fun _ _ _ _ _ => (pgTup (K := K) (n := 2) rfl (pgs_cons (pg_name (i := 5) sc_Store_init.nd rfl (Or.inl rfl) (by exact Or.inr rfl)) (pgs_cons (pg_name (i := 6) sc_Store_init.nd rfl (Or.inl rfl) (by exact Or.inr rfl)) pgs_nil)))) (fun _ _ _ _ _ => (pts_one (pt_cmpR op_isN (pv 6) pe_non (nomark _)))) (fun _ _ _ _ _ => (pv 5))) pa_nil)))
      (pss_cons (ps_fld (pv 0) (pe_lst (pa_cons (pe_tup (pa_cons (pv 1) (pa_cons (pv 2) (pa_cons (pv 4) (pa_cons (pe_callTy (cTuple (K := K)) (by rfl) T.z_tuple (by decide +kernel) (pa_cons (pe_call (ok_live_nodes T) (hr.mono (by omega)) (by rfl) T.g_live_nodes T.k_live_nodes T.b_live_nodes .nil pass0 (pa_cons (pv 1) pa_nil)) pa_nil)) pa_nil))))) pa_nil)) rfl)
      (pss_cons (ps_fld (pv 0) (pe_lst pa_nil) rfl)
      (pss_cons (ps_fld (pv 0) (pv 3) rfl)
      (pss_one (ps_fld (pv 0) pe_bl rfl))))))), ?_⟩)
  match vs, h with
  | [v0, v1, v2, v3], h =>
    obtain ⟨s, dx, hp, B, H0, rfl, hs, hs0, ex0, hh, hV, rfl, hB1, hB2, rfl, q⟩ := h
    have hh0 := hh
    obtain ⟨a, sl, o, rfl, ha, ⟨b, vs, rfl, hb, hvs⟩, ⟨c, rfl, hc⟩⟩ := hh0
    have ha1 := ex0 _ _ ha
    have hb1 := ex0 _ _ hb
    have h40 := hV.n40
    have hvl := hvs.1
    walk_at "rd"
    refine Exists.intro B ⟨rfl, hB1, hB2, ?_⟩
    walk_at "rd"
    intro D hD
    refine lc_it (walk_enumT (xs := vs)) (fun i H' => Acc H D (ivs (picks i fun v => !liveB hp.1 v)) H') (Acc.new (Ex.refl H) hD) (fun i H' _ z => sqT_ex z.2.1 hb1) ?_ ?_
    · rintro i x H1 H2 hi acc ⟨t, u, y, rfl, ht, rfl, hu, hy⟩
      cases hu
      obtain ⟨r, h1, h2⟩ := hvs.of hy
      have acc2 := acc.ex (Ex.new (o := .tup [.int (i : Nat), y]) ht)
      have hle := picks_len i (fun v => !liveB hp.1 v)
      cases r with
      | none =>
        have e : y = .non := h2
        subst e
        walk_at "rd"
        refine acc_add acc2 (by rw [ivs_len]; omega) (picks_ivs ?_)
        simp [liveB_none h1]
      | some xs =>
        obtain ⟨d, rfl, hd⟩ := h2
        walk_at "rd"
        rw [picks_no (by simp [liveB_some h1])]
        exact acc2
    · rintro H1 acc
      walk_at "rd"
      refine rd_tupleOfL (sq_of acc.2.2) fun p1 hp1 => ?_
      have ex2 : Ex H (upd H1 p1 (.tup (ivs (picks vs.length fun v => !liveB hp.1 v)))) := ex_new acc.2.1 hp1
      have t1 : upd H1 p1 (.tup (ivs (picks vs.length fun v => !liveB hp.1 v))) p1 = some (.tup (ivs (freeN hp.1))) := by
        rw [upd_same, hvl]
        rfl
      generalize upd H1 p1 (.tup (ivs (picks vs.length fun v => !liveB hp.1 v))) = H2 at ex2 t1 ⊢
      walk_at "rd"
      refine us_live_nodes (hh.mono (ex0.trans ex2)) h40 fun p2 H3 hp2 ex3 ht3 => ?_
      walk_at "rd"
      refine rd_tupleOfL (sq_of ht3) fun p4 hp4 => ?_
      have hs3 := ex3 _ _ (ex2 _ _ hs)
      have hs4 := upd_fr (o := .tup (ivs (liveN hp.1))) hs3 hp4
      walk_at "rd"
      rename_i p5 hp5 p6 hp6 p7 hp7
      have t13 := ex3 _ _ t1
      have n06 : H0 p6 = none := free_back (((ex0.trans ex2).trans ex3).trans ((Ex.new hp4).trans (Ex.new hp5))) hp6
      have e36 : Ex H3 (upd (upd (upd H3 p4 (.tup (ivs (liveN hp.1)))) p5 (.tup [.ref a, .int B, .ref p1, .ref p4])) p6 (.lst [.ref p5])) := ((Ex.new hp4).trans (Ex.new hp5)).trans (Ex.new hp6)
      have e06 := ((ex0.trans ex2).trans ex3).trans e36
      have a6 : SnapV (upd (upd (upd H3 p4 (.tup (ivs (liveN hp.1)))) p5 (.tup [.ref a, .int B, .ref p1, .ref p4])) p6 (.lst [.ref p5])) (.ref p5) hp B (freeN hp.1) (liveN hp.1) :=
        ⟨p5, p1, p4, .ref a, rfl, upd_fr upd_same hp6, hh.mono e06, e36 _ _ t13, upd_fr (upd_fr upd_same hp5) hp6⟩
      have s6 := e36 _ _ hs3
      have l6 : upd (upd (upd H3 p4 (.tup (ivs (liveN hp.1)))) p5 (.tup [.ref a, .int B, .ref p1, .ref p4])) p6 (.lst [.ref p5]) p6 = some (.lst [.ref p5]) := upd_same
      generalize upd (upd (upd H3 p4 (.tup (ivs (liveN hp.1)))) p5 (.tup [.ref a, .int B, .ref p1, .ref p4])) p6 (.lst [.ref p5]) = H6 at e06 a6 s6 l6 hp7 ⊢
      have n6 : p6 ≠ s := ne_of l6 s6 (by intro z; cases z)
      have k1 : TupK H6 (upd H6 s (.ins (C_Store K) dx (putF "snapshots" (.ref p6) []))) := .ins s6
      have n7 : s ≠ p7 := ne_of_none (upd_same (H := H6) (o := .ins (C_Store K) dx (putF "snapshots" (.ref p6) []))) hp7
      have n67 : p6 ≠ p7 := ne_of_none (show upd H6 s (.ins (C_Store K) dx (putF "snapshots" (.ref p6) [])) p6 = some _ by rw [upd_ne n6]; exact l6) hp7
      have k2 := k1.ex2 (Ex.new (o := .lst []) hp7)
      have s8 := upd_fr (o := .lst []) (upd_same (H := H6) (a := s) (o := .ins (C_Store K) dx (putF "snapshots" (.ref p6) []))) hp7
      have n07 : H0 p7 = none := free_back e06 (by rw [upd_ne (Ne.symm n7)] at hp7; exact hp7)
      refine q _ ⟨s, dx, p6, p7⟩ rfl n06 n07 ⟨upd_same, ⟨[], .ref p5, ?_, rfl, ?_⟩, ⟨[], ?_, rfl, fun i e h => by simp at h⟩, n67, by simp⟩ ?_
      · show upd _ s _ p6 = _
        rw [upd_ne n6, upd_ne n6, upd_ne n6, upd_ne n67, upd_ne n6]
        exact l6
      · refine a6.tk ?_
        intro c xs hcx
        have h8 := k2 _ _ hcx
        have hcs : c ≠ s := ne_of h8 s8 (by intro z; cases z)
        rw [upd_ne hcs, upd_ne hcs, upd_ne hcs]
        exact h8
      · show upd _ s _ p7 = _
        rw [upd_ne (Ne.symm n7), upd_ne (Ne.symm n7), upd_ne (Ne.symm n7)]
        exact upd_same
      · exact ex_set (ex_set (ex_set (ex_new (ex_set e06 hs0) hp7) hs0) hs0) hs0
theorem ok_Store_commit_run (T : Tx K mg) : FnOk P w K mg base CX0 3 (a_Store_commit_run K) (fd_Store_commit_run K) ["self", "action", "run"] (sp_Store_commit_run K) := by
  refine FunD.ok T.f_Store_commit_run sc_Store_commit_run (fun vs H Q E h => match vs, h with | [_, _, _], _ => rfl) (fun cdv A outer s H vs Q E hr h => ⟨_, PSs.nox (pss_cons (ps_asg (pe_ix (ixL (K := K)) (pe_fld (pv 0) rfl) (pe_un un_neg pe_int) (fun _ _ => rfl)) (pgTup (K := K) (n := 4) rfl (pgs_cons (pg_name (i := 3) sc_Store_commit_run.nd rfl (Or.inl rfl) (by exact Or.inl rfl)) (pgs_cons (pg_name (i := 4) sc_Store_commit_run.nd rfl (Or.inl rfl) (by exact Or.inl rfl)) (pgs_cons (pg_name (i := 5) sc_Store_commit_run.nd rfl (Or.inl rfl) (by exact Or.inl rfl)) (pgs_cons (pg_name (i := 6) sc_Store_commit_run.nd rfl (Or.inl rfl) (by exact Or.inl rfl)) pgs_nil))))))
      (pss_cons (ps_set (i := 7) sc_Store_commit_run.nd rfl (Or.inl rfl) (pe_callTy (cTuple (K := K)) (by rfl) T.z_tuple (by decide +kernel) (pa_cons (pe_fld (pv 2) rfl) pa_nil)))
      (pss_cons (ps_set (i := 8) sc_Store_commit_run.nd rfl (Or.inr rfl) (pe_meth0 (pv 2) T.c_Unwinding T.t_Unwinding_heap (ok_Unwinding_heap T) (hr.mono (by omega)) T.b_Unwinding_heap .nil pass0))
      (pss_cons (ps_set (i := 9) sc_Store_commit_run.nd rfl (Or.inl rfl) (pe_callB (cr_sortedSet rfl) (by rfl) T.z_sorted (by decide +kernel) (pa_cons (pe_callTy (cr_setI rfl) (by rfl) T.z_set (by decide +kernel) (pa_cons (pe_op op_cat (pe_callTy (cList (K := K)) (by rfl) T.z_list (by decide +kernel) (pa_cons (pv 6) pa_nil)) (pe_call (ok_still_referenced T) (hr.mono (by omega)) (by rfl) T.g_still_referenced T.k_still_referenced T.b_still_referenced .nil pass0 (pa_cons (pe_fld (pv 2) rfl) pa_nil))) pa_nil)) pa_nil)))
      (pss_cons (ps_if (pt_cmpR (inS (K := K)) (pe_ix (ixT (K := K)) (pv 1) pe_int (fun _ _ => rfl)) (pe_tup (pa_cons pe_str (pa_cons pe_str pa_nil))) (by rfl)) (pss_one (ps_set (i := 9) sc_Store_commit_run.nd rfl (Or.inl rfl) (pe_lst pa_nil))) pss_nil)
      (pss_cons (ps_set (i := 10) sc_Store_commit_run.nd rfl (Or.inl rfl) (pe_callTy (cTuple (K := K)) (by rfl) T.z_tuple (by decide +kernel) (pa_cons (pe_lc rfl sc_Store_commit_run.nd (pi_list (pv 9)) (blkOk_by (own := [("node", 11)]) (N := N_Store_commit_run) (sc := defScope s_Store_commit_run) (by decide +kernel)) (fun _ _ _ _ _ => (pg_name (i := 11) sc_Store_commit_run.nd rfl (Or.inl rfl) (by exact Or.inr rfl))) (fun _ _ _ _ _ => (pts_one (pt_cmpR op_notN (pe_ix (ixT (K := K)) (pe_ix (ixT (K := K)) (pv 8) pe_int (fun _ _ => rfl)) (pv 11) (fun _ _ => rfl)) pe_non (nomark _)))) (fun _ _ _ _ _ => (pv 11))) pa_nil)))
      (pss_cons (ps_expr (pe_meth (pv 0) T.c_Store T.t_Store_commit (ok_Store_commit T) (hr.mono (by omega)) T.b_Store_commit .nil pass0 (pa_cons (pv 1) (pa_cons (pv 7) (pa_cons (pe_tup (pa_cons (pv 8) (pa_cons (pv 4) (pa_cons (pe_op op_catA (pe_revT (pv 7)) (pv 5)) (pa_cons (pv 10) pa_nil))))) pa_nil)))))
      (pss_one (ps_ret (pv 7)))))))))), ?_⟩)
  match vs, h with
  | [v0, v1, v2], h =>
    obtain ⟨A, ss, U, B, H0, s', a, rfl, w, rfl, ha, rfl, wu, h40, hcd, hst, n1, n2, n3, n4, n5, n6, q⟩ := h
    have t0 := w.at0
    obtain ⟨ws, v, t1, hw1, ⟨t, f, c, hv, rfl, t2, t3, t4, t5⟩⟩ := w.at1
    obtain ⟨pk, u0⟩ := wu.at0
    have u4 := wu.at4
    walk_at "rd"
    refine rd_ixLast (sq_of t1) getLast_snoc ?_
    walk_at "rd"
    refine rd_tupleOfL (sq_of u4) fun p1 hp1 => ?_
    have ex1 := Ex.new (o := .tup (ivs s'.log)) hp1
    have wu1 := wu.more ex1
    obtain ⟨pk1, u01⟩ := wu1.at0
    walk_at "rd"
    refine Exists.intro H0 ⟨U, B, s', rfl, wu1, h40, fun va H2 ex2 hva => ?_⟩
    have ex02 := ex1.trans ex2
    have t52 := ex02 _ _ t5
    have wu2 := wu1.more ex2
    obtain ⟨pk2, u02⟩ := wu2.at0
    obtain ⟨es, u62, hes⟩ := wu2.at6
    walk_at "rd"
    refine rd_listOfT (st_of t52) fun p3 hp3 => ?_
    have u023 := upd_fr (o := .lst (ivs ss.cd)) u02 hp3
    have u623 := upd_fr (o := .lst (ivs ss.cd)) u62 hp3
    walk_at "rd"
    refine Exists.intro U.ev ⟨es, s'.evs, rfl, u623, hes.mono (.ex (Ex.new hp3)), n3, fun p4 H4 hp4 ex4 ht4 => ?_⟩
    walk_at "rd"
    refine rd_cat (ex4 _ _ upd_same) ht4 ?_ fun p5 hp5 => ?_
    · rw [ivs_len, ivs_len]
      exact small40 (by omega)
    walk_at "rd"
    rw [← ivs_app, ivs_cast]
    refine rd_setI (ns := (ss.cd ++ stl s'.evs).map fun n : Nat => (n : Int)) (sq_of upd_same) (by simp; omega) fun p6 c6 hp6 hc6 => ?_
    have hc64 : c6 ≤ 40 := hc6 40 (by
      intro k hk
      obtain ⟨n, hn, rfl⟩ := List.mem_map.mp hk
      rcases List.mem_append.mp hn with h | h
      · have := hcd n h
        omega
      · have := hst n h
        omega)
    walk_at "rd"
    refine rd_sortedSet upd_same (by omega) fun ns p7 hns hmem hlen hp7 => ?_
    have e47 := ((Ex.new hp5).trans (Ex.new hp6)).trans (Ex.new (o := .lst (ns.map V.int)) hp7)
    generalize hG : upd (upd (upd H4 p5 _) p6 _) p7 _ = H7 at e47 ⊢
    have t7 : H7 p7 = some (.lst (ns.map V.int)) := by rw [← hG]; exact upd_same
    clear hG
    have e27 : Ex H2 H7 := ((Ex.new hp3).trans ex4).trans e47
    have e07 : Ex H H7 := ex02.trans e27
    have hns0 : ∀ k ∈ ns, ∃ n : Nat, k = (n : Int) ∧ n < s'.rows.length := by
      intro k hk
      have h1 : decide (k ∈ (ss.cd ++ stl s'.evs).map fun n : Nat => (n : Int)) = true := (hmem k).mp hk
      obtain ⟨n, hn, rfl⟩ := List.mem_map.mp (of_decide_eq_true h1)
      refine ⟨n, rfl, ?_⟩
      rcases List.mem_append.mp hn with h | h
      · exact hcd n h
      · exact hst n h
    have t7' : H7 p7 = some (.lst (ivs (ns.map Int.toNat))) := by
      rw [t7, ivs_of_map]
      intro k hk
      obtain ⟨n, rfl, _⟩ := hns0 k hk
      omega
    have hfs1 : (ns.map Int.toNat).Pairwise (· < ·) := by
      refine List.pairwise_map.mpr (hns.imp_of_mem ?_)
      intro x y hx hy hxy
      obtain ⟨n, rfl, _⟩ := hns0 x hx
      obtain ⟨m, rfl, _⟩ := hns0 y hy
      simp
      omega
    have hfs2 : ∀ n ∈ ns.map Int.toNat, n < s'.rows.length := by
      intro n hn
      obtain ⟨k, hk, rfl⟩ := List.mem_map.mp hn
      obtain ⟨m, rfl, hm⟩ := hns0 k hk
      simpa using hm
    generalize ns.map Int.toNat = fs at t7' hfs1 hfs2
    obtain ⟨nm, ar, hact, hnm⟩ := ha
    have hact7 := e07 _ _ hact
    walk_at "rd"
    rename_i p8 hp8
    refine rd_in (.inr (st_of upd_same)) rfl rfl ?_
    have e78 : Ex H7 (upd H7 p8 (.tup [.str "collect", .str "collect_local"])) := Ex.new hp8
    have t78 := e78 _ _ t7'
    generalize upd H7 p8 (.tup [.str "collect", .str "collect_local"]) = H8 at e78 t78 ⊢
    walk_at "rd"
    refine join_if (fun σ H' => ∃ p fs, σ = [some (.ref A.s), some (.ref a), some (.ref U.u), some hv, some (.int ss.lim), some (.ref f), some (.ref c), some (.ref p1), some va, some (.ref p), none, none] ∧ Ex H8 H' ∧ H' p = some (.lst (ivs fs)) ∧ fs.Pairwise (· < ·) ∧ (∀ n ∈ fs, n < s'.rows.length)) (fun N' tail => if_b (fun hc1 => ?_) (fun hc1 => ?_)) ?_
    · walk_at "rd"
      rename_i p9 hp9
      exact tail _ _ ⟨p9, [], rfl, Ex.new hp9, upd_same, .nil, fun n hn => by simp at hn⟩
    · walk_at "rd"
      exact tail _ _ ⟨p7, fs, rfl, Ex.refl _, t78, hfs1, hfs2⟩
    · rintro σ H9 ⟨p9, gs, rfl, e89, t9, hgs1, hgs2⟩
      have e09 := (e07.trans e78).trans e89
      have hgl : gs.length ≤ 40 := by
        have := nodup_lt (hgs1.imp fun h => Nat.ne_of_lt h) hgs2
        omega
      have hva2 := hva
      obtain ⟨a1, s1, o1, rfl, ha1, ⟨b1, vs1, rfl, hb1, hvs1⟩, ⟨c1, rfl, hc1⟩⟩ := hva2
      have e29 := (e27.trans e78).trans e89
      have ha19 := e29 _ _ ha1
      have hb19 := e29 _ _ hb1
      walk_at "rd"
      intro D hD
      refine lc_it (walk_list (xs := ivs gs)) (fun i H' => Acc H9 D (ivs ((gs.take i).filter fun v => liveB s'.rows v)) H') (Acc.new (Ex.refl H9) hD) (fun i H' _ z => sqL_ex z.2.1 t9) ?_ ?_
      · rintro i x _ H10 hi acc ⟨rfl, hx⟩
        obtain ⟨n, hn, rfl⟩ := ivs_of hx
        have hnl := hgs2 n (List.mem_of_getElem? hn)
        have hvl : n < vs1.length := by rw [hvs1.1]; exact hnl
        have hvx := List.getElem?_eq_getElem hvl
        obtain ⟨r, h1, h2⟩ := hvs1.of hvx
        have h1' : s'.rows[n]? = some r := h1
        generalize vs1[n] = y at hvx h2
        have ha110 := acc.2.1 _ _ ha19
        have hb110 := acc.2.1 _ _ hb19
        have hle : ((gs.take i).filter fun v => liveB s'.rows v).length ≤ 40 := by
          have h1 := List.length_filter_le (fun v => liveB s'.rows v) (gs.take i)
          rw [List.length_take] at h1
          omega
        walk_at "rd"
        cases r with
        | none =>
          have e : y = .non := h2
          subst e
          walk_at "rd"
          rw [filter_take_no hn (liveB_none h1')]
          exact acc
        | some xs =>
          obtain ⟨d, rfl, hd⟩ := h2
          walk_at "rd"
          refine acc_add acc (by rw [ivs_len]; omega) ?_
          rw [filter_take_yes hn (liveB_some h1'), ivs_one]
      · rintro H10 acc
        walk_at "rd"
        refine rd_tupleOfL (sq_of acc.2.2) fun p10 hp10 => ?_
        rw [ivs_len, List.take_length]
        have e011 : Ex H (upd H10 p10 (.tup (ivs (gs.filter fun v => liveB s'.rows v)))) := (e09.trans acc.2.1).trans (Ex.new hp10)
        have e211 : Ex H2 (upd H10 p10 (.tup (ivs (gs.filter fun v => liveB s'.rows v)))) := (e29.trans acc.2.1).trans (Ex.new hp10)
        have t11 : upd H10 p10 (.tup (ivs (gs.filter fun v => liveB s'.rows v))) p10 = some (.tup (ivs (gs.filter fun v => liveB s'.rows v))) := upd_same
        generalize upd H10 p10 (.tup (ivs (gs.filter fun v => liveB s'.rows v))) = H11 at e011 e211 t11 ⊢
        have w11 := w.mono e011
        have t011 := w11.at0
        have tlog : H11 p1 = some (.tup (ivs s'.log)) := e211 _ _ (ex2 _ _ upd_same)
        have tfr := e011 _ _ t4
        walk_at "rd"
        refine rd_rt1 (st_of tlog) fun p12 hp12 => ?_
        rw [ivs_rev]
        walk_at "rd"
        refine rd_catA upd_same (upd_fr tfr hp12) ?_ fun p13 H13 ex13 hp13 => ?_
        · rw [ivs_len, ivs_len, List.length_reverse]
          exact small40 (by omega)
        rw [← ivs_app] at hp13
        walk_at "rd"
        rename_i p14 hp14
        have e1114 := ((Ex.new hp12).trans ex13).trans (Ex.new (o := .tup [.ref a1, .int ss.lim, .ref p13, .ref p10]) hp14)
        refine Exists.intro A ⟨ss, a, false, p1, s'.log, s'.heap, ss.lim, s'.log.reverse ++ ss.fr, gs.filter fun v => liveB s'.rows v, rfl, w11.mono e1114, rfl, ⟨nm, ar, e1114 _ _ (e011 _ _ hact), hnm⟩, rfl, e1114 _ _ tlog, ⟨p14, p13, p10, _, rfl, upd_same, hva.mono (e211.trans e1114), upd_fr hp13 hp14, e1114 _ _ t11⟩, n4, fun H15 w15 f15 => ?_⟩
        walk_at "rd"
        refine q p1 _ H15 ((w11.mono e1114).tk f15 _ _ (e1114 _ _ tlog)) w15 ((Frm.ex (e011.trans e1114)).trans f15) (hgs1.filter _) ?_
        intro cc hcc
        exact liveB_iff.mp (List.mem_filter.mp hcc).2
end
end Sf
/-! store: its methods that change it -/
namespace Sf
open PySem PySem.Spec PyProof.Rows L2 Evl
local macro_rules | `(tactic| walk_at "hx") => `(tactic| first | assumption | exact upd_same | (with_reducible refine upd_fr ?_ (by assumption); walk_at "hx") | (refine ex_get (by assumption) ?_; walk_at "hx"))
local macro_rules | `(tactic| walk_at "ex") => `(tactic| first | assumption | exact Ex.refl _ | (with_reducible refine ex_new ?_ (by assumption); walk_at "ex") | (refine Ex.trans ?_ (by assumption); walk_at "ex"))
local macro_rules | `(tactic| walk_at "sqT") => `(tactic| first | (with_reducible assumption) | exact st_of (by walk_at "hx"))
local macro_rules | `(tactic| walk_at "sqL") => `(tactic| first | (with_reducible assumption) | exact sq_of (by walk_at "hx"))
local macro_rules | `(tactic| walk_at "sq") => `(tactic| first | (with_reducible assumption) | exact st_of (by walk_at "hx") | exact sq_of (by walk_at "hx"))
local macro_rules | `(tactic| walk_at "ty") => `(tactic| first | exact TyX.base (.int _) | exact TyX.base .non | exact TyX.base (.bl _) | exact TyX.base (.str _) | exact TyX.base (.tup (by walk_at "hx")) | exact TyX.base (.lst (by walk_at "hx")))
local macro_rules | `(tactic| walk_at "rd1") => `(tactic| first
  | with_reducible refine rd_seq ?_
  | ((with_reducible refine' rd_var ?h ?_); (case h => exact rfl))
  | with_reducible refine rd_c ?_
  | with_reducible refine rd_op ?_
  | with_reducible refine rd_un ?_
  | with_reducible refine rd_CB ?_
  | with_reducible refine rd_call ?_
  | with_reducible refine rd_cons ?_
  | with_reducible refine rd_nil ?_
  | with_reducible refine rd_I0 ?_
  | with_reducible refine rd_U ?_
  | with_reducible refine rd_ret ?_
  | with_reducible refine rd_retN ?_
  | with_reducible refine rd_next ?_
  | with_reducible refine rd_asg ?_
  | with_reducible refine rd_gName ?_
  | with_reducible refine rd_drop ?_
  | with_reducible refine rd_ifS ?_
  | with_reducible refine rd_test ?_
  | with_reducible refine rd_B ?_
  | with_reducible refine rd_notT ?_
  | with_reducible refine rd_andT ?_
  | with_reducible refine rd_orT ?_
  | with_reducible refine rd_andV ?_
  | with_reducible refine rd_orV ?_
  | with_reducible refine rd_notV ?_
  | with_reducible refine rd_ifE ?_
  | with_reducible refine rd_chain ?_
  | with_reducible refine rd_tup ?_
  | with_reducible refine rd_lst ?_
  | with_reducible refine rd_k ?_
  | with_reducible refine rd_eqS rfl ?_
  | with_reducible refine rd_neS rfl ?_
  | ((with_reducible refine rd_and (small40 (Nat.le_of_ble_eq_true rfl)) ?_); intro _ _)
  | (with_reducible refine' rd_isiT2 (k := "tuple") ?ty ?hx kb_tl kb_tt ?_; (case ty => walk_at "ty"); (case hx => walk_at "hx"))
  | with_reducible refine us_is_integer ?_
  | with_reducible refine us_is_between ?_
  | ((with_reducible refine' rd_ixT0 ?sq ?g ?_); (case sq => walk_at "sqT"); (case g => first | exact rfl | assumption))
  | ((with_reducible refine' rd_ixT1 ?sq ?g ?_); (case sq => walk_at "sqT"); (case g => first | exact rfl | assumption))
  | ((with_reducible refine' rd_ixT2 ?sq ?g ?_); (case sq => walk_at "sqT"); (case g => first | exact rfl | assumption))
  | ((with_reducible refine' rd_ixT3 ?sq ?g ?_); (case sq => walk_at "sqT"); (case g => first | exact rfl | assumption))
  | ((with_reducible refine' rd_ixT4 ?sq ?g ?_); (case sq => walk_at "sqT"); (case g => first | exact rfl | assumption))
  | ((with_reducible refine' rd_ixL0 ?sq ?g ?_); (case sq => walk_at "sqL"); (case g => first | exact rfl | assumption))
  | ((with_reducible refine' rd_ixL1 ?sq ?g ?_); (case sq => walk_at "sqL"); (case g => first | exact rfl | assumption))
  | ((with_reducible refine' rd_ixL2 ?sq ?g ?_); (case sq => walk_at "sqL"); (case g => first | exact rfl | assumption))
  | ((with_reducible refine' rd_ixT ?sq ?g ?_); (case sq => walk_at "sqT"); (case g => first | assumption | exact rfl))
  | ((with_reducible refine' rd_ixL ?sq ?g ?_); (case sq => walk_at "sqL"); (case g => first | assumption | exact rfl))
  | with_reducible refine rd_sl ?_
  | with_reducible refine rd_noPart ?_
  | with_reducible refine rd_part ?_
  | with_reducible refine rd_pt1 ?_
  | with_reducible refine rd_make ?_
  | with_reducible refine rd_callN ?_
  | with_reducible refine rd_makeN ?_
  | with_reducible refine rd_revT ?_
  | with_reducible refine rd_dc ?_
  | with_reducible refine rd_notinD ?_
  | with_reducible refine rd_inD ?_
  | with_reducible refine rd_dget ?_
  | with_reducible refine rd_dput ?_
  | ((with_reducible refine' rd_fld1 ?h ?c ?n ?l ?_); (case h => walk_at "hx"); (case c => first | exact Tx.c_Unwinding (by assumption) | exact Tx.c_Store (by assumption)); (case n => first | exact Tx.n_Unwinding_rows (by assumption) | exact Tx.n_Unwinding_references (by assumption) | exact Tx.n_Unwinding_tallies (by assumption) | exact Tx.n_Unwinding_bound (by assumption) | exact Tx.n_Unwinding_log (by assumption) | exact Tx.n_Unwinding_shelf (by assumption) | exact Tx.n_Unwinding_peak (by assumption) | exact Tx.n_Unwinding_events (by assumption) | exact Tx.n_Store_snapshots (by assumption) | exact Tx.n_Store_recorded (by assumption) | exact Tx.n_Store_observer (by assumption) | exact Tx.n_Store_is_busy (by assumption)); (case l => exact rfl))
  | ((with_reducible refine' rd_sFld1 ?h ?c ?n ?l ?_); (case h => walk_at "hx"); (case c => first | exact Tx.c_Unwinding (by assumption) | exact Tx.c_Store (by assumption)); (case n => first | exact Tx.n_Unwinding_rows (by assumption) | exact Tx.n_Unwinding_references (by assumption) | exact Tx.n_Unwinding_tallies (by assumption) | exact Tx.n_Unwinding_bound (by assumption) | exact Tx.n_Unwinding_log (by assumption) | exact Tx.n_Unwinding_shelf (by assumption) | exact Tx.n_Unwinding_peak (by assumption) | exact Tx.n_Unwinding_events (by assumption) | exact Tx.n_Store_snapshots (by assumption) | exact Tx.n_Store_recorded (by assumption) | exact Tx.n_Store_observer (by assumption) | exact Tx.n_Store_is_busy (by assumption)); (case l => exact Nat.le_of_ble_eq_true rfl))
  | ((with_reducible refine' rd_meth1 ?h ?l ?_); (case h => walk_at "hx"); (case l => exact rfl))
  | ((with_reducible refine' rd_and (rd_tyL ?h) ?_); (case h => walk_at "hx"))
  | ((with_reducible refine' rd_rng1 ?hn ?_); (case hn => first | omega | (simp; omega)))
  | with_reducible refine rd_nx ?_
  | with_reducible refine rd_rt ?_
  | with_reducible refine rd_ct ?_
  | with_reducible refine rd_bk ?_
  | ((with_reducible refine' rd_isi ?ty ?kb ?_); (case ty => walk_at "ty"); (case kb => first | exact kb_ii | exact kb_ib | exact kb_tt | exact kb_tl | exact kb_ss | exact kb_nt))
  | with_reducible refine rd_for ?_
  | with_reducible refine rd_iTup ?_
  | with_reducible refine rd_iList ?_
  | with_reducible refine rd_iRng1 ?_
  | with_reducible refine rd_iRng2 ?_
  | with_reducible refine rd_iEnumT ?_
  | with_reducible refine rd_iEnum ?_
  | with_reducible refine rd_lc ?_
  | with_reducible refine rd_yes ?_
  | ((with_reducible refine' rd_gTup ?sq ?n ?_); (case sq => walk_at "sqT"); (case n => exact rfl))
  | with_reducible refine rd_gCons ?_
  | with_reducible refine rd_gNil ?_
  | with_reducible refine rd_fld ?_
  | with_reducible refine rd_meth ?_
  | with_reducible refine rd_sFld ?_
  | with_reducible refine rd_BM ?_
  | with_reducible refine rd_BM0 ?_
  | ((with_reducible refine' rd_orRow ?h (by assumption) ?_); (case h => exact rfl))
  | with_reducible refine rd_augS ?_
  | with_reducible refine rd_ip ?_
  | with_reducible refine rd_gSub ?_
  | ((with_reducible refine' rd_aug ?h ?_); (case h => exact rfl))
  | with_reducible refine rd_par ?_
  | with_reducible refine rd_par1 ?_
  | ((with_reducible refine' rd_lenT ?sq ?_); (case sq => exact st_of (by walk_at "hx")))
  | ((with_reducible refine' rd_lenL ?sq ?_); (case sq => exact sq_of (by walk_at "hx")))
  | ((with_reducible refine' rd_itt ?sq ?_); (case sq => walk_at "sqT"))
  | ((with_reducible refine' rd_itl ?sq ?_); (case sq => walk_at "sqL"))
  | ((with_reducible refine' rd_enumT ?sq ?_); (case sq => walk_at "sqT"))
  | ((with_reducible refine' rd_enumL ?sq ?_); (case sq => walk_at "sqL"))
  | with_reducible refine rd_and rfl ?_
  | with_reducible refine if_t rfl ?_
  | with_reducible refine if_f rfl ?_)
local macro_rules | `(tactic| walk_at "rd") => `(tactic| repeat (walk_at "rd1"))
def RunOk (ss : SS) (s' : Un) : Prop := s'.rows.length ≤ 40 ∧ (∀ c ∈ ss.cd, c < s'.rows.length) ∧ (∀ c ∈ stl s'.evs, c < s'.rows.length) ∧ ss.cd.length ≤ 40 ∧ (stl s'.evs).length ≤ 3900 ∧ s'.evs.length ≤ 200000 ∧ ss.don.length < 1000 ∧ s'.log.length ≤ 1000 ∧ ss.fr.length ≤ 1000
def SS.run (ss : SS) (s' : Un) (cd' : List Nat) : SS := ⟨s'.heap, ss.lim, s'.log.reverse ++ ss.fr, cd', ss.don ++ [(false, s'.log)]⟩
def RunPost (K : PySem.W.Frag) (A : SA) (H : Hp) (ss : SS) (s' : Un) (Q : VK) : Prop := ∀ l cd' H', H' l = some (.tup (ivs s'.log)) → SW K A H' (ss.run s' cd') → Frm A H H' → cd'.Pairwise (· < ·) → (∀ c ∈ cd', Live s'.rows c) → Q (.ref l) H'
theorem us_commit_run {K : PySem.W.Frag} {H : Hp} {Q : VK} {E : XK} {A : SA} {ss : SS} {U : UA} {B : Int} {H0 : Hp} {s' : Un} {a : Addr} (w : SW K A H ss) (ha : ActV H a false) (wu : UW K H0 U B H s') (ok : RunOk ss s') (q : RunPost K A H ss s' Q) : sp_Store_commit_run K [.ref A.s, .ref a, .ref U.u] H Q E :=
  let ⟨h1, h2, h3, h4, h5, h6, h7, h8, h9⟩ := ok
  ⟨A, ss, U, B, H0, s', a, rfl, w, rfl, ha, rfl, wu, h1, h2, h3, h4, h5, h6, h7, h8, h9, q⟩
def sp_Store_drop (K : PySem.W.Frag) : Sp := fun vs H Q _ => match vs with
  | [x, y] => ∃ A ss v s', x = .ref (SA.s A) ∧ SW K A H ss ∧ Vh ss.hp ∧ y = .int ((v : Nat) : Int) ∧ Live ss.hp.1 v ∧ 0 < outc ss.hp.2 v ∧ dropO ss.lim (Un.start ss.hp) v = some s' ∧ RunOk ss s' ∧ RunPost K A H ss s' Q
  | _ => False
def sp_Store_put (K : PySem.W.Frag) : Sp := fun vs H Q _ => match vs with
  | [x, y, z, t] => ∃ A ss v i xs g s', x = .ref (SA.s A) ∧ SW K A H ss ∧ Vh ss.hp ∧ y = .int ((v : Nat) : Int) ∧ z = .int ((i : Nat) : Int) ∧ ss.hp.1[v]? = some (some xs) ∧ i < xs.length ∧ t = ent g ∧ (∀ u, g = some u → Live ss.hp.1 u) ∧ fillS ss.lim (Un.start ss.hp) v i g = some s' ∧ RunOk ss s' ∧ RunPost K A H ss s' Q
  | _ => False
def sp_Store_empty_slots (K : PySem.W.Frag) : Sp := fun vs H Q _ => match vs with
  | [x, y] => ∃ A ss v s', x = .ref (SA.s A) ∧ SW K A H ss ∧ Vh ss.hp ∧ y = .int ((v : Nat) : Int) ∧ Live ss.hp.1 v ∧ strip ss.lim (Un.start ss.hp) v = some s' ∧ RunOk ss s' ∧ RunPost K A H ss s' Q
  | _ => False
def sp_Store_collect (K : PySem.W.Frag) : Sp := fun vs H Q _ => match vs with
  | [x] => ∃ A ss s', x = .ref (SA.s A) ∧ SW K A H ss ∧ Vh ss.hp ∧ stripAll ss.lim (unr ss.hp) (Un.start ss.hp) = some s' ∧ RunOk ss s' ∧ RunPost K A H ss s' Q
  | _ => False
def sp_Store_collect_local (K : PySem.W.Frag) : Sp := fun vs H Q _ => match vs with
  | [x] => ∃ A ss, x = .ref (SA.s A) ∧ SW K A H ss ∧ Vh ss.hp ∧ ss.cd.Nodup ∧ (∀ v ∈ ss.cd, Live ss.hp.1 v) ∧
      ∀ ns, (∀ v ∈ ns, v < ss.hp.1.length) → ns.length ≤ 40 → ∃ s', stripAll ss.lim ns (Un.start ss.hp) = some s' ∧ RunOk ss s' ∧
        ∀ t cd' H', SW K A H' (ss.run s' cd') → Frm A H H' → cd'.Pairwise (· < ·) → (∀ c ∈ cd', Live s'.rows c) → Q (.ref t) H'
  | _ => False
def SS.node (ss : SS) : Nat := match ss.fr with
  | [] => ss.hp.1.length
  | v :: _ => v
def sp_Store_new (K : PySem.W.Frag) : Sp := fun vs H Q _ => match vs with
  | [x, y] => ∃ A ss w, x = .ref (SA.s A) ∧ SW K A H ss ∧ Vh ss.hp ∧ y = .int ((w : Nat) : Int) ∧ w ≤ 40 ∧ (liveN ss.hp.1).length < 40 ∧ (∀ v ∈ ss.fr, v < ss.hp.1.length) ∧ ss.fr.length ≤ 40 ∧ ss.don.length < 1000 ∧
      ∀ H', SW K A H' ⟨withNode ss.hp ss.node w, ss.lim, ss.fr.tail, ss.cd, ss.don ++ [(true, [])]⟩ → Frm A H H' → Q (.int (ss.node : Nat)) H'
  | _ => False
def sp_Store_hold (K : PySem.W.Frag) : Sp := fun vs H Q _ => match vs with
  | [x, y] => ∃ A ss v, x = .ref (SA.s A) ∧ SW K A H ss ∧ Vh ss.hp ∧ y = .int ((v : Nat) : Int) ∧ Live ss.hp.1 v ∧ outc ss.hp.2 v ≠ 9 ∧ ss.don.length < 1000 ∧
      ∀ r H', SW K A H' ⟨withRef ss.hp v, ss.lim, ss.fr, ss.cd, ss.don ++ [(false, [])]⟩ → Frm A H H' → Q r H'
  | _ => False
def sp_Store_set_limit (K : PySem.W.Frag) : Sp := fun vs H Q _ => match vs with
  | [x, y] => ∃ A ss B, x = .ref (SA.s A) ∧ SW K A H ss ∧ y = .int B ∧ 1 ≤ B ∧ B ≤ 10 ^ 30 ∧ ss.don.length < 1000 ∧
      ∀ H', SW K A H' ⟨ss.hp, B, ss.fr, ss.cd, ss.don ++ [(false, [])]⟩ → Frm A H H' → Q .non H'
  | _ => False
theorem join_ifE {b : Bool} {ta tb : TE} {σ : L2.St} {H : Hp} {Q : VK} {x : V} (h : ∀ Q' : VK, Q' x H → if b = true then ta σ H Q' else tb σ H Q') (k : Q x H) : if b = true then ta σ H Q else tb σ H Q := h Q k
theorem flat_ivs (ns : List Nat) : (ivs ns).all flatV = true := by
  rw [List.all_eq_true]
  intro x hx
  obtain ⟨n, _, rfl⟩ := List.mem_map.mp hx
  rfl
theorem cut_1 (ns : List Nat) : cutV (ivs ns) (some 1) none = ivs ns.tail := by
  cases ns with
  | nil => rfl
  | cons n r =>
    have e : cutV (ivs (n :: r)) (some 1) none = (ivs (n :: r)).drop 1 := by
      unfold cutV HT.sIx
      simp [ivs]
      exact List.take_of_length_le (by simp)
    rw [e]
    rfl
section
variable {P : Program} {w : World} {K : PySem.W.Frag} {mg : Str → Option Value} {base : Heap}
theorem ok_Store_drop (T : Tx K mg) : FnOk P w K mg base CX0 87 (a_Store_drop K) (fd_Store_drop K) ["self", "node"] (sp_Store_drop K) := by
  refine FunD.ok T.f_Store_drop sc_Store_drop (fun vs H Q E h => match vs, h with | [_, _], _ => rfl) (fun cdv A outer s H vs Q E hr h => ⟨_, PSs.nox (pss_cons (ps_expr (pe_meth0 (pv 0) T.c_Store T.t_Store_require_idle (ok_Store_require_idle T) (hr.mono (by omega)) T.b_Store_require_idle .nil pass0))
      (pss_cons (ps_expr (pe_call (ok_require_reference T) (hr.mono (by omega)) (by rfl) T.g_require_reference T.k_require_reference T.b_require_reference .nil pass0 (pa_cons (pe_meth0 (pv 0) T.c_Store T.t_Store_heap (ok_Store_heap T) (hr.mono (by omega)) T.b_Store_heap .nil pass0) (pa_cons (pv 1) pa_nil))))
      (pss_cons (ps_set (i := 2) sc_Store_drop.nd rfl (Or.inl rfl) (pe_meth0 (pv 0) T.c_Store T.t_Store_begin (ok_Store_begin T) (hr.mono (by omega)) T.b_Store_begin .nil pass0))
      (pss_cons (ps_expr (pe_meth (pv 2) T.c_Unwinding T.t_Unwinding_drop_outside (ok_Unwinding_drop_outside T) (hr.mono (by omega)) T.b_Unwinding_drop_outside .nil pass0 (pa_cons (pv 1) pa_nil)))
      (pss_one (ps_ret (pe_meth (pv 0) T.c_Store T.t_Store_commit_run (ok_Store_commit_run T) (hr.mono (by omega)) T.b_Store_commit_run .nil pass0 (pa_cons (pe_tup (pa_cons pe_str (pa_cons (pv 1) pa_nil))) (pa_cons (pv 2) pa_nil))))))))), ?_⟩)
  match vs, h with
  | [v0, v1], h =>
    obtain ⟨A, ss, v, s', rfl, w, hV, rfl, hl, ho, hs, ok, q⟩ := h
    have t0 := w.at0
    walk_at "rd"
    refine Exists.intro A ⟨ss, rfl, w, ?_⟩
    walk_at "rd"
    refine Exists.intro A ⟨ss, rfl, w, fun hv hhv => ?_⟩
    walk_at "rd"
    refine Exists.intro ss.hp ⟨v, hhv, rfl, hl, by rw [← hV.len]; exact hl.lt, ho, ?_⟩
    walk_at "rd"
    refine Exists.intro A ⟨ss, rfl, w, hV, fun U H1 w1 => ?_⟩
    obtain ⟨pk1, u1⟩ := w1.at0
    walk_at "rd"
    refine Exists.intro H ⟨U, ss.lim, _, v, s', rfl, rfl, w1, hs, fun H2 w2 => ?_⟩
    obtain ⟨pk2, u2⟩ := w2.at0
    have t2 := w2.ex _ _ t0
    walk_at "rd"
    rename_i p hp
    have e3 := Ex.new (o := .tup [.str "drop", .int (v : Nat)]) hp
    refine us_commit_run (w.mono (w2.ex.trans e3)) ⟨"drop", _, upd_same, rfl⟩ (w2.more e3) ok ?_
    exact fun l cd' H' h1 h2 h3 h4 h5 => q l cd' H' h1 h2 ((Frm.ex (w2.ex.trans e3)).trans h3) h4 h5
theorem ok_Store_put (T : Tx K mg) : FnOk P w K mg base CX0 87 (a_Store_put K) (fd_Store_put K) ["self", "node", "slot", "target"] (sp_Store_put K) := by
  refine FunD.ok T.f_Store_put sc_Store_put (fun vs H Q E h => match vs, h with | [_, _, _, _], _ => rfl) (fun cdv A outer s H vs Q E hr h => ⟨_, PSs.nox (pss_cons (ps_expr (pe_meth0 (pv 0) T.c_Store T.t_Store_require_idle (ok_Store_require_idle T) (hr.mono (by omega)) T.b_Store_require_idle .nil pass0))
      (pss_cons (ps_expr (pe_call (ok_require_fill T) (hr.mono (by omega)) (by rfl) T.g_require_fill T.k_require_fill T.b_require_fill .nil pass0 (pa_cons (pe_meth0 (pv 0) T.c_Store T.t_Store_heap (ok_Store_heap T) (hr.mono (by omega)) T.b_Store_heap .nil pass0) (pa_cons (pv 1) (pa_cons (pv 2) (pa_cons (pv 3) pa_nil))))))
      (pss_cons (ps_set (i := 4) sc_Store_put.nd rfl (Or.inl rfl) (pe_meth0 (pv 0) T.c_Store T.t_Store_begin (ok_Store_begin T) (hr.mono (by omega)) T.b_Store_begin .nil pass0))
      (pss_cons (ps_expr (pe_meth (pv 4) T.c_Unwinding T.t_Unwinding_fill (ok_Unwinding_fill T) (hr.mono (by omega)) T.b_Unwinding_fill .nil pass0 (pa_cons (pv 1) (pa_cons (pv 2) (pa_cons (pv 3) pa_nil)))))
      (pss_one (ps_ret (pe_meth (pv 0) T.c_Store T.t_Store_commit_run (ok_Store_commit_run T) (hr.mono (by omega)) T.b_Store_commit_run .nil pass0 (pa_cons (pe_tup (pa_cons pe_str (pa_cons (pv 1) (pa_cons (pv 2) (pa_cons (pv 3) pa_nil))))) (pa_cons (pv 4) pa_nil))))))))), ?_⟩)
  match vs, h with
  | [v0, v1, v2, v3], h =>
    obtain ⟨A, ss, v, i, xs, g, s', rfl, w, hV, rfl, rfl, hxs, hi, rfl, hg, hs, ok, q⟩ := h
    have t0 := w.at0
    walk_at "rd"
    refine Exists.intro A ⟨ss, rfl, w, ?_⟩
    walk_at "rd"
    refine Exists.intro A ⟨ss, rfl, w, fun hv hhv => ?_⟩
    walk_at "rd"
    refine Exists.intro ss.hp ⟨v, i, xs, g, hhv, rfl, rfl, hxs, hi, rfl, hg, ?_⟩
    walk_at "rd"
    refine Exists.intro A ⟨ss, rfl, w, hV, fun U H1 w1 => ?_⟩
    obtain ⟨pk1, u1⟩ := w1.at0
    walk_at "rd"
    refine Exists.intro H ⟨U, ss.lim, _, v, i, g, s', rfl, rfl, rfl, rfl, w1, hs, fun H2 w2 => ?_⟩
    obtain ⟨pk2, u2⟩ := w2.at0
    have t2 := w2.ex _ _ t0
    walk_at "rd"
    rename_i p hp
    have e3 := Ex.new (o := .tup [.str "put", .int (v : Nat), .int (i : Nat), ent g]) hp
    refine us_commit_run (w.mono (w2.ex.trans e3)) ⟨"put", _, upd_same, rfl⟩ (w2.more e3) ok ?_
    exact fun l cd' H' h1 h2 h3 h4 h5 => q l cd' H' h1 h2 ((Frm.ex (w2.ex.trans e3)).trans h3) h4 h5
theorem ok_Store_empty_slots (T : Tx K mg) : FnOk P w K mg base CX0 88 (a_Store_empty_slots K) (fd_Store_empty_slots K) ["self", "node"] (sp_Store_empty_slots K) := by
  refine FunD.ok T.f_Store_empty_slots sc_Store_empty_slots (fun vs H Q E h => match vs, h with | [_, _], _ => rfl) (fun cdv A outer s H vs Q E hr h => ⟨_, PSs.nox (pss_cons (ps_expr (pe_meth0 (pv 0) T.c_Store T.t_Store_require_idle (ok_Store_require_idle T) (hr.mono (by omega)) T.b_Store_require_idle .nil pass0))
      (pss_cons (ps_expr (pe_call (ok_require_node T) (hr.mono (by omega)) (by rfl) T.g_require_node T.k_require_node T.b_require_node .nil pass0 (pa_cons (pe_meth0 (pv 0) T.c_Store T.t_Store_heap (ok_Store_heap T) (hr.mono (by omega)) T.b_Store_heap .nil pass0) (pa_cons (pv 1) pa_nil))))
      (pss_cons (ps_set (i := 2) sc_Store_empty_slots.nd rfl (Or.inl rfl) (pe_meth0 (pv 0) T.c_Store T.t_Store_begin (ok_Store_begin T) (hr.mono (by omega)) T.b_Store_begin .nil pass0))
      (pss_cons (ps_expr (pe_meth (pv 2) T.c_Unwinding T.t_Unwinding_strip (ok_Unwinding_strip T) (hr.mono (by omega)) T.b_Unwinding_strip .nil pass0 (pa_cons (pv 1) pa_nil)))
      (pss_one (ps_ret (pe_meth (pv 0) T.c_Store T.t_Store_commit_run (ok_Store_commit_run T) (hr.mono (by omega)) T.b_Store_commit_run .nil pass0 (pa_cons (pe_tup (pa_cons pe_str (pa_cons (pv 1) pa_nil))) (pa_cons (pv 2) pa_nil))))))))), ?_⟩)
  match vs, h with
  | [v0, v1], h =>
    obtain ⟨A, ss, v, s', rfl, w, hV, rfl, hl, hs, ok, q⟩ := h
    have t0 := w.at0
    walk_at "rd"
    refine Exists.intro A ⟨ss, rfl, w, ?_⟩
    walk_at "rd"
    refine Exists.intro A ⟨ss, rfl, w, fun hv hhv => ?_⟩
    walk_at "rd"
    refine Exists.intro ss.hp ⟨v, hhv, rfl, hl, ?_⟩
    walk_at "rd"
    refine Exists.intro A ⟨ss, rfl, w, hV, fun U H1 w1 => ?_⟩
    obtain ⟨pk1, u1⟩ := w1.at0
    walk_at "rd"
    refine Exists.intro H ⟨U, ss.lim, _, v, s', rfl, rfl, w1, hs, fun H2 w2 => ?_⟩
    obtain ⟨pk2, u2⟩ := w2.at0
    have t2 := w2.ex _ _ t0
    walk_at "rd"
    rename_i p hp
    have e3 := Ex.new (o := .tup [.str "empty_slots", .int (v : Nat)]) hp
    refine us_commit_run (w.mono (w2.ex.trans e3)) ⟨"empty_slots", _, upd_same, rfl⟩ (w2.more e3) ok ?_
    exact fun l cd' H' h1 h2 h3 h4 h5 => q l cd' H' h1 h2 ((Frm.ex (w2.ex.trans e3)).trans h3) h4 h5
theorem ok_Store_collect (T : Tx K mg) : FnOk P w K mg base CX0 89 (a_Store_collect K) (fd_Store_collect K) ["self"] (sp_Store_collect K) := by
  refine FunD.ok T.f_Store_collect sc_Store_collect (fun vs H Q E h => match vs, h with | [_], _ => rfl) (fun cdv A outer s H vs Q E hr h => ⟨_, PSs.nox (pss_cons (ps_expr (pe_meth0 (pv 0) T.c_Store T.t_Store_require_idle (ok_Store_require_idle T) (hr.mono (by omega)) T.b_Store_require_idle .nil pass0))
      (pss_cons (ps_set (i := 1) sc_Store_collect.nd rfl (Or.inl rfl) (pe_meth0 (pv 0) T.c_Store T.t_Store_begin (ok_Store_begin T) (hr.mono (by omega)) T.b_Store_begin .nil pass0))
      (pss_cons (ps_expr (pe_call (ok_strip_all T) (hr.mono (by omega)) (by rfl) T.g_strip_all T.k_strip_all T.b_strip_all .nil pass0 (pa_cons (pv 1) (pa_cons (pe_call (ok_unreachable T) (hr.mono (by omega)) (by rfl) T.g_unreachable T.k_unreachable T.b_unreachable .nil pass0 (pa_cons (pe_meth0 (pv 0) T.c_Store T.t_Store_heap (ok_Store_heap T) (hr.mono (by omega)) T.b_Store_heap .nil pass0) pa_nil)) pa_nil))))
      (pss_one (ps_ret (pe_meth (pv 0) T.c_Store T.t_Store_commit_run (ok_Store_commit_run T) (hr.mono (by omega)) T.b_Store_commit_run .nil pass0 (pa_cons (pe_tup (pa_cons pe_str pa_nil)) (pa_cons (pv 1) pa_nil)))))))), ?_⟩)
  match vs, h with
  | [v0], h =>
    obtain ⟨A, ss, s', rfl, w, hV, hs, ok, q⟩ := h
    have t0 := w.at0
    walk_at "rd"
    refine Exists.intro A ⟨ss, rfl, w, ?_⟩
    walk_at "rd"
    refine Exists.intro A ⟨ss, rfl, w, hV, fun U H1 w1 => ?_⟩
    have t1 := w1.ex _ _ t0
    walk_at "rd"
    refine Exists.intro A ⟨ss, rfl, w.mono w1.ex, fun hv hhv => ?_⟩
    walk_at "rd"
    refine Exists.intro ss.hp ⟨hhv, hV, fun l H2 hl ex2 ht => ?_⟩
    walk_at "rd"
    have w2 := w1.base ex2 hl ht
    refine Exists.intro (upd H l (.lst (ivs (unr ss.hp)))) ⟨U, ss.lim, _, l, _, s', rfl, rfl, w2, upd_same, hs, fun H3 w3 => ?_⟩
    have e03 : Ex H H3 := Ex.trans (Ex.new (free_back w1.ex hl)) w3.ex
    have t3 := e03 _ _ t0
    walk_at "rd"
    rename_i p hp
    have e3 := Ex.new (o := .tup [.str "collect"]) hp
    refine us_commit_run (w.mono (e03.trans e3)) ⟨"collect", _, upd_same, rfl⟩ (w3.more e3) ok ?_
    exact fun l cd' H' h1 h2 h3 h4 h5 => q l cd' H' h1 h2 ((Frm.ex (e03.trans e3)).trans h3) h4 h5
theorem ok_Store_set_limit (T : Tx K mg) : FnOk P w K mg base CX0 4 (a_Store_set_limit K) (fd_Store_set_limit K) ["self", "limit"] (sp_Store_set_limit K) := by
  refine FunD.ok T.f_Store_set_limit sc_Store_set_limit (fun vs H Q E h => match vs, h with | [_, _], _ => rfl) (fun cdv A outer s H vs Q E hr h => ⟨_, PSs.nox (pss_cons (ps_expr (pe_meth0 (pv 0) T.c_Store T.t_Store_require_idle (ok_Store_require_idle T) (hr.mono (by omega)) T.b_Store_require_idle .nil pass0))
      (pss_cons (ps_if (pt_not (pt_val (pe_call (ok_is_limit T) (hr.mono (by omega)) (by rfl) T.g_is_limit T.k_is_limit T.b_is_limit .nil pass0 (pa_cons (pv 1) pa_nil)))) (pss_one ps_never) pss_nil)
      (pss_cons (ps_asg (pe_ix (ixL (K := K)) (pe_fld (pv 0) rfl) (pe_un un_neg pe_int) (fun _ _ => rfl)) (pgTup (K := K) (n := 4) rfl (pgs_cons (pg_name (i := 2) sc_Store_set_limit.nd rfl (Or.inl rfl) (by exact Or.inl rfl)) (pgs_cons (pg_name (i := 3) sc_Store_set_limit.nd rfl (Or.inl rfl) (by exact Or.inl rfl)) (pgs_cons (pg_name (i := 4) sc_Store_set_limit.nd rfl (Or.inl rfl) (by exact Or.inl rfl)) (pgs_cons (pg_name (i := 5) sc_Store_set_limit.nd rfl (Or.inl rfl) (by exact Or.inl rfl)) pgs_nil))))))
      (pss_one (ps_expr (pe_meth (pv 0) T.c_Store T.t_Store_commit (ok_Store_commit T) (hr.mono (by omega)) T.b_Store_commit .nil pass0 (pa_cons (pe_tup (pa_cons pe_str (pa_cons (pv 1) pa_nil))) (pa_cons (pe_tup pa_nil) (pa_cons (pe_tup (pa_cons (pv 2) (pa_cons (pv 1) (pa_cons (pv 4) (pa_cons (pv 5) pa_nil))))) pa_nil))))))))), ?_⟩)
  match vs, h with
  | [v0, v1], h =>
    obtain ⟨A, ss, B, rfl, w, rfl, hB1, hB2, hd, q⟩ := h
    have t0 := w.at0
    walk_at "rd"
    refine Exists.intro A ⟨ss, rfl, w, ?_⟩
    walk_at "rd"
    refine Exists.intro B ⟨rfl, hB1, hB2, ?_⟩
    obtain ⟨ws, v, t1, hw1, ⟨t, f, c, hv, rfl, t2, t3, t4, t5⟩⟩ := w.at1
    walk_at "rd"
    refine rd_ixLast (sq_of t1) getLast_snoc ?_
    walk_at "rd"
    rename_i p1 hp1 p2 hp2 p3 hp3
    have e3 := ((Ex.new (o := .tup [.str "set_limit", .int B]) hp1).trans (Ex.new (o := .tup []) hp2)).trans (Ex.new (o := .tup [hv, .int B, .ref f, .ref c]) hp3)
    refine Exists.intro A ⟨ss, p1, false, p2, [], ss.hp, B, ss.fr, ss.cd, rfl, w.mono e3, rfl, ⟨"set_limit", _, upd_fr (upd_fr upd_same hp2) hp3, rfl⟩, rfl, upd_fr upd_same hp3, ⟨p3, f, c, hv, rfl, upd_same, t3.mono e3, e3 _ _ t4, e3 _ _ t5⟩, hd, fun H4 w4 f4 => ?_⟩
    exact q H4 w4 ((Frm.ex e3).trans f4)
theorem ok_Store_new (T : Tx K mg) : FnOk P w K mg base CX0 3 (a_Store_new K) (fd_Store_new K) ["self", "width"] (sp_Store_new K) := by
  refine FunD.ok T.f_Store_new sc_Store_new (fun vs H Q E h => match vs, h with | [_, _], _ => rfl) (fun cdv A outer s H vs Q E hr h => ⟨_, PSs.nox (pss_cons (ps_expr (pe_meth0 (pv 0) T.c_Store T.t_Store_require_idle (ok_Store_require_idle T) (hr.mono (by omega)) T.b_Store_require_idle .nil pass0))
      (pss_cons (ps_if (pt_not (pt_val (pe_call (ok_is_between T) (hr.mono (by omega)) (by rfl) T.g_is_between T.k_is_between T.b_is_between .nil pass0 (pa_cons (pv 1) (pa_cons pe_int (pa_cons (pe_gc (by rfl) T.i_MOST_SLOTS) pa_nil)))))) (pss_one ps_never) pss_nil)
      (pss_cons (ps_asg (pe_ix (ixL (K := K)) (pe_fld (pv 0) rfl) (pe_un un_neg pe_int) (fun _ _ => rfl)) (pgTup (K := K) (n := 4) rfl (pgs_cons (pg_name (i := 2) sc_Store_new.nd rfl (Or.inl rfl) (by exact Or.inl rfl)) (pgs_cons (pg_name (i := 3) sc_Store_new.nd rfl (Or.inl rfl) (by exact Or.inl rfl)) (pgs_cons (pg_name (i := 4) sc_Store_new.nd rfl (Or.inl rfl) (by exact Or.inl rfl)) (pgs_cons (pg_name (i := 5) sc_Store_new.nd rfl (Or.inl rfl) (by exact Or.inl rfl)) pgs_nil))))))
      (pss_cons (ps_if (pt_cmpR op_eq (pe_callB (cLen (K := K)) (by rfl) T.z_len (by decide +kernel) (pa_cons (pe_call (ok_live_nodes T) (hr.mono (by omega)) (by rfl) T.g_live_nodes T.k_live_nodes T.b_live_nodes .nil pass0 (pa_cons (pv 2) pa_nil)) pa_nil)) (pe_gc (by rfl) T.i_MOST_NODES) (nomark _)) (pss_one ps_never) pss_nil)
      (pss_cons (ps_set (i := 6) sc_Store_new.nd rfl (Or.inl rfl) (pe_ifExp (pt_cmpR (neD (K := K) hr.units) (pv 4) (pe_tup pa_nil) (nomark _)) (pe_ix (ixT (K := K)) (pv 4) pe_int (fun _ _ => rfl)) (pe_callB (cLen (K := K)) (by rfl) T.z_len (by decide +kernel) (pa_cons (pe_ix (ixT (K := K)) (pv 2) pe_int (fun _ _ => rfl)) pa_nil))))
      (pss_cons (ps_expr (pe_meth (pv 0) T.c_Store T.t_Store_commit (ok_Store_commit T) (hr.mono (by omega)) T.b_Store_commit .nil pass0 (pa_cons (pe_tup (pa_cons pe_str (pa_cons (pv 1) pa_nil))) (pa_cons (pe_tup pa_nil) (pa_cons (pe_tup (pa_cons (pe_call (ok_with_node T) (hr.mono (by omega)) (by rfl) T.g_with_node T.k_with_node T.b_with_node .nil pass0 (pa_cons (pv 2) (pa_cons (pv 6) (pa_cons (pv 1) pa_nil)))) (pa_cons (pv 3) (pa_cons (pe_slice sl_tupA (pv 4) (po_some pe_int) po_none) (pa_cons (pv 5) pa_nil))))) pa_nil)))))
      (pss_one (ps_ret (pv 6))))))))), ?_⟩)
  match vs, h with
  | [v0, v1], h =>
    obtain ⟨A, ss, wd, rfl, w, hV, rfl, hw, hl40, hfr, hfl, hd, q⟩ := h
    have t0 := w.at0
    have h40 := hV.n40
    walk_at "rd"
    refine Exists.intro A ⟨ss, rfl, w, ?_⟩
    walk_at "rd"
    have e : decide ((0 : Int) ≤ (wd : Nat) ∧ ((wd : Nat) : Int) ≤ 40) = true := by simp; omega
    rw [e]
    obtain ⟨ws, v, t1, hw1, ⟨t, f, c, hv, rfl, t2, t3, t4, t5⟩⟩ := w.at1
    walk_at "rd"
    refine rd_ixLast (sq_of t1) getLast_snoc ?_
    walk_at "rd"
    refine us_live_nodes t3 h40 fun p H1 hp ex1 ht => ?_
    walk_at "rd"
    refine if_f (by rw [ivs_len]; simp; omega) ?_
    have t41 := ex1 _ _ t4
    walk_at "rd"
    rename_i p2 hp2
    have ex2 := ex1.trans (Ex.new (o := .tup []) hp2)
    refine rd_neT0 (ex2 _ _ t4) upd_same (at_ivs _) ?_
    generalize upd H1 p2 (.tup []) = H2 at ex2 ⊢
    have t42 := ex2 _ _ t4
    have t32 := t3.mono ex2
    have t02 := ex2 _ _ t0
    have hnode : ss.node ≤ ss.hp.1.length := by
      unfold SS.node
      split
      · exact Nat.le_refl _
      · rename_i x r he
        exact Nat.le_of_lt (hfr x (by rw [he]; exact List.mem_cons_self ..))
    have t3' := t3
    obtain ⟨a, sl, o, rfl, ha, ⟨b, vs, rfl, hb, hvs⟩, ⟨c', rfl, hcc⟩⟩ := t3'
    have ha2 := ex2 _ _ ha
    have hb2 := ex2 _ _ hb
    walk_at "rd"
    refine join_ifE (x := .int ((ss.node : Nat) : Int)) (fun Q' tail => if_b (fun hc => ?_) (fun hc => ?_)) ?_
    · obtain ⟨x, r, he⟩ : ∃ x r, ss.fr = x :: r := by
        cases hf : ss.fr with
        | nil => rw [hf] at hc; cases hc
        | cons x r => exact ⟨x, r, rfl⟩
      have hnx : ss.node = x := by unfold SS.node; rw [he]
      have hx0 : (ivs ss.fr)[0]? = some (.int (x : Nat)) := by rw [he]; rfl
      rw [hnx] at tail
      walk_at "rd"
      exact tail
    · have he : ss.fr = [] := by
        cases hf : ss.fr with
        | nil => rfl
        | cons x r => rw [hf] at hc; cases hc
      have hnx : ss.node = vs.length := by unfold SS.node; rw [he, hvs.1]
      rw [hnx] at tail
      walk_at "rd"
      exact tail
    · walk_at "rd"
      rename_i p3 hp3 p4 hp4
      have e4 := (Ex.new (o := .tup [.str "new", .int (wd : Nat)]) hp3).trans (Ex.new (o := .tup []) hp4)
      refine Exists.intro ss.hp ⟨ss.node, wd, t32.mono e4, hV, rfl, rfl, by omega, hnode, fun r H5 ex5 hr5 => ?_⟩
      have e25 := e4.trans ex5
      have t45 := e25 _ _ t42
      walk_at "rd"
      refine rd_slA t45 fun p6 H6 ex6 hp6 => ?_
      rw [cut_1] at hp6
      have e26 := e25.trans ex6
      walk_at "rd"
      rename_i p7 hp7
      have e67 := Ex.new (o := .tup [r, .int ss.lim, .ref p6, .ref c]) hp7
      have e07 := (ex2.trans e26).trans e67
      have e37 := (((Ex.new (o := .tup []) hp4).trans ex5).trans ex6).trans e67
      have e47 := (ex5.trans ex6).trans e67
      refine Exists.intro A ⟨ss, p3, true, p4, [], withNode ss.hp ss.node wd, ss.lim, ss.fr.tail, ss.cd, rfl, w.mono e07, rfl, ⟨"new", _, e37 _ _ upd_same, rfl⟩, rfl, e47 _ _ upd_same, ⟨p7, p6, c, r, rfl, upd_same, hr5.mono (ex6.trans e67), e67 _ _ hp6, e07 _ _ t5⟩, hd, fun H8 w8 f8 => ?_⟩
      walk_at "rd"
      exact q H8 w8 ((Frm.ex e07).trans f8)
theorem ok_Store_hold (T : Tx K mg) : FnOk P w K mg base CX0 5 (a_Store_hold K) (fd_Store_hold K) ["self", "node"] (sp_Store_hold K) := by
  refine FunD.ok T.f_Store_hold sc_Store_hold (fun vs H Q E h => match vs, h with | [_, _], _ => rfl) (fun cdv A outer s H vs Q E hr h => ⟨_, PSs.nox (pss_cons (ps_expr (pe_meth0 (pv 0) T.c_Store T.t_Store_require_idle (ok_Store_require_idle T) (hr.mono (by omega)) T.b_Store_require_idle .nil pass0))
      (pss_cons (ps_asg (pe_ix (ixL (K := K)) (pe_fld (pv 0) rfl) (pe_un un_neg pe_int) (fun _ _ => rfl)) (pgTup (K := K) (n := 4) rfl (pgs_cons (pg_name (i := 2) sc_Store_hold.nd rfl (Or.inl rfl) (by exact Or.inl rfl)) (pgs_cons (pg_name (i := 3) sc_Store_hold.nd rfl (Or.inl rfl) (by exact Or.inl rfl)) (pgs_cons (pg_name (i := 4) sc_Store_hold.nd rfl (Or.inl rfl) (by exact Or.inl rfl)) (pgs_cons (pg_name (i := 5) sc_Store_hold.nd rfl (Or.inl rfl) (by exact Or.inl rfl)) pgs_nil))))))
      (pss_cons (ps_expr (pe_call (ok_require_node T) (hr.mono (by omega)) (by rfl) T.g_require_node T.k_require_node T.b_require_node .nil pass0 (pa_cons (pv 2) (pa_cons (pv 1) pa_nil))))
      (pss_cons (ps_if (pt_cmpR op_eq (pe_ix (ixT (K := K)) (pe_ix (ixT (K := K)) (pv 2) pe_int (fun _ _ => rfl)) (pv 1) (fun _ _ => rfl)) (pe_gc (by rfl) T.i_MOST_OUTSIDE) (nomark _)) (pss_one ps_never) pss_nil)
      (pss_cons (ps_expr (pe_meth (pv 0) T.c_Store T.t_Store_commit (ok_Store_commit T) (hr.mono (by omega)) T.b_Store_commit .nil pass0 (pa_cons (pe_tup (pa_cons pe_str (pa_cons (pv 1) pa_nil))) (pa_cons (pe_tup pa_nil) (pa_cons (pe_tup (pa_cons (pe_call (ok_with_reference T) (hr.mono (by omega)) (by rfl) T.g_with_reference T.k_with_reference T.b_with_reference .nil pass0 (pa_cons (pv 2) (pa_cons (pv 1) pa_nil))) (pa_cons (pv 3) (pa_cons (pv 4) (pa_cons (pv 5) pa_nil))))) pa_nil)))))
      (pss_one (ps_ret (pe_op op_add (pe_ix (ixT (K := K)) (pe_ix (ixT (K := K)) (pv 2) pe_int (fun _ _ => rfl)) (pv 1) (fun _ _ => rfl)) pe_int)))))))), ?_⟩)
  match vs, h with
  | [v0, v1], h =>
    obtain ⟨A, ss, v, rfl, w, hV, rfl, hl, h9, hd, q⟩ := h
    have t0 := w.at0
    walk_at "rd"
    refine Exists.intro A ⟨ss, rfl, w, ?_⟩
    obtain ⟨ws, v', t1, hw1, ⟨t, f, c, hv, rfl, t2, t3, t4, t5⟩⟩ := w.at1
    have t3' := t3
    obtain ⟨a, sl, o, rfl, ha, ⟨b, vs, rfl, hb, hvs⟩, ⟨c', rfl, hc⟩⟩ := t3'
    have hno := hV.len
    have hvl := hl.lt
    have hx := out_ivs (os := ss.hp.2) (v := v) (by omega)
    walk_at "rd"
    refine rd_ixLast (sq_of t1) getLast_snoc ?_
    walk_at "rd"
    refine Exists.intro ss.hp ⟨v, t3, rfl, hl, ?_⟩
    walk_at "rd"
    refine if_f (by
      apply decide_eq_false
      intro h
      injection h with h
      omega) ?_
    walk_at "rd"
    rename_i p1 hp1 p2 hp2
    have e2 := (Ex.new (o := .tup [.str "hold", .int (v : Nat)]) hp1).trans (Ex.new (o := .tup []) hp2)
    refine Exists.intro ss.hp ⟨v, t3.mono e2, hV, rfl, hl.lt, fun r H3 ex3 hr3 => ?_⟩
    walk_at "rd"
    rename_i p3 hp3
    have e3 := (e2.trans ex3).trans (Ex.new (o := .tup [r, .int ss.lim, .ref f, .ref c]) hp3)
    have e13 := ((Ex.new (o := .tup []) hp2).trans ex3).trans (Ex.new (o := .tup [r, .int ss.lim, .ref f, .ref c]) hp3)
    have e23 := ex3.trans (Ex.new (o := .tup [r, .int ss.lim, .ref f, .ref c]) hp3)
    refine Exists.intro A ⟨ss, p1, false, p2, [], withRef ss.hp v, ss.lim, ss.fr, ss.cd, rfl, w.mono e3, rfl, ⟨"hold", _, e13 _ _ upd_same, rfl⟩, rfl, e23 _ _ upd_same, ⟨p3, f, c, r, rfl, upd_same, hr3.mono (Ex.new hp3), e3 _ _ t4, e3 _ _ t5⟩, hd, fun H4 w4 f4 => ?_⟩
    have wk := (w.mono e3).tk f4
    have ha4 := wk _ _ (e3 _ _ ha)
    have hc4 := wk _ _ (e3 _ _ hc)
    walk_at "rd"
    exact q _ H4 w4 ((Frm.ex e3).trans f4)
theorem ok_Store_collect_local (T : Tx K mg) : FnOk P w K mg base CX0 89 (a_Store_collect_local K) (fd_Store_collect_local K) ["self"] (sp_Store_collect_local K) := by
  refine FunD.ok T.f_Store_collect_local sc_Store_collect_local (fun vs H Q E h => match vs, h with | [_], _ => rfl) (fun cdv A outer s H vs Q E hr h => ⟨_, PSs.nox (pss_cons (ps_expr (pe_meth0 (pv 0) T.c_Store T.t_Store_require_idle (ok_Store_require_idle T) (hr.mono (by omega)) T.b_Store_require_idle .nil pass0))
      (pss_cons (ps_set (i := 1) sc_Store_collect_local.nd rfl (Or.inl rfl) (pe_callB (call_sortedDI rfl) (by rfl) T.z_sorted (by decide +kernel) (pa_cons (pe_call (ok_came_from T) (hr.mono (by omega)) (by rfl) T.g_came_from T.k_came_from T.b_came_from .nil pass0 (pa_cons (pe_meth0 (pv 0) T.c_Store T.t_Store_heap (ok_Store_heap T) (hr.mono (by omega)) T.b_Store_heap .nil pass0) (pa_cons (pe_meth0 (pv 0) T.c_Store T.t_Store_candidates (ok_Store_candidates T) (hr.mono (by omega)) T.b_Store_candidates .nil pass0) pa_nil))) pa_nil)))
      (pss_cons (ps_set (i := 2) sc_Store_collect_local.nd rfl (Or.inr rfl) (pe_call (ok_unreachable T) (hr.mono (by omega)) (by rfl) T.g_unreachable T.k_unreachable T.b_unreachable .nil pass0 (pa_cons (pe_meth0 (pv 0) T.c_Store T.t_Store_heap (ok_Store_heap T) (hr.mono (by omega)) T.b_Store_heap .nil pass0) pa_nil)))
      (pss_cons (ps_set (i := 3) sc_Store_collect_local.nd rfl (Or.inl rfl) (pe_meth0 (pv 0) T.c_Store T.t_Store_begin (ok_Store_begin T) (hr.mono (by omega)) T.b_Store_begin .nil pass0))
      (pss_cons (ps_expr (pe_call (ok_strip_all T) (hr.mono (by omega)) (by rfl) T.g_strip_all T.k_strip_all T.b_strip_all .nil pass0 (pa_cons (pv 3) (pa_cons (pe_lc rfl sc_Store_collect_local.nd (pi_list (pv 1)) (blkOk_by (own := [("node", 4)]) (N := N_Store_collect_local) (sc := defScope s_Store_collect_local) (by decide +kernel)) (fun _ _ _ _ _ => (pg_name (i := 4) sc_Store_collect_local.nd rfl (Or.inl rfl) (by exact Or.inr rfl))) (fun _ _ _ _ _ => (pts_one (pt_cmpR (inS (K := K)) (pv 4) (pv 2) (by rfl)))) (fun _ _ _ _ _ => (pv 4))) pa_nil))))
      (pss_one (ps_ret (pe_tup (pa_cons (pe_meth (pv 0) T.c_Store T.t_Store_commit_run (ok_Store_commit_run T) (hr.mono (by omega)) T.b_Store_commit_run .nil pass0 (pa_cons (pe_tup (pa_cons pe_str pa_nil)) (pa_cons (pv 3) pa_nil))) (pa_cons (pe_callTy (cTuple (K := K)) (by rfl) T.z_tuple (by decide +kernel) (pa_cons (pv 1) pa_nil)) pa_nil)))))))))), ?_⟩)
  match vs, h with
  | [v0], h =>
    obtain ⟨A, ss, rfl, w, hV, hnd, hlv, q⟩ := h
    have t0 := w.at0
    have h40 := hV.n40
    walk_at "rd"
    refine Exists.intro A ⟨ss, rfl, w, ?_⟩
    walk_at "rd"
    refine Exists.intro A ⟨ss, rfl, w, fun hv hhv => ?_⟩
    walk_at "rd"
    refine Exists.intro A ⟨ss, rfl, w, fun ca hca => ?_⟩
    walk_at "rd"
    refine Exists.intro ss.hp ⟨ss.cd, ca, hhv, hV, rfl, .inr hca, hnd, hlv, fun p2 H2 fr hp2 ex2 hd cf cl => ?_⟩
    have hfl := cf.len
    walk_at "rd"
    refine ⟨p2, kvsF fr, (keys fr).map fun n : Nat => (n : Int), rfl, .inl hd, ?_, ?_, ?_⟩
    · simp [kvsF, keys]
    · rw [List.length_map, keys_len]
      omega
    · intro ys p hys hsrt hpn
      have hys0 : ∀ k ∈ ys, ∃ n : Nat, k = (n : Int) ∧ n < ss.hp.1.length := by
        intro k hk
        obtain ⟨n, hn, rfl⟩ := List.mem_map.mp (hys.mem_iff.mp hk)
        exact ⟨n, rfl, (cf.lv n hn).lt⟩
      have hyl : ys.length ≤ 40 := by
        rw [hys.length_eq, List.length_map, keys_len]
        omega
      have ty : upd H2 p (.lst (ys.map V.int)) p = some (.lst (ivs (ys.map Int.toNat))) := by
        rw [upd_same, ivs_of_map]
        intro k hk
        obtain ⟨n, rfl, _⟩ := hys0 k hk
        omega
      have hfs2 : ∀ n ∈ ys.map Int.toNat, n < ss.hp.1.length := by
        intro n hn
        obtain ⟨k, hk, rfl⟩ := List.mem_map.mp hn
        obtain ⟨m, rfl, hm⟩ := hys0 k hk
        simpa using hm
      have hvl : (ys.map Int.toNat).length ≤ 40 := by rw [List.length_map]; exact hyl
      have hps : p ≠ A.sn := by
        obtain ⟨_, _, z, _⟩ := w.at1
        exact Ne.symm (ne_of_none (ex2 _ _ z) hpn)
      have hpr : p ≠ A.rc := by
        obtain ⟨_, z, _⟩ := w.at2
        exact Ne.symm (ne_of_none (ex2 _ _ z) hpn)
      have ex3 := ex2.trans (Ex.new (o := .lst (ys.map V.int)) hpn)
      generalize upd H2 p (.lst (ys.map V.int)) = H3 at ty ex3 ⊢
      generalize ys.map Int.toNat = vis at ty hfs2 hvl
      have t03 := ex3 _ _ t0
      walk_at "rd"
      refine Exists.intro A ⟨ss, rfl, w.mono ex3, fun hv3 hhv3 => ?_⟩
      walk_at "rd"
      refine Exists.intro ss.hp ⟨hhv3, hV, fun l4 H4 hl4 ex4 ht4 => ?_⟩
      have ex04 := ex3.trans ex4
      have t04 := ex04 _ _ t0
      walk_at "rd"
      refine Exists.intro A ⟨ss, rfl, w.mono ex04, hV, fun U H5 w5 => ?_⟩
      have ex05 := ex04.trans w5.ex
      have ty5 := w5.ex _ _ (ex4 _ _ ty)
      have ht5 := w5.ex _ _ ht4
      walk_at "rd"
      intro D hD
      refine lc_it (walk_list (xs := ivs vis)) (fun i H' => ∃ zs, Acc H5 D (ivs zs) H' ∧ zs.length ≤ i ∧ ∀ z ∈ zs, z < ss.hp.1.length) ⟨[], Acc.new (Ex.refl H5) hD, by simp, by simp⟩ (fun i H' _ z => let ⟨_, z, _⟩ := z; sqL_ex z.2.1 ty5) ?_ ?_
      · rintro i x _ H6 hi ⟨zs, acc, hzl, hz⟩ ⟨rfl, hx⟩
        obtain ⟨n, hn, rfl⟩ := ivs_of hx
        have hn2 := hfs2 n (List.mem_of_getElem? hn)
        have ht6 := acc.2.1 _ _ ht5
        have hi2 : i < 40 := by
          rw [ivs_len] at hi
          omega
        walk_at "rd"
        refine rd_in (.inl (sq_of ht6)) rfl (flat_ivs _) ?_
        walk_at "rd"
        refine if_b (fun hc => ?_) (fun hc => ?_)
        · walk_at "rd"
          refine ⟨ivs zs, acc.2.2, lt40 (by rw [ivs_len]; omega), zs ++ [n], ?_, by simp; omega, ?_⟩
          · rw [← ivs_one]
            exact acc.put
          · intro z hz2
            rcases List.mem_append.mp hz2 with h | h
            · exact hz z h
            · cases List.mem_singleton.mp h
              exact hn2
        · exact ⟨zs, acc, by omega, hz⟩
      · rintro H6 ⟨zs, acc, hzl, hz⟩
        rw [ivs_len] at hzl
        obtain ⟨s', hs, ok, q2⟩ := q zs hz (by omega)
        walk_at "rd"
        have w6 := w5.base acc.2.1 hD acc.2.2
        have hDH : H D = none := free_back ex05 hD
        refine Exists.intro (upd H4 D (.lst (ivs zs))) ⟨U, ss.lim, _, D, zs, s', rfl, rfl, w6, upd_same, hs, fun H7 w7 => ?_⟩
        have e07 : Ex H H7 := ((ex04.trans (Ex.new (free_back w5.ex hD))).trans w7.ex)
        have t07 := e07 _ _ t0
        have ty7 := (Ex.trans (Ex.trans ex4 (Ex.new (free_back w5.ex hD))) w7.ex) _ _ ty
        walk_at "rd"
        rename_i p8 hp8
        have e8 := Ex.new (o := .tup [.str "collect_local"]) hp8
        refine us_commit_run (w.mono (e07.trans e8)) ⟨"collect_local", _, upd_same, rfl⟩ (w7.more e8) ok ?_
        intro l cd' H9 h1 h2 h3 h4 h5
        have ty9 : H9 p = some (.lst (ivs vis)) := h3 p _ hps hpr (e8 _ _ ty7)
        walk_at "rd"
        refine rd_tupleOfL (sq_of ty9) fun p10 hp10 => ?_
        walk_at "rd"
        rename_i p11 hp11
        have e911 := (Ex.new (o := .tup (ivs vis)) hp10).trans (Ex.new (o := .tup [.ref l, .ref p10]) hp11)
        exact q2 p11 cd' _ (h2.mono e911) (((Frm.ex (e07.trans e8)).trans h3).trans (Frm.ex e911)) h4 h5
end
end Sf
/-! reachchecker -/
namespace Sf
open PySem PySem.Spec PyProof.Rows L2 Evl
local macro_rules | `(tactic| walk_at "hx") => `(tactic| first | assumption | exact upd_same | (with_reducible refine upd_fr ?_ (by assumption); walk_at "hx") | (refine ex_get (by assumption) ?_; walk_at "hx"))
local macro_rules | `(tactic| walk_at "ex") => `(tactic| first | assumption | exact Ex.refl _ | (with_reducible refine ex_new ?_ (by assumption); walk_at "ex") | (refine Ex.trans ?_ (by assumption); walk_at "ex"))
local macro_rules | `(tactic| walk_at "sqT") => `(tactic| first | (with_reducible assumption) | exact st_of (by walk_at "hx"))
local macro_rules | `(tactic| walk_at "sqL") => `(tactic| first | (with_reducible assumption) | exact sq_of (by walk_at "hx"))
local macro_rules | `(tactic| walk_at "sq") => `(tactic| first | (with_reducible assumption) | exact st_of (by walk_at "hx") | exact sq_of (by walk_at "hx"))
local macro_rules | `(tactic| walk_at "ty") => `(tactic| first | exact TyX.base (.int _) | exact TyX.base .non | exact TyX.base (.bl _) | exact TyX.base (.str _) | exact TyX.base (.tup (by walk_at "hx")) | exact TyX.base (.lst (by walk_at "hx")))
local macro_rules | `(tactic| walk_at "rd1") => `(tactic| first
  | with_reducible refine rd_seq ?_
  | ((with_reducible refine' rd_var ?h ?_); (case h => exact rfl))
  | with_reducible refine rd_c ?_
  | with_reducible refine rd_op ?_
  | with_reducible refine rd_un ?_
  | with_reducible refine rd_CB ?_
  | with_reducible refine rd_call ?_
  | with_reducible refine rd_cons ?_
  | with_reducible refine rd_nil ?_
  | with_reducible refine rd_I0 ?_
  | with_reducible refine rd_U ?_
  | with_reducible refine rd_ret ?_
  | with_reducible refine rd_retN ?_
  | with_reducible refine rd_next ?_
  | with_reducible refine rd_asg ?_
  | with_reducible refine rd_gName ?_
  | with_reducible refine rd_drop ?_
  | with_reducible refine rd_ifS ?_
  | with_reducible refine rd_test ?_
  | with_reducible refine rd_B ?_
  | with_reducible refine rd_notT ?_
  | with_reducible refine rd_andT ?_
  | with_reducible refine rd_orT ?_
  | with_reducible refine rd_andV ?_
  | with_reducible refine rd_orV ?_
  | with_reducible refine rd_notV ?_
  | with_reducible refine rd_ifE ?_
  | with_reducible refine rd_chain ?_
  | with_reducible refine rd_tup ?_
  | with_reducible refine rd_lst ?_
  | with_reducible refine rd_k ?_
  | with_reducible refine rd_eqS rfl ?_
  | with_reducible refine rd_neS rfl ?_
  | ((with_reducible refine rd_and (small40 (Nat.le_of_ble_eq_true rfl)) ?_); intro _ _)
  | (with_reducible refine' rd_isiT2 (k := "tuple") ?ty ?hx kb_tl kb_tt ?_; (case ty => walk_at "ty"); (case hx => walk_at "hx"))
  | with_reducible refine us_is_integer ?_
  | with_reducible refine us_is_between ?_
  | ((with_reducible refine' rd_ixT0 ?sq ?g ?_); (case sq => walk_at "sqT"); (case g => first | exact rfl | assumption))
  | ((with_reducible refine' rd_ixT1 ?sq ?g ?_); (case sq => walk_at "sqT"); (case g => first | exact rfl | assumption))
  | ((with_reducible refine' rd_ixT2 ?sq ?g ?_); (case sq => walk_at "sqT"); (case g => first | exact rfl | assumption))
  | ((with_reducible refine' rd_ixT3 ?sq ?g ?_); (case sq => walk_at "sqT"); (case g => first | exact rfl | assumption))
  | ((with_reducible refine' rd_ixT4 ?sq ?g ?_); (case sq => walk_at "sqT"); (case g => first | exact rfl | assumption))
  | ((with_reducible refine' rd_ixL0 ?sq ?g ?_); (case sq => walk_at "sqL"); (case g => first | exact rfl | assumption))
  | ((with_reducible refine' rd_ixL1 ?sq ?g ?_); (case sq => walk_at "sqL"); (case g => first | exact rfl | assumption))
  | ((with_reducible refine' rd_ixL2 ?sq ?g ?_); (case sq => walk_at "sqL"); (case g => first | exact rfl | assumption))
  | ((with_reducible refine' rd_ixT ?sq ?g ?_); (case sq => walk_at "sqT"); (case g => first | assumption | exact rfl))
  | ((with_reducible refine' rd_ixL ?sq ?g ?_); (case sq => walk_at "sqL"); (case g => first | assumption | exact rfl))
  | with_reducible refine rd_sl ?_
  | with_reducible refine rd_noPart ?_
  | with_reducible refine rd_part ?_
  | with_reducible refine rd_pt1 ?_
  | with_reducible refine rd_make ?_
  | with_reducible refine rd_callN ?_
  | with_reducible refine rd_makeN ?_
  | with_reducible refine rd_revT ?_
  | with_reducible refine rd_dc ?_
  | with_reducible refine rd_notinD ?_
  | with_reducible refine rd_inD ?_
  | with_reducible refine rd_dget ?_
  | with_reducible refine rd_dput ?_
  | ((with_reducible refine' rd_fld1 ?h ?c ?n ?l ?_); (case h => walk_at "hx"); (case c => first | exact Tx.c_Unwinding (by assumption) | exact Tx.c_Store (by assumption)); (case n => first | exact Tx.n_Unwinding_rows (by assumption) | exact Tx.n_Unwinding_references (by assumption) | exact Tx.n_Unwinding_tallies (by assumption) | exact Tx.n_Unwinding_bound (by assumption) | exact Tx.n_Unwinding_log (by assumption) | exact Tx.n_Unwinding_shelf (by assumption) | exact Tx.n_Unwinding_peak (by assumption) | exact Tx.n_Unwinding_events (by assumption) | exact Tx.n_Store_snapshots (by assumption) | exact Tx.n_Store_recorded (by assumption) | exact Tx.n_Store_observer (by assumption) | exact Tx.n_Store_is_busy (by assumption)); (case l => exact rfl))
  | ((with_reducible refine' rd_sFld1 ?h ?c ?n ?l ?_); (case h => walk_at "hx"); (case c => first | exact Tx.c_Unwinding (by assumption) | exact Tx.c_Store (by assumption)); (case n => first | exact Tx.n_Unwinding_rows (by assumption) | exact Tx.n_Unwinding_references (by assumption) | exact Tx.n_Unwinding_tallies (by assumption) | exact Tx.n_Unwinding_bound (by assumption) | exact Tx.n_Unwinding_log (by assumption) | exact Tx.n_Unwinding_shelf (by assumption) | exact Tx.n_Unwinding_peak (by assumption) | exact Tx.n_Unwinding_events (by assumption) | exact Tx.n_Store_snapshots (by assumption) | exact Tx.n_Store_recorded (by assumption) | exact Tx.n_Store_observer (by assumption) | exact Tx.n_Store_is_busy (by assumption)); (case l => exact Nat.le_of_ble_eq_true rfl))
  | ((with_reducible refine' rd_meth1 ?h ?l ?_); (case h => walk_at "hx"); (case l => exact rfl))
  | ((with_reducible refine' rd_and (rd_tyL ?h) ?_); (case h => walk_at "hx"))
  | ((with_reducible refine' rd_rng1 ?hn ?_); (case hn => first | omega | (simp; omega)))
  | with_reducible refine rd_nx ?_
  | with_reducible refine rd_rt ?_
  | with_reducible refine rd_ct ?_
  | with_reducible refine rd_bk ?_
  | ((with_reducible refine' rd_isi ?ty ?kb ?_); (case ty => walk_at "ty"); (case kb => first | exact kb_ii | exact kb_ib | exact kb_tt | exact kb_tl | exact kb_ss | exact kb_nt))
  | with_reducible refine rd_for ?_
  | with_reducible refine rd_iTup ?_
  | with_reducible refine rd_iList ?_
  | with_reducible refine rd_iRng1 ?_
  | with_reducible refine rd_iRng2 ?_
  | with_reducible refine rd_iEnumT ?_
  | with_reducible refine rd_iEnum ?_
  | with_reducible refine rd_lc ?_
  | with_reducible refine rd_yes ?_
  | ((with_reducible refine' rd_gTup ?sq ?n ?_); (case sq => walk_at "sqT"); (case n => exact rfl))
  | with_reducible refine rd_gCons ?_
  | with_reducible refine rd_gNil ?_
  | with_reducible refine rd_fld ?_
  | with_reducible refine rd_meth ?_
  | with_reducible refine rd_sFld ?_
  | with_reducible refine rd_BM ?_
  | with_reducible refine rd_BM0 ?_
  | ((with_reducible refine' rd_orRow ?h (by assumption) ?_); (case h => exact rfl))
  | with_reducible refine rd_augS ?_
  | with_reducible refine rd_ip ?_
  | with_reducible refine rd_gSub ?_
  | ((with_reducible refine' rd_aug ?h ?_); (case h => exact rfl))
  | with_reducible refine rd_par ?_
  | with_reducible refine rd_par1 ?_
  | ((with_reducible refine' rd_lenT ?sq ?_); (case sq => exact st_of (by walk_at "hx")))
  | ((with_reducible refine' rd_lenL ?sq ?_); (case sq => exact sq_of (by walk_at "hx")))
  | ((with_reducible refine' rd_itt ?sq ?_); (case sq => walk_at "sqT"))
  | ((with_reducible refine' rd_itl ?sq ?_); (case sq => walk_at "sqL"))
  | ((with_reducible refine' rd_enumT ?sq ?_); (case sq => walk_at "sqT"))
  | ((with_reducible refine' rd_enumL ?sq ?_); (case sq => walk_at "sqL"))
  | with_reducible refine rd_and rfl ?_
  | with_reducible refine if_t rfl ?_
  | with_reducible refine if_f rfl ?_)
local macro_rules | `(tactic| walk_at "rd") => `(tactic| repeat (walk_at "rd1"))
theorem in_ivs (ns : List Nat) (n : Nat) : inV (.int (n : Int)) (ivs ns) = decide (n ∈ ns) := by
  induction ns with
  | nil => rfl
  | cons m r ih =>
    show (eqV (.int (m : Int)) (.int (n : Int)) || inV (.int (n : Int)) (ivs r)) = _
    rw [ih]
    have e : eqV (.int (m : Int)) (.int (n : Int)) = decide (m = n) := by
      by_cases h : m = n
      · subst h
        simp [eqV]
      · simp [eqV, h]
        omega
    rw [e]
    by_cases h : m = n
    · subst h
      simp
    · simp [h, Ne.symm h]
theorem in_ents (xs : List (Option Nat)) (n : Nat) : inV (.int (n : Int)) (xs.map ent) = decide (some n ∈ xs) := by
  induction xs with
  | nil => rfl
  | cons m r ih =>
    show (eqV (ent m) (.int (n : Int)) || inV (.int (n : Int)) (r.map ent)) = _
    rw [ih]
    cases m with
    | none => simp [eqV]
    | some m =>
      by_cases h : m = n
      · subst h
        simp [eqV]
      · have h2 : ¬ ((m : Int) = (n : Int)) := by omega
        simp [eqV, h2, Ne.symm h]
theorem sq_ofT {K : PySem.W.Frag} {H : Hp} {a : Addr} {xs : List V} (h : H a = some (.tup xs)) : SqT K H a xs := st_of h
theorem flat_ents (xs : List (Option Nat)) : (xs.map ent).all flatV = true := by
  rw [List.all_eq_true]
  intro x hx
  obtain ⟨n, _, rfl⟩ := List.mem_map.mp hx
  cases n <;> rfl
theorem mem_unr {hp : Hv} {v : Nat} : v ∈ unr hp ↔ Live hp.1 v ∧ ¬ RchO hp v := by
  simp [unr, mem_liveN, rchB]
theorem unr_sorted (hp : Hv) : (unr hp).Pairwise (· < ·) := (picks_sorted _ _).filter _
def sp_require_pair : Sp := fun vs H Q _ => match vs with
  | [x, y] => ∃ (t l p : Addr) (nm : Str) (P : List Nat), x = .ref t ∧ y = .ref l ∧ H t = some (.tup [.str nm, .ref p]) ∧ H p = some (.tup (ivs P)) ∧ P ≠ [] ∧ H l = some (.tup [.str "reached", .str "unreached"]) ∧ (nm = "reached" ∨ nm = "unreached") ∧ ∀ H', Ex H H' → Q .non H'
  | _ => False
def sp_check_path : Sp := fun vs H Q _ => match vs with
  | [x, y, z] => ∃ hp v p P, HeapV H x hp ∧ Vh hp ∧ y = .int ((v : Nat) : Int) ∧ z = .ref p ∧ H p = some (.tup (ivs P)) ∧ PathOk hp v P ∧ ∀ H', Ex H H' → Q .non H'
  | _ => False
def sp_check_closed : Sp := fun vs H Q _ => match vs with
  | [x, y, z] => ∃ hp v p, HeapV H x hp ∧ Vh hp ∧ y = .int ((v : Nat) : Int) ∧ z = .ref p ∧ H p = some (.tup (ivs (unr hp))) ∧ v ∈ unr hp ∧ ∀ H', Ex H H' → Q .non H'
  | _ => False
def sp_check_reach : Sp := fun vs H Q _ => match vs with
  | [x, y, z] => ∃ hp v t p P b, HeapV H x hp ∧ Vh hp ∧ y = .int ((v : Nat) : Int) ∧ Live hp.1 v ∧ z = .ref t ∧ H t = some (.tup [.str (if b = true then "reached" else "unreached"), .ref p]) ∧ H p = some (.tup (ivs P)) ∧
      (b = true → PathOk hp v P) ∧ (b = false → P = unr hp ∧ v ∈ unr hp) ∧ ∀ H', Ex H H' → Q (.bl b) H'
  | _ => False
section
variable {P : Program} {w : World} {K : PySem.W.Frag} {mg : Str → Option Value} {base : Heap}
theorem ok_require_pair (T : Tx K mg) : FnOk P w K mg base CX0 1 (a_require_pair K) (fd_require_pair K) ["value", "labels"] (sp_require_pair) := by
  refine FunD.ok T.f_require_pair sc_require_pair (fun vs H Q E h => match vs, h with | [_, _], _ => rfl) (fun cdv A outer s H vs Q E hr h => ⟨_, PSs.nox (pss_cons (ps_if (PW.pt (pw_or (pt_not (pt_val (pe_callB (cIsi (K := K)) (by rfl) T.z_isinstance (by decide +kernel) (pa_cons (pv 0) (pa_cons (pe_bltn (v := .ty "tuple") (by rfl) T.z_tuple (by decide +kernel) rfl) pa_nil))))) (pw_or (pt_cmpR op_ne (pe_callB (cLen (K := K)) (by rfl) T.z_len (by decide +kernel) (pa_cons (pv 0) pa_nil)) pe_int (nomark _)) (pw_or1 (pt_not (pt_val (pe_callB (cIsi (K := K)) (by rfl) T.z_isinstance (by decide +kernel) (pa_cons (pe_ix (ixT (K := K)) (pv 0) pe_int (fun _ _ => rfl)) (pa_cons (pe_bltn (v := .ty "str") (by rfl) T.z_str (by decide +kernel) rfl) pa_nil))))))))) (pss_one ps_never) pss_nil)
      (pss_one (ps_if (PW.pt (pw_or (pt_cmpR (ninS (K := K)) (pe_ix (ixT (K := K)) (pv 0) pe_int (fun _ _ => rfl)) (pv 1) (by rfl)) (pw_or (pt_not (pt_val (pe_callB (cIsi (K := K)) (by rfl) T.z_isinstance (by decide +kernel) (pa_cons (pe_ix (ixT (K := K)) (pv 0) pe_int (fun _ _ => rfl)) (pa_cons (pe_bltn (v := .ty "tuple") (by rfl) T.z_tuple (by decide +kernel) rfl) pa_nil))))) (pw_or1 (pt_cmpR (eqD (K := K) hr.units) (pe_ix (ixT (K := K)) (pv 0) pe_int (fun _ _ => rfl)) (pe_tup pa_nil) (nomark _)))))) (pss_one ps_never) pss_nil))), ?_⟩)
  match vs, h with
  | [v0, v1], h =>
    obtain ⟨t, l, p, nm, P, rfl, rfl, ht, hp, hP, hl, hnm, q⟩ := h
    walk_at "rd"
    refine rd_in (.inr (st_of hl)) rfl rfl ?_
    rw [show (if true = true then !inV (V.str nm) [V.str "reached", V.str "unreached"] else inV (V.str nm) [V.str "reached", V.str "unreached"]) = false from by
      rcases hnm with rfl | rfl <;> decide +kernel]
    walk_at "rd"
    rename_i p2 hp2
    refine rd_eqT0 (upd_fr hp hp2) upd_same (at_ivs _) ?_
    rw [ivs_empty, show P.isEmpty = false from by cases P with | nil => exact absurd rfl hP | cons _ _ => rfl]
    walk_at "rd"
    exact q _ (Ex.new hp2)
theorem ok_check_path (T : Tx K mg) : FnOk P w K mg base CX0 4 (a_check_path K) (fd_check_path K) ["heap", "node", "path"] (sp_check_path) := by
  refine FunD.ok T.f_check_path sc_check_path (fun vs H Q E h => match vs, h with | [_, _, _], _ => rfl) (fun cdv A outer s H vs Q E hr h => ⟨_, PSs.nox (pss_cons (ps_for PassesOwn.never rfl (pi_enumT (by rfl) T.z_enumerate (pa_cons (pv 2) pa_nil)) (pgTup (K := K) (n := 2) rfl (pgs_cons (pg_name (i := 3) sc_check_path.nd rfl (Or.inl rfl) (by exact Or.inl rfl)) (pgs_cons (pg_name (i := 4) sc_check_path.nd rfl (Or.inl rfl) (by exact Or.inl rfl)) pgs_nil))) (pss_cons (ps_if (pt_not (pt_val (pe_call (ok_is_live T) (hr.mono (by omega)) (by rfl) T.g_is_live T.k_is_live T.b_is_live .nil pass0 (pa_cons (pv 0) (pa_cons (pv 4) pa_nil))))) (pss_one ps_never) pss_nil)
      (pss_cons (ps_if (PW.pt (pw_and (pt_cmpR op_eq (pv 3) pe_int (nomark _)) (pw_and1 (pt_cmpR op_eq (pe_ix (ixT (K := K)) (pe_ix (ixT (K := K)) (pv 0) pe_int (fun _ _ => rfl)) (pv 4) (fun _ _ => rfl)) pe_int (nomark _))))) (pss_one ps_never) pss_nil)
      (pss_one (ps_if (PW.pt (pw_and (pt_cmpR op_gt (pv 3) pe_int (nomark _)) (pw_and1 (pt_cmpR (ninS (K := K)) (pv 4) (pe_ix (ixT (K := K)) (pe_ix (ixT (K := K)) (pv 0) pe_int (fun _ _ => rfl)) (pe_ix (ixT (K := K)) (pv 2) (pe_op op_sub (pv 3) pe_int) (fun _ _ => rfl)) (fun _ _ => rfl)) (by rfl))))) (pss_one ps_never) pss_nil)))))
      (pss_one (ps_if (pt_cmpR op_ne (pe_ix (ixT (K := K)) (pv 2) (pe_un un_neg pe_int) (fun _ _ => rfl)) (pv 1) (nomark _)) (pss_one ps_never) pss_nil))), ?_⟩)
  match vs, h with
  | [v0, v1, v2], h =>
    obtain ⟨hp, v, p, P, hh, hV, rfl, rfl, hpp, ⟨⟨a0, ha0, ho0⟩, hlast, hlv, hed⟩, q⟩ := h
    have hno := hV.len
    have hh0 := hh
    obtain ⟨a, sl, o, rfl, ha, ⟨b, vs, rfl, hb, hvs⟩, ⟨c', rfl, hc⟩⟩ := hh0
    walk_at "rd"
    refine for_it (walk_enumT (xs := ivs P)) (fun i σ H' => (∃ x y, σ = [some (.ref a), some (.int (v : Nat)), some (.ref p), x, y]) ∧ Ex H H') ⟨⟨_, _, rfl⟩, Ex.refl H⟩ (fun i σ H' _ z => sqT_ex z.2 hpp) ?_ ?_
    · rintro i x _ H1 H2 hi ⟨⟨x1, y1, rfl⟩, e1⟩ ⟨t, u, y, rfl, ht, rfl, hu, hy⟩
      cases hu
      obtain ⟨n, hn, rfl⟩ := ivs_of hy
      have hln := hlv n (List.mem_of_getElem? hn)
      have hx := out_ivs (os := hp.2) (v := n) (by rw [← hno]; exact hln.lt)
      have e2 := e1.trans (Ex.new (o := .tup [.int (i : Nat), .int (n : Nat)]) ht)
      have hpp2 := e2 _ _ hpp
      have ha2 := e2 _ _ ha
      have hb2 := e2 _ _ hb
      have hc2 := e2 _ _ hc
      walk_at "rd"
      refine Exists.intro hp ⟨n, hh.mono e2, rfl, ?_⟩
      rw [liveB_iff.mpr hln]
      walk_at "rd"
      cases i with
      | zero =>
        rw [ha0] at hn
        cases hn
        walk_at "rd"
        refine if_f (by
          apply decide_eq_false
          intro h
          injection h with h
          omega) ?_
        walk_at "rd"
        exact ⟨⟨_, _, rfl⟩, e2⟩
      | succ j =>
        have hj : ∃ m, P[j]? = some m := ⟨_, List.getElem?_eq_getElem (by have := (List.getElem?_eq_some_iff.mp hn).1; omega)⟩
        obtain ⟨m, hm⟩ := hj
        obtain ⟨ys, hys1, hys2⟩ := hed j m n hm hn
        obtain ⟨z, hz1, d, rfl, hd⟩ := hvs.2 m _ hys1
        have hd2 := e2 _ _ hd
        have hmi := ivs_get hm
        refine if_f (by
          apply decide_eq_false
          intro h
          injection h with h
          omega) ?_
        walk_at "rd"
        refine if_t (by simp <;> omega) ?_
        walk_at "rd"
        rw [show (((j + 1 : Nat) : Int) - 1) = (j : Nat) from by omega]
        walk_at "rd"
        refine rd_in (.inr (st_of hd2)) rfl (flat_ents ys) ?_
        rw [in_ents, decide_eq_true hys2]
        walk_at "rd"
        exact ⟨⟨_, _, rfl⟩, e2⟩
    · rintro σ H1 ⟨⟨x1, y1, rfl⟩, e1⟩
      have hpp1 := e1 _ _ hpp
      walk_at "rd"
      refine rd_ixTLast (sq_ofT hpp1) (v := .int (v : Nat)) (by simp [ivs, hlast]) ?_
      walk_at "rd"
      refine if_f (by simp) ?_
      exact q H1 e1
theorem ok_check_closed (T : Tx K mg) : FnOk P w K mg base CX0 6 (a_check_closed K) (fd_check_closed K) ["heap", "node", "nodes"] (sp_check_closed) := by
  refine FunD.ok T.f_check_closed sc_check_closed (fun vs H Q E h => match vs, h with | [_, _, _], _ => rfl) (fun cdv A outer s H vs Q E hr h => ⟨_, PSs.nox (pss_cons (ps_for PassesOwn.never rfl (pi_enumT (by rfl) T.z_enumerate (pa_cons (pv 2) pa_nil)) (pgTup (K := K) (n := 2) rfl (pgs_cons (pg_name (i := 3) sc_check_closed.nd rfl (Or.inl rfl) (by exact Or.inl rfl)) (pgs_cons (pg_name (i := 4) sc_check_closed.nd rfl (Or.inl rfl) (by exact Or.inl rfl)) pgs_nil))) (pss_one (ps_if (PW.pt (pw_or (pt_not (pt_val (pe_call (ok_is_live T) (hr.mono (by omega)) (by rfl) T.g_is_live T.k_is_live T.b_is_live .nil pass0 (pa_cons (pv 0) (pa_cons (pv 4) pa_nil))))) (pw_or1 (PW.pt (pw_and (pt_cmpR op_gt (pv 3) pe_int (nomark _)) (pw_and1 (pt_cmpR op_le (pv 4) (pe_ix (ixT (K := K)) (pv 2) (pe_op op_sub (pv 3) pe_int) (fun _ _ => rfl)) (nomark _)))))))) (pss_one ps_never) pss_nil)))
      (pss_cons (ps_if (pt_cmpR (ninS (K := K)) (pv 1) (pv 2) (by rfl)) (pss_one ps_never) pss_nil)
      (pss_one (ps_for PassesOwn.never rfl (pi_enumT (by rfl) T.z_enumerate (pa_cons (pv 2) pa_nil)) (pgTup (K := K) (n := 2) rfl (pgs_cons (pg_name (i := 3) sc_check_closed.nd rfl (Or.inl rfl) (by exact Or.inl rfl)) (pgs_cons (pg_name (i := 4) sc_check_closed.nd rfl (Or.inl rfl) (by exact Or.inl rfl)) pgs_nil))) (pss_cons (ps_if (pt_cmpR op_gt (pe_ix (ixT (K := K)) (pe_ix (ixT (K := K)) (pv 0) pe_int (fun _ _ => rfl)) (pv 4) (fun _ _ => rfl)) pe_int (nomark _)) (pss_one ps_never) pss_nil)
      (pss_one (ps_if (pt_not (pt_val (pe_callB (cr_all rfl) (by rfl) T.z_all (by decide +kernel) (pa_cons (pe_lc rfl sc_check_closed.nd (pi_list (pe_call (ok_holders T) (hr.mono (by omega)) (by rfl) T.g_holders T.k_holders T.b_holders .nil pass0 (pa_cons (pv 0) (pa_cons (pv 4) pa_nil)))) (blkOk_by (own := [("holder", 5), ("slot", 6)]) (N := N_check_closed) (sc := defScope s_check_closed) (by decide +kernel)) (fun _ _ _ _ _ => (pgTup (K := K) (n := 2) rfl (pgs_cons (pg_name (i := 5) sc_check_closed.nd rfl (Or.inl rfl) (by exact Or.inr rfl)) (pgs_cons (pg_name (i := 6) sc_check_closed.nd rfl (Or.inl rfl) (by exact Or.inr rfl)) pgs_nil)))) (fun _ _ _ _ _ => pts_nil) (fun _ _ _ _ _ => (pe_cmpR (inS (K := K)) (pv 5) (pv 2) (by rfl)))) pa_nil)))) (pss_one ps_never) pss_nil))))))), ?_⟩)
  match vs, h with
  | [v0, v1, v2], h =>
    obtain ⟨hp, v, p, hh, hV, rfl, rfl, hpp, hvu, q⟩ := h
    have hno := hV.len
    have hh0 := hh
    obtain ⟨a, sl, o, rfl, ha, ⟨b, vs, rfl, hb, hvs⟩, ⟨c', rfl, hc⟩⟩ := hh0
    walk_at "rd"
    refine for_it (walk_enumT (xs := ivs (unr hp))) (fun i σ H' => (∃ x y, σ = [some (.ref a), some (.int (v : Nat)), some (.ref p), x, y, none, none]) ∧ Ex H H') ⟨⟨_, _, rfl⟩, Ex.refl H⟩ (fun i σ H' _ z => sqT_ex z.2 hpp) ?_ ?_
    · rintro i x _ H1 H2 hi ⟨⟨x1, y1, rfl⟩, e1⟩ ⟨t, u, y, rfl, ht, rfl, hu, hy⟩
      cases hu
      obtain ⟨n, hn, rfl⟩ := ivs_of hy
      have hnu := mem_unr.mp (List.mem_of_getElem? hn)
      have e2 := e1.trans (Ex.new (o := .tup [.int (i : Nat), .int (n : Nat)]) ht)
      have hpp2 := e2 _ _ hpp
      walk_at "rd"
      refine Exists.intro hp ⟨n, hh.mono e2, rfl, ?_⟩
      rw [liveB_iff.mpr hnu.1]
      walk_at "rd"
      cases i with
      | zero =>
        walk_at "rd"
        exact ⟨⟨_, _, rfl⟩, e2⟩
      | succ j =>
        have hj2 : j + 1 < (unr hp).length := (List.getElem?_eq_some_iff.mp hn).1
        have hm := List.getElem?_eq_getElem (l := unr hp) (i := j) (by omega)
        have hlt : (unr hp)[j] < n := by
          have h1 := List.pairwise_iff_getElem.mp (unr_sorted hp) j (j + 1) (by omega) hj2 (by omega)
          have h2 := (List.getElem?_eq_some_iff.mp hn).2
          rw [h2] at h1
          exact h1
        generalize (unr hp)[j] = m at hm hlt
        have hmi := ivs_get hm
        refine if_t (by simp <;> omega) ?_
        walk_at "rd"
        rw [show (((j + 1 : Nat) : Int) - 1) = (j : Nat) from by omega]
        walk_at "rd"
        refine if_f (by simp; omega) ?_
        walk_at "rd"
        exact ⟨⟨_, _, rfl⟩, e2⟩
    · rintro σ H1 ⟨⟨x1, y1, rfl⟩, e1⟩
      have hpp1 := e1 _ _ hpp
      walk_at "rd"
      refine rd_in (.inr (st_of hpp1)) rfl (flat_ivs _) ?_
      rw [in_ivs, decide_eq_true hvu]
      walk_at "rd"
      refine for_it (walk_enumT (xs := ivs (unr hp))) (fun i σ H' => (∃ x y, σ = [some (.ref a), some (.int (v : Nat)), some (.ref p), x, y, none, none]) ∧ Ex H H') ⟨⟨_, _, rfl⟩, e1⟩ (fun i σ H' _ z => sqT_ex z.2 hpp) ?_ ?_
      · rintro i x _ H3 H4 hi ⟨⟨x1, y1, rfl⟩, e3⟩ ⟨t, u, y, rfl, ht, rfl, hu, hy⟩
        cases hu
        obtain ⟨n, hn, rfl⟩ := ivs_of hy
        have hnu := mem_unr.mp (List.mem_of_getElem? hn)
        have hx := out_ivs (os := hp.2) (v := n) (by rw [← hno]; exact hnu.1.lt)
        have ho0 : ¬ 0 < outc hp.2 n := fun h => hnu.2 (.st (mem_outN.mpr ⟨hnu.1, h⟩))
        have e4 := e3.trans (Ex.new (o := .tup [.int (i : Nat), .int (n : Nat)]) ht)
        have hpp2 := e4 _ _ hpp
        have ha2 := e4 _ _ ha
        have hc2 := e4 _ _ hc
        walk_at "rd"
        refine if_f (by simp; omega) ?_
        walk_at "rd"
        refine Exists.intro hp ⟨n, hh.mono e4, hV, rfl, hnu.1, fun p5 H5 ws hp5 ex5 ht5 hwl hws => ?_⟩
        have hpp5 := ex5 _ _ hpp2
        walk_at "rd"
        intro D hD
        refine lc_it (walk_list (xs := ws)) (fun i H' => Acc H5 D ((List.replicate i true).map V.bl) H') (Acc.new (Ex.refl _) hD) (fun i H' _ z => sqL_ex z.2.1 ht5) ?_ ?_
        · rintro k x _ H6 hk acc ⟨rfl, hx6⟩
          obtain ⟨t6, a6, b6, ys, rfl, ht6, hys1, hys2⟩ := hws x (List.mem_of_getElem? hx6)
          have ht7 := acc.2.1 _ _ ht6
          have hpp6 := acc.2.1 _ _ hpp5
          have hau : a6 ∈ unr hp := mem_unr.mpr ⟨⟨ys, hys1⟩, fun hr6 => hnu.2 (.step hr6 ⟨ys, hys1, hys2⟩)⟩
          walk_at "rd"
          refine rd_in (.inr (st_of hpp6)) rfl (flat_ivs _) ?_
          rw [in_ivs, decide_eq_true hau]
          refine acc_add acc ?_ (by rw [List.replicate_succ']; simp)
          rw [List.length_map, List.length_replicate]
          omega
        · rintro H6 acc
          walk_at "rd"
          refine rd_all (sq_of acc.2.2) ?_
          rw [show (List.replicate ws.length true).all id = true from by simp]
          walk_at "rd"
          exact ⟨⟨_, _, rfl⟩, (e4.trans ex5).trans acc.2.1⟩
      · rintro σ H3 ⟨⟨x1, y1, rfl⟩, e3⟩
        exact q H3 e3
theorem ok_check_reach (T : Tx K mg) : FnOk P w K mg base CX0 7 (a_check_reach K) (fd_check_reach K) ["heap", "node", "value"] (sp_check_reach) := by
  refine FunD.ok T.f_check_reach sc_check_reach (fun vs H Q E h => match vs, h with | [_, _, _], _ => rfl) (fun cdv A outer s H vs Q E hr h => ⟨_, PSs.nox (pss_cons (ps_expr (pe_call (ok_require_node T) (hr.mono (by omega)) (by rfl) T.g_require_node T.k_require_node T.b_require_node .nil pass0 (pa_cons (pv 0) (pa_cons (pv 1) pa_nil))))
      (pss_cons (ps_expr (pe_call (ok_require_pair T) (hr.mono (by omega)) (by rfl) T.g_require_pair T.k_require_pair T.b_require_pair .nil pass0 (pa_cons (pv 2) (pa_cons (pe_tup (pa_cons pe_str (pa_cons pe_str pa_nil))) pa_nil))))
      (pss_cons (ps_if (pt_cmpR op_eq (pe_ix (ixT (K := K)) (pv 2) pe_int (fun _ _ => rfl)) pe_str (nomark _)) (pss_cons (ps_expr (pe_call (ok_check_path T) (hr.mono (by omega)) (by rfl) T.g_check_path T.k_check_path T.b_check_path .nil pass0 (pa_cons (pv 0) (pa_cons (pv 1) (pa_cons (pe_ix (ixT (K := K)) (pv 2) pe_int (fun _ _ => rfl)) pa_nil)))))
      (pss_one (ps_ret pe_bl))) pss_nil)
      (pss_cons (ps_expr (pe_call (ok_check_closed T) (hr.mono (by omega)) (by rfl) T.g_check_closed T.k_check_closed T.b_check_closed .nil pass0 (pa_cons (pv 0) (pa_cons (pv 1) (pa_cons (pe_ix (ixT (K := K)) (pv 2) pe_int (fun _ _ => rfl)) pa_nil)))))
      (pss_one (ps_ret pe_bl)))))), ?_⟩)
  match vs, h with
  | [v0, v1, v2], h =>
    obtain ⟨hp, v, t, p, P, b, hh, hV, rfl, hl, rfl, ht, hpp, hb1, hb2, q⟩ := h
    walk_at "rd"
    refine Exists.intro hp ⟨v, hh, rfl, hl, ?_⟩
    walk_at "rd"
    rename_i p2 hp2
    have e2 := Ex.new (o := .tup [.str "reached", .str "unreached"]) hp2
    have hP : P ≠ [] := by
      cases b with
      | true =>
        obtain ⟨⟨a0, ha0, _⟩, _⟩ := hb1 rfl
        rintro rfl
        cases ha0
      | false =>
        obtain ⟨rfl, hvu⟩ := hb2 rfl
        intro h
        rw [h] at hvu
        cases hvu
    refine Exists.intro t ⟨p2, p, _, P, rfl, rfl, e2 _ _ ht, e2 _ _ hpp, hP, upd_same, by cases b with | true => exact .inl rfl | false => exact .inr rfl, fun H3 e3 => ?_⟩
    have e03 := e2.trans e3
    have ht3 := e03 _ _ ht
    have hpp3 := e03 _ _ hpp
    walk_at "rd"
    cases b with
    | true =>
      refine if_t rfl ?_
      walk_at "rd"
      refine Exists.intro hp ⟨v, p, P, hh.mono e03, hV, rfl, rfl, hpp3, hb1 rfl, fun H4 e4 => ?_⟩
      walk_at "rd"
      exact q H4 (e03.trans e4)
    | false =>
      obtain ⟨rfl, hvu⟩ := hb2 rfl
      refine if_f rfl ?_
      walk_at "rd"
      refine Exists.intro hp ⟨v, p, hh.mono e03, hV, rfl, rfl, hpp3, hvu, fun H4 e4 => ?_⟩
      walk_at "rd"
      exact q H4 (e03.trans e4)
end
end Sf
/-! The plain law of an unwinding: what stands, step by step. -/
namespace Sf
theorem sum_set : ∀ {l : List Nat} {v a b : Nat}, l[v]? = some a → (l.set v b).sum + a = l.sum + b
  | x :: r, 0, a, b, h => by
    have e : x = a := by simpa using h
    subst e
    simp
    omega
  | x :: r, v + 1, a, b, h => by
    have ih := sum_set (l := r) (v := v) (a := a) (b := b) (by simpa using h)
    simp
    omega
theorem cnt_set {rs : List Row} {v : Nat} {r r' : Row} (h : rs[v]? = some r) (u : Nat) : cnt (rs.set v r') u + occr r u = cnt rs u + occr r' u := by
  unfold cnt
  rw [List.map_set]
  exact sum_set (by simp [h])
def one (h v : Nat) : Nat := if v = h then 1 else 0
theorem one_same (h : Nat) : one h h = 1 := if_pos rfl
theorem one_ne {h v : Nat} (e : v ≠ h) : one h v = 0 := if_neg e
def oneO (g : Option Nat) (v : Nat) : Nat := if g = some v then 1 else 0
theorem count_set : ∀ {xs : List (Option Nat)} {i : Nat} {e e' : Option Nat} (x : Option Nat), xs[i]? = some e → (xs.set i e').count x + (if e = x then 1 else 0) = xs.count x + (if e' = x then 1 else 0)
  | y :: r, 0, e, e', x, h => by
    have e1 : y = e := by simpa using h
    subst e1
    simp only [List.set_cons_zero, List.count_cons, beq_iff_eq]
    omega
  | y :: r, i + 1, e, e', x, h => by
    have ih := count_set (xs := r) (i := i) (e := e) (e' := e') x (by simpa using h)
    simp only [List.set_cons_succ, List.count_cons]
    omega
/-- one slot changed -/
theorem cnt_slot {rs : List Row} {v i : Nat} {xs : List (Option Nat)} {e e' : Option Nat} (h : rs[v]? = some (some xs)) (hi : xs[i]? = some e) (u : Nat) : cnt (rs.set v (some (xs.set i e'))) u + oneO e u = cnt rs u + oneO e' u := by
  have h1 := cnt_set (r' := some (xs.set i e')) h u
  have h2 := count_set (e' := e') (some u) hi
  have e1 : occr (some xs) u = xs.count (some u) := rfl
  have e2 : occr (some (xs.set i e')) u = (xs.set i e').count (some u) := rfl
  unfold oneO
  omega
def tlv (s : Un) (pr : Nat → Nat) (v : Nat) : Nat := cnt s.rows v + outc s.refs v + pr v
def nst (evs : List (Option (Nat × Nat))) : Nat := (evs.filter Option.isSome).length
structure Wd (n C D : Nat) (pr : Nat → Nat) (act : List Nat) (s : Un) : Prop where
  lr : s.rows.length = n
  lf : s.refs.length = n
  lt : s.tal.length = n
  n40 : n ≤ 40
  ti : ∀ v, v < n → s.tal[v]? = some (tlv s pr v)
  en : ∀ (v : Nat) (xs : List (Option Nat)) (u : Nat), s.rows[v]? = some (some xs) → some u ∈ xs → u < n
  rw : ∀ (v : Nat) (xs : List (Option Nat)), s.rows[v]? = some (some xs) → xs.length ≤ 40
  fz : ∀ v : Nat, s.rows[v]? = some none → tlv s pr v = 0
  zl : ∀ v, Live s.rows v → tlv s pr v = 0 → v ∈ s.shelf ∨ v ∈ act
  sn : s.shelf.Nodup
  sh : ∀ v ∈ s.shelf, Live s.rows v ∧ tlv s pr v = 0 ∧ v ∉ act
  al : ∀ v ∈ act, Live s.rows v ∧ tlv s pr v = 0
  ln : s.log.Nodup
  lg : ∀ v ∈ s.log, v < n ∧ (s.rows[v]? = some none ∨ v ∈ act)
  e1 : s.evs.length + 3 * s.tal.sum + s.shelf.length ≤ C + s.log.length
  e2 : nst s.evs + s.tal.sum ≤ D
  e3 : ∀ h t, some (h, t) ∈ s.evs → h < n
  c1 : C ≤ 50000
/-- from s to s': but for the nodes of ex, a row is as it was, or gone and told -/
structure Ps (ex : List Nat) (s s' : Un) : Prop where
  rf : s'.refs = s.refs
  ll : s'.rows.length = s.rows.length
  lg : ∃ l, s'.log = s.log ++ l ∧ (∀ v ∈ l, v ∉ ex ∧ Live s.rows v ∧ s'.rows[v]? = some none) ∧ ∀ v : Nat, v ∉ ex → s'.rows[v]? = s.rows[v]? ∨ (s'.rows[v]? = some none ∧ v ∈ l)
theorem Ps.refl (ex : List Nat) (s : Un) : Ps ex s s := ⟨rfl, rfl, [], by simp, by simp, fun v _ => .inl rfl⟩
theorem live_not {rs : List Row} {v : Nat} (l : Live rs v) (h : rs[v]? = some none) : False := by
  obtain ⟨xs, e⟩ := l
  rw [h] at e
  cases e
theorem live_eq {rs rs' : List Row} {v : Nat} (h : rs'[v]? = rs[v]?) (l : Live rs v) : Live rs' v := by
  obtain ⟨xs, e⟩ := l
  exact ⟨xs, h.trans e⟩
theorem Ps.trans {ex : List Nat} {a b c : Un} (p : Ps ex a b) (q : Ps ex b c) : Ps ex a c := by
  obtain ⟨l, h1, h2, h3⟩ := p.lg
  obtain ⟨m, g1, g2, g3⟩ := q.lg
  refine ⟨q.rf.trans p.rf, q.ll.trans p.ll, l ++ m, by rw [g1, h1, List.append_assoc], ?_, ?_⟩
  · intro v hv
    rcases List.mem_append.mp hv with hv | hv
    · obtain ⟨w, x, y⟩ := h2 v hv
      refine ⟨w, x, ?_⟩
      rcases g3 v w with z | ⟨z, _⟩
      · rw [z]; exact y
      · exact z
    · obtain ⟨w, x, y⟩ := g2 v hv
      refine ⟨w, ?_, y⟩
      rcases h3 v w with z | ⟨z, _⟩
      · exact live_eq z.symm x
      · exact (live_not x z).elim
  · intro v hv
    rcases g3 v hv with z | ⟨z, zm⟩
    · rcases h3 v hv with y | ⟨y, ym⟩
      · exact .inl (z.trans y)
      · exact .inr ⟨z.trans y, List.mem_append_left _ ym⟩
    · exact .inr ⟨z, List.mem_append_right _ zm⟩
theorem Ps.weak {ex : List Nat} {s s' : Un} (p : Ps [] s s') (h : ∀ v ∈ ex, Live s'.rows v) : Ps ex s s' := by
  obtain ⟨l, h1, h2, h3⟩ := p.lg
  exact ⟨p.rf, p.ll, l, h1, fun v hv => ⟨fun he => live_not (h v he) (h2 v hv).2.2, (h2 v hv).2⟩, fun v _ => h3 v (by simp)⟩
theorem Ps.same {ex : List Nat} {s s' : Un} (p : Ps ex s s') {v : Nat} (he : v ∉ ex) (l : Live s'.rows v) : s'.rows[v]? = s.rows[v]? := by
  obtain ⟨m, h1, h2, h3⟩ := p.lg
  rcases h3 v he with z | ⟨z, _⟩
  · exact z
  · exact (live_not l z).elim
/-- rows, references, log untouched -/
theorem Ps.of {ex : List Nat} {s s' : Un} (h1 : s'.refs = s.refs) (h2 : s'.rows = s.rows) (h3 : s'.log = s.log) : Ps ex s s' :=
  ⟨h1, by rw [h2], [], by rw [h3]; simp, by simp, fun v _ => .inl (by rw [h2])⟩
section
variable {n C D : Nat} {pr : Nat → Nat} {act : List Nat} {s : Un} {B : Int}
theorem Wd.live_of {v : Nat} (w : Wd n C D pr act s) (hv : v < n) (h : tlv s pr v ≠ 0) : Live s.rows v := by
  have hv' : v < s.rows.length := by rw [w.lr]; exact hv
  have hl := List.getElem?_eq_getElem hv'
  cases e : s.rows[v] with
  | none =>
    rw [e] at hl
    exact absurd (w.fz v hl) h
  | some xs =>
    rw [e] at hl
    exact ⟨xs, hl⟩
theorem Wd.evb (w : Wd n C D pr act s) : s.evs.length < big ∧ s.shelf.length < big ∧ s.log.length < big := by
  have h1 := w.e1
  have h2 := nodup_lt w.ln fun v hv => (w.lg v hv).1
  have h3 := w.n40
  have h4 := w.c1
  have h5 : s.shelf.length ≤ n := by
    have := nodup_lt w.sn fun v hv => (w.sh v hv).1.lt
    rw [w.lr] at this
    exact this
  unfold big
  omega
theorem tlv_one (s : Un) (pr : Nat → Nat) (h v : Nat) : tlv s (fun v => pr v + one h v) v = tlv s pr v + one h v := by
  show cnt s.rows v + outc s.refs v + (pr v + one h v) = cnt s.rows v + outc s.refs v + pr v + one h v
  omega
theorem nst_app (a b : List (Option (Nat × Nat))) : nst (a ++ b) = nst a + nst b := by simp [nst]
theorem one_le {h v t : Nat} : one h v ≤ 1 := by
  unfold one
  split <;> omega
/-- a release, up to what comes of it -/
theorem Wd.dec {h : Nat} (w : Wd n C D (fun v => pr v + one h v) act s) (hh : h < n) : ∃ t, s.tal[h]? = some (t + 1) ∧ t = tlv s pr h ∧ Live s.rows h ∧ h ∉ s.shelf ∧ h ∉ act ∧ h ∉ s.log ∧
    (s.tal.set h t).sum + 1 = s.tal.sum ∧ ∀ v, v < n → (s.tal.set h t)[v]? = some (tlv s pr v) := by
  have e0 : ∀ v, tlv s (fun v => pr v + one h v) v = tlv s pr v + one h v := tlv_one s pr h
  have e1 := w.ti h hh
  rw [e0, one_same] at e1
  have hl := w.live_of hh (by rw [e0, one_same]; omega)
  have n1 : h ∉ s.shelf := fun m => by
    have := (w.sh h m).2.1
    rw [e0, one_same] at this
    omega
  have n2 : h ∉ act := fun m => by
    have := (w.al h m).2
    rw [e0, one_same] at this
    omega
  refine ⟨tlv s pr h, e1, rfl, hl, n1, n2, fun m => ?_, ?_, fun v hv => ?_⟩
  · rcases (w.lg h m).2 with z | z
    · exact live_not hl z
    · exact n2 z
  · have := sum_set (b := tlv s pr h) e1
    omega
  · rw [List.getElem?_set]
    by_cases e : h = v
    · subst e
      rw [if_pos rfl, if_pos (by rw [w.lt]; exact hh)]
    · rw [if_neg e, w.ti v hv, e0, one_ne (Ne.symm e), Nat.add_zero]
theorem rel_ok {f : Nat} (hD : ∀ (s : Un) (h d : Nat), Wd n C D pr (h :: act) s → h ∉ act → h ∉ s.log → n ≤ f + s.log.length → ∃ s', des B f s h d = some s' ∧ Wd n C D pr act s' ∧ Ps [] s s')
    {h d : Nat} (w : Wd n C D (fun v => pr v + one h v) act s) (hh : h < n) (hf : n ≤ f + s.log.length) : ∃ s', rel B (des B f) s h d = some s' ∧ Wd n C D pr act s' ∧ Ps [] s s' := by
  obtain ⟨t, t1, t2, hl, n1, n2, n3, hsum, hti⟩ := w.dec hh
  have hb := w.evb
  have e0 : ∀ v, tlv s (fun v => pr v + one h v) v = tlv s pr v + one h v := tlv_one s pr h
  have z0 : ∀ v, tlv s (fun v => pr v + one h v) v = 0 → tlv s pr v = 0 := fun v z => by rw [e0] at z; omega
  have he1 := w.e1
  have he2 := w.e2
  unfold rel
  rw [t1]
  simp only [if_pos (show s.evs.length < big ∧ s.shelf.length < big from ⟨hb.1, hb.2.1⟩)]
  by_cases ht : 0 < t
  · rw [if_pos ht]
    refine ⟨_, rfl, ?_, Ps.of rfl rfl rfl⟩
    exact { lr := w.lr, lf := w.lf, lt := by show (s.tal.set h t).length = n; rw [List.length_set]; exact w.lt, n40 := w.n40, ti := hti, en := w.en, rw := w.rw
            fz := fun v hv => z0 v (w.fz v hv)
            zl := fun v hv hz => by
              have hz : tlv s pr v = 0 := hz
              have hne : v ≠ h := by
                rintro rfl
                omega
              exact w.zl v hv (by rw [e0, one_ne hne]; omega)
            sn := w.sn, sh := fun v hv => ⟨(w.sh v hv).1, z0 v (w.sh v hv).2.1, (w.sh v hv).2.2⟩
            al := fun v hv => ⟨(w.al v hv).1, z0 v (w.al v hv).2⟩
            ln := w.ln, lg := w.lg
            e1 := by
              show (s.evs ++ [some (h, t)]).length + 3 * (s.tal.set h t).sum + s.shelf.length ≤ C + s.log.length
              rw [List.length_append]
              simp
              omega
            e2 := by
              show nst (s.evs ++ [some (h, t)]) + (s.tal.set h t).sum ≤ D
              rw [nst_app]
              have : nst [some (h, t)] = 1 := rfl
              omega
            e3 := fun h' t' m => by
              rcases List.mem_append.mp m with m | m
              · exact w.e3 h' t' m
              · cases List.mem_singleton.mp m
                exact hh
            c1 := w.c1 }
  · rw [if_neg ht]
    have ht0 : tlv s pr h = 0 := by omega
    have t0 : t = 0 := by omega
    by_cases hd : (d : Int) < B
    · rw [if_pos hd]
      have w1 : Wd n C D pr (h :: act) ((s.setT h t).ev (some (h, t))) :=
        { lr := w.lr, lf := w.lf, lt := by show (s.tal.set h t).length = n; rw [List.length_set]; exact w.lt, n40 := w.n40, ti := hti, en := w.en, rw := w.rw
          fz := fun v hv => z0 v (w.fz v hv)
          zl := fun v hv hz => by
            have hz : tlv s pr v = 0 := hz
            by_cases hne : v = h
            · exact .inr (by rw [hne]; exact List.mem_cons_self ..)
            · rcases w.zl v hv (by rw [e0, one_ne hne]; omega) with z | z
              · exact .inl z
              · exact .inr (List.mem_cons_of_mem _ z)
          sn := w.sn
          sh := fun v hv => ⟨(w.sh v hv).1, z0 v (w.sh v hv).2.1, fun m => by
            rcases List.mem_cons.mp m with e | m
            · subst e
              exact n1 hv
            · exact (w.sh v hv).2.2 m⟩
          al := fun v hv => by
            rcases List.mem_cons.mp hv with e | m
            · subst e
              exact ⟨hl, ht0⟩
            · exact ⟨(w.al v m).1, z0 v (w.al v m).2⟩
          ln := w.ln
          lg := fun v hv => ⟨(w.lg v hv).1, (w.lg v hv).2.imp id (List.mem_cons_of_mem _)⟩
          e1 := by
            show (s.evs ++ [some (h, t)]).length + 3 * (s.tal.set h t).sum + s.shelf.length ≤ C + s.log.length
            rw [List.length_append]
            simp
            omega
          e2 := by
            show nst (s.evs ++ [some (h, t)]) + (s.tal.set h t).sum ≤ D
            rw [nst_app]
            have : nst [some (h, t)] = 1 := rfl
            omega
          e3 := fun h' t' m => by
            rcases List.mem_append.mp m with m | m
            · exact w.e3 h' t' m
            · cases List.mem_singleton.mp m
              exact hh
          c1 := w.c1 }
      obtain ⟨s', q1, q2, q3⟩ := hD _ h d w1 n2 n3 hf
      exact ⟨s', q1, q2, (Ps.of (s := s) (s' := (s.setT h t).ev (some (h, t))) rfl rfl rfl).trans q3⟩
    · rw [if_neg hd]
      refine ⟨_, rfl, ?_, Ps.of rfl rfl rfl⟩
      exact { lr := w.lr, lf := w.lf, lt := by show (s.tal.set h t).length = n; rw [List.length_set]; exact w.lt, n40 := w.n40, ti := hti, en := w.en, rw := w.rw
              fz := fun v hv => z0 v (w.fz v hv)
              zl := fun v hv hz => by
                have hz : tlv s pr v = 0 := hz
                by_cases hne : v = h
                · exact .inl (List.mem_append_right _ (by rw [hne]; exact List.mem_cons_self ..))
                · rcases w.zl v hv (by rw [e0, one_ne hne]; omega) with z | z
                  · exact .inl (List.mem_append_left _ z)
                  · exact .inr z
              sn := List.nodup_append.mpr ⟨w.sn, by simp, fun a ha b hb e => by
                cases List.mem_singleton.mp hb
                exact n1 (e ▸ ha)⟩
              sh := fun v hv => by
                rcases List.mem_append.mp hv with m | m
                · exact ⟨(w.sh v m).1, z0 v (w.sh v m).2.1, (w.sh v m).2.2⟩
                · cases List.mem_singleton.mp m
                  exact ⟨hl, ht0, n2⟩
              al := fun v hv => ⟨(w.al v hv).1, z0 v (w.al v hv).2⟩
              ln := w.ln, lg := w.lg
              e1 := by
                show (s.evs ++ [some (h, t)] ++ [none]).length + 3 * (s.tal.set h t).sum + (s.shelf ++ [h]).length ≤ C + s.log.length
                simp only [List.length_append, List.length_cons, List.length_nil]
                omega
              e2 := by
                show nst (s.evs ++ [some (h, t)] ++ [none]) + (s.tal.set h t).sum ≤ D
                rw [nst_app, nst_app]
                have : nst [some (h, t)] = 1 := rfl
                have : nst [none] = 0 := rfl
                omega
              e3 := fun h' t' m => by
                rcases List.mem_append.mp m with m | m
                · rcases List.mem_append.mp m with m | m
                  · exact w.e3 h' t' m
                  · cases List.mem_singleton.mp m
                    exact hh
                · cases List.mem_singleton.mp m
              c1 := w.c1 }
end
end Sf
/-! The plain law of an unwinding: destroy. -/
namespace Sf
theorem oneO_some (h u : Nat) : oneO (some h) u = one h u := by
  unfold oneO one
  by_cases e : u = h
  · subst e
    simp
  · rw [if_neg e, if_neg (by intro z; cases z; exact e rfl)]
theorem oneO_none (u : Nat) : oneO none u = 0 := by
  unfold oneO
  simp
theorem live_set {rs : List Row} {v u : Nat} {xs ys : List (Option Nat)} (h : rs[v]? = some (some xs)) : Live (rs.set v (some ys)) u ↔ Live rs u := by
  have hl := (List.getElem?_eq_some_iff.mp h).1
  unfold Live
  rw [List.getElem?_set]
  by_cases e : v = u
  · subst e
    rw [if_pos rfl, if_pos hl]
    exact ⟨fun _ => ⟨xs, h⟩, fun _ => ⟨ys, rfl⟩⟩
  · rw [if_neg e]
theorem none_set {rs : List Row} {v u : Nat} {ys : List (Option Nat)} (h : (rs.set v (some ys))[u]? = some none) : rs[u]? = some none := by
  rw [List.getElem?_set] at h
  split at h
  · split at h <;> cases h
  · exact h
section
variable {n C D : Nat} {pr : Nat → Nat} {act : List Nat} {s : Un} {B : Int}
/-- a slot is emptied: its node waits to be released -/
theorem Wd.clear {v i h : Nat} {xs : List (Option Nat)} (w : Wd n C D pr act s) (hx : s.rows[v]? = some (some xs)) (hi : xs[i]? = some (some h)) : h < n ∧ Wd n C D (fun u => pr u + one h u) act (s.setR v (some (xs.set i none))) := by
  have hl := (List.getElem?_eq_some_iff.mp hx).1
  have e0 : ∀ u, tlv (s.setR v (some (xs.set i none))) (fun u => pr u + one h u) u = tlv s pr u := fun u => by
    have h1 := cnt_slot (e' := none) hx hi u
    rw [oneO_some, oneO_none] at h1
    show cnt (s.rows.set v (some (xs.set i none))) u + outc s.refs u + (pr u + one h u) = cnt s.rows u + outc s.refs u + pr u
    omega
  refine ⟨w.en v xs h hx (List.mem_of_getElem? hi), ?_⟩
  exact { lr := by show (s.rows.set v _).length = n; rw [List.length_set]; exact w.lr
          lf := w.lf, lt := w.lt, n40 := w.n40
          ti := fun u hu => by rw [e0]; exact w.ti u hu
          en := fun u ys x hu hm => by
            have hu : (s.rows.set v (some (xs.set i none)))[u]? = some (some ys) := hu
            rw [List.getElem?_set] at hu
            by_cases e : v = u
            · subst e
              rw [if_pos rfl, if_pos hl] at hu
              cases hu
              rcases List.mem_or_eq_of_mem_set hm with m | m
              · exact w.en v xs x hx m
              · cases m
            · rw [if_neg e] at hu
              exact w.en u ys x hu hm
          rw := fun u ys hu => by
            have hu : (s.rows.set v (some (xs.set i none)))[u]? = some (some ys) := hu
            rw [List.getElem?_set] at hu
            by_cases e : v = u
            · subst e
              rw [if_pos rfl, if_pos hl] at hu
              cases hu
              rw [List.length_set]
              exact w.rw v xs hx
            · rw [if_neg e] at hu
              exact w.rw u ys hu
          fz := fun u hu => by rw [e0]; exact w.fz u (none_set hu)
          zl := fun u hu hz => by rw [e0] at hz; exact w.zl u ((live_set hx).mp hu) hz
          sn := w.sn
          sh := fun u hu => ⟨(live_set hx).mpr (w.sh u hu).1, by rw [e0]; exact (w.sh u hu).2.1, (w.sh u hu).2.2⟩
          al := fun u hu => ⟨(live_set hx).mpr (w.al u hu).1, by rw [e0]; exact (w.al u hu).2⟩
          ln := w.ln
          lg := fun u hu => ⟨(w.lg u hu).1, (w.lg u hu).2.imp (fun z => by
            show (s.rows.set v _)[u]? = some none
            rw [List.getElem?_set]
            by_cases e : v = u
            · subst e
              rw [hx] at z
              cases z
            · rw [if_neg e]
              exact z) id⟩
          e1 := w.e1, e2 := w.e2, e3 := w.e3, c1 := w.c1 }
theorem set_same {rs : List Row} {v : Nat} {xs : List (Option Nat)} {i : Nat} (hx : rs[v]? = some (some xs)) (hi : xs[i]? = some none) : rs.set v (some (xs.set i none)) = rs := by
  obtain ⟨h1, h2⟩ := List.getElem?_eq_some_iff.mp hi
  obtain ⟨h3, h4⟩ := List.getElem?_eq_some_iff.mp hx
  have e1 : xs.set i none = xs := by rw [← h2]; exact List.set_getElem_self h1
  rw [e1, ← h4]
  exact List.set_getElem_self h3
theorem Ps.setR {ex : List Nat} {v : Nat} {xs ys : List (Option Nat)} (hx : s.rows[v]? = some (some xs)) (hv : v ∈ ex) : Ps ex s (s.setR v (some ys)) := by
  refine ⟨rfl, by show (s.rows.set v _).length = _; rw [List.length_set], [], by show s.log = _; simp, by simp, fun u hu => .inl ?_⟩
  show (s.rows.set v _)[u]? = _
  rw [List.getElem?_set, if_neg (by rintro rfl; exact hu hv)]
theorem slots_ok {R : Un → Nat → Nat → Option Un} {f v d : Nat}
    (hR : ∀ (s : Un) (h : Nat), Wd n C D (fun u => pr u + one h u) (v :: act) s → h < n → n ≤ f + s.log.length → ∃ s', R s h (d + 1) = some s' ∧ Wd n C D pr (v :: act) s' ∧ Ps [] s s') :
    ∀ (k i : Nat) (s : Un) (xs : List (Option Nat)), Wd n C D pr (v :: act) s → s.rows[v]? = some (some xs) → xs.length = i + k → (∀ j, j < i → xs[j]? = some none) → n ≤ f + s.log.length →
      ∃ s', slotsL R v d k i s = some s' ∧ Wd n C D pr (v :: act) s' ∧ (∃ zs, s'.rows[v]? = some (some zs) ∧ ∀ e ∈ zs, e = none) ∧ Ps [v] s s'
  | 0, i, s, xs, w, hx, hl, hj, hf => by
    refine ⟨s, rfl, w, ⟨xs, hx, fun e he => ?_⟩, Ps.refl _ _⟩
    obtain ⟨j, hj2⟩ := List.getElem?_of_mem he
    have := hj j (by have := (List.getElem?_eq_some_iff.mp hj2).1; omega)
    rw [hj2] at this
    exact Option.some.inj this
  | k + 1, i, s, xs, w, hx, hl, hj, hf => by
    have hil : i < xs.length := by omega
    have hi := List.getElem?_eq_getElem hil
    have hvl := (List.getElem?_eq_some_iff.mp hx).1
    unfold slotsL
    simp only [hx]
    cases he : xs[i] with
    | none =>
      rw [he] at hi
      simp only [hi]
      have e : s.setR v (some (xs.set i none)) = s := by
        show { s with rows := s.rows.set v (some (xs.set i none)) } = s
        rw [set_same hx hi]
      rw [e]
      refine slots_ok hR k (i + 1) s xs w hx (by omega) (fun j hj2 => ?_) hf
      by_cases e2 : j < i
      · exact hj j e2
      · have e3 : j = i := by omega
        rw [e3]
        exact hi
    | some h =>
      rw [he] at hi
      simp only [hi]
      obtain ⟨hh, w1⟩ := w.clear hx hi
      obtain ⟨s2, r1, w2, p2⟩ := hR _ h w1 hh hf
      have hx1 : (s.setR v (some (xs.set i none))).rows[v]? = some (some (xs.set i none)) := by
        show (s.rows.set v _)[v]? = _
        rw [List.getElem?_set, if_pos rfl, if_pos hvl]
      have hlv := (w2.al v (List.mem_cons_self ..)).1
      have hx2 : s2.rows[v]? = some (some (xs.set i none)) := (p2.same (by simp) hlv).trans hx1
      obtain ⟨l, hlog, _⟩ := p2.lg
      obtain ⟨s', q1, q2, q3, q4⟩ := slots_ok hR k (i + 1) s2 (xs.set i none) w2 hx2 (by rw [List.length_set]; omega) (fun j hj2 => by
        rw [List.getElem?_set]
        by_cases e2 : i = j
        · rw [if_pos e2, if_pos hil]
        · rw [if_neg e2]
          exact hj j (by omega)) (by
        have e : (s.setR v (some (xs.set i none))).log = s.log := rfl
        rw [hlog, e, List.length_append]
        omega)
      refine ⟨s', by rw [r1]; exact q1, q2, q3, ?_⟩
      exact ((Ps.setR hx (List.mem_cons_self ..)).trans (p2.weak fun u hu => by
        cases List.mem_singleton.mp hu
        exact hlv)).trans q4
theorem occ_none {zs : List (Option Nat)} (h : ∀ e ∈ zs, e = none) (u : Nat) : occr (some zs) u = 0 := by
  show zs.count (some u) = 0
  exact List.count_eq_zero.mpr fun m => by cases h _ m
theorem des_ok : ∀ (f : Nat) (s : Un) (v d : Nat) (act : List Nat), Wd n C D pr (v :: act) s → v ∉ act → v ∉ s.log → n ≤ f + s.log.length → ∃ s', des B f s v d = some s' ∧ Wd n C D pr act s' ∧ Ps [] s s'
  | 0, s, v, d, act, w, hva, hvl, hf => by
    exfalso
    have hv := (w.al v (List.mem_cons_self ..)).1.lt
    rw [w.lr] at hv
    have h1 : (v :: s.log).length ≤ n := nodup_lt (List.nodup_cons.mpr ⟨hvl, w.ln⟩) fun u hu => by
      rcases List.mem_cons.mp hu with e | m
      · rw [e]; exact hv
      · exact (w.lg u m).1
    simp at h1
    omega
  | f + 1, s, v, d, act, w, hva, hvl, hf => by
    obtain ⟨hlv, hz⟩ := w.al v (List.mem_cons_self ..)
    obtain ⟨xs, hx⟩ := hlv
    have hvn : v < n := by
      have := (List.getElem?_eq_some_iff.mp hx).1
      rw [w.lr] at this
      exact this
    have hb := w.evb
    have w1 : Wd n C D pr (v :: act) ({ s with log := s.log ++ [v] }.ev none) :=
      { lr := w.lr, lf := w.lf, lt := w.lt, n40 := w.n40, ti := w.ti, en := w.en, rw := w.rw, fz := w.fz, zl := w.zl, sn := w.sn, sh := w.sh, al := w.al
        ln := List.nodup_append.mpr ⟨w.ln, by simp, fun a ha b hb e => by
          cases List.mem_singleton.mp hb
          exact hvl (e ▸ ha)⟩
        lg := fun u hu => by
          rcases List.mem_append.mp hu with m | m
          · exact w.lg u m
          · cases List.mem_singleton.mp m
            exact ⟨hvn, .inr (List.mem_cons_self ..)⟩
        e1 := by
          show (s.evs ++ [none]).length + 3 * s.tal.sum + s.shelf.length ≤ C + (s.log ++ [v]).length
          have := w.e1
          simp only [List.length_append, List.length_cons, List.length_nil]
          omega
        e2 := by
          show nst (s.evs ++ [none]) + s.tal.sum ≤ D
          rw [nst_app]
          have : nst [none] = 0 := rfl
          have := w.e2
          omega
        e3 := fun h t m => by
          rcases List.mem_append.mp m with m | m
          · exact w.e3 h t m
          · cases List.mem_singleton.mp m
        c1 := w.c1 }
    obtain ⟨s2, q1, w2, ⟨zs, hz1, hz2⟩, p2⟩ := slots_ok (R := rel B (des B f)) (f := f) (v := v) (d := d) (act := act) (pr := pr) (fun s h w hh hf => rel_ok (fun s h d w ha hl hf => des_ok f s h d _ w ha hl hf) w hh hf)
      xs.length 0 ({ s with log := s.log ++ [v] }.ev none) xs w1 hx (by omega) (fun j hj => by omega) (by
        show n ≤ f + (s.log ++ [v]).length
        simp
        omega)
    have hv2 : v < s2.rows.length := by rw [w2.lr]; exact hvn
    refine ⟨s2.setR v none, ?_, ?_, ?_⟩
    · unfold des
      simp only [hx, if_pos (show s.evs.length < big ∧ s.log.length < big from ⟨hb.1, hb.2.2⟩), q1]
      show (if v < s2.rows.length then some (s2.setR v none) else none) = _
      rw [if_pos hv2]
    · have e0 : ∀ u, tlv (s2.setR v none) pr u = tlv s2 pr u := fun u => by
        have h1 := cnt_set (r' := none) hz1 u
        rw [occ_none hz2 u] at h1
        show cnt (s2.rows.set v none) u + outc s2.refs u + pr u = cnt s2.rows u + outc s2.refs u + pr u
        have : occr none u = 0 := rfl
        omega
      have get : ∀ (u : Nat), u ≠ v → (s2.rows.set v none)[u]? = s2.rows[u]? := fun u hu => by rw [List.getElem?_set, if_neg (Ne.symm hu)]
      have getv : (s2.rows.set v none)[v]? = some none := by rw [List.getElem?_set, if_pos rfl, if_pos hv2]
      have back : ∀ u, Live (s2.rows.set v none) u → u ≠ v ∧ Live s2.rows u := fun u hu => by
        have hne : u ≠ v := by
          rintro rfl
          exact live_not hu getv
        exact ⟨hne, live_eq (get u hne).symm hu⟩
      exact { lr := by show (s2.rows.set v _).length = n; rw [List.length_set]; exact w2.lr
              lf := w2.lf, lt := w2.lt, n40 := w2.n40
              ti := fun u hu => by rw [e0]; exact w2.ti u hu
              en := fun u ys x hu hm => by
                have hu : (s2.rows.set v none)[u]? = some (some ys) := hu
                have hne := (back u ⟨ys, hu⟩).1
                rw [get u hne] at hu
                exact w2.en u ys x hu hm
              rw := fun u ys hu => by
                have hu : (s2.rows.set v none)[u]? = some (some ys) := hu
                have hne := (back u ⟨ys, hu⟩).1
                rw [get u hne] at hu
                exact w2.rw u ys hu
              fz := fun u hu => by
                rw [e0]
                by_cases e : u = v
                · rw [e]
                  exact (w2.al v (List.mem_cons_self ..)).2
                · have hu : (s2.rows.set v none)[u]? = some none := hu
                  rw [get u e] at hu
                  exact w2.fz u hu
              zl := fun u hu hz => by
                rw [e0] at hz
                obtain ⟨hne, hl⟩ := back u hu
                rcases w2.zl u hl hz with z | z
                · exact .inl z
                · rcases List.mem_cons.mp z with z | z
                  · exact absurd z hne
                  · exact .inr z
              sn := w2.sn
              sh := fun u hu => by
                obtain ⟨a, b, c⟩ := w2.sh u hu
                have hne : u ≠ v := fun e => c (by rw [e]; exact List.mem_cons_self ..)
                exact ⟨live_eq (get u hne) a, by rw [e0]; exact b, fun m => c (List.mem_cons_of_mem _ m)⟩
              al := fun u hu => by
                obtain ⟨a, b⟩ := w2.al u (List.mem_cons_of_mem _ hu)
                have hne : u ≠ v := fun e => hva (e ▸ hu)
                exact ⟨live_eq (get u hne) a, by rw [e0]; exact b⟩
              ln := w2.ln
              lg := fun u hu => by
                obtain ⟨a, b⟩ := w2.lg u hu
                refine ⟨a, ?_⟩
                by_cases e : u = v
                · rw [e]
                  exact .inl getv
                · rcases b with b | b
                  · exact .inl ((get u e).trans b)
                  · rcases List.mem_cons.mp b with b | b
                    · exact absurd b e
                    · exact .inr b
              e1 := w2.e1, e2 := w2.e2, e3 := w2.e3, c1 := w2.c1 }
    · obtain ⟨l, h1, h2, h3⟩ := p2.lg
      have getv : (s2.rows.set v none)[v]? = some none := by rw [List.getElem?_set, if_pos rfl, if_pos hv2]
      have get : ∀ (u : Nat), u ≠ v → (s2.rows.set v none)[u]? = s2.rows[u]? := fun u hu => by rw [List.getElem?_set, if_neg (Ne.symm hu)]
      refine ⟨p2.rf, by show (s2.rows.set v _).length = _; rw [List.length_set]; exact p2.ll, v :: l, ?_, ?_, ?_⟩
      · show s2.log = _
        rw [h1]
        show s.log ++ [v] ++ l = _
        simp
      · intro u hu
        refine ⟨by simp, ?_⟩
        rcases List.mem_cons.mp hu with e | m
        · rw [e]
          exact ⟨⟨xs, hx⟩, getv⟩
        · obtain ⟨a, b, c⟩ := h2 u m
          have hne : u ≠ v := fun e => a (by rw [e]; exact List.mem_cons_self ..)
          exact ⟨b, (get u hne).trans c⟩
      · intro u _
        by_cases e : u = v
        · rw [e]
          exact .inr ⟨getv, List.mem_cons_self ..⟩
        · rcases h3 u (by simp [e]) with z | ⟨z, zm⟩
          · exact .inl ((get u e).trans z)
          · exact .inr ⟨(get u e).trans z, List.mem_cons_of_mem _ zm⟩
end
end Sf
/-! The plain law of an unwinding: whole runs. -/
namespace Sf
section
variable {n C D : Nat} {pr : Nat → Nat} {act : List Nat} {s : Un} {B : Int}
theorem des_none {f : Nat} {s' : Un} {v d : Nat} (h : des B f s v d = some s') : s'.rows[v]? = some none := by
  cases f with
  | zero => cases h
  | succ f =>
    unfold des at h
    split at h
    · split at h
      · obtain ⟨s2, h1, h2⟩ := Option.bind_eq_some_iff.mp h
        split at h2
        · rename_i hv
          cases h2
          show (s2.rows.set v none)[v]? = _
          rw [List.getElem?_set, if_pos rfl, if_pos hv]
        · cases h2
      · cases h
    · cases h
theorem drain_ok : ∀ (k : Nat) (s : Un), Wd n C D pr [] s → n ≤ k + s.log.length → ∃ s', drain B k s = some s' ∧ Wd n C D pr [] s' ∧ s'.shelf = [] ∧ Ps [] s s'
  | 0, s, w, hf => by
    have e : s.shelf = [] := by
      cases hs : s.shelf with
      | nil => rfl
      | cons t r =>
        exfalso
        have ht := w.sh t (by rw [hs]; exact List.mem_cons_self ..)
        have hl := ht.1.lt
        rw [w.lr] at hl
        have htl : t ∉ s.log := fun m => by
          rcases (w.lg t m).2 with z | z
          · exact live_not ht.1 z
          · cases z
        have h1 : (t :: s.log).length ≤ n := nodup_lt (List.nodup_cons.mpr ⟨htl, w.ln⟩) fun u hu => by
          rcases List.mem_cons.mp hu with e | m
          · rw [e]; exact hl
          · exact (w.lg u m).1
        simp at h1
        omega
    exact ⟨s, by unfold drain; rw [if_pos e], w, e, Ps.refl _ _⟩
  | k + 1, s, w, hf => by
    cases hg : s.shelf.getLast? with
    | none => exact ⟨s, by unfold drain; simp only [hg], w, List.getLast?_eq_none_iff.mp hg, Ps.refl _ _⟩
    | some t =>
      obtain ⟨ys, hy⟩ := List.getLast?_eq_some_iff.mp hg
      have hd : s.shelf.dropLast = ys := by rw [hy]; simp
      have ht := w.sh t (by rw [hy]; simp)
      have hnd : (ys ++ [t]).Nodup := by rw [← hy]; exact w.sn
      have hty : t ∉ ys := fun m => (List.nodup_append.mp hnd).2.2 t m t (by simp) rfl
      have hb := w.evb
      have htl : t ∉ s.log := fun m => by
        rcases (w.lg t m).2 with z | z
        · exact live_not ht.1 z
        · cases z
      have w1 : Wd n C D pr [t] ({ s with shelf := s.shelf.dropLast }.ev none) :=
        { lr := w.lr, lf := w.lf, lt := w.lt, n40 := w.n40, ti := w.ti, en := w.en, rw := w.rw, fz := w.fz
          zl := fun v hv hz => by
            rcases w.zl v hv hz with z | z
            · rw [hy] at z
              rcases List.mem_append.mp z with z | z
              · exact .inl (by show v ∈ s.shelf.dropLast; rw [hd]; exact z)
              · exact .inr z
            · cases z
          sn := by show s.shelf.dropLast.Nodup; rw [hd]; exact (List.nodup_append.mp hnd).1
          sh := fun v hv => by
            have hv : v ∈ s.shelf.dropLast := hv
            rw [hd] at hv
            obtain ⟨a, b, _⟩ := w.sh v (by rw [hy]; exact List.mem_append_left _ hv)
            exact ⟨a, b, fun m => by cases List.mem_singleton.mp m; exact hty hv⟩
          al := fun v hv => by
            cases List.mem_singleton.mp hv
            exact ⟨ht.1, ht.2.1⟩
          ln := w.ln
          lg := fun v hv => ⟨(w.lg v hv).1, (w.lg v hv).2.imp id fun z => by cases z⟩
          e1 := by
            show (s.evs ++ [none]).length + 3 * s.tal.sum + s.shelf.dropLast.length ≤ C + s.log.length
            have h1 := w.e1
            rw [hd]
            rw [hy] at h1
            simp only [List.length_append, List.length_cons, List.length_nil] at h1 ⊢
            omega
          e2 := by
            show nst (s.evs ++ [none]) + s.tal.sum ≤ D
            rw [nst_app]
            have : nst [none] = 0 := rfl
            have := w.e2
            omega
          e3 := fun h t m => by
            rcases List.mem_append.mp m with m | m
            · exact w.e3 h t m
            · cases List.mem_singleton.mp m
          c1 := w.c1 }
      have h40 := w.n40
      obtain ⟨s2, q1, w2, p2⟩ := des_ok (B := B) F0 _ t 0 [] w1 (by simp) htl (by show n ≤ 41 + _; omega)
      obtain ⟨l, h1, h2, h3⟩ := p2.lg
      have htl2 : t ∈ l := by
        rcases h3 t (by simp) with z | ⟨_, z⟩
        · exact (live_not ht.1 (z.symm.trans (des_none q1))).elim
        · exact z
      have hlen : 1 ≤ l.length := List.length_pos_of_mem htl2
      obtain ⟨s3, q3, w3, e3, p3⟩ := drain_ok k s2 w2 (by
        rw [h1]
        show n ≤ k + (s.log ++ l).length
        rw [List.length_append]
        omega)
      refine ⟨s3, ?_, w3, e3, ?_⟩
      · unfold drain
        simp only [hg, if_pos hb.1, q1]
        exact q3
      · exact ((Ps.of (s := s) (s' := { s with shelf := s.shelf.dropLast }.ev none) rfl rfl rfl).trans p2).trans p3
theorem unw_ok {h : Nat} (w : Wd n C D (fun u => pr u + one h u) [] s) (hh : h < n) : ∃ s', unw B s h = some s' ∧ Wd n C D pr [] s' ∧ s'.shelf = [] ∧ Ps [] s s' := by
  have h40 := w.n40
  obtain ⟨s1, q1, w1, p1⟩ := rel_ok (B := B) (f := F0) (d := 0) (fun s h d w ha hl hf => des_ok F0 s h d _ w ha hl hf) w hh (by show n ≤ 41 + _; omega)
  obtain ⟨s2, q2, w2, e2, p2⟩ := drain_ok (B := B) F0 s1 w1 (by show n ≤ 41 + _; omega)
  exact ⟨s2, by unfold unw; rw [q1]; exact q2, w2, e2, p1.trans p2⟩
/-- who lives, who went -/
structure Lv (s s' : Un) : Prop where
  ll : s'.rows.length = s.rows.length
  lg : ∃ l, s'.log = s.log ++ l ∧ (∀ u ∈ l, Live s.rows u) ∧ ∀ u : Nat, s'.rows[u]? = some none ↔ s.rows[u]? = some none ∨ u ∈ l
theorem Lv.of (h1 : ∀ u : Nat, s'.rows[u]? = some none ↔ s.rows[u]? = some none) (h2 : s'.log = s.log) (h3 : s'.rows.length = s.rows.length) : Lv s s' :=
  ⟨h3, [], by rw [h2]; simp, by simp, fun u => by rw [h1]; simp⟩
theorem Ps.lv {s s' : Un} (p : Ps [] s s') : Lv s s' := by
  obtain ⟨l, h1, h2, h3⟩ := p.lg
  refine ⟨p.ll, l, h1, fun u hu => (h2 u hu).2.1, fun u => ⟨fun z => ?_, fun z => ?_⟩⟩
  · rcases h3 u (by simp) with y | ⟨_, y⟩
    · exact .inl (y.symm.trans z)
    · exact .inr y
  · rcases z with z | z
    · rcases h3 u (by simp) with y | ⟨y, _⟩
      · exact y.trans z
      · exact y
    · exact (h2 u z).2.2
theorem live_iff_lt {rs : List Row} {u : Nat} : Live rs u ↔ u < rs.length ∧ rs[u]? ≠ some none := by
  constructor
  · intro h
    exact ⟨h.lt, fun e => live_not h e⟩
  · rintro ⟨h1, h2⟩
    have hg := List.getElem?_eq_getElem h1
    cases e : rs[u] with
    | none =>
      rw [e] at hg
      exact absurd hg h2
    | some xs =>
      rw [e] at hg
      exact ⟨xs, hg⟩
theorem Lv.trans {a b c : Un} (p : Lv a b) (q : Lv b c) : Lv a c := by
  obtain ⟨l, h1, h2, h3⟩ := p.lg
  obtain ⟨m, g1, g2, g3⟩ := q.lg
  refine ⟨q.ll.trans p.ll, l ++ m, by rw [g1, h1, List.append_assoc], fun u hu => ?_, fun u => ?_⟩
  · rcases List.mem_append.mp hu with h | h
    · exact h2 u h
    · have hb := live_iff_lt.mp (g2 u h)
      refine live_iff_lt.mpr ⟨by rw [← p.ll]; exact hb.1, fun e => hb.2 ((h3 u).mpr (.inl e))⟩
  · rw [g3, h3, List.mem_append, or_assoc]
theorem oneO_fun (g : Option Nat) : (fun u => pr u + oneO g u) = match g with | none => pr | some h => fun u => pr u + one h u := by
  cases g with
  | none =>
    funext u
    rw [oneO_none]
    rfl
  | some h =>
    funext u
    rw [oneO_some]
/-- what was held in a slot is released -/
theorem held_ok {held : Option Nat} (w : Wd n C D (fun u => pr u + oneO held u) [] s) (hs : s.shelf = []) (hh : ∀ h, held = some h → h < n) :
    ∃ s', (match held with | none => some s | some h => unw B s h) = some s' ∧ Wd n C D pr [] s' ∧ s'.shelf = [] ∧ Ps [] s s' := by
  rw [oneO_fun] at w
  cases held with
  | none => exact ⟨s, rfl, w, hs, Ps.refl _ _⟩
  | some h => exact unw_ok w (hh h rfl)
theorem Wd.more {C' D' : Nat} (w : Wd n C D pr act s) (h1 : C ≤ C') (h2 : D ≤ D') (h3 : C' ≤ 50000) : Wd n C' D' pr act s :=
  { w with e1 := by have := w.e1; omega, e2 := by have := w.e2; omega, c1 := h3 }
/-- a slot is set: what it held waits, what it aims at counts -/
theorem Wd.put {v i : Nat} {xs : List (Option Nat)} {held g : Option Nat} (w : Wd n C D pr [] s) (hx : s.rows[v]? = some (some xs)) (hi : xs[i]? = some held) (hg : ∀ t, g = some t → Live s.rows t) (hC : g ≠ none → C + 3 ≤ 50000) (hsh : s.shelf = []) :
    ∃ s2, (s.setR v (some (xs.set i g))).aim g = some s2 ∧ Wd n (if g = none then C else C + 3) (if g = none then D else D + 1) (fun u => pr u + oneO held u) [] s2 ∧ s2.rows = s.rows.set v (some (xs.set i g)) ∧ s2.refs = s.refs ∧ s2.log = s.log ∧ s2.shelf = s.shelf ∧ ∀ h, held = some h → h < n := by
  have hl := (List.getElem?_eq_some_iff.mp hx).1
  have hheld : ∀ h, held = some h → h < n := fun h e => w.en v xs h hx (by rw [← e]; exact List.mem_of_getElem? hi)
  have e0 : ∀ u, cnt (s.rows.set v (some (xs.set i g))) u + oneO held u = cnt s.rows u + oneO g u := fun u => cnt_slot hx hi u
  have en' : ∀ (u : Nat) (ys : List (Option Nat)) (x : Nat), (s.rows.set v (some (xs.set i g)))[u]? = some (some ys) → some x ∈ ys → x < n := fun u ys x hu hm => by
    rw [List.getElem?_set] at hu
    by_cases e : v = u
    · subst e
      rw [if_pos rfl, if_pos hl] at hu
      cases hu
      rcases List.mem_or_eq_of_mem_set hm with m | m
      · exact w.en v xs x hx m
      · have := (hg x m.symm).lt
        rw [w.lr] at this
        exact this
    · rw [if_neg e] at hu
      exact w.en u ys x hu hm
  have rw' : ∀ (u : Nat) (ys : List (Option Nat)), (s.rows.set v (some (xs.set i g)))[u]? = some (some ys) → ys.length ≤ 40 := fun u ys hu => by
    rw [List.getElem?_set] at hu
    by_cases e : v = u
    · subst e
      rw [if_pos rfl, if_pos hl] at hu
      cases hu
      rw [List.length_set]
      exact w.rw v xs hx
    · rw [if_neg e] at hu
      exact w.rw u ys hu
  have lg' : ∀ u ∈ s.log, u < n ∧ ((s.rows.set v (some (xs.set i g)))[u]? = some none ∨ u ∈ ([] : List Nat)) := fun u hu => ⟨(w.lg u hu).1, (w.lg u hu).2.imp (fun z => by
    rw [List.getElem?_set]
    by_cases e : v = u
    · subst e
      rw [hx] at z
      cases z
    · rw [if_neg e]
      exact z) id⟩
  cases g with
  | none =>
    refine ⟨_, rfl, ?_, rfl, rfl, rfl, rfl, hheld⟩
    have e1 : ∀ u, tlv (s.setR v (some (xs.set i none))) (fun u => pr u + oneO held u) u = tlv s pr u := fun u => by
      have := e0 u
      rw [oneO_none] at this
      show cnt (s.rows.set v (some (xs.set i none))) u + outc s.refs u + (pr u + oneO held u) = cnt s.rows u + outc s.refs u + pr u
      omega
    exact { lr := by show (s.rows.set v _).length = n; rw [List.length_set]; exact w.lr
            lf := w.lf, lt := w.lt, n40 := w.n40, ti := fun u hu => by rw [e1]; exact w.ti u hu, en := en', rw := rw'
            fz := fun u hu => by rw [e1]; exact w.fz u (none_set hu)
            zl := fun u hu hz => by rw [e1] at hz; exact w.zl u ((live_set hx).mp hu) hz
            sn := w.sn
            sh := fun u hu => ⟨(live_set hx).mpr (w.sh u hu).1, by rw [e1]; exact (w.sh u hu).2.1, by simp⟩
            al := fun u hu => by cases hu
            ln := w.ln, lg := lg', e1 := w.e1, e2 := w.e2, e3 := w.e3, c1 := w.c1 }
  | some t =>
    have ht := hg t rfl
    have htn : t < n := by
      have := ht.lt
      rw [w.lr] at this
      exact this
    have hti := w.ti t htn
    have e1 : ∀ u, tlv ((s.setR v (some (xs.set i (some t)))).setT t (tlv s pr t + 1)) (fun u => pr u + oneO held u) u = tlv s pr u + one t u := fun u => by
      have := e0 u
      rw [oneO_some] at this
      show cnt (s.rows.set v (some (xs.set i (some t)))) u + outc s.refs u + (pr u + oneO held u) = cnt s.rows u + outc s.refs u + pr u + one t u
      omega
    refine ⟨(s.setR v (some (xs.set i (some t)))).setT t (tlv s pr t + 1), ?_, ?_, rfl, rfl, rfl, rfl, hheld⟩
    · show (match (s.setR v (some (xs.set i (some t)))).tal[t]? with | some k => some ((s.setR v (some (xs.set i (some t)))).setT t (k + 1)) | none => none) = _
      have e : (s.setR v (some (xs.set i (some t)))).tal[t]? = some (tlv s pr t) := hti
      rw [e]
    · have hsum := sum_set (b := tlv s pr t + 1) hti
      simp only [reduceCtorEq, if_false]
      exact { lr := by show (s.rows.set v _).length = n; rw [List.length_set]; exact w.lr
              lf := w.lf, lt := by show (s.tal.set t _).length = n; rw [List.length_set]; exact w.lt
              n40 := w.n40
              ti := fun u hu => by
                rw [e1]
                show (s.tal.set t (tlv s pr t + 1))[u]? = _
                rw [List.getElem?_set]
                by_cases e : t = u
                · subst e
                  rw [if_pos rfl, if_pos (by rw [w.lt]; exact hu), one_same]
                · rw [if_neg e, one_ne (Ne.symm e), w.ti u hu, Nat.add_zero]
              en := en', rw := rw'
              fz := fun u hu => by
                have hu2 := none_set (show (s.rows.set v (some (xs.set i (some t))))[u]? = some none from hu)
                have hne : u ≠ t := by
                  rintro rfl
                  exact live_not ht hu2
                rw [e1, one_ne hne, w.fz u hu2]
              zl := fun u hu hz => by
                rw [e1] at hz
                exact w.zl u ((live_set hx).mp hu) (by omega)
              sn := w.sn
              sh := fun u hu => by
                have hu : u ∈ s.shelf := hu
                rw [hsh] at hu
                cases hu
              al := fun u hu => by cases hu
              ln := w.ln, lg := lg'
              e1 := by
                show s.evs.length + 3 * (s.tal.set t (tlv s pr t + 1)).sum + s.shelf.length ≤ C + 3 + s.log.length
                have := w.e1
                omega
              e2 := by
                show nst s.evs + (s.tal.set t (tlv s pr t + 1)).sum ≤ D + 1
                have := w.e2
                omega
              e3 := w.e3, c1 := hC (by simp) }
theorem fillS_ok {v i : Nat} {xs : List (Option Nat)} {held g : Option Nat} (w : Wd n C D pr [] s) (hx : s.rows[v]? = some (some xs)) (hi : xs[i]? = some held) (hg : ∀ t, g = some t → Live s.rows t) (hC : g ≠ none → C + 3 ≤ 50000) (hsh : s.shelf = []) :
    ∃ s', fillS B s v i g = some s' ∧ Wd n (if g = none then C else C + 3) (if g = none then D else D + 1) pr [] s' ∧ s'.shelf = [] ∧ Ps [] (s.setR v (some (xs.set i g))) s' := by
  obtain ⟨s2, q1, w2, r1, r2, r3, r4, hh⟩ := w.put hx hi hg hC hsh
  obtain ⟨s', q2, w3, e3, p3⟩ := held_ok (B := B) w2 (by rw [r4]; exact hsh) hh
  refine ⟨s', ?_, w3, e3, (Ps.of (s := s.setR v (some (xs.set i g))) (s' := s2) r2 r1 r3).trans p3⟩
  unfold fillS
  simp only [hx, hi, q1]
  exact q2
theorem lv_setR {v : Nat} {xs ys : List (Option Nat)} (hx : s.rows[v]? = some (some xs)) : Lv s (s.setR v (some ys)) := by
  refine Lv.of (fun u => ?_) rfl (by show (s.rows.set v _).length = _; rw [List.length_set])
  have hl := (List.getElem?_eq_some_iff.mp hx).1
  show (s.rows.set v (some ys))[u]? = some none ↔ _
  rw [List.getElem?_set]
  by_cases e : v = u
  · subst e
    rw [if_pos rfl, if_pos hl, hx]
    simp
  · rw [if_neg e]
/-- all slots of a node that is held besides are emptied -/
theorem fills_ok {v : Nat} : ∀ (k i : Nat) (s : Un) (xs : List (Option Nat)), Wd n C D (fun u => pr u + one v u) [] s → s.rows[v]? = some (some xs) → xs.length = i + k → s.shelf = [] → v < n →
    ∃ s', fills B v k i s = some s' ∧ Wd n C D (fun u => pr u + one v u) [] s' ∧ s'.shelf = [] ∧ Lv s s' ∧ s'.refs = s.refs
  | 0, i, s, xs, w, hx, hl, hs, hv => ⟨s, rfl, w, hs, Lv.of (fun u => Iff.rfl) rfl rfl, rfl⟩
  | k + 1, i, s, xs, w, hx, hl, hs, hv => by
    have hil : i < xs.length := by omega
    have hvl := (List.getElem?_eq_some_iff.mp hx).1
    obtain ⟨s1, q1, w1, e1, p1⟩ := fillS_ok (B := B) (g := none) w hx (List.getElem?_eq_getElem hil) (fun t z => by cases z) (fun z => absurd rfl z) hs
    simp only [if_true] at w1
    have hlv : Live s1.rows v := w1.live_of hv (by rw [tlv_one, one_same]; omega)
    have hx0 : (s.setR v (some (xs.set i none))).rows[v]? = some (some (xs.set i none)) := by
      show (s.rows.set v _)[v]? = _
      rw [List.getElem?_set, if_pos rfl, if_pos hvl]
    have hx1 : s1.rows[v]? = some (some (xs.set i none)) := (p1.same (by simp) hlv).trans hx0
    obtain ⟨s2, q2, w2, e2, l2, r2⟩ := fills_ok k (i + 1) s1 (xs.set i none) w1 hx1 (by rw [List.length_set]; omega) e1 hv
    exact ⟨s2, by unfold fills; rw [q1]; exact q2, w2, e2, ((lv_setR hx).trans p1.lv).trans l2, r2.trans p1.rf⟩
theorem strip_ok {v : Nat} (w : Wd n C D pr [] s) (hl : Live s.rows v) (hs : s.shelf = []) (hC : C + 3 ≤ 50000) :
    ∃ s', strip B s v = some s' ∧ Wd n (C + 3) (D + 1) pr [] s' ∧ s'.shelf = [] ∧ Lv s s' ∧ s'.refs = s.refs := by
  have hv := hl.lt
  rw [w.lr] at hv
  obtain ⟨xs, hx⟩ := hl
  have hti := w.ti v hv
  have hsum := sum_set (b := tlv s pr v + 1) hti
  have w1 : Wd n (C + 3) (D + 1) (fun u => pr u + one v u) [] (s.setT v (tlv s pr v + 1)) :=
    { lr := w.lr, lf := w.lf, lt := by show (s.tal.set v _).length = n; rw [List.length_set]; exact w.lt, n40 := w.n40
      ti := fun u hu => by
        have e0 : tlv (s.setT v (tlv s pr v + 1)) (fun u => pr u + one v u) u = tlv s pr u + one v u := tlv_one s pr v u
        rw [e0]
        show (s.tal.set v (tlv s pr v + 1))[u]? = _
        rw [List.getElem?_set]
        by_cases e : v = u
        · subst e
          rw [if_pos rfl, if_pos (by rw [w.lt]; exact hu), one_same]
        · rw [if_neg e, one_ne (Ne.symm e), w.ti u hu, Nat.add_zero]
      en := w.en, rw := w.rw
      fz := fun u hu => by
        have hu2 : s.rows[u]? = some none := hu
        have hne : u ≠ v := by
          rintro rfl
          rw [hx] at hu2
          cases hu2
        have e0 : tlv (s.setT v (tlv s pr v + 1)) (fun u => pr u + one v u) u = tlv s pr u + one v u := tlv_one s pr v u
        rw [e0, one_ne hne, w.fz u hu2]
      zl := fun u hu hz => by
        have e0 : tlv (s.setT v (tlv s pr v + 1)) (fun u => pr u + one v u) u = tlv s pr u + one v u := tlv_one s pr v u
        rw [e0] at hz
        exact w.zl u hu (by omega)
      sn := w.sn
      sh := fun u hu => by
        have hu : u ∈ s.shelf := hu
        rw [hs] at hu
        cases hu
      al := fun u hu => by cases hu
      ln := w.ln, lg := w.lg
      e1 := by
        show s.evs.length + 3 * (s.tal.set v (tlv s pr v + 1)).sum + s.shelf.length ≤ C + 3 + s.log.length
        have := w.e1
        omega
      e2 := by
        show nst s.evs + (s.tal.set v (tlv s pr v + 1)).sum ≤ D + 1
        have := w.e2
        omega
      e3 := w.e3, c1 := hC }
  obtain ⟨s2, q2, w2, e2, l2, r2⟩ := fills_ok (B := B) xs.length 0 _ xs w1 hx (by omega) hs hv
  obtain ⟨s3, q3, w3, e3, p3⟩ := unw_ok (B := B) w2 hv
  refine ⟨s3, ?_, w3, e3, ((Lv.of (s := s) (s' := s.setT v (tlv s pr v + 1)) (fun u => Iff.rfl) rfl rfl).trans l2).trans p3.lv, p3.rf.trans r2⟩
  unfold strip
  simp only [hti, hx, q2]
  exact q3
theorem stripAll_ok : ∀ (ns : List Nat) (C D : Nat) (s : Un), Wd n C D pr [] s → (∀ v ∈ ns, v < n) → s.shelf = [] → C + 3 * ns.length ≤ 50000 →
    ∃ s', stripAll B ns s = some s' ∧ Wd n (C + 3 * ns.length) (D + ns.length) pr [] s' ∧ s'.shelf = [] ∧ Lv s s' ∧ s'.refs = s.refs
  | [], C, D, s, w, _, hs, _ => ⟨s, rfl, w, hs, Lv.of (fun u => Iff.rfl) rfl rfl, rfl⟩
  | v :: ns, C, D, s, w, hn, hs, hC => by
    have hv := hn v (List.mem_cons_self ..)
    have hv' : v < s.rows.length := by rw [w.lr]; exact hv
    have hg := List.getElem?_eq_getElem hv'
    simp only [List.length_cons] at hC ⊢
    cases e : s.rows[v] with
    | none =>
      rw [e] at hg
      obtain ⟨s', q, w', e', l', r'⟩ := stripAll_ok ns C D s w (fun u hu => hn u (List.mem_cons_of_mem _ hu)) hs (by omega)
      exact ⟨s', by unfold stripAll; simp only [hg]; exact q, w'.more (by omega) (by omega) hC, e', l', r'⟩
    | some xs =>
      rw [e] at hg
      obtain ⟨s1, q1, w1, e1, l1, r1⟩ := strip_ok (B := B) w ⟨xs, hg⟩ hs (by omega)
      obtain ⟨s', q, w', e', l', r'⟩ := stripAll_ok ns (C + 3) (D + 1) s1 w1 (fun u hu => hn u (List.mem_cons_of_mem _ hu)) e1 (by omega)
      exact ⟨s', by unfold stripAll; simp only [hg, q1]; exact q, w'.more (by omega) (by omega) hC, e', l1.trans l', r'.trans r1⟩
theorem outc_at {os : List Nat} {v : Nat} (h : v < os.length) : os[v]? = some (outc os v) := by simp [outc, h]
theorem dropO_ok {v : Nat} (w : Wd n C D pr [] s) (hv : v < n) (ho : 0 < outc s.refs v) (hs : s.shelf = []) :
    ∃ s', dropO B s v = some s' ∧ Wd n C D pr [] s' ∧ s'.shelf = [] ∧ Lv s s' ∧ s'.refs = s.refs.set v (outc s.refs v - 1) := by
  have hr := outc_at (os := s.refs) (v := v) (by rw [w.lf]; exact hv)
  obtain ⟨r, hr2⟩ : ∃ r, outc s.refs v = r + 1 := ⟨outc s.refs v - 1, by omega⟩
  rw [hr2] at hr
  have e0 : ∀ u, tlv { s with refs := s.refs.set v r } (fun u => pr u + one v u) u = tlv s pr u := fun u => by
    show cnt s.rows u + outc (s.refs.set v r) u + (pr u + one v u) = cnt s.rows u + outc s.refs u + pr u
    have : outc (s.refs.set v r) u + one v u = outc s.refs u := by
      by_cases e : v = u
      · subst e
        rw [hr2, one_same]
        unfold outc
        rw [List.getElem?_set, if_pos rfl, if_pos (by rw [w.lf]; exact hv)]
        rfl
      · rw [one_ne (Ne.symm e)]
        unfold outc
        rw [List.getElem?_set, if_neg e]
        omega
    omega
  have w1 : Wd n C D (fun u => pr u + one v u) [] { s with refs := s.refs.set v r } :=
    { lr := w.lr, lf := by show (s.refs.set v r).length = n; rw [List.length_set]; exact w.lf, lt := w.lt, n40 := w.n40
      ti := fun u hu => by rw [e0]; exact w.ti u hu
      en := w.en, rw := w.rw
      fz := fun u hu => by rw [e0]; exact w.fz u hu
      zl := fun u hu hz => by rw [e0] at hz; exact w.zl u hu hz
      sn := w.sn
      sh := fun u hu => by
        have hu : u ∈ s.shelf := hu
        rw [hs] at hu
        cases hu
      al := fun u hu => by cases hu
      ln := w.ln, lg := w.lg, e1 := w.e1, e2 := w.e2, e3 := w.e3, c1 := w.c1 }
  obtain ⟨s', q, w', e', p'⟩ := unw_ok (B := B) w1 hv
  refine ⟨s', ?_, w', e', (Lv.of (s := s) (s' := { s with refs := s.refs.set v r }) (fun u => Iff.rfl) rfl rfl).trans p'.lv, ?_⟩
  · unfold dropO
    simp only [hr]
    exact q
  · rw [p'.rf, hr2]
    rfl
end
end Sf
/-! The plain law of a store: what stands at every moment. -/
namespace Sf
def sumr (n : Nat) (f : Nat → Nat) : Nat := ((List.range n).map f).sum
theorem sumr_succ (n : Nat) (f : Nat → Nat) : sumr (n + 1) f = sumr n f + f n := by
  unfold sumr
  rw [List.range_succ, List.map_append, List.sum_append]
  simp
theorem sumr_add (n : Nat) (f g : Nat → Nat) : sumr n (fun v => f v + g v) = sumr n f + sumr n g := by
  induction n with
  | zero => rfl
  | succ n ih =>
    rw [sumr_succ, sumr_succ, sumr_succ, ih]
    omega
theorem sumr_le (n b : Nat) (f : Nat → Nat) (h : ∀ v, v < n → f v ≤ b) : sumr n f ≤ n * b := by
  induction n with
  | zero => exact Nat.zero_le _
  | succ n ih =>
    rw [sumr_succ, Nat.succ_mul]
    have h1 := ih fun v hv => h v (by omega)
    have h2 := h n (by omega)
    omega
theorem sumr_zero (n : Nat) : sumr n (fun _ => 0) = 0 := by
  induction n with
  | zero => rfl
  | succ n ih => rw [sumr_succ, ih]
theorem sumr_one (n : Nat) (x : Option Nat) : sumr n (fun v => if x = some v then 1 else 0) ≤ 1 ∧ (∀ m, x = some m → n ≤ m → sumr n (fun v => if x = some v then 1 else 0) = 0) := by
  induction n with
  | zero => exact ⟨Nat.zero_le _, fun _ _ _ => rfl⟩
  | succ n ih =>
    rw [sumr_succ]
    constructor
    · by_cases e : x = some n
      · rw [if_pos e, ih.2 n e (Nat.le_refl _)]
        exact Nat.le_refl _
      · rw [if_neg e]
        have := ih.1
        omega
    · intro m hm hl
      rw [if_neg (by rw [hm]; intro z; cases z; omega), ih.2 m hm (by omega)]
theorem sumr_count (n : Nat) : ∀ xs : List (Option Nat), sumr n (fun v => xs.count (some v)) ≤ xs.length
  | [] => by
    have := sumr_zero n
    simp only [List.count_nil, List.length_nil]
    omega
  | x :: r => by
    have e : sumr n (fun v => (x :: r).count (some v)) = sumr n (fun v => r.count (some v) + if x = some v then 1 else 0) := by
      unfold sumr
      congr 1
      apply List.map_congr_left
      intro v _
      rw [List.count_cons]
      by_cases h : x = some v
      · simp [h]
      · simp [h]
    rw [e, sumr_add]
    have h1 := sumr_count n r
    have h2 := (sumr_one n x).1
    simp only [List.length_cons]
    omega
theorem sumr_cnt (n : Nat) : ∀ rs : List Row, (∀ r ∈ rs, (rowL r).length ≤ 40) → sumr n (fun v => cnt rs v) ≤ rs.length * 40
  | [], _ => by
    have := sumr_zero n
    show sumr n (fun v => 0) ≤ _
    omega
  | r :: rs, h => by
    have e : sumr n (fun v => cnt (r :: rs) v) = sumr n (fun v => occr r v + cnt rs v) := by
      unfold sumr
      congr 1
    have e' : sumr n (fun v => occr r v + cnt rs v) = sumr n (fun v => occr r v) + sumr n (fun v => cnt rs v) := sumr_add n _ _
    rw [e, e']
    have h1 := sumr_cnt n rs fun x hx => h x (List.mem_cons_of_mem _ hx)
    have h2 := h r (List.mem_cons_self ..)
    have h3 : sumr n (fun v => occr r v) ≤ (rowL r).length := by
      cases r with
      | none =>
        have := sumr_zero n
        show sumr n (fun _ => 0) ≤ _
        omega
      | some xs => exact sumr_count n xs
    simp only [List.length_cons, Nat.succ_mul]
    omega
theorem start_ok {hp : Hv} (V : Vh hp) : Wd hp.1.length 5880 1960 (fun _ => 0) [] (Un.start hp) := by
  have hl := V.len
  have h40 := V.n40
  have hsum : (refc hp.1 hp.2).sum ≤ 1960 := by
    have e : (refc hp.1 hp.2).sum = sumr hp.2.length (fun v => outc hp.2 v + cnt hp.1 v) := rfl
    have e' : sumr hp.2.length (fun v => outc hp.2 v + cnt hp.1 v) = sumr hp.2.length (fun v => outc hp.2 v) + sumr hp.2.length (fun v => cnt hp.1 v) := sumr_add _ _ _
    rw [e, e']
    have h1 := sumr_le hp.2.length 9 (fun v => outc hp.2 v) fun v hv => V.nine v _ (outc_at hv)
    have h2 := sumr_cnt hp.2.length hp.1 fun r hr => by
      obtain ⟨i, hi⟩ := List.getElem?_of_mem hr
      cases r with
      | none => exact Nat.zero_le _
      | some xs => exact (V.rows i _ hi xs rfl).1
    omega
  exact { lr := rfl, lf := hl.symm, lt := by show (refc hp.1 hp.2).length = _; rw [refc_len]; exact hl.symm, n40 := h40
          ti := fun v hv => by
            show (refc hp.1 hp.2)[v]? = some (cnt hp.1 v + outc hp.2 v + 0)
            rw [refc_get (by omega)]
            congr 1
            omega
          en := fun v xs u h m => (V.rows v _ h xs rfl).2 u m
          rw := fun v xs h => (V.rows v _ h xs rfl).1
          fz := fun v h => by
            have := V.free v h
            show cnt hp.1 v + outc hp.2 v + 0 = 0
            omega
          zl := fun v h hz => by
            obtain ⟨xs, hx⟩ := h
            have := V.live v xs hx
            have hz : cnt hp.1 v + outc hp.2 v + 0 = 0 := hz
            omega
          sn := List.nodup_nil, sh := fun v h => by cases h
          al := fun v h => by cases h
          ln := List.nodup_nil, lg := fun v h => by cases h
          e1 := by
            show 0 + 3 * (refc hp.1 hp.2).sum + 0 ≤ 5880 + 0
            omega
          e2 := by
            show 0 + (refc hp.1 hp.2).sum ≤ 1960
            omega
          e3 := fun h t m => by cases m
          c1 := by decide }
theorem Wd.vh {n C D : Nat} {s : Un} (w : Wd n C D (fun _ => 0) [] s) (hs : s.shelf = []) (h9 : ∀ (i o : Nat), s.refs[i]? = some o → o ≤ 9) : Vh s.heap where
  len := by show s.rows.length = s.refs.length; rw [w.lr, w.lf]
  n40 := by show s.rows.length ≤ 40; rw [w.lr]; exact w.n40
  rows := fun i r h xs e => by
    subst e
    refine ⟨w.rw i xs h, fun v m => ?_⟩
    show v < s.rows.length
    rw [w.lr]
    exact w.en i xs v h m
  nine := h9
  free := fun v h => by
    have : cnt s.rows v + outc s.refs v + 0 = 0 := w.fz v h
    show outc s.refs v + cnt s.rows v = 0
    omega
  live := fun v xs h => by
    show 1 ≤ outc s.refs v + cnt s.rows v
    by_cases e : tlv s (fun _ => 0) v = 0
    · rcases w.zl v ⟨xs, h⟩ e with z | z
      · rw [hs] at z
        cases z
      · cases z
    · have e2 : cnt s.rows v + outc s.refs v + 0 ≠ 0 := e
      omega
/-! lists without repetition -/
theorem nodup_sub : ∀ {l m : List Nat}, l.Nodup → (∀ x ∈ l, x ∈ m) → l.length ≤ m.length
  | [], m, _, _ => Nat.zero_le _
  | x :: r, m, nd, h => by
    obtain ⟨a, b, e⟩ := List.append_of_mem (h x (List.mem_cons_self ..))
    have nd2 := List.nodup_cons.mp nd
    have h2 : r.length ≤ (a ++ b).length := nodup_sub nd2.2 fun y hy => by
      have h1 := h y (List.mem_cons_of_mem _ hy)
      rw [e] at h1
      rcases List.mem_append.mp h1 with z | z
      · exact List.mem_append_left _ z
      · rcases List.mem_cons.mp z with z | z
        · subst z
          exact absurd hy nd2.1
        · exact List.mem_append_right _ z
    rw [e]
    simp only [List.length_append, List.length_cons] at h2 ⊢
    omega
theorem filter_two (p : Nat → Bool) : ∀ l : List Nat, (l.filter p).length + (l.filter fun v => !p v).length = l.length
  | [] => rfl
  | x :: r => by
    have ih := filter_two p r
    cases e : p x with
    | true =>
      simp only [List.filter_cons, e, if_true, Bool.not_true, Bool.false_eq_true, if_false, List.length_cons]
      omega
    | false =>
      simp only [List.filter_cons, e, if_true, Bool.not_false, Bool.false_eq_true, if_false, List.length_cons]
      omega
theorem mem_freeN {rs : List Row} {v : Nat} : v ∈ freeN rs ↔ rs[v]? = some none := by
  unfold freeN
  rw [mem_picks]
  constructor
  · rintro ⟨h1, h2⟩
    have hg := List.getElem?_eq_getElem h1
    cases e : rs[v] with
    | none => rw [e] at hg; exact hg
    | some xs =>
      rw [e] at hg
      rw [liveB_some hg] at h2
      cases h2
  · intro h
    exact ⟨(List.getElem?_eq_some_iff.mp h).1, by rw [liveB_none h]; rfl⟩
theorem freeN_nd (rs : List Row) : (freeN rs).Nodup := (picks_sorted _ _).imp fun h => Nat.ne_of_lt h
theorem free_len {rs : List Row} {fr : List Nat} (nd : fr.Nodup) (h : ∀ v, v ∈ fr ↔ rs[v]? = some none) : (liveN rs).length + fr.length = rs.length := by
  have h1 := filter_two (liveB rs) (List.range rs.length)
  rw [List.length_range] at h1
  have h2 : fr.length ≤ (freeN rs).length := nodup_sub nd fun v hv => mem_freeN.mpr ((h v).mp hv)
  have h3 : (freeN rs).length ≤ fr.length := nodup_sub (freeN_nd rs) fun v hv => (h v).mpr (mem_freeN.mp hv)
  have e1 : (liveN rs).length = ((List.range rs.length).filter (liveB rs)).length := rfl
  have e2 : (freeN rs).length = ((List.range rs.length).filter fun v => !liveB rs v).length := rfl
  omega
/-! a store at every moment -/
structure SI (b0 : Nat) (ss : SS) : Prop where
  vh : Vh ss.hp
  fn : ss.fr.Nodup
  ff : ∀ v, v ∈ ss.fr ↔ ss.hp.1[v]? = some none
  cs : ss.cd.Pairwise (· < ·)
  cl : ∀ v ∈ ss.cd, Live ss.hp.1 v
  bk : b0 + (ss.don.filter (·.1)).length = (liveN ss.hp.1).length + (logs ss.don).length
  l1 : 1 ≤ ss.lim
  l2 : ss.lim ≤ 10 ^ 30
  lz : (logs ss.don).length ≤ 40 * ss.don.length
theorem logs_app (a : List (Bool × List Nat)) (b : Bool) (l : List Nat) : logs (a ++ [(b, l)]) = logs a ++ l := by simp [logs]
theorem SI.start {hp : Hv} {B : Int} (V : Vh hp) (h1 : 1 ≤ B) (h2 : B ≤ 10 ^ 30) : SI (liveN hp.1).length ⟨hp, B, freeN hp.1, liveN hp.1, []⟩ where
  vh := V
  fn := freeN_nd _
  ff := fun v => mem_freeN
  cs := picks_sorted _ _
  cl := fun v hv => mem_liveN.mp hv
  bk := rfl
  l1 := h1
  l2 := h2
  lz := Nat.le_refl _
section
variable {b0 C D : Nat} {ss : SS} {s' : Un}
theorem SI.frl (i : SI b0 ss) : (liveN ss.hp.1).length + ss.fr.length = ss.hp.1.length := free_len i.fn i.ff
theorem stl_len : ∀ evs : List (Option (Nat × Nat)), (stl evs).length ≤ nst evs
  | [] => Nat.le_refl _
  | none :: r => stl_len r
  | some (h, t) :: r => by
    have ih := stl_len r
    have e : nst (some (h, t) :: r) = nst r + 1 := rfl
    by_cases ht : 0 < t
    · have e2 : stl (some (h, t) :: r) = h :: stl r := by
        show (List.filterMap _ _) = _
        rw [List.filterMap_cons]
        simp only [if_pos ht]
        rfl
      rw [e, e2]
      simp only [List.length_cons]
      omega
    · have e2 : stl (some (h, t) :: r) = stl r := by
        show (List.filterMap _ _) = _
        rw [List.filterMap_cons]
        simp only [if_neg ht]
        rfl
      rw [e, e2]
      omega
theorem stl_mem {evs : List (Option (Nat × Nat))} {v : Nat} (h : v ∈ stl evs) : ∃ t, some (v, t) ∈ evs := by
  unfold stl at h
  obtain ⟨e, h1, h2⟩ := List.mem_filterMap.mp h
  cases e with
  | none => cases h2
  | some p =>
    obtain ⟨a, t⟩ := p
    dsimp only at h2
    split at h2
    · cases h2
      exact ⟨t, h1⟩
    · cases h2
theorem SI.runOk (i : SI b0 ss) (w : Wd ss.hp.1.length C D (fun _ => 0) [] s') (hD : D ≤ 3900) (hd : ss.don.length < 1000) : RunOk ss s' := by
  have h40 := i.vh.n40
  have hb := w.evb
  have hlog := nodup_lt w.ln fun v hv => (w.lg v hv).1
  have he2 := w.e2
  have he1 := w.e1
  have hc1 := w.c1
  have hst := stl_len s'.evs
  have hcd : ss.cd.length ≤ ss.hp.1.length := nodup_lt (i.cs.imp fun h => Nat.ne_of_lt h) fun v hv => (i.cl v hv).lt
  have hfr := i.frl
  refine ⟨by rw [w.lr]; exact h40, fun c hc => by rw [w.lr]; exact (i.cl c hc).lt, fun c hc => ?_, by omega, by omega, by unfold big at hb; omega, hd, by omega, by omega⟩
  obtain ⟨t, ht⟩ := stl_mem hc
  rw [w.lr]
  exact w.e3 c t ht
theorem SI.run (i : SI b0 ss) (w : Wd ss.hp.1.length C D (fun _ => 0) [] s') (hs : s'.shelf = []) (lv : Lv (Un.start ss.hp) s') (h9 : ∀ (i o : Nat), s'.refs[i]? = some o → o ≤ 9) {cd' : List Nat} (hc1 : cd'.Pairwise (· < ·)) (hc2 : ∀ c ∈ cd', Live s'.rows c) : SI b0 (ss.run s' cd') := by
  obtain ⟨l, e1, e2, e3⟩ := lv.lg
  have el : s'.log = l := by rw [e1]; rfl
  have hfn : (s'.log.reverse ++ ss.fr).Nodup := by
    refine List.nodup_append.mpr ⟨List.pairwise_reverse.mpr (w.ln.imp fun h => Ne.symm h), i.fn, fun a ha b hb e => ?_⟩
    subst e
    rw [List.mem_reverse, el] at ha
    exact live_not (e2 a ha) ((i.ff a).mp hb)
  have hff : ∀ v, v ∈ s'.log.reverse ++ ss.fr ↔ s'.heap.1[v]? = some none := fun v => by
    rw [List.mem_append, List.mem_reverse, el, i.ff]
    show _ ↔ s'.rows[v]? = some none
    rw [e3]
    exact or_comm
  have h1 := free_len hfn hff
  have h2 := i.frl
  have hl : s'.heap.1.length = ss.hp.1.length := w.lr
  rw [List.length_append, List.length_reverse] at h1
  have hlog := nodup_lt w.ln fun v hv => (w.lg v hv).1
  have h40 := i.vh.n40
  exact { vh := w.vh hs h9, fn := hfn, ff := hff, cs := hc1, cl := hc2
          bk := by
            show b0 + ((ss.don ++ [(false, s'.log)]).filter (·.1)).length = (liveN s'.heap.1).length + (logs (ss.don ++ [(false, s'.log)])).length
            rw [logs_app, List.filter_append, List.length_append, List.length_append]
            have := i.bk
            have e : ([(false, s'.log)].filter (·.1)).length = 0 := rfl
            omega
          l1 := i.l1, l2 := i.l2
          lz := by
            show (logs (ss.don ++ [(false, s'.log)])).length ≤ 40 * (ss.don ++ [(false, s'.log)]).length
            rw [logs_app, List.length_append, List.length_append]
            have := i.lz
            simp only [List.length_cons, List.length_nil]
            omega }
end
end Sf
/-! The plain law of a store: each action. -/
namespace Sf
section
variable {b0 : Nat} {ss : SS}
theorem outc_ge {os : List Nat} {v : Nat} (h : os.length ≤ v) : outc os v = 0 := by
  unfold outc
  rw [List.getElem?_eq_none h]
  rfl
theorem cnt_snoc (rs : List Row) (u : Nat) : cnt (rs ++ [none]) u = cnt rs u := by
  unfold cnt
  rw [List.map_append, List.sum_append]
  simp [occr]
theorem outc_snoc (os : List Nat) (u : Nat) : outc (os ++ [0]) u = outc os u := by
  unfold outc
  by_cases h : u < os.length
  · rw [List.getElem?_append_left h]
  · rw [List.getElem?_append_right (by omega), List.getElem?_eq_none (show os.length ≤ u by omega)]
    by_cases e : u - os.length = 0
    · rw [e]
      rfl
    · rw [List.getElem?_eq_none (by simp; omega)]
theorem SI.node_facts (i : SI b0 ss) (h40 : (liveN ss.hp.1).length < 40) : let v := ss.node
    v < (rows1 ss.hp.1 v).length ∧ (rows1 ss.hp.1 v).length ≤ 40 ∧ ss.hp.1.length ≤ (rows1 ss.hp.1 v).length ∧ (rows1 ss.hp.1 v)[v]? = some none ∧ (outs1 ss.hp.1 ss.hp.2 v).length = (rows1 ss.hp.1 v).length ∧
    (∀ u, cnt (rows1 ss.hp.1 v) u = cnt ss.hp.1 u) ∧ (∀ u, outc (outs1 ss.hp.1 ss.hp.2 v) u = outc ss.hp.2 u) ∧ (∀ u, u ≠ v → (rows1 ss.hp.1 v)[u]? = ss.hp.1[u]?) ∧
    outc ss.hp.2 v + cnt ss.hp.1 v = 0 ∧ ss.fr.tail.Nodup ∧ (∀ u, u ∈ ss.fr.tail ↔ ss.hp.1[u]? = some none ∧ u ≠ v) ∧ (rows1 ss.hp.1 v).length = (liveN ss.hp.1).length + 1 + ss.fr.tail.length := by
  intro v
  have hfl := i.frl
  have hn := i.vh.n40
  have hl := i.vh.len
  cases hf : ss.fr with
  | nil =>
    have ev : v = ss.hp.1.length := by show ss.node = _; unfold SS.node; rw [hf]
    rw [hf] at hfl
    simp only [List.length_nil] at hfl
    have er : rows1 ss.hp.1 v = ss.hp.1 ++ [none] := by unfold rows1; rw [if_pos ev]
    have eo : outs1 ss.hp.1 ss.hp.2 v = ss.hp.2 ++ [0] := by unfold outs1; rw [if_pos ev]
    rw [er, eo]
    refine ⟨by simp; omega, by simp; omega, by simp, ?_, by simp; omega, cnt_snoc _, outc_snoc _, fun u hu => ?_, ?_, List.nodup_nil, fun u => ?_, by simp; omega⟩
    · rw [ev]
      simp
    · by_cases h : u < ss.hp.1.length
      · rw [List.getElem?_append_left h]
      · rw [List.getElem?_eq_none (by simp; omega), List.getElem?_eq_none (by omega)]
    · rw [outc_ge (by omega), Nat.zero_add]
      refine cnt_eq_zero.mpr fun j xs hj m => ?_
      have := (i.vh.rows j _ hj xs rfl).2 v m
      omega
    · constructor
      · intro h
        cases h
      · rintro ⟨h, _⟩
        have := (i.ff u).mpr h
        rw [hf] at this
        cases this
  | cons x r =>
    have ev : v = x := by show ss.node = _; unfold SS.node; rw [hf]
    have hx : ss.hp.1[v]? = some none := (i.ff v).mp (by rw [hf, ev]; exact List.mem_cons_self ..)
    have hxl := (List.getElem?_eq_some_iff.mp hx).1
    have hne : ¬ v = ss.hp.1.length := by omega
    have er : rows1 ss.hp.1 v = ss.hp.1 := by unfold rows1; rw [if_neg hne]
    have eo : outs1 ss.hp.1 ss.hp.2 v = ss.hp.2 := by unfold outs1; rw [if_neg hne]
    have nd : (x :: r).Nodup := by rw [← hf]; exact i.fn
    have nd2 := List.nodup_cons.mp nd
    rw [hf] at hfl
    simp only [List.length_cons] at hfl
    rw [er, eo]
    refine ⟨hxl, hn, Nat.le_refl _, hx, hl.symm, fun _ => rfl, fun _ => rfl, fun _ _ => rfl, i.vh.free v hx, nd2.2, fun u => ?_, by simp only [List.tail_cons]; omega⟩
    rw [← i.ff u, hf, ev]
    simp only [List.tail_cons, List.mem_cons]
    constructor
    · intro h
      exact ⟨.inr h, fun e => nd2.1 (e ▸ h)⟩
    · rintro ⟨h | h, hne⟩
      · exact absurd h hne
      · exact h
theorem SI.new (i : SI b0 ss) {w : Nat} (hw : w ≤ 40) (h40 : (liveN ss.hp.1).length < 40) : SI b0 ⟨withNode ss.hp ss.node w, ss.lim, ss.fr.tail, ss.cd, ss.don ++ [(true, [])]⟩ := by
  obtain ⟨f1, f2, f3, f4, f5, f6, f7, f8, f9, f10, f11, f12⟩ := i.node_facts h40
  have V := i.vh
  generalize hv : ss.node = v at *
  have hrs : (withNode ss.hp v w).1 = (rows1 ss.hp.1 v).set v (some (List.replicate w none)) := rfl
  have hos : (withNode ss.hp v w).2 = (outs1 ss.hp.1 ss.hp.2 v).set v 1 := rfl
  have hc : ∀ u, cnt ((rows1 ss.hp.1 v).set v (some (List.replicate w none))) u = cnt ss.hp.1 u := fun u => by
    have h1 := cnt_set (r' := some (List.replicate w none)) f4 u
    have h2 := f6 u
    have h3 : occr (some (List.replicate w none)) u = 0 := occ_none (fun e he => (List.mem_replicate.mp he).2) u
    have h4 : occr none u = 0 := rfl
    omega
  have ho : ∀ u, u ≠ v → outc ((outs1 ss.hp.1 ss.hp.2 v).set v 1) u = outc ss.hp.2 u := fun u hu => by
    rw [← f7 u]
    unfold outc
    rw [List.getElem?_set, if_neg (Ne.symm hu)]
  have hov : outc ((outs1 ss.hp.1 ss.hp.2 v).set v 1) v = 1 := by
    unfold outc
    rw [List.getElem?_set, if_pos rfl, if_pos (by omega)]
    rfl
  have getv : ((rows1 ss.hp.1 v).set v (some (List.replicate w none)))[v]? = some (some (List.replicate w none)) := by
    rw [List.getElem?_set, if_pos rfl, if_pos f1]
  have get : ∀ u, u ≠ v → ((rows1 ss.hp.1 v).set v (some (List.replicate w none)))[u]? = ss.hp.1[u]? := fun u hu => by
    rw [List.getElem?_set, if_neg (Ne.symm hu), f8 u hu]
  have hff : ∀ u, u ∈ ss.fr.tail ↔ (withNode ss.hp v w).1[u]? = some none := fun u => by
    rw [hrs, f11]
    by_cases e : u = v
    · subst e
      rw [getv]
      simp
    · rw [get u e]
      simp [e]
  have hfl := free_len f10 hff
  rw [hrs, List.length_set] at hfl
  exact { vh := { len := by rw [hrs, hos, List.length_set, List.length_set]; exact f5.symm
                  n40 := by rw [hrs, List.length_set]; exact f2
                  rows := fun u r h xs e => by
                    rw [hrs] at h ⊢
                    rw [List.length_set]
                    by_cases eu : u = v
                    · subst eu
                      rw [getv] at h
                      cases h
                      cases e
                      exact ⟨by simp; exact hw, fun x hx => by
                        have := (List.mem_replicate.mp hx).2
                        cases this⟩
                    · rw [get u eu] at h
                      obtain ⟨a, b⟩ := V.rows u r h xs e
                      exact ⟨a, fun x hx => Nat.lt_of_lt_of_le (b x hx) f3⟩
                  nine := fun u o h => by
                    have e : outc (withNode ss.hp v w).2 u = o := outs_of h
                    rw [hos] at e
                    by_cases eu : u = v
                    · rw [eu, hov] at e
                      omega
                    · rw [ho u eu] at e
                      by_cases hl : u < ss.hp.2.length
                      · exact V.nine u o (by rw [← e]; exact outc_at hl)
                      · rw [outc_ge (by omega)] at e
                        omega
                  free := fun u h => by
                    rw [hrs] at h ⊢
                    rw [hos]
                    have eu : u ≠ v := by
                      rintro rfl
                      rw [getv] at h
                      cases h
                    rw [get u eu] at h
                    rw [ho u eu, hc]
                    exact V.free u h
                  live := fun u xs h => by
                    rw [hrs] at h ⊢
                    rw [hos, hc]
                    by_cases eu : u = v
                    · rw [eu, hov]
                      omega
                    · rw [get u eu] at h
                      rw [ho u eu]
                      exact V.live u xs h }
          fn := f10, ff := hff, cs := i.cs
          cl := fun u hu => by
            have h := i.cl u hu
            rw [hrs]
            by_cases eu : u = v
            · rw [eu]
              exact ⟨_, getv⟩
            · exact live_eq (get u eu) h
          bk := by
            show b0 + ((ss.don ++ [(true, [])]).filter (fun p : Bool × List Nat => p.1)).length = (liveN ((rows1 ss.hp.1 v).set v (some (List.replicate w none)))).length + (logs (ss.don ++ [(true, [])])).length
            rw [logs_app, List.append_nil, List.filter_append, List.length_append]
            have := i.bk
            have e : ([((true, []) : Bool × List Nat)].filter (fun p : Bool × List Nat => p.1)).length = 1 := rfl
            omega
          l1 := i.l1, l2 := i.l2
          lz := by
            show (logs (ss.don ++ [(true, [])])).length ≤ 40 * (ss.don ++ [(true, [])]).length
            rw [logs_app, List.append_nil, List.length_append]
            have := i.lz
            simp only [List.length_cons, List.length_nil]
            omega }
theorem SI.hold (i : SI b0 ss) {v : Nat} (hl : Live ss.hp.1 v) (h9 : outc ss.hp.2 v ≠ 9) : SI b0 ⟨withRef ss.hp v, ss.lim, ss.fr, ss.cd, ss.don ++ [(false, [])]⟩ := by
  have V := i.vh
  have hv : v < ss.hp.2.length := by rw [← V.len]; exact hl.lt
  have ho : ∀ u, u ≠ v → outc (ss.hp.2.set v (outc ss.hp.2 v + 1)) u = outc ss.hp.2 u := fun u hu => by
    unfold outc
    rw [List.getElem?_set, if_neg (Ne.symm hu)]
  have hov : outc (ss.hp.2.set v (outc ss.hp.2 v + 1)) v = outc ss.hp.2 v + 1 := by
    show (((ss.hp.2.set v (outc ss.hp.2 v + 1))[v]?).getD 0) = _
    rw [List.getElem?_set, if_pos rfl, if_pos hv]
    rfl
  exact { vh := { len := by show ss.hp.1.length = (ss.hp.2.set v _).length; rw [List.length_set]; exact V.len
                  n40 := V.n40, rows := V.rows
                  nine := fun u o h => by
                    have e : outc (ss.hp.2.set v (outc ss.hp.2 v + 1)) u = o := outs_of h
                    by_cases eu : u = v
                    · rw [eu, hov] at e
                      have := V.nine v _ (outc_at hv)
                      omega
                    · rw [ho u eu] at e
                      by_cases hl : u < ss.hp.2.length
                      · exact V.nine u o (by rw [← e]; exact outc_at hl)
                      · rw [outc_ge (by omega)] at e
                        omega
                  free := fun u h => by
                    have eu : u ≠ v := by
                      rintro rfl
                      exact live_not hl h
                    show outc (ss.hp.2.set v _) u + cnt ss.hp.1 u = 0
                    rw [ho u eu]
                    exact V.free u h
                  live := fun u xs h => by
                    show 1 ≤ outc (ss.hp.2.set v _) u + cnt ss.hp.1 u
                    by_cases eu : u = v
                    · rw [eu, hov]
                      omega
                    · rw [ho u eu]
                      exact V.live u xs h }
          fn := i.fn, ff := i.ff, cs := i.cs, cl := i.cl
          bk := by
            show b0 + ((ss.don ++ [(false, [])]).filter (fun p : Bool × List Nat => p.1)).length = (liveN ss.hp.1).length + (logs (ss.don ++ [(false, [])])).length
            rw [logs_app, List.append_nil, List.filter_append, List.length_append]
            have := i.bk
            have e : ([((false, []) : Bool × List Nat)].filter (fun p : Bool × List Nat => p.1)).length = 0 := rfl
            omega
          l1 := i.l1, l2 := i.l2
          lz := by
            show (logs (ss.don ++ [(false, [])])).length ≤ 40 * (ss.don ++ [(false, [])]).length
            rw [logs_app, List.append_nil, List.length_append]
            have := i.lz
            simp only [List.length_cons, List.length_nil]
            omega }
theorem SI.setLim (i : SI b0 ss) {B : Int} (h1 : 1 ≤ B) (h2 : B ≤ 10 ^ 30) : SI b0 ⟨ss.hp, B, ss.fr, ss.cd, ss.don ++ [(false, [])]⟩ :=
  { vh := i.vh, fn := i.fn, ff := i.ff, cs := i.cs, cl := i.cl
    bk := by
      show b0 + ((ss.don ++ [(false, [])]).filter (fun p : Bool × List Nat => p.1)).length = (liveN ss.hp.1).length + (logs (ss.don ++ [(false, [])])).length
      rw [logs_app, List.append_nil, List.filter_append, List.length_append]
      have := i.bk
      have e : ([((false, []) : Bool × List Nat)].filter (fun p : Bool × List Nat => p.1)).length = 0 := rfl
      omega
    l1 := h1, l2 := h2
    lz := by
      show (logs (ss.don ++ [(false, [])])).length ≤ 40 * (ss.don ++ [(false, [])]).length
      rw [logs_app, List.append_nil, List.length_append]
      have := i.lz
      simp only [List.length_cons, List.length_nil]
      omega }
/-- what a run of a store gives -/
def RunIn (b0 : Nat) (ss : SS) (s' : Un) : Prop := RunOk ss s' ∧ s'.rows.length ≤ 40 ∧ ∀ cd', cd'.Pairwise (· < ·) → (∀ c ∈ cd', Live s'.rows c) → SI b0 (ss.run s' cd')
theorem SI.runIn (i : SI b0 ss) {C D : Nat} {s' : Un} (w : Wd ss.hp.1.length C D (fun _ => 0) [] s') (hs : s'.shelf = []) (lv : Lv (Un.start ss.hp) s') (h9 : ∀ (i o : Nat), s'.refs[i]? = some o → o ≤ 9) (hD : D ≤ 3900) (hd : ss.don.length < 1000) : RunIn b0 ss s' :=
  ⟨i.runOk w hD hd, by rw [w.lr]; exact i.vh.n40, fun cd' h1 h2 => i.run w hs lv h9 h1 h2⟩
theorem SI.drop (i : SI b0 ss) {B : Int} {v : Nat} (hl : Live ss.hp.1 v) (ho : 0 < outc ss.hp.2 v) (hd : ss.don.length < 1000) : ∃ s', dropO B (Un.start ss.hp) v = some s' ∧ RunIn b0 ss s' := by
  obtain ⟨s', q, w, hs, lv, hr⟩ := dropO_ok (B := B) (start_ok i.vh) hl.lt ho rfl
  refine ⟨s', q, i.runIn w hs lv (fun j o h => ?_) (by decide) hd⟩
  rw [hr] at h
  have e := outs_of h
  by_cases ej : v = j
  · subst ej
    have hv : v < ss.hp.2.length := by rw [← i.vh.len]; exact hl.lt
    have hv2 : v < (Un.start ss.hp).refs.length := hv
    have := i.vh.nine v _ (outc_at hv)
    unfold outc at e
    rw [List.getElem?_set, if_pos rfl, if_pos hv2] at e
    have e2 : outc ss.hp.2 v - 1 = o := e
    omega
  · rw [List.getElem?_set, if_neg ej] at h
    exact i.vh.nine j o h
theorem SI.put (i : SI b0 ss) {B : Int} {v j : Nat} {xs : List (Option Nat)} {g : Option Nat} (hx : ss.hp.1[v]? = some (some xs)) (hj : j < xs.length) (hg : ∀ u, g = some u → Live ss.hp.1 u) (hd : ss.don.length < 1000) : ∃ s', fillS B (Un.start ss.hp) v j g = some s' ∧ RunIn b0 ss s' := by
  obtain ⟨s', q, w, hs, p⟩ := fillS_ok (B := B) (g := g) (start_ok i.vh) hx (List.getElem?_eq_getElem hj) hg (fun _ => by decide) rfl
  have w2 : Wd ss.hp.1.length 5883 1961 (fun _ => 0) [] s' := w.more (by split <;> decide) (by split <;> decide) (by decide)
  refine ⟨s', q, i.runIn w2 hs ((lv_setR (s := Un.start ss.hp) hx).trans p.lv) (fun j o h => ?_) (by decide) hd⟩
  rw [p.rf] at h
  exact i.vh.nine j o h
theorem SI.empty (i : SI b0 ss) {B : Int} {v : Nat} (hl : Live ss.hp.1 v) (hd : ss.don.length < 1000) : ∃ s', strip B (Un.start ss.hp) v = some s' ∧ RunIn b0 ss s' := by
  obtain ⟨s', q, w, hs, lv, hr⟩ := strip_ok (B := B) (start_ok i.vh) hl rfl (by decide)
  refine ⟨s', q, i.runIn w hs lv (fun j o h => ?_) (by decide) hd⟩
  rw [hr] at h
  exact i.vh.nine j o h
theorem SI.sweep (i : SI b0 ss) {B : Int} {ns : List Nat} (hn : ∀ v ∈ ns, v < ss.hp.1.length) (hl : ns.length ≤ 40) (hd : ss.don.length < 1000) : ∃ s', stripAll B ns (Un.start ss.hp) = some s' ∧ RunIn b0 ss s' := by
  obtain ⟨s', q, w, hs, lv, hr⟩ := stripAll_ok (B := B) ns 5880 1960 _ (start_ok i.vh) hn rfl (by omega)
  refine ⟨s', q, i.runIn w hs lv (fun j o h => ?_) (by omega) hd⟩
  rw [hr] at h
  exact i.vh.nine j o h
end
/-! ascending lists -/
theorem asc_ext : ∀ {l m : List Int}, l.Pairwise (· < ·) → m.Pairwise (· < ·) → (∀ x, x ∈ l ↔ x ∈ m) → l = m
  | [], [], _, _, _ => rfl
  | [], y :: q, _, _, h => by
    have := (h y).mpr (List.mem_cons_self ..)
    cases this
  | x :: r, [], _, _, h => by
    have := (h x).mp (List.mem_cons_self ..)
    cases this
  | x :: r, y :: q, p1, p2, h => by
    have a1 := List.pairwise_cons.mp p1
    have a2 := List.pairwise_cons.mp p2
    have e : x = y := by
      rcases List.mem_cons.mp ((h x).mp (List.mem_cons_self ..)) with z | z
      · exact z
      · rcases List.mem_cons.mp ((h y).mpr (List.mem_cons_self ..)) with z2 | z2
        · exact z2.symm
        · have := a2.1 x z
          have := a1.1 y z2
          omega
    subst e
    rw [asc_ext a1.2 a2.2 fun z => ?_]
    constructor
    · intro hz
      rcases List.mem_cons.mp ((h z).mp (List.mem_cons_of_mem _ hz)) with e | e
      · subst e
        have := a1.1 z hz
        omega
      · exact e
    · intro hz
      rcases List.mem_cons.mp ((h z).mpr (List.mem_cons_of_mem _ hz)) with e | e
      · subst e
        have := a2.1 z hz
        omega
      · exact e
theorem asc_cast {l : List Nat} (h : l.Pairwise (· < ·)) : (l.map fun n : Nat => (n : Int)).Pairwise (· < ·) := List.pairwise_map.mpr (h.imp fun h => by omega)
theorem nd_cast {l : List Nat} (h : l.Nodup) : (l.map fun n : Nat => (n : Int)).Nodup := List.pairwise_map.mpr (h.imp fun h e => h (by omega))
theorem lt_of_le_nd {l : List Int} (h : l.Pairwise (· ≤ ·)) (nd : l.Nodup) : l.Pairwise (· < ·) := by
  have := List.Pairwise.and h nd
  exact this.imp fun ⟨a, b⟩ => by omega
end Sf
/-! the law's own: pen, draw, shuffled -/
namespace Sf
open PySem PySem.Spec PyProof.Rows L2 Evl
local macro_rules | `(tactic| walk_at "hx") => `(tactic| first | assumption | exact upd_same | (with_reducible refine upd_fr ?_ (by assumption); walk_at "hx") | (refine ex_get (by assumption) ?_; walk_at "hx"))
local macro_rules | `(tactic| walk_at "ex") => `(tactic| first | assumption | exact Ex.refl _ | (with_reducible refine ex_new ?_ (by assumption); walk_at "ex") | (refine Ex.trans ?_ (by assumption); walk_at "ex"))
local macro_rules | `(tactic| walk_at "sqT") => `(tactic| first | (with_reducible assumption) | exact st_of (by walk_at "hx"))
local macro_rules | `(tactic| walk_at "sqL") => `(tactic| first | (with_reducible assumption) | exact sq_of (by walk_at "hx"))
local macro_rules | `(tactic| walk_at "sq") => `(tactic| first | (with_reducible assumption) | exact st_of (by walk_at "hx") | exact sq_of (by walk_at "hx"))
local macro_rules | `(tactic| walk_at "ty") => `(tactic| first | exact TyX.base (.int _) | exact TyX.base .non | exact TyX.base (.bl _) | exact TyX.base (.str _) | exact TyX.base (.tup (by walk_at "hx")) | exact TyX.base (.lst (by walk_at "hx")))
local macro_rules | `(tactic| walk_at "rd1") => `(tactic| first
  | with_reducible refine rd_seq ?_
  | ((with_reducible refine' rd_var ?h ?_); (case h => exact rfl))
  | with_reducible refine rd_c ?_
  | with_reducible refine rd_op ?_
  | with_reducible refine rd_un ?_
  | with_reducible refine rd_CB ?_
  | with_reducible refine rd_call ?_
  | with_reducible refine rd_cons ?_
  | with_reducible refine rd_nil ?_
  | with_reducible refine rd_I0 ?_
  | with_reducible refine rd_U ?_
  | with_reducible refine rd_ret ?_
  | with_reducible refine rd_retN ?_
  | with_reducible refine rd_next ?_
  | with_reducible refine rd_asg ?_
  | with_reducible refine rd_gName ?_
  | with_reducible refine rd_drop ?_
  | with_reducible refine rd_ifS ?_
  | with_reducible refine rd_test ?_
  | with_reducible refine rd_B ?_
  | with_reducible refine rd_notT ?_
  | with_reducible refine rd_andT ?_
  | with_reducible refine rd_orT ?_
  | with_reducible refine rd_andV ?_
  | with_reducible refine rd_orV ?_
  | with_reducible refine rd_notV ?_
  | with_reducible refine rd_ifE ?_
  | with_reducible refine rd_chain ?_
  | with_reducible refine rd_tup ?_
  | with_reducible refine rd_lst ?_
  | with_reducible refine rd_k ?_
  | with_reducible refine rd_eqS rfl ?_
  | with_reducible refine rd_neS rfl ?_
  | ((with_reducible refine rd_and (small40 (Nat.le_of_ble_eq_true rfl)) ?_); intro _ _)
  | (with_reducible refine' rd_isiT2 (k := "tuple") ?ty ?hx kb_tl kb_tt ?_; (case ty => walk_at "ty"); (case hx => walk_at "hx"))
  | with_reducible refine us_is_integer ?_
  | with_reducible refine us_is_between ?_
  | ((with_reducible refine' rd_ixT0 ?sq ?g ?_); (case sq => walk_at "sqT"); (case g => first | exact rfl | assumption))
  | ((with_reducible refine' rd_ixT1 ?sq ?g ?_); (case sq => walk_at "sqT"); (case g => first | exact rfl | assumption))
  | ((with_reducible refine' rd_ixT2 ?sq ?g ?_); (case sq => walk_at "sqT"); (case g => first | exact rfl | assumption))
  | ((with_reducible refine' rd_ixT3 ?sq ?g ?_); (case sq => walk_at "sqT"); (case g => first | exact rfl | assumption))
  | ((with_reducible refine' rd_ixT4 ?sq ?g ?_); (case sq => walk_at "sqT"); (case g => first | exact rfl | assumption))
  | ((with_reducible refine' rd_ixL0 ?sq ?g ?_); (case sq => walk_at "sqL"); (case g => first | exact rfl | assumption))
  | ((with_reducible refine' rd_ixL1 ?sq ?g ?_); (case sq => walk_at "sqL"); (case g => first | exact rfl | assumption))
  | ((with_reducible refine' rd_ixL2 ?sq ?g ?_); (case sq => walk_at "sqL"); (case g => first | exact rfl | assumption))
  | ((with_reducible refine' rd_ixT ?sq ?g ?_); (case sq => walk_at "sqT"); (case g => first | assumption | exact rfl))
  | ((with_reducible refine' rd_ixL ?sq ?g ?_); (case sq => walk_at "sqL"); (case g => first | assumption | exact rfl))
  | with_reducible refine rd_sl ?_
  | with_reducible refine rd_noPart ?_
  | with_reducible refine rd_part ?_
  | with_reducible refine rd_pt1 ?_
  | with_reducible refine rd_make ?_
  | with_reducible refine rd_callN ?_
  | with_reducible refine rd_makeN ?_
  | with_reducible refine rd_revT ?_
  | with_reducible refine rd_dc ?_
  | with_reducible refine rd_notinD ?_
  | with_reducible refine rd_inD ?_
  | with_reducible refine rd_dget ?_
  | with_reducible refine rd_dput ?_
  | ((with_reducible refine' rd_fld1 ?h ?c ?n ?l ?_); (case h => walk_at "hx"); (case c => first | exact Tx.c_Unwinding (by assumption) | exact Tx.c_Store (by assumption)); (case n => first | exact Tx.n_Unwinding_rows (by assumption) | exact Tx.n_Unwinding_references (by assumption) | exact Tx.n_Unwinding_tallies (by assumption) | exact Tx.n_Unwinding_bound (by assumption) | exact Tx.n_Unwinding_log (by assumption) | exact Tx.n_Unwinding_shelf (by assumption) | exact Tx.n_Unwinding_peak (by assumption) | exact Tx.n_Unwinding_events (by assumption) | exact Tx.n_Store_snapshots (by assumption) | exact Tx.n_Store_recorded (by assumption) | exact Tx.n_Store_observer (by assumption) | exact Tx.n_Store_is_busy (by assumption)); (case l => exact rfl))
  | ((with_reducible refine' rd_sFld1 ?h ?c ?n ?l ?_); (case h => walk_at "hx"); (case c => first | exact Tx.c_Unwinding (by assumption) | exact Tx.c_Store (by assumption)); (case n => first | exact Tx.n_Unwinding_rows (by assumption) | exact Tx.n_Unwinding_references (by assumption) | exact Tx.n_Unwinding_tallies (by assumption) | exact Tx.n_Unwinding_bound (by assumption) | exact Tx.n_Unwinding_log (by assumption) | exact Tx.n_Unwinding_shelf (by assumption) | exact Tx.n_Unwinding_peak (by assumption) | exact Tx.n_Unwinding_events (by assumption) | exact Tx.n_Store_snapshots (by assumption) | exact Tx.n_Store_recorded (by assumption) | exact Tx.n_Store_observer (by assumption) | exact Tx.n_Store_is_busy (by assumption)); (case l => exact Nat.le_of_ble_eq_true rfl))
  | ((with_reducible refine' rd_meth1 ?h ?l ?_); (case h => walk_at "hx"); (case l => exact rfl))
  | ((with_reducible refine' rd_and (rd_tyL ?h) ?_); (case h => walk_at "hx"))
  | ((with_reducible refine' rd_rng1 ?hn ?_); (case hn => first | omega | (simp; omega)))
  | with_reducible refine rd_nx ?_
  | with_reducible refine rd_rt ?_
  | with_reducible refine rd_ct ?_
  | with_reducible refine rd_bk ?_
  | ((with_reducible refine' rd_isi ?ty ?kb ?_); (case ty => walk_at "ty"); (case kb => first | exact kb_ii | exact kb_ib | exact kb_tt | exact kb_tl | exact kb_ss | exact kb_nt))
  | with_reducible refine rd_for ?_
  | with_reducible refine rd_iTup ?_
  | with_reducible refine rd_iList ?_
  | with_reducible refine rd_iRng1 ?_
  | with_reducible refine rd_iRng2 ?_
  | with_reducible refine rd_iEnumT ?_
  | with_reducible refine rd_iEnum ?_
  | with_reducible refine rd_lc ?_
  | with_reducible refine rd_yes ?_
  | ((with_reducible refine' rd_gTup ?sq ?n ?_); (case sq => walk_at "sqT"); (case n => exact rfl))
  | with_reducible refine rd_gCons ?_
  | with_reducible refine rd_gNil ?_
  | with_reducible refine rd_fld ?_
  | with_reducible refine rd_meth ?_
  | with_reducible refine rd_sFld ?_
  | with_reducible refine rd_BM ?_
  | with_reducible refine rd_BM0 ?_
  | ((with_reducible refine' rd_orRow ?h (by assumption) ?_); (case h => exact rfl))
  | with_reducible refine rd_augS ?_
  | with_reducible refine rd_ip ?_
  | with_reducible refine rd_gSub ?_
  | ((with_reducible refine' rd_aug ?h ?_); (case h => exact rfl))
  | with_reducible refine rd_par ?_
  | with_reducible refine rd_par1 ?_
  | ((with_reducible refine' rd_lenT ?sq ?_); (case sq => exact st_of (by walk_at "hx")))
  | ((with_reducible refine' rd_lenL ?sq ?_); (case sq => exact sq_of (by walk_at "hx")))
  | ((with_reducible refine' rd_itt ?sq ?_); (case sq => walk_at "sqT"))
  | ((with_reducible refine' rd_itl ?sq ?_); (case sq => walk_at "sqL"))
  | ((with_reducible refine' rd_enumT ?sq ?_); (case sq => walk_at "sqT"))
  | ((with_reducible refine' rd_enumL ?sq ?_); (case sq => walk_at "sqL"))
  | with_reducible refine rd_and rfl ?_
  | with_reducible refine if_t rfl ?_
  | with_reducible refine if_f rfl ?_)
local macro_rules | `(tactic| walk_at "rd") => `(tactic| repeat (walk_at "rd1"))
/-- a pen: a list of numbers, a place, what is left of a great one -/
def PenV (H : Hp) (p q : Addr) (N : Nat) : Prop := ∃ (ns : List Int) (pl lf : Nat), H p = some (.lst [.ref q, .int (pl : Int), .int (lf : Int)]) ∧ H q = some (.lst (ns.map V.int)) ∧ ns.length ≤ 63 ∧ pl ≤ N ∧ q ≠ p
/-- all but the place p stands -/
def FrP (p : Addr) (H H1 : Hp) : Prop := ∀ a o, a ≠ p → H a = some o → H1 a = some o
theorem FrP.ex {p : Addr} {H H1 : Hp} (e : Ex H H1) : FrP p H H1 := fun a o _ h => e a o h
theorem FrP.refl (p : Addr) (H : Hp) : FrP p H H := fun a o _ h => h
theorem FrP.trans {p : Addr} {H H1 H2 : Hp} (f : FrP p H H1) (g : FrP p H1 H2) : FrP p H H2 := fun a o n h => g a o n (f a o n h)
theorem PenV.mono {H : Hp} {p q : Addr} {N M : Nat} (h : PenV H p q N) (l : N ≤ M) : PenV H p q M := by
  obtain ⟨ns, pl, lf, h1, h2, h3, h4, h5⟩ := h
  exact ⟨ns, pl, lf, h1, h2, h3, by omega, h5⟩
theorem PenV.ex {H H1 : Hp} {p q : Addr} {N : Nat} (h : PenV H p q N) (e : Ex H H1) : PenV H1 p q N := by
  obtain ⟨ns, pl, lf, h1, h2, h3, h4, h5⟩ := h
  exact ⟨ns, pl, lf, e _ _ h1, e _ _ h2, h3, h4, h5⟩
theorem PenV.tk {H H1 : Hp} {p q : Addr} {N : Nat} (h : PenV H p q N) (f : FrP p H H1) : TupK H H1 := by
  obtain ⟨ns, pl, lf, h1, h2, h3, h4, h5⟩ := h
  exact fun a xs ha => f a _ (ne_of ha h1 (by intro z; cases z)) ha
theorem PenV.at {H : Hp} {p q : Addr} {N : Nat} (h : PenV H p q N) : ∃ xs, H p = some (.lst xs) := by
  obtain ⟨ns, pl, lf, h1, h2, h3, h4, h5⟩ := h
  exact ⟨_, h1⟩
theorem PenV.q {H : Hp} {p q : Addr} {N : Nat} (h : PenV H p q N) : ∃ xs, H q = some (.lst xs) := by
  obtain ⟨ns, pl, lf, h1, h2, h3, h4, h5⟩ := h
  exact ⟨_, h2⟩
/-- a place that is neither of the pen's -/
theorem PenV.off {H : Hp} {p q : Addr} {N : Nat} (h : PenV H p q N) {R : Addr} (hR : H R = none) : R ≠ p ∧ R ≠ q := by
  obtain ⟨_, h1⟩ := h.at
  obtain ⟨_, h2⟩ := h.q
  exact ⟨Ne.symm (ne_of_none h1 hR), Ne.symm (ne_of_none h2 hR)⟩
theorem PenV.set {H : Hp} {p q : Addr} {N : Nat} (h : PenV H p q N) {R : Addr} {o : HO} (n : R ≠ p ∧ R ≠ q) : PenV (upd H R o) p q N := by
  obtain ⟨ns, pl, lf, h1, h2, h3, h4, h5⟩ := h
  exact ⟨ns, pl, lf, by rw [upd_ne (Ne.symm n.1)]; exact h1, by rw [upd_ne (Ne.symm n.2)]; exact h2, h3, h4, h5⟩
theorem mod_nat (x : Int) {m : Nat} (h : 1 ≤ m) : ∃ r : Nat, r < m ∧ x % (m : Int) = (r : Int) := by
  have h1 := Int.emod_nonneg x (show (m : Int) ≠ 0 by omega)
  have h2 := Int.emod_lt_of_pos x (show (0 : Int) < (m : Int) by omega)
  exact ⟨(x % (m : Int)).toNat, by omega, by omega⟩
theorem div_nat {x : Int} (hx : 0 ≤ x) {m : Nat} (h : 1 ≤ m) : ∃ r : Nat, x / (m : Int) = (r : Int) := by
  have h1 := Int.ediv_nonneg hx (show (0 : Int) ≤ (m : Int) by omega)
  exact ⟨(x / (m : Int)).toNat, by omega⟩
def sp_l_pen (K : PySem.W.Frag) : Sp := fun vs H Q _ => match vs with
  | [x] => ∃ (a : Addr) (ns : List Int), x = .ref a ∧ SqL K H a (ns.map V.int) ∧ ∀ p q0 H', H p = none → H q0 = none → Ex H H' → PenV H' p q0 0 → Q (.ref p) H'
  | _ => False
def sp_l_draw : Sp := fun vs H Q _ => match vs with
  | [x, y] => ∃ (p q0 : Addr) (m N : Nat), x = .ref p ∧ y = .int (m : Int) ∧ PenV H p q0 N ∧ N ≤ 100000 ∧ 1 ≤ m ∧ m < 1073741824 ∧ ∀ (r : Nat) H', r < m → PenV H' p q0 (N + 1) → FrP p H H' → Q (.int (r : Int)) H'
  | _ => False
theorem us_draw {H : Hp} {Q : VK} {E : XK} {p q0 : Addr} {m N : Nat} (h : PenV H p q0 N) (h1 : N ≤ 100000) (h2 : 1 ≤ m) (h3 : m < 1073741824) (q : ∀ (r : Nat) H', r < m → PenV H' p q0 (N + 1) → FrP p H H' → Q (.int (r : Int)) H') : sp_l_draw [.ref p, .int (m : Int)] H Q E :=
  ⟨p, q0, m, N, rfl, rfl, h, h1, h2, h3, q⟩
theorem rd_cut {D : Ends} {a b : TS} {σ : L2.St} {H : Hp} (Mid : L2.St → Hp → Prop) (h : ∀ N' : L2.St → Hp → Prop, (∀ σ H, Mid σ H → N' σ H) → a { D with nx := N' } σ H) (k : ∀ σ H, Mid σ H → b D σ H) : tSeq a b D σ H := h (b D) k
theorem cut_63 (ns : List Int) : ∃ ms : List Int, cutV (ns.map V.int) none (some 63) = ms.map V.int ∧ ms.length ≤ 63 := by
  refine ⟨ns.take (min 63 ns.length), ?_, by rw [List.length_take]; omega⟩
  unfold cutV
  rw [HT.sIx_none, show ((63 : Int)) = ((63 : Nat) : Int) from rfl, HT.sIx_nat]
  simp [List.map_take]
section
variable {P : Program} {w : World} {K : PySem.W.Frag} {mg : Str → Option Value} {base : Heap}
theorem ok_l_pen (T : Tx K mg) : FnOk P w K mg base CX0 1 (a_l_pen K) (fd_l_pen K) ["_law_script"] (sp_l_pen K) := by
  refine FunD.ok T.f_l_pen sc_l_pen (fun vs H Q E h => match vs, h with | [_], _ => rfl) (fun cdv A outer s H vs Q E hr h => ⟨_, PSs.nox (pss_one (ps_ret (pe_lst (pa_cons (pe_callTy (cList (K := K)) (by rfl) T.z_list (by decide +kernel) (pa_cons (pe_slice sl_list (pv 0) po_none (po_some pe_int)) pa_nil)) (pa_cons pe_int (pa_cons pe_int pa_nil)))))), ?_⟩)
  match vs, h with
  | [v0], h =>
    obtain ⟨a, ns, rfl, ha, q⟩ := h
    walk_at "rd"
    obtain ⟨ms, hm1, hm2⟩ := cut_63 ns
    refine ⟨a, _, rfl, ha, fun p1 hp1 => ?_⟩
    rw [hm1]
    walk_at "rd"
    refine rd_listOfL (sq_of upd_same) fun p2 hp2 => ?_
    walk_at "rd"
    rename_i p3 hp3
    have h23 : p2 ≠ p3 := ne_of_none upd_same hp3
    exact q p3 p2 _ (free_back ((Ex.new hp1).trans (Ex.new hp2)) hp3) (free_back (Ex.new hp1) hp2) (((Ex.new hp1).trans (Ex.new hp2)).trans (Ex.new hp3)) ⟨ms, 0, 0, upd_same, upd_fr upd_same hp3, hm2, Nat.le_refl _, h23⟩
theorem ok_l_draw (T : Tx K mg) : FnOk P w K mg base CX0 1 (a_l_draw K) (fd_l_draw K) ["_law_pen_here", "_law_most_one"] (sp_l_draw) := by
  refine FunD.ok T.f_l_draw sc_l_draw (fun vs H Q E h => match vs, h with | [_, _], _ => rfl) (fun cdv A outer s H vs Q E hr h => ⟨_, PSs.nox (pss_cons (ps_if (pt_cmpR op_gt (pe_ix (ixL (K := K)) (pv 0) pe_int (fun _ _ => rfl)) pe_int (nomark _)) (pss_cons (ps_set (i := 2) sc_l_draw.nd rfl (Or.inl rfl) (pe_op op_mod (pe_ix (ixL (K := K)) (pv 0) pe_int (fun _ _ => rfl)) (pv 1)))
      (pss_cons (ps_asg (pe_op op_fdiv (pe_ix (ixL (K := K)) (pv 0) pe_int (fun _ _ => rfl)) (pv 1)) (pg_sub (pv 0) pe_int set_list))
      (pss_one (ps_ret (pv 2))))) pss_nil)
      (pss_cons (ps_set (i := 3) sc_l_draw.nd rfl (Or.inl rfl) (pe_ix (ixL (K := K)) (pv 0) pe_int (fun _ _ => rfl)))
      (pss_cons (ps_asg (pe_op op_add (pv 3) pe_int) (pg_sub (pv 0) pe_int set_list))
      (pss_cons (ps_set (i := 4) sc_l_draw.nd rfl (Or.inl rfl) (pe_op op_add (pe_op op_mul pe_int (pv 3)) pe_int))
      (pss_cons (ps_if (pt_cmpR (neD (K := K) hr.units) (pe_ix (ixL (K := K)) (pv 0) pe_int (fun _ _ => rfl)) (pe_lst pa_nil) (nomark _)) (pss_one (ps_set (i := 4) sc_l_draw.nd rfl (Or.inl rfl) (pe_ix (ixL (K := K)) (pe_ix (ixL (K := K)) (pv 0) pe_int (fun _ _ => rfl)) (pe_op op_mod (pv 3) (pe_callB (cLen (K := K)) (by rfl) T.z_len (by decide +kernel) (pa_cons (pe_ix (ixL (K := K)) (pv 0) pe_int (fun _ _ => rfl)) pa_nil))) (fun _ _ => rfl)))) pss_nil)
      (pss_cons (ps_if (PW.pt (pw_and (pt_cmpR op_lt (pv 3) (pe_callB (cLen (K := K)) (by rfl) T.z_len (by decide +kernel) (pa_cons (pe_ix (ixL (K := K)) (pv 0) pe_int (fun _ _ => rfl)) pa_nil)) (nomark _)) (pw_and1 (pt_cmpR op_ge (pe_callB call_abs (by rfl) T.z_abs (by decide +kernel) (pa_cons (pv 4) pa_nil)) (pe_op op_pow pe_int pe_int) (nomark _))))) (pss_cons (ps_set (i := 5) sc_l_draw.nd rfl (Or.inl rfl) (pe_op op_add (pe_op op_mul pe_int (pe_callB call_abs (by rfl) T.z_abs (by decide +kernel) (pa_cons (pv 4) pa_nil))) (pe_callTy call_int1 (by rfl) T.z_int (by decide +kernel) (pa_cons (pe_cmpR op_lt (pv 4) pe_int (nomark _)) pa_nil))))
      (pss_cons (ps_asg (pe_op op_fdiv (pv 5) (pv 1)) (pg_sub (pv 0) pe_int set_list))
      (pss_one (ps_ret (pe_op op_mod (pv 5) (pv 1)))))) pss_nil)
      (pss_cons (ps_set (i := 6) sc_l_draw.nd rfl (Or.inl rfl) (pe_op op_mod (pe_op op_pow (pe_op op_add (pe_op op_add (pe_op op_mod (pv 4) pe_int) (pe_op op_mul pe_int (pv 3))) pe_int) pe_int) pe_int))
      (pss_cons (ps_set (i := 6) sc_l_draw.nd rfl (Or.inl rfl) (pe_op op_mod (pe_op op_pow (pe_op op_add (pe_op op_mul (pv 6) (pe_op op_add (pe_op op_mul pe_int (pv 3)) pe_int)) (pe_op op_mul (pe_op op_mul pe_int (pv 3)) (pv 3))) pe_int) pe_int))
      (pss_one (ps_ret (pe_op op_mod (pe_op op_fdiv (pv 6) pe_int) (pv 1)))))))))))), ?_⟩)
  match vs, h with
  | [v0, v1], h =>
    obtain ⟨p, q0, m, N, rfl, rfl, ⟨ns, pl, lf, h1, h2, h3, h4, h5⟩, hN, hm1, hm2, q⟩ := h
    walk_at "rd"
    refine if_b (fun hc => ?_) (fun hc => ?_)
    · walk_at "rd"
      refine rd_I (by show (0 : Int) < (m : Nat); omega) ?_
      obtain ⟨r, hr1, hr2⟩ := mod_nat (lf : Int) hm1
      rw [hr2]
      walk_at "rd"
      refine rd_I (by exact ⟨by omega, by omega⟩) ?_
      obtain ⟨t, ht⟩ := div_nat (Int.natCast_nonneg lf) hm1
      rw [ht]
      walk_at "rd"
      refine rd_setL (n := 2) h1 (Nat.le_of_ble_eq_true rfl) ?_
      walk_at "rd"
      refine q r _ hr1 ⟨ns, pl, t, upd_same, by rw [upd_ne h5]; exact h2, h3, by omega, h5⟩ (fun a o hne h => by rw [upd_ne hne]; exact h)
    · walk_at "rd"
      refine rd_setL (n := 1) h1 (Nat.le_of_ble_eq_true rfl) ?_
      have t1 : upd H p (.lst ([V.ref q0, .int (pl : Int), .int (lf : Int)].set 1 (.int ((pl : Int) + 1)))) p = some (.lst [.ref q0, .int ((pl + 1 : Nat) : Int), .int (lf : Int)]) := upd_same
      have t2 : upd H p (.lst ([V.ref q0, .int (pl : Int), .int (lf : Int)].set 1 (.int ((pl : Int) + 1)))) q0 = some (.lst (ns.map V.int)) := by rw [upd_ne h5]; exact h2
      have fr : FrP p H (upd H p (.lst ([V.ref q0, .int (pl : Int), .int (lf : Int)].set 1 (.int ((pl : Int) + 1))))) := fun a o hne h => by rw [upd_ne hne]; exact h
      generalize upd H p (.lst ([V.ref q0, .int (pl : Int), .int (lf : Int)].set 1 (.int ((pl : Int) + 1)))) = H1 at t1 t2 fr ⊢
      walk_at "rd"
      refine rd_I (by exact .inl ⟨by decide, by decide⟩) ?_
      walk_at "rd"
      rename_i pe hpe
      refine rd_neL0 (upd_fr t2 hpe) upd_same (at_ints ns) ?_
      have ex2 := Ex.new (o := .lst []) hpe
      have t12 := ex2 _ _ t1
      have t22 := ex2 _ _ t2
      have fr2 := fr.trans (.ex ex2)
      generalize upd H1 pe (.lst []) = H2 at t12 t22 fr2 ⊢
      walk_at "rd"
      refine join_if (fun σ H' => ∃ c : Int, σ = [some (.ref p), some (.int (m : Nat)), none, some (.int (pl : Nat)), some (.int c), none, none] ∧ H' = H2) (fun N' tail => if_b (fun hc1 => ?_) (fun hc1 => ?_)) ?_
      · have hn : 1 ≤ ns.length := by
          cases ns with
          | nil => cases hc1
          | cons _ _ => simp
        walk_at "rd"
        refine rd_I (by rw [List.length_map]; show (0 : Int) < (ns.length : Nat); omega) ?_
        rw [List.length_map]
        obtain ⟨r, hr1, hr2⟩ := mod_nat (pl : Int) hn
        rw [hr2]
        have hg : (ns.map V.int)[r]? = some (.int ns[r]) := by simp [hr1]
        walk_at "rd"
        exact tail _ _ ⟨_, rfl, rfl⟩
      · walk_at "rd"
        exact tail _ _ ⟨_, rfl, rfl⟩
      · rintro σ H3 ⟨c, rfl, rfl⟩
        have last : ∀ x : Int, ∃ r : Nat, r < m ∧ x % (m : Int) = (r : Int) := fun x => mod_nat x hm1
        refine rd_cut (fun σ H' => σ = [some (.ref p), some (.int (m : Nat)), none, some (.int (pl : Nat)), some (.int c), none, none] ∧ H' = H3) (fun N' tail => ?_) ?_
        · walk_at "rd"
          refine if_b (fun hc2 => ?_) (fun hc2 => ?_)
          · walk_at "rd"
            refine ⟨_, rfl, ?_⟩
            generalize hd : (if c < 0 then -c else c) = d
            have hd0 : 0 ≤ d := by
              rw [← hd]
              split <;> omega
            walk_at "rd"
            refine rd_I (by exact ⟨by decide, by decide, by decide⟩) ?_
            walk_at "rd"
            refine if_b (fun hc3 => ?_) (fun hc3 => ?_)
            · walk_at "rd"
              refine ⟨_, rfl, ?_⟩
              rw [hd]
              refine rd_I (by exact .inl ⟨by decide, by decide⟩) ?_
              walk_at "rd"
              refine .inr ⟨_, rfl, ?_⟩
              have hw0 : 0 ≤ 2 * d + (if decide (c < 0) = true then (1 : Int) else 0) := by split <;> omega
              walk_at "rd"
              refine rd_I (by exact ⟨by omega, by omega⟩) ?_
              obtain ⟨t, ht⟩ := div_nat hw0 hm1
              rw [ht]
              walk_at "rd"
              refine rd_setL (n := 2) t12 (Nat.le_of_ble_eq_true rfl) ?_
              walk_at "rd"
              refine rd_I (by show (0 : Int) < (m : Nat); omega) ?_
              obtain ⟨r, hr7, hr8⟩ := last (2 * d + (if decide (c < 0) = true then (1 : Int) else 0))
              rw [hr8]
              refine q r _ hr7 ⟨ns, pl + 1, t, upd_same, by rw [upd_ne h5]; exact t22, h3, by omega, h5⟩ (fr2.trans fun a o hne h => by rw [upd_ne hne]; exact h)
            · walk_at "rd"
              exact tail _ _ ⟨rfl, rfl⟩
          · walk_at "rd"
            exact tail _ _ ⟨rfl, rfl⟩
        · rintro σ H4 ⟨rfl, rfl⟩
          walk_at "rd"
          refine rd_I (by decide) ?_
          obtain ⟨r1, hr1, hr2⟩ := mod_nat c (m := 2147483563) (by decide)
          rw [show (c % 2147483563 : Int) = (r1 : Int) from hr2]
          walk_at "rd"
          refine rd_I (by exact .inl ⟨by decide, by decide⟩) ?_
          walk_at "rd"
          refine rd_I (by exact ⟨by decide, by decide, by omega⟩) ?_
          walk_at "rd"
          refine rd_I (by decide) ?_
          generalize hb : ((r1 : Int) + 70021 * (pl : Int) + 53) ^ (5 : Int).toNat = b1
          obtain ⟨r3, hr3, hr4⟩ := mod_nat b1 (m := 2147483647) (by decide)
          rw [show (b1 % 2147483647 : Int) = (r3 : Int) from hr4]
          walk_at "rd"
          refine rd_I (by exact .inl ⟨by decide, by decide⟩) ?_
          walk_at "rd"
          refine rd_I (by exact .inl ⟨by omega, by omega⟩) ?_
          walk_at "rd"
          refine rd_I (by exact .inl ⟨by decide, by decide⟩) ?_
          walk_at "rd"
          refine rd_I (by exact .inl ⟨by omega, by omega⟩) ?_
          walk_at "rd"
          obtain ⟨A, hA1, hA2⟩ : ∃ A : Nat, A < 2 ^ 64 ∧ ((r3 : Int) * (2 * (pl : Int) + 13) + 90007 * (pl : Int) * (pl : Int)) = (A : Int) := by
            refine ⟨r3 * (2 * pl + 13) + 90007 * pl * pl, ?_, by rw [Int.natCast_add, Int.natCast_mul, Int.natCast_add, Int.natCast_mul, Int.natCast_mul, Int.natCast_mul]; rfl⟩
            have e1 : r3 * (2 * pl + 13) ≤ 2147483647 * 200013 := Nat.mul_le_mul (by omega) (by omega)
            have e2 : 90007 * pl * pl ≤ 90007 * 100000 * 100000 := Nat.mul_le_mul (by omega) (by omega)
            omega
          rw [hA2]
          refine rd_I (by exact ⟨by decide, by decide, by omega⟩) ?_
          walk_at "rd"
          refine rd_I (by decide) ?_
          generalize (A : Int) ^ (3 : Int).toNat = b2
          obtain ⟨r5, hr5, hr6⟩ := mod_nat b2 (m := 2147483587) (by decide)
          rw [show (b2 % 2147483587 : Int) = (r5 : Int) from hr6]
          walk_at "rd"
          refine rd_I (by exact ⟨by decide, by decide⟩) ?_
          walk_at "rd"
          refine rd_I (by show (0 : Int) < (m : Nat); omega) ?_
          obtain ⟨r, hr7, hr8⟩ := last ((r5 : Int) / 32)
          rw [hr8]
          exact q r _ hr7 ⟨ns, pl + 1, lf, t12, t22, h3, by omega, h5⟩ fr2
end
end Sf
/-! the law's own: shuffled -/
namespace Sf
open PySem PySem.Spec PyProof.Rows L2 Evl
local macro_rules | `(tactic| walk_at "hx") => `(tactic| first | assumption | exact upd_same | (with_reducible refine upd_fr ?_ (by assumption); walk_at "hx") | (refine ex_get (by assumption) ?_; walk_at "hx"))
local macro_rules | `(tactic| walk_at "ex") => `(tactic| first | assumption | exact Ex.refl _ | (with_reducible refine ex_new ?_ (by assumption); walk_at "ex") | (refine Ex.trans ?_ (by assumption); walk_at "ex"))
local macro_rules | `(tactic| walk_at "sqT") => `(tactic| first | (with_reducible assumption) | exact st_of (by walk_at "hx"))
local macro_rules | `(tactic| walk_at "sqL") => `(tactic| first | (with_reducible assumption) | exact sq_of (by walk_at "hx"))
local macro_rules | `(tactic| walk_at "sq") => `(tactic| first | (with_reducible assumption) | exact st_of (by walk_at "hx") | exact sq_of (by walk_at "hx"))
local macro_rules | `(tactic| walk_at "ty") => `(tactic| first | exact TyX.base (.int _) | exact TyX.base .non | exact TyX.base (.bl _) | exact TyX.base (.str _) | exact TyX.base (.tup (by walk_at "hx")) | exact TyX.base (.lst (by walk_at "hx")))
local macro_rules | `(tactic| walk_at "rd1") => `(tactic| first
  | with_reducible refine rd_seq ?_
  | ((with_reducible refine' rd_var ?h ?_); (case h => exact rfl))
  | with_reducible refine rd_c ?_
  | with_reducible refine rd_op ?_
  | with_reducible refine rd_un ?_
  | with_reducible refine rd_CB ?_
  | with_reducible refine rd_call ?_
  | with_reducible refine rd_cons ?_
  | with_reducible refine rd_nil ?_
  | with_reducible refine rd_I0 ?_
  | with_reducible refine rd_U ?_
  | with_reducible refine rd_ret ?_
  | with_reducible refine rd_retN ?_
  | with_reducible refine rd_next ?_
  | with_reducible refine rd_asg ?_
  | with_reducible refine rd_gName ?_
  | with_reducible refine rd_drop ?_
  | with_reducible refine rd_ifS ?_
  | with_reducible refine rd_test ?_
  | with_reducible refine rd_B ?_
  | with_reducible refine rd_notT ?_
  | with_reducible refine rd_andT ?_
  | with_reducible refine rd_orT ?_
  | with_reducible refine rd_andV ?_
  | with_reducible refine rd_orV ?_
  | with_reducible refine rd_notV ?_
  | with_reducible refine rd_ifE ?_
  | with_reducible refine rd_chain ?_
  | with_reducible refine rd_tup ?_
  | with_reducible refine rd_lst ?_
  | with_reducible refine rd_k ?_
  | with_reducible refine rd_eqS rfl ?_
  | with_reducible refine rd_neS rfl ?_
  | ((with_reducible refine rd_and (small40 (Nat.le_of_ble_eq_true rfl)) ?_); intro _ _)
  | (with_reducible refine' rd_isiT2 (k := "tuple") ?ty ?hx kb_tl kb_tt ?_; (case ty => walk_at "ty"); (case hx => walk_at "hx"))
  | with_reducible refine us_is_integer ?_
  | with_reducible refine us_is_between ?_
  | ((with_reducible refine' rd_ixT0 ?sq ?g ?_); (case sq => walk_at "sqT"); (case g => first | exact rfl | assumption))
  | ((with_reducible refine' rd_ixT1 ?sq ?g ?_); (case sq => walk_at "sqT"); (case g => first | exact rfl | assumption))
  | ((with_reducible refine' rd_ixT2 ?sq ?g ?_); (case sq => walk_at "sqT"); (case g => first | exact rfl | assumption))
  | ((with_reducible refine' rd_ixT3 ?sq ?g ?_); (case sq => walk_at "sqT"); (case g => first | exact rfl | assumption))
  | ((with_reducible refine' rd_ixT4 ?sq ?g ?_); (case sq => walk_at "sqT"); (case g => first | exact rfl | assumption))
  | ((with_reducible refine' rd_ixL0 ?sq ?g ?_); (case sq => walk_at "sqL"); (case g => first | exact rfl | assumption))
  | ((with_reducible refine' rd_ixL1 ?sq ?g ?_); (case sq => walk_at "sqL"); (case g => first | exact rfl | assumption))
  | ((with_reducible refine' rd_ixL2 ?sq ?g ?_); (case sq => walk_at "sqL"); (case g => first | exact rfl | assumption))
  | ((with_reducible refine' rd_ixT ?sq ?g ?_); (case sq => walk_at "sqT"); (case g => first | assumption | exact rfl))
  | ((with_reducible refine' rd_ixL ?sq ?g ?_); (case sq => walk_at "sqL"); (case g => first | assumption | exact rfl))
  | with_reducible refine rd_sl ?_
  | with_reducible refine rd_noPart ?_
  | with_reducible refine rd_part ?_
  | with_reducible refine rd_pt1 ?_
  | with_reducible refine rd_make ?_
  | with_reducible refine rd_callN ?_
  | with_reducible refine rd_makeN ?_
  | with_reducible refine rd_revT ?_
  | with_reducible refine rd_dc ?_
  | with_reducible refine rd_notinD ?_
  | with_reducible refine rd_inD ?_
  | with_reducible refine rd_dget ?_
  | with_reducible refine rd_dput ?_
  | ((with_reducible refine' rd_fld1 ?h ?c ?n ?l ?_); (case h => walk_at "hx"); (case c => first | exact Tx.c_Unwinding (by assumption) | exact Tx.c_Store (by assumption)); (case n => first | exact Tx.n_Unwinding_rows (by assumption) | exact Tx.n_Unwinding_references (by assumption) | exact Tx.n_Unwinding_tallies (by assumption) | exact Tx.n_Unwinding_bound (by assumption) | exact Tx.n_Unwinding_log (by assumption) | exact Tx.n_Unwinding_shelf (by assumption) | exact Tx.n_Unwinding_peak (by assumption) | exact Tx.n_Unwinding_events (by assumption) | exact Tx.n_Store_snapshots (by assumption) | exact Tx.n_Store_recorded (by assumption) | exact Tx.n_Store_observer (by assumption) | exact Tx.n_Store_is_busy (by assumption)); (case l => exact rfl))
  | ((with_reducible refine' rd_sFld1 ?h ?c ?n ?l ?_); (case h => walk_at "hx"); (case c => first | exact Tx.c_Unwinding (by assumption) | exact Tx.c_Store (by assumption)); (case n => first | exact Tx.n_Unwinding_rows (by assumption) | exact Tx.n_Unwinding_references (by assumption) | exact Tx.n_Unwinding_tallies (by assumption) | exact Tx.n_Unwinding_bound (by assumption) | exact Tx.n_Unwinding_log (by assumption) | exact Tx.n_Unwinding_shelf (by assumption) | exact Tx.n_Unwinding_peak (by assumption) | exact Tx.n_Unwinding_events (by assumption) | exact Tx.n_Store_snapshots (by assumption) | exact Tx.n_Store_recorded (by assumption) | exact Tx.n_Store_observer (by assumption) | exact Tx.n_Store_is_busy (by assumption)); (case l => exact Nat.le_of_ble_eq_true rfl))
  | ((with_reducible refine' rd_meth1 ?h ?l ?_); (case h => walk_at "hx"); (case l => exact rfl))
  | ((with_reducible refine' rd_and (rd_tyL ?h) ?_); (case h => walk_at "hx"))
  | ((with_reducible refine' rd_rng1 ?hn ?_); (case hn => first | omega | (simp; omega)))
  | with_reducible refine rd_nx ?_
  | with_reducible refine rd_rt ?_
  | with_reducible refine rd_ct ?_
  | with_reducible refine rd_bk ?_
  | ((with_reducible refine' rd_isi ?ty ?kb ?_); (case ty => walk_at "ty"); (case kb => first | exact kb_ii | exact kb_ib | exact kb_tt | exact kb_tl | exact kb_ss | exact kb_nt))
  | with_reducible refine rd_for ?_
  | with_reducible refine rd_iTup ?_
  | with_reducible refine rd_iList ?_
  | with_reducible refine rd_iRng1 ?_
  | with_reducible refine rd_iRng2 ?_
  | with_reducible refine rd_iEnumT ?_
  | with_reducible refine rd_iEnum ?_
  | with_reducible refine rd_lc ?_
  | with_reducible refine rd_yes ?_
  | ((with_reducible refine' rd_gTup ?sq ?n ?_); (case sq => walk_at "sqT"); (case n => exact rfl))
  | with_reducible refine rd_gCons ?_
  | with_reducible refine rd_gNil ?_
  | with_reducible refine rd_fld ?_
  | with_reducible refine rd_meth ?_
  | with_reducible refine rd_sFld ?_
  | with_reducible refine rd_BM ?_
  | with_reducible refine rd_BM0 ?_
  | ((with_reducible refine' rd_orRow ?h (by assumption) ?_); (case h => exact rfl))
  | with_reducible refine rd_augS ?_
  | with_reducible refine rd_ip ?_
  | with_reducible refine rd_gSub ?_
  | ((with_reducible refine' rd_aug ?h ?_); (case h => exact rfl))
  | with_reducible refine rd_par ?_
  | with_reducible refine rd_par1 ?_
  | ((with_reducible refine' rd_lenT ?sq ?_); (case sq => exact st_of (by walk_at "hx")))
  | ((with_reducible refine' rd_lenL ?sq ?_); (case sq => exact sq_of (by walk_at "hx")))
  | ((with_reducible refine' rd_itt ?sq ?_); (case sq => walk_at "sqT"))
  | ((with_reducible refine' rd_itl ?sq ?_); (case sq => walk_at "sqL"))
  | ((with_reducible refine' rd_enumT ?sq ?_); (case sq => walk_at "sqT"))
  | ((with_reducible refine' rd_enumL ?sq ?_); (case sq => walk_at "sqL"))
  | with_reducible refine rd_and rfl ?_
  | with_reducible refine if_t rfl ?_
  | with_reducible refine if_f rfl ?_)
local macro_rules | `(tactic| walk_at "rd") => `(tactic| repeat (walk_at "rd1"))
theorem perm_insert (x : Nat) : ∀ (k : Nat) (l : List Nat), k ≤ l.length → (l.take k ++ x :: l.drop k).Perm (x :: l) := fun k l _ => by
  have h : (l.take k ++ x :: l.drop k).Perm (x :: (l.take k ++ l.drop k)) := List.perm_middle
  rw [List.take_append_drop] at h
  exact h
theorem ins_ivs (ms : List Nat) (r n : Nat) : (ivs ms).take ((r : Int)).toNat ++ [V.int (n : Int)] ++ (ivs ms).drop ((r : Int)).toNat = ivs (ms.take r ++ n :: ms.drop r) := by
  rw [Int.toNat_natCast]
  simp [ivs, List.map_take, List.map_drop]
def sp_l_shuffled : Sp := fun vs H Q _ => match vs with
  | [x, y] => ∃ (p q0 a : Addr) (N : Nat) (ns : List Nat), x = .ref p ∧ y = .ref a ∧ a ≠ p ∧ PenV H p q0 N ∧ N + ns.length ≤ 100000 ∧ ns.length ≤ 1000 ∧ H a = some (.lst (ivs ns)) ∧
      ∀ r H' ms, PenV H' p q0 (N + ns.length) → FrP p H H' → H r = none → r ≠ p → H' r = some (.lst (ivs ms)) → ms.Perm ns → Q (.ref r) H'
  | _ => False
section
variable {P : Program} {w : World} {K : PySem.W.Frag} {mg : Str → Option Value} {base : Heap}
theorem ok_l_shuffled (T : Tx K mg) : FnOk P w K mg base CX0 2 (a_l_shuffled K) (fd_l_shuffled K) ["_law_pen_here", "_law_row"] (sp_l_shuffled) := by
  refine FunD.ok T.f_l_shuffled sc_l_shuffled (fun vs H Q E h => match vs, h with | [_, _], _ => rfl) (fun cdv A outer s H vs Q E hr h => ⟨_, PSs.nox (pss_cons (ps_set (i := 2) sc_l_shuffled.nd rfl (Or.inl rfl) (pe_lst pa_nil))
      (pss_cons (ps_for PassesOwn.never rfl (pi_list (pv 1)) (pg_name (i := 3) sc_l_shuffled.nd rfl (Or.inl rfl) (by exact Or.inl rfl)) (pss_one (ps_expr (pe_bm PySem.F.plainAttrs_list PySem.F.slot_list_insert PySem.F.type_list_insert mt_insert (pv 2) (pa_cons (pe_call (ok_l_draw T) (hr.mono (by omega)) (by rfl) T.g_l_draw T.k_l_draw T.b_l_draw .nil pass0 (pa_cons (pv 0) (pa_cons (pe_op op_add (pe_callB (cLen (K := K)) (by rfl) T.z_len (by decide +kernel) (pa_cons (pv 2) pa_nil)) pe_int) pa_nil))) (pa_cons (pv 3) pa_nil))))))
      (pss_one (ps_ret (pv 2))))), ?_⟩)
  match vs, h with
  | [v0, v1], h =>
    obtain ⟨p, q0, a, N, ns, rfl, rfl, hap, hp, hN, hl, ha, q⟩ := h
    walk_at "rd"
    rename_i R hR
    have hRo := hp.off hR
    have hRp := hRo.1
    have hRa : R ≠ a := Ne.symm (ne_of_none ha hR)
    have e1 := Ex.new (o := .lst []) hR
    walk_at "rd"
    refine for_it (walk_list (xs := ivs ns)) (fun i σ H' => (∃ x, σ = [some (.ref p), some (.ref a), some (.ref R), x]) ∧ PenV H' p q0 (N + i) ∧ (∀ b o, b ≠ p → b ≠ R → H b = some o → H' b = some o) ∧ ∃ ms, H' R = some (.lst (ivs ms)) ∧ ms.Perm (ns.take i))
      ⟨⟨_, rfl⟩, hp.ex e1, fun b o _ _ h => e1 _ _ h, [], upd_same, by simp⟩ (fun i σ H' _ z => sq_of (z.2.2.1 a _ hap (Ne.symm hRa) ha)) ?_ ?_
    · rintro i x _ _ H1 hi ⟨⟨x1, rfl⟩, hp1, hf1, ms, hR1, hms⟩ ⟨rfl, hx⟩
      obtain ⟨n, hn, rfl⟩ := ivs_of hx
      rw [ivs_len] at hi
      have hml : ms.length = i := by rw [hms.length_eq, List.length_take]; omega
      walk_at "rd"
      rw [ivs_len, hml]
      refine us_draw (m := i + 1) hp1 (by omega) (by omega) (by omega) fun r H2 hr hp2 f2 => ?_
      have hR2 := f2 _ _ hRp hR1
      walk_at "rd"
      refine ⟨R, ivs ms, _, _, rfl, rfl, hR2, by rw [ivs_len]; exact lt40 (by omega), by omega, by omega, ?_⟩
      rw [ins_ivs]
      refine ⟨⟨_, rfl⟩, ?_, ?_, _, upd_same, ?_⟩
      · exact hp2.set hRo
      · intro b o hb1 hb2 h
        rw [upd_ne hb2]
        exact f2 _ _ hb1 (hf1 b o hb1 hb2 h)
      · refine (perm_insert n r ms (by omega)).trans ?_
        rw [List.take_add_one, hn]
        exact ((List.perm_append_singleton n (ns.take i)).trans (hms.symm.cons n)).symm
    · rintro σ H1 ⟨⟨x1, rfl⟩, hp1, hf1, ms, hR1, hms⟩
      rw [ivs_len] at hp1 hms
      rw [List.take_length] at hms
      walk_at "rd"
      refine q R H1 ms hp1 (fun b o hb h => hf1 b o hb ?_ h) hR hRp hR1 hms
      exact ne_of_none h hR
end
end Sf
/-! the law's own: linked -/
namespace Sf
open PySem PySem.Spec PyProof.Rows L2 Evl
local macro_rules | `(tactic| walk_at "hx") => `(tactic| first | assumption | exact upd_same | (with_reducible refine upd_fr ?_ (by assumption); walk_at "hx") | (refine ex_get (by assumption) ?_; walk_at "hx"))
local macro_rules | `(tactic| walk_at "ex") => `(tactic| first | assumption | exact Ex.refl _ | (with_reducible refine ex_new ?_ (by assumption); walk_at "ex") | (refine Ex.trans ?_ (by assumption); walk_at "ex"))
local macro_rules | `(tactic| walk_at "sqT") => `(tactic| first | (with_reducible assumption) | exact st_of (by walk_at "hx"))
local macro_rules | `(tactic| walk_at "sqL") => `(tactic| first | (with_reducible assumption) | exact sq_of (by walk_at "hx"))
local macro_rules | `(tactic| walk_at "sq") => `(tactic| first | (with_reducible assumption) | exact st_of (by walk_at "hx") | exact sq_of (by walk_at "hx"))
local macro_rules | `(tactic| walk_at "ty") => `(tactic| first | exact TyX.base (.int _) | exact TyX.base .non | exact TyX.base (.bl _) | exact TyX.base (.str _) | exact TyX.base (.tup (by walk_at "hx")) | exact TyX.base (.lst (by walk_at "hx")))
local macro_rules | `(tactic| walk_at "rd1") => `(tactic| first
  | with_reducible refine rd_seq ?_
  | ((with_reducible refine' rd_var ?h ?_); (case h => exact rfl))
  | with_reducible refine rd_c ?_
  | with_reducible refine rd_op ?_
  | with_reducible refine rd_un ?_
  | with_reducible refine rd_CB ?_
  | with_reducible refine rd_call ?_
  | with_reducible refine rd_cons ?_
  | with_reducible refine rd_nil ?_
  | with_reducible refine rd_I0 ?_
  | with_reducible refine rd_U ?_
  | with_reducible refine rd_ret ?_
  | with_reducible refine rd_retN ?_
  | with_reducible refine rd_next ?_
  | with_reducible refine rd_asg ?_
  | with_reducible refine rd_gName ?_
  | with_reducible refine rd_drop ?_
  | with_reducible refine rd_ifS ?_
  | with_reducible refine rd_test ?_
  | with_reducible refine rd_B ?_
  | with_reducible refine rd_notT ?_
  | with_reducible refine rd_andT ?_
  | with_reducible refine rd_orT ?_
  | with_reducible refine rd_andV ?_
  | with_reducible refine rd_orV ?_
  | with_reducible refine rd_notV ?_
  | with_reducible refine rd_ifE ?_
  | with_reducible refine rd_chain ?_
  | with_reducible refine rd_tup ?_
  | with_reducible refine rd_lst ?_
  | with_reducible refine rd_k ?_
  | with_reducible refine rd_eqS rfl ?_
  | with_reducible refine rd_neS rfl ?_
  | ((with_reducible refine rd_and (small40 (Nat.le_of_ble_eq_true rfl)) ?_); intro _ _)
  | (with_reducible refine' rd_isiT2 (k := "tuple") ?ty ?hx kb_tl kb_tt ?_; (case ty => walk_at "ty"); (case hx => walk_at "hx"))
  | with_reducible refine us_is_integer ?_
  | with_reducible refine us_is_between ?_
  | ((with_reducible refine' rd_ixT0 ?sq ?g ?_); (case sq => walk_at "sqT"); (case g => first | exact rfl | assumption))
  | ((with_reducible refine' rd_ixT1 ?sq ?g ?_); (case sq => walk_at "sqT"); (case g => first | exact rfl | assumption))
  | ((with_reducible refine' rd_ixT2 ?sq ?g ?_); (case sq => walk_at "sqT"); (case g => first | exact rfl | assumption))
  | ((with_reducible refine' rd_ixT3 ?sq ?g ?_); (case sq => walk_at "sqT"); (case g => first | exact rfl | assumption))
  | ((with_reducible refine' rd_ixT4 ?sq ?g ?_); (case sq => walk_at "sqT"); (case g => first | exact rfl | assumption))
  | ((with_reducible refine' rd_ixL0 ?sq ?g ?_); (case sq => walk_at "sqL"); (case g => first | exact rfl | assumption))
  | ((with_reducible refine' rd_ixL1 ?sq ?g ?_); (case sq => walk_at "sqL"); (case g => first | exact rfl | assumption))
  | ((with_reducible refine' rd_ixL2 ?sq ?g ?_); (case sq => walk_at "sqL"); (case g => first | exact rfl | assumption))
  | ((with_reducible refine' rd_ixT ?sq ?g ?_); (case sq => walk_at "sqT"); (case g => first | assumption | exact rfl))
  | ((with_reducible refine' rd_ixL ?sq ?g ?_); (case sq => walk_at "sqL"); (case g => first | assumption | exact rfl))
  | with_reducible refine rd_sl ?_
  | with_reducible refine rd_noPart ?_
  | with_reducible refine rd_part ?_
  | with_reducible refine rd_pt1 ?_
  | with_reducible refine rd_make ?_
  | with_reducible refine rd_callN ?_
  | with_reducible refine rd_makeN ?_
  | with_reducible refine rd_revT ?_
  | with_reducible refine rd_dc ?_
  | with_reducible refine rd_notinD ?_
  | with_reducible refine rd_inD ?_
  | with_reducible refine rd_dget ?_
  | with_reducible refine rd_dput ?_
  | ((with_reducible refine' rd_fld1 ?h ?c ?n ?l ?_); (case h => walk_at "hx"); (case c => first | exact Tx.c_Unwinding (by assumption) | exact Tx.c_Store (by assumption)); (case n => first | exact Tx.n_Unwinding_rows (by assumption) | exact Tx.n_Unwinding_references (by assumption) | exact Tx.n_Unwinding_tallies (by assumption) | exact Tx.n_Unwinding_bound (by assumption) | exact Tx.n_Unwinding_log (by assumption) | exact Tx.n_Unwinding_shelf (by assumption) | exact Tx.n_Unwinding_peak (by assumption) | exact Tx.n_Unwinding_events (by assumption) | exact Tx.n_Store_snapshots (by assumption) | exact Tx.n_Store_recorded (by assumption) | exact Tx.n_Store_observer (by assumption) | exact Tx.n_Store_is_busy (by assumption)); (case l => exact rfl))
  | ((with_reducible refine' rd_sFld1 ?h ?c ?n ?l ?_); (case h => walk_at "hx"); (case c => first | exact Tx.c_Unwinding (by assumption) | exact Tx.c_Store (by assumption)); (case n => first | exact Tx.n_Unwinding_rows (by assumption) | exact Tx.n_Unwinding_references (by assumption) | exact Tx.n_Unwinding_tallies (by assumption) | exact Tx.n_Unwinding_bound (by assumption) | exact Tx.n_Unwinding_log (by assumption) | exact Tx.n_Unwinding_shelf (by assumption) | exact Tx.n_Unwinding_peak (by assumption) | exact Tx.n_Unwinding_events (by assumption) | exact Tx.n_Store_snapshots (by assumption) | exact Tx.n_Store_recorded (by assumption) | exact Tx.n_Store_observer (by assumption) | exact Tx.n_Store_is_busy (by assumption)); (case l => exact Nat.le_of_ble_eq_true rfl))
  | ((with_reducible refine' rd_meth1 ?h ?l ?_); (case h => walk_at "hx"); (case l => exact rfl))
  | ((with_reducible refine' rd_and (rd_tyL ?h) ?_); (case h => walk_at "hx"))
  | ((with_reducible refine' rd_rng1 ?hn ?_); (case hn => first | omega | (simp; omega)))
  | with_reducible refine rd_nx ?_
  | with_reducible refine rd_rt ?_
  | with_reducible refine rd_ct ?_
  | with_reducible refine rd_bk ?_
  | ((with_reducible refine' rd_isi ?ty ?kb ?_); (case ty => walk_at "ty"); (case kb => first | exact kb_ii | exact kb_ib | exact kb_tt | exact kb_tl | exact kb_ss | exact kb_nt))
  | with_reducible refine rd_for ?_
  | with_reducible refine rd_iTup ?_
  | with_reducible refine rd_iList ?_
  | with_reducible refine rd_iRng1 ?_
  | with_reducible refine rd_iRng2 ?_
  | with_reducible refine rd_iEnumT ?_
  | with_reducible refine rd_iEnum ?_
  | with_reducible refine rd_lc ?_
  | with_reducible refine rd_yes ?_
  | ((with_reducible refine' rd_gTup ?sq ?n ?_); (case sq => walk_at "sqT"); (case n => exact rfl))
  | with_reducible refine rd_gCons ?_
  | with_reducible refine rd_gNil ?_
  | with_reducible refine rd_fld ?_
  | with_reducible refine rd_meth ?_
  | with_reducible refine rd_sFld ?_
  | with_reducible refine rd_BM ?_
  | with_reducible refine rd_BM0 ?_
  | ((with_reducible refine' rd_orRow ?h (by assumption) ?_); (case h => exact rfl))
  | with_reducible refine rd_augS ?_
  | with_reducible refine rd_ip ?_
  | with_reducible refine rd_gSub ?_
  | ((with_reducible refine' rd_aug ?h ?_); (case h => exact rfl))
  | with_reducible refine rd_par ?_
  | with_reducible refine rd_par1 ?_
  | ((with_reducible refine' rd_lenT ?sq ?_); (case sq => exact st_of (by walk_at "hx")))
  | ((with_reducible refine' rd_lenL ?sq ?_); (case sq => exact sq_of (by walk_at "hx")))
  | ((with_reducible refine' rd_itt ?sq ?_); (case sq => walk_at "sqT"))
  | ((with_reducible refine' rd_itl ?sq ?_); (case sq => walk_at "sqL"))
  | ((with_reducible refine' rd_enumT ?sq ?_); (case sq => walk_at "sqT"))
  | ((with_reducible refine' rd_enumL ?sq ?_); (case sq => walk_at "sqL"))
  | with_reducible refine rd_and rfl ?_
  | with_reducible refine if_t rfl ?_
  | with_reducible refine if_f rfl ?_)
local macro_rules | `(tactic| walk_at "rd") => `(tactic| repeat (walk_at "rd1"))
/-- rows on their way: R the list of them, ad their places -/
structure LkV (H0 : Hp) (p R : Addr) (ad : List Addr) (rws : List (List (Option Nat))) (H : Hp) : Prop where
  fr : FrP p H0 H
  hR : H R = some (.lst (ad.map V.ref))
  R0 : H0 R = none
  Rp : R ≠ p
  nd : ad.Nodup
  off : ∀ a ∈ ad, H0 a = none ∧ a ≠ R ∧ a ≠ p
  ll : ad.length = rws.length
  rl : ∀ (i : Nat) (a : Addr) (xs : List (Option Nat)), ad[i]? = some a → rws[i]? = some xs → H a = some (.lst (xs.map ent))
theorem LkV.frp {H0 H H1 : Hp} {p R : Addr} {ad : List Addr} {rws : List (List (Option Nat))} (l : LkV H0 p R ad rws H) (f : FrP p H H1) : LkV H0 p R ad rws H1 where
  fr := l.fr.trans f
  hR := f _ _ l.Rp l.hR
  R0 := l.R0
  Rp := l.Rp
  nd := l.nd
  off := l.off
  ll := l.ll
  rl := fun i a xs h1 h2 => f _ _ (l.off a (List.mem_of_getElem? h1)).2.2 (l.rl i a xs h1 h2)
theorem LkV.ins {H0 H : Hp} {p R : Addr} {ad : List Addr} {rws : List (List (Option Nat))} (l : LkV H0 p R ad rws H) {i : Nat} {a : Addr} {ys : List (Option Nat)} (h : ad[i]? = some a) : LkV H0 p R ad (rws.set i ys) (upd H a (.lst (ys.map ent))) := by
  obtain ⟨o1, o2, o3⟩ := l.off a (List.mem_of_getElem? h)
  have hil := (List.getElem?_eq_some_iff.mp h).1
  refine ⟨fun b o hb h0 => ?_, ?_, l.R0, l.Rp, l.nd, l.off, by rw [List.length_set]; exact l.ll, fun j b xs h1 h2 => ?_⟩
  · rw [upd_ne (ne_of_none h0 o1)]
    exact l.fr b o hb h0
  · rw [upd_ne (Ne.symm o2)]
    exact l.hR
  · rw [List.getElem?_set] at h2
    by_cases e : i = j
    · subst e
      rw [h] at h1
      cases h1
      rw [if_pos rfl, if_pos (by rw [← l.ll]; exact hil)] at h2
      cases h2
      exact upd_same
    · rw [if_neg e] at h2
      have hne : b ≠ a := by
        rintro rfl
        have hj := List.getElem?_eq_some_iff.mp h1
        have hi := List.getElem?_eq_some_iff.mp h
        exact e ((List.getElem_inj l.nd).mp (hi.2.trans hj.2.symm))
      rw [upd_ne hne]
      exact l.rl j b xs h1 h2
/-- what is known of the rows while they grow -/
structure Lk (ls : List Nat) (alive k m : Nat) (rws : List (List (Option Nat))) : Prop where
  len : rws.length = ls.length
  sz : ∀ (i : Nat) (xs : List (Option Nat)), rws[i]? = some xs → xs.length ≤ m
  ent : ∀ (i : Nat) (xs : List (Option Nat)) (u : Nat), rws[i]? = some xs → some u ∈ xs → ∃ j, j < alive ∧ ls[j]? = some u
  own : ∀ (i : Nat) (xs : List (Option Nat)), rws[i]? = some xs → xs ≠ [] → ∃ j, j < alive ∧ ls[j]? = some i
  cov : ∀ (j u : Nat), 1 ≤ j → j < k → ls[j]? = some u → ∃ (i : Nat) (xs : List (Option Nat)), rws[i]? = some xs ∧ some u ∈ xs
theorem walk_rng1 {n : Nat} : Walk (Itr 1 n) n (fun _ => True) (YFn fun i => .int ((i + 1 : Nat) : Int)) := walk_range.mono (fun _ _ => trivial) fun i H x H' _ _ y => ⟨y.1, y.2.trans (congrArg V.int (by omega))⟩
theorem mem_ins {xs : List (Option Nat)} {r : Nat} {e x : Option Nat} : x ∈ xs.take r ++ e :: xs.drop r ↔ x = e ∨ x ∈ xs := by
  have h : x ∈ xs ↔ x ∈ xs.take r ∨ x ∈ xs.drop r := by
    rw [← List.mem_append, List.take_append_drop]
  rw [List.mem_append, List.mem_cons, h]
  constructor
  · rintro (a | a | a)
    · exact .inr (.inl a)
    · exact .inl a
    · exact .inr (.inr a)
  · rintro (a | a | a)
    · exact .inr (.inl a)
    · exact .inl a
    · exact .inr (.inr a)
theorem Lk.ins {ls : List Nat} {alive k m m' k' r i j : Nat} {rws : List (List (Option Nat))} {xs : List (Option Nat)} {e : Option Nat} (l : Lk ls alive k m rws) (hx : rws[i]? = some xs) (hj : j < alive) (hi : ls[j]? = some i) (he : ∀ u, e = some u → ∃ j, j < alive ∧ ls[j]? = some u)
    (hm : m ≤ m') (hm2 : xs.length + 1 ≤ m') (hr : r ≤ xs.length) (hk : ∀ j u : Nat, k ≤ j → j < k' → ls[j]? = some u → e = some u) : Lk ls alive k' m' (rws.set i (xs.take r ++ e :: xs.drop r)) := by
  have hl := (List.getElem?_eq_some_iff.mp hx).1
  have get : ∀ (u : Nat) (ys : List (Option Nat)), (rws.set i (xs.take r ++ e :: xs.drop r))[u]? = some ys → (u = i ∧ ys = xs.take r ++ e :: xs.drop r) ∨ (u ≠ i ∧ rws[u]? = some ys) := fun u ys h => by
    rw [List.getElem?_set] at h
    by_cases eu : i = u
    · subst eu
      rw [if_pos rfl, if_pos hl] at h
      exact .inl ⟨rfl, (Option.some.inj h).symm⟩
    · rw [if_neg eu] at h
      exact .inr ⟨Ne.symm eu, h⟩
  refine ⟨by rw [List.length_set]; exact l.len, fun u ys h => ?_, fun u ys x h hm => ?_, fun u ys h hne => ?_, fun j' u h1 h2 h3 => ?_⟩
  · rcases get u ys h with ⟨_, rfl⟩ | ⟨_, h⟩
    · rw [List.length_append, List.length_take, List.length_cons, List.length_drop]
      omega
    · exact Nat.le_trans (l.sz u ys h) hm
  · rcases get u ys h with ⟨_, rfl⟩ | ⟨_, h⟩
    · rcases mem_ins.mp hm with z | z
      · exact he x z.symm
      · exact l.ent i xs x hx z
    · exact l.ent u ys x h hm
  · rcases get u ys h with ⟨rfl, _⟩ | ⟨_, h⟩
    · exact ⟨j, hj, hi⟩
    · exact l.own u ys h hne
  · have geti : (rws.set i (xs.take r ++ e :: xs.drop r))[i]? = some (xs.take r ++ e :: xs.drop r) := by rw [List.getElem?_set, if_pos rfl, if_pos hl]
    by_cases hjk : j' < k
    · obtain ⟨v, ys, g1, g2⟩ := l.cov j' u h1 hjk h3
      by_cases ev : v = i
      · subst ev
        rw [hx] at g1
        cases g1
        exact ⟨v, _, geti, mem_ins.mpr (.inr g2)⟩
      · exact ⟨v, ys, by rw [List.getElem?_set, if_neg (Ne.symm ev)]; exact g1, g2⟩
    · exact ⟨i, _, geti, mem_ins.mpr (.inl (hk j' u (by omega) h2 h3).symm)⟩
theorem ins_ents (xs : List (Option Nat)) (r : Nat) (e : Option Nat) : (xs.map ent).take ((r : Int)).toNat ++ [ent e] ++ (xs.map ent).drop ((r : Int)).toNat = (xs.take r ++ e :: xs.drop r).map ent := by
  rw [Int.toNat_natCast]
  simp [List.map_take, List.map_drop]
def sp_l_linked : Sp := fun vs H Q _ => match vs with
  | [x, y, z] => ∃ (p q0 lb : Addr) (N alive : Nat) (ls : List Nat), x = .ref p ∧ y = .ref lb ∧ z = .int (alive : Int) ∧ PenV H p q0 N ∧ N ≤ 10000 ∧ lb ≠ p ∧ lb ≠ q0 ∧ H lb = some (.lst (ivs ls)) ∧ ls.Perm (List.range ls.length) ∧ ls.length ≤ 40 ∧ 1 ≤ alive ∧ alive ≤ ls.length ∧
      ∀ R ad rws H', PenV H' p q0 (N + 1000) → LkV H p R ad rws H' → Lk ls alive alive 40 rws → Q (.ref R) H'
  | _ => False
section
variable {P : Program} {w : World} {K : PySem.W.Frag} {mg : Str → Option Value} {base : Heap}
theorem ok_l_linked (T : Tx K mg) : FnOk P w K mg base CX0 2 (a_l_linked K) (fd_l_linked K) ["_law_pen_here", "_law_labels", "_law_alive"] (sp_l_linked) := by
  refine FunD.ok T.f_l_linked sc_l_linked (fun vs H Q E h => match vs, h with | [_, _, _], _ => rfl) (fun cdv A outer s H vs Q E hr h => ⟨_, PSs.nox (pss_cons (ps_setLc (i := 3) rfl sc_l_linked.nd rfl rfl (sw_true rfl rfl rfl (by decide +kernel)) (pi_list (pv 1)) (blkOk_by (own := [("_law_label", 4)]) (N := N_l_linked) (sc := defScope s_l_linked) (by decide +kernel)) (fun _ _ _ _ _ => (pg_name (i := 4) sc_l_linked.nd rfl (Or.inl rfl) (by exact Or.inr rfl))) (fun _ _ _ _ _ => pts_nil) (fun _ _ _ _ _ => (pe_lst pa_nil)))
      (pss_cons (ps_set (i := 5) sc_l_linked.nd rfl (Or.inl rfl) (pe_call (ok_l_draw T) (hr.mono (by omega)) (by rfl) T.g_l_draw T.k_l_draw T.b_l_draw .nil pass0 (pa_cons (pv 0) (pa_cons pe_int pa_nil))))
      (pss_cons (ps_for PassesOwn.never rfl (pi_range2 (by rfl) T.z_range (pa_cons pe_int (pa_cons (pv 2) pa_nil))) (pg_name (i := 6) sc_l_linked.nd rfl (Or.inl rfl) (by exact Or.inl rfl)) (pss_cons (ps_set (i := 7) sc_l_linked.nd rfl (Or.inl rfl) (pe_op op_add pe_int (pe_call (ok_l_draw T) (hr.mono (by omega)) (by rfl) T.g_l_draw T.k_l_draw T.b_l_draw .nil pass0 (pa_cons (pv 0) (pa_cons (pe_callB (call_min2 rfl) (by rfl) T.z_min (by decide +kernel) (pa_cons (pv 6) (pa_cons pe_int pa_nil))) pa_nil)))))
      (pss_cons (ps_set (i := 8) sc_l_linked.nd rfl (Or.inl rfl) (pe_ix (ixL (K := K)) (pe_lst (pa_cons pe_int (pa_cons (pv 6) (pa_cons (pv 7) (pa_cons (pe_op op_add pe_int (pe_call (ok_l_draw T) (hr.mono (by omega)) (by rfl) T.g_l_draw T.k_l_draw T.b_l_draw .nil pass0 (pa_cons (pv 0) (pa_cons (pv 6) pa_nil)))) (pa_cons (pv 7) pa_nil)))))) (pv 5) (fun _ _ => rfl)))
      (pss_cons (ps_set (i := 9) sc_l_linked.nd rfl (Or.inl rfl) (pe_ix (ixL (K := K)) (pv 3) (pe_ix (ixL (K := K)) (pv 1) (pe_op op_sub (pv 6) (pv 8)) (fun _ _ => rfl)) (fun _ _ => rfl)))
      (pss_one (ps_expr (pe_bm PySem.F.plainAttrs_list PySem.F.slot_list_insert PySem.F.type_list_insert mt_insert (pv 9) (pa_cons (pe_call (ok_l_draw T) (hr.mono (by omega)) (by rfl) T.g_l_draw T.k_l_draw T.b_l_draw .nil pass0 (pa_cons (pv 0) (pa_cons (pe_op op_add (pe_callB (cLen (K := K)) (by rfl) T.z_len (by decide +kernel) (pa_cons (pv 9) pa_nil)) pe_int) pa_nil))) (pa_cons (pe_ix (ixL (K := K)) (pv 1) (pv 6) (fun _ _ => rfl)) pa_nil)))))))))
      (pss_cons (ps_set (i := 10) sc_l_linked.nd rfl (Or.inl rfl) (pe_call (ok_l_draw T) (hr.mono (by omega)) (by rfl) T.g_l_draw T.k_l_draw T.b_l_draw .nil pass0 (pa_cons (pv 0) (pa_cons pe_int pa_nil))))
      (pss_cons (ps_for PassesOwn.never rfl (pi_range1 (by rfl) T.z_range (pa_cons (pe_ix (ixL (K := K)) (pe_lst (pa_cons pe_int (pa_cons (pe_call (ok_l_draw T) (hr.mono (by omega)) (by rfl) T.g_l_draw T.k_l_draw T.b_l_draw .nil pass0 (pa_cons (pv 0) (pa_cons pe_int pa_nil))) (pa_cons (pe_op op_fdiv (pv 2) pe_int) (pa_cons (pv 2) pa_nil))))) (pe_call (ok_l_draw T) (hr.mono (by omega)) (by rfl) T.g_l_draw T.k_l_draw T.b_l_draw .nil pass0 (pa_cons (pv 0) (pa_cons pe_int pa_nil))) (fun _ _ => rfl)) pa_nil)) (pg_name (i := 11) sc_l_linked.nd rfl (Or.inl rfl) (by exact Or.inl rfl)) (pss_cons (ps_par rfl sc_l_linked.nd (i := 12) (j := 13) rfl rfl (by decide) rfl rfl (pa_cons (pe_call (ok_l_draw T) (hr.mono (by omega)) (by rfl) T.g_l_draw T.k_l_draw T.b_l_draw .nil pass0 (pa_cons (pv 0) (pa_cons (pv 2) pa_nil))) (pa_cons (pe_call (ok_l_draw T) (hr.mono (by omega)) (by rfl) T.g_l_draw T.k_l_draw T.b_l_draw .nil pass0 (pa_cons (pv 0) (pa_cons (pv 2) pa_nil))) pa_nil)) (by rfl))
      (pss_cons (ps_if (pt_cmpR op_eq (pv 10) pe_int (nomark _)) (pss_one (ps_par rfl sc_l_linked.nd (i := 12) (j := 13) rfl rfl (by decide) rfl rfl (pa_cons (pe_callB (call_min2 rfl) (by rfl) T.z_min (by decide +kernel) (pa_cons (pv 12) (pa_cons (pv 13) pa_nil))) (pa_cons (pe_callB (call_max2 rfl) (by rfl) T.z_max (by decide +kernel) (pa_cons (pv 12) (pa_cons (pv 13) pa_nil))) pa_nil)) (by rfl))) pss_nil)
      (pss_cons (ps_set (i := 14) sc_l_linked.nd rfl (Or.inl rfl) (pe_ix (ixL (K := K)) (pe_lst (pa_cons (pe_ix (ixL (K := K)) (pv 1) (pv 13) (fun _ _ => rfl)) (pa_cons pe_non pa_nil))) (pe_callTy call_int1 (by rfl) T.z_int (by decide +kernel) (pa_cons (pe_or (pe_cmpR op_eq (pe_call (ok_l_draw T) (hr.mono (by omega)) (by rfl) T.g_l_draw T.k_l_draw T.b_l_draw .nil pass0 (pa_cons (pv 0) (pa_cons pe_int pa_nil))) pe_int (nomark _)) (pe_one (pe_and (pe_cmpR op_eq (pv 10) pe_int (nomark _)) (pe_one (pe_cmpR op_eq (pv 12) (pv 13) (nomark _)))))) pa_nil)) (fun _ _ => rfl)))
      (pss_cons (ps_set (i := 9) sc_l_linked.nd rfl (Or.inl rfl) (pe_ix (ixL (K := K)) (pv 3) (pe_ix (ixL (K := K)) (pv 1) (pv 12) (fun _ _ => rfl)) (fun _ _ => rfl)))
      (pss_one (ps_if (pt_cmpR op_lt (pe_callB (cLen (K := K)) (by rfl) T.z_len (by decide +kernel) (pa_cons (pv 9) pa_nil)) pe_int (nomark _)) (pss_one (ps_expr (pe_bm PySem.F.plainAttrs_list PySem.F.slot_list_insert PySem.F.type_list_insert mt_insert (pv 9) (pa_cons (pe_call (ok_l_draw T) (hr.mono (by omega)) (by rfl) T.g_l_draw T.k_l_draw T.b_l_draw .nil pass0 (pa_cons (pv 0) (pa_cons (pe_op op_add (pe_callB (cLen (K := K)) (by rfl) T.z_len (by decide +kernel) (pa_cons (pv 9) pa_nil)) pe_int) pa_nil))) (pa_cons (pv 14) pa_nil))))) pss_nil)))))))
      (pss_one (ps_ret (pv 3)))))))), ?_⟩)
  match vs, h with
  | [v0, v1, v2], h =>
    obtain ⟨p, q0, lb, N, alive, ls, rfl, rfl, rfl, hp, hN, hlp, hlq, hlb, hperm, h40, ha1, ha2, q⟩ := h
    have hls : ∀ x ∈ ls, x < ls.length := fun x hx => by
      have := hperm.mem_iff.mp hx
      exact List.mem_range.mp this
    walk_at "rd"
    intro D hD
    refine lc_it (walk_list (xs := ivs ls)) (fun i H' => ∃ ad : List Addr, Acc H D (ad.map V.ref) H' ∧ ad.length = i ∧ ad.Nodup ∧ ∀ a ∈ ad, H a = none ∧ a ≠ D ∧ H' a = some (.lst [])) ⟨[], Acc.new (Ex.refl H) hD, rfl, List.nodup_nil, by simp⟩ (fun i H' _ z => let ⟨_, z, _⟩ := z; sqL_ex z.2.1 hlb) ?_ ?_
    · rintro i x _ H1 hi ⟨ad, acc, hal, hnd, had⟩ ⟨rfl, hx⟩
      rw [ivs_len] at hi
      walk_at "rd"
      rename_i a ha
      have acc2 := acc.ex (Ex.new (o := .lst []) ha)
      have haD : a ≠ D := Ne.symm (ne_of_none acc.2.2 ha)
      refine ⟨_, acc2.2.2, lt40 (by rw [List.length_map]; omega), ad ++ [a], ?_, by simp [hal], ?_, ?_⟩
      · rw [List.map_append]
        exact acc2.put
      · refine List.nodup_append.mpr ⟨hnd, by simp, fun b hb c hc e => ?_⟩
        cases List.mem_singleton.mp hc
        subst e
        rw [(had b hb).2.2] at ha
        cases ha
      · intro b hb
        rcases List.mem_append.mp hb with hb | hb
        · obtain ⟨g1, g2, g3⟩ := had b hb
          exact ⟨g1, g2, by rw [upd_ne g2]; exact upd_fr g3 ha⟩
        · cases List.mem_singleton.mp hb
          exact ⟨free_back acc.2.1 ha, haD, by rw [upd_ne haD]; exact upd_same⟩
    · rintro H1 ⟨ad, acc, hal, hnd, had⟩
      rw [ivs_len] at hal
      have hoff := hp.off hD
      have lk0 : LkV H p D ad (List.replicate ls.length []) H1 := by
        refine ⟨.ex acc.2.1, acc.2.2, hD, hoff.1, hnd, fun a ha => ⟨(had a ha).1, (had a ha).2.1, (hp.off (had a ha).1).1⟩, by rw [List.length_replicate]; exact hal, fun i a xs h1 h2 => ?_⟩
        have e : xs = [] := by
          have := List.mem_of_getElem? h2
          exact (List.mem_replicate.mp this).2
        subst e
        exact (had a (List.mem_of_getElem? h1)).2.2
      have l0 : Lk ls alive 1 0 (List.replicate ls.length []) := by
        have nil : ∀ (i : Nat) (xs : List (Option Nat)), (List.replicate ls.length ([] : List (Option Nat)))[i]? = some xs → xs = [] := fun i xs h => (List.mem_replicate.mp (List.mem_of_getElem? h)).2
        refine ⟨by simp, fun i xs h => by rw [nil i xs h]; exact Nat.le_refl _, fun i xs u h m => (by rw [nil i xs h] at m; cases m), fun i xs h hne => absurd (nil i xs h) hne, fun j u h1 h2 => by omega⟩
      have hp1 := hp.ex acc.2.1
      have hadq : ∀ a ∈ ad, a ≠ p ∧ a ≠ q0 := fun a ha => hp.off (had a ha).1
      have hlD : lb ≠ D := ne_of_none hlb hD
      have hlad : ∀ a ∈ ad, lb ≠ a := fun a ha => ne_of_none hlb (had a ha).1
      walk_at "rd"
      refine us_draw (m := 5) hp1 (by omega) (by decide) (by decide) fun wy H2 hwy hp2 f2 => ?_
      have lk2 := lk0.frp f2
      walk_at "rd"
      refine rd_rng2 (by omega) ?_
      have ecount : (((alive : Nat) : Int) - 1).toNat = alive - 1 := by omega
      rw [ecount]
      refine for_it (walk_rng1 (n := alive - 1)) (fun i σ H' => (∃ x1 x2 x3 x4, σ = [some (.ref p), some (.ref lb), some (.int (alive : Nat)), some (.ref D), none, some (.int (wy : Nat)), x1, x2, x3, x4, none, none, none, none, none]) ∧ ∃ rws, PenV H' p q0 (N + 1 + 3 * i) ∧ LkV H p D ad rws H' ∧ Lk ls alive (i + 1) i rws)
        ⟨⟨_, _, _, _, rfl⟩, _, hp2, lk2, l0⟩ (fun _ _ _ _ _ => trivial) ?_ ?_
      · rintro i x _ _ H3 hi ⟨⟨x1, x2, x3, x4, rfl⟩, rws, hp3, lk3, l3⟩ ⟨rfl, hx⟩
        have hx' : x = .int ((i + 1 : Nat) : Int) := hx
        subst hx'
        have hi' : i + 1 < alive := by omega
        walk_at "rd"
        refine ⟨_, _, rfl, ?_⟩
        rw [show (if (3 : Int) < ((i + 1 : Nat) : Int) then (3 : Int) else ((i + 1 : Nat) : Int)) = ((min (i + 1) 3 : Nat) : Int) from by split <;> omega]
        walk_at "rd"
        refine us_draw (m := min (i + 1) 3) hp3 (by omega) (by omega) (by omega) fun r1 H4 hr1 hp4 f4 => ?_
        have lk4 := lk3.frp f4
        walk_at "rd"
        refine us_draw (m := i + 1) hp4 (by omega) (by omega) (by omega) fun r2 H5 hr2 hp5 f5 => ?_
        have lk5 := lk4.frp f5
        walk_at "rd"
        rename_i L5 hL5
        obtain ⟨b, hb1, hb2, hb3⟩ : ∃ b : Nat, 1 ≤ b ∧ b ≤ i + 1 ∧ [V.int 1, V.int ((i + 1 : Nat) : Int), V.int (1 + (r1 : Int)), V.int (1 + (r2 : Int)), V.int (1 + (r1 : Int))][wy]? = some (.int (b : Int)) := by
          match wy, hwy with
          | 0, _ => exact ⟨1, by omega, by omega, rfl⟩
          | 1, _ => exact ⟨i + 1, by omega, by omega, rfl⟩
          | 2, _ => exact ⟨1 + r1, by omega, by omega, by show some (V.int _) = _; congr 2⟩
          | 3, _ => exact ⟨1 + r2, by omega, by omega, by show some (V.int _) = _; congr 2⟩
          | 4, _ => exact ⟨1 + r1, by omega, by omega, by show some (V.int _) = _; congr 2⟩
        refine rd_ixL (sq_of upd_same) hb3 ?_
        have f6 : FrP p H5 (upd H5 L5 (.lst [V.int 1, V.int ((i + 1 : Nat) : Int), V.int (1 + (r1 : Int)), V.int (1 + (r2 : Int)), V.int (1 + (r1 : Int))])) := .ex (Ex.new hL5)
        have hp6 := hp5.ex (Ex.new (o := .lst [V.int 1, V.int ((i + 1 : Nat) : Int), V.int (1 + (r1 : Int)), V.int (1 + (r2 : Int)), V.int (1 + (r1 : Int))]) hL5)
        have lk6 := lk5.frp f6
        generalize upd H5 L5 (.lst [V.int 1, V.int ((i + 1 : Nat) : Int), V.int (1 + (r1 : Int)), V.int (1 + (r2 : Int)), V.int (1 + (r1 : Int))]) = H6 at hp6 lk6 ⊢
        have hlb6 := lk6.fr _ _ hlp hlb
        have hD6 := lk6.hR
        obtain ⟨j, hj⟩ : ∃ j, j = i + 1 - b := ⟨_, rfl⟩
        have hjl : j < ls.length := by omega
        have hlj := List.getElem?_eq_getElem hjl
        generalize ls[j] = row at hlj
        have hrow := hls row (List.mem_of_getElem? hlj)
        have hrowl : row < ad.length := by omega
        have hadr := List.getElem?_eq_getElem hrowl
        generalize ad[row] = ra at hadr
        have hrr : row < rws.length := by rw [l3.len]; exact hrow
        have hxr := List.getElem?_eq_getElem hrr
        generalize rws[row] = xs at hxr
        have hra6 := lk6.rl row ra xs hadr hxr
        have hxs := l3.sz row xs hxr
        have hli : (ivs ls)[j]? = some (.int (row : Nat)) := ivs_get hlj
        have hai : (ad.map V.ref)[row]? = some (.ref ra) := by simp [hadr]
        walk_at "rd"
        rw [show (((i + 1 : Nat) : Int) - (b : Int)) = (j : Int) from by omega]
        walk_at "rd"
        rw [show (((xs.map ent).length : Nat) : Int) + 1 = ((xs.length + 1 : Nat) : Int) from by rw [List.length_map]; omega]
        refine us_draw (m := xs.length + 1) hp6 (by omega) (by omega) (by omega) fun r7 H7 hr7 hp7 f7 => ?_
        have lk7 := lk6.frp f7
        have hlb7 := lk7.fr _ _ hlp hlb
        have hra7 := lk7.rl row ra xs hadr hxr
        have hpl : i + 1 < ls.length := by omega
        have hl1 := List.getElem?_eq_getElem hpl
        generalize ls[i + 1] = u at hl1
        have hl1' : (ivs ls)[i + 1]? = some (.int (u : Nat)) := ivs_get hl1
        walk_at "rd"
        refine ⟨ra, xs.map ent, _, _, rfl, rfl, hra7, by rw [List.length_map]; exact lt40 (by omega), by omega, by omega, ?_⟩
        rw [show V.int ((u : Nat) : Int) = ent (some u) from rfl, ins_ents]
        refine ⟨⟨_, _, _, _, rfl⟩, rws.set row (xs.take r7 ++ some u :: xs.drop r7), ?_, lk7.ins hadr, ?_⟩
        · exact (hp7.set (hadq ra (List.mem_of_getElem? hadr))).mono (by omega)
        · refine l3.ins hxr (show j < alive by omega) hlj (fun v hv => ⟨i + 1, hi', by cases hv; exact hl1⟩) (by omega) (by omega) (by omega) (fun j' v h1 h2 h3 => ?_)
          have : j' = i + 1 := by omega
          subst this
          rw [hl1] at h3
          cases h3
          rfl
      · rintro σ H3 ⟨⟨x1, x2, x3, x4, rfl⟩, rws, hp3, lk3, l3⟩
        rw [show alive - 1 + 1 = alive from by omega] at l3
        walk_at "rd"
        refine us_draw (m := 3) hp3 (by omega) (by decide) (by decide) fun fw H4 hfw hp4 f4 => ?_
        have lk4 := lk3.frp f4
        walk_at "rd"
        refine us_draw (m := 4) hp4 (by omega) (by decide) (by decide) fun r1 H5 hr1 hp5 f5 => ?_
        have lk5 := lk4.frp f5
        walk_at "rd"
        refine rd_I (by exact ⟨by decide, by decide⟩) ?_
        walk_at "rd"
        rename_i L5 hL5
        have f6 : FrP p H5 (upd H5 L5 (.lst [V.int 0, V.int (r1 : Int), V.int ((alive : Int) / 2), V.int (alive : Int)])) := .ex (Ex.new hL5)
        have hp6 := hp5.ex (Ex.new (o := .lst [V.int 0, V.int (r1 : Int), V.int ((alive : Int) / 2), V.int (alive : Int)]) hL5)
        have lk6 := lk5.frp f6
        have t6 : upd H5 L5 (.lst [V.int 0, V.int (r1 : Int), V.int ((alive : Int) / 2), V.int (alive : Int)]) L5 = some (.lst [V.int 0, V.int (r1 : Int), V.int ((alive : Int) / 2), V.int (alive : Int)]) := upd_same
        have hLp : L5 ≠ p := (hp5.off hL5).1
        generalize upd H5 L5 (.lst [V.int 0, V.int (r1 : Int), V.int ((alive : Int) / 2), V.int (alive : Int)]) = H6 at hp6 lk6 t6 ⊢
        refine us_draw (m := 4) hp6 (by omega) (by decide) (by decide) fun r2 H7 hr2 hp7 f7 => ?_
        have lk7 := lk6.frp f7
        have t7 := f7 _ _ hLp t6
        obtain ⟨c, hc1, hc2⟩ : ∃ c : Nat, c ≤ 40 ∧ [V.int 0, V.int (r1 : Int), V.int ((alive : Int) / 2), V.int (alive : Int)][r2]? = some (.int (c : Int)) := by
          match r2, hr2 with
          | 0, _ => exact ⟨0, by omega, rfl⟩
          | 1, _ => exact ⟨r1, by omega, rfl⟩
          | 2, _ => exact ⟨alive / 2, by omega, rfl⟩
          | 3, _ => exact ⟨alive, by omega, rfl⟩
        refine rd_ixL (sq_of t7) hc2 ?_
        walk_at "rd"
        refine for_it walk_rng (fun i σ H' => (∃ x1 x2 x3 x4 x5 x6 x7 x8, σ = [some (.ref p), some (.ref lb), some (.int (alive : Nat)), some (.ref D), none, some (.int (wy : Nat)), x1, x2, x3, x4, some (.int (fw : Nat)), x5, x6, x7, x8]) ∧ ∃ rws, PenV H' p q0 (N + 200 + 4 * i) ∧ LkV H p D ad rws H' ∧ Lk ls alive alive 40 rws)
          ⟨⟨_, _, _, _, _, _, _, _, rfl⟩, rws, hp7.mono (by omega), lk7, ⟨l3.len, fun i xs h => Nat.le_trans (l3.sz i xs h) (by omega), l3.ent, l3.own, l3.cov⟩⟩ (fun _ _ _ _ _ => trivial) ?_ ?_
        · rintro i x _ _ H8 hi ⟨⟨x1, x2, x3, x4, x5, x6, x7, x8, rfl⟩, rws, hp8, lk8, l8⟩ ⟨rfl, hx⟩
          walk_at "rd"
          refine us_draw (m := alive) hp8 (by omega) (by omega) (by omega) fun o1 H9 ho1 hp9 f9 => ?_
          have lk9 := lk8.frp f9
          walk_at "rd"
          refine us_draw (m := alive) hp9 (by omega) (by omega) (by omega) fun o2 H10 ho2 hp10 f10 => ?_
          have lk10 := lk9.frp f10
          walk_at "rd"
          refine join_if (fun σ H' => ∃ o1 o2 : Nat, o1 < alive ∧ o2 < alive ∧ σ = [some (.ref p), some (.ref lb), some (.int (alive : Nat)), some (.ref D), none, some (.int (wy : Nat)), x1, x2, x3, x4, some (.int (fw : Nat)), some x, some (.int (o1 : Int)), some (.int (o2 : Int)), x8] ∧ H' = H10) (fun N' tail => if_b (fun hc1 => ?_) (fun hc1 => ?_)) ?_
          · walk_at "rd"
            refine ⟨_, _, rfl, ?_⟩
            rw [show (if (o2 : Int) < (o1 : Int) then (o2 : Int) else (o1 : Int)) = ((min o1 o2 : Nat) : Int) from by split <;> omega]
            walk_at "rd"
            refine ⟨_, _, rfl, ?_⟩
            rw [show (if (o2 : Int) > (o1 : Int) then (o2 : Int) else (o1 : Int)) = ((max o1 o2 : Nat) : Int) from by split <;> omega]
            walk_at "rd"
            exact tail _ _ ⟨_, _, by omega, by omega, rfl, rfl⟩
          · walk_at "rd"
            exact tail _ _ ⟨o1, o2, ho1, ho2, rfl, rfl⟩
          · rintro σ H11 ⟨p1, p2, hp1', hp2', rfl, rfl⟩
            have hlb11 := lk10.fr _ _ hlp hlb
            have hl1 : p1 < ls.length := by omega
            have hl2 : p2 < ls.length := by omega
            have hg1 := List.getElem?_eq_getElem hl1
            have hg2 := List.getElem?_eq_getElem hl2
            generalize ls[p1] = u1 at hg1
            generalize ls[p2] = u2 at hg2
            have hi1 : (ivs ls)[p1]? = some (.int (u1 : Nat)) := ivs_get hg1
            have hi2 : (ivs ls)[p2]? = some (.int (u2 : Nat)) := ivs_get hg2
            refine rd_cut (fun σ H' => ∃ e : Option Nat, (∀ u, e = some u → u = u2) ∧ σ = [some (.ref p), some (.ref lb), some (.int (alive : Nat)), some (.ref D), none, some (.int (wy : Nat)), x1, x2, x3, x4, some (.int (fw : Nat)), some x, some (.int (p1 : Int)), some (.int (p2 : Int)), some (ent e)] ∧ LkV H p D ad rws H' ∧ PenV H' p q0 (N + 200 + 4 * i + 3)) (fun N' tail => ?_) ?_
            · walk_at "rd"
              rename_i L hL
              have f12 : FrP p H11 (upd H11 L (.lst [V.int (u2 : Int), V.non])) := .ex (Ex.new hL)
              have hp12 := hp10.ex (Ex.new (o := .lst [V.int (u2 : Int), V.non]) hL)
              have lk12 := lk10.frp f12
              have t12 : upd H11 L (.lst [V.int (u2 : Int), V.non]) L = some (.lst [V.int (u2 : Int), V.non]) := upd_same
              have hLp2 : L ≠ p := (hp10.off hL).1
              generalize upd H11 L (.lst [V.int (u2 : Int), V.non]) = H12 at f12 hp12 lk12 t12 ⊢
              refine us_draw (m := 4) hp12 (by omega) (by decide) (by decide) fun r3 H13 hr3 hp13 f13 => ?_
              have lk13 := lk12.frp f13
              have t13 := f13 _ _ hLp2 t12
              have fin0 : N' [some (.ref p), some (.ref lb), some (.int (alive : Nat)), some (.ref D), none, some (.int (wy : Nat)), x1, x2, x3, x4, some (.int (fw : Nat)), some x, some (.int (p1 : Int)), some (.int (p2 : Int)), some (.int (u2 : Int))] H13 := tail _ _ ⟨some u2, fun u hu => (Option.some.inj hu).symm, rfl, lk13, hp13.mono (by omega)⟩
              have fin1 : N' [some (.ref p), some (.ref lb), some (.int (alive : Nat)), some (.ref D), none, some (.int (wy : Nat)), x1, x2, x3, x4, some (.int (fw : Nat)), some x, some (.int (p1 : Int)), some (.int (p2 : Int)), some .non] H13 := tail _ _ ⟨none, fun u hu => (by cases hu), rfl, lk13, hp13.mono (by omega)⟩
              walk_at "rd"
              refine if_b (fun hc2 => ?_) (fun hc2 => ?_)
              · walk_at "rd"
                refine .inr ⟨_, rfl, ?_⟩
                walk_at "rd"
                refine rd_ixL1 (sq_of t13) rfl ?_
                exact fin1
              · walk_at "rd"
                refine if_b (fun hc3 => ?_) (fun hc3 => ?_)
                · walk_at "rd"
                  refine .inr ⟨_, rfl, ?_⟩
                  cases hdd : decide (V.int (p1 : Int) = V.int (p2 : Int)) with
                  | true =>
                    refine rd_ixL1 (sq_of t13) rfl ?_
                    exact fin1
                  | false =>
                    refine rd_ixL0 (sq_of t13) rfl ?_
                    exact fin0
                · walk_at "rd"
                  refine .inr ⟨_, rfl, ?_⟩
                  refine rd_ixL0 (sq_of t13) rfl ?_
                  exact fin0
            · rintro σ H14 ⟨e, he, rfl, lk14, hp14⟩
              have hlb14 := lk14.fr _ _ hlp hlb
              have hD14 := lk14.hR
              have hrow := hls u1 (List.mem_of_getElem? hg1)
              have hrowl : u1 < ad.length := by omega
              have hadr := List.getElem?_eq_getElem hrowl
              generalize ad[u1] = ra at hadr
              have hrr : u1 < rws.length := by rw [l8.len]; exact hrow
              have hxr := List.getElem?_eq_getElem hrr
              generalize rws[u1] = xs at hxr
              have hra14 := lk14.rl u1 ra xs hadr hxr
              have hxs := l8.sz u1 xs hxr
              have hai : (ad.map V.ref)[u1]? = some (.ref ra) := by simp [hadr]
              walk_at "rd"
              refine if_b (fun hc4 => ?_) (fun hc4 => ?_)
              · have hc4 := of_decide_eq_true hc4
                rw [List.length_map] at hc4
                walk_at "rd"
                rw [show (((xs.map ent).length : Nat) : Int) + 1 = ((xs.length + 1 : Nat) : Int) from by rw [List.length_map]; omega]
                refine us_draw (m := xs.length + 1) hp14 (by omega) (by omega) (by omega) fun r7 H15 hr7 hp15 f15 => ?_
                have lk15 := lk14.frp f15
                have hra15 := lk15.rl u1 ra xs hadr hxr
                walk_at "rd"
                refine ⟨ra, xs.map ent, _, _, rfl, rfl, hra15, by rw [List.length_map]; exact lt40 (by omega), by omega, by omega, ?_⟩
                rw [ins_ents]
                refine ⟨⟨_, _, _, _, _, _, _, _, rfl⟩, rws.set u1 (xs.take r7 ++ e :: xs.drop r7), ?_, lk15.ins hadr, ?_⟩
                · exact (hp15.set (hadq ra (List.mem_of_getElem? hadr))).mono (by omega)
                · exact l8.ins hxr hp1' hg1 (fun v hv => ⟨p2, hp2', by rw [he v hv]; exact hg2⟩) (by omega) (by omega) (by omega) (fun j' v h1 h2 h3 => by omega)
              · walk_at "rd"
                exact ⟨⟨_, _, _, _, _, _, _, _, rfl⟩, rws, hp14.mono (by omega), lk14, l8⟩
        · rintro σ H8 ⟨⟨x1, x2, x3, x4, x5, x6, x7, x8, rfl⟩, rws, hp8, lk8, l8⟩
          walk_at "rd"
          exact q D ad rws H8 (hp8.mono (by omega)) lk8 l8
end
end Sf
/-! the law's own: base -/
namespace Sf
open PySem PySem.Spec PyProof.Rows L2 Evl
local macro_rules | `(tactic| walk_at "hx") => `(tactic| first | assumption | exact upd_same | (with_reducible refine upd_fr ?_ (by assumption); walk_at "hx") | (refine ex_get (by assumption) ?_; walk_at "hx"))
local macro_rules | `(tactic| walk_at "ex") => `(tactic| first | assumption | exact Ex.refl _ | (with_reducible refine ex_new ?_ (by assumption); walk_at "ex") | (refine Ex.trans ?_ (by assumption); walk_at "ex"))
local macro_rules | `(tactic| walk_at "sqT") => `(tactic| first | (with_reducible assumption) | exact st_of (by walk_at "hx"))
local macro_rules | `(tactic| walk_at "sqL") => `(tactic| first | (with_reducible assumption) | exact sq_of (by walk_at "hx"))
local macro_rules | `(tactic| walk_at "sq") => `(tactic| first | (with_reducible assumption) | exact st_of (by walk_at "hx") | exact sq_of (by walk_at "hx"))
local macro_rules | `(tactic| walk_at "ty") => `(tactic| first | exact TyX.base (.int _) | exact TyX.base .non | exact TyX.base (.bl _) | exact TyX.base (.str _) | exact TyX.base (.tup (by walk_at "hx")) | exact TyX.base (.lst (by walk_at "hx")))
local macro_rules | `(tactic| walk_at "rd1") => `(tactic| first
  | with_reducible refine rd_seq ?_
  | ((with_reducible refine' rd_var ?h ?_); (case h => exact rfl))
  | with_reducible refine rd_c ?_
  | with_reducible refine rd_op ?_
  | with_reducible refine rd_un ?_
  | with_reducible refine rd_CB ?_
  | with_reducible refine rd_call ?_
  | with_reducible refine rd_cons ?_
  | with_reducible refine rd_nil ?_
  | with_reducible refine rd_I0 ?_
  | with_reducible refine rd_U ?_
  | with_reducible refine rd_ret ?_
  | with_reducible refine rd_retN ?_
  | with_reducible refine rd_next ?_
  | with_reducible refine rd_asg ?_
  | with_reducible refine rd_gName ?_
  | with_reducible refine rd_drop ?_
  | with_reducible refine rd_ifS ?_
  | with_reducible refine rd_test ?_
  | with_reducible refine rd_B ?_
  | with_reducible refine rd_notT ?_
  | with_reducible refine rd_andT ?_
  | with_reducible refine rd_orT ?_
  | with_reducible refine rd_andV ?_
  | with_reducible refine rd_orV ?_
  | with_reducible refine rd_notV ?_
  | with_reducible refine rd_ifE ?_
  | with_reducible refine rd_chain ?_
  | with_reducible refine rd_tup ?_
  | with_reducible refine rd_lst ?_
  | with_reducible refine rd_k ?_
  | with_reducible refine rd_eqS rfl ?_
  | with_reducible refine rd_neS rfl ?_
  | ((with_reducible refine rd_and (small40 (Nat.le_of_ble_eq_true rfl)) ?_); intro _ _)
  | (with_reducible refine' rd_isiT2 (k := "tuple") ?ty ?hx kb_tl kb_tt ?_; (case ty => walk_at "ty"); (case hx => walk_at "hx"))
  | with_reducible refine us_is_integer ?_
  | with_reducible refine us_is_between ?_
  | ((with_reducible refine' rd_ixT0 ?sq ?g ?_); (case sq => walk_at "sqT"); (case g => first | exact rfl | assumption))
  | ((with_reducible refine' rd_ixT1 ?sq ?g ?_); (case sq => walk_at "sqT"); (case g => first | exact rfl | assumption))
  | ((with_reducible refine' rd_ixT2 ?sq ?g ?_); (case sq => walk_at "sqT"); (case g => first | exact rfl | assumption))
  | ((with_reducible refine' rd_ixT3 ?sq ?g ?_); (case sq => walk_at "sqT"); (case g => first | exact rfl | assumption))
  | ((with_reducible refine' rd_ixT4 ?sq ?g ?_); (case sq => walk_at "sqT"); (case g => first | exact rfl | assumption))
  | ((with_reducible refine' rd_ixL0 ?sq ?g ?_); (case sq => walk_at "sqL"); (case g => first | exact rfl | assumption))
  | ((with_reducible refine' rd_ixL1 ?sq ?g ?_); (case sq => walk_at "sqL"); (case g => first | exact rfl | assumption))
  | ((with_reducible refine' rd_ixL2 ?sq ?g ?_); (case sq => walk_at "sqL"); (case g => first | exact rfl | assumption))
  | ((with_reducible refine' rd_ixT ?sq ?g ?_); (case sq => walk_at "sqT"); (case g => first | assumption | exact rfl))
  | ((with_reducible refine' rd_ixL ?sq ?g ?_); (case sq => walk_at "sqL"); (case g => first | assumption | exact rfl))
  | with_reducible refine rd_sl ?_
  | with_reducible refine rd_noPart ?_
  | with_reducible refine rd_part ?_
  | with_reducible refine rd_pt1 ?_
  | with_reducible refine rd_make ?_
  | with_reducible refine rd_callN ?_
  | with_reducible refine rd_makeN ?_
  | with_reducible refine rd_revT ?_
  | with_reducible refine rd_dc ?_
  | with_reducible refine rd_notinD ?_
  | with_reducible refine rd_inD ?_
  | with_reducible refine rd_dget ?_
  | with_reducible refine rd_dput ?_
  | ((with_reducible refine' rd_fld1 ?h ?c ?n ?l ?_); (case h => walk_at "hx"); (case c => first | exact Tx.c_Unwinding (by assumption) | exact Tx.c_Store (by assumption)); (case n => first | exact Tx.n_Unwinding_rows (by assumption) | exact Tx.n_Unwinding_references (by assumption) | exact Tx.n_Unwinding_tallies (by assumption) | exact Tx.n_Unwinding_bound (by assumption) | exact Tx.n_Unwinding_log (by assumption) | exact Tx.n_Unwinding_shelf (by assumption) | exact Tx.n_Unwinding_peak (by assumption) | exact Tx.n_Unwinding_events (by assumption) | exact Tx.n_Store_snapshots (by assumption) | exact Tx.n_Store_recorded (by assumption) | exact Tx.n_Store_observer (by assumption) | exact Tx.n_Store_is_busy (by assumption)); (case l => exact rfl))
  | ((with_reducible refine' rd_sFld1 ?h ?c ?n ?l ?_); (case h => walk_at "hx"); (case c => first | exact Tx.c_Unwinding (by assumption) | exact Tx.c_Store (by assumption)); (case n => first | exact Tx.n_Unwinding_rows (by assumption) | exact Tx.n_Unwinding_references (by assumption) | exact Tx.n_Unwinding_tallies (by assumption) | exact Tx.n_Unwinding_bound (by assumption) | exact Tx.n_Unwinding_log (by assumption) | exact Tx.n_Unwinding_shelf (by assumption) | exact Tx.n_Unwinding_peak (by assumption) | exact Tx.n_Unwinding_events (by assumption) | exact Tx.n_Store_snapshots (by assumption) | exact Tx.n_Store_recorded (by assumption) | exact Tx.n_Store_observer (by assumption) | exact Tx.n_Store_is_busy (by assumption)); (case l => exact Nat.le_of_ble_eq_true rfl))
  | ((with_reducible refine' rd_meth1 ?h ?l ?_); (case h => walk_at "hx"); (case l => exact rfl))
  | ((with_reducible refine' rd_and (rd_tyL ?h) ?_); (case h => walk_at "hx"))
  | ((with_reducible refine' rd_rng1 ?hn ?_); (case hn => first | omega | (simp; omega)))
  | with_reducible refine rd_nx ?_
  | with_reducible refine rd_rt ?_
  | with_reducible refine rd_ct ?_
  | with_reducible refine rd_bk ?_
  | ((with_reducible refine' rd_isi ?ty ?kb ?_); (case ty => walk_at "ty"); (case kb => first | exact kb_ii | exact kb_ib | exact kb_tt | exact kb_tl | exact kb_ss | exact kb_nt))
  | with_reducible refine rd_for ?_
  | with_reducible refine rd_iTup ?_
  | with_reducible refine rd_iList ?_
  | with_reducible refine rd_iRng1 ?_
  | with_reducible refine rd_iRng2 ?_
  | with_reducible refine rd_iEnumT ?_
  | with_reducible refine rd_iEnum ?_
  | with_reducible refine rd_lc ?_
  | with_reducible refine rd_yes ?_
  | ((with_reducible refine' rd_gTup ?sq ?n ?_); (case sq => walk_at "sqT"); (case n => exact rfl))
  | with_reducible refine rd_gCons ?_
  | with_reducible refine rd_gNil ?_
  | with_reducible refine rd_fld ?_
  | with_reducible refine rd_meth ?_
  | with_reducible refine rd_sFld ?_
  | with_reducible refine rd_BM ?_
  | with_reducible refine rd_BM0 ?_
  | ((with_reducible refine' rd_orRow ?h (by assumption) ?_); (case h => exact rfl))
  | with_reducible refine rd_augS ?_
  | with_reducible refine rd_ip ?_
  | with_reducible refine rd_gSub ?_
  | ((with_reducible refine' rd_aug ?h ?_); (case h => exact rfl))
  | with_reducible refine rd_par ?_
  | with_reducible refine rd_par1 ?_
  | ((with_reducible refine' rd_lenT ?sq ?_); (case sq => exact st_of (by walk_at "hx")))
  | ((with_reducible refine' rd_lenL ?sq ?_); (case sq => exact sq_of (by walk_at "hx")))
  | ((with_reducible refine' rd_itt ?sq ?_); (case sq => walk_at "sqT"))
  | ((with_reducible refine' rd_itl ?sq ?_); (case sq => walk_at "sqL"))
  | ((with_reducible refine' rd_enumT ?sq ?_); (case sq => walk_at "sqT"))
  | ((with_reducible refine' rd_enumL ?sq ?_); (case sq => walk_at "sqL"))
  | with_reducible refine rd_and rfl ?_
  | with_reducible refine if_t rfl ?_
  | with_reducible refine if_f rfl ?_)
local macro_rules | `(tactic| walk_at "rd") => `(tactic| repeat (walk_at "rd1"))
theorem rg_ivs (n : Nat) : rgV 0 (n : Int) = ivs (List.range n) := by
  unfold rgV ivs
  have e : ((n : Int) - 0).toNat = n := by omega
  rw [e]
  apply List.map_congr_left
  intro i _
  rw [Int.zero_add]
theorem cut_drop (ls : List Nat) (k : Nat) (h : k ≤ ls.length) : cutV (ivs ls) (some (k : Int)) none = ivs (ls.drop k) := by
  unfold cutV
  rw [HT.sIx_none, HT.sIx_nat, ivs_len, Nat.min_eq_left h]
  unfold ivs
  rw [← List.map_drop]
  exact List.take_of_length_le (by simp)
/-- the rows once those of dead labels are gone -/
def rsK (rws : List (List (Option Nat))) (dead : List Nat) : List Row := (List.range rws.length).map fun i => if i ∈ dead then none else some ((rws[i]?).getD [])
theorem rsK_get {rws : List (List (Option Nat))} {dead : List Nat} {i : Nat} (h : i < rws.length) : (rsK rws dead)[i]? = some (if i ∈ dead then none else some ((rws[i]?).getD [])) := by
  unfold rsK
  rw [List.getElem?_map, List.getElem?_range h]
  rfl
theorem rsK_len (rws : List (List (Option Nat))) (dead : List Nat) : (rsK rws dead).length = rws.length := by simp [rsK]
theorem rsK_set {rws : List (List (Option Nat))} {dead : List Nat} {l : Nat} : (rsK rws dead).set l none = rsK rws (dead ++ [l]) := by
  apply List.ext_getElem?
  intro i
  rw [List.getElem?_set]
  by_cases hi : i < rws.length
  · rw [rsK_get hi]
    by_cases e : l = i
    · subst e
      rw [if_pos rfl, if_pos (by rw [rsK_len]; exact hi), rsK_get hi, if_pos (by simp)]
    · rw [if_neg e, rsK_get hi]
      have : i ∈ dead ++ [l] ↔ i ∈ dead := by simp [Ne.symm e]
      simp only [this]
  · have h1 : (rsK rws (dead ++ [l]))[i]? = none := List.getElem?_eq_none (by rw [rsK_len]; omega)
    have h2 : (rsK rws dead)[i]? = none := List.getElem?_eq_none (by rw [rsK_len]; omega)
    rw [h1, h2]
    by_cases e : l = i
    · rw [if_pos e, if_neg (by rw [rsK_len]; omega)]
    · rw [if_neg e]
theorem base_vh {ls hs : List Nat} {alive : Nat} {rws : List (List (Option Nat))} (hp : ls.Perm (List.range ls.length)) (h40 : ls.length ≤ 40) (ha : 1 ≤ alive) (hal : alive ≤ ls.length) (l : Lk ls alive alive 40 rws) (hl : hs.length = ls.length) (h9 : ∀ (i o : Nat), hs[i]? = some o → o ≤ 9)
    (hz : ∀ i : Nat, outc hs i ≠ 0 → ∃ j, j < alive ∧ ls[j]? = some i) (h0 : ∀ u, ls[0]? = some u → 1 ≤ outc hs u) : Vh (rsK rws (ls.drop alive), hs) := by
  have nd : ls.Nodup := hp.symm.nodup List.nodup_range
  have mem : ∀ x, x ∈ ls ↔ x < ls.length := fun x => by rw [hp.mem_iff, List.mem_range]
  have alv : ∀ i : Nat, (∃ j, j < alive ∧ ls[j]? = some i) → i ∉ ls.drop alive := by
    rintro i ⟨j, hj1, hj2⟩ m
    obtain ⟨k, hk⟩ := List.getElem?_of_mem m
    rw [List.getElem?_drop] at hk
    obtain ⟨a1, a2⟩ := List.getElem?_eq_some_iff.mp hj2
    obtain ⟨b1, b2⟩ := List.getElem?_eq_some_iff.mp hk
    have := (List.getElem_inj nd).mp (a2.trans b2.symm)
    omega
  have rl := l.len
  have row : ∀ (i : Nat) (xs : List (Option Nat)), (rsK rws (ls.drop alive))[i]? = some (some xs) → rws[i]? = some xs := fun i xs h => by
    have hi := (List.getElem?_eq_some_iff.mp h).1
    rw [rsK_len] at hi
    rw [rsK_get hi] at h
    have h := Option.some.inj h
    split at h
    · cases h
    · rw [List.getElem?_eq_getElem hi] at h ⊢
      exact h
  have ent : ∀ (i : Nat) (xs : List (Option Nat)) (u : Nat), (rsK rws (ls.drop alive))[i]? = some (some xs) → some u ∈ xs → ∃ j, j < alive ∧ ls[j]? = some u := fun i xs u h m => l.ent i xs u (row i xs h) m
  refine ⟨by show (rsK _ _).length = _; rw [rsK_len, rl, hl], by show (rsK _ _).length ≤ 40; rw [rsK_len, rl]; exact h40, fun i r h xs e => ?_, h9, fun v h => ?_, fun v xs h => ?_⟩
  · subst e
    refine ⟨l.sz i xs (row i xs h), fun v m => ?_⟩
    obtain ⟨j, _, hj⟩ := ent i xs v h m
    show v < (rsK _ _).length
    rw [rsK_len, rl]
    exact (mem v).mp (List.mem_of_getElem? hj)
  · have hi := (List.getElem?_eq_some_iff.mp h).1
    have h : (rsK rws (ls.drop alive))[v]? = some none := h
    have hi : v < rws.length := by
      have := hi
      rw [rsK_len] at this
      exact this
    rw [rsK_get hi] at h
    have hd : v ∈ ls.drop alive := by
      by_cases e : v ∈ ls.drop alive
      · exact e
      · rw [if_neg e] at h
        cases h
    have z1 : outc hs v = 0 := by
      by_cases e : outc hs v = 0
      · exact e
      · exact absurd hd (alv v (hz v e))
    have z2 : cnt (rsK rws (ls.drop alive)) v = 0 := cnt_eq_zero.mpr fun i xs h m => alv v (ent i xs v h m) hd
    show outc hs v + cnt (rsK rws (ls.drop alive)) v = 0
    omega
  · have hi : v < rws.length := by
      have := (List.getElem?_eq_some_iff.mp h).1
      rw [rsK_len] at this
      exact this
    have hnd : v ∉ ls.drop alive := by
      intro e
      have h : (rsK rws (ls.drop alive))[v]? = some (some xs) := h
      rw [rsK_get hi, if_pos e] at h
      cases h
    have hv : v ∈ ls := (mem v).mpr (by omega)
    obtain ⟨j, hj⟩ := List.getElem?_of_mem hv
    have hja : j < alive := by
      by_cases e : j < alive
      · exact e
      · exact absurd (List.mem_of_getElem? (show (ls.drop alive)[j - alive]? = some v by rw [List.getElem?_drop, show alive + (j - alive) = j by omega]; exact hj)) hnd
    show 1 ≤ outc hs v + cnt (rsK rws (ls.drop alive)) v
    by_cases e : j = 0
    · subst e
      have := h0 v hj
      omega
    · obtain ⟨i', ys, g1, g2⟩ := l.cov j v (by omega) hja hj
      have hown := l.own i' ys g1 (by intro z; rw [z] at g2; cases g2)
      have hi' := (List.getElem?_eq_some_iff.mp g1).1
      have g3 : (rsK rws (ls.drop alive))[i']? = some (some ys) := by
        rw [rsK_get hi', if_neg (alv i' hown), g1]
        rfl
      have := cnt_pos g3 g2
      omega
theorem rd_lstRg {σ : L2.St} {H : Hp} {Q : VK} {ta : TE} (h : ta σ H fun x H1 => ∃ n, x = .int n ∧ RgOk 0 n ∧ ∀ q, H1 q = none → Q (.ref q) (upd H1 q (.lst (rgV 0 n)))) : tLstRg (tRg1 ta) σ H Q := by
  show ta σ H fun x H1 => ∃ n, x = .int n ∧ (RgOk 0 n ∧ ∀ q, H1 q = none → Q (.ref q) (upd H1 q (.lst (rgV 0 n))))
  exact h
theorem rgOk {n : Nat} (h : n ≤ 1000) : RgOk 0 (n : Int) := ⟨by omega, by omega, by omega, by omega, by omega⟩
theorem frp_none {p D : Addr} {H H1 : Hp} (f : FrP p H H1) (hp : D ≠ p) (h : H1 D = none) : H D = none := by
  cases e : H D with
  | none => rfl
  | some o =>
    rw [f D o hp e] at h
    cases h
theorem FrP.set {p D : Addr} {H H1 : Hp} {o : HO} (f : FrP p H H1) (h : H D = none) : FrP p H (upd H1 D o) := fun a u ha hu => by
  rw [upd_ne (ne_of_none hu h)]
  exact f a u ha hu
theorem LkV.aside {H0 H : Hp} {p R D : Addr} {ad : List Addr} {rws : List (List (Option Nat))} {o : HO} (l : LkV H0 p R ad rws H) (h1 : D ≠ R) (h2 : ∀ a ∈ ad, a ≠ D) (h3 : H0 D = none) : LkV H0 p R ad rws (upd H D o) where
  fr := l.fr.set h3
  hR := by rw [upd_ne (Ne.symm h1)]; exact l.hR
  R0 := l.R0
  Rp := l.Rp
  nd := l.nd
  off := l.off
  ll := l.ll
  rl := fun i a xs g1 g2 => by rw [upd_ne (h2 a (List.mem_of_getElem? g1))]; exact l.rl i a xs g1 g2
theorem rsK_nil (rws : List (List (Option Nat))) : rsK rws [] = rws.map some := by
  apply List.ext_getElem?
  intro i
  by_cases hi : i < rws.length
  · rw [rsK_get hi, List.getElem?_map, List.getElem?_eq_getElem hi]
    simp
  · rw [List.getElem?_eq_none (by rw [rsK_len]; omega), List.getElem?_eq_none (by simp; omega)]
theorem Vh.live_of_out {hp : Hv} (V : Vh hp) {v : Nat} (hv : v < hp.1.length) (h : 0 < outc hp.2 v) : Live hp.1 v := by
  refine live_iff_lt.mpr ⟨hv, fun e => ?_⟩
  have := V.free v e
  omega
def sp_l_base : Sp := fun vs H Q _ => match vs with
  | [x] => ∃ (p q0 : Addr) (N : Nat), x = .ref p ∧ PenV H p q0 N ∧ N ≤ 1000 ∧ ∀ t v0 hv hp H', PenV H' p q0 (N + 2000) → FrP p H H' → H' t = some (.tup [hv, v0]) → HeapV H' hv hp → Vh hp → (∃ v, Live hp.1 v) → Q (.ref t) H'
  | _ => False
section
variable {P : Program} {w : World} {K : PySem.W.Frag} {mg : Str → Option Value} {base : Heap}
theorem ok_l_base (T : Tx K mg) : FnOk P w K mg base CX0 3 (a_l_base K) (fd_l_base K) ["_law_pen_here"] (sp_l_base) := by
  refine FunD.ok T.f_l_base sc_l_base (fun vs H Q E h => match vs, h with | [_], _ => rfl) (fun cdv A outer s H vs Q E hr h => ⟨_, PSs.nox (pss_cons (ps_set (i := 1) sc_l_base.nd rfl (Or.inl rfl) (pe_ix (ixL (K := K)) (pe_lst (pa_cons (pe_op op_add pe_int (pe_call (ok_l_draw T) (hr.mono (by omega)) (by rfl) T.g_l_draw T.k_l_draw T.b_l_draw .nil pass0 (pa_cons (pv 0) (pa_cons pe_int pa_nil)))) (pa_cons (pe_op op_add pe_int (pe_call (ok_l_draw T) (hr.mono (by omega)) (by rfl) T.g_l_draw T.k_l_draw T.b_l_draw .nil pass0 (pa_cons (pv 0) (pa_cons pe_int pa_nil)))) (pa_cons pe_int (pa_cons (pe_op op_add pe_int (pe_call (ok_l_draw T) (hr.mono (by omega)) (by rfl) T.g_l_draw T.k_l_draw T.b_l_draw .nil pass0 (pa_cons (pv 0) (pa_cons pe_int pa_nil)))) pa_nil))))) (pe_call (ok_l_draw T) (hr.mono (by omega)) (by rfl) T.g_l_draw T.k_l_draw T.b_l_draw .nil pass0 (pa_cons (pv 0) (pa_cons pe_int pa_nil))) (fun _ _ => rfl)))
      (pss_cons (ps_set (i := 2) sc_l_base.nd rfl (Or.inl rfl) (pe_ix (ixL (K := K)) (pe_lst (pa_cons pe_int (pa_cons pe_int (pa_cons (pe_call (ok_l_draw T) (hr.mono (by omega)) (by rfl) T.g_l_draw T.k_l_draw T.b_l_draw .nil pass0 (pa_cons (pv 0) (pa_cons (pe_op op_sub pe_int (pv 1)) pa_nil))) (pa_cons (pe_callB (call_min2 rfl) (by rfl) T.z_min (by decide +kernel) (pa_cons pe_int (pa_cons (pe_op op_sub pe_int (pv 1)) pa_nil))) pa_nil))))) (pe_call (ok_l_draw T) (hr.mono (by omega)) (by rfl) T.g_l_draw T.k_l_draw T.b_l_draw .nil pass0 (pa_cons (pv 0) (pa_cons pe_int pa_nil))) (fun _ _ => rfl)))
      (pss_cons (ps_set (i := 3) sc_l_base.nd rfl (Or.inl rfl) (pe_call (ok_l_shuffled T) (hr.mono (by omega)) (by rfl) T.g_l_shuffled T.k_l_shuffled T.b_l_shuffled .nil pass0 (pa_cons (pv 0) (pa_cons (pe_listRg rfl (by rfl) T.z_list (prg_1 (by rfl) T.z_range (pe_op op_add (pv 1) (pv 2)))) pa_nil))))
      (pss_cons (ps_set (i := 4) sc_l_base.nd rfl (Or.inl rfl) (pe_call (ok_l_linked T) (hr.mono (by omega)) (by rfl) T.g_l_linked T.k_l_linked T.b_l_linked .nil pass0 (pa_cons (pv 0) (pa_cons (pv 3) (pa_cons (pv 1) pa_nil)))))
      (pss_cons (ps_setLc (i := 5) rfl sc_l_base.nd rfl rfl (sw_true rfl rfl rfl (by decide +kernel)) (pi_list (pv 3)) (blkOk_by (own := [("_law_label", 6)]) (N := N_l_base) (sc := defScope s_l_base) (by decide +kernel)) (fun _ _ _ _ _ => (pg_name (i := 6) sc_l_base.nd rfl (Or.inl rfl) (by exact Or.inr rfl))) (fun _ _ _ _ _ => pts_nil) (fun _ _ _ _ _ => pe_int))
      (pss_cons (ps_for PassesOwn.never rfl (pi_range1 (by rfl) T.z_range (pa_cons (pe_ix (ixL (K := K)) (pe_lst (pa_cons pe_int (pa_cons pe_int (pa_cons pe_int (pa_cons pe_int pa_nil))))) (pe_call (ok_l_draw T) (hr.mono (by omega)) (by rfl) T.g_l_draw T.k_l_draw T.b_l_draw .nil pass0 (pa_cons (pv 0) (pa_cons pe_int pa_nil))) (fun _ _ => rfl)) pa_nil)) (pg_name (i := 7) sc_l_base.nd rfl (Or.inl rfl) (by exact Or.inl rfl)) (pss_one (ps_asg (pe_op op_add pe_int (pe_call (ok_l_draw T) (hr.mono (by omega)) (by rfl) T.g_l_draw T.k_l_draw T.b_l_draw .nil pass0 (pa_cons (pv 0) (pa_cons pe_int pa_nil)))) (pg_sub (pv 5) (pe_ix (ixL (K := K)) (pv 3) (pe_call (ok_l_draw T) (hr.mono (by omega)) (by rfl) T.g_l_draw T.k_l_draw T.b_l_draw .nil pass0 (pa_cons (pv 0) (pa_cons (pv 1) pa_nil))) (fun _ _ => rfl)) set_list))))
      (pss_cons (ps_asg (pe_ix (ixL (K := K)) (pe_lst (pa_cons pe_int (pa_cons pe_int (pa_cons pe_int (pa_cons pe_int (pa_cons pe_int pa_nil)))))) (pe_call (ok_l_draw T) (hr.mono (by omega)) (by rfl) T.g_l_draw T.k_l_draw T.b_l_draw .nil pass0 (pa_cons (pv 0) (pa_cons pe_int pa_nil))) (fun _ _ => rfl)) (pg_sub (pv 5) (pe_ix (ixL (K := K)) (pv 3) pe_int (fun _ _ => rfl)) set_list))
      (pss_cons (ps_setLc (i := 4) rfl sc_l_base.nd rfl rfl (sw_true rfl rfl rfl (by decide +kernel)) (pi_list (pv 4)) (blkOk_by (own := [("_law_row", 8)]) (N := N_l_base) (sc := defScope s_l_base) (by decide +kernel)) (fun _ _ _ _ _ => (pg_name (i := 8) sc_l_base.nd rfl (Or.inl rfl) (by exact Or.inr rfl))) (fun _ _ _ _ _ => pts_nil) (fun _ _ _ _ _ => (pe_callTy (cTuple (K := K)) (by rfl) T.z_tuple (by decide +kernel) (pa_cons (pv 8) pa_nil))))
      (pss_cons (ps_for PassesOwn.never rfl (pi_list (pe_slice sl_list (pv 3) (po_some (pv 1)) po_none)) (pg_name (i := 6) sc_l_base.nd rfl (Or.inl rfl) (by exact Or.inl rfl)) (pss_one (ps_asg pe_non (pg_sub (pv 4) (pv 6) set_list))))
      (pss_one (ps_ret (pe_tup (pa_cons (pe_tup (pa_cons (pe_callTy (cTuple (K := K)) (by rfl) T.z_tuple (by decide +kernel) (pa_cons (pv 4) pa_nil)) (pa_cons (pe_callTy (cTuple (K := K)) (by rfl) T.z_tuple (by decide +kernel) (pa_cons (pv 5) pa_nil)) pa_nil))) (pa_cons (pe_ix (ixL (K := K)) (pv 3) pe_int (fun _ _ => rfl)) pa_nil)))))))))))))), ?_⟩)
  match vs, h with
  | [v0], h =>
    obtain ⟨p, q0, N, rfl, hp, hN, q⟩ := h
    walk_at "rd"
    refine us_draw (m := 6) hp (by omega) (by decide) (by decide) fun a1 H1 ha1 hp1 f1 => ?_
    walk_at "rd"
    refine us_draw (m := 12) hp1 (by omega) (by decide) (by decide) fun a2 H2 ha2 hp2 f2 => ?_
    walk_at "rd"
    refine us_draw (m := 40) hp2 (by omega) (by decide) (by decide) fun a3 H3 ha3 hp3 f3 => ?_
    walk_at "rd"
    rename_i L1 hL1
    have f4 : FrP p H3 (upd H3 L1 (.lst [V.int (1 + (a1 : Int)), V.int (2 + (a2 : Int)), V.int 40, V.int (1 + (a3 : Int))])) := .ex (Ex.new hL1)
    have hp4 := hp3.ex (Ex.new (o := .lst [V.int (1 + (a1 : Int)), V.int (2 + (a2 : Int)), V.int 40, V.int (1 + (a3 : Int))]) hL1)
    have t4 : upd H3 L1 (.lst [V.int (1 + (a1 : Int)), V.int (2 + (a2 : Int)), V.int 40, V.int (1 + (a3 : Int))]) L1 = some (.lst [V.int (1 + (a1 : Int)), V.int (2 + (a2 : Int)), V.int 40, V.int (1 + (a3 : Int))]) := upd_same
    have hLp := (hp3.off hL1).1
    generalize upd H3 L1 (.lst [V.int (1 + (a1 : Int)), V.int (2 + (a2 : Int)), V.int 40, V.int (1 + (a3 : Int))]) = H4 at f4 hp4 t4 ⊢
    refine us_draw (m := 4) hp4 (by omega) (by decide) (by decide) fun a5 H5 ha5 hp5 f5 => ?_
    obtain ⟨al, hal1, hal2, hal3⟩ : ∃ al : Nat, 1 ≤ al ∧ al ≤ 40 ∧ [V.int (1 + (a1 : Int)), V.int (2 + (a2 : Int)), V.int 40, V.int (1 + (a3 : Int))][a5]? = some (.int (al : Int)) := by
      match a5, ha5 with
      | 0, _ => exact ⟨1 + a1, by omega, by omega, by show some (V.int _) = _; congr 2⟩
      | 1, _ => exact ⟨2 + a2, by omega, by omega, by show some (V.int _) = _; congr 2⟩
      | 2, _ => exact ⟨40, by omega, by omega, rfl⟩
      | 3, _ => exact ⟨1 + a3, by omega, by omega, by show some (V.int _) = _; congr 2⟩
    refine rd_ixL (sq_of (f5 _ _ hLp t4)) hal3 ?_
    have F5 := (((f1.trans f2).trans f3).trans f4).trans f5
    walk_at "rd"
    rw [show (41 : Int) - (al : Int) = ((41 - al : Nat) : Int) from by omega]
    refine us_draw (m := 41 - al) hp5 (by omega) (by omega) (by omega) fun b1 H6 hb1 hp6 f6 => ?_
    walk_at "rd"
    refine ⟨_, _, rfl, ?_⟩
    rw [show (if (40 : Int) - (al : Int) < 2 then (40 : Int) - (al : Int) else 2) = ((min 2 (40 - al) : Nat) : Int) from by split <;> omega]
    walk_at "rd"
    rename_i Lb hLb
    have f7 : FrP p H6 (upd H6 Lb (.lst [V.int 0, V.int 0, V.int (b1 : Int), V.int ((min 2 (40 - al) : Nat) : Int)])) := .ex (Ex.new hLb)
    have hp7 := hp6.ex (Ex.new (o := .lst [V.int 0, V.int 0, V.int (b1 : Int), V.int ((min 2 (40 - al) : Nat) : Int)]) hLb)
    have t7 : upd H6 Lb (.lst [V.int 0, V.int 0, V.int (b1 : Int), V.int ((min 2 (40 - al) : Nat) : Int)]) Lb = some (.lst [V.int 0, V.int 0, V.int (b1 : Int), V.int ((min 2 (40 - al) : Nat) : Int)]) := upd_same
    have hLp2 := (hp6.off hLb).1
    generalize upd H6 Lb (.lst [V.int 0, V.int 0, V.int (b1 : Int), V.int ((min 2 (40 - al) : Nat) : Int)]) = H7 at f7 hp7 t7 ⊢
    refine us_draw (m := 4) hp7 (by omega) (by decide) (by decide) fun b2 H8 hb2 hp8 f8 => ?_
    obtain ⟨sp, hsp1, hsp2⟩ : ∃ sp : Nat, sp ≤ 40 - al ∧ [V.int 0, V.int 0, V.int (b1 : Int), V.int ((min 2 (40 - al) : Nat) : Int)][b2]? = some (.int (sp : Int)) := by
      match b2, hb2 with
      | 0, _ => exact ⟨0, by omega, rfl⟩
      | 1, _ => exact ⟨0, by omega, rfl⟩
      | 2, _ => exact ⟨b1, by omega, rfl⟩
      | 3, _ => exact ⟨min 2 (40 - al), by omega, rfl⟩
    refine rd_ixL (sq_of (f8 _ _ hLp2 t7)) hsp2 ?_
    have F8 := ((F5.trans f6).trans f7).trans f8
    walk_at "rd"
    refine rd_lstRg ?_
    walk_at "rd"
    refine ⟨((al + sp : Nat) : Int), by congr 1, rgOk (by omega), fun Lr hLr => ?_⟩
    rw [rg_ivs]
    have f9 : FrP p H8 (upd H8 Lr (.lst (ivs (List.range (al + sp))))) := .ex (Ex.new hLr)
    have hp9 := hp8.ex (Ex.new (o := .lst (ivs (List.range (al + sp)))) hLr)
    have t9 : upd H8 Lr (.lst (ivs (List.range (al + sp)))) Lr = some (.lst (ivs (List.range (al + sp)))) := upd_same
    have hLrp := (hp8.off hLr).1
    generalize upd H8 Lr (.lst (ivs (List.range (al + sp)))) = H9 at f9 hp9 t9 ⊢
    have F9 := F8.trans f9
    walk_at "rd"
    refine Exists.intro p ⟨q0, Lr, _, _, rfl, rfl, hLrp, hp9, by rw [List.length_range]; omega, by rw [List.length_range]; omega, t9, fun lb H10 ls hp10 f10 hlb0 hlbp tlb hperm => ?_⟩
    have hll : ls.length = al + sp := by rw [hperm.length_eq, List.length_range]
    rw [List.length_range] at hp10
    rw [← hll] at hperm
    have F10 := F9.trans f10
    have hlbq : lb ≠ q0 := by
      obtain ⟨_, z⟩ := hp9.q
      exact Ne.symm (ne_of_none z hlb0)
    have nd : ls.Nodup := hperm.symm.nodup List.nodup_range
    have hls : ∀ x ∈ ls, x < ls.length := fun x hx => List.mem_range.mp (hperm.mem_iff.mp hx)
    walk_at "rd"
    refine Exists.intro p ⟨q0, lb, _, al, ls, rfl, rfl, rfl, hp10, by omega, hlbp, hlbq, tlb, hperm, by omega, hal1, by omega, fun R ad rws H11 hp11 lk11 l11 => ?_⟩
    have F11 := F10.trans lk11.fr
    have tlb11 := lk11.fr _ _ hlbp tlb
    have hlbR : lb ≠ R := ne_of_none tlb lk11.R0
    walk_at "rd"
    intro D hD
    refine lc_it (walk_list (xs := ivs ls)) (fun i H' => Acc H11 D (ivs (List.replicate i 0)) H') (Acc.new (Ex.refl H11) hD) (fun i H' _ z => sqL_ex z.2.1 tlb11) ?_ ?_
    · rintro i x _ H12 hi acc ⟨rfl, hx⟩
      rw [ivs_len] at hi
      walk_at "rd"
      refine acc_add acc (by rw [ivs_len, List.length_replicate]; omega) ?_
      rw [List.replicate_succ', ivs_one]
      rfl
    · rintro H12 acc
      rw [ivs_len] at acc
      have hp12 := hp11.ex acc.2.1
      have lk12 := lk11.frp (.ex acc.2.1)
      have F12 := F11.trans (.ex acc.2.1)
      have tD12 := acc.2.2
      have hDo := hp11.off hD
      have tlb12 := acc.2.1 _ _ tlb11
      have hlbD : lb ≠ D := ne_of_none tlb11 hD
      have hDR : D ≠ R := Ne.symm (ne_of_none lk11.hR hD)
      have hDad : ∀ a ∈ ad, a ≠ D := fun a ha => by
        obtain ⟨i, hi⟩ := List.getElem?_of_mem ha
        have hil := (List.getElem?_eq_some_iff.mp hi).1
        exact ne_of_none (lk11.rl i a _ hi (List.getElem?_eq_getElem (by rw [← lk11.ll]; exact hil))) hD
      have hlbad : ∀ a ∈ ad, lb ≠ a := fun a ha => ne_of_none tlb (lk11.off a ha).1
      have hD10 : H10 D = none := frp_none lk11.fr hDo.1 hD
      have hDH : H D = none := frp_none F11 hDo.1 hD
      walk_at "rd"
      rename_i L3 hL3
      have f13 : FrP p H12 (upd H12 L3 (.lst [V.int 0, V.int 0, V.int 1, V.int 3])) := .ex (Ex.new hL3)
      have hp13 := hp12.ex (Ex.new (o := .lst [V.int 0, V.int 0, V.int 1, V.int 3]) hL3)
      have t13 : upd H12 L3 (.lst [V.int 0, V.int 0, V.int 1, V.int 3]) L3 = some (.lst [V.int 0, V.int 0, V.int 1, V.int 3]) := upd_same
      have hL3p := (hp12.off hL3).1
      generalize upd H12 L3 (.lst [V.int 0, V.int 0, V.int 1, V.int 3]) = H13 at f13 hp13 t13 ⊢
      refine us_draw (m := 4) hp13 (by omega) (by decide) (by decide) fun c1 H14 hc1 hp14 f14 => ?_
      obtain ⟨tc, htc1, htc2⟩ : ∃ tc : Nat, tc ≤ 3 ∧ [V.int 0, V.int 0, V.int 1, V.int 3][c1]? = some (.int (tc : Int)) := by
        match c1, hc1 with
        | 0, _ => exact ⟨0, by omega, rfl⟩
        | 1, _ => exact ⟨0, by omega, rfl⟩
        | 2, _ => exact ⟨1, by omega, rfl⟩
        | 3, _ => exact ⟨3, by omega, rfl⟩
      refine rd_ixL (sq_of (f14 _ _ hL3p t13)) htc2 ?_
      have F14 := (F12.trans f13).trans f14
      have lk14 := (lk12.frp f13).frp f14
      have tD14 := f14 _ _ hDo.1 (f13 _ _ hDo.1 tD12)
      have tlb14 := f14 _ _ hlbp (f13 _ _ hlbp tlb12)
      walk_at "rd"
      refine for_it walk_rng (fun i σ H' => (∃ x1, σ = [some (.ref p), some (.int (al : Nat)), some (.int (sp : Nat)), some (.ref lb), some (.ref R), some (.ref D), none, x1, none]) ∧ ∃ hs, PenV H' p q0 (N + 1100 + 2 * i) ∧ FrP p H H' ∧ LkV H10 p R ad rws H' ∧ H' lb = some (.lst (ivs ls)) ∧ H' D = some (.lst (ivs hs)) ∧ hs.length = ls.length ∧ (∀ (i o : Nat), hs[i]? = some o → o ≤ 9) ∧ ∀ i : Nat, outc hs i ≠ 0 → ∃ j, j < al ∧ ls[j]? = some i)
        ⟨⟨_, rfl⟩, _, hp14.mono (by omega), F14, lk14, tlb14, tD14, by simp, fun i o h => by
          have := (List.mem_replicate.mp (List.mem_of_getElem? h)).2
          omega, fun i h => by
          exfalso
          apply h
          unfold outc
          cases e : (List.replicate ls.length 0)[i]? with
          | none => rfl
          | some o => exact (List.mem_replicate.mp (List.mem_of_getElem? e)).2⟩ (fun _ _ _ _ _ => trivial) ?_ ?_
      · rintro i x _ _ H15 hi ⟨⟨x1, rfl⟩, hs, hp15, F15, lk15, tlb15, tD15, hhl, h9, hz⟩ ⟨rfl, hx⟩
        walk_at "rd"
        refine us_draw (m := 9) hp15 (by omega) (by decide) (by decide) fun d1 H16 hd1 hp16 f16 => ?_
        have tlb16 := f16 _ _ hlbp tlb15
        have tD16 := f16 _ _ hDo.1 tD15
        walk_at "rd"
        refine us_draw (m := al) hp16 (by omega) (by omega) (by omega) fun d2 H17 hd2 hp17 f17 => ?_
        have tlb17 := f17 _ _ hlbp tlb16
        have tD17 := f17 _ _ hDo.1 tD16
        have hg := List.getElem?_eq_getElem (l := ls) (i := d2) (by omega)
        generalize hu : ls[d2]'(by omega) = u at hg
        have hgi : (ivs ls)[d2]? = some (.int (u : Nat)) := ivs_get hg
        have hul := hls u (List.mem_of_getElem? hg)
        walk_at "rd"
        refine rd_setL tD17 (by rw [ivs_len]; omega) ?_
        rw [show V.int (1 + (d1 : Int)) = V.int ((1 + d1 : Nat) : Int) from by congr 1, set_ivs]
        refine ⟨⟨_, rfl⟩, _, (hp17.set hDo).mono (by omega), ((F15.trans f16).trans f17).set hDH, ((lk15.frp f16).frp f17).aside hDR hDad hD10, by rw [upd_ne hlbD]; exact tlb17, upd_same, by rw [List.length_set]; exact hhl, fun i o h => ?_, fun i h => ?_⟩
        · rw [List.getElem?_set] at h
          split at h
          · split at h
            · cases h
              omega
            · cases h
          · exact h9 i o h
        · by_cases e : i = u
          · rw [e]
            exact ⟨d2, hd2, hg⟩
          · refine hz i ?_
            intro z
            apply h
            unfold outc at z ⊢
            rw [List.getElem?_set, if_neg (Ne.symm e)]
            exact z
      · rintro σ H15 ⟨⟨x1, rfl⟩, hs, hp15, F15, lk15, tlb15, tD15, hhl, h9, hz⟩
        walk_at "rd"
        rename_i L4 hL4
        have f16 : FrP p H15 (upd H15 L4 (.lst [V.int 1, V.int 1, V.int 1, V.int 2, V.int 9])) := .ex (Ex.new hL4)
        have hp16 := hp15.ex (Ex.new (o := .lst [V.int 1, V.int 1, V.int 1, V.int 2, V.int 9]) hL4)
        have t16 : upd H15 L4 (.lst [V.int 1, V.int 1, V.int 1, V.int 2, V.int 9]) L4 = some (.lst [V.int 1, V.int 1, V.int 1, V.int 2, V.int 9]) := upd_same
        have hL4p := (hp15.off hL4).1
        generalize upd H15 L4 (.lst [V.int 1, V.int 1, V.int 1, V.int 2, V.int 9]) = H16 at f16 hp16 t16 ⊢
        refine us_draw (m := 5) hp16 (by omega) (by decide) (by decide) fun e1 H17 he1 hp17 f17 => ?_
        obtain ⟨ev, hev1, hev2, hev3⟩ : ∃ ev : Nat, 1 ≤ ev ∧ ev ≤ 9 ∧ [V.int 1, V.int 1, V.int 1, V.int 2, V.int 9][e1]? = some (.int (ev : Int)) := by
          match e1, he1 with
          | 0, _ => exact ⟨1, by omega, by omega, rfl⟩
          | 1, _ => exact ⟨1, by omega, by omega, rfl⟩
          | 2, _ => exact ⟨1, by omega, by omega, rfl⟩
          | 3, _ => exact ⟨2, by omega, by omega, rfl⟩
          | 4, _ => exact ⟨9, by omega, by omega, rfl⟩
        refine rd_ixL (sq_of (f17 _ _ hL4p t16)) hev3 ?_
        have tlb17 := f17 _ _ hlbp (f16 _ _ hlbp tlb15)
        have tD17 := f17 _ _ hDo.1 (f16 _ _ hDo.1 tD15)
        have hl0' : 0 < ls.length := by omega
        have hg0 := List.getElem?_eq_getElem hl0'
        generalize ls[0] = u0 at hg0
        have hg0i : (ivs ls)[0]? = some (.int (u0 : Nat)) := ivs_get hg0
        have hu0 := hls u0 (List.mem_of_getElem? hg0)
        walk_at "rd"
        refine rd_setL tD17 (by rw [ivs_len]; omega) ?_
        rw [set_ivs]
        have hp18 := hp17.set (o := .lst (ivs (hs.set u0 ev))) hDo
        have F18 := ((F15.trans f16).trans f17).set (o := .lst (ivs (hs.set u0 ev))) hDH
        have lk18 := ((lk15.frp f16).frp f17).aside (o := .lst (ivs (hs.set u0 ev))) hDR hDad hD10
        have tlb18 : upd H17 D (.lst (ivs (hs.set u0 ev))) lb = some (.lst (ivs ls)) := by rw [upd_ne hlbD]; exact tlb17
        have tD18 : upd H17 D (.lst (ivs (hs.set u0 ev))) D = some (.lst (ivs (hs.set u0 ev))) := upd_same
        generalize upd H17 D (.lst (ivs (hs.set u0 ev))) = H18 at hp18 F18 lk18 tlb18 tD18 ⊢
        have hR18 := lk18.hR
        have hrl : rws.length ≤ 40 := by rw [l11.len]; omega
        walk_at "rd"
        intro D2 hD2
        refine lc_it (walk_list (xs := ad.map V.ref)) (fun i H' => ∃ vs, Acc H18 D2 vs H' ∧ RowsV H' vs ((rws.map some).take i)) ⟨[], Acc.new (Ex.refl _) hD2, by simp, fun i r h => by simp at h⟩ (fun i H' _ z => let ⟨_, z, _⟩ := z; sqL_ex z.2.1 hR18) ?_ ?_
        · rintro i x _ H19 hi ⟨vs, acc, hvs⟩ ⟨rfl, hx⟩
          rw [List.length_map] at hi
          have hir : i < rws.length := by rw [← lk18.ll]; exact hi
          have ha := List.getElem?_eq_getElem hi
          have hr := List.getElem?_eq_getElem hir
          have hx2 : x = .ref ad[i] := by
            rw [List.getElem?_map, ha] at hx
            exact (Option.some.inj hx).symm
          subst hx2
          have hra := acc.2.1 _ _ (lk18.rl i _ _ ha hr)
          generalize rws[i] = xs at hr hra
          generalize ad[i] = ra at ha hra
          have hvl : vs.length = i := by rw [hvs.1, List.length_take, List.length_map]; omega
          walk_at "rd"
          refine rd_tupleOfL (sq_of hra) fun p5 hp5 => ?_
          have acc2 := acc.ex (Ex.new (o := .tup (xs.map ent)) hp5)
          walk_at "rd"
          refine ⟨_, acc2.2.2, lt40 (by omega), _, acc2.put, ?_⟩
          refine ((hvs.mono (Ex.new hp5)).tk (.lst acc2.2.2)).add (r := some xs) (by rw [List.getElem?_map, hr]; rfl) ⟨p5, rfl, ?_⟩
          exact TupK.lst acc2.2.2 _ _ upd_same
        · rintro H19 ⟨vs, acc, hvs⟩
          rw [List.length_map, lk18.ll, ← List.length_map (f := some), List.take_length, ← rsK_nil] at hvs
          have ex19 := acc.2.1
          have tlb19 := ex19 _ _ tlb18
          have tD19 := ex19 _ _ tD18
          have hp19 := hp18.ex ex19
          have F19 := F18.trans (.ex ex19)
          have tD2 := acc.2.2
          have hD2o := hp18.off hD2
          have hD2H : H D2 = none := frp_none F18 hD2o.1 hD2
          have hD2D : D ≠ D2 := ne_of_none tD18 hD2
          have hD2lb : lb ≠ D2 := ne_of_none tlb18 hD2
          walk_at "rd"
          refine ⟨lb, _, rfl, sq_of tlb19, fun Ls hLs => ?_⟩
          rw [cut_drop ls al (by omega)]
          have ex20 := Ex.new (o := .lst (ivs (ls.drop al))) hLs
          have tLs : upd H19 Ls (.lst (ivs (ls.drop al))) Ls = some (.lst (ivs (ls.drop al))) := upd_same
          have tD20 := ex20 _ _ tD19
          have tD220 := ex20 _ _ tD2
          have tlb20 := ex20 _ _ tlb19
          have hp20 := hp19.ex ex20
          have F20 := F19.trans (.ex ex20)
          have hvs20 := hvs.mono ex20
          have hLsD2 : Ls ≠ D2 := Ne.symm (ne_of_none tD2 hLs)
          generalize upd H19 Ls (.lst (ivs (ls.drop al))) = H20 at tLs tD20 tD220 tlb20 hp20 F20 hvs20 ⊢
          walk_at "rd"
          refine for_it (walk_list (xs := ivs (ls.drop al))) (fun i σ H' => (∃ x1 x2, σ = [some (.ref p), some (.int (al : Nat)), some (.int (sp : Nat)), some (.ref lb), some (.ref D2), some (.ref D), x1, x2, none]) ∧ PenV H' p q0 (N + 1200) ∧ FrP p H H' ∧ H' Ls = some (.lst (ivs (ls.drop al))) ∧ H' lb = some (.lst (ivs ls)) ∧ H' D = some (.lst (ivs (hs.set u0 ev))) ∧ ∃ vs, H' D2 = some (.lst vs) ∧ RowsV H' vs (rsK rws ((ls.drop al).take i)))
            ⟨⟨_, _, rfl⟩, hp20.mono (by omega), F20, tLs, tlb20, tD20, vs, tD220, by simpa using hvs20⟩ (fun i σ H' _ z => let ⟨_, _, _, z, _⟩ := z; sq_of z) ?_ ?_
          · rintro i x _ _ H21 hi ⟨⟨x1, x2, rfl⟩, hp21, F21, tLs21, tlb21, tD21, vs21, tD221, hvs21⟩ ⟨rfl, hx⟩
            obtain ⟨u, hu, rfl⟩ := ivs_of hx
            have hul := hls u (List.mem_of_mem_drop (List.mem_of_getElem? hu))
            walk_at "rd"
            refine rd_setL tD221 (by rw [hvs21.1, rsK_len, l11.len]; exact hul) ?_
            have tk := TupK.lst (o := .lst (vs21.set u .non)) tD221
            refine ⟨⟨_, _, rfl⟩, hp21.set hD2o, F21.set hD2H, by rw [upd_ne hLsD2]; exact tLs21, by rw [upd_ne hD2lb]; exact tlb21, by rw [upd_ne hD2D]; exact tD21, _, upd_same, ?_⟩
            have h2 := (hvs21.set (x := .non) (r := none) rfl u).tk tk
            rw [rsK_set] at h2
            rw [List.take_add_one, hu]
            exact h2
          · rintro σ H21 ⟨⟨x1, x2, rfl⟩, hp21, F21, tLs21, tlb21, tD21, vs21, tD221, hvs21⟩
            rw [ivs_len, List.take_length] at hvs21
            walk_at "rd"
            refine rd_tupleOfL (sq_of tD221) fun p6 hp6 => ?_
            walk_at "rd"
            refine rd_tupleOfL (sq_of (upd_fr tD21 hp6)) fun p7 hp7 => ?_
            have ex67 := (Ex.new (o := .tup vs21) hp6).trans (Ex.new (o := .tup (ivs (hs.set u0 ev))) hp7)
            have tlb22 := ex67 _ _ tlb21
            walk_at "rd"
            rename_i p8 hp8 p9 hp9
            have ex89 := (Ex.new (o := .tup [.ref p6, .ref p7]) hp8).trans (Ex.new (o := .tup [.ref p8, .int (u0 : Int)]) hp9)
            have exA := ex67.trans ex89
            have hVh : Vh (rsK rws (ls.drop al), hs.set u0 ev) := by
              refine base_vh hperm (by omega) hal1 (by omega) l11 (by rw [List.length_set]; exact hhl) (fun i o h => ?_) (fun i h => ?_) (fun u h => ?_)
              · rw [List.getElem?_set] at h
                split at h
                · split at h
                  · cases h
                    omega
                  · cases h
                · exact h9 i o h
              · by_cases e : i = u0
                · rw [e]
                  exact ⟨0, by omega, hg0⟩
                · refine hz i ?_
                  intro z
                  apply h
                  unfold outc at z ⊢
                  rw [List.getElem?_set, if_neg (Ne.symm e)]
                  exact z
              · rw [hg0] at h
                cases h
                unfold outc
                rw [List.getElem?_set, if_pos rfl, if_pos (by omega)]
                exact hev1
            refine q p9 _ (.ref p8) (rsK rws (ls.drop al), hs.set u0 ev) _ ((hp21.ex exA).mono (by omega)) (F21.trans (.ex exA)) upd_same ⟨p8, .ref p6, .ref p7, rfl, upd_fr upd_same hp9, ⟨p6, vs21, rfl, ex89 _ _ (upd_fr upd_same hp7), hvs21.mono exA⟩, ⟨p7, rfl, ex89 _ _ upd_same⟩⟩ hVh ?_
            refine ⟨u0, hVh.live_of_out (by show u0 < (rsK _ _).length; rw [rsK_len, l11.len]; exact hu0) ?_⟩
            show 0 < outc (hs.set u0 ev) u0
            unfold outc
            rw [List.getElem?_set, if_pos rfl, if_pos (by omega)]
            exact hev1
end
end Sf
/-! the law's own: loose, begun -/
namespace Sf
open PySem PySem.Spec PyProof.Rows L2 Evl
local macro_rules | `(tactic| walk_at "hx") => `(tactic| first | assumption | exact upd_same | (with_reducible refine upd_fr ?_ (by assumption); walk_at "hx") | (refine ex_get (by assumption) ?_; walk_at "hx"))
local macro_rules | `(tactic| walk_at "ex") => `(tactic| first | assumption | exact Ex.refl _ | (with_reducible refine ex_new ?_ (by assumption); walk_at "ex") | (refine Ex.trans ?_ (by assumption); walk_at "ex"))
local macro_rules | `(tactic| walk_at "sqT") => `(tactic| first | (with_reducible assumption) | exact st_of (by walk_at "hx"))
local macro_rules | `(tactic| walk_at "sqL") => `(tactic| first | (with_reducible assumption) | exact sq_of (by walk_at "hx"))
local macro_rules | `(tactic| walk_at "sq") => `(tactic| first | (with_reducible assumption) | exact st_of (by walk_at "hx") | exact sq_of (by walk_at "hx"))
local macro_rules | `(tactic| walk_at "ty") => `(tactic| first | exact TyX.base (.int _) | exact TyX.base .non | exact TyX.base (.bl _) | exact TyX.base (.str _) | exact TyX.base (.tup (by walk_at "hx")) | exact TyX.base (.lst (by walk_at "hx")))
local macro_rules | `(tactic| walk_at "rd1") => `(tactic| first
  | with_reducible refine rd_seq ?_
  | ((with_reducible refine' rd_var ?h ?_); (case h => exact rfl))
  | with_reducible refine rd_c ?_
  | with_reducible refine rd_op ?_
  | with_reducible refine rd_un ?_
  | with_reducible refine rd_CB ?_
  | with_reducible refine rd_call ?_
  | with_reducible refine rd_cons ?_
  | with_reducible refine rd_nil ?_
  | with_reducible refine rd_I0 ?_
  | with_reducible refine rd_U ?_
  | with_reducible refine rd_ret ?_
  | with_reducible refine rd_retN ?_
  | with_reducible refine rd_next ?_
  | with_reducible refine rd_asg ?_
  | with_reducible refine rd_gName ?_
  | with_reducible refine rd_drop ?_
  | with_reducible refine rd_ifS ?_
  | with_reducible refine rd_test ?_
  | with_reducible refine rd_B ?_
  | with_reducible refine rd_notT ?_
  | with_reducible refine rd_andT ?_
  | with_reducible refine rd_orT ?_
  | with_reducible refine rd_andV ?_
  | with_reducible refine rd_orV ?_
  | with_reducible refine rd_notV ?_
  | with_reducible refine rd_ifE ?_
  | with_reducible refine rd_chain ?_
  | with_reducible refine rd_tup ?_
  | with_reducible refine rd_lst ?_
  | with_reducible refine rd_k ?_
  | with_reducible refine rd_eqS rfl ?_
  | with_reducible refine rd_neS rfl ?_
  | ((with_reducible refine rd_and (small40 (Nat.le_of_ble_eq_true rfl)) ?_); intro _ _)
  | (with_reducible refine' rd_isiT2 (k := "tuple") ?ty ?hx kb_tl kb_tt ?_; (case ty => walk_at "ty"); (case hx => walk_at "hx"))
  | with_reducible refine us_is_integer ?_
  | with_reducible refine us_is_between ?_
  | ((with_reducible refine' rd_ixT0 ?sq ?g ?_); (case sq => walk_at "sqT"); (case g => first | exact rfl | assumption))
  | ((with_reducible refine' rd_ixT1 ?sq ?g ?_); (case sq => walk_at "sqT"); (case g => first | exact rfl | assumption))
  | ((with_reducible refine' rd_ixT2 ?sq ?g ?_); (case sq => walk_at "sqT"); (case g => first | exact rfl | assumption))
  | ((with_reducible refine' rd_ixT3 ?sq ?g ?_); (case sq => walk_at "sqT"); (case g => first | exact rfl | assumption))
  | ((with_reducible refine' rd_ixT4 ?sq ?g ?_); (case sq => walk_at "sqT"); (case g => first | exact rfl | assumption))
  | ((with_reducible refine' rd_ixL0 ?sq ?g ?_); (case sq => walk_at "sqL"); (case g => first | exact rfl | assumption))
  | ((with_reducible refine' rd_ixL1 ?sq ?g ?_); (case sq => walk_at "sqL"); (case g => first | exact rfl | assumption))
  | ((with_reducible refine' rd_ixL2 ?sq ?g ?_); (case sq => walk_at "sqL"); (case g => first | exact rfl | assumption))
  | ((with_reducible refine' rd_ixT ?sq ?g ?_); (case sq => walk_at "sqT"); (case g => first | assumption | exact rfl))
  | ((with_reducible refine' rd_ixL ?sq ?g ?_); (case sq => walk_at "sqL"); (case g => first | assumption | exact rfl))
  | with_reducible refine rd_sl ?_
  | with_reducible refine rd_noPart ?_
  | with_reducible refine rd_part ?_
  | with_reducible refine rd_pt1 ?_
  | with_reducible refine rd_make ?_
  | with_reducible refine rd_callN ?_
  | with_reducible refine rd_makeN ?_
  | with_reducible refine rd_revT ?_
  | with_reducible refine rd_dc ?_
  | with_reducible refine rd_notinD ?_
  | with_reducible refine rd_inD ?_
  | with_reducible refine rd_dget ?_
  | with_reducible refine rd_dput ?_
  | ((with_reducible refine' rd_fld1 ?h ?c ?n ?l ?_); (case h => walk_at "hx"); (case c => first | exact Tx.c_Unwinding (by assumption) | exact Tx.c_Store (by assumption)); (case n => first | exact Tx.n_Unwinding_rows (by assumption) | exact Tx.n_Unwinding_references (by assumption) | exact Tx.n_Unwinding_tallies (by assumption) | exact Tx.n_Unwinding_bound (by assumption) | exact Tx.n_Unwinding_log (by assumption) | exact Tx.n_Unwinding_shelf (by assumption) | exact Tx.n_Unwinding_peak (by assumption) | exact Tx.n_Unwinding_events (by assumption) | exact Tx.n_Store_snapshots (by assumption) | exact Tx.n_Store_recorded (by assumption) | exact Tx.n_Store_observer (by assumption) | exact Tx.n_Store_is_busy (by assumption)); (case l => exact rfl))
  | ((with_reducible refine' rd_sFld1 ?h ?c ?n ?l ?_); (case h => walk_at "hx"); (case c => first | exact Tx.c_Unwinding (by assumption) | exact Tx.c_Store (by assumption)); (case n => first | exact Tx.n_Unwinding_rows (by assumption) | exact Tx.n_Unwinding_references (by assumption) | exact Tx.n_Unwinding_tallies (by assumption) | exact Tx.n_Unwinding_bound (by assumption) | exact Tx.n_Unwinding_log (by assumption) | exact Tx.n_Unwinding_shelf (by assumption) | exact Tx.n_Unwinding_peak (by assumption) | exact Tx.n_Unwinding_events (by assumption) | exact Tx.n_Store_snapshots (by assumption) | exact Tx.n_Store_recorded (by assumption) | exact Tx.n_Store_observer (by assumption) | exact Tx.n_Store_is_busy (by assumption)); (case l => exact Nat.le_of_ble_eq_true rfl))
  | ((with_reducible refine' rd_meth1 ?h ?l ?_); (case h => walk_at "hx"); (case l => exact rfl))
  | ((with_reducible refine' rd_and (rd_tyL ?h) ?_); (case h => walk_at "hx"))
  | ((with_reducible refine' rd_rng1 ?hn ?_); (case hn => first | omega | (simp; omega)))
  | with_reducible refine rd_nx ?_
  | with_reducible refine rd_rt ?_
  | with_reducible refine rd_ct ?_
  | with_reducible refine rd_bk ?_
  | ((with_reducible refine' rd_isi ?ty ?kb ?_); (case ty => walk_at "ty"); (case kb => first | exact kb_ii | exact kb_ib | exact kb_tt | exact kb_tl | exact kb_ss | exact kb_nt))
  | with_reducible refine rd_for ?_
  | with_reducible refine rd_iTup ?_
  | with_reducible refine rd_iList ?_
  | with_reducible refine rd_iRng1 ?_
  | with_reducible refine rd_iRng2 ?_
  | with_reducible refine rd_iEnumT ?_
  | with_reducible refine rd_iEnum ?_
  | with_reducible refine rd_lc ?_
  | with_reducible refine rd_yes ?_
  | ((with_reducible refine' rd_gTup ?sq ?n ?_); (case sq => walk_at "sqT"); (case n => exact rfl))
  | with_reducible refine rd_gCons ?_
  | with_reducible refine rd_gNil ?_
  | with_reducible refine rd_fld ?_
  | with_reducible refine rd_meth ?_
  | with_reducible refine rd_sFld ?_
  | with_reducible refine rd_BM ?_
  | with_reducible refine rd_BM0 ?_
  | ((with_reducible refine' rd_orRow ?h (by assumption) ?_); (case h => exact rfl))
  | with_reducible refine rd_augS ?_
  | with_reducible refine rd_ip ?_
  | with_reducible refine rd_gSub ?_
  | ((with_reducible refine' rd_aug ?h ?_); (case h => exact rfl))
  | with_reducible refine rd_par ?_
  | with_reducible refine rd_par1 ?_
  | ((with_reducible refine' rd_lenT ?sq ?_); (case sq => exact st_of (by walk_at "hx")))
  | ((with_reducible refine' rd_lenL ?sq ?_); (case sq => exact sq_of (by walk_at "hx")))
  | ((with_reducible refine' rd_itt ?sq ?_); (case sq => walk_at "sqT"))
  | ((with_reducible refine' rd_itl ?sq ?_); (case sq => walk_at "sqL"))
  | ((with_reducible refine' rd_enumT ?sq ?_); (case sq => walk_at "sqT"))
  | ((with_reducible refine' rd_enumL ?sq ?_); (case sq => walk_at "sqL"))
  | with_reducible refine rd_and rfl ?_
  | with_reducible refine if_t rfl ?_
  | with_reducible refine if_f rfl ?_)
local macro_rules | `(tactic| walk_at "rd") => `(tactic| repeat (walk_at "rd1"))
theorem Vh.grow {rs : List Row} {hs : List Nat} (V : Vh (rs, hs)) {a b : Nat} {xs ys : List (Option Nat)} (hx : rs[a]? = some (some xs)) (hb : Live rs b) (hl : ys.length ≤ 40) (hc : ∀ e, ys.count e = xs.count e + if some b = e then 1 else 0) :
    Vh (rs.set a (some ys), hs) ∧ (∀ u, cnt (rs.set a (some ys)) u = cnt rs u + one b u) := by
  have hal := (List.getElem?_eq_some_iff.mp hx).1
  have cn : ∀ u, cnt (rs.set a (some ys)) u = cnt rs u + one b u := fun u => by
    have h1 := cnt_set (r' := some ys) hx u
    have h2 : occr (some ys) u = occr (some xs) u + one b u := by
      show ys.count (some u) = xs.count (some u) + one b u
      rw [hc]
      congr 1
      unfold one
      by_cases e : u = b
      · rw [if_pos e, if_pos (by rw [e])]
      · rw [if_neg e, if_neg (by intro z; cases z; exact e rfl)]
    omega
  have mem : ∀ e, e ∈ ys → e = some b ∨ e ∈ xs := fun e he => by
    have h1 := List.count_pos_iff.mpr he
    rw [hc] at h1
    by_cases z : some b = e
    · exact .inl z.symm
    · rw [if_neg z] at h1
      exact .inr (List.count_pos_iff.mp (by omega))
  refine ⟨⟨by show (rs.set a _).length = _; rw [List.length_set]; exact V.len, by show (rs.set a _).length ≤ 40; rw [List.length_set]; exact V.n40, fun i r h zs e => ?_, V.nine, fun v h => ?_, fun v zs h => ?_⟩, cn⟩
  · subst e
    have h : (rs.set a (some ys))[i]? = some (some zs) := h
    show zs.length ≤ 40 ∧ ∀ v, some v ∈ zs → v < (rs.set a (some ys)).length
    rw [List.length_set]
    rw [List.getElem?_set] at h
    by_cases e : a = i
    · subst e
      rw [if_pos rfl, if_pos hal] at h
      cases h
      refine ⟨hl, fun v hv => ?_⟩
      rcases mem _ hv with z | z
      · cases z
        exact hb.lt
      · exact (V.rows a _ hx xs rfl).2 v z
    · rw [if_neg e] at h
      exact V.rows i _ h zs rfl
  · have h : (rs.set a (some ys))[v]? = some none := h
    have h2 := none_set h
    show outc hs v + cnt (rs.set a (some ys)) v = 0
    have hne : v ≠ b := by
      rintro rfl
      exact live_not hb h2
    rw [cn, one_ne hne]
    exact V.free v h2
  · have h : (rs.set a (some ys))[v]? = some (some zs) := h
    show 1 ≤ outc hs v + cnt (rs.set a (some ys)) v
    rw [cn]
    obtain ⟨ws, hw⟩ := (live_set hx).mp ⟨zs, h⟩
    have := V.live v ws hw
    have h3 : 1 ≤ outc hs v + cnt rs v := this
    omega
theorem Vh.zero {rs : List Row} {hs : List Nat} (V : Vh (rs, hs)) {a : Nat} (h : 1 ≤ cnt rs a) : Vh (rs, hs.set a 0) := by
  have ho : ∀ u, outc (hs.set a 0) u ≤ outc hs u ∧ (u ≠ a → outc (hs.set a 0) u = outc hs u) := fun u => by
    unfold outc
    rw [List.getElem?_set]
    by_cases e : a = u
    · subst e
      refine ⟨?_, fun h => absurd rfl h⟩
      rw [if_pos rfl]
      split
      · exact Nat.zero_le _
      · exact Nat.zero_le _
    · rw [if_neg e]
      exact ⟨Nat.le_refl _, fun _ => rfl⟩
  refine ⟨by show rs.length = (hs.set a 0).length; rw [List.length_set]; exact V.len, V.n40, V.rows, fun i o hi => ?_, fun v hv => ?_, fun v xs hv => ?_⟩
  · have hi : (hs.set a 0)[i]? = some o := hi
    rw [List.getElem?_set] at hi
    split at hi
    · split at hi
      · cases hi
        exact Nat.zero_le _
      · cases hi
    · exact V.nine i o hi
  · have := V.free v hv
    have h1 := (ho v).1
    show outc (hs.set a 0) v + cnt rs v = 0
    have h2 : outc hs v + cnt rs v = 0 := this
    omega
  · show 1 ≤ outc (hs.set a 0) v + cnt rs v
    by_cases e : v = a
    · rw [e]
      omega
    · rw [(ho v).2 e]
      exact V.live v xs hv
theorem liveN_set {rs : List Row} {a : Nat} {xs ys : List (Option Nat)} (hx : rs[a]? = some (some xs)) : liveN (rs.set a (some ys)) = liveN rs := by
  unfold liveN
  rw [List.length_set]
  unfold picks
  apply List.filter_congr
  intro v _
  have h := live_set (ys := ys) (u := v) hx
  cases e : liveB rs v with
  | true => exact liveB_iff.mpr (h.mpr (liveB_iff.mp e))
  | false =>
    cases e2 : liveB (rs.set a (some ys)) v with
    | false => rfl
    | true =>
      have := liveB_iff.mpr (h.mp (liveB_iff.mp e2))
      rw [e] at this
      cases this
def sp_l_loose : Sp := fun vs H Q _ => match vs with
  | [x, y] => ∃ (p q0 : Addr) (N : Nat) (hp : Hv), x = .ref p ∧ PenV H p q0 N ∧ N ≤ 5000 ∧ HeapV H y hp ∧ Vh hp ∧ (∃ v, Live hp.1 v) ∧ ∀ b hp' H', PenV H' p q0 (N + 100) → FrP p H H' → HeapV H' b hp' → Vh hp' → Q b H'
  | _ => False
def sp_l_begun : Sp := fun vs H Q _ => match vs with
  | [x] => ∃ (p q0 : Addr), x = .ref p ∧ PenV H p q0 0 ∧ ∀ b hp' H', PenV H' p q0 4000 → FrP p H H' → HeapV H' b hp' → Vh hp' → Q b H'
  | _ => False
section
variable {P : Program} {w : World} {K : PySem.W.Frag} {mg : Str → Option Value} {base : Heap}
theorem ok_l_loose (T : Tx K mg) : FnOk P w K mg base CX0 2 (a_l_loose K) (fd_l_loose K) ["_law_pen_here", "_law_base_here"] (sp_l_loose) := by
  refine FunD.ok T.f_l_loose sc_l_loose (fun vs H Q E h => match vs, h with | [_, _], _ => rfl) (fun cdv A outer s H vs Q E hr h => ⟨_, PSs.nox (pss_cons (ps_par rfl sc_l_loose.nd (i := 2) (j := 3) rfl rfl (by decide) rfl rfl (pa_cons (pe_callTy (cList (K := K)) (by rfl) T.z_list (by decide +kernel) (pa_cons (pe_ix (ixT (K := K)) (pv 1) pe_int (fun _ _ => rfl)) pa_nil)) (pa_cons (pe_callTy (cList (K := K)) (by rfl) T.z_list (by decide +kernel) (pa_cons (pe_ix (ixT (K := K)) (pv 1) pe_int (fun _ _ => rfl)) pa_nil)) pa_nil)) (by rfl))
      (pss_cons (ps_setLc (i := 4) rfl sc_l_loose.nd rfl rfl (sw_true rfl rfl rfl (by decide +kernel)) (pi_enum (by rfl) T.z_enumerate (pa_cons (pv 2) pa_nil)) (blkOk_by (own := [("_law_spot", 5), ("_law_row", 6)]) (N := N_l_loose) (sc := defScope s_l_loose) (by decide +kernel)) (fun _ _ _ _ _ => (pgTup (K := K) (n := 2) rfl (pgs_cons (pg_name (i := 5) sc_l_loose.nd rfl (Or.inl rfl) (by exact Or.inr rfl)) (pgs_cons (pg_name (i := 6) sc_l_loose.nd rfl (Or.inl rfl) (by exact Or.inr rfl)) pgs_nil)))) (fun _ _ _ _ _ => (pts_one (pt_cmpR op_notN (pv 6) pe_non (nomark _)))) (fun _ _ _ _ _ => (pv 5)))
      (pss_cons (ps_for PassesOwn.never rfl (pi_range1 (by rfl) T.z_range (pa_cons (pe_ix (ixL (K := K)) (pe_lst (pa_cons pe_int (pa_cons pe_int (pa_cons pe_int (pa_cons pe_int pa_nil))))) (pe_call (ok_l_draw T) (hr.mono (by omega)) (by rfl) T.g_l_draw T.k_l_draw T.b_l_draw .nil pass0 (pa_cons (pv 0) (pa_cons pe_int pa_nil))) (fun _ _ => rfl)) pa_nil)) (pg_name (i := 7) sc_l_loose.nd rfl (Or.inl rfl) (by exact Or.inl rfl)) (pss_cons (ps_set (i := 8) sc_l_loose.nd rfl (Or.inl rfl) (pe_ix (ixL (K := K)) (pv 4) (pe_call (ok_l_draw T) (hr.mono (by omega)) (by rfl) T.g_l_draw T.k_l_draw T.b_l_draw .nil pass0 (pa_cons (pv 0) (pa_cons (pe_callB (cLen (K := K)) (by rfl) T.z_len (by decide +kernel) (pa_cons (pv 4) pa_nil)) pa_nil))) (fun _ _ => rfl)))
      (pss_cons (ps_set (i := 9) sc_l_loose.nd rfl (Or.inl rfl) (pe_ix (ixL (K := K)) (pv 4) (pe_call (ok_l_draw T) (hr.mono (by omega)) (by rfl) T.g_l_draw T.k_l_draw T.b_l_draw .nil pass0 (pa_cons (pv 0) (pa_cons (pe_callB (cLen (K := K)) (by rfl) T.z_len (by decide +kernel) (pa_cons (pv 4) pa_nil)) pa_nil))) (fun _ _ => rfl)))
      (pss_one (ps_if (PW.pt (pw_and (pt_cmpR op_lt (pe_callB (cLen (K := K)) (by rfl) T.z_len (by decide +kernel) (pa_cons (pe_ix (ixL (K := K)) (pv 2) (pv 8) (fun _ _ => rfl)) pa_nil)) (pe_op op_sub pe_int (pe_callTy call_int1 (by rfl) T.z_int (by decide +kernel) (pa_cons (pe_cmpR op_eq (pv 8) (pv 9) (nomark _)) pa_nil))) (nomark _)) (pw_and1 (pt_cmpR op_lt (pe_callB (cLen (K := K)) (by rfl) T.z_len (by decide +kernel) (pa_cons (pe_ix (ixL (K := K)) (pv 2) (pv 9) (fun _ _ => rfl)) pa_nil)) pe_int (nomark _))))) (pss_cons (ps_asg (pe_op op_catA (pe_ix (ixL (K := K)) (pv 2) (pv 8) (fun _ _ => rfl)) (pe_tup (pa_cons (pv 9) pa_nil))) (pg_sub (pv 2) (pv 8) set_list))
      (pss_cons (ps_asg (pe_op op_catA (pe_tup (pa_cons (pv 8) pa_nil)) (pe_ix (ixL (K := K)) (pv 2) (pv 9) (fun _ _ => rfl))) (pg_sub (pv 2) (pv 9) set_list))
      (pss_one (ps_if (pt_cmpR op_gt (pe_call (ok_l_draw T) (hr.mono (by omega)) (by rfl) T.g_l_draw T.k_l_draw T.b_l_draw .nil pass0 (pa_cons (pv 0) (pa_cons pe_int pa_nil))) pe_int (nomark _)) (pss_cons (ps_asg pe_int (pg_sub (pv 3) (pv 8) set_list))
      (pss_one (ps_asg pe_int (pg_sub (pv 3) (pv 9) set_list)))) pss_nil)))) pss_nil)))))
      (pss_one (ps_ret (pe_tup (pa_cons (pe_callTy (cTuple (K := K)) (by rfl) T.z_tuple (by decide +kernel) (pa_cons (pv 2) pa_nil)) (pa_cons (pe_callTy (cTuple (K := K)) (by rfl) T.z_tuple (by decide +kernel) (pa_cons (pv 3) pa_nil)) pa_nil)))))))), ?_⟩)
  match vs, h with
  | [v0, v1], h =>
    obtain ⟨p, q0, N, hp, rfl, hpe, hN, ⟨a, sl, o, rfl, ha, ⟨b, vs, rfl, hb, hvs⟩, ⟨c, rfl, hc⟩⟩, hV, ⟨v0, hv0⟩, q⟩ := h
    have h40 := hV.n40
    have hno := hV.len
    have hvl := hvs.1
    walk_at "rd"
    refine rd_listOfT (st_of hb) fun R1 hR1 => ?_
    walk_at "rd"
    refine rd_listOfT (st_of (upd_fr hc hR1)) fun R2 hR2 => ?_
    have t1 : upd (upd H R1 (.lst vs)) R2 (.lst (ivs hp.2)) R1 = some (.lst vs) := upd_fr upd_same hR2
    have t2 : upd (upd H R1 (.lst vs)) R2 (.lst (ivs hp.2)) R2 = some (.lst (ivs hp.2)) := upd_same
    have ex1 := (Ex.new (o := .lst vs) hR1).trans (Ex.new (o := .lst (ivs hp.2)) hR2)
    have h12 : R1 ≠ R2 := ne_of_none upd_same hR2
    have hR1o := hpe.off hR1
    have hR20 := free_back (Ex.new hR1) hR2
    have hR2o := hpe.off hR20
    generalize upd (upd H R1 (.lst vs)) R2 (.lst (ivs hp.2)) = H1 at t1 t2 ex1 ⊢
    walk_at "rd"
    intro D hD
    have hD0 := free_back ex1 hD
    have hDo := hpe.off hD0
    refine lc_it (walk_enum (xs := vs)) (fun i H' => Acc H1 D (ivs (picks i (liveB hp.1))) H') (Acc.new (Ex.refl _) hD) (fun i H' _ z => sqL_ex z.2.1 t1) ?_ ?_
    · rintro i x H2 H3 hi acc ⟨t, u, y, rfl, ht, rfl, hu, hy⟩
      cases hu
      obtain ⟨r, h1, h2⟩ := hvs.of hy
      have acc2 := acc.ex (Ex.new (o := .tup [.int (i : Nat), y]) ht)
      have hle := picks_len i (liveB hp.1)
      cases r with
      | none =>
        have e : y = .non := h2
        subst e
        walk_at "rd"
        rw [picks_no (liveB_none h1)]
        exact acc2
      | some xs =>
        obtain ⟨d, rfl, hd⟩ := h2
        walk_at "rd"
        exact acc_add acc2 (by rw [ivs_len]; omega) (picks_ivs (liveB_some h1))
    · rintro H2 acc
      have tal : H2 D = some (.lst (ivs (liveN hp.1))) := by rw [acc.2.2, hvl]; rfl
      have ex2 := ex1.trans acc.2.1
      have t12 := acc.2.1 _ _ t1
      have t22 := acc.2.1 _ _ t2
      have hp2 := hpe.ex ex2
      have hDR1 : R1 ≠ D := ne_of_none t1 hD
      have hDR2 : R2 ≠ D := ne_of_none t2 hD
      have hln : 1 ≤ (liveN hp.1).length := List.length_pos_of_mem (mem_liveN.mpr hv0)
      have hll := liveN_len hp.1
      walk_at "rd"
      rename_i L3 hL3
      have f3 : FrP p H2 (upd H2 L3 (.lst [V.int 1, V.int 1, V.int 3, V.int 8])) := .ex (Ex.new hL3)
      have hp3 := hp2.ex (Ex.new (o := .lst [V.int 1, V.int 1, V.int 3, V.int 8]) hL3)
      have t3 : upd H2 L3 (.lst [V.int 1, V.int 1, V.int 3, V.int 8]) L3 = some (.lst [V.int 1, V.int 1, V.int 3, V.int 8]) := upd_same
      have hL3p := (hp2.off hL3).1
      generalize upd H2 L3 (.lst [V.int 1, V.int 1, V.int 3, V.int 8]) = H3 at f3 hp3 t3 ⊢
      refine us_draw (m := 4) hp3 (by omega) (by decide) (by decide) fun c1 H4 hc1 hp4 f4 => ?_
      obtain ⟨tc, htc1, htc2⟩ : ∃ tc : Nat, tc ≤ 8 ∧ [V.int 1, V.int 1, V.int 3, V.int 8][c1]? = some (.int (tc : Int)) := by
        match c1, hc1 with
        | 0, _ => exact ⟨1, by omega, rfl⟩
        | 1, _ => exact ⟨1, by omega, rfl⟩
        | 2, _ => exact ⟨3, by omega, rfl⟩
        | 3, _ => exact ⟨8, by omega, rfl⟩
      refine rd_ixL (sq_of (f4 _ _ hL3p t3)) htc2 ?_
      have F4 := ((FrP.ex (p := p) ex2).trans f3).trans f4
      walk_at "rd"
      refine for_it walk_rng (fun i σ H' => (∃ x1 x2 x3, σ = [some (.ref p), some (.ref a), some (.ref R1), some (.ref R2), some (.ref D), none, none, x1, x2, x3]) ∧ ∃ vs rs hs, PenV H' p q0 (N + 10 + 3 * i) ∧ FrP p H H' ∧ H' D = some (.lst (ivs (liveN hp.1))) ∧ H' R1 = some (.lst vs) ∧ RowsV H' vs rs ∧ H' R2 = some (.lst (ivs hs)) ∧ Vh (rs, hs) ∧ liveN rs = liveN hp.1)
        ⟨⟨_, _, _, rfl⟩, vs, hp.1, hp.2, hp4.mono (by omega), F4, f4 _ _ hDo.1 (f3 _ _ hDo.1 tal), f4 _ _ hR1o.1 (f3 _ _ hR1o.1 t12), (hvs.mono ex2).tk fun b xs h => (hp3.tk f4) _ _ ((hp2.tk f3) _ _ h), f4 _ _ hR2o.1 (f3 _ _ hR2o.1 t22), hV, rfl⟩ (fun _ _ _ _ _ => trivial) ?_ ?_
      · rintro i x _ _ H5 hi ⟨⟨x1, x2, x3, rfl⟩, vs, rs, hs, hp5, F5, tD5, tR5, hvs5, tS5, V5, hlv⟩ ⟨rfl, hx⟩
        walk_at "rd"
        rw [ivs_len]
        refine us_draw (m := (liveN hp.1).length) hp5 (by omega) (by omega) (by omega) fun o1 H6 ho1 hp6 f6 => ?_
        have tD6 := f6 _ _ hDo.1 tD5
        have hg1 := List.getElem?_eq_getElem ho1
        generalize (liveN hp.1)[o1] = u1 at hg1
        have hg1i : (ivs (liveN hp.1))[o1]? = some (.int (u1 : Nat)) := ivs_get hg1
        walk_at "rd"
        rw [ivs_len]
        refine us_draw (m := (liveN hp.1).length) hp6 (by omega) (by omega) (by omega) fun o2 H7 ho2 hp7 f7 => ?_
        have tD7 := f7 _ _ hDo.1 tD6
        have hg2 := List.getElem?_eq_getElem ho2
        generalize (liveN hp.1)[o2] = u2 at hg2
        have hg2i : (ivs (liveN hp.1))[o2]? = some (.int (u2 : Nat)) := ivs_get hg2
        have F7 := (F5.trans f6).trans f7
        have tR7 := f7 _ _ hR1o.1 (f6 _ _ hR1o.1 tR5)
        have tS7 := f7 _ _ hR2o.1 (f6 _ _ hR2o.1 tS5)
        have hvs7 : RowsV H7 vs rs := hvs5.tk fun b xs h => (hp6.tk f7) _ _ ((hp5.tk f6) _ _ h)
        have hl1 : Live rs u1 := mem_liveN.mp (by rw [hlv]; exact List.mem_of_getElem? hg1)
        have hl2 : Live rs u2 := mem_liveN.mp (by rw [hlv]; exact List.mem_of_getElem? hg2)
        obtain ⟨xs1, hx1⟩ := hl1
        obtain ⟨xs2, hx2⟩ := hl2
        obtain ⟨w1, hw1, d1, rfl, hd1⟩ := hvs7.2 u1 _ hx1
        obtain ⟨w2, hw2, d2, rfl, hd2⟩ := hvs7.2 u2 _ hx2
        have hrl : vs.length = rs.length := hvs7.1
        have stay : ∀ σ : L2.St, (∃ x1 x2 x3, σ = [some (.ref p), some (.ref a), some (.ref R1), some (.ref R2), some (.ref D), none, none, x1, x2, x3]) → (∃ x1 x2 x3, σ = [some (.ref p), some (.ref a), some (.ref R1), some (.ref R2), some (.ref D), none, none, x1, x2, x3]) ∧ ∃ vs rs hs, PenV H7 p q0 (N + 10 + 3 * (i + 1)) ∧ FrP p H H7 ∧ H7 D = some (.lst (ivs (liveN hp.1))) ∧ H7 R1 = some (.lst vs) ∧ RowsV H7 vs rs ∧ H7 R2 = some (.lst (ivs hs)) ∧ Vh (rs, hs) ∧ liveN rs = liveN hp.1 :=
          fun σ hσ => ⟨hσ, vs, rs, hs, hp7.mono (by omega), F7, tD7, tR7, hvs7, tS7, V5, hlv⟩
        walk_at "rd"
        refine .inr ⟨_, rfl, ?_⟩
        walk_at "rd"
        refine if_b (fun hc1 => ?_) (fun hc1 => ?_)
        · walk_at "rd"
          refine if_b (fun hc2 => ?_) (fun hc2 => ?_)
          · have hc1 := of_decide_eq_true hc1
            have hc2 := of_decide_eq_true hc2
            rw [List.length_map] at hc1 hc2
            walk_at "rd"
            rename_i p8 hp8'
            refine rd_catA (upd_fr hd1 hp8') (upd_same (o := .tup [.int (u2 : Int)])) ?_ fun c3 H8 ex8 hc3 => ?_
            · rw [List.length_map]
              exact small40 (by simp; split at hc1 <;> omega)
            have ex78 := (Ex.new (o := .tup [.int (u2 : Int)]) hp8').trans ex8
            have tR8 := ex78 _ _ tR7
            have row1 : RowV H8 (.ref c3) (some (xs1 ++ [some u2])) := ⟨c3, rfl, by rw [hc3]; simp⟩
            walk_at "rd"
            refine rd_setL tR8 (by have := (List.getElem?_eq_some_iff.mp hw1).1; exact this) ?_
            have tk8 := TupK.lst (o := .lst (vs.set u1 (.ref c3))) tR8
            have hvs9 := ((hvs7.mono ex78).set row1 u1).tk tk8
            have hp9 := (hp7.ex ex78).set (o := .lst (vs.set u1 (.ref c3))) hR1o
            have F9 := (F7.trans (.ex ex78)).set (o := .lst (vs.set u1 (.ref c3))) hR1
            have tR9 : upd H8 R1 (.lst (vs.set u1 (.ref c3))) R1 = some (.lst (vs.set u1 (.ref c3))) := upd_same
            have tS9 : upd H8 R1 (.lst (vs.set u1 (.ref c3))) R2 = some (.lst (ivs hs)) := by rw [upd_ne (Ne.symm h12)]; exact ex78 _ _ tS7
            have tD9 : upd H8 R1 (.lst (vs.set u1 (.ref c3))) D = some (.lst (ivs (liveN hp.1))) := by rw [upd_ne (Ne.symm hDR1)]; exact ex78 _ _ tD7
            generalize upd H8 R1 (.lst (vs.set u1 (.ref c3))) = H9 at hvs9 hp9 F9 tR9 tS9 tD9 ⊢
            obtain ⟨V9, cn9⟩ := V5.grow (ys := xs1 ++ [some u2]) hx1 ⟨xs2, hx2⟩ (by simp; split at hc1 <;> omega) (fun e => by rw [List.count_append, List.count_singleton]; simp [beq_iff_eq])
            have hl29 : Live (rs.set u1 (some (xs1 ++ [some u2]))) u2 := (live_set hx1).mpr ⟨xs2, hx2⟩
            have hl19 : Live (rs.set u1 (some (xs1 ++ [some u2]))) u1 := (live_set hx1).mpr ⟨xs1, hx1⟩
            obtain ⟨ys, hy⟩ := hl29
            obtain ⟨w3, hw3, d3, rfl, hd3⟩ := hvs9.2 u2 _ hy
            have hyl : ys.length ≤ 39 := by
              rw [List.getElem?_set] at hy
              by_cases e : u1 = u2
              · rw [if_pos e, if_pos (List.getElem?_eq_some_iff.mp hx1).1] at hy
                cases hy
                rw [if_pos (by simp [e])] at hc1
                simp
                omega
              · rw [if_neg e, hx2] at hy
                cases hy
                omega
            walk_at "rd"
            rename_i p10 hp10
            have hd310 := upd_fr (o := .tup [.int (u1 : Int)]) hd3 hp10
            have ex910 := Ex.new (o := .tup [.int (u1 : Int)]) hp10
            have tR910 := ex910 _ _ tR9
            walk_at "rd"
            refine rd_catA upd_same hd310 ?_ fun c4 H11 ex11 hc4 => ?_
            · rw [List.length_map]
              exact small40 (by simp; omega)
            have ex911 := ex910.trans ex11
            have tR11 := ex911 _ _ tR9
            have row2 : RowV H11 (.ref c4) (some (some u1 :: ys)) := ⟨c4, rfl, by rw [hc4]; simp⟩
            walk_at "rd"
            refine rd_setL tR11 (by have := (List.getElem?_eq_some_iff.mp hw3).1; exact this) ?_
            have tk11 := TupK.lst (o := .lst ((vs.set u1 (.ref c3)).set u2 (.ref c4))) tR11
            have hvs12 := ((hvs9.mono ex911).set row2 u2).tk tk11
            have hp12 := (hp9.ex ex911).set (o := .lst ((vs.set u1 (.ref c3)).set u2 (.ref c4))) hR1o
            have F12 := (F9.trans (.ex ex911)).set (o := .lst ((vs.set u1 (.ref c3)).set u2 (.ref c4))) hR1
            have tR12 : upd H11 R1 (.lst ((vs.set u1 (.ref c3)).set u2 (.ref c4))) R1 = some (.lst ((vs.set u1 (.ref c3)).set u2 (.ref c4))) := upd_same
            have tS12 : upd H11 R1 (.lst ((vs.set u1 (.ref c3)).set u2 (.ref c4))) R2 = some (.lst (ivs hs)) := by rw [upd_ne (Ne.symm h12)]; exact ex911 _ _ tS9
            have tD12 : upd H11 R1 (.lst ((vs.set u1 (.ref c3)).set u2 (.ref c4))) D = some (.lst (ivs (liveN hp.1))) := by rw [upd_ne (Ne.symm hDR1)]; exact ex911 _ _ tD9
            generalize upd H11 R1 (.lst ((vs.set u1 (.ref c3)).set u2 (.ref c4))) = H12 at hvs12 hp12 F12 tR12 tS12 tD12 ⊢
            obtain ⟨V12, cn12⟩ := V9.grow (ys := some u1 :: ys) hy hl19 (by simp; omega) (fun e => by rw [List.count_cons]; simp [beq_iff_eq])
            have hlv12 : liveN ((rs.set u1 (some (xs1 ++ [some u2]))).set u2 (some (some u1 :: ys))) = liveN hp.1 := by rw [liveN_set hy, liveN_set hx1, hlv]
            have c1 : 1 ≤ cnt ((rs.set u1 (some (xs1 ++ [some u2]))).set u2 (some (some u1 :: ys))) u1 := by rw [cn12, one_same]; omega
            have c2 : 1 ≤ cnt ((rs.set u1 (some (xs1 ++ [some u2]))).set u2 (some (some u1 :: ys))) u2 := by rw [cn12, cn9, one_same]; omega
            walk_at "rd"
            refine us_draw (m := 4) hp12 (by omega) (by decide) (by decide) fun r5 H13 hr5 hp13 f13 => ?_
            have F13 := F12.trans f13
            have tD13 := f13 _ _ hDo.1 tD12
            have tR13 := f13 _ _ hR1o.1 tR12
            have tS13 := f13 _ _ hR2o.1 tS12
            have hvs13 := hvs12.tk (hp12.tk f13)
            have hsl : hs.length = rs.length := V5.len.symm
            have hu1l := (List.getElem?_eq_some_iff.mp hx1).1
            have hu2l := (List.getElem?_eq_some_iff.mp hx2).1
            walk_at "rd"
            refine if_b (fun hc5 => ?_) (fun hc5 => ?_)
            · walk_at "rd"
              refine rd_setL tS13 (by rw [ivs_len]; omega) ?_
              rw [show V.int 0 = V.int ((0 : Nat) : Int) from rfl, set_ivs]
              have tS14 : upd H13 R2 (.lst (ivs (hs.set u1 0))) R2 = some (.lst (ivs (hs.set u1 0))) := upd_same
              walk_at "rd"
              refine rd_setL tS14 (by rw [ivs_len, List.length_set]; omega) ?_
              rw [set_ivs]
              have tkA := TupK.lst (o := .lst (ivs (hs.set u1 0))) tS13
              have tkB := TupK.lst (o := .lst (ivs ((hs.set u1 0).set u2 0))) tS14
              exact ⟨⟨_, _, _, rfl⟩, _, _, _, ((hp13.set hR2o).set hR2o).mono (by omega), (F13.set hR20).set hR20, by rw [upd_ne (Ne.symm hDR2), upd_ne (Ne.symm hDR2)]; exact tD13, by rw [upd_ne h12, upd_ne h12]; exact tR13, (hvs13.tk tkA).tk tkB, upd_same, (V12.zero c1).zero c2, hlv12⟩
            · walk_at "rd"
              exact ⟨⟨_, _, _, rfl⟩, _, _, _, hp13.mono (by omega), F13, tD13, tR13, hvs13, tS13, V12, hlv12⟩
          · walk_at "rd"
            exact stay _ ⟨_, _, _, rfl⟩
        · walk_at "rd"
          exact stay _ ⟨_, _, _, rfl⟩
      · rintro σ H5 ⟨⟨x1, x2, x3, rfl⟩, vs, rs, hs, hp5, F5, tD5, tR5, hvs5, tS5, V5, hlv⟩
        walk_at "rd"
        refine rd_tupleOfL (sq_of tR5) fun p6 hp6 => ?_
        walk_at "rd"
        refine rd_tupleOfL (sq_of (upd_fr tS5 hp6)) fun p7 hp7 => ?_
        walk_at "rd"
        rename_i p8 hp8
        have exA := ((Ex.new (o := .tup vs) hp6).trans (Ex.new (o := .tup (ivs hs)) hp7)).trans (Ex.new (o := .tup [.ref p6, .ref p7]) hp8)
        exact q _ (rs, hs) _ ((hp5.ex exA).mono (by omega)) (F5.trans (.ex exA)) ⟨p8, .ref p6, .ref p7, rfl, upd_same, ⟨p6, vs, rfl, upd_fr (upd_fr upd_same hp7) hp8, hvs5.mono exA⟩, ⟨p7, rfl, upd_fr upd_same hp8⟩⟩ V5
theorem ok_l_begun (T : Tx K mg) : FnOk P w K mg base CX0 4 (a_l_begun K) (fd_l_begun K) ["_law_pen_here"] (sp_l_begun) := by
  refine FunD.ok T.f_l_begun sc_l_begun (fun vs H Q E h => match vs, h with | [_], _ => rfl) (fun cdv A outer s H vs Q E hr h => ⟨_, PSs.nox (pss_cons (ps_set (i := 1) sc_l_begun.nd rfl (Or.inl rfl) (pe_call (ok_l_draw T) (hr.mono (by omega)) (by rfl) T.g_l_draw T.k_l_draw T.b_l_draw .nil pass0 (pa_cons (pv 0) (pa_cons pe_int pa_nil))))
      (pss_cons (ps_set (i := 2) sc_l_begun.nd rfl (Or.inl rfl) (pe_ix (ixT (K := K)) (pe_call (ok_l_base T) (hr.mono (by omega)) (by rfl) T.g_l_base T.k_l_base T.b_l_base .nil pass0 (pa_cons (pv 0) pa_nil)) pe_int (fun _ _ => rfl)))
      (pss_cons (ps_if (pt_cmpR op_eq (pv 1) pe_int (nomark _)) (pss_one (ps_ret (pe_tup (pa_cons (pe_tup pa_nil) (pa_cons (pe_tup pa_nil) pa_nil))))) pss_nil)
      (pss_one (ps_ret (pe_ifExp (pt_cmpR op_lt (pv 1) pe_int (nomark _)) (pe_call (ok_l_loose T) (hr.mono (by omega)) (by rfl) T.g_l_loose T.k_l_loose T.b_l_loose .nil pass0 (pa_cons (pv 0) (pa_cons (pv 2) pa_nil))) (pv 2))))))), ?_⟩)
  match vs, h with
  | [v0], h =>
    obtain ⟨p, q0, rfl, hp, q⟩ := h
    walk_at "rd"
    refine us_draw (m := 6) hp (by omega) (by decide) (by decide) fun wy H1 hwy hp1 f1 => ?_
    walk_at "rd"
    refine Exists.intro p ⟨q0, _, rfl, hp1, by omega, fun t v0 hv hpp H2 hp2 f2 ht hh hV hl => ?_⟩
    have F2 := f1.trans f2
    walk_at "rd"
    refine if_b (fun hc => ?_) (fun hc => ?_)
    · walk_at "rd"
      rename_i p3 hp3 p4 hp4 p5 hp5
      have exA := ((Ex.new (o := .tup []) hp3).trans (Ex.new (o := .tup []) hp4)).trans (Ex.new (o := .tup [.ref p3, .ref p4]) hp5)
      refine q _ ([], []) _ ((hp2.ex exA).mono (by omega)) (F2.trans (.ex exA)) ⟨p5, .ref p3, .ref p4, rfl, upd_same, ⟨p3, [], rfl, upd_fr (upd_fr upd_same hp4) hp5, rfl, fun i r h => by simp at h⟩, ⟨p4, rfl, upd_fr upd_same hp5⟩⟩ ⟨rfl, by decide, fun i r h => by simp at h, fun i o h => by simp at h, fun v h => by simp at h, fun v xs h => by simp at h⟩
    · walk_at "rd"
      refine if_b (fun hc2 => ?_) (fun hc2 => ?_)
      · walk_at "rd"
        refine Exists.intro p ⟨q0, _, hpp, rfl, hp2, by omega, hh, hV, hl, fun b hp' H3 hp3 f3 hh3 hV3 => ?_⟩
        exact q b hp' H3 (hp3.mono (by omega)) (F2.trans f3) hh3 hV3
      · walk_at "rd"
        exact q hv hpp H2 (hp2.mono (by omega)) F2 hh hV
end
end Sf
/-! the law's own: choice -/
namespace Sf
open PySem PySem.Spec PyProof.Rows L2 Evl
local macro_rules | `(tactic| walk_at "hx") => `(tactic| first | assumption | exact upd_same | (with_reducible refine upd_fr ?_ (by assumption); walk_at "hx") | (refine ex_get (by assumption) ?_; walk_at "hx"))
local macro_rules | `(tactic| walk_at "ex") => `(tactic| first | assumption | exact Ex.refl _ | (with_reducible refine ex_new ?_ (by assumption); walk_at "ex") | (refine Ex.trans ?_ (by assumption); walk_at "ex"))
local macro_rules | `(tactic| walk_at "sqT") => `(tactic| first | (with_reducible assumption) | exact st_of (by walk_at "hx"))
local macro_rules | `(tactic| walk_at "sqL") => `(tactic| first | (with_reducible assumption) | exact sq_of (by walk_at "hx"))
local macro_rules | `(tactic| walk_at "sq") => `(tactic| first | (with_reducible assumption) | exact st_of (by walk_at "hx") | exact sq_of (by walk_at "hx"))
local macro_rules | `(tactic| walk_at "ty") => `(tactic| first | exact TyX.base (.int _) | exact TyX.base .non | exact TyX.base (.bl _) | exact TyX.base (.str _) | exact TyX.base (.tup (by walk_at "hx")) | exact TyX.base (.lst (by walk_at "hx")))
local macro_rules | `(tactic| walk_at "rd1") => `(tactic| first
  | with_reducible refine rd_seq ?_
  | ((with_reducible refine' rd_var ?h ?_); (case h => exact rfl))
  | with_reducible refine rd_c ?_
  | with_reducible refine rd_op ?_
  | with_reducible refine rd_un ?_
  | with_reducible refine rd_CB ?_
  | with_reducible refine rd_call ?_
  | with_reducible refine rd_cons ?_
  | with_reducible refine rd_nil ?_
  | with_reducible refine rd_I0 ?_
  | with_reducible refine rd_U ?_
  | with_reducible refine rd_ret ?_
  | with_reducible refine rd_retN ?_
  | with_reducible refine rd_next ?_
  | with_reducible refine rd_asg ?_
  | with_reducible refine rd_gName ?_
  | with_reducible refine rd_drop ?_
  | with_reducible refine rd_ifS ?_
  | with_reducible refine rd_test ?_
  | with_reducible refine rd_B ?_
  | with_reducible refine rd_notT ?_
  | with_reducible refine rd_andT ?_
  | with_reducible refine rd_orT ?_
  | with_reducible refine rd_andV ?_
  | with_reducible refine rd_orV ?_
  | with_reducible refine rd_notV ?_
  | with_reducible refine rd_ifE ?_
  | with_reducible refine rd_chain ?_
  | with_reducible refine rd_tup ?_
  | with_reducible refine rd_lst ?_
  | with_reducible refine rd_k ?_
  | with_reducible refine rd_eqS rfl ?_
  | with_reducible refine rd_neS rfl ?_
  | ((with_reducible refine rd_and (small40 (Nat.le_of_ble_eq_true rfl)) ?_); intro _ _)
  | (with_reducible refine' rd_isiT2 (k := "tuple") ?ty ?hx kb_tl kb_tt ?_; (case ty => walk_at "ty"); (case hx => walk_at "hx"))
  | with_reducible refine us_is_integer ?_
  | with_reducible refine us_is_between ?_
  | ((with_reducible refine' rd_ixT0 ?sq ?g ?_); (case sq => walk_at "sqT"); (case g => first | exact rfl | assumption))
  | ((with_reducible refine' rd_ixT1 ?sq ?g ?_); (case sq => walk_at "sqT"); (case g => first | exact rfl | assumption))
  | ((with_reducible refine' rd_ixT2 ?sq ?g ?_); (case sq => walk_at "sqT"); (case g => first | exact rfl | assumption))
  | ((with_reducible refine' rd_ixT3 ?sq ?g ?_); (case sq => walk_at "sqT"); (case g => first | exact rfl | assumption))
  | ((with_reducible refine' rd_ixT4 ?sq ?g ?_); (case sq => walk_at "sqT"); (case g => first | exact rfl | assumption))
  | ((with_reducible refine' rd_ixL0 ?sq ?g ?_); (case sq => walk_at "sqL"); (case g => first | exact rfl | assumption))
  | ((with_reducible refine' rd_ixL1 ?sq ?g ?_); (case sq => walk_at "sqL"); (case g => first | exact rfl | assumption))
  | ((with_reducible refine' rd_ixL2 ?sq ?g ?_); (case sq => walk_at "sqL"); (case g => first | exact rfl | assumption))
  | ((with_reducible refine' rd_ixT ?sq ?g ?_); (case sq => walk_at "sqT"); (case g => first | assumption | exact rfl))
  | ((with_reducible refine' rd_ixL ?sq ?g ?_); (case sq => walk_at "sqL"); (case g => first | assumption | exact rfl))
  | with_reducible refine rd_sl ?_
  | with_reducible refine rd_noPart ?_
  | with_reducible refine rd_part ?_
  | with_reducible refine rd_pt1 ?_
  | with_reducible refine rd_make ?_
  | with_reducible refine rd_callN ?_
  | with_reducible refine rd_makeN ?_
  | with_reducible refine rd_revT ?_
  | with_reducible refine rd_dc ?_
  | with_reducible refine rd_notinD ?_
  | with_reducible refine rd_inD ?_
  | with_reducible refine rd_dget ?_
  | with_reducible refine rd_dput ?_
  | ((with_reducible refine' rd_fld1 ?h ?c ?n ?l ?_); (case h => walk_at "hx"); (case c => first | exact Tx.c_Unwinding (by assumption) | exact Tx.c_Store (by assumption)); (case n => first | exact Tx.n_Unwinding_rows (by assumption) | exact Tx.n_Unwinding_references (by assumption) | exact Tx.n_Unwinding_tallies (by assumption) | exact Tx.n_Unwinding_bound (by assumption) | exact Tx.n_Unwinding_log (by assumption) | exact Tx.n_Unwinding_shelf (by assumption) | exact Tx.n_Unwinding_peak (by assumption) | exact Tx.n_Unwinding_events (by assumption) | exact Tx.n_Store_snapshots (by assumption) | exact Tx.n_Store_recorded (by assumption) | exact Tx.n_Store_observer (by assumption) | exact Tx.n_Store_is_busy (by assumption)); (case l => exact rfl))
  | ((with_reducible refine' rd_sFld1 ?h ?c ?n ?l ?_); (case h => walk_at "hx"); (case c => first | exact Tx.c_Unwinding (by assumption) | exact Tx.c_Store (by assumption)); (case n => first | exact Tx.n_Unwinding_rows (by assumption) | exact Tx.n_Unwinding_references (by assumption) | exact Tx.n_Unwinding_tallies (by assumption) | exact Tx.n_Unwinding_bound (by assumption) | exact Tx.n_Unwinding_log (by assumption) | exact Tx.n_Unwinding_shelf (by assumption) | exact Tx.n_Unwinding_peak (by assumption) | exact Tx.n_Unwinding_events (by assumption) | exact Tx.n_Store_snapshots (by assumption) | exact Tx.n_Store_recorded (by assumption) | exact Tx.n_Store_observer (by assumption) | exact Tx.n_Store_is_busy (by assumption)); (case l => exact Nat.le_of_ble_eq_true rfl))
  | ((with_reducible refine' rd_meth1 ?h ?l ?_); (case h => walk_at "hx"); (case l => exact rfl))
  | ((with_reducible refine' rd_and (rd_tyL ?h) ?_); (case h => walk_at "hx"))
  | ((with_reducible refine' rd_rng1 ?hn ?_); (case hn => first | omega | (simp; omega)))
  | with_reducible refine rd_nx ?_
  | with_reducible refine rd_rt ?_
  | with_reducible refine rd_ct ?_
  | with_reducible refine rd_bk ?_
  | ((with_reducible refine' rd_isi ?ty ?kb ?_); (case ty => walk_at "ty"); (case kb => first | exact kb_ii | exact kb_ib | exact kb_tt | exact kb_tl | exact kb_ss | exact kb_nt))
  | with_reducible refine rd_for ?_
  | with_reducible refine rd_iTup ?_
  | with_reducible refine rd_iList ?_
  | with_reducible refine rd_iRng1 ?_
  | with_reducible refine rd_iRng2 ?_
  | with_reducible refine rd_iEnumT ?_
  | with_reducible refine rd_iEnum ?_
  | with_reducible refine rd_lc ?_
  | with_reducible refine rd_yes ?_
  | ((with_reducible refine' rd_gTup ?sq ?n ?_); (case sq => walk_at "sqT"); (case n => exact rfl))
  | with_reducible refine rd_gCons ?_
  | with_reducible refine rd_gNil ?_
  | with_reducible refine rd_fld ?_
  | with_reducible refine rd_meth ?_
  | with_reducible refine rd_sFld ?_
  | with_reducible refine rd_BM ?_
  | with_reducible refine rd_BM0 ?_
  | ((with_reducible refine' rd_orRow ?h (by assumption) ?_); (case h => exact rfl))
  | with_reducible refine rd_augS ?_
  | with_reducible refine rd_ip ?_
  | with_reducible refine rd_gSub ?_
  | ((with_reducible refine' rd_aug ?h ?_); (case h => exact rfl))
  | with_reducible refine rd_par ?_
  | with_reducible refine rd_par1 ?_
  | ((with_reducible refine' rd_lenT ?sq ?_); (case sq => exact st_of (by walk_at "hx")))
  | ((with_reducible refine' rd_lenL ?sq ?_); (case sq => exact sq_of (by walk_at "hx")))
  | ((with_reducible refine' rd_itt ?sq ?_); (case sq => walk_at "sqT"))
  | ((with_reducible refine' rd_itl ?sq ?_); (case sq => walk_at "sqL"))
  | ((with_reducible refine' rd_enumT ?sq ?_); (case sq => walk_at "sqT"))
  | ((with_reducible refine' rd_enumL ?sq ?_); (case sq => walk_at "sqL"))
  | with_reducible refine rd_and rfl ?_
  | with_reducible refine if_t rfl ?_
  | with_reducible refine if_f rfl ?_)
local macro_rules | `(tactic| walk_at "rd") => `(tactic| repeat (walk_at "rd1"))
inductive Act
  | setLim (B : Int)
  | new (w : Nat)
  | hold (v : Nat)
  | empty (v : Nat)
  | drop (v : Nat)
  | put (v i : Nat) (g : Option Nat)
  | collect
  | local
def Act.vs : Act → List V
  | .setLim B => [.str "set_limit", .int B]
  | .new w => [.str "new", .int (w : Int)]
  | .hold v => [.str "hold", .int (v : Int)]
  | .empty v => [.str "empty_slots", .int (v : Int)]
  | .drop v => [.str "drop", .int (v : Int)]
  | .put v i g => [.str "put", .int (v : Int), .int (i : Int), ent g]
  | .collect => [.str "collect"]
  | .local => [.str "collect_local"]
def Act.Ok (hp : Hv) : Act → Prop
  | .setLim B => 1 ≤ B ∧ B ≤ 10 ^ 30
  | .new w => w ≤ 40 ∧ (liveN hp.1).length < 40
  | .hold v => Live hp.1 v ∧ outc hp.2 v ≠ 9
  | .empty v => Live hp.1 v
  | .drop v => Live hp.1 v ∧ 0 < outc hp.2 v
  | .put v i g => ∃ xs, hp.1[v]? = some (some xs) ∧ i < xs.length ∧ ∀ u, g = some u → Live hp.1 u
  | .collect => True
  | .local => True
def sp_l_choice : Sp := fun vs H Q _ => match vs with
  | [x, y] => ∃ (p q0 st : Addr) (N : Nat) (hv : V) (rest : List V) (hp : Hv), x = .ref p ∧ y = .ref st ∧ PenV H p q0 N ∧ N ≤ 50000 ∧ H st = some (.tup (hv :: rest)) ∧ HeapV H hv hp ∧ Vh hp ∧
      ∀ t act H', PenV H' p q0 (N + 20) → FrP p H H' → H' t = some (.tup (Act.vs act)) → act.Ok hp → Q (.ref t) H'
  | _ => False
theorem rd_catL1 {H : Hp} {Q : VK} {l b : Addr} {xs zs : List V} (h1 : H l = some (.lst xs)) (h2 : H b = some (.lst zs)) (hl : xs.length + zs.length ≤ sizeLine) (q : ∀ p, H p = none → Q (.ref p) (upd H p (.lst (xs ++ zs)))) : rCat (.ref l) (.ref b) H Q := ⟨l, b, xs, zs, rfl, rfl, h1, h2, hl, q⟩
section
variable {P : Program} {w : World} {K : PySem.W.Frag} {mg : Str → Option Value} {base : Heap}
theorem ok_l_choice (T : Tx K mg) : FnOk P w K mg base CX0 2 (a_l_choice K) (fd_l_choice K) ["_law_pen_here", "_law_state"] (sp_l_choice) := by
  refine FunD.ok T.f_l_choice sc_l_choice (fun vs H Q E h => match vs, h with | [_, _], _ => rfl) (fun cdv A outer s H vs Q E hr h => ⟨_, PSs.nox (pss_cons (ps_set (i := 2) sc_l_choice.nd rfl (Or.inr rfl) (pe_ix (ixT (K := K)) (pv 1) pe_int (fun _ _ => rfl)))
      (pss_cons (ps_set (i := 3) sc_l_choice.nd rfl (Or.inl rfl) (pe_call (ok_l_draw T) (hr.mono (by omega)) (by rfl) T.g_l_draw T.k_l_draw T.b_l_draw .nil pass0 (pa_cons (pv 0) (pa_cons pe_int pa_nil))))
      (pss_cons (ps_setLc (i := 4) rfl sc_l_choice.nd rfl rfl (sw_true rfl rfl rfl (by decide +kernel)) (pi_enumT (by rfl) T.z_enumerate (pa_cons (pe_ix (ixT (K := K)) (pv 2) pe_int (fun _ _ => rfl)) pa_nil)) (blkOk_by (own := [("_law_spot", 5), ("_law_row", 6)]) (N := N_l_choice) (sc := defScope s_l_choice) (by decide +kernel)) (fun _ _ _ _ _ => (pgTup (K := K) (n := 2) rfl (pgs_cons (pg_name (i := 5) sc_l_choice.nd rfl (Or.inl rfl) (by exact Or.inr rfl)) (pgs_cons (pg_name (i := 6) sc_l_choice.nd rfl (Or.inl rfl) (by exact Or.inr rfl)) pgs_nil)))) (fun _ _ _ _ _ => (pts_one (pt_cmpR op_notN (pv 6) pe_non (nomark _)))) (fun _ _ _ _ _ => (pv 5)))
      (pss_cons (ps_setLc (i := 7) rfl sc_l_choice.nd rfl rfl (sw_true rfl rfl rfl (by decide +kernel)) (pi_list (pv 4)) (blkOk_by (own := [("_law_spot", 5)]) (N := N_l_choice) (sc := defScope s_l_choice) (by decide +kernel)) (fun _ _ _ _ _ => (pg_name (i := 5) sc_l_choice.nd rfl (Or.inl rfl) (by exact Or.inr rfl))) (fun _ _ _ _ _ => (pts_one (pt_cmpR (neD (K := K) hr.units) (pe_ix (ixT (K := K)) (pe_ix (ixT (K := K)) (pv 2) pe_int (fun _ _ => rfl)) (pv 5) (fun _ _ => rfl)) (pe_tup pa_nil) (nomark _)))) (fun _ _ _ _ _ => (pv 5)))
      (pss_cons (ps_setLc (i := 8) rfl sc_l_choice.nd rfl rfl (sw_true rfl rfl rfl (by decide +kernel)) (pi_list (pv 4)) (blkOk_by (own := [("_law_spot", 5)]) (N := N_l_choice) (sc := defScope s_l_choice) (by decide +kernel)) (fun _ _ _ _ _ => (pg_name (i := 5) sc_l_choice.nd rfl (Or.inl rfl) (by exact Or.inr rfl))) (fun _ _ _ _ _ => (pts_one (pt_cmpR op_gt (pe_ix (ixT (K := K)) (pe_ix (ixT (K := K)) (pv 2) pe_int (fun _ _ => rfl)) (pv 5) (fun _ _ => rfl)) pe_int (nomark _)))) (fun _ _ _ _ _ => (pv 5)))
      (pss_cons (ps_set (i := 9) sc_l_choice.nd rfl (Or.inl rfl) (pe_ix (ixL (K := K)) (pe_lst (pa_cons pe_int (pa_cons pe_int (pa_cons pe_int (pa_cons (pe_call (ok_l_draw T) (hr.mono (by omega)) (by rfl) T.g_l_draw T.k_l_draw T.b_l_draw .nil pass0 (pa_cons (pv 0) (pa_cons pe_int pa_nil))) (pa_cons pe_int pa_nil)))))) (pe_call (ok_l_draw T) (hr.mono (by omega)) (by rfl) T.g_l_draw T.k_l_draw T.b_l_draw .nil pass0 (pa_cons (pv 0) (pa_cons pe_int pa_nil))) (fun _ _ => rfl)))
      (pss_cons (ps_set (i := 10) sc_l_choice.nd rfl (Or.inl rfl) (pe_ix (ixL (K := K)) (pe_lst (pa_cons pe_int (pa_cons pe_int (pa_cons pe_int (pa_cons (pe_op op_add pe_int (pe_call (ok_l_draw T) (hr.mono (by omega)) (by rfl) T.g_l_draw T.k_l_draw T.b_l_draw .nil pass0 (pa_cons (pv 0) (pa_cons pe_int pa_nil)))) (pa_cons (pe_op op_pow pe_int pe_int) pa_nil)))))) (pe_call (ok_l_draw T) (hr.mono (by omega)) (by rfl) T.g_l_draw T.k_l_draw T.b_l_draw .nil pass0 (pa_cons (pv 0) (pa_cons pe_int pa_nil))) (fun _ _ => rfl)))
      (pss_cons (ps_if (PW.pt (pw_or (pt_cmpR op_eq (pv 3) pe_int (nomark _)) (pw_or1 (PW.pt (pw_and (pt_cmpR op_gt (pv 3) pe_int (nomark _)) (pw_and1 (pt_cmpR (eqD (K := K) hr.units) (pv 4) (pe_lst pa_nil) (nomark _)))))))) (pss_one (ps_ret (pe_tup (pa_cons pe_str (pa_cons (pv 10) pa_nil))))) pss_nil)
      (pss_cons (ps_if (PW.pt (pw_and (pt_cmpR op_lt (pv 3) pe_int (nomark _)) (pw_and1 (pt_cmpR op_lt (pe_callB (cLen (K := K)) (by rfl) T.z_len (by decide +kernel) (pa_cons (pv 4) pa_nil)) pe_int (nomark _))))) (pss_one (ps_ret (pe_tup (pa_cons pe_str (pa_cons (pv 9) pa_nil))))) pss_nil)
      (pss_cons (ps_if (PW.pt (pw_and (pt_cmpR op_eq (pv 3) pe_int (nomark _)) (pw_and1 (pt_cmpR (neD (K := K) hr.units) (pv 4) (pe_lst pa_nil) (nomark _))))) (pss_cons (ps_set (i := 5) sc_l_choice.nd rfl (Or.inl rfl) (pe_ix (ixL (K := K)) (pv 4) (pe_call (ok_l_draw T) (hr.mono (by omega)) (by rfl) T.g_l_draw T.k_l_draw T.b_l_draw .nil pass0 (pa_cons (pv 0) (pa_cons (pe_callB (cLen (K := K)) (by rfl) T.z_len (by decide +kernel) (pa_cons (pv 4) pa_nil)) pa_nil))) (fun _ _ => rfl)))
      (pss_one (ps_ret (pe_ix (ixL (K := K)) (pe_lst (pa_cons (pe_tup (pa_cons pe_str (pa_cons (pv 5) pa_nil))) (pa_cons (pe_tup (pa_cons pe_str (pa_cons (pv 5) pa_nil))) pa_nil))) (pe_callTy call_int1 (by rfl) T.z_int (by decide +kernel) (pa_cons (pe_cmpR op_eq (pe_ix (ixT (K := K)) (pe_ix (ixT (K := K)) (pv 2) pe_int (fun _ _ => rfl)) (pv 5) (fun _ _ => rfl)) pe_int (nomark _)) pa_nil)) (fun _ _ => rfl))))) pss_nil)
      (pss_cons (ps_if (PW.pt (pw_and (pt_cmpR (inS (K := K)) (pv 3) (pe_tup (pa_cons pe_int (pa_cons pe_int pa_nil))) (by rfl)) (pw_and1 (pt_cmpR (neD (K := K) hr.units) (pv 8) (pe_lst pa_nil) (nomark _))))) (pss_one (ps_ret (pe_tup (pa_cons pe_str (pa_cons (pe_ix (ixL (K := K)) (pv 8) (pe_call (ok_l_draw T) (hr.mono (by omega)) (by rfl) T.g_l_draw T.k_l_draw T.b_l_draw .nil pass0 (pa_cons (pv 0) (pa_cons (pe_callB (cLen (K := K)) (by rfl) T.z_len (by decide +kernel) (pa_cons (pv 8) pa_nil)) pa_nil))) (fun _ _ => rfl)) pa_nil))))) pss_nil)
      (pss_cons (ps_if (PW.pt (pw_and (pt_cmpR (inS (K := K)) (pv 3) (pe_tup (pa_cons pe_int (pa_cons pe_int pa_nil))) (by rfl)) (pw_and1 (pt_cmpR (neD (K := K) hr.units) (pv 7) (pe_lst pa_nil) (nomark _))))) (pss_cons (ps_set (i := 5) sc_l_choice.nd rfl (Or.inl rfl) (pe_ix (ixL (K := K)) (pv 7) (pe_call (ok_l_draw T) (hr.mono (by omega)) (by rfl) T.g_l_draw T.k_l_draw T.b_l_draw .nil pass0 (pa_cons (pv 0) (pa_cons (pe_callB (cLen (K := K)) (by rfl) T.z_len (by decide +kernel) (pa_cons (pv 7) pa_nil)) pa_nil))) (fun _ _ => rfl)))
      (pss_cons (ps_set (i := 11) sc_l_choice.nd rfl (Or.inl rfl) (pe_ix (ixL (K := K)) (pe_op op_cat (pv 4) (pe_lst (pa_cons pe_non pa_nil))) (pe_call (ok_l_draw T) (hr.mono (by omega)) (by rfl) T.g_l_draw T.k_l_draw T.b_l_draw .nil pass0 (pa_cons (pv 0) (pa_cons (pe_op op_add (pe_callB (cLen (K := K)) (by rfl) T.z_len (by decide +kernel) (pa_cons (pv 4) pa_nil)) pe_int) pa_nil))) (fun _ _ => rfl)))
      (pss_one (ps_ret (pe_tup (pa_cons pe_str (pa_cons (pv 5) (pa_cons (pe_call (ok_l_draw T) (hr.mono (by omega)) (by rfl) T.g_l_draw T.k_l_draw T.b_l_draw .nil pass0 (pa_cons (pv 0) (pa_cons (pe_callB (cLen (K := K)) (by rfl) T.z_len (by decide +kernel) (pa_cons (pe_ix (ixT (K := K)) (pe_ix (ixT (K := K)) (pv 2) pe_int (fun _ _ => rfl)) (pv 5) (fun _ _ => rfl)) pa_nil)) pa_nil))) (pa_cons (pv 11) pa_nil))))))))) pss_nil)
      (pss_cons (ps_if (pt_cmpR op_eq (pv 3) pe_int (nomark _)) (pss_one (ps_ret (pe_tup (pa_cons pe_str (pa_cons (pe_ix (ixL (K := K)) (pv 4) (pe_call (ok_l_draw T) (hr.mono (by omega)) (by rfl) T.g_l_draw T.k_l_draw T.b_l_draw .nil pass0 (pa_cons (pv 0) (pa_cons (pe_callB (cLen (K := K)) (by rfl) T.z_len (by decide +kernel) (pa_cons (pv 4) pa_nil)) pa_nil))) (fun _ _ => rfl)) pa_nil))))) pss_nil)
      (pss_one (ps_ret (pe_ix (ixL (K := K)) (pe_lst (pa_cons (pe_tup (pa_cons pe_str pa_nil)) (pa_cons (pe_tup (pa_cons pe_str pa_nil)) pa_nil))) (pe_call (ok_l_draw T) (hr.mono (by omega)) (by rfl) T.g_l_draw T.k_l_draw T.b_l_draw .nil pass0 (pa_cons (pv 0) (pa_cons pe_int pa_nil))) (fun _ _ => rfl))))))))))))))))), ?_⟩)
  match vs, h with
  | [v0, v1], h =>
    obtain ⟨p, q0, st, N, hv, rest, hp, rfl, rfl, hpe, hN, hst, hh, hV, q⟩ := h
    have h40 := hV.n40
    have hno := hV.len
    have hh0 := hh
    obtain ⟨a, sl, o, rfl, ha, ⟨b, vs, rfl, hb, hvs⟩, ⟨c, rfl, hc⟩⟩ := hh0
    have hvl := hvs.1
    walk_at "rd"
    refine us_draw (m := 10) hpe (by omega) (by decide) (by decide) fun wy H1 hwy hp1 f1 => ?_
    have tk1 := hpe.tk f1
    have ha1 := tk1 _ _ ha
    have hb1 := tk1 _ _ hb
    have hc1 := tk1 _ _ hc
    walk_at "rd"
    intro D hD
    refine lc_it (walk_enumT (xs := vs)) (fun i H' => Acc H1 D (ivs (picks i (liveB hp.1))) H') (Acc.new (Ex.refl _) hD) (fun i H' _ z => sqT_ex z.2.1 hb1) ?_ ?_
    · rintro i x H2 H3 hi acc ⟨t, u, y, rfl, ht, rfl, hu, hy⟩
      cases hu
      obtain ⟨r, h1, h2⟩ := hvs.of hy
      have acc2 := acc.ex (Ex.new (o := .tup [.int (i : Nat), y]) ht)
      have hle := picks_len i (liveB hp.1)
      cases r with
      | none =>
        have e : y = .non := h2
        subst e
        walk_at "rd"
        rw [picks_no (liveB_none h1)]
        exact acc2
      | some xs =>
        obtain ⟨d, rfl, hd⟩ := h2
        walk_at "rd"
        exact acc_add acc2 (by rw [ivs_len]; omega) (picks_ivs (liveB_some h1))
    · rintro H2 acc
      have tal : H2 D = some (.lst (ivs (liveN hp.1))) := by rw [acc.2.2, hvl]; rfl
      have hp2 := hp1.ex acc.2.1
      have hDo := hp1.off hD
      have ha2 := acc.2.1 _ _ ha1
      have hb2 := acc.2.1 _ _ hb1
      have hc2 := acc.2.1 _ _ hc1
      have tk2 : TupK H H2 := tk1.ex2 acc.2.1
      have F2 := f1.trans (.ex acc.2.1)
      have hll := liveN_len hp.1
      walk_at "rd"
      intro D2 hD2
      refine lc_it (walk_list (xs := ivs (liveN hp.1))) (fun i H' => ∃ ws, Acc H2 D2 (ivs ws) H' ∧ ws.length ≤ i ∧ ∀ v ∈ ws, ∃ xs, hp.1[v]? = some (some xs) ∧ xs ≠ []) ⟨[], Acc.new (Ex.refl _) hD2, by simp, by simp⟩ (fun i H' _ z => let ⟨_, z, _⟩ := z; sqL_ex z.2.1 tal) ?_ ?_
      · rintro i x _ H3 hi ⟨ws, acc3, hwl, hws⟩ ⟨rfl, hx⟩
        rw [ivs_len] at hi
        obtain ⟨u, hu, rfl⟩ := ivs_of hx
        obtain ⟨xs, hxs⟩ := mem_liveN.mp (List.mem_of_getElem? hu)
        obtain ⟨w1, hw1, d1, rfl, hd1⟩ := hvs.2 u _ hxs
        have ha3 := acc3.2.1 _ _ ha2
        have hb3 := acc3.2.1 _ _ hb2
        have hd3 := acc3.2.1 _ _ (tk2 _ _ hd1)
        walk_at "rd"
        rename_i p4 hp4
        refine rd_neT0 (upd_fr hd3 hp4) upd_same (at_ents xs) ?_
        have acc4 := acc3.ex (Ex.new (o := .tup []) hp4)
        walk_at "rd"
        refine if_b (fun hc5 => ?_) (fun hc5 => ?_)
        · walk_at "rd"
          refine ⟨_, acc4.2.2, lt40 (by rw [ivs_len]; omega), ws ++ [u], by rw [← ivs_one]; exact acc4.put, by simp; omega, fun v hv => ?_⟩
          rcases List.mem_append.mp hv with m | m
          · exact hws v m
          · cases List.mem_singleton.mp m
            refine ⟨xs, hxs, ?_⟩
            rintro rfl
            cases hc5
        · exact ⟨ws, acc4, by omega, hws⟩
      · rintro H3 ⟨ws, acc3, hwl, hws⟩
        rw [ivs_len] at hwl
        have twi := acc3.2.2
        have tal3 := acc3.2.1 _ _ tal
        have hp3 := hp2.ex acc3.2.1
        have hD2o := hp2.off hD2
        have ha3 := acc3.2.1 _ _ ha2
        have hb3 := acc3.2.1 _ _ hb2
        have hc3 := acc3.2.1 _ _ hc2
        have tk3 : TupK H H3 := tk2.ex2 acc3.2.1
        have F3 := F2.trans (.ex acc3.2.1)
        walk_at "rd"
        intro D3 hD3
        refine lc_it (walk_list (xs := ivs (liveN hp.1))) (fun i H' => ∃ bs, Acc H3 D3 (ivs bs) H' ∧ bs.length ≤ i ∧ ∀ v ∈ bs, Live hp.1 v ∧ 0 < outc hp.2 v) ⟨[], Acc.new (Ex.refl _) hD3, by simp, by simp⟩ (fun i H' _ z => let ⟨_, z, _⟩ := z; sqL_ex z.2.1 tal3) ?_ ?_
        · rintro i x _ H4 hi ⟨bs, acc4, hbl, hbs⟩ ⟨rfl, hx⟩
          rw [ivs_len] at hi
          obtain ⟨u, hu, rfl⟩ := ivs_of hx
          have hlu := mem_liveN.mp (List.mem_of_getElem? hu)
          have ho := out_ivs (os := hp.2) (v := u) (by rw [← hno]; exact hlu.lt)
          have ha4 := acc4.2.1 _ _ ha3
          have hc4 := acc4.2.1 _ _ hc3
          walk_at "rd"
          refine if_b (fun hc5 => ?_) (fun hc5 => ?_)
          · have hc5 : (0 : Int) < ((outc hp.2 u : Nat) : Int) := of_decide_eq_true hc5
            walk_at "rd"
            refine ⟨_, acc4.2.2, lt40 (by rw [ivs_len]; omega), bs ++ [u], by rw [← ivs_one]; exact acc4.put, by simp; omega, fun v hv => ?_⟩
            rcases List.mem_append.mp hv with m | m
            · exact hbs v m
            · cases List.mem_singleton.mp m
              exact ⟨hlu, by omega⟩
          · exact ⟨bs, acc4, by omega, hbs⟩
        · rintro H4 ⟨bs, acc4, hbl, hbs⟩
          rw [ivs_len] at hbl
          have tba := acc4.2.2
          have twi4 := acc4.2.1 _ _ twi
          have tal4 := acc4.2.1 _ _ tal3
          have hp4 := hp3.ex acc4.2.1
          have hD3o := hp3.off hD3
          have tk4 : TupK H H4 := tk3.ex2 acc4.2.1
          have F4 := F3.trans (.ex acc4.2.1)
          walk_at "rd"
          refine us_draw (m := 5) hp4 (by omega) (by decide) (by decide) fun w1 H5 hw1 hp5 f5 => ?_
          walk_at "rd"
          rename_i L6 hL6
          have f6 : FrP p H5 (upd H5 L6 (.lst [V.int 0, V.int 1, V.int 2, V.int (w1 : Int), V.int 40])) := .ex (Ex.new hL6)
          have hp6 := hp5.ex (Ex.new (o := .lst [V.int 0, V.int 1, V.int 2, V.int (w1 : Int), V.int 40]) hL6)
          have t6 : upd H5 L6 (.lst [V.int 0, V.int 1, V.int 2, V.int (w1 : Int), V.int 40]) L6 = some (.lst [V.int 0, V.int 1, V.int 2, V.int (w1 : Int), V.int 40]) := upd_same
          have hL6p := (hp5.off hL6).1
          generalize upd H5 L6 (.lst [V.int 0, V.int 1, V.int 2, V.int (w1 : Int), V.int 40]) = H6 at f6 hp6 t6 ⊢
          refine us_draw (m := 5) hp6 (by omega) (by decide) (by decide) fun w2 H7 hw2 hp7 f7 => ?_
          obtain ⟨wd, hwd1, hwd2⟩ : ∃ wd : Nat, wd ≤ 40 ∧ [V.int 0, V.int 1, V.int 2, V.int (w1 : Int), V.int 40][w2]? = some (.int (wd : Int)) := by
            match w2, hw2 with
            | 0, _ => exact ⟨0, by omega, rfl⟩
            | 1, _ => exact ⟨1, by omega, rfl⟩
            | 2, _ => exact ⟨2, by omega, rfl⟩
            | 3, _ => exact ⟨w1, by omega, rfl⟩
            | 4, _ => exact ⟨40, by omega, rfl⟩
          refine rd_ixL (sq_of (f7 _ _ hL6p t6)) hwd2 ?_
          walk_at "rd"
          refine us_draw (m := 50) hp7 (by omega) (by decide) (by decide) fun n1 H8 hn1 hp8 f8 => ?_
          walk_at "rd"
          refine rd_I (by exact ⟨by decide, by decide, by decide⟩) ?_
          have e30 : ((10 : Int) ^ (30 : Int).toNat) = 10 ^ 30 := rfl
          rw [e30]
          walk_at "rd"
          rename_i L9 hL9
          have f9 : FrP p H8 (upd H8 L9 (.lst [V.int 1, V.int 2, V.int 3, V.int (1 + (n1 : Int)), V.int (10 ^ 30)])) := .ex (Ex.new hL9)
          have hp9 := hp8.ex (Ex.new (o := .lst [V.int 1, V.int 2, V.int 3, V.int (1 + (n1 : Int)), V.int (10 ^ 30)]) hL9)
          have t9 : upd H8 L9 (.lst [V.int 1, V.int 2, V.int 3, V.int (1 + (n1 : Int)), V.int (10 ^ 30)]) L9 = some (.lst [V.int 1, V.int 2, V.int 3, V.int (1 + (n1 : Int)), V.int (10 ^ 30)]) := upd_same
          have hL9p := (hp8.off hL9).1
          generalize upd H8 L9 (.lst [V.int 1, V.int 2, V.int 3, V.int (1 + (n1 : Int)), V.int (10 ^ 30)]) = H9 at f9 hp9 t9 ⊢
          refine us_draw (m := 5) hp9 (by omega) (by decide) (by decide) fun n2 H10 hn2 hp10 f10 => ?_
          obtain ⟨nb, hnb1, hnb2, hnb3⟩ : ∃ nb : Int, 1 ≤ nb ∧ nb ≤ 10 ^ 30 ∧ [V.int 1, V.int 2, V.int 3, V.int (1 + (n1 : Int)), V.int (10 ^ 30)][n2]? = some (.int nb) := by
            match n2, hn2 with
            | 0, _ => exact ⟨1, by omega, by decide, rfl⟩
            | 1, _ => exact ⟨2, by omega, by decide, rfl⟩
            | 2, _ => exact ⟨3, by omega, by decide, rfl⟩
            | 3, _ => exact ⟨1 + n1, by omega, Int.le_trans (show (1 : Int) + n1 ≤ 60 by omega) (by decide), rfl⟩
            | 4, _ => exact ⟨10 ^ 30, by decide, Int.le_refl _, rfl⟩
          refine rd_ixL (sq_of (f10 _ _ hL9p t9)) hnb3 ?_
          have F410 : FrP p H4 H10 := ((((f5.trans f6).trans f7).trans f8).trans f9).trans f10
          have tk10 : TupK H H10 := fun b xs h => (hp4.tk F410) _ _ (tk4 _ _ h)
          have F10 := F4.trans F410
          have tal10 := F410 _ _ hDo.1 tal4
          have twi10 := F410 _ _ hD2o.1 twi4
          have tba10 := F410 _ _ hD3o.1 tba
          have hst10 := tk10 _ _ hst
          have ha10 := tk10 _ _ ha
          have hb10 := tk10 _ _ hb
          have hc10 := tk10 _ _ hc
          clear t6 t9
          have fin : ∀ t act H', FrP p H10 H' → PenV H' p q0 (N + 20) → H' t = some (.tup (Act.vs act)) → act.Ok hp → Q (.ref t) H' := fun t act H' g1 g2 g3 g4 => q t act H' g2 (F10.trans g1) g3 g4
          refine rd_gName ?_
          with_reducible refine rd_cut (fun σ H' => σ = [some (.ref p), some (.ref st), some (.ref a), some (.int (wy : Int)), some (.ref D), none, none, some (.ref D2), some (.ref D3), some (.int (wd : Int)), some (.int nb), none] ∧ Ex H10 H' ∧ (6 < wy → liveN hp.1 ≠ [])) (fun N' tail => ?_) ?_
          · walk_at "rd"
            have setl : ∀ H', Ex H10 H' → ∀ t, H' t = none → Q (.ref t) (upd H' t (.tup [.str "set_limit", .int nb])) := fun H' e t ht => fin t (.setLim nb) _ (.ex (ex_new e ht)) ((hp10.ex (ex_new e ht)).mono (by omega)) upd_same ⟨hnb1, hnb2⟩
            refine if_b (fun hc1 => ?_) (fun hc1 => ?_)
            · walk_at "rd"
              rename_i p11 hp11
              exact setl _ (Ex.refl _) p11 hp11
            · walk_at "rd"
              refine if_b (fun hc2 => ?_) (fun hc2 => ?_)
              · walk_at "rd"
                rename_i p11 hp11
                refine rd_eqL0 (upd_fr tal10 hp11) upd_same (at_ivs _) ?_
                rw [ivs_empty]
                walk_at "rd"
                refine if_b (fun hc3 => ?_) (fun hc3 => ?_)
                · walk_at "rd"
                  rename_i p12 hp12
                  exact setl _ (Ex.new hp11) p12 hp12
                · walk_at "rd"
                  exact tail _ _ ⟨rfl, Ex.new hp11, fun _ e => by rw [e] at hc3; cases hc3⟩
              · have hc2 : ¬ (6 : Int) < (wy : Int) := of_decide_eq_false hc2
                walk_at "rd"
                exact tail _ _ ⟨rfl, Ex.refl _, fun h => by omega⟩
          · rintro σ H11 ⟨rfl, e11, hne⟩
            with_reducible refine rd_cut (fun σ H' => σ = [some (.ref p), some (.ref st), some (.ref a), some (.int (wy : Int)), some (.ref D), none, none, some (.ref D2), some (.ref D3), some (.int (wd : Int)), some (.int nb), none] ∧ H' = H11) (fun N' tail => ?_) ?_
            · have tal11 := e11 _ _ tal10
              walk_at "rd"
              refine if_b (fun hc1 => ?_) (fun hc1 => ?_)
              · walk_at "rd"
                rw [ivs_len]
                refine if_b (fun hc2 => ?_) (fun hc2 => ?_)
                · have hc2 : (((liveN hp.1).length : Nat) : Int) < 40 := of_decide_eq_true hc2
                  walk_at "rd"
                  rename_i p12 hp12
                  exact fin p12 (.new wd) _ (.ex (ex_new e11 hp12)) ((hp10.ex (ex_new e11 hp12)).mono (by omega)) upd_same ⟨hwd1, by omega⟩
                · walk_at "rd"
                  exact tail _ _ ⟨rfl, rfl⟩
              · walk_at "rd"
                exact tail _ _ ⟨rfl, rfl⟩
            · rintro σ H12 ⟨rfl, rfl⟩
              with_reducible refine rd_cut (fun σ H' => σ = [some (.ref p), some (.ref st), some (.ref a), some (.int (wy : Int)), some (.ref D), none, none, some (.ref D2), some (.ref D3), some (.int (wd : Int)), some (.int nb), none] ∧ Ex H10 H') (fun N' tail => ?_) ?_
              · walk_at "rd"
                refine if_b (fun hc1 => ?_) (fun hc1 => ?_)
                · walk_at "rd"
                  rename_i p13 hp13
                  have e13 := ex_new (o := .lst []) e11 hp13
                  refine rd_neL0 (e13 _ _ tal10) upd_same (at_ivs _) ?_
                  rw [ivs_empty]
                  generalize upd H12 p13 (.lst []) = H13 at e13 ⊢
                  have tal13 := e13 _ _ tal10
                  walk_at "rd"
                  refine if_b (fun hc2 => ?_) (fun hc2 => ?_)
                  · have hln : 1 ≤ (liveN hp.1).length := by
                      cases hl : liveN hp.1 with
                      | nil => rw [hl] at hc2; cases hc2
                      | cons _ _ => simp
                    have hp13p := hp10.ex e13
                    walk_at "rd"
                    rw [ivs_len]
                    refine us_draw (m := (liveN hp.1).length) hp13p (by omega) (by omega) (by omega) fun r H14 hr hp14 f14 => ?_
                    have tal14 := f14 _ _ hDo.1 tal13
                    have hg := List.getElem?_eq_getElem hr
                    generalize (liveN hp.1)[r] = u at hg
                    have hgi : (ivs (liveN hp.1))[r]? = some (.int (u : Nat)) := ivs_get hg
                    have hlu := mem_liveN.mp (List.mem_of_getElem? hg)
                    have tk14 : ∀ b xs, H10 b = some (.tup xs) → H14 b = some (.tup xs) := fun b xs h => (hp13p.tk f14) _ _ (e13 _ _ h)
                    have F14 : FrP p H10 H14 := (FrP.ex e13).trans f14
                    have ho := out_ivs (os := hp.2) (v := u) (by rw [← hno]; exact hlu.lt)
                    have ha14 := tk14 _ _ ha10
                    have hc14 := tk14 _ _ hc10
                    walk_at "rd"
                    rename_i p15 hp15 p16 hp16 p17 hp17
                    have e17 := ((Ex.new (o := .tup [.str "hold", .int (u : Int)]) hp15).trans (Ex.new (o := .tup [.str "empty_slots", .int (u : Int)]) hp16)).trans (Ex.new (o := .lst [.ref p15, .ref p16]) hp17)
                    have ha17 := e17 _ _ ha14
                    have hc17 := e17 _ _ hc14
                    walk_at "rd"
                    refine .inr ⟨_, rfl, ?_⟩
                    cases hdd : decide (V.int ((outc hp.2 u : Nat) : Int) = V.int 9) with
                    | true =>
                      refine rd_ixL1 (sq_of upd_same) rfl ?_
                      exact fin p16 (.empty u) _ (F14.trans (.ex e17)) ((hp14.ex e17).mono (by omega)) (upd_fr upd_same hp17) hlu
                    | false =>
                      refine rd_ixL0 (sq_of upd_same) rfl ?_
                      refine fin p15 (.hold u) _ (F14.trans (.ex e17)) ((hp14.ex e17).mono (by omega)) (upd_fr (upd_fr upd_same hp16) hp17) ⟨hlu, fun e => ?_⟩
                      rw [e] at hdd
                      exact absurd rfl (of_decide_eq_false hdd)
                  · walk_at "rd"
                    exact tail _ _ ⟨rfl, e13⟩
                · walk_at "rd"
                  exact tail _ _ ⟨rfl, e11⟩
              · rintro σ H13 ⟨rfl, e13⟩
                with_reducible refine rd_cut (fun σ H' => σ = [some (.ref p), some (.ref st), some (.ref a), some (.int (wy : Int)), some (.ref D), none, none, some (.ref D2), some (.ref D3), some (.int (wd : Int)), some (.int nb), none] ∧ Ex H10 H') (fun N' tail => ?_) ?_
                · walk_at "rd"
                  rename_i p14 hp14
                  refine rd_in (.inr (st_of upd_same)) rfl rfl ?_
                  have e14 := ex_new (o := .tup [.int 3, .int 4]) e13 hp14
                  generalize upd H13 p14 (.tup [.int 3, .int 4]) = H14 at e14 ⊢
                  walk_at "rd"
                  refine if_b (fun hc1 => ?_) (fun hc1 => ?_)
                  · walk_at "rd"
                    rename_i p15 hp15
                    have e15 := ex_new (o := .lst []) e14 hp15
                    refine rd_neL0 (e15 _ _ tba10) upd_same (at_ivs _) ?_
                    rw [ivs_empty]
                    generalize upd H14 p15 (.lst []) = H15 at e15 ⊢
                    have tba15 := e15 _ _ tba10
                    walk_at "rd"
                    refine if_b (fun hc2 => ?_) (fun hc2 => ?_)
                    · have hln : 1 ≤ bs.length := by
                        cases bs with
                        | nil => cases hc2
                        | cons _ _ => simp
                      have hp15p := hp10.ex e15
                      walk_at "rd"
                      rw [ivs_len]
                      refine us_draw (m := bs.length) hp15p (by omega) (by omega) (by omega) fun r H16 hr hp16 f16 => ?_
                      have tba16 := f16 _ _ hD3o.1 tba15
                      have hg := List.getElem?_eq_getElem hr
                      have hmem : bs[r] ∈ bs := List.getElem_mem hr
                      generalize bs[r] = u at hg hmem
                      have hgi : (ivs bs)[r]? = some (.int (u : Nat)) := ivs_get hg
                      have F16 : FrP p H10 H16 := (FrP.ex e15).trans f16
                      walk_at "rd"
                      rename_i p17 hp17
                      have e17 := Ex.new (o := .tup [.str "drop", .int (u : Int)]) hp17
                      exact fin p17 (.drop u) _ (F16.trans (.ex e17)) ((hp16.ex e17).mono (by omega)) upd_same (hbs u hmem)
                    · walk_at "rd"
                      exact tail _ _ ⟨rfl, e15⟩
                  · walk_at "rd"
                    exact tail _ _ ⟨rfl, e14⟩
                · rintro σ H14 ⟨rfl, e14⟩
                  with_reducible refine rd_cut (fun σ H' => σ = [some (.ref p), some (.ref st), some (.ref a), some (.int (wy : Int)), some (.ref D), none, none, some (.ref D2), some (.ref D3), some (.int (wd : Int)), some (.int nb), none] ∧ Ex H10 H') (fun N' tail => ?_) ?_
                  · walk_at "rd"
                    rename_i p15 hp15
                    refine rd_in (.inr (st_of upd_same)) rfl rfl ?_
                    have e15 := ex_new (o := .tup [.int 5, .int 6]) e14 hp15
                    generalize upd H14 p15 (.tup [.int 5, .int 6]) = H15 at e15 ⊢
                    walk_at "rd"
                    refine if_b (fun hc1 => ?_) (fun hc1 => ?_)
                    · walk_at "rd"
                      rename_i p16 hp16
                      have e16 := ex_new (o := .lst []) e15 hp16
                      refine rd_neL0 (e16 _ _ twi10) upd_same (at_ivs _) ?_
                      rw [ivs_empty]
                      generalize upd H15 p16 (.lst []) = H16 at e16 ⊢
                      have twi16 := e16 _ _ twi10
                      walk_at "rd"
                      refine if_b (fun hc2 => ?_) (fun hc2 => ?_)
                      · have hln : 1 ≤ ws.length := by
                          cases ws with
                          | nil => cases hc2
                          | cons _ _ => simp
                        have hp16p := hp10.ex e16
                        walk_at "rd"
                        rw [ivs_len]
                        refine us_draw (m := ws.length) hp16p (by omega) (by omega) (by omega) fun r H17 hr hp17 f17 => ?_
                        have twi17 := f17 _ _ hD2o.1 twi16
                        have tal17 := f17 _ _ hDo.1 (e16 _ _ tal10)
                        have tk17 : ∀ b xs, H10 b = some (.tup xs) → H17 b = some (.tup xs) := fun b xs h => (hp16p.tk f17) _ _ (e16 _ _ h)
                        have hg := List.getElem?_eq_getElem hr
                        have hmem : ws[r] ∈ ws := List.getElem_mem hr
                        generalize ws[r] = u at hg hmem
                        have hgi : (ivs ws)[r]? = some (.int (u : Nat)) := ivs_get hg
                        have F17 : FrP p H10 H17 := (FrP.ex e16).trans f17
                        obtain ⟨xs, hxs, hxne⟩ := hws u hmem
                        have hx40 := (hV.rows u _ hxs xs rfl).1
                        have hx1 : 1 ≤ xs.length := by
                          cases xs with
                          | nil => exact absurd rfl hxne
                          | cons _ _ => simp
                        walk_at "rd"
                        rename_i p18 hp18
                        refine rd_cat (upd_fr tal17 hp18) upd_same ?_ fun p19 hp19 => ?_
                        · rw [ivs_len]
                          exact small40 (by simp; omega)
                        have e19 := (Ex.new (o := .lst [.non]) hp18).trans (Ex.new (o := .lst (ivs (liveN hp.1) ++ [.non])) hp19)
                        have t19 : upd (upd H17 p18 (.lst [.non])) p19 (.lst (ivs (liveN hp.1) ++ [.non])) p19 = some (.lst (ivs (liveN hp.1) ++ [.non])) := upd_same
                        have hp19p := hp17.ex e19
                        have tal19 := e19 _ _ tal17
                        have tk19 : ∀ b xs, H10 b = some (.tup xs) → upd (upd H17 p18 (.lst [.non])) p19 (.lst (ivs (liveN hp.1) ++ [.non])) b = some (.tup xs) := fun b xs h => e19 _ _ (tk17 b xs h)
                        have F19 := F17.trans (.ex e19)
                        have h19o := (hp17.ex (Ex.new (o := .lst [.non]) hp18)).off hp19
                        generalize upd (upd H17 p18 (.lst [.non])) p19 (.lst (ivs (liveN hp.1) ++ [.non])) = H19 at t19 hp19p tal19 tk19 F19 ⊢
                        walk_at "rd"
                        rw [ivs_len, show (((liveN hp.1).length : Nat) : Int) + 1 = (((liveN hp.1).length + 1 : Nat) : Int) from by omega]
                        refine us_draw (m := (liveN hp.1).length + 1) hp19p (by omega) (by omega) (by omega) fun r2 H20 hr2 hp20 f20 => ?_
                        have t20 := f20 _ _ h19o.1 t19
                        have tk20 : ∀ b xs, H10 b = some (.tup xs) → H20 b = some (.tup xs) := fun b xs h => (hp19p.tk f20) _ _ (tk19 b xs h)
                        obtain ⟨g, hg1, hg2⟩ : ∃ g : Option Nat, (ivs (liveN hp.1) ++ [V.non])[r2]? = some (ent g) ∧ ∀ x, g = some x → Live hp.1 x := by
                          by_cases hlt : r2 < (liveN hp.1).length
                          · have hgg := List.getElem?_eq_getElem hlt
                            exact ⟨some ((liveN hp.1)[r2]), by rw [List.getElem?_append_left (by rw [ivs_len]; exact hlt)]; exact ivs_get hgg, fun x hx => by
                              cases hx
                              exact mem_liveN.mp (List.getElem_mem hlt)⟩
                          · exact ⟨none, by rw [List.getElem?_append_right (by rw [ivs_len]; omega), ivs_len, show r2 - (liveN hp.1).length = 0 by omega]; rfl, fun x hx => by cases hx⟩
                        obtain ⟨w9, hw9, d9, rfl, hd9⟩ := hvs.2 u _ hxs
                        have ha20 := tk20 _ _ ha10
                        have hb20 := tk20 _ _ hb10
                        have hd20 := tk20 _ _ (tk10 _ _ hd9)
                        have F20 := F19.trans f20
                        refine rd_ixL (sq_of t20) hg1 ?_
                        walk_at "rd"
                        rw [List.length_map]
                        refine us_draw (m := xs.length) hp20 (by omega) (by omega) (by omega) fun r3 H21 hr3 hp21 f21 => ?_
                        walk_at "rd"
                        rename_i p22 hp22
                        have e22 := Ex.new (o := .tup [.str "put", .int (u : Int), .int (r3 : Int), ent g]) hp22
                        exact fin p22 (.put u r3 g) _ ((F20.trans f21).trans (.ex e22)) ((hp21.ex e22).mono (by omega)) upd_same ⟨xs, hxs, hr3, hg2⟩
                      · walk_at "rd"
                        exact tail _ _ ⟨rfl, e16⟩
                    · walk_at "rd"
                      exact tail _ _ ⟨rfl, e15⟩
                  · rintro σ H15 ⟨rfl, e15⟩
                    have hp15p := hp10.ex e15
                    have tal15 := e15 _ _ tal10
                    walk_at "rd"
                    refine if_b (fun hc1 => ?_) (fun hc1 => ?_)
                    · have hc1 := of_decide_eq_true hc1
                      injection hc1 with hc1
                      have hln : 1 ≤ (liveN hp.1).length := by
                        cases hl : liveN hp.1 with
                        | nil => exact absurd hl (hne (by omega))
                        | cons _ _ => simp
                      walk_at "rd"
                      rw [ivs_len]
                      refine us_draw (m := (liveN hp.1).length) hp15p (by omega) (by omega) (by omega) fun r H16 hr hp16 f16 => ?_
                      have tal16 := f16 _ _ hDo.1 tal15
                      have hg := List.getElem?_eq_getElem hr
                      generalize (liveN hp.1)[r] = u at hg
                      have hgi : (ivs (liveN hp.1))[r]? = some (.int (u : Nat)) := ivs_get hg
                      walk_at "rd"
                      rename_i p17 hp17
                      have e17 := Ex.new (o := .tup [.str "empty_slots", .int (u : Int)]) hp17
                      exact fin p17 (.empty u) _ (((FrP.ex e15).trans f16).trans (.ex e17)) ((hp16.ex e17).mono (by omega)) upd_same (mem_liveN.mp (List.mem_of_getElem? hg))
                    · walk_at "rd"
                      rename_i p16 hp16 p17 hp17 p18 hp18
                      have e18 := ((Ex.new (o := .tup [.str "collect"]) hp16).trans (Ex.new (o := .tup [.str "collect_local"]) hp17)).trans (Ex.new (o := .lst [.ref p16, .ref p17]) hp18)
                      have hp18p := hp15p.ex e18
                      have h18o := (hp15p.ex ((Ex.new (o := .tup [.str "collect"]) hp16).trans (Ex.new (o := .tup [.str "collect_local"]) hp17))).off hp18
                      have t18 : upd (upd (upd H15 p16 (.tup [.str "collect"])) p17 (.tup [.str "collect_local"])) p18 (.lst [.ref p16, .ref p17]) p18 = some (.lst [.ref p16, .ref p17]) := upd_same
                      have t16 : upd (upd (upd H15 p16 (.tup [.str "collect"])) p17 (.tup [.str "collect_local"])) p18 (.lst [.ref p16, .ref p17]) p16 = some (.tup [.str "collect"]) := upd_fr (upd_fr upd_same hp17) hp18
                      have t17 : upd (upd (upd H15 p16 (.tup [.str "collect"])) p17 (.tup [.str "collect_local"])) p18 (.lst [.ref p16, .ref p17]) p17 = some (.tup [.str "collect_local"]) := upd_fr upd_same hp18
                      generalize upd (upd (upd H15 p16 (.tup [.str "collect"])) p17 (.tup [.str "collect_local"])) p18 (.lst [.ref p16, .ref p17]) = H18 at e18 hp18p t18 t16 t17 ⊢
                      refine us_draw (m := 2) hp18p (by omega) (by decide) (by decide) fun r H19 hr hp19 f19 => ?_
                      have t19 := f19 _ _ h18o.1 t18
                      have tk19 := hp18p.tk f19
                      have F19 := ((FrP.ex (p := p) e15).trans (.ex e18)).trans f19
                      match r, hr with
                      | 0, _ =>
                        refine rd_ixL (i := 0) (sq_of t19) rfl ?_
                        exact fin p16 .collect _ F19 (hp19.mono (by omega)) (tk19 _ _ t16) trivial
                      | 1, _ =>
                        refine rd_ixL (i := 1) (sq_of t19) rfl ?_
                        exact fin p17 .local _ F19 (hp19.mono (by omega)) (tk19 _ _ t17) trivial
end
end Sf
/-! the law's own: by_modules, call -/
namespace Sf
open PySem PySem.Spec PyProof.Rows L2 Evl
theorem rd_callN {n m : Nat} {sp : Sp} {gV : List V → List V → List V} {E : XK} {t tk : TA} {σ : L2.St} {H : Hp} {Q : VK} (h : t σ H fun vs H1 => tk σ H1 fun zs H2 => vs.length = n ∧ zs.length = m ∧ sp (gV vs zs) H2 Q E) : tCallN n m sp gV E t tk σ H Q := h
theorem rd_makeN {C : Addr} {n m : Nat} {sp : Sp} {gV : List V → List V → List V} {E : XK} {t tk : TA} {σ : L2.St} {H : Hp} {Q : VK} (h : t σ H fun vs H1 => tk σ H1 fun zs H2 => vs.length = n ∧ zs.length = m ∧
  ∀ x dx, H2 x = none → H2 dx = none → dx ≠ x → sp (gV (.ref x :: vs) zs) (upd (upd H2 dx (.own x)) x (.ins C dx [])) (fun v H3 => v = .non ∧ Q (.ref x) H3) E) : tMakeN C n m sp gV E t tk σ H Q := h
local macro_rules | `(tactic| walk_at "hx") => `(tactic| first | assumption | exact upd_same | (with_reducible refine upd_fr ?_ (by assumption); walk_at "hx") | (refine ex_get (by assumption) ?_; walk_at "hx"))
local macro_rules | `(tactic| walk_at "ex") => `(tactic| first | assumption | exact Ex.refl _ | (with_reducible refine ex_new ?_ (by assumption); walk_at "ex") | (refine Ex.trans ?_ (by assumption); walk_at "ex"))
local macro_rules | `(tactic| walk_at "sqT") => `(tactic| first | (with_reducible assumption) | exact st_of (by walk_at "hx"))
local macro_rules | `(tactic| walk_at "sqL") => `(tactic| first | (with_reducible assumption) | exact sq_of (by walk_at "hx"))
local macro_rules | `(tactic| walk_at "sq") => `(tactic| first | (with_reducible assumption) | exact st_of (by walk_at "hx") | exact sq_of (by walk_at "hx"))
local macro_rules | `(tactic| walk_at "ty") => `(tactic| first | exact TyX.base (.int _) | exact TyX.base .non | exact TyX.base (.bl _) | exact TyX.base (.str _) | exact TyX.base (.tup (by walk_at "hx")) | exact TyX.base (.lst (by walk_at "hx")))
local macro_rules | `(tactic| walk_at "rd1") => `(tactic| first
  | with_reducible refine rd_seq ?_
  | ((with_reducible refine' rd_var ?h ?_); (case h => exact rfl))
  | with_reducible refine rd_c ?_
  | with_reducible refine rd_op ?_
  | with_reducible refine rd_un ?_
  | with_reducible refine rd_CB ?_
  | with_reducible refine rd_call ?_
  | with_reducible refine rd_cons ?_
  | with_reducible refine rd_nil ?_
  | with_reducible refine rd_I0 ?_
  | with_reducible refine rd_U ?_
  | with_reducible refine rd_ret ?_
  | with_reducible refine rd_retN ?_
  | with_reducible refine rd_next ?_
  | with_reducible refine rd_asg ?_
  | with_reducible refine rd_gName ?_
  | with_reducible refine rd_drop ?_
  | with_reducible refine rd_ifS ?_
  | with_reducible refine rd_test ?_
  | with_reducible refine rd_B ?_
  | with_reducible refine rd_notT ?_
  | with_reducible refine rd_andT ?_
  | with_reducible refine rd_orT ?_
  | with_reducible refine rd_andV ?_
  | with_reducible refine rd_orV ?_
  | with_reducible refine rd_notV ?_
  | with_reducible refine rd_ifE ?_
  | with_reducible refine rd_chain ?_
  | with_reducible refine rd_tup ?_
  | with_reducible refine rd_lst ?_
  | with_reducible refine rd_k ?_
  | with_reducible refine rd_eqS rfl ?_
  | with_reducible refine rd_neS rfl ?_
  | ((with_reducible refine rd_and (small40 (Nat.le_of_ble_eq_true rfl)) ?_); intro _ _)
  | (with_reducible refine' rd_isiT2 (k := "tuple") ?ty ?hx kb_tl kb_tt ?_; (case ty => walk_at "ty"); (case hx => walk_at "hx"))
  | with_reducible refine us_is_integer ?_
  | with_reducible refine us_is_between ?_
  | ((with_reducible refine' rd_ixT0 ?sq ?g ?_); (case sq => walk_at "sqT"); (case g => first | exact rfl | assumption))
  | ((with_reducible refine' rd_ixT1 ?sq ?g ?_); (case sq => walk_at "sqT"); (case g => first | exact rfl | assumption))
  | ((with_reducible refine' rd_ixT2 ?sq ?g ?_); (case sq => walk_at "sqT"); (case g => first | exact rfl | assumption))
  | ((with_reducible refine' rd_ixT3 ?sq ?g ?_); (case sq => walk_at "sqT"); (case g => first | exact rfl | assumption))
  | ((with_reducible refine' rd_ixT4 ?sq ?g ?_); (case sq => walk_at "sqT"); (case g => first | exact rfl | assumption))
  | ((with_reducible refine' rd_ixL0 ?sq ?g ?_); (case sq => walk_at "sqL"); (case g => first | exact rfl | assumption))
  | ((with_reducible refine' rd_ixL1 ?sq ?g ?_); (case sq => walk_at "sqL"); (case g => first | exact rfl | assumption))
  | ((with_reducible refine' rd_ixL2 ?sq ?g ?_); (case sq => walk_at "sqL"); (case g => first | exact rfl | assumption))
  | ((with_reducible refine' rd_ixT ?sq ?g ?_); (case sq => walk_at "sqT"); (case g => first | assumption | exact rfl))
  | ((with_reducible refine' rd_ixL ?sq ?g ?_); (case sq => walk_at "sqL"); (case g => first | assumption | exact rfl))
  | with_reducible refine rd_sl ?_
  | with_reducible refine rd_noPart ?_
  | with_reducible refine rd_part ?_
  | with_reducible refine rd_pt1 ?_
  | with_reducible refine rd_make ?_
  | with_reducible refine rd_callN ?_
  | with_reducible refine rd_makeN ?_
  | with_reducible refine rd_revT ?_
  | with_reducible refine rd_dc ?_
  | with_reducible refine rd_notinD ?_
  | with_reducible refine rd_inD ?_
  | with_reducible refine rd_dget ?_
  | with_reducible refine rd_dput ?_
  | ((with_reducible refine' rd_fld1 ?h ?c ?n ?l ?_); (case h => walk_at "hx"); (case c => first | exact Tx.c_Unwinding (by assumption) | exact Tx.c_Store (by assumption)); (case n => first | exact Tx.n_Unwinding_rows (by assumption) | exact Tx.n_Unwinding_references (by assumption) | exact Tx.n_Unwinding_tallies (by assumption) | exact Tx.n_Unwinding_bound (by assumption) | exact Tx.n_Unwinding_log (by assumption) | exact Tx.n_Unwinding_shelf (by assumption) | exact Tx.n_Unwinding_peak (by assumption) | exact Tx.n_Unwinding_events (by assumption) | exact Tx.n_Store_snapshots (by assumption) | exact Tx.n_Store_recorded (by assumption) | exact Tx.n_Store_observer (by assumption) | exact Tx.n_Store_is_busy (by assumption)); (case l => exact rfl))
  | ((with_reducible refine' rd_sFld1 ?h ?c ?n ?l ?_); (case h => walk_at "hx"); (case c => first | exact Tx.c_Unwinding (by assumption) | exact Tx.c_Store (by assumption)); (case n => first | exact Tx.n_Unwinding_rows (by assumption) | exact Tx.n_Unwinding_references (by assumption) | exact Tx.n_Unwinding_tallies (by assumption) | exact Tx.n_Unwinding_bound (by assumption) | exact Tx.n_Unwinding_log (by assumption) | exact Tx.n_Unwinding_shelf (by assumption) | exact Tx.n_Unwinding_peak (by assumption) | exact Tx.n_Unwinding_events (by assumption) | exact Tx.n_Store_snapshots (by assumption) | exact Tx.n_Store_recorded (by assumption) | exact Tx.n_Store_observer (by assumption) | exact Tx.n_Store_is_busy (by assumption)); (case l => exact Nat.le_of_ble_eq_true rfl))
  | ((with_reducible refine' rd_meth1 ?h ?l ?_); (case h => walk_at "hx"); (case l => exact rfl))
  | ((with_reducible refine' rd_and (rd_tyL ?h) ?_); (case h => walk_at "hx"))
  | ((with_reducible refine' rd_rng1 ?hn ?_); (case hn => first | omega | (simp; omega)))
  | with_reducible refine rd_nx ?_
  | with_reducible refine rd_rt ?_
  | with_reducible refine rd_ct ?_
  | with_reducible refine rd_bk ?_
  | ((with_reducible refine' rd_isi ?ty ?kb ?_); (case ty => walk_at "ty"); (case kb => first | exact kb_ii | exact kb_ib | exact kb_tt | exact kb_tl | exact kb_ss | exact kb_nt))
  | with_reducible refine rd_for ?_
  | with_reducible refine rd_iTup ?_
  | with_reducible refine rd_iList ?_
  | with_reducible refine rd_iRng1 ?_
  | with_reducible refine rd_iRng2 ?_
  | with_reducible refine rd_iEnumT ?_
  | with_reducible refine rd_iEnum ?_
  | with_reducible refine rd_lc ?_
  | with_reducible refine rd_yes ?_
  | ((with_reducible refine' rd_gTup ?sq ?n ?_); (case sq => walk_at "sqT"); (case n => exact rfl))
  | with_reducible refine rd_gCons ?_
  | with_reducible refine rd_gNil ?_
  | with_reducible refine rd_fld ?_
  | with_reducible refine rd_meth ?_
  | with_reducible refine rd_sFld ?_
  | with_reducible refine rd_BM ?_
  | with_reducible refine rd_BM0 ?_
  | ((with_reducible refine' rd_orRow ?h (by assumption) ?_); (case h => exact rfl))
  | with_reducible refine rd_augS ?_
  | with_reducible refine rd_ip ?_
  | with_reducible refine rd_gSub ?_
  | ((with_reducible refine' rd_aug ?h ?_); (case h => exact rfl))
  | with_reducible refine rd_par ?_
  | with_reducible refine rd_par1 ?_
  | ((with_reducible refine' rd_lenT ?sq ?_); (case sq => exact st_of (by walk_at "hx")))
  | ((with_reducible refine' rd_lenL ?sq ?_); (case sq => exact sq_of (by walk_at "hx")))
  | ((with_reducible refine' rd_itt ?sq ?_); (case sq => walk_at "sqT"))
  | ((with_reducible refine' rd_itl ?sq ?_); (case sq => walk_at "sqL"))
  | ((with_reducible refine' rd_enumT ?sq ?_); (case sq => walk_at "sqT"))
  | ((with_reducible refine' rd_enumL ?sq ?_); (case sq => walk_at "sqL"))
  | with_reducible refine rd_and rfl ?_
  | with_reducible refine if_t rfl ?_
  | with_reducible refine if_f rfl ?_)
local macro_rules | `(tactic| walk_at "rd") => `(tactic| repeat (walk_at "rd1"))
noncomputable def Act.run (B : Int) (hp : Hv) : Act → Option Un
  | .drop v => dropO B (Un.start hp) v
  | .put v i g => fillS B (Un.start hp) v i g
  | .empty v => strip B (Un.start hp) v
  | .collect => stripAll B (unr hp) (Un.start hp)
  | _ => none
def Act.mods : Act → Bool
  | .drop _ => true
  | .put _ _ _ => true
  | .empty _ => true
  | .collect => true
  | _ => false
theorem unr_lt {hp : Hv} : ∀ v ∈ unr hp, v < hp.1.length := fun v h => (mem_unr.mp h).1.lt
theorem unr_len (hp : Hv) : (unr hp).length ≤ hp.1.length := nodup_lt ((unr_sorted hp).imp fun h => Nat.ne_of_lt h) unr_lt
theorem SI.act {b0 : Nat} {ss : SS} (i : SI b0 ss) {B : Int} {act : Act} (h : act.Ok ss.hp) (hm : act.mods = true) (hd : ss.don.length < 1000) : ∃ s', act.run B ss.hp = some s' ∧ RunIn b0 ss s' := by
  cases act with
  | drop v => exact i.drop h.1 h.2 hd
  | put v j g =>
    obtain ⟨xs, h1, h2, h3⟩ := h
    exact i.put h1 h2 h3 hd
  | empty v => exact i.empty h hd
  | collect => exact i.sweep unr_lt (Nat.le_trans (unr_len _) i.vh.n40) hd
  | setLim B => cases hm
  | new w => cases hm
  | hold v => cases hm
  | «local» => cases hm
def sp_l_by_modules : Sp := fun vs H Q _ => match vs with
  | [x, y, z] => ∃ (hp : Hv) (B : Int) (act : Act) (t : Addr), HeapV H x hp ∧ Vh hp ∧ y = .int B ∧ z = .ref t ∧ H t = some (.tup act.vs) ∧ act.Ok hp ∧
      (act.mods = true → ∃ s', act.run B hp = some s' ∧ s'.rows.length ≤ 40 ∧ ∀ r H', Ex H H' → ResV H' r s'.log s'.heap → Q r H') ∧ (act.mods = false → Q .non H)
  | _ => False
def sp_l_call (K : PySem.W.Frag) : Sp := fun vs H Q _ => match vs with
  | [x, y] => ∃ (A : SA) (ss : SS) (b0 : Nat) (act : Act) (t : Addr), x = .ref A.s ∧ y = .ref t ∧ SW K A H ss ∧ SI b0 ss ∧ ss.don.length < 100 ∧ H t = some (.tup act.vs) ∧ act.Ok ss.hp ∧
      (act.mods = true → ∀ s' l cd' H', act.run ss.lim ss.hp = some s' → H' l = some (.tup (ivs s'.log)) → SW K A H' (ss.run s' cd') → SI b0 (ss.run s' cd') → Frm A H H' → Q (.ref l) H') ∧
      (act.mods = false → ∀ v ss' H', SW K A H' ss' → SI b0 ss' → ss'.don.length = ss.don.length + 1 → Frm A H H' → Q v H')
  | _ => False
section
variable {P : Program} {w : World} {K : PySem.W.Frag} {mg : Str → Option Value} {base : Heap}
theorem ok_l_by_modules (T : Tx K mg) : FnOk P w K mg base CX0 90 (a_l_by_modules K) (fd_l_by_modules K) ["_law_base_here", "_law_bound", "_law_action"] (sp_l_by_modules) := by
  refine FunD.ok T.f_l_by_modules sc_l_by_modules (fun vs H Q E h => match vs, h with | [_, _, _], _ => rfl) (fun cdv A outer s H vs Q E hr h => ⟨_, PSs.nox (pss_cons (ps_if (pt_cmpR op_eq (pe_ix (ixT (K := K)) (pv 2) pe_int (fun _ _ => rfl)) pe_str (nomark _)) (pss_one (ps_ret (pe_callN (ok_drop T) (hr.mono (by omega)) (by rfl) T.g_drop T.k_drop T.kb_drop pass0 (pa_cons (pv 0) (pa_cons (pe_ix (ixT (K := K)) (pv 2) pe_int (fun _ _ => rfl)) pa_nil)) (pk_cons (pv 1) pk_nil)))) pss_nil)
      (pss_cons (ps_if (pt_cmpR op_eq (pe_ix (ixT (K := K)) (pv 2) pe_int (fun _ _ => rfl)) pe_str (nomark _)) (pss_one (ps_ret (pe_callN (ok_set_slot T) (hr.mono (by omega)) (by rfl) T.g_set_slot T.k_set_slot T.kb_set_slot pass0 (pa_cons (pv 0) (pa_cons (pe_ix (ixT (K := K)) (pv 2) pe_int (fun _ _ => rfl)) (pa_cons (pe_ix (ixT (K := K)) (pv 2) pe_int (fun _ _ => rfl)) (pa_cons (pe_ix (ixT (K := K)) (pv 2) pe_int (fun _ _ => rfl)) pa_nil)))) (pk_cons (pv 1) pk_nil)))) pss_nil)
      (pss_cons (ps_if (pt_cmpR op_eq (pe_ix (ixT (K := K)) (pv 2) pe_int (fun _ _ => rfl)) pe_str (nomark _)) (pss_one (ps_ret (pe_callN (ok_empty_slots T) (hr.mono (by omega)) (by rfl) T.g_empty_slots T.k_empty_slots T.kb_empty_slots pass0 (pa_cons (pv 0) (pa_cons (pe_ix (ixT (K := K)) (pv 2) pe_int (fun _ _ => rfl)) pa_nil)) (pk_cons (pv 1) pk_nil)))) pss_nil)
      (pss_one (ps_ret (pe_ifExp (pt_cmpR op_eq (pe_ix (ixT (K := K)) (pv 2) pe_int (fun _ _ => rfl)) pe_str (nomark _)) (pe_callN (ok_collect T) (hr.mono (by omega)) (by rfl) T.g_collect T.k_collect T.kb_collect pass0 (pa_cons (pv 0) pa_nil) (pk_cons (pv 1) pk_nil)) pe_non)))))), ?_⟩)
  match vs, h with
  | [v0, v1, v2], h =>
    obtain ⟨hp, B, act, t, hh, hV, rfl, rfl, ht, hok, q1, q2⟩ := h
    cases act with
    | drop v =>
      obtain ⟨s', h1, h2, h3⟩ := q1 rfl
      have ht : H t = some (.tup [.str "drop", .int (v : Int)]) := ht
      walk_at "rd"
      exact Exists.intro hp ⟨v, B, s', hh, hV, rfl, hok.1, hok.2, rfl, h1, h2, h3⟩
    | put v j g =>
      obtain ⟨s', h1, h2, h3⟩ := q1 rfl
      obtain ⟨xs, g1, g2, g3⟩ := hok
      have ht : H t = some (.tup [.str "put", .int (v : Int), .int (j : Int), ent g]) := ht
      walk_at "rd"
      exact Exists.intro hp ⟨v, j, xs, g, B, s', hh, hV, rfl, rfl, g1, g2, rfl, g3, rfl, h1, h2, h3⟩
    | empty v =>
      obtain ⟨s', h1, h2, h3⟩ := q1 rfl
      have ht : H t = some (.tup [.str "empty_slots", .int (v : Int)]) := ht
      walk_at "rd"
      exact Exists.intro hp ⟨v, B, s', hh, hV, rfl, hok, rfl, h1, h2, h3⟩
    | collect =>
      obtain ⟨s', h1, h2, h3⟩ := q1 rfl
      have ht : H t = some (.tup [.str "collect"]) := ht
      walk_at "rd"
      exact Exists.intro hp ⟨B, s', hh, hV, rfl, h1, h2, h3⟩
    | setLim B2 =>
      have ht : H t = some (.tup [.str "set_limit", .int B2]) := ht
      walk_at "rd"
      exact q2 rfl
    | new w =>
      have ht : H t = some (.tup [.str "new", .int (w : Int)]) := ht
      walk_at "rd"
      exact q2 rfl
    | hold v =>
      have ht : H t = some (.tup [.str "hold", .int (v : Int)]) := ht
      walk_at "rd"
      exact q2 rfl
    | «local» =>
      have ht : H t = some (.tup [.str "collect_local"]) := ht
      walk_at "rd"
      exact q2 rfl
theorem ok_l_call (T : Tx K mg) : FnOk P w K mg base CX0 90 (a_l_call K) (fd_l_call K) ["_law_store", "_law_action"] (sp_l_call K) := by
  refine FunD.ok T.f_l_call sc_l_call (fun vs H Q E h => match vs, h with | [_, _], _ => rfl) (fun cdv A outer s H vs Q E hr h => ⟨_, PSs.nox (pss_cons (ps_if (pt_cmpR op_eq (pe_ix (ixT (K := K)) (pv 1) pe_int (fun _ _ => rfl)) pe_str (nomark _)) (pss_one (ps_ret (pe_meth (pv 0) T.c_Store T.t_Store_new (ok_Store_new T) (hr.mono (by omega)) T.b_Store_new .nil pass0 (pa_cons (pe_ix (ixT (K := K)) (pv 1) pe_int (fun _ _ => rfl)) pa_nil)))) pss_nil)
      (pss_cons (ps_if (pt_cmpR op_eq (pe_ix (ixT (K := K)) (pv 1) pe_int (fun _ _ => rfl)) pe_str (nomark _)) (pss_one (ps_ret (pe_meth (pv 0) T.c_Store T.t_Store_hold (ok_Store_hold T) (hr.mono (by omega)) T.b_Store_hold .nil pass0 (pa_cons (pe_ix (ixT (K := K)) (pv 1) pe_int (fun _ _ => rfl)) pa_nil)))) pss_nil)
      (pss_cons (ps_if (pt_cmpR op_eq (pe_ix (ixT (K := K)) (pv 1) pe_int (fun _ _ => rfl)) pe_str (nomark _)) (pss_one (ps_ret (pe_meth (pv 0) T.c_Store T.t_Store_drop (ok_Store_drop T) (hr.mono (by omega)) T.b_Store_drop .nil pass0 (pa_cons (pe_ix (ixT (K := K)) (pv 1) pe_int (fun _ _ => rfl)) pa_nil)))) pss_nil)
      (pss_cons (ps_if (pt_cmpR op_eq (pe_ix (ixT (K := K)) (pv 1) pe_int (fun _ _ => rfl)) pe_str (nomark _)) (pss_one (ps_ret (pe_meth (pv 0) T.c_Store T.t_Store_put (ok_Store_put T) (hr.mono (by omega)) T.b_Store_put .nil pass0 (pa_cons (pe_ix (ixT (K := K)) (pv 1) pe_int (fun _ _ => rfl)) (pa_cons (pe_ix (ixT (K := K)) (pv 1) pe_int (fun _ _ => rfl)) (pa_cons (pe_ix (ixT (K := K)) (pv 1) pe_int (fun _ _ => rfl)) pa_nil)))))) pss_nil)
      (pss_cons (ps_if (pt_cmpR op_eq (pe_ix (ixT (K := K)) (pv 1) pe_int (fun _ _ => rfl)) pe_str (nomark _)) (pss_one (ps_ret (pe_meth (pv 0) T.c_Store T.t_Store_empty_slots (ok_Store_empty_slots T) (hr.mono (by omega)) T.b_Store_empty_slots .nil pass0 (pa_cons (pe_ix (ixT (K := K)) (pv 1) pe_int (fun _ _ => rfl)) pa_nil)))) pss_nil)
      (pss_cons (ps_if (pt_cmpR op_eq (pe_ix (ixT (K := K)) (pv 1) pe_int (fun _ _ => rfl)) pe_str (nomark _)) (pss_one (ps_ret (pe_meth (pv 0) T.c_Store T.t_Store_set_limit (ok_Store_set_limit T) (hr.mono (by omega)) T.b_Store_set_limit .nil pass0 (pa_cons (pe_ix (ixT (K := K)) (pv 1) pe_int (fun _ _ => rfl)) pa_nil)))) pss_nil)
      (pss_one (ps_ret (pe_ifExp (pt_cmpR op_eq (pe_ix (ixT (K := K)) (pv 1) pe_int (fun _ _ => rfl)) pe_str (nomark _)) (pe_meth0 (pv 0) T.c_Store T.t_Store_collect (ok_Store_collect T) (hr.mono (by omega)) T.b_Store_collect .nil pass0) (pe_meth0 (pv 0) T.c_Store T.t_Store_collect_local (ok_Store_collect_local T) (hr.mono (by omega)) T.b_Store_collect_local .nil pass0)))))))))), ?_⟩)
  match vs, h with
  | [v0, v1], h =>
    obtain ⟨A, ss, b0, act, t, rfl, rfl, w, i, hd, ht, hok, q1, q2⟩ := h
    have t0 := w.at0
    have V := i.vh
    have h40 := V.n40
    have run : ∀ s', act.mods = true → act.run ss.lim ss.hp = some s' → RunIn b0 ss s' := fun s' hm e => by
      obtain ⟨s2, e2, r⟩ := i.act (B := ss.lim) hok hm (by omega)
      rw [e] at e2
      cases e2
      exact r
    have post : ∀ s', act.mods = true → act.run ss.lim ss.hp = some s' → RunPost K A H ss s' Q := fun s' hm e l cd' H' g1 g2 g3 g4 g5 => q1 hm s' l cd' H' e g1 g2 ((run s' hm e).2.2 cd' g4 g5) g3
    cases act with
    | drop v =>
      obtain ⟨s', e, r⟩ := i.act (B := ss.lim) hok rfl (by omega)
      have ht : H t = some (.tup [.str "drop", .int (v : Int)]) := ht
      walk_at "rd"
      exact Exists.intro A ⟨ss, v, s', rfl, w, V, rfl, hok.1, hok.2, e, r.1, post s' rfl e⟩
    | put v j g =>
      obtain ⟨s', e, r⟩ := i.act (B := ss.lim) hok rfl (by omega)
      obtain ⟨xs, g1, g2, g3⟩ := hok
      have ht : H t = some (.tup [.str "put", .int (v : Int), .int (j : Int), ent g]) := ht
      walk_at "rd"
      exact Exists.intro A ⟨ss, v, j, xs, g, s', rfl, w, V, rfl, rfl, g1, g2, rfl, g3, e, r.1, post s' rfl e⟩
    | empty v =>
      obtain ⟨s', e, r⟩ := i.act (B := ss.lim) hok rfl (by omega)
      have ht : H t = some (.tup [.str "empty_slots", .int (v : Int)]) := ht
      walk_at "rd"
      exact Exists.intro A ⟨ss, v, s', rfl, w, V, rfl, hok, e, r.1, post s' rfl e⟩
    | collect =>
      obtain ⟨s', e, r⟩ := i.act (B := ss.lim) hok rfl (by omega)
      have ht : H t = some (.tup [.str "collect"]) := ht
      walk_at "rd"
      exact Exists.intro A ⟨ss, s', rfl, w, V, e, r.1, post s' rfl e⟩
    | setLim B2 =>
      have ht : H t = some (.tup [.str "set_limit", .int B2]) := ht
      walk_at "rd"
      exact Exists.intro A ⟨ss, B2, rfl, w, rfl, hok.1, hok.2, by omega, fun H' w' f' => q2 rfl _ _ H' w' (i.setLim hok.1 hok.2) (by simp) f'⟩
    | new wd =>
      have ht : H t = some (.tup [.str "new", .int (wd : Int)]) := ht
      have hfr := i.frl
      walk_at "rd"
      exact Exists.intro A ⟨ss, wd, rfl, w, V, rfl, hok.1, hok.2, fun v hv => (List.getElem?_eq_some_iff.mp ((i.ff v).mp hv)).1, by omega, by omega, fun H' w' f' => q2 rfl _ _ H' w' (i.new hok.1 hok.2) (by simp) f'⟩
    | hold v =>
      have ht : H t = some (.tup [.str "hold", .int (v : Int)]) := ht
      walk_at "rd"
      exact Exists.intro A ⟨ss, v, rfl, w, V, rfl, hok.1, hok.2, by omega, fun r H' w' f' => q2 rfl _ _ H' w' (i.hold hok.1 hok.2) (by simp) f'⟩
    | «local» =>
      have ht : H t = some (.tup [.str "collect_local"]) := ht
      walk_at "rd"
      refine Exists.intro A ⟨ss, rfl, w, V, i.cs.imp (fun h => Nat.ne_of_lt h), i.cl, fun ns hn hl => ?_⟩
      obtain ⟨s', e, r⟩ := i.sweep (B := ss.lim) hn hl (by omega)
      exact ⟨s', e, r.1, fun t cd' H' g1 g2 g3 g4 => q2 rfl _ _ H' g1 (r.2.2 cd' g3 g4) (by simp [SS.run]) g2⟩
end
end Sf
/-! the law's own: sound -/
namespace Sf
open PySem PySem.Spec PyProof.Rows L2 Evl
local macro_rules | `(tactic| walk_at "hx") => `(tactic| first | assumption | exact upd_same | (with_reducible refine upd_fr ?_ (by assumption); walk_at "hx") | (refine ex_get (by assumption) ?_; walk_at "hx"))
local macro_rules | `(tactic| walk_at "ex") => `(tactic| first | assumption | exact Ex.refl _ | (with_reducible refine ex_new ?_ (by assumption); walk_at "ex") | (refine Ex.trans ?_ (by assumption); walk_at "ex"))
local macro_rules | `(tactic| walk_at "sqT") => `(tactic| first | (with_reducible assumption) | exact st_of (by walk_at "hx"))
local macro_rules | `(tactic| walk_at "sqL") => `(tactic| first | (with_reducible assumption) | exact sq_of (by walk_at "hx"))
local macro_rules | `(tactic| walk_at "sq") => `(tactic| first | (with_reducible assumption) | exact st_of (by walk_at "hx") | exact sq_of (by walk_at "hx"))
local macro_rules | `(tactic| walk_at "ty") => `(tactic| first | exact TyX.base (.int _) | exact TyX.base .non | exact TyX.base (.bl _) | exact TyX.base (.str _) | exact TyX.base (.tup (by walk_at "hx")) | exact TyX.base (.lst (by walk_at "hx")))
local macro_rules | `(tactic| walk_at "rd1") => `(tactic| first
  | with_reducible refine rd_seq ?_
  | ((with_reducible refine' rd_var ?h ?_); (case h => exact rfl))
  | with_reducible refine rd_c ?_
  | with_reducible refine rd_op ?_
  | with_reducible refine rd_un ?_
  | with_reducible refine rd_CB ?_
  | with_reducible refine rd_call ?_
  | with_reducible refine rd_cons ?_
  | with_reducible refine rd_nil ?_
  | with_reducible refine rd_I0 ?_
  | with_reducible refine rd_U ?_
  | with_reducible refine rd_ret ?_
  | with_reducible refine rd_retN ?_
  | with_reducible refine rd_next ?_
  | with_reducible refine rd_asg ?_
  | with_reducible refine rd_gName ?_
  | with_reducible refine rd_drop ?_
  | with_reducible refine rd_ifS ?_
  | with_reducible refine rd_test ?_
  | with_reducible refine rd_B ?_
  | with_reducible refine rd_notT ?_
  | with_reducible refine rd_andT ?_
  | with_reducible refine rd_orT ?_
  | with_reducible refine rd_andV ?_
  | with_reducible refine rd_orV ?_
  | with_reducible refine rd_notV ?_
  | with_reducible refine rd_ifE ?_
  | with_reducible refine rd_chain ?_
  | with_reducible refine rd_tup ?_
  | with_reducible refine rd_lst ?_
  | with_reducible refine rd_k ?_
  | with_reducible refine rd_eqS rfl ?_
  | with_reducible refine rd_neS rfl ?_
  | ((with_reducible refine rd_and (small40 (Nat.le_of_ble_eq_true rfl)) ?_); intro _ _)
  | (with_reducible refine' rd_isiT2 (k := "tuple") ?ty ?hx kb_tl kb_tt ?_; (case ty => walk_at "ty"); (case hx => walk_at "hx"))
  | with_reducible refine us_is_integer ?_
  | with_reducible refine us_is_between ?_
  | ((with_reducible refine' rd_ixT0 ?sq ?g ?_); (case sq => walk_at "sqT"); (case g => first | exact rfl | assumption))
  | ((with_reducible refine' rd_ixT1 ?sq ?g ?_); (case sq => walk_at "sqT"); (case g => first | exact rfl | assumption))
  | ((with_reducible refine' rd_ixT2 ?sq ?g ?_); (case sq => walk_at "sqT"); (case g => first | exact rfl | assumption))
  | ((with_reducible refine' rd_ixT3 ?sq ?g ?_); (case sq => walk_at "sqT"); (case g => first | exact rfl | assumption))
  | ((with_reducible refine' rd_ixT4 ?sq ?g ?_); (case sq => walk_at "sqT"); (case g => first | exact rfl | assumption))
  | ((with_reducible refine' rd_ixL0 ?sq ?g ?_); (case sq => walk_at "sqL"); (case g => first | exact rfl | assumption))
  | ((with_reducible refine' rd_ixL1 ?sq ?g ?_); (case sq => walk_at "sqL"); (case g => first | exact rfl | assumption))
  | ((with_reducible refine' rd_ixL2 ?sq ?g ?_); (case sq => walk_at "sqL"); (case g => first | exact rfl | assumption))
  | ((with_reducible refine' rd_ixT ?sq ?g ?_); (case sq => walk_at "sqT"); (case g => first | assumption | exact rfl))
  | ((with_reducible refine' rd_ixL ?sq ?g ?_); (case sq => walk_at "sqL"); (case g => first | assumption | exact rfl))
  | with_reducible refine rd_sl ?_
  | with_reducible refine rd_noPart ?_
  | with_reducible refine rd_part ?_
  | with_reducible refine rd_pt1 ?_
  | with_reducible refine rd_make ?_
  | with_reducible refine rd_callN ?_
  | with_reducible refine rd_makeN ?_
  | with_reducible refine rd_revT ?_
  | with_reducible refine rd_dc ?_
  | with_reducible refine rd_notinD ?_
  | with_reducible refine rd_inD ?_
  | with_reducible refine rd_dget ?_
  | with_reducible refine rd_dput ?_
  | ((with_reducible refine' rd_fld1 ?h ?c ?n ?l ?_); (case h => walk_at "hx"); (case c => first | exact Tx.c_Unwinding (by assumption) | exact Tx.c_Store (by assumption)); (case n => first | exact Tx.n_Unwinding_rows (by assumption) | exact Tx.n_Unwinding_references (by assumption) | exact Tx.n_Unwinding_tallies (by assumption) | exact Tx.n_Unwinding_bound (by assumption) | exact Tx.n_Unwinding_log (by assumption) | exact Tx.n_Unwinding_shelf (by assumption) | exact Tx.n_Unwinding_peak (by assumption) | exact Tx.n_Unwinding_events (by assumption) | exact Tx.n_Store_snapshots (by assumption) | exact Tx.n_Store_recorded (by assumption) | exact Tx.n_Store_observer (by assumption) | exact Tx.n_Store_is_busy (by assumption)); (case l => exact rfl))
  | ((with_reducible refine' rd_sFld1 ?h ?c ?n ?l ?_); (case h => walk_at "hx"); (case c => first | exact Tx.c_Unwinding (by assumption) | exact Tx.c_Store (by assumption)); (case n => first | exact Tx.n_Unwinding_rows (by assumption) | exact Tx.n_Unwinding_references (by assumption) | exact Tx.n_Unwinding_tallies (by assumption) | exact Tx.n_Unwinding_bound (by assumption) | exact Tx.n_Unwinding_log (by assumption) | exact Tx.n_Unwinding_shelf (by assumption) | exact Tx.n_Unwinding_peak (by assumption) | exact Tx.n_Unwinding_events (by assumption) | exact Tx.n_Store_snapshots (by assumption) | exact Tx.n_Store_recorded (by assumption) | exact Tx.n_Store_observer (by assumption) | exact Tx.n_Store_is_busy (by assumption)); (case l => exact Nat.le_of_ble_eq_true rfl))
  | ((with_reducible refine' rd_meth1 ?h ?l ?_); (case h => walk_at "hx"); (case l => exact rfl))
  | ((with_reducible refine' rd_and (rd_tyL ?h) ?_); (case h => walk_at "hx"))
  | ((with_reducible refine' rd_rng1 ?hn ?_); (case hn => first | omega | (simp; omega)))
  | with_reducible refine rd_nx ?_
  | with_reducible refine rd_rt ?_
  | with_reducible refine rd_ct ?_
  | with_reducible refine rd_bk ?_
  | ((with_reducible refine' rd_isi ?ty ?kb ?_); (case ty => walk_at "ty"); (case kb => first | exact kb_ii | exact kb_ib | exact kb_tt | exact kb_tl | exact kb_ss | exact kb_nt))
  | with_reducible refine rd_for ?_
  | with_reducible refine rd_iTup ?_
  | with_reducible refine rd_iList ?_
  | with_reducible refine rd_iRng1 ?_
  | with_reducible refine rd_iRng2 ?_
  | with_reducible refine rd_iEnumT ?_
  | with_reducible refine rd_iEnum ?_
  | with_reducible refine rd_lc ?_
  | with_reducible refine rd_yes ?_
  | ((with_reducible refine' rd_gTup ?sq ?n ?_); (case sq => walk_at "sqT"); (case n => exact rfl))
  | with_reducible refine rd_gCons ?_
  | with_reducible refine rd_gNil ?_
  | with_reducible refine rd_fld ?_
  | with_reducible refine rd_meth ?_
  | with_reducible refine rd_sFld ?_
  | with_reducible refine rd_BM ?_
  | with_reducible refine rd_BM0 ?_
  | ((with_reducible refine' rd_orRow ?h (by assumption) ?_); (case h => exact rfl))
  | with_reducible refine rd_augS ?_
  | with_reducible refine rd_ip ?_
  | with_reducible refine rd_gSub ?_
  | ((with_reducible refine' rd_aug ?h ?_); (case h => exact rfl))
  | with_reducible refine rd_par ?_
  | with_reducible refine rd_par1 ?_
  | ((with_reducible refine' rd_lenT ?sq ?_); (case sq => exact st_of (by walk_at "hx")))
  | ((with_reducible refine' rd_lenL ?sq ?_); (case sq => exact sq_of (by walk_at "hx")))
  | ((with_reducible refine' rd_itt ?sq ?_); (case sq => walk_at "sqT"))
  | ((with_reducible refine' rd_itl ?sq ?_); (case sq => walk_at "sqL"))
  | ((with_reducible refine' rd_enumT ?sq ?_); (case sq => walk_at "sqT"))
  | ((with_reducible refine' rd_enumL ?sq ?_); (case sq => walk_at "sqL"))
  | with_reducible refine rd_and rfl ?_
  | with_reducible refine if_t rfl ?_
  | with_reducible refine if_f rfl ?_)
local macro_rules | `(tactic| walk_at "rd") => `(tactic| repeat (walk_at "rd1"))
def sp_l_sound (K : PySem.W.Frag) : Sp := fun vs H Q _ => match vs with
  | [x, y] => ∃ (A : SA) (ss : SS) (b0 : Nat), x = .ref A.s ∧ y = .int (b0 : Int) ∧ SW K A H ss ∧ SI b0 ss ∧ ss.don.length < 100 ∧ ∀ H', Ex H H' → Q (.bl true) H'
  | _ => False
theorem in_ints (ns : List Int) (n : Int) : inV (.int n) (ns.map V.int) = decide (n ∈ ns) := by
  induction ns with
  | nil => rfl
  | cons m r ih =>
    show (eqV (.int m) (.int n) || inV (.int n) (r.map V.int)) = _
    rw [ih]
    by_cases h : m = n
    · subst h
      simp [eqV]
    · simp [eqV, h, Ne.symm h]
theorem flat_ints (ns : List Int) : (ns.map V.int).all flatV = true := by
  rw [List.all_eq_true]
  intro x hx
  obtain ⟨n, _, rfl⟩ := List.mem_map.mp hx
  rfl
theorem op_isBl_t {H : Hp} {Q : VK} (q : Q (.bl true) H) : rIsB (.bl true) (.bl true) H Q := ⟨true, true, rfl, rfl, q⟩
theorem op_notBl_t {H : Hp} {Q : VK} (q : Q (.bl false) H) : rNotB (.bl true) (.bl true) H Q := ⟨true, true, rfl, rfl, q⟩
section
variable {P : Program} {w : World} {K : PySem.W.Frag} {mg : Str → Option Value} {base : Heap}
theorem ok_l_sound (T : Tx K mg) : FnOk P w K mg base CX0 8 (a_l_sound K) (fd_l_sound K) ["_law_store", "_law_begun_with"] (sp_l_sound K) := by
  refine FunD.ok T.f_l_sound sc_l_sound (fun vs H Q E h => match vs, h with | [_, _], _ => rfl) (fun cdv A outer s H vs Q E hr h => ⟨_, PSs.nox (pss_cons (ps_set (i := 2) sc_l_sound.nd rfl (Or.inl rfl) (pe_meth0 (pv 0) T.c_Store T.t_Store_heap (ok_Store_heap T) (hr.mono (by omega)) T.b_Store_heap .nil pass0))
      (pss_cons (ps_set (i := 3) sc_l_sound.nd rfl (Or.inr rfl) (pe_call (ok_live_nodes T) (hr.mono (by omega)) (by rfl) T.g_live_nodes T.k_live_nodes T.b_live_nodes .nil pass0 (pa_cons (pv 2) pa_nil)))
      (pss_cons (ps_setLc (i := 4) rfl sc_l_sound.nd rfl rfl (sw_true rfl rfl rfl (by decide +kernel)) (pi_enumT (by rfl) T.z_enumerate (pa_cons (pe_ix (ixT (K := K)) (pv 2) pe_int (fun _ _ => rfl)) pa_nil)) (blkOk_by (own := [("_law_spot", 5), ("_law_row", 6)]) (N := N_l_sound) (sc := defScope s_l_sound) (by decide +kernel)) (fun _ _ _ _ _ => (pgTup (K := K) (n := 2) rfl (pgs_cons (pg_name (i := 5) sc_l_sound.nd rfl (Or.inl rfl) (by exact Or.inr rfl)) (pgs_cons (pg_name (i := 6) sc_l_sound.nd rfl (Or.inl rfl) (by exact Or.inr rfl)) pgs_nil)))) (fun _ _ _ _ _ => (pts_one (pt_cmpR op_isN (pv 6) pe_non (nomark _)))) (fun _ _ _ _ _ => (pv 5)))
      (pss_cons (ps_set (i := 7) sc_l_sound.nd rfl (Or.inl rfl) (pe_callTy (cList (K := K)) (by rfl) T.z_list (by decide +kernel) (pa_cons (pe_meth0 (pv 0) T.c_Store T.t_Store_candidates (ok_Store_candidates T) (hr.mono (by omega)) T.b_Store_candidates .nil pass0) pa_nil)))
      (pss_cons (ps_if (PW.pt (pw_or (pt_cmpR op_notBl (pe_call (ok_is_heap T) (hr.mono (by omega)) (by rfl) T.g_is_heap T.k_is_heap T.b_is_heap .nil pass0 (pa_cons (pv 2) pa_nil)) pe_bl (nomark _)) (pw_or (pt_cmpR (neD (K := K) hr.units) (pe_callB cr_sortedTup (by rfl) T.z_sorted (by decide +kernel) (pa_cons (pe_meth0 (pv 0) T.c_Store T.t_Store_free_numbers (ok_Store_free_numbers T) (hr.mono (by omega)) T.b_Store_free_numbers .nil pass0) pa_nil)) (pv 4) (nomark _)) (pw_or1 (pt_cmpR op_ne (pe_callB (cr_lenO (ok_Store_len T) (hr.mono (by omega)) T.t_Store_len T.b_Store_len pass0) (by rfl) T.z_len (by decide +kernel) (pa_cons (pv 0) pa_nil)) (pe_callB (cLen (K := K)) (by rfl) T.z_len (by decide +kernel) (pa_cons (pv 3) pa_nil)) (nomark _)))))) (pss_one (ps_ret pe_bl)) pss_nil)
      (pss_cons (ps_if (PW.pt (pw_or (pt_cmpR (neD (K := K) hr.units) (pv 7) (pe_callB (cr_sortedSet rfl) (by rfl) T.z_sorted (by decide +kernel) (pa_cons (pe_callTy (cr_setI rfl) (by rfl) T.z_set (by decide +kernel) (pa_cons (pv 7) pa_nil)) pa_nil)) (nomark _)) (pw_or1 (pt_cmpR (neD (K := K) hr.units) (pe_lc rfl sc_l_sound.nd (pi_list (pv 7)) (blkOk_by (own := [("_law_spot", 5)]) (N := N_l_sound) (sc := defScope s_l_sound) (by decide +kernel)) (fun _ _ _ _ _ => (pg_name (i := 5) sc_l_sound.nd rfl (Or.inl rfl) (by exact Or.inr rfl))) (fun _ _ _ _ _ => (pts_one (pt_cmpR (ninS (K := K)) (pv 5) (pv 3) (by rfl)))) (fun _ _ _ _ _ => pe_int)) (pe_lst pa_nil) (nomark _))))) (pss_one (ps_ret pe_bl)) pss_nil)
      (pss_cons (ps_set (i := 8) sc_l_sound.nd rfl (Or.inl rfl) (pe_call (ok_reachable T) (hr.mono (by omega)) (by rfl) T.g_reachable T.k_reachable T.b_reachable .nil pass0 (pa_cons (pv 2) pa_nil)))
      (pss_cons (ps_for PassesOwn.never rfl (pi_list (pv 3)) (pg_name (i := 5) sc_l_sound.nd rfl (Or.inl rfl) (by exact Or.inl rfl)) (pss_one (ps_if (pt_cmpR op_ne (pe_callB cr_reprB (by rfl) T.z_repr (by decide +kernel) (pa_cons (pe_call (ok_check_reach T) (hr.mono (by omega)) (by rfl) T.g_check_reach T.k_check_reach T.b_check_reach .nil pass0 (pa_cons (pv 2) (pa_cons (pv 5) (pa_cons (pe_call (ok_reach_certificate T) (hr.mono (by omega)) (by rfl) T.g_reach_certificate T.k_reach_certificate T.b_reach_certificate .nil pass0 (pa_cons (pv 2) (pa_cons (pv 5) pa_nil))) pa_nil)))) pa_nil)) (pe_callB cr_reprB (by rfl) T.z_repr (by decide +kernel) (pa_cons (pe_cmpR (inS (K := K)) (pv 5) (pv 8) (by rfl)) pa_nil)) (nomark _)) (pss_one (ps_ret pe_bl)) pss_nil)))
      (pss_cons (ps_set (i := 9) sc_l_sound.nd rfl (Or.inl rfl) (pe_callB (cLen (K := K)) (by rfl) T.z_len (by decide +kernel) (pa_cons (pe_lc rfl sc_l_sound.nd (pi_tup (pe_meth0 (pv 0) T.c_Store T.t_Store_history (ok_Store_history T) (hr.mono (by omega)) T.b_Store_history .nil pass0)) (blkOk_by (own := [("_law_action", 10)]) (N := N_l_sound) (sc := defScope s_l_sound) (by decide +kernel)) (fun _ _ _ _ _ => (pg_name (i := 10) sc_l_sound.nd rfl (Or.inl rfl) (by exact Or.inr rfl))) (fun _ _ _ _ _ => (pts_one (pt_cmpR op_eq (pe_ix (ixT (K := K)) (pv 10) pe_int (fun _ _ => rfl)) pe_str (nomark _)))) (fun _ _ _ _ _ => (pv 10))) pa_nil)))
      (pss_one (ps_ret (pe_cmpR op_eq (pe_op op_add (pv 1) (pv 9)) (pe_op op_add (pe_callB (cLen (K := K)) (by rfl) T.z_len (by decide +kernel) (pa_cons (pv 3) pa_nil)) (pe_callB (cLen (K := K)) (by rfl) T.z_len (by decide +kernel) (pa_cons (pe_meth0 (pv 0) T.c_Store T.t_Store_destroyed (ok_Store_destroyed T) (hr.mono (by omega)) T.b_Store_destroyed .nil pass0) pa_nil))) (nomark _))))))))))))), ?_⟩)
  match vs, h with
  | [v0, v1], h =>
    obtain ⟨A, ss, b0, rfl, rfl, w, i, hd, q⟩ := h
    have hV := i.vh
    have h40 := hV.n40
    have t0 := w.at0
    have hfr := i.frl
    have hll := liveN_len ss.hp.1
    walk_at "rd"
    refine Exists.intro A ⟨ss, rfl, w, fun hv hh => ?_⟩
    have hh0 := hh
    obtain ⟨a, sl, o, rfl, ha, ⟨b, vs, rfl, hb, hvs⟩, ⟨c, rfl, hc⟩⟩ := hh0
    have hvl := hvs.1
    walk_at "rd"
    refine us_live_nodes hh h40 fun pa H1 hpa ex1 tal => ?_
    have ha1 := ex1 _ _ ha
    have hb1 := ex1 _ _ hb
    have t01 := ex1 _ _ t0
    walk_at "rd"
    intro D hD
    refine lc_it (walk_enumT (xs := vs)) (fun i H' => Acc H1 D (ivs (picks i fun v => !liveB ss.hp.1 v)) H') (Acc.new (Ex.refl _) hD) (fun i H' _ z => sqT_ex z.2.1 hb1) ?_ ?_
    · rintro i x H2 H3 hi acc ⟨t, u, y, rfl, ht, rfl, hu, hy⟩
      cases hu
      obtain ⟨r, h1, h2⟩ := hvs.of hy
      have acc2 := acc.ex (Ex.new (o := .tup [.int (i : Nat), y]) ht)
      have hle := picks_len i (fun v => !liveB ss.hp.1 v)
      cases r with
      | none =>
        have e : y = .non := h2
        subst e
        walk_at "rd"
        exact acc_add acc2 (by rw [ivs_len]; omega) (picks_ivs (by simp [liveB_none h1]))
      | some xs =>
        obtain ⟨d, rfl, hd⟩ := h2
        walk_at "rd"
        rw [picks_no (by simp [liveB_some h1])]
        exact acc2
    · rintro H2 acc
      have tfr : H2 D = some (.lst (ivs (freeN ss.hp.1))) := by rw [acc.2.2, hvl]; rfl
      have ex2 := ex1.trans acc.2.1
      have t02 := ex2 _ _ t0
      walk_at "rd"
      refine Exists.intro A ⟨ss, rfl, w.mono ex2, fun ca hca => ?_⟩
      walk_at "rd"
      refine rd_listOfT (st_of hca) fun pm hpm => ?_
      have tma : upd H2 pm (.lst (ivs ss.cd)) pm = some (.lst (ivs ss.cd)) := upd_same
      have ex3 := ex2.trans (Ex.new (o := .lst (ivs ss.cd)) hpm)
      have tfr3 := (Ex.new (o := .lst (ivs ss.cd)) hpm) _ _ tfr
      have tal3 := ((acc.2.1).trans (Ex.new (o := .lst (ivs ss.cd)) hpm)) _ _ tal
      generalize upd H2 pm (.lst (ivs ss.cd)) = H3 at tma ex3 tfr3 tal3 ⊢
      walk_at "rd"
      refine Exists.intro ss.hp ⟨hh.mono ex3, hV, fun H4 ex4 => ?_⟩
      have ex04 := ex3.trans ex4
      have t04 := ex04 _ _ t0
      have tma4 := ex4 _ _ tma
      have tfr4 := ex4 _ _ tfr3
      have tal4 := ex4 _ _ tal3
      walk_at "rd"
      refine op_notBl_t ?_
      walk_at "rd"
      refine Exists.intro A ⟨ss, rfl, w.mono ex04, fun fa hfa => ?_⟩
      walk_at "rd"
      rw [ivs_cast] at hfa
      refine rd_sortedTup (st_of hfa) (by rw [List.length_map]; omega) fun ns p5 hperm hsrt hp5 => ?_
      have hns : ns = (freeN ss.hp.1).map fun n : Nat => (n : Int) := by
        refine asc_ext (lt_of_le_nd hsrt (hperm.symm.nodup (nd_cast i.fn))) (asc_cast (picks_sorted _ _)) fun x => ?_
        rw [hperm.mem_iff]
        constructor
        · intro m
          obtain ⟨n, m1, rfl⟩ := List.mem_map.mp m
          exact List.mem_map.mpr ⟨n, mem_freeN.mpr ((i.ff n).mp m1), rfl⟩
        · intro m
          obtain ⟨n, m1, rfl⟩ := List.mem_map.mp m
          exact List.mem_map.mpr ⟨n, (i.ff n).mpr (mem_freeN.mp m1), rfl⟩
      have ex5 := Ex.new (o := .lst (ns.map V.int)) hp5
      have tfr5 := ex5 _ _ tfr4
      rw [ivs_cast] at tfr5
      walk_at "rd"
      refine rd_neLL (sq_of upd_same) (sq_of tfr5) ?_
      have ex05 := ex04.trans ex5
      have tma5 := ex5 _ _ tma4
      have tal5 := ex5 _ _ tal4
      have t05 := ex05 _ _ t0
      rw [show (!decide (ns = (freeN ss.hp.1).map fun n : Nat => (n : Int))) = false from by rw [decide_eq_true hns]; rfl]
      generalize upd H4 p5 (.lst (ns.map V.int)) = H5 at ex05 tma5 tal5 t05 ⊢
      walk_at "rd"
      refine ⟨_, _, _, rfl, t05, ?_⟩
      refine Exists.intro A ⟨ss, rfl, w.mono ex05, h40, fun H6 ex6 => ?_⟩
      refine ⟨_, rfl, by omega, ?_⟩
      have tma6 := ex6 _ _ tma5
      have tal6 := ex6 _ _ tal5
      have ex06 := ex05.trans ex6
      walk_at "rd"
      rw [ivs_len]
      refine if_f (by simp) ?_
      walk_at "rd"
      rw [ivs_cast] at tma6
      have hcdl : ss.cd.length ≤ 40 := by
        have := nodup_lt (i.cs.imp fun h => Nat.ne_of_lt h) fun v hv => (i.cl v hv).lt
        omega
      refine rd_setI (sq_of tma6) (by rw [List.length_map]; omega) fun p7 c7 hp7 hc7 => ?_
      have hc64 : c7 ≤ 40 := hc7 40 fun k hk => by
        obtain ⟨n, hn, rfl⟩ := List.mem_map.mp hk
        have := (i.cl n hn).lt
        omega
      walk_at "rd"
      refine rd_sortedSet upd_same (by omega) fun ms p8 hms hmem hmlen hp8 => ?_
      have e68 := (Ex.new hp7).trans (Ex.new (o := .lst (ms.map V.int)) hp8)
      have hmsE : (ss.cd.map fun n : Nat => (n : Int)) = ms := by
        refine asc_ext (asc_cast i.cs) hms fun x => ?_
        rw [hmem]
        exact ⟨fun m => decide_eq_true m, fun m => of_decide_eq_true m⟩
      have tma8 := e68 _ _ tma6
      refine rd_neLL (sq_of tma8) (sq_of upd_same) ?_
      rw [show (!decide ((ss.cd.map fun n : Nat => (n : Int)) = ms)) = false from by rw [decide_eq_true hmsE]; rfl]
      have ex08 := ex06.trans e68
      have tal8 := e68 _ _ tal6
      generalize upd (upd H6 p7 _) p8 _ = H8 at ex08 tal8 tma8 ⊢
      rw [← ivs_cast] at tma8
      walk_at "rd"
      intro D9 hD9
      refine lc_it (walk_list (xs := ivs ss.cd)) (fun i H' => Acc H8 D9 [] H') (Acc.new (Ex.refl _) hD9) (fun i H' _ z => sqL_ex z.2.1 tma8) ?_ ?_
      · rintro j x _ H9 hj acc9 ⟨rfl, hx⟩
        obtain ⟨u, hu, rfl⟩ := ivs_of hx
        have hul := mem_liveN.mpr (i.cl u (List.mem_of_getElem? hu))
        have tal9 := acc9.2.1 _ _ tal8
        walk_at "rd"
        refine rd_in (.inl (sq_of tal9)) rfl (flat_ivs _) ?_
        rw [in_ivs, decide_eq_true hul]
        walk_at "rd"
        exact acc9
      · rintro H9 acc9
        have ex09 := ex08.trans acc9.2.1
        have tal9 := acc9.2.1 _ _ tal8
        walk_at "rd"
        rename_i p10 hp10
        refine rd_neL0 (upd_fr acc9.2.2 hp10) upd_same (by simp) ?_
        have ex10 := ex09.trans (Ex.new (o := .lst []) hp10)
        have tal10 := (Ex.new (o := .lst []) hp10) _ _ tal9
        generalize upd H9 p10 (.lst []) = H10 at ex10 tal10 ⊢
        walk_at "rd"
        refine Exists.intro ss.hp ⟨hh.mono ex10, hV, fun pf H11 ys hpf ex11 tys hyl hymem => ?_⟩
        have ex011 := ex10.trans ex11
        have tal11 := ex11 _ _ tal10
        walk_at "rd"
        refine for_it (walk_list (xs := ivs (liveN ss.hp.1))) (fun i σ H' => (∃ x1 x2 x3 x4 x5 x6, σ = [some (.ref A.s), some (.int (b0 : Nat)), some (.ref a), some (.ref pa), x1, x2, x3, x4, some (.ref pf), x5, x6]) ∧ Ex H11 H') ⟨⟨_, _, _, _, _, _, rfl⟩, Ex.refl _⟩ (fun i σ H' _ z => sqL_ex z.2 tal11) ?_ ?_
        · rintro j x _ _ H12 hj ⟨⟨x1, x2, x3, x4, x5, x6, rfl⟩, e12⟩ ⟨rfl, hx⟩
          obtain ⟨u, hu, rfl⟩ := ivs_of hx
          have hlu := mem_liveN.mp (List.mem_of_getElem? hu)
          have ex012 := ex011.trans e12
          have chk : ∀ (b : Bool) t pp P H13, Ex H12 H13 → H13 t = some (.tup [.str (if b = true then "reached" else "unreached"), .ref pp]) → H13 pp = some (.tup (ivs P)) → (b = true → PathOk ss.hp u P) → (b = false → P = unr ss.hp ∧ u ∈ unr ss.hp) → True := fun _ _ _ _ _ _ _ _ _ _ => trivial
          walk_at "rd"
          refine Exists.intro ss.hp ⟨u, hh.mono ex012, hV, rfl, hlu, fun hrb t pp P H13 ex13 ht hpp hok hPl => ?_, fun hrb t pp H13 ex13 ht hpp => ?_⟩
          · have ex013 := ex012.trans ex13
            walk_at "rd"
            refine Exists.intro ss.hp ⟨u, t, pp, P, true, hh.mono ex013, hV, rfl, hlu, rfl, ht, hpp, fun _ => hok, fun z => (by cases z), fun H14 ex14 => ?_⟩
            have tys14 := ex14 _ _ (ex13 _ _ (e12 _ _ tys))
            walk_at "rd"
            refine ⟨_, rfl, ?_⟩
            walk_at "rd"
            refine rd_in (.inl (sq_of tys14)) rfl (flat_ints ys) ?_
            rw [in_ints, decide_eq_true ((hymem u).mpr (rchB_iff.mp hrb))]
            walk_at "rd"
            refine ⟨_, rfl, ?_⟩
            walk_at "rd"
            exact ⟨⟨_, _, _, _, _, _, rfl⟩, (e12.trans ex13).trans ex14⟩
          · have ex013 := ex012.trans ex13
            have hnr : ¬ RchO ss.hp u := fun z => by rw [rchB_iff.mpr z] at hrb; cases hrb
            walk_at "rd"
            refine Exists.intro ss.hp ⟨u, t, pp, _, false, hh.mono ex013, hV, rfl, hlu, rfl, ht, hpp, fun z => (by cases z), fun _ => ⟨rfl, mem_unr.mpr ⟨hlu, hnr⟩⟩, fun H14 ex14 => ?_⟩
            have tys14 := ex14 _ _ (ex13 _ _ (e12 _ _ tys))
            walk_at "rd"
            refine ⟨_, rfl, ?_⟩
            walk_at "rd"
            refine rd_in (.inl (sq_of tys14)) rfl (flat_ints ys) ?_
            rw [in_ints, decide_eq_false (fun z => hnr ((hymem u).mp z))]
            walk_at "rd"
            refine ⟨_, rfl, ?_⟩
            walk_at "rd"
            exact ⟨⟨_, _, _, _, _, _, rfl⟩, (e12.trans ex13).trans ex14⟩
        · rintro σ H12 ⟨⟨x1, x2, x3, x4, x5, x6, rfl⟩, e12⟩
          have ex012 := ex011.trans e12
          have t012 := ex012 _ _ t0
          have tal12 := e12 _ _ tal11
          walk_at "rd"
          refine Exists.intro A ⟨ss, rfl, w.mono ex012, fun ph ws H13 ex13 tws hacts => ?_⟩
          have hwl := hacts.1
          walk_at "rd"
          intro D14 hD14
          refine lc_it (walk_tup (xs := ws)) (fun i H' => ∃ zs, Acc H13 D14 zs H' ∧ zs.length = ((ss.don.take i).filter (fun p : Bool × List Nat => p.1)).length) ⟨[], Acc.new (Ex.refl _) hD14, rfl⟩ (fun i H' _ z => let ⟨_, z, _⟩ := z; sqT_ex z.2.1 tws) ?_ ?_
          · rintro j x _ H14 hj ⟨zs, acc14, hzl⟩ ⟨rfl, hx⟩
            have hjd : j < ss.don.length := by omega
            obtain ⟨aa, haa, nm, r, hact, hnm⟩ := hacts.2 j _ (List.getElem?_eq_getElem hjd)
            rw [hx] at haa
            cases haa
            have hact14 := acc14.2.1 _ _ hact
            have hle : zs.length ≤ 1000 := by
              have h1 := List.length_filter_le (fun p : Bool × List Nat => p.1) (ss.don.take j)
              rw [List.length_take] at h1
              omega
            have hst : ((ss.don.take (j + 1)).filter (fun p : Bool × List Nat => p.1)).length = zs.length + if ss.don[j].1 = true then 1 else 0 := by
              rw [List.take_add_one, List.getElem?_eq_getElem hjd, List.filter_append, List.length_append, hzl]
              congr 1
              simp only [Option.toList_some, List.filter_cons, List.filter_nil]
              split <;> rfl
            walk_at "rd"
            refine if_b (fun hc => ?_) (fun hc => ?_)
            · have hc := of_decide_eq_true hc
              injection hc with hc
              have hb : ss.don[j].1 = true := by rw [← hnm]; exact decide_eq_true hc
              walk_at "rd"
              refine ⟨zs, acc14.2.2, lt40 (by omega), _, acc14.put, ?_⟩
              rw [hst, if_pos hb]
              simp
            · have hb : ss.don[j].1 = false := by
                rw [← hnm]
                apply decide_eq_false
                intro e
                exact of_decide_eq_false hc (by rw [e])
              refine ⟨zs, acc14, ?_⟩
              rw [hst, hb]
              simp
          · rintro H14 ⟨zs, acc14, hzl⟩
            rw [hwl, List.take_length] at hzl
            have ex014 := (ex012.trans ex13).trans acc14.2.1
            have t014 := ex014 _ _ t0
            have tal14 := acc14.2.1 _ _ (ex13 _ _ tal12)
            have tz := acc14.2.2
            walk_at "rd"
            refine Exists.intro A ⟨ss, rfl, w.mono ex014, Nat.le_trans i.lz (by omega), fun pd H15 ex15 tpd => ?_⟩
            walk_at "rd"
            have hbk := i.bk
            rw [ivs_len, ivs_len, hzl]
            have e : decide (V.int ((b0 : Int) + ((ss.don.filter (fun p : Bool × List Nat => p.1)).length : Nat)) = V.int (((liveN ss.hp.1).length : Nat) + ((logs ss.don).length : Nat))) = true := by
              apply decide_eq_true
              congr 1
              omega
            rw [e]
            exact q H15 (ex014.trans ex15)
end
end Sf
/-! The text of a result: not too long. -/
namespace Sf
open PySem PySem.Spec PyProof.Rows L2 Evl
theorem tupleText_len (ts : List Str) : (tupleText ts).length ≤ piled ts + 3 := by
  unfold tupleText
  rw [strLen_append, strLen_append]
  have e1 : ((("(" : String) : Str)).length = 1 := rfl
  have e3 : (((if ts.length == 1 then ",)" else ")" : String) : Str)).length ≤ 2 := by split <;> decide
  rw [e1]
  by_cases h : ts = []
  · subst h
    have : (Str.join ", " ([] : List Str)).length = 0 := rfl
    omega
  · have := join_length_add ts h
    omega
/-- items each at most k signs long -/
theorem piled_le (k : Nat) : ∀ ts : List Str, (∀ t ∈ ts, t.length ≤ k) → piled ts ≤ ts.length * (k + 2)
  | [], _ => Nat.zero_le _
  | t :: r, h => by
    have h1 := piled_le k r fun x hx => h x (List.mem_cons_of_mem _ hx)
    have h2 := h t (List.mem_cons_self ..)
    rw [piled_cons, List.length_cons, Nat.succ_mul]
    omega
theorem shownAll_map : ∀ ds : List PyData, PyData.shownAll ds = ds.map PyData.shown
  | [] => rfl
  | d :: r => by
    show PyData.shown d :: PyData.shownAll r = _
    rw [shownAll_map r]
    rfl
theorem int_short : ∀ n : Fin 41, (PyData.shown (.int ((n.val : Nat) : Int))).length ≤ 4 := by decide +kernel
theorem non_short : (PyData.shown .none).length ≤ 4 := by decide +kernel
def entD : Option Nat → PyData
  | none => .none
  | some n => .int (n : Int)
def rowD : Row → PyData
  | none => .none
  | some xs => .tuple (xs.map entD)
def intsD (ns : List Nat) : PyData := .tuple (ns.map fun n : Nat => .int (n : Int))
def heapD (hp : Hv) : PyData := .tuple [.tuple (hp.1.map rowD), intsD hp.2]
def resD (log : List Nat) (hp : Hv) : PyData := .tuple [intsD log, heapD hp]
theorem tup_len (k : Nat) (ds : List PyData) (h : ∀ d ∈ ds, (PyData.shown d).length ≤ k) : (PyData.shown (.tuple ds)).length ≤ ds.length * (k + 2) + 3 := by
  show (tupleText (PyData.shownAll ds)).length ≤ _
  rw [shownAll_map]
  have h1 := tupleText_len (ds.map PyData.shown)
  have h2 := piled_le k (ds.map PyData.shown) fun t ht => by
    obtain ⟨d, hd, rfl⟩ := List.mem_map.mp ht
    exact h d hd
  rw [List.length_map] at h2
  omega
theorem short_int {n : Nat} (h : n ≤ 40) : (PyData.shown (.int (n : Int))).length ≤ 4 := int_short ⟨n, by omega⟩
theorem ints_len {ns : List Nat} (h : ∀ n ∈ ns, n ≤ 40) : (PyData.shown (intsD ns)).length ≤ ns.length * 6 + 3 := by
  have := tup_len 4 (ns.map fun n : Nat => PyData.int (n : Int)) fun d hd => by
    obtain ⟨n, hn, rfl⟩ := List.mem_map.mp hd
    exact short_int (h n hn)
  rw [List.length_map] at this
  exact this
theorem row_len {r : Row} (h : ∀ xs, r = some xs → xs.length ≤ 40 ∧ ∀ v, some v ∈ xs → v ≤ 40) : (PyData.shown (rowD r)).length ≤ 250 := by
  cases r with
  | none => exact Nat.le_trans non_short (by decide)
  | some xs =>
    obtain ⟨h1, h2⟩ := h xs rfl
    have := tup_len 4 (xs.map entD) fun d hd => by
      obtain ⟨e, he, rfl⟩ := List.mem_map.mp hd
      cases e with
      | none => exact non_short
      | some v => exact short_int (h2 v he)
    rw [List.length_map] at this
    show (PyData.shown (.tuple (xs.map entD))).length ≤ 250
    omega
theorem heap_len {hp : Hv} (V : Vh hp) : (PyData.shown (heapD hp)).length ≤ 22000 := by
  have h40 := V.n40
  have hl := V.len
  have h1 : (PyData.shown (.tuple (hp.1.map rowD))).length ≤ 10500 := by
    have := tup_len 250 (hp.1.map rowD) fun d hd => by
      obtain ⟨r, hr, rfl⟩ := List.mem_map.mp hd
      obtain ⟨i, hi⟩ := List.getElem?_of_mem hr
      refine row_len fun xs e => ?_
      obtain ⟨a, b⟩ := V.rows i r hi xs e
      exact ⟨a, fun v hv => by have := b v hv; omega⟩
    rw [List.length_map] at this
    omega
  have h2 : (PyData.shown (intsD hp.2)).length ≤ 300 := by
    have := ints_len (ns := hp.2) fun n hn => by
      obtain ⟨i, hi⟩ := List.getElem?_of_mem hn
      have := V.nine i n hi
      omega
    omega
  have := tup_len 10500 [.tuple (hp.1.map rowD), intsD hp.2] fun d hd => by
    rcases List.mem_cons.mp hd with e | e
    · subst e
      exact h1
    · cases List.mem_singleton.mp e
      omega
  have e : [PyData.tuple (hp.1.map rowD), intsD hp.2].length = 2 := rfl
  rw [e] at this
  show (PyData.shown (.tuple [.tuple (hp.1.map rowD), intsD hp.2])).length ≤ 22000
  omega
theorem res_len {hp : Hv} {log : List Nat} (V : Vh hp) (h1 : log.length ≤ 5000) (h2 : ∀ n ∈ log, n ≤ 40) : (PyData.shown (resD log hp)).length ≤ sizeLine := by
  have a := heap_len V
  have b := ints_len h2
  have := tup_len 30003 [intsD log, heapD hp] fun d hd => by
    rcases List.mem_cons.mp hd with e | e
    · subst e
      omega
    · cases List.mem_singleton.mp e
      omega
  have e : [intsD log, heapD hp].length = 2 := rfl
  rw [e] at this
  exact small40 (show (PyData.shown (.tuple [intsD log, heapD hp])).length ≤ 1000000 by omega)
section
variable {K : PySem.W.Frag} {H : Hp}
theorem dp_ivs : ∀ ns : List Nat, DpAll K H (ivs ns) (ns.map fun n : Nat => PyData.int (n : Int))
  | [] => .nil
  | n :: r => .cons (.int _) (dp_ivs r)
theorem dp_ents : ∀ xs : List (Option Nat), DpAll K H (xs.map ent) (xs.map entD)
  | [] => .nil
  | none :: r => .cons .non (dp_ents r)
  | some n :: r => .cons (.int _) (dp_ents r)
theorem dp_row {v : V} : ∀ {r : Row}, RowV H v r → Dp K H v (rowD r)
  | none, h => by
    have e : v = .non := h
    subst e
    exact .non
  | some xs, ⟨a, e, h⟩ => by
    subst e
    exact .tup (st_of h) (dp_ents xs)
theorem dp_rows : ∀ {rs : List Row} {vs : List V}, RowsV H vs rs → DpAll K H vs (rs.map rowD)
  | [], [], _ => .nil
  | [], _ :: _, h => by have := h.1; simp at this
  | _ :: _, [], h => by have := h.1; simp at this
  | r :: rs, v :: vs, h => by
    obtain ⟨v', h1, h2⟩ := h.2 0 r rfl
    cases h1
    exact .cons (dp_row h2) (dp_rows ⟨by have := h.1; simpa using this, fun i r' hi => by
      obtain ⟨x, g1, g2⟩ := h.2 (i + 1) r' (by simpa using hi)
      exact ⟨x, by simpa using g1, g2⟩⟩)
theorem dp_heap {v : V} {hp : Hv} (h : HeapV H v hp) : Dp K H v (heapD hp) := by
  obtain ⟨a, s, o, rfl, ha, ⟨b, vs, rfl, hb, hvs⟩, ⟨c, rfl, hc⟩⟩ := h
  exact .tup (st_of ha) (.cons (.tup (st_of hb) (dp_rows hvs)) (.cons (.tup (st_of hc) (dp_ivs _)) .nil))
end
/-- what repr asks of a datum, but for its length -/
def Fine (k : Nat) (d : PyData) : Prop := d.showable = true ∧ d.hasDict = false ∧ d.depth ≤ k
theorem fine_all {k : Nat} : ∀ {ds : List PyData}, (∀ d ∈ ds, Fine k d) → PyData.showableAll ds = true ∧ PyData.hasDictAll ds = false ∧ PyData.depthAll ds ≤ k
  | [], _ => ⟨rfl, rfl, Nat.zero_le _⟩
  | d :: r, h => by
    obtain ⟨a, b, c⟩ := h d (List.mem_cons_self ..)
    obtain ⟨a', b', c'⟩ := fine_all fun x hx => h x (List.mem_cons_of_mem _ hx)
    refine ⟨?_, ?_, ?_⟩
    · show (d.showable && PyData.showableAll r) = true
      rw [a, a'] <;> rfl
    · show (d.hasDict || PyData.hasDictAll r) = false
      rw [b, b'] <;> rfl
    · show max d.depth (PyData.depthAll r) ≤ k
      omega
theorem fine_tup {k : Nat} {ds : List PyData} (h : ∀ d ∈ ds, Fine k d) : Fine (k + 1) (.tuple ds) := by
  obtain ⟨a, b, c⟩ := fine_all h
  exact ⟨a, b, Nat.succ_le_succ c⟩
theorem fine_int : ∀ n : Fin 41, PyData.showable (.int ((n.val : Nat) : Int)) = true := by decide +kernel
theorem fine_short {n : Nat} (h : n ≤ 40) : Fine 0 (.int (n : Int)) := ⟨fine_int ⟨n, by omega⟩, rfl, Nat.le_refl _⟩
theorem Fine.up {k m : Nat} {d : PyData} (f : Fine k d) (h : k ≤ m) : Fine m d := ⟨f.1, f.2.1, Nat.le_trans f.2.2 h⟩
theorem fine_non : Fine 0 .none := ⟨rfl, rfl, Nat.le_refl _⟩
theorem fine_row {r : Row} (h : ∀ xs, r = some xs → xs.length ≤ 40 ∧ ∀ v, some v ∈ xs → v ≤ 40) : Fine 1 (rowD r) := by
  cases r with
  | none => exact fine_non.up (by decide)
  | some xs =>
    obtain ⟨_, h2⟩ := h xs rfl
    refine fine_tup fun d hd => ?_
    obtain ⟨e, he, rfl⟩ := List.mem_map.mp hd
    cases e with
    | none => exact fine_non
    | some v => exact fine_short (h2 v he)
theorem fine_ints {ns : List Nat} (h : ∀ n ∈ ns, n ≤ 40) : Fine 1 (intsD ns) := fine_tup fun d hd => by
  obtain ⟨n, hn, rfl⟩ := List.mem_map.mp hd
  exact fine_short (h n hn)
theorem fine_heap {hp : Hv} (V : Vh hp) : Fine 3 (heapD hp) := by
  have h40 := V.n40
  refine fine_tup fun d hd => ?_
  rcases List.mem_cons.mp hd with e | e
  · subst e
    refine fine_tup fun x hx => ?_
    obtain ⟨r, hr, rfl⟩ := List.mem_map.mp hx
    obtain ⟨i, hi⟩ := List.getElem?_of_mem hr
    refine fine_row fun xs e => ?_
    obtain ⟨a, b⟩ := V.rows i r hi xs e
    exact ⟨a, fun v hv => by have := b v hv; omega⟩
  · cases List.mem_singleton.mp e
    refine (fine_ints fun n hn => ?_).up (by decide)
    obtain ⟨i, hi⟩ := List.getElem?_of_mem hn
    have := V.nine i n hi
    omega
theorem fine_res {hp : Hv} {log : List Nat} (V : Vh hp) (h2 : ∀ n ∈ log, n ≤ 40) : Fine 4 (resD log hp) := fine_tup fun d hd => by
  rcases List.mem_cons.mp hd with e | e
  · subst e
    exact (fine_ints h2).up (by decide)
  · cases List.mem_singleton.mp e
    exact fine_heap V
theorem dp_res {K : PySem.W.Frag} {H : Hp} {p l : Addr} {h : V} {log : List Nat} {hp : Hv} (hp1 : H p = some (.tup [.ref l, h])) (hl : H l = some (.tup (ivs log))) (hh : HeapV H h hp) : Dp K H (.ref p) (resD log hp) :=
  .tup (st_of hp1) (.cons (.tup (st_of hl) (dp_ivs _)) (.cons (dp_heap hh) .nil))
/-- the repr of a result -/
theorem rd_reprR {K : PySem.W.Frag} {H : Hp} {Q : VK} {p l : Addr} {h : V} {log : List Nat} {hp : Hv} {txt : Str} (ht : (resD log hp).shown = txt) (hp1 : H p = some (.tup [.ref l, h])) (hl : H l = some (.tup (ivs log))) (hh : HeapV H h hp) (V : Vh hp) (h1 : log.length ≤ 5000) (h2 : ∀ n ∈ log, n ≤ 40)
    (q : Q (.str txt) H) : rRepr K [.ref p] H Q := by
  subst ht
  have f := fine_res V h2
  exact ⟨p, resD log hp, rfl, dp_res hp1 hl hh, f.1, f.2.1, Nat.le_trans f.2.2 (by decide), res_len V h1 h2, q⟩
end Sf
/-! the law itself -/
namespace Sf
open PySem PySem.Spec PyProof.Rows L2 Evl
theorem SW.frp {K : PySem.W.Frag} {A : SA} {H H1 : Hp} {ss : SS} {p q : Addr} {N : Nat} (w : SW K A H ss) (hpe : PenV H p q N) (f : FrP p H H1) (n1 : A.sn ≠ p) (n2 : A.rc ≠ p) : SW K A H1 ss := by
  have tk := hpe.tk f
  obtain ⟨vs, v, h1, h2, h3⟩ := w.at1
  obtain ⟨us, h4, h5⟩ := w.at2
  obtain ⟨xs, hx⟩ := hpe.at
  exact ⟨f _ _ (ne_of w.at0 hx (by intro z; cases z)) w.at0, ⟨vs, v, f _ _ n1 h1, h2, h3.tk tk⟩, ⟨us, f _ _ n2 h4, h5.tk tk⟩, w.ne, w.sm⟩
theorem PenV.frm {A : SA} {H H1 : Hp} {p q : Addr} {N : Nat} (h : PenV H p q N) (f : Frm A H H1) (n : A.sn ≠ p ∧ A.sn ≠ q) (m : A.rc ≠ p ∧ A.rc ≠ q) : PenV H1 p q N := by
  obtain ⟨ns, pl, lf, h1, h2, h3, h4, h5⟩ := h
  exact ⟨ns, pl, lf, f _ _ (Ne.symm n.1) (Ne.symm m.1) h1, f _ _ (Ne.symm n.2) (Ne.symm m.2) h2, h3, h4, h5⟩
theorem SI.logOk {b0 : Nat} {ss : SS} {s' : Un} {cd' : List Nat} (i : SI b0 (ss.run s' cd')) : ∀ n ∈ s'.log, n ≤ 40 := fun n hn => by
  have h1 : n ∈ (ss.run s' cd').fr := List.mem_append.mpr (.inl (List.mem_reverse.mpr hn))
  have h2 := (List.getElem?_eq_some_iff.mp ((i.ff n).mp h1)).1
  have := i.vh.n40
  omega
local macro_rules | `(tactic| walk_at "hx") => `(tactic| first | assumption | exact upd_same | (with_reducible refine upd_fr ?_ (by assumption); walk_at "hx") | (refine ex_get (by assumption) ?_; walk_at "hx"))
local macro_rules | `(tactic| walk_at "ex") => `(tactic| first | assumption | exact Ex.refl _ | (with_reducible refine ex_new ?_ (by assumption); walk_at "ex") | (refine Ex.trans ?_ (by assumption); walk_at "ex"))
local macro_rules | `(tactic| walk_at "sqT") => `(tactic| first | (with_reducible assumption) | exact st_of (by walk_at "hx"))
local macro_rules | `(tactic| walk_at "sqL") => `(tactic| first | (with_reducible assumption) | exact sq_of (by walk_at "hx"))
local macro_rules | `(tactic| walk_at "sq") => `(tactic| first | (with_reducible assumption) | exact st_of (by walk_at "hx") | exact sq_of (by walk_at "hx"))
local macro_rules | `(tactic| walk_at "ty") => `(tactic| first | exact TyX.base (.int _) | exact TyX.base .non | exact TyX.base (.bl _) | exact TyX.base (.str _) | exact TyX.base (.tup (by walk_at "hx")) | exact TyX.base (.lst (by walk_at "hx")))
local macro_rules | `(tactic| walk_at "rd1") => `(tactic| first
  | with_reducible refine rd_seq ?_
  | ((with_reducible refine' rd_var ?h ?_); (case h => exact rfl))
  | with_reducible refine rd_c ?_
  | with_reducible refine rd_op ?_
  | with_reducible refine rd_un ?_
  | with_reducible refine rd_CB ?_
  | with_reducible refine rd_call ?_
  | with_reducible refine rd_cons ?_
  | with_reducible refine rd_nil ?_
  | with_reducible refine rd_I0 ?_
  | with_reducible refine rd_U ?_
  | with_reducible refine rd_ret ?_
  | with_reducible refine rd_retN ?_
  | with_reducible refine rd_next ?_
  | with_reducible refine rd_asg ?_
  | with_reducible refine rd_gName ?_
  | with_reducible refine rd_drop ?_
  | with_reducible refine rd_ifS ?_
  | with_reducible refine rd_test ?_
  | with_reducible refine rd_B ?_
  | with_reducible refine rd_notT ?_
  | with_reducible refine rd_andT ?_
  | with_reducible refine rd_orT ?_
  | with_reducible refine rd_andV ?_
  | with_reducible refine rd_orV ?_
  | with_reducible refine rd_notV ?_
  | with_reducible refine rd_ifE ?_
  | with_reducible refine rd_chain ?_
  | with_reducible refine rd_tup ?_
  | with_reducible refine rd_lst ?_
  | with_reducible refine rd_k ?_
  | with_reducible refine rd_eqS rfl ?_
  | with_reducible refine rd_neS rfl ?_
  | ((with_reducible refine rd_and (small40 (Nat.le_of_ble_eq_true rfl)) ?_); intro _ _)
  | (with_reducible refine' rd_isiT2 (k := "tuple") ?ty ?hx kb_tl kb_tt ?_; (case ty => walk_at "ty"); (case hx => walk_at "hx"))
  | with_reducible refine us_is_integer ?_
  | with_reducible refine us_is_between ?_
  | ((with_reducible refine' rd_ixT0 ?sq ?g ?_); (case sq => walk_at "sqT"); (case g => first | exact rfl | assumption))
  | ((with_reducible refine' rd_ixT1 ?sq ?g ?_); (case sq => walk_at "sqT"); (case g => first | exact rfl | assumption))
  | ((with_reducible refine' rd_ixT2 ?sq ?g ?_); (case sq => walk_at "sqT"); (case g => first | exact rfl | assumption))
  | ((with_reducible refine' rd_ixT3 ?sq ?g ?_); (case sq => walk_at "sqT"); (case g => first | exact rfl | assumption))
  | ((with_reducible refine' rd_ixT4 ?sq ?g ?_); (case sq => walk_at "sqT"); (case g => first | exact rfl | assumption))
  | ((with_reducible refine' rd_ixL0 ?sq ?g ?_); (case sq => walk_at "sqL"); (case g => first | exact rfl | assumption))
  | ((with_reducible refine' rd_ixL1 ?sq ?g ?_); (case sq => walk_at "sqL"); (case g => first | exact rfl | assumption))
  | ((with_reducible refine' rd_ixL2 ?sq ?g ?_); (case sq => walk_at "sqL"); (case g => first | exact rfl | assumption))
  | ((with_reducible refine' rd_ixT ?sq ?g ?_); (case sq => walk_at "sqT"); (case g => first | assumption | exact rfl))
  | ((with_reducible refine' rd_ixL ?sq ?g ?_); (case sq => walk_at "sqL"); (case g => first | assumption | exact rfl))
  | with_reducible refine rd_sl ?_
  | with_reducible refine rd_noPart ?_
  | with_reducible refine rd_part ?_
  | with_reducible refine rd_pt1 ?_
  | with_reducible refine rd_make ?_
  | with_reducible refine rd_callN ?_
  | with_reducible refine rd_makeN ?_
  | with_reducible refine rd_revT ?_
  | with_reducible refine rd_dc ?_
  | with_reducible refine rd_notinD ?_
  | with_reducible refine rd_inD ?_
  | with_reducible refine rd_dget ?_
  | with_reducible refine rd_dput ?_
  | ((with_reducible refine' rd_fld1 ?h ?c ?n ?l ?_); (case h => walk_at "hx"); (case c => first | exact Tx.c_Unwinding (by assumption) | exact Tx.c_Store (by assumption)); (case n => first | exact Tx.n_Unwinding_rows (by assumption) | exact Tx.n_Unwinding_references (by assumption) | exact Tx.n_Unwinding_tallies (by assumption) | exact Tx.n_Unwinding_bound (by assumption) | exact Tx.n_Unwinding_log (by assumption) | exact Tx.n_Unwinding_shelf (by assumption) | exact Tx.n_Unwinding_peak (by assumption) | exact Tx.n_Unwinding_events (by assumption) | exact Tx.n_Store_snapshots (by assumption) | exact Tx.n_Store_recorded (by assumption) | exact Tx.n_Store_observer (by assumption) | exact Tx.n_Store_is_busy (by assumption)); (case l => exact rfl))
  | ((with_reducible refine' rd_sFld1 ?h ?c ?n ?l ?_); (case h => walk_at "hx"); (case c => first | exact Tx.c_Unwinding (by assumption) | exact Tx.c_Store (by assumption)); (case n => first | exact Tx.n_Unwinding_rows (by assumption) | exact Tx.n_Unwinding_references (by assumption) | exact Tx.n_Unwinding_tallies (by assumption) | exact Tx.n_Unwinding_bound (by assumption) | exact Tx.n_Unwinding_log (by assumption) | exact Tx.n_Unwinding_shelf (by assumption) | exact Tx.n_Unwinding_peak (by assumption) | exact Tx.n_Unwinding_events (by assumption) | exact Tx.n_Store_snapshots (by assumption) | exact Tx.n_Store_recorded (by assumption) | exact Tx.n_Store_observer (by assumption) | exact Tx.n_Store_is_busy (by assumption)); (case l => exact Nat.le_of_ble_eq_true rfl))
  | ((with_reducible refine' rd_meth1 ?h ?l ?_); (case h => walk_at "hx"); (case l => exact rfl))
  | ((with_reducible refine' rd_and (rd_tyL ?h) ?_); (case h => walk_at "hx"))
  | ((with_reducible refine' rd_rng1 ?hn ?_); (case hn => first | omega | (simp; omega)))
  | with_reducible refine rd_nx ?_
  | with_reducible refine rd_rt ?_
  | with_reducible refine rd_ct ?_
  | with_reducible refine rd_bk ?_
  | ((with_reducible refine' rd_isi ?ty ?kb ?_); (case ty => walk_at "ty"); (case kb => first | exact kb_ii | exact kb_ib | exact kb_tt | exact kb_tl | exact kb_ss | exact kb_nt))
  | with_reducible refine rd_for ?_
  | with_reducible refine rd_iTup ?_
  | with_reducible refine rd_iList ?_
  | with_reducible refine rd_iRng1 ?_
  | with_reducible refine rd_iRng2 ?_
  | with_reducible refine rd_iEnumT ?_
  | with_reducible refine rd_iEnum ?_
  | with_reducible refine rd_lc ?_
  | with_reducible refine rd_yes ?_
  | ((with_reducible refine' rd_gTup ?sq ?n ?_); (case sq => walk_at "sqT"); (case n => exact rfl))
  | with_reducible refine rd_gCons ?_
  | with_reducible refine rd_gNil ?_
  | with_reducible refine rd_fld ?_
  | with_reducible refine rd_meth ?_
  | with_reducible refine rd_sFld ?_
  | with_reducible refine rd_BM ?_
  | with_reducible refine rd_BM0 ?_
  | ((with_reducible refine' rd_orRow ?h (by assumption) ?_); (case h => exact rfl))
  | with_reducible refine rd_augS ?_
  | with_reducible refine rd_ip ?_
  | with_reducible refine rd_gSub ?_
  | ((with_reducible refine' rd_aug ?h ?_); (case h => exact rfl))
  | with_reducible refine rd_par ?_
  | with_reducible refine rd_par1 ?_
  | ((with_reducible refine' rd_lenT ?sq ?_); (case sq => exact st_of (by walk_at "hx")))
  | ((with_reducible refine' rd_lenL ?sq ?_); (case sq => exact sq_of (by walk_at "hx")))
  | ((with_reducible refine' rd_itt ?sq ?_); (case sq => walk_at "sqT"))
  | ((with_reducible refine' rd_itl ?sq ?_); (case sq => walk_at "sqL"))
  | ((with_reducible refine' rd_enumT ?sq ?_); (case sq => walk_at "sqT"))
  | ((with_reducible refine' rd_enumL ?sq ?_); (case sq => walk_at "sqL"))
  | with_reducible refine rd_and rfl ?_
  | with_reducible refine if_t rfl ?_
  | with_reducible refine if_f rfl ?_)
local macro_rules | `(tactic| walk_at "rd") => `(tactic| repeat (walk_at "rd1"))
section
variable {P : Program} {w : World} {K : PySem.W.Frag} {mg : Str → Option Value} {base : Heap}
set_option maxHeartbeats 16000000 in
theorem body_law (T : Tx K mg) (cdv : Value) (A : Around) (outer : List Env) (s : Shared) (H : Hp) (Q : VK) (E : XK) (v : V) (hr : Room 99 (A.deeper (envOfC "law" (defScope s_law) s.heap.objs.size (a_law K) cdv))) (hg : A.guards = some [])
    (h : ∃ (a : Addr) (ns : List Int), v = .ref a ∧ SqL K H a (ns.map V.int)) (q : ∀ H', Q (.bl true) H') :
    ∃ t, PSs (cxOf CX0 P w K mg base N_law "law" (defScope s_law) (a_law K) cdv A outer s H E) (defBody s_law) t ∧ t { nx := fun _ H' => Q .non H', rt := Q } (L2.start N_law [v]) H := by
  obtain ⟨its, mv, hkS⟩ := T.kb_Store
  refine ⟨_, PSs.nox (pss_cons (ps_set (i := 1) sc_law.nd rfl (Or.inl rfl) (pe_call (ok_l_pen T) (hr.mono (by omega)) (by rfl) T.g_l_pen T.k_l_pen T.b_l_pen .nil pass0 (pa_cons (pv 0) pa_nil)))
      (pss_cons (ps_set (i := 2) sc_law.nd rfl (Or.inl rfl) (pe_call (ok_l_begun T) (hr.mono (by omega)) (by rfl) T.g_l_begun T.k_l_begun T.b_l_begun .nil pass0 (pa_cons (pv 1) pa_nil)))
      (pss_cons (ps_set (i := 3) sc_law.nd rfl (Or.inl rfl) (pe_ix (ixL (K := K)) (pe_lst (pa_cons pe_int (pa_cons pe_int (pa_cons pe_int (pa_cons (pe_op op_add pe_int (pe_call (ok_l_draw T) (hr.mono (by omega)) (by rfl) T.g_l_draw T.k_l_draw T.b_l_draw .nil pass0 (pa_cons (pv 1) (pa_cons pe_int pa_nil)))) (pa_cons (pe_op op_pow pe_int pe_int) pa_nil)))))) (pe_call (ok_l_draw T) (hr.mono (by omega)) (by rfl) T.g_l_draw T.k_l_draw T.b_l_draw .nil pass0 (pa_cons (pv 1) (pa_cons pe_int pa_nil))) (fun _ _ => rfl)))
      (pss_cons (ps_set (i := 4) sc_law.nd rfl (Or.inl rfl) (pe_makeN T.m_Store (ok_Store_init T) (hr.mono (by omega)) (by rfl) T.g_Store hkS pass0 (pa_cons (pv 2) pa_nil) (pk_cons (pv 3) pk_nil)))
      (pss_cons (ps_set (i := 5) sc_law.nd rfl (Or.inl rfl) (pe_callB (cr_lenO (ok_Store_len T) (hr.mono (by omega)) T.t_Store_len T.b_Store_len pass0) (by rfl) T.z_len (by decide +kernel) (pa_cons (pv 4) pa_nil)))
      (pss_cons (ps_for PassesOwn.never rfl (pi_range1 (by rfl) T.z_range (pa_cons (pe_ix (ixL (K := K)) (pe_lst (pa_cons pe_int (pa_cons pe_int (pa_cons pe_int pa_nil)))) (pe_call (ok_l_draw T) (hr.mono (by omega)) (by rfl) T.g_l_draw T.k_l_draw T.b_l_draw .nil pass0 (pa_cons (pv 1) (pa_cons pe_int pa_nil))) (fun _ _ => rfl)) pa_nil)) (pg_name (i := 6) sc_law.nd rfl (Or.inl rfl) (by exact Or.inl rfl)) (pss_cons (ps_if (pt_not (pt_val (pe_call (ok_l_sound T) (hr.mono (by omega)) (by rfl) T.g_l_sound T.k_l_sound T.b_l_sound .nil pass0 (pa_cons (pv 4) (pa_cons (pv 5) pa_nil))))) (pss_one (ps_ret pe_bl)) pss_nil)
      (pss_cons (ps_set (i := 7) sc_law.nd rfl (Or.inl rfl) (pe_call (ok_l_choice T) (hr.mono (by omega)) (by rfl) T.g_l_choice T.k_l_choice T.b_l_choice .nil pass0 (pa_cons (pv 1) (pa_cons (pe_tup (pa_cons (pe_meth0 (pv 4) T.c_Store T.t_Store_heap (ok_Store_heap T) (hr.mono (by omega)) T.b_Store_heap .nil pass0) (pa_cons (pv 3) (pa_cons (pe_meth0 (pv 4) T.c_Store T.t_Store_free_numbers (ok_Store_free_numbers T) (hr.mono (by omega)) T.b_Store_free_numbers .nil pass0) (pa_cons (pe_meth0 (pv 4) T.c_Store T.t_Store_candidates (ok_Store_candidates T) (hr.mono (by omega)) T.b_Store_candidates .nil pass0) pa_nil))))) pa_nil))))
      (pss_cons (ps_set (i := 8) sc_law.nd rfl (Or.inl rfl) (pe_call (ok_l_by_modules T) (hr.mono (by omega)) (by rfl) T.g_l_by_modules T.k_l_by_modules T.b_l_by_modules .nil pass0 (pa_cons (pe_meth0 (pv 4) T.c_Store T.t_Store_heap (ok_Store_heap T) (hr.mono (by omega)) T.b_Store_heap .nil pass0) (pa_cons (pe_meth0 (pv 4) T.c_Store T.t_Store_current_limit (ok_Store_current_limit T) (hr.mono (by omega)) T.b_Store_current_limit .nil pass0) (pa_cons (pv 7) pa_nil)))))
      (pss_cons (ps_set (i := 9) sc_law.nd rfl (Or.inl rfl) (pe_call (ok_l_call T) (hr.mono (by omega)) (by rfl) T.g_l_call T.k_l_call T.b_l_call .nil pass0 (pa_cons (pv 4) (pa_cons (pv 7) pa_nil))))
      (pss_one (ps_if (PW.pt (pw_and (pt_cmpR op_notN (pv 8) pe_non (nomark _)) (pw_and1 (pt_cmpR op_ne (pe_callB (cr_reprD hg hr.units) (by rfl) T.z_repr (by decide +kernel) (pa_cons (pe_tup (pa_cons (pv 9) (pa_cons (pe_meth0 (pv 4) T.c_Store T.t_Store_heap (ok_Store_heap T) (hr.mono (by omega)) T.b_Store_heap .nil pass0) pa_nil))) pa_nil)) (pe_callB (cr_reprD hg hr.units) (by rfl) T.z_repr (by decide +kernel) (pa_cons (pe_tup (pa_cons (pe_ix (ixT (K := K)) (pv 8) pe_int (fun _ _ => rfl)) (pa_cons (pe_ix (ixT (K := K)) (pv 8) pe_int (fun _ _ => rfl)) pa_nil))) pa_nil)) (nomark _))))) (pss_one (ps_ret pe_bl)) pss_nil)))))))
      (pss_one (ps_ret (pe_call (ok_l_sound T) (hr.mono (by omega)) (by rfl) T.g_l_sound T.k_l_sound T.b_l_sound .nil pass0 (pa_cons (pv 4) (pa_cons (pv 5) pa_nil))))))))))), ?_⟩
  obtain ⟨a, ns, rfl, ha⟩ := h
  walk_at "rd"
  refine Exists.intro a ⟨ns, rfl, ha, fun p q0 H1 hp0 hq0 ex1 hp1 => ?_⟩
  walk_at "rd"
  refine Exists.intro p ⟨q0, rfl, hp1, fun b hp H2 hp2 f2 hh hV => ?_⟩
  walk_at "rd"
  refine us_draw (m := 41) hp2 (by omega) (by decide) (by decide) fun r1 H3 hr1 hp3 f3 => ?_
  walk_at "rd"
  refine rd_I (by exact ⟨by decide, by decide, by decide⟩) ?_
  rw [show ((10 : Int) ^ (30 : Int).toNat) = 10 ^ 30 from rfl]
  walk_at "rd"
  rename_i L4 hL4
  have f4 : FrP p H3 (upd H3 L4 (.lst [V.int 1, V.int 2, V.int 50, V.int (1 + (r1 : Int)), V.int (10 ^ 30)])) := .ex (Ex.new hL4)
  have hp4 := hp3.ex (Ex.new (o := .lst [V.int 1, V.int 2, V.int 50, V.int (1 + (r1 : Int)), V.int (10 ^ 30)]) hL4)
  have t4 : upd H3 L4 (.lst [V.int 1, V.int 2, V.int 50, V.int (1 + (r1 : Int)), V.int (10 ^ 30)]) L4 = some (.lst [V.int 1, V.int 2, V.int 50, V.int (1 + (r1 : Int)), V.int (10 ^ 30)]) := upd_same
  have hL4p := (hp3.off hL4).1
  generalize upd H3 L4 (.lst [V.int 1, V.int 2, V.int 50, V.int (1 + (r1 : Int)), V.int (10 ^ 30)]) = H4 at f4 hp4 t4 ⊢
  refine us_draw (m := 5) hp4 (by omega) (by decide) (by decide) fun r2 H5 hr2 hp5 f5 => ?_
  obtain ⟨B, hB1, hB2, hB3⟩ : ∃ B : Int, 1 ≤ B ∧ B ≤ 10 ^ 30 ∧ [V.int 1, V.int 2, V.int 50, V.int (1 + (r1 : Int)), V.int (10 ^ 30)][r2]? = some (.int B) := by
    match r2, hr2 with
    | 0, _ => exact ⟨1, by omega, by decide, rfl⟩
    | 1, _ => exact ⟨2, by omega, by decide, rfl⟩
    | 2, _ => exact ⟨50, by omega, by decide, rfl⟩
    | 3, _ => exact ⟨1 + r1, by omega, Int.le_trans (show (1 : Int) + r1 ≤ 60 by omega) (by decide), rfl⟩
    | 4, _ => exact ⟨10 ^ 30, by decide, Int.le_refl _, rfl⟩
  refine rd_ixL (sq_of (f5 _ _ hL4p t4)) hB3 ?_
  have hh5 := hh.tk (fun b xs h => (hp4.tk f5) _ _ ((hp3.tk f4) _ _ ((hp2.tk f3) _ _ h)))
  walk_at "rd"
  intro x dx hx hdx hne
  have hx2 : upd H5 dx (.own x) x = none := by rw [upd_ne (Ne.symm hne)]; exact hx
  have exS := (Ex.new (o := .own x) hdx).trans (Ex.new (o := .ins (C_Store K) dx []) hx2)
  refine Exists.intro x ⟨dx, hp, B, H5, rfl, upd_same, hx, exS, hh5, hV, rfl, hB1, hB2, rfl, fun H6 A6 hA6 hsn hrc w6 ex6 => ⟨rfl, ?_⟩⟩
  subst hA6
  have hp6 := hp5.ex ex6
  have i6 := SI.start hV hB1 hB2
  have hn1 := hp5.off hsn
  have hn2 := hp5.off hrc
  have h40 := hV.n40
  have hll := liveN_len hp.1
  have t06 := w6.at0
  walk_at "rd"
  refine ⟨_, _, _, rfl, t06, ?_⟩
  refine Exists.intro A6 ⟨_, rfl, w6, h40, fun H7 ex7 => ?_⟩
  refine ⟨(liveN hp.1).length, rfl, by omega, ?_⟩
  have w7 := w6.mono ex7
  have hp7 := hp6.ex ex7
  generalize hb0 : (liveN hp.1).length = b0 at *
  walk_at "rd"
  rename_i L8 hL8
  have ex8 := Ex.new (o := .lst [V.int 14, V.int 4, V.int 8]) hL8
  have w8 := w7.mono ex8
  have hp8 := hp7.ex ex8
  have t8 : upd H7 L8 (.lst [V.int 14, V.int 4, V.int 8]) L8 = some (.lst [V.int 14, V.int 4, V.int 8]) := upd_same
  have hL8p := (hp7.off hL8).1
  generalize upd H7 L8 (.lst [V.int 14, V.int 4, V.int 8]) = H8 at w8 hp8 t8 ⊢
  refine us_draw (m := 3) hp8 (by omega) (by decide) (by decide) fun r3 H9 hr3 hp9 f9 => ?_
  obtain ⟨n, hn14, hget⟩ : ∃ n : Nat, n ≤ 14 ∧ [V.int 14, V.int 4, V.int 8][r3]? = some (.int (n : Int)) := by
    match r3, hr3 with
    | 0, _ => exact ⟨14, by omega, rfl⟩
    | 1, _ => exact ⟨4, by omega, rfl⟩
    | 2, _ => exact ⟨8, by omega, rfl⟩
  refine rd_ixL (sq_of (f9 _ _ hL8p t8)) hget ?_
  have w9 := w8.frp hp8 f9 hn1.1 hn2.1
  walk_at "rd"
  refine for_it walk_rng (fun i σ H' => (∃ x6 x7 x8 x9, σ = [some (.ref a), some (.ref p), some b, some (.int B), some (.ref A6.s), some (.int (b0 : Nat)), x6, x7, x8, x9]) ∧ ∃ ss, PenV H' p q0 (5000 + 40 * i) ∧ SW K A6 H' ss ∧ SI b0 ss ∧ ss.don.length = i)
    ⟨⟨_, _, _, _, rfl⟩, _, hp9.mono (by omega), w9, i6, rfl⟩ (fun _ _ _ _ _ => trivial) ?_ ?_
  · rintro i x _ _ H10 hi ⟨⟨x6, x7, x8, x9, rfl⟩, ss, hp10, w10, i10, hd10⟩ ⟨rfl, rfl⟩
    walk_at "rd"
    refine Exists.intro A6 ⟨ss, b0, rfl, rfl, w10, i10, by omega, fun H11 ex11 => ?_⟩
    have w11 := w10.mono ex11
    have hp11 := hp10.ex ex11
    have t11 := w11.at0
    walk_at "rd"
    refine Exists.intro A6 ⟨ss, rfl, w11, fun hv hhv => ?_⟩
    walk_at "rd"
    refine Exists.intro A6 ⟨ss, rfl, w11, fun fa hfa => ?_⟩
    walk_at "rd"
    refine Exists.intro A6 ⟨ss, rfl, w11, fun ca hca => ?_⟩
    walk_at "rd"
    rename_i t12 ht12
    have ex12 := Ex.new (o := .tup [hv, V.int B, V.ref fa, V.ref ca]) ht12
    have hp12 := hp11.ex ex12
    have w12 := w11.mono ex12
    refine Exists.intro p ⟨q0, t12, _, hv, _, ss.hp, rfl, rfl, hp12, by omega, upd_same, hhv.mono ex12, i10.vh, fun t act H13 hp13 f13 ht13 hok => ?_⟩
    have w13 := w12.frp hp12 f13 hn1.1 hn2.1
    have t13 := w13.at0
    walk_at "rd"
    refine Exists.intro A6 ⟨ss, rfl, w13, fun hv2 hh2 => ?_⟩
    walk_at "rd"
    refine Exists.intro A6 ⟨ss, rfl, w13, ?_⟩
    walk_at "rd"
    obtain hm | hm : act.mods = true ∨ act.mods = false := by cases act.mods <;> simp
    · obtain ⟨s', hrun, hin⟩ := i10.act (B := ss.lim) hok hm (by omega)
      refine Exists.intro ss.hp ⟨ss.lim, act, t, hh2, i10.vh, rfl, rfl, ht13, hok, fun _ => ⟨s', hrun, hin.2.1, fun r H14 ex14 hr => ?_⟩, fun z => (by rw [hm] at z; cases z)⟩
      have w14 := w13.mono ex14
      have hp14 := hp13.ex ex14
      have ht14 := ex14 _ _ ht13
      walk_at "rd"
      refine Exists.intro A6 ⟨ss, b0, act, t, rfl, rfl, w14, i10, by omega, ht14, hok, fun _ s2 l cd' H15 hrun2 hl w15 i15 f15 => ?_, fun z => (by rw [hm] at z; cases z)⟩
      obtain rfl : s' = s2 := Option.some.inj (hrun.symm.trans hrun2)
      have tk15 := w14.tk f15
      obtain ⟨tr, lr, pk, hr2, rfl, htr, hlr, hhr⟩ := hr
      have htr15 := tk15 _ _ htr
      have hlr15 := tk15 _ _ hlr
      have hhr15 := hhr.tk tk15
      have hp15 := hp14.frm f15 hn1 hn2
      have t15 := w15.at0
      have hlg : s'.log.length ≤ 5000 := Nat.le_trans hin.1.2.2.2.2.2.2.2.1 (by decide)
      have hlg2 := i15.logOk
      have V15 : Vh s'.heap := i15.vh
      obtain ⟨tx, htx⟩ : ∃ tx, (resD s'.log s'.heap).shown = tx := ⟨_, rfl⟩
      walk_at "rd"
      refine Exists.intro A6 ⟨_, rfl, w15, fun hv3 hh3 => ?_⟩
      walk_at "rd"
      rename_i p16 hp16
      have ex16 := Ex.new (o := .tup [V.ref l, hv3]) hp16
      refine rd_reprR htx upd_same (ex16 _ _ hl) (hh3.mono ex16) V15 hlg hlg2 ?_
      have w16 := w15.mono ex16
      have hp16 := hp15.ex ex16
      have htr16 := ex16 _ _ htr15
      have hlr16 := ex16 _ _ hlr15
      have hhr16 := hhr15.mono ex16
      generalize upd H15 p16 (.tup [V.ref l, hv3]) = H16 at w16 hp16 htr16 hlr16 hhr16 ⊢
      walk_at "rd"
      rename_i p17 hp17
      have ex17 := Ex.new (o := .tup [V.ref lr, hr2]) hp17
      refine rd_reprR htx upd_same (ex17 _ _ hlr16) (hhr16.mono ex17) V15 hlg hlg2 ?_
      have w17 := w16.mono ex17
      have hp17 := hp16.ex ex17
      generalize upd H16 p17 (.tup [V.ref lr, hr2]) = H17 at w17 hp17 ⊢
      walk_at "rd"
      refine if_f (by simp) ?_
      walk_at "rd"
      exact ⟨⟨_, _, _, _, rfl⟩, _, hp17.mono (by omega), w17, i15, by simp [SS.run, hd10]⟩
    · refine Exists.intro ss.hp ⟨ss.lim, act, t, hh2, i10.vh, rfl, rfl, ht13, hok, fun z => (by rw [hm] at z; cases z), fun _ => ?_⟩
      walk_at "rd"
      refine Exists.intro A6 ⟨ss, b0, act, t, rfl, rfl, w13, i10, by omega, ht13, hok, fun z => (by rw [hm] at z; cases z), fun _ v15 ss' H15 w15 i15 hd15 f15 => ?_⟩
      have hp15 := hp13.frm f15 hn1 hn2
      walk_at "rd"
      exact ⟨⟨_, _, _, _, rfl⟩, ss', hp15.mono (by omega), w15, i15, by omega⟩
  · rintro σ H10 ⟨⟨x6, x7, x8, x9, rfl⟩, ss, hp10, w10, i10, hd10⟩
    walk_at "rd"
    refine Exists.intro A6 ⟨ss, b0, rfl, rfl, w10, i10, by omega, fun H11 ex11 => ?_⟩
    walk_at "rd"
    exact q H11
end
end Sf
/-! A def's promise at one caller alone; the law's end over it. -/
namespace Sf
open PySem PySem.Spec PyProof.Rows L2
/-- what a call of f keeps, at the caller A -/
def RunAt (P : Program) (w : World) (K : PySem.W.Frag) (mg : Str → Option Value) (base : Heap) (A : Around) (f : Addr) (fd : FuncData) (ps : List Str) (sp : Sp) : Prop :=
  ∀ (out : List Env) (st : Shared) (H : Hp) (ar : Args) (us : List Value) (vs : List V) (Q : VK) (E : XK), Env0 P w K mg base A out st H → BindsTo st fd ar (ps.zip us) → Vals vs us → sp vs H Q E →
    codeAny (model P w) A (.call (.ref f) ar) (CR CX0 out P w H st Q E) st
section
variable {P : Program} {w : World} {K : PySem.W.Frag} {mg mb : Str → Option Value} {base : Heap}
theorem runAt_of {A : Around} {qn nm : Str} {pa : Arguments} {bd : List Stmt} {sc : Scope} {dvs : List V} {kws : List (Str × V)} {f : Addr} {fd : FuncData} {N ps : List Str} {k : Nat} {sp : Sp} (F : FunD K nm qn pa bd sc dvs kws f fd) (S : FnScope N ps sc) (room : Room (k + 1) A)
    (ln : ∀ vs H Q E, sp vs H Q E → vs.length = ps.length)
    (hb : ∀ (cdv : Value) (out : List Env) (st : Shared) (H : Hp) (vs : List V) (Q : VK) (E : XK), Room k (A.deeper (envOfC qn sc st.heap.objs.size f cdv)) → sp vs H Q E →
      ∃ t, PSs (cxOf CX0 P w K mg base N qn sc f cdv A out st H E) bd t ∧ t { nx := fun _ H' => Q .non H', rt := Q } (L2.start N vs) H) : RunAt P w K mg base A f fd ps sp := by
  obtain ⟨oc, od, dV, kV, doc, pm, an, cdv, ct, osl, rfl, lk, hc, _, _⟩ := F.ex
  intro out st H ar us vs Q E e0 bind rel prom
  have hlen := ln _ _ _ _ prom
  have kin : K.In st.heap := e0.mod.kin.keeps fun b o e => (e0.bs b o e).1
  have nol : st.heap.NoLimit := e0.mod.nolimit.keeps fun b o e => (e0.bs b o e).1
  have kinds : ∀ y ∈ ps.zip us, sc.names.lookup y.1 = some .local ∨ (sc.names.lookup y.1 = some .cell ∧ ((cellsFrom (st.heap.objs.size + 1) sc.names []).lookup y.1).isSome = true) := fun ⟨n, v⟩ hy =>
    (S.par n (List.of_mem_zip hy).1).elim .inl fun q => .inr ⟨q, PySem.W.cellsFrom_some _ _ _ (.inl q)⟩
  refine codeAny_call_function room.depth (kin _ _ lk) rfl S.co S.gen rfl (PySem.W.codeRec_of kin hc) (bind _ _ _ _ ?_)
  refine wpAny_newFunctionEnv_cells S.kind kinds fun env he s1 x => ?_
  cases he
  refine ⟨nol.keeps x.toInCall.keep, codeAny_func ?_⟩
  obtain ⟨t, ht, hq⟩ := hb cdv out st H vs Q E (room.deeper _) prom
  refine wpAny_mono (ht.run [] s1 (L2.start N vs) H _ (inv_start S room.hd e0 hlen rel x) hq) (fun fl s' z => ?_) fun _ _ z => z
  cases fl with
  | ret u =>
    obtain ⟨v, _, H', J, rv, y⟩ := z
    exact ⟨v, H', J.os, J.bare, J.base, J.hok, rv, y⟩
  | next =>
    obtain ⟨_, H', J, y⟩ := z
    exact ⟨V.non, H', J.os, J.bare, J.base, J.hok, rfl, y⟩
  | brk =>
    obtain ⟨_, _, _, y⟩ := z
    exact y.elim
  | cont =>
    obtain ⟨_, _, _, y⟩ := z
    exact y.elim
/-- the law's own call, its promise known at the caller alone -/
theorem law_at {fa a : Addr} {fd : FuncData} {x : Str} {sp : Sp} {st : Shared} {vs : List Value} {ns : List Int} (kin : K.In st.heap) (nsm : st.heap.Ns mainGlobals mg) (nsb : st.heap.Ns builtinsNs mb) (boot : ∀ x : Str, x ≠ "__name__" → mb x = bootBuiltins x)
    (nol : st.heap.NoLimit) (gens : st.gens = #[]) (obj : st.heap.get? a = some { cls := .type "list", data := .seq vs.toArray }) (hint : IntsAre vs ns) (hl : ns.length ≤ sizeLine)
    (F : ∀ base : Heap, K.In base → base.Ns mainGlobals mg → RunAt P w K mg base callerA fa fd [x] sp) (bind : ∀ (s : Shared) (u : Value), BindsTo s fd ⟨[u], []⟩ [(x, u)])
    (prom : ∀ H : Hp, Only H → SqL K H a (ns.map V.int) → sp [.ref a] H (fun v _ => v = .bl true) fun _ _ _ => False) :
    codeAny (model P w) callerA (.call (.ref fa) ⟨[.ref a], []⟩) (fun r s' => r = .ok (.ret (.bool true)) ∧ OldK st.heap s'.heap ∧ s'.os = st.os ∧ AllBare s'.gens) st := by
  have rel := vals_ints hint
  have hlv := hint.length
  suffices core : ∀ H : Hp, Only H → SqL K H a (ns.map V.int) → HOk P w H st.heap → (∀ b, H b ≠ none → b = a) → (H a ≠ none → K.lookup a = none) →
      codeAny (model P w) callerA (.call (.ref fa) ⟨[.ref a], []⟩) (fun r s' => r = .ok (.ret (.bool true)) ∧ OldK st.heap s'.heap ∧ s'.os = st.os ∧ AllBare s'.gens) st by
    cases hk : K.lookup a with
    | some o =>
      have e := kin a o hk
      rw [obj] at e
      cases e
      exact core (fun _ => none) (fun _ => .inl rfl) (.inr ⟨_, vs.toArray, _, hk, rfl, rfl, rfl, by rw [List.size_toArray, hlv]; exact hl, by simpa using rel⟩) (fun b u z => nomatch (show (none : Option HO) = some u from z)) (fun b z => (z rfl).elim) fun z => (z rfl).elim
    | none =>
      refine core (fun b => if b = a then some (.frz { cls := .type "list", data := .seq vs.toArray } (.lst (ns.map V.int))) else none) (fun b => ?_) (.inl (.inr ⟨{ cls := .type "list", data := .seq vs.toArray }, if_pos rfl⟩)) (fun b u z => ?_) (fun b z => ?_) fun _ => hk
      · rcases Decidable.em (b = a) with e | e
        · exact .inr ⟨_, _, if_pos e⟩
        · exact .inl (if_neg e)
      · rcases Decidable.em (b = a) with e | e
        · cases (if_pos e).symm.trans z
          cases e
          exact ⟨obj, by rw [List.length_map]; exact hl, vs, _, rel, obj⟩
        · cases (if_neg e).symm.trans z
      · rcases Decidable.em (b = a) with e | e
        · exact e
        · exact (z (if_neg e)).elim
  intro H only sq hok one off
  have noA : ∀ {b : Addr} {o : Obj} {es : Array DictEntry} {ep : Nat}, st.heap.get? b = some o → o.data = .dict es ep → H b = none := fun {b o es ep} e d => by
    cases q : H b with
    | none => rfl
    | some u =>
      obtain rfl : b = a := one b (by rw [q]; intro z; cases z)
      rw [obj] at e
      cases e
      exact nomatch (show Data.seq vs.toArray _ = Data.dict es ep from d)
  have nsK : ∀ {b : Addr} {m : Str → Option Value}, st.heap.Ns b m → (hidT st.heap H).Ns b m := fun {b m} ⟨o, es, ep, e, d, r⟩ => ⟨o, es, ep, hidT_get e (noA e d), d, r⟩
  have kin2 : K.In (hidT st.heap H) := fun b o e => hidT_get (kin b o e) (by
    cases q : H b with
    | none => rfl
    | some u =>
      obtain rfl : b = a := one b (by rw [q]; intro z; cases z)
      rw [off (by rw [q]; intro z; cases z)] at e
      cases e)
  have hM : Mod K mg (hidT st.heap H) := ⟨kin2, nsK nsm, ⟨mb, nsK nsb, boot⟩, nol.elim fun mc h => ⟨mc, nsK h.1, h.2⟩⟩
  have e0 : Env0 P w K mg (hidT st.heap H) callerA [] st H := ⟨rfl, hM, fun b o e => of_hidT e, Nat.le_of_eq (hidT_size _ _), trivial, fun b hb => absurd (show b ∈ ([] : List Addr) from hb) List.not_mem_nil, hok, .of_eq gens⟩
  refine codeAny_mono (F _ kin2 (nsK nsm) [] st H ⟨[.ref a], []⟩ [.ref a] [.ref a] _ _ e0 (bind st (.ref a)) (.cons rfl .nil) (prom H only sq)) fun r s' h => ?_
  cases r with
  | error e => exact False.elim h
  | ok fl =>
    cases fl with
    | next => exact False.elim h
    | brk => exact False.elim h
    | cont => exact False.elim h
    | ret u =>
      obtain ⟨v, H', os, bare, un, hok', r', q⟩ := h
      obtain rfl : v = .bl true := q
      obtain rfl : u = Value.bool true := r'
      refine ⟨rfl, OldK.of_keep fun b o e => ?_, os, bare⟩
      cases q : H b with
      | none => exact un.keep b o e q (fun z => absurd (show b ∈ ([] : List Addr) from z) List.not_mem_nil) (by simp)
      | some u =>
        rcases only b with z | ⟨ob, xs, z⟩
        · rw [q] at z
          cases z
        · have e1 := (hok b _ z).1
          have e2 := (hok' b _ (un.frzs b ob _ z)).1
          rw [e] at e1
          cases e1
          exact e2
end
/-- the law's end: F gives the written part, the function object, the promise at the caller -/
theorem end_at {l : PySem.W.OpenLaw} {n : Nat} {q : Program} {loose : List Str} {XP : (Str → Option Value) → Heap → Prop} {YP : World → Heap → Prop} {d : DefRec} {x : Str} (hn : l.most = some n) (hn2 : n ≤ sizeLine) (hd : d.params.defaults = [])
    (F : ∀ (w : World) (mg : Str → Option Value) (fa : Addr) (h : Heap), YP w h → h.Ns mainGlobals mg → mg d.name = some (.ref fa) →
      ∃ (K : PySem.W.Frag) (fd : FuncData) (sp : Sp), K.In h ∧ (∀ (s : Shared) (u : Value), BindsTo s fd ⟨[u], []⟩ [(x, u)]) ∧
        (∀ (H : Hp) (a : Addr) (ns : List Int), ns.length ≤ n → SqL K H a (ns.map V.int) → sp [.ref a] H (fun v _ => v = .bl true) fun _ _ _ => False) ∧
        ∀ base : Heap, K.In base → base.Ns mainGlobals mg → RunAt l.prog w K mg base callerA fa fd [x] sp) :
    PySem.W.WalkO q loose XP YP l.row.toRowW d [] (fun f vs => PySem.call f vs) := by
  refine Att.attach_call hn hd fun w s₀ st mg mb fa o pm cd doc a vs ns G Y ho hd2 hcd hmg hobj hints hlen hg => ?_
  obtain ⟨K, fd, sp, kin, bind, prom, run⟩ := F w mg fa _ Y G.T.g hmg
  exact law_at kin G.T.g G.T.b G.T.builtins G.T.nolimit hg hobj hints (Nat.le_trans hlen hn2) run bind fun H _ sq => prom H a ns hlen sq
end Sf
namespace Sf
open PySem PySem.Spec PyProof.Rows L2
def sp_law (K : PySem.W.Frag) : Sp := fun vs H Q _ => ∃ (a : Addr) (ns : List Int), vs = [.ref a] ∧ SqL K H a (ns.map V.int) ∧ ∀ H', Q (.bl true) H'
theorem run_law {P : Program} {w : World} {K : PySem.W.Frag} {mg : Str → Option Value} {base : Heap} (T : Tx K mg) : RunAt P w K mg base callerA (a_law K) (fd_law K) ["_law_script"] (sp_law K) := by
  refine runAt_of (k := 99) T.f_law sc_law ⟨rfl, by decide, by decide⟩ (fun vs H Q E h => ?_) fun cdv out st H vs Q E hr h => ?_
  · obtain ⟨a, ns, rfl, _⟩ := h
    rfl
  · obtain ⟨a, ns, rfl, sq, q⟩ := h
    exact body_law T cdv callerA out st H Q E (.ref a) hr rfl ⟨a, ns, rfl, sq⟩ q
theorem facts {w : World} {h : Heap} {P : Program} {mg : Str → Option Value} {f : Addr} (Y : hk.says w h) (G : h.Ns mainGlobals mg) (hf : mg ("law" : Str) = some (.ref f)) :
    ∃ (K : PySem.W.Frag) (fd : FuncData) (sp : Sp), K.In h ∧ (∀ (s : Shared) (u : Value), BindsTo s fd ⟨[u], []⟩ [("_law_script", u)]) ∧
      (∀ (H : Hp) (a : Addr) (ns : List Int), ns.length ≤ 63 → SqL K H a (ns.map V.int) → sp [.ref a] H (fun v _ => v = .bl true) fun _ _ _ => False) ∧
      ∀ base : Heap, K.In base → base.Ns mainGlobals mg → RunAt P w K mg base callerA f fd ["_law_script"] sp := by
  obtain ⟨K, X, c⟩ := Y
  have T : Tx K mg := ⟨h, X, G, c⟩
  have e := hf.symm.trans T.g_law
  cases e
  have b := FunD.bindsA (ps := ["_law_script"]) T.f_law fun _ _ _ _ _ _ us hl => match us, hl with | [_], _ => rfl
  exact ⟨K, fd_law K, sp_law K, X, fun s u => b s [u] rfl, fun H a ns _ sq => ⟨a, ns, rfl, sq, fun _ => rfl⟩, fun base _ _ => run_law T⟩
end Sf
open PySem PySem.W PySem.Calls PyProof.Rows
theorem PySem.Challenge.cw_slotfall_k80_whole_store_and_functions_holds : PySem.Challenge.rw_slotfall_k80_whole_store_and_functions.Holds := by
  w_on; o_law
  refine HandSHeadRun.head_any (r := Sf.R) (q := view Sf.R.prog [84]) (H := Sf.hk) (ob := Sf.ob) (M := 6000) (loose := Sf.nm) (d := HandSHeadRun.topDef Sf.R.prog 84) (kwd := []) Sf.ob_eq
    (by kernel_rfl) (fun s => by kernel_rfl) Sf.run (by kernel_rfl) (by kernel_rfl) (by kernel_rfl) (by rfl) (by first | assumption | decide +kernel) (by decide +kernel) ⟨rfl, rfl, rfl, rfl, rfl, by decide +kernel⟩ ?hw ?hc
  case hw => w_witness2
  case hc =>
    refine Sf.end_at (l := PySem.Challenge.rw_slotfall_k80_whole_store_and_functions) (n := 63) (x := "_law_script") rfl (by decide) (by kernel_rfl) ?F
    intro w mg fa h Y G hm
    have hmg : mg ("law" : PySem.Str) = some (.ref fa) := by
      have e : (HandSHeadRun.topDef Sf.R.prog 84).name = ("law" : PySem.Str) := by kernel_rfl
      rw [← e]
      exact hm
    exact Sf.facts Y G hmg
