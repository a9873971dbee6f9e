import PyProof.Rows.All
import Wide.All
import OpenK.AllK
import Wide.FinOn
import HandS.ForMost
import HandS.Defaults
import HandS.HeadHook4
import HandS.Nested
import HandS.TupAny
import HandS.Deep
import HandS.IsInst
import HandS.NoneIn
import HandS.Wide
import HandS.Zip
import HandS.More
import KE.SortKeyHeap
import KE.GoesEnum
import HandS.SortKw
import HandS.SetKeys
import HandS.Head0
import HandS.Head1
import HandS.Head2
import HandS.HeadEnd
import HandS.HeadWalk
import PySem.Challenge.RW_sealedplans_k74_whole_lengths_of_runs
set_option Elab.async false
set_option linter.all false
set_option maxRecDepth 100000
set_option maxHeartbeats 4000000
/-! the text by places -/
namespace G
open PySem PySem.Spec PyProof.Rows L2
def top (i : Nat) : Stmt := PySem.Challenge.pw_sealedplans_k74_whole_lengths_of_runs.main.body.getD i (.Pass ⟨0, 0, 0, 0⟩)
abbrev s_is_integer : Stmt := top 8
abbrev s_is_within : Stmt := top 9
abbrev s_is_pair : Stmt := top 10
abbrev s_is_triple : Stmt := top 11
abbrev s_is_word : Stmt := top 12
abbrev s_is_door : Stmt := top 13
abbrev s_is_part : Stmt := top 14
abbrev s_is_plan_in : Stmt := top 15
abbrev s_check_plan : Stmt := top 16
abbrev s_part_key : Stmt := top 19
abbrev s_plan_key : Stmt := top 20
abbrev s_sorted_items : Stmt := top 21
abbrev s_part_size : Stmt := top 25
abbrev s_size_of : Stmt := top 26
abbrev s_parts_within : Stmt := top 27
abbrev s_items_in : Stmt := top 28
abbrev s_nesting : Stmt := top 29
abbrev s_check_room : Stmt := top 30
abbrev s_roomy : Stmt := top 31
abbrev s_gots_at : Stmt := top 32
abbrev s_mapped : Stmt := top 33
abbrev s_raised : Stmt := top 34
abbrev s_brought : Stmt := top 35
abbrev s_roomy_brought : Stmt := top 36
abbrev s_folded : Stmt := top 38
abbrev s_plain_of : Stmt := top 39
abbrev s_meetings_of : Stmt := top 41
abbrev s_without : Stmt := top 42
abbrev s_met_of : Stmt := top 43
abbrev s_is_meeting_of : Stmt := top 44
abbrev s_meetings : Stmt := top 45
abbrev s_met : Stmt := top 46
abbrev s_Graph_init : Stmt := inClass (top 49) 0
abbrev s_Graph_number_of : Stmt := inClass (top 49) 1
abbrev s_Graph_reach : Stmt := inClass (top 49) 2
abbrev s_Graph_grow : Stmt := inClass (top 49) 3
abbrev s_graph_of : Stmt := top 50
abbrev s_in_order : Stmt := top 51
abbrev s_longest : Stmt := top 52
abbrev s_shortest : Stmt := top 53
abbrev s_law_tape : Stmt := top 55
abbrev s_law_pick : Stmt := top 56
abbrev s_law_plan : Stmt := top 57
abbrev s_law_part : Stmt := top 58
abbrev s_law_part_size : Stmt := top 59
abbrev s_law_size : Stmt := top 60
abbrev s_law_raise : Stmt := top 61
abbrev s_law_key : Stmt := top 62
abbrev s_law_joined : Stmt := top 63
abbrev s_law_form : Stmt := top 64
abbrev s_law_pairs : Stmt := top 65
abbrev s_law_without : Stmt := top 66
abbrev s_law_raw : Stmt := top 67
abbrev s_law_brought : Stmt := top 68
abbrev s_law_items_in : Stmt := top 69
abbrev s_law_stage : Stmt := top 70
abbrev s_law_graph : Stmt := top 71
abbrev s_law_longest : Stmt := top 72
abbrev s_law_is_count : Stmt := top 73
abbrev s_law_fits : Stmt := top 74
abbrev s_law : Stmt := top 75
abbrev n_is_integer : List Str := ["thing"]
theorem sc_is_integer : FnScope n_is_integer ["thing"] (defScope s_is_integer) := ⟨rfl, rfl, rfl, by decide +kernel, rfl, by decide +kernel, by decide +kernel⟩
abbrev n_is_within : List Str := ["thing", "least", "most"]
theorem sc_is_within : FnScope n_is_within ["thing", "least", "most"] (defScope s_is_within) := ⟨rfl, rfl, rfl, by decide +kernel, rfl, by decide +kernel, by decide +kernel⟩
abbrev n_is_pair : List Str := ["thing"]
theorem sc_is_pair : FnScope n_is_pair ["thing"] (defScope s_is_pair) := ⟨rfl, rfl, rfl, by decide +kernel, rfl, by decide +kernel, by decide +kernel⟩
abbrev n_is_triple : List Str := ["thing"]
theorem sc_is_triple : FnScope n_is_triple ["thing"] (defScope s_is_triple) := ⟨rfl, rfl, rfl, by decide +kernel, rfl, by decide +kernel, by decide +kernel⟩
abbrev n_is_word : List Str := ["thing", "sign"]
theorem sc_is_word : FnScope n_is_word ["thing"] (defScope s_is_word) := ⟨rfl, rfl, rfl, by decide +kernel, rfl, by decide +kernel, by decide +kernel⟩
abbrev n_is_door : List Str := ["thing"]
theorem sc_is_door : FnScope n_is_door ["thing"] (defScope s_is_door) := ⟨rfl, rfl, rfl, by decide +kernel, rfl, by decide +kernel, by decide +kernel⟩
abbrev n_is_part : List Str := ["thing", "depth"]
theorem sc_is_part : FnScope n_is_part ["thing", "depth"] (defScope s_is_part) := ⟨rfl, rfl, rfl, by decide +kernel, rfl, by decide +kernel, by decide +kernel⟩
abbrev n_is_plan_in : List Str := ["thing", "depth", "item"]
theorem sc_is_plan_in : FnScope n_is_plan_in ["thing", "depth"] (defScope s_is_plan_in) := ⟨rfl, rfl, rfl, by decide +kernel, rfl, by decide +kernel, by decide +kernel⟩
abbrev n_check_plan : List Str := ["thing"]
theorem sc_check_plan : FnScope n_check_plan ["thing"] (defScope s_check_plan) := ⟨rfl, rfl, rfl, by decide +kernel, rfl, by decide +kernel, by decide +kernel⟩
abbrev n_part_key : List Str := ["part", "inner", "own", "key", "count"]
theorem sc_part_key : FnScope n_part_key ["part"] (defScope s_part_key) := ⟨rfl, rfl, rfl, by decide +kernel, rfl, by decide +kernel, by decide +kernel⟩
abbrev n_plan_key : List Str := ["plan", "count", "part"]
theorem sc_plan_key : FnScope n_plan_key ["plan"] (defScope s_plan_key) := ⟨rfl, rfl, rfl, by decide +kernel, rfl, by decide +kernel, by decide +kernel⟩
abbrev n_sorted_items : List Str := ["items", "found", "count", "part"]
theorem sc_sorted_items : FnScope n_sorted_items ["items"] (defScope s_sorted_items) := ⟨rfl, rfl, rfl, by decide +kernel, rfl, by decide +kernel, by decide +kernel⟩
abbrev n_part_size : List Str := ["part"]
theorem sc_part_size : FnScope n_part_size ["part"] (defScope s_part_size) := ⟨rfl, rfl, rfl, by decide +kernel, rfl, by decide +kernel, by decide +kernel⟩
abbrev n_size_of : List Str := ["plan", "count", "part"]
theorem sc_size_of : FnScope n_size_of ["plan"] (defScope s_size_of) := ⟨rfl, rfl, rfl, by decide +kernel, rfl, by decide +kernel, by decide +kernel⟩
abbrev n_parts_within : List Str := ["plan", "found", "count", "part"]
theorem sc_parts_within : FnScope n_parts_within ["plan"] (defScope s_parts_within) := ⟨rfl, rfl, rfl, by decide +kernel, rfl, by decide +kernel, by decide +kernel⟩
abbrev n_items_in : List Str := ["plan"]
theorem sc_items_in : FnScope n_items_in ["plan"] (defScope s_items_in) := ⟨rfl, rfl, rfl, by decide +kernel, rfl, by decide +kernel, by decide +kernel⟩
abbrev n_nesting : List Str := ["plan", "count", "part"]
theorem sc_nesting : FnScope n_nesting ["plan"] (defScope s_nesting) := ⟨rfl, rfl, rfl, by decide +kernel, rfl, by decide +kernel, by decide +kernel⟩
abbrev n_check_room : List Str := ["items"]
theorem sc_check_room : FnScope n_check_room ["items"] (defScope s_check_room) := ⟨rfl, rfl, rfl, by decide +kernel, rfl, by decide +kernel, by decide +kernel⟩
abbrev n_roomy : List Str := ["plan"]
theorem sc_roomy : FnScope n_roomy ["plan"] (defScope s_roomy) := ⟨rfl, rfl, rfl, by decide +kernel, rfl, by decide +kernel, by decide +kernel⟩
abbrev n_gots_at : List Str := ["plan", "depth", "found", "count", "part"]
theorem sc_gots_at : FnScope n_gots_at ["plan", "depth"] (defScope s_gots_at) := ⟨rfl, rfl, rfl, by decide +kernel, rfl, by decide +kernel, by decide +kernel⟩
abbrev n_mapped : List Str := ["plan", "depth", "action", "found", "count", "part", "many", "other"]
theorem sc_mapped : FnScope n_mapped ["plan", "depth", "action"] (defScope s_mapped) := ⟨rfl, rfl, rfl, by decide +kernel, rfl, by decide +kernel, by decide +kernel⟩
abbrev n_raised : List Str := ["plan", "by", "least", "lift"]
theorem sc_raised : FnScope n_raised ["plan", "by", "least"] (defScope s_raised) := ⟨rfl, rfl, rfl, by decide +kernel, rfl, by decide +kernel, by decide +kernel⟩
abbrev n_brought : List Str := ["body", "other", "bring"]
theorem sc_brought : FnScope n_brought ["body", "other"] (defScope s_brought) := ⟨rfl, rfl, rfl, by decide +kernel, rfl, by decide +kernel, by decide +kernel⟩
abbrev n_roomy_brought : List Str := ["rest", "body", "other"]
theorem sc_roomy_brought : FnScope n_roomy_brought ["rest", "body", "other"] (defScope s_roomy_brought) := ⟨rfl, rfl, rfl, by decide +kernel, rfl, by decide +kernel, by decide +kernel⟩
abbrev n_folded : List Str := ["door", "body", "at", "many", "part", "rest"]
theorem sc_folded : FnScope n_folded ["door", "body"] (defScope s_folded) := ⟨rfl, rfl, rfl, by decide +kernel, rfl, by decide +kernel, by decide +kernel⟩
abbrev n_plain_of : List Str := ["plan", "items", "count", "part", "many", "prime"]
theorem sc_plain_of : FnScope n_plain_of ["plan"] (defScope s_plain_of) := ⟨rfl, rfl, rfl, by decide +kernel, rfl, by decide +kernel, by decide +kernel⟩
abbrev n_meetings_of : List Str := ["plan", "found", "count", "one", "many", "other"]
theorem sc_meetings_of : FnScope n_meetings_of ["plan"] (defScope s_meetings_of) := ⟨rfl, rfl, rfl, by decide +kernel, rfl, by decide +kernel, by decide +kernel⟩
abbrev n_without : List Str := ["plan", "part", "found", "count", "other"]
theorem sc_without : FnScope n_without ["plan", "part"] (defScope s_without) := ⟨rfl, rfl, rfl, by decide +kernel, rfl, by decide +kernel, by decide +kernel⟩
abbrev n_met_of : List Str := ["plan", "meeting", "one", "other", "rest"]
theorem sc_met_of : FnScope n_met_of ["plan", "meeting"] (defScope s_met_of) := ⟨rfl, rfl, rfl, by decide +kernel, rfl, by decide +kernel, by decide +kernel⟩
abbrev n_is_meeting_of : List Str := ["plan", "thing"]
theorem sc_is_meeting_of : FnScope n_is_meeting_of ["plan", "thing"] (defScope s_is_meeting_of) := ⟨rfl, rfl, rfl, by decide +kernel, rfl, by decide +kernel, by decide +kernel⟩
abbrev n_meetings : List Str := ["plan"]
theorem sc_meetings : FnScope n_meetings ["plan"] (defScope s_meetings) := ⟨rfl, rfl, rfl, by decide +kernel, rfl, by decide +kernel, by decide +kernel⟩
abbrev n_met : List Str := ["plan", "meeting", "form"]
theorem sc_met : FnScope n_met ["plan", "meeting"] (defScope s_met) := ⟨rfl, rfl, rfl, by decide +kernel, rfl, by decide +kernel, by decide +kernel⟩
abbrev n_Graph_init : List Str := ["self", "start"]
theorem sc_Graph_init : FnScope n_Graph_init ["self", "start"] (defScope s_Graph_init) := ⟨rfl, rfl, rfl, by decide +kernel, rfl, by decide +kernel, by decide +kernel⟩
abbrev n_Graph_number_of : List Str := ["self", "form", "number"]
theorem sc_Graph_number_of : FnScope n_Graph_number_of ["self", "form"] (defScope s_Graph_number_of) := ⟨rfl, rfl, rfl, by decide +kernel, rfl, by decide +kernel, by decide +kernel⟩
abbrev n_Graph_reach : List Str := ["self", "form", "choices", "number"]
theorem sc_Graph_reach : FnScope n_Graph_reach ["self", "form", "choices"] (defScope s_Graph_reach) := ⟨rfl, rfl, rfl, by decide +kernel, rfl, by decide +kernel, by decide +kernel⟩
abbrev n_Graph_grow : List Str := ["self", "at", "form", "pairs", "row", "choice", "pair"]
theorem sc_Graph_grow : FnScope n_Graph_grow ["self"] (defScope s_Graph_grow) := ⟨rfl, rfl, rfl, by decide +kernel, rfl, by decide +kernel, by decide +kernel⟩
abbrev n_graph_of : List Str := ["plan", "graph"]
theorem sc_graph_of : FnScope n_graph_of ["plan"] (defScope s_graph_of) := ⟨rfl, rfl, rfl, by decide +kernel, rfl, by decide +kernel, by decide +kernel⟩
abbrev n_in_order : List Str := ["links", "row", "ahead", "goal", "at", "found"]
theorem sc_in_order : FnScope n_in_order ["links"] (defScope s_in_order) := ⟨rfl, rfl, rfl, by decide +kernel, rfl, by decide +kernel, by decide +kernel⟩
abbrev n_longest : List Str := ["plan", "links", "order", "most", "at", "goal", "row"]
theorem sc_longest : FnScope n_longest ["plan"] (defScope s_longest) := ⟨rfl, rfl, rfl, by decide +kernel, rfl, by decide +kernel, by decide +kernel⟩
abbrev n_shortest : List Str := ["plan", "graph", "row", "choices"]
theorem sc_shortest : FnScope n_shortest ["plan"] (defScope s_shortest) := ⟨rfl, rfl, rfl, by decide +kernel, rfl, by decide +kernel, by decide +kernel⟩
abbrev n_law_tape : List Str := ["_law_script"]
theorem sc_law_tape : FnScope n_law_tape ["_law_script"] (defScope s_law_tape) := ⟨rfl, rfl, rfl, by decide +kernel, rfl, by decide +kernel, by decide +kernel⟩
abbrev n_law_pick : List Str := ["_law_tape_here", "_law_many", "_law_digit", "_law_cell", "_law_mixed"]
theorem sc_law_pick : FnScope n_law_pick ["_law_tape_here", "_law_many"] (defScope s_law_pick) := ⟨rfl, rfl, rfl, by decide +kernel, rfl, by decide +kernel, by decide +kernel⟩
abbrev n_law_plan : List Str := ["_law_tape_here", "_law_left", "_law_depth", "_law_letters", "_law_words", "_law_items", "_law_turn", "_law_count", "_law_part_here"]
theorem sc_law_plan : FnScope n_law_plan ["_law_tape_here", "_law_left", "_law_depth", "_law_letters", "_law_words"] (defScope s_law_plan) := ⟨rfl, rfl, rfl, by decide +kernel, rfl, by decide +kernel, by decide +kernel⟩
abbrev n_law_part : List Str := ["_law_tape_here", "_law_left", "_law_depth", "_law_letters", "_law_words", "_law_kind", "_law_door"]
theorem sc_law_part : FnScope n_law_part ["_law_tape_here", "_law_left", "_law_depth", "_law_letters", "_law_words"] (defScope s_law_part) := ⟨rfl, rfl, rfl, by decide +kernel, rfl, by decide +kernel, by decide +kernel⟩
abbrev n_law_part_size : List Str := ["_law_part_here"]
theorem sc_law_part_size : FnScope n_law_part_size ["_law_part_here"] (defScope s_law_part_size) := ⟨rfl, rfl, rfl, by decide +kernel, rfl, by decide +kernel, by decide +kernel⟩
abbrev n_law_size : List Str := ["_law_plan_here", "_law_count", "_law_part_here"]
theorem sc_law_size : FnScope n_law_size ["_law_plan_here"] (defScope s_law_size) := ⟨rfl, rfl, rfl, by decide +kernel, rfl, by decide +kernel, by decide +kernel⟩
abbrev n_law_raise : List Str := ["_law_plan_here", "_law_by", "_law_least", "_law_found", "_law_count", "_law_part_here"]
theorem sc_law_raise : FnScope n_law_raise ["_law_plan_here", "_law_by", "_law_least"] (defScope s_law_raise) := ⟨rfl, rfl, rfl, by decide +kernel, rfl, by decide +kernel, by decide +kernel⟩
abbrev n_law_key : List Str := ["_law_part_here", "_law_rank", "_law_inner", "_law_count", "_law_one"]
theorem sc_law_key : FnScope n_law_key ["_law_part_here"] (defScope s_law_key) := ⟨rfl, rfl, rfl, by decide +kernel, rfl, by decide +kernel, by decide +kernel⟩
abbrev n_law_joined : List Str := ["_law_items", "_law_found", "_law_count", "_law_part_here"]
theorem sc_law_joined : FnScope n_law_joined ["_law_items"] (defScope s_law_joined) := ⟨rfl, rfl, rfl, by decide +kernel, rfl, by decide +kernel, by decide +kernel⟩
abbrev n_law_form : List Str := ["_law_plan_here", "_law_items", "_law_count", "_law_part_here", "_law_body", "_law_many", "_law_one", "_law_rest", "_law_item"]
theorem sc_law_form : FnScope n_law_form ["_law_plan_here"] (defScope s_law_form) := ⟨rfl, rfl, rfl, by decide +kernel, rfl, by decide +kernel, by decide +kernel⟩
abbrev n_law_pairs : List Str := ["_law_form_here", "_law_found", "_law_count", "_law_one", "_law_many", "_law_other"]
theorem sc_law_pairs : FnScope n_law_pairs ["_law_form_here"] (defScope s_law_pairs) := ⟨rfl, rfl, rfl, by decide +kernel, rfl, by decide +kernel, by decide +kernel⟩
abbrev n_law_without : List Str := ["_law_form_here", "_law_part_here", "_law_found", "_law_count", "_law_one"]
theorem sc_law_without : FnScope n_law_without ["_law_form_here", "_law_part_here"] (defScope s_law_without) := ⟨rfl, rfl, rfl, by decide +kernel, rfl, by decide +kernel, by decide +kernel⟩
abbrev n_law_raw : List Str := ["_law_form_here", "_law_pair", "_law_rest"]
theorem sc_law_raw : FnScope n_law_raw ["_law_form_here", "_law_pair"] (defScope s_law_raw) := ⟨rfl, rfl, rfl, by decide +kernel, rfl, by decide +kernel, by decide +kernel⟩
abbrev n_law_brought : List Str := ["_law_plan_here", "_law_depth", "_law_other", "_law_found", "_law_count", "_law_part_here", "_law_many", "_law_one"]
theorem sc_law_brought : FnScope n_law_brought ["_law_plan_here", "_law_depth", "_law_other"] (defScope s_law_brought) := ⟨rfl, rfl, rfl, by decide +kernel, rfl, by decide +kernel, by decide +kernel⟩
abbrev n_law_items_in : List Str := ["_law_plan_here", "_law_total", "_law_count", "_law_part_here"]
theorem sc_law_items_in : FnScope n_law_items_in ["_law_plan_here"] (defScope s_law_items_in) := ⟨rfl, rfl, rfl, by decide +kernel, rfl, by decide +kernel, by decide +kernel⟩
abbrev n_law_stage : List Str := ["_law_tape_here", "_law_letters", "_law_most", "_law_items", "_law_turn", "_law_door", "_law_words", "_law_count", "_law_kind", "_law_source"]
theorem sc_law_stage : FnScope n_law_stage ["_law_tape_here", "_law_letters", "_law_most"] (defScope s_law_stage) := ⟨rfl, rfl, rfl, by decide +kernel, rfl, by decide +kernel, by decide +kernel⟩
abbrev n_law_graph : List Str := ["_law_plan_here", "_law_most", "_law_forms", "_law_ways", "_law_links", "_law_at", "_law_row", "_law_pairs_here", "_law_k", "_law_form_here"]
theorem sc_law_graph : FnScope n_law_graph ["_law_plan_here", "_law_most"] (defScope s_law_graph) := ⟨rfl, rfl, rfl, by decide +kernel, rfl, by decide +kernel, by decide +kernel⟩
abbrev n_law_longest : List Str := ["_law_links", "_law_most", "_law_turn", "_law_at", "_law_goal", "_law_row"]
theorem sc_law_longest : FnScope n_law_longest ["_law_links"] (defScope s_law_longest) := ⟨rfl, rfl, rfl, by decide +kernel, rfl, by decide +kernel, by decide +kernel⟩
abbrev n_law_is_count : List Str := ["_law_told", "_law_due"]
theorem sc_law_is_count : FnScope n_law_is_count ["_law_told", "_law_due"] (defScope s_law_is_count) := ⟨rfl, rfl, rfl, by decide +kernel, rfl, by decide +kernel, by decide +kernel⟩
abbrev n_law_fits : List Str := ["_law_form_here", "_law_pairs_here", "_law_behind", "_law_most", "_law_least", "_law_due", "_law_pair", "_law_one", "_law_number"]
theorem sc_law_fits : FnScope n_law_fits ["_law_form_here"] (defScope s_law_fits) := ⟨rfl, rfl, rfl, by decide +kernel, rfl, by decide +kernel, by decide +kernel⟩
abbrev n_law : List Str := ["_law_script", "_law_tape_here", "_law_plan_here", "_law_kind", "_law_source", "_law_graph_here", "_law_forms", "_law_ways", "_law_links", "_law_lengths", "_law_due", "_law_k"]
theorem sc_law : FnScope n_law ["_law_script"] (defScope s_law) := ⟨rfl, rfl, rfl, by decide +kernel, rfl, by decide +kernel, by decide +kernel⟩
def d_is_integer : He.DefD := ⟨("is_integer", none), "is_integer", "is_integer", defArgs s_is_integer, defBody s_is_integer, defScope s_is_integer, [], []⟩
def d_is_within : He.DefD := ⟨("is_within", none), "is_within", "is_within", defArgs s_is_within, defBody s_is_within, defScope s_is_within, [], []⟩
def d_is_pair : He.DefD := ⟨("is_pair", none), "is_pair", "is_pair", defArgs s_is_pair, defBody s_is_pair, defScope s_is_pair, [], []⟩
def d_is_triple : He.DefD := ⟨("is_triple", none), "is_triple", "is_triple", defArgs s_is_triple, defBody s_is_triple, defScope s_is_triple, [], []⟩
def d_is_word : He.DefD := ⟨("is_word", none), "is_word", "is_word", defArgs s_is_word, defBody s_is_word, defScope s_is_word, [], []⟩
def d_is_door : He.DefD := ⟨("is_door", none), "is_door", "is_door", defArgs s_is_door, defBody s_is_door, defScope s_is_door, [], []⟩
def d_is_part : He.DefD := ⟨("is_part", none), "is_part", "is_part", defArgs s_is_part, defBody s_is_part, defScope s_is_part, [], []⟩
def d_is_plan_in : He.DefD := ⟨("is_plan_in", none), "is_plan_in", "is_plan_in", defArgs s_is_plan_in, defBody s_is_plan_in, defScope s_is_plan_in, [], []⟩
def d_check_plan : He.DefD := ⟨("check_plan", none), "check_plan", "check_plan", defArgs s_check_plan, defBody s_check_plan, defScope s_check_plan, [], []⟩
def d_part_key : He.DefD := ⟨("part_key", none), "part_key", "part_key", defArgs s_part_key, defBody s_part_key, defScope s_part_key, [], []⟩
def d_plan_key : He.DefD := ⟨("plan_key", none), "plan_key", "plan_key", defArgs s_plan_key, defBody s_plan_key, defScope s_plan_key, [], []⟩
def d_sorted_items : He.DefD := ⟨("sorted_items", none), "sorted_items", "sorted_items", defArgs s_sorted_items, defBody s_sorted_items, defScope s_sorted_items, [], []⟩
def d_part_size : He.DefD := ⟨("part_size", none), "part_size", "part_size", defArgs s_part_size, defBody s_part_size, defScope s_part_size, [], []⟩
def d_size_of : He.DefD := ⟨("size_of", none), "size_of", "size_of", defArgs s_size_of, defBody s_size_of, defScope s_size_of, [], []⟩
def d_parts_within : He.DefD := ⟨("parts_within", none), "parts_within", "parts_within", defArgs s_parts_within, defBody s_parts_within, defScope s_parts_within, [], []⟩
def d_items_in : He.DefD := ⟨("items_in", none), "items_in", "items_in", defArgs s_items_in, defBody s_items_in, defScope s_items_in, [], []⟩
def d_nesting : He.DefD := ⟨("nesting", none), "nesting", "nesting", defArgs s_nesting, defBody s_nesting, defScope s_nesting, [], []⟩
def d_check_room : He.DefD := ⟨("check_room", none), "check_room", "check_room", defArgs s_check_room, defBody s_check_room, defScope s_check_room, [], []⟩
def d_roomy : He.DefD := ⟨("roomy", none), "roomy", "roomy", defArgs s_roomy, defBody s_roomy, defScope s_roomy, [], []⟩
def d_gots_at : He.DefD := ⟨("gots_at", none), "gots_at", "gots_at", defArgs s_gots_at, defBody s_gots_at, defScope s_gots_at, [], []⟩
def d_mapped : He.DefD := ⟨("mapped", none), "mapped", "mapped", defArgs s_mapped, defBody s_mapped, defScope s_mapped, [], []⟩
def d_raised : He.DefD := ⟨("raised", none), "raised", "raised", defArgs s_raised, defBody s_raised, defScope s_raised, [], []⟩
def d_brought : He.DefD := ⟨("brought", none), "brought", "brought", defArgs s_brought, defBody s_brought, defScope s_brought, [], []⟩
def d_roomy_brought : He.DefD := ⟨("roomy_brought", none), "roomy_brought", "roomy_brought", defArgs s_roomy_brought, defBody s_roomy_brought, defScope s_roomy_brought, [], []⟩
def d_folded : He.DefD := ⟨("folded", none), "folded", "folded", defArgs s_folded, defBody s_folded, defScope s_folded, [], []⟩
def d_plain_of : He.DefD := ⟨("plain_of", none), "plain_of", "plain_of", defArgs s_plain_of, defBody s_plain_of, defScope s_plain_of, [], []⟩
def d_meetings_of : He.DefD := ⟨("meetings_of", none), "meetings_of", "meetings_of", defArgs s_meetings_of, defBody s_meetings_of, defScope s_meetings_of, [], []⟩
def d_without : He.DefD := ⟨("without", none), "without", "without", defArgs s_without, defBody s_without, defScope s_without, [], []⟩
def d_met_of : He.DefD := ⟨("met_of", none), "met_of", "met_of", defArgs s_met_of, defBody s_met_of, defScope s_met_of, [], []⟩
def d_is_meeting_of : He.DefD := ⟨("is_meeting_of", none), "is_meeting_of", "is_meeting_of", defArgs s_is_meeting_of, defBody s_is_meeting_of, defScope s_is_meeting_of, [], []⟩
def d_meetings : He.DefD := ⟨("meetings", none), "meetings", "meetings", defArgs s_meetings, defBody s_meetings, defScope s_meetings, [], []⟩
def d_met : He.DefD := ⟨("met", none), "met", "met", defArgs s_met, defBody s_met, defScope s_met, [], []⟩
def d_Graph_init : He.DefD := ⟨("Graph", some "__init__"), "__init__", "Graph.__init__", defArgs s_Graph_init, defBody s_Graph_init, defScope s_Graph_init, [], []⟩
def d_Graph_number_of : He.DefD := ⟨("Graph", some "number_of"), "number_of", "Graph.number_of", defArgs s_Graph_number_of, defBody s_Graph_number_of, defScope s_Graph_number_of, [], []⟩
def d_Graph_reach : He.DefD := ⟨("Graph", some "reach"), "reach", "Graph.reach", defArgs s_Graph_reach, defBody s_Graph_reach, defScope s_Graph_reach, [], []⟩
def d_Graph_grow : He.DefD := ⟨("Graph", some "grow"), "grow", "Graph.grow", defArgs s_Graph_grow, defBody s_Graph_grow, defScope s_Graph_grow, [], []⟩
def d_graph_of : He.DefD := ⟨("graph_of", none), "graph_of", "graph_of", defArgs s_graph_of, defBody s_graph_of, defScope s_graph_of, [], []⟩
def d_in_order : He.DefD := ⟨("in_order", none), "in_order", "in_order", defArgs s_in_order, defBody s_in_order, defScope s_in_order, [], []⟩
def d_longest : He.DefD := ⟨("longest", none), "longest", "longest", defArgs s_longest, defBody s_longest, defScope s_longest, [], []⟩
def d_shortest : He.DefD := ⟨("shortest", none), "shortest", "shortest", defArgs s_shortest, defBody s_shortest, defScope s_shortest, [], []⟩
def d_law_tape : He.DefD := ⟨("_law_tape", none), "_law_tape", "_law_tape", defArgs s_law_tape, defBody s_law_tape, defScope s_law_tape, [], []⟩
def d_law_pick : He.DefD := ⟨("_law_pick", none), "_law_pick", "_law_pick", defArgs s_law_pick, defBody s_law_pick, defScope s_law_pick, [], []⟩
def d_law_plan : He.DefD := ⟨("_law_plan", none), "_law_plan", "_law_plan", defArgs s_law_plan, defBody s_law_plan, defScope s_law_plan, [], []⟩
def d_law_part : He.DefD := ⟨("_law_part", none), "_law_part", "_law_part", defArgs s_law_part, defBody s_law_part, defScope s_law_part, [], []⟩
def d_law_part_size : He.DefD := ⟨("_law_part_size", none), "_law_part_size", "_law_part_size", defArgs s_law_part_size, defBody s_law_part_size, defScope s_law_part_size, [], []⟩
def d_law_size : He.DefD := ⟨("_law_size", none), "_law_size", "_law_size", defArgs s_law_size, defBody s_law_size, defScope s_law_size, [], []⟩
def d_law_raise : He.DefD := ⟨("_law_raise", none), "_law_raise", "_law_raise", defArgs s_law_raise, defBody s_law_raise, defScope s_law_raise, [], []⟩
def d_law_key : He.DefD := ⟨("_law_key", none), "_law_key", "_law_key", defArgs s_law_key, defBody s_law_key, defScope s_law_key, [], []⟩
def d_law_joined : He.DefD := ⟨("_law_joined", none), "_law_joined", "_law_joined", defArgs s_law_joined, defBody s_law_joined, defScope s_law_joined, [], []⟩
def d_law_form : He.DefD := ⟨("_law_form", none), "_law_form", "_law_form", defArgs s_law_form, defBody s_law_form, defScope s_law_form, [], []⟩
def d_law_pairs : He.DefD := ⟨("_law_pairs", none), "_law_pairs", "_law_pairs", defArgs s_law_pairs, defBody s_law_pairs, defScope s_law_pairs, [], []⟩
def d_law_without : He.DefD := ⟨("_law_without", none), "_law_without", "_law_without", defArgs s_law_without, defBody s_law_without, defScope s_law_without, [], []⟩
def d_law_raw : He.DefD := ⟨("_law_raw", none), "_law_raw", "_law_raw", defArgs s_law_raw, defBody s_law_raw, defScope s_law_raw, [], []⟩
def d_law_brought : He.DefD := ⟨("_law_brought", none), "_law_brought", "_law_brought", defArgs s_law_brought, defBody s_law_brought, defScope s_law_brought, [], []⟩
def d_law_items_in : He.DefD := ⟨("_law_items_in", none), "_law_items_in", "_law_items_in", defArgs s_law_items_in, defBody s_law_items_in, defScope s_law_items_in, [], []⟩
def d_law_stage : He.DefD := ⟨("_law_stage", none), "_law_stage", "_law_stage", defArgs s_law_stage, defBody s_law_stage, defScope s_law_stage, [], []⟩
def d_law_graph : He.DefD := ⟨("_law_graph", none), "_law_graph", "_law_graph", defArgs s_law_graph, defBody s_law_graph, defScope s_law_graph, [], []⟩
def d_law_longest : He.DefD := ⟨("_law_longest", none), "_law_longest", "_law_longest", defArgs s_law_longest, defBody s_law_longest, defScope s_law_longest, [], []⟩
def d_law_is_count : He.DefD := ⟨("_law_is_count", none), "_law_is_count", "_law_is_count", defArgs s_law_is_count, defBody s_law_is_count, defScope s_law_is_count, [], []⟩
def d_law_fits : He.DefD := ⟨("_law_fits", none), "_law_fits", "_law_fits", defArgs s_law_fits, defBody s_law_fits, defScope s_law_fits, [], []⟩
def d_law : He.DefD := ⟨("law", none), "law", "law", defArgs s_law, defBody s_law, defScope s_law, [], []⟩
def fn : List He.DefD := [d_is_integer, d_is_within, d_is_pair, d_is_triple, d_is_word, d_is_door, d_is_part, d_is_plan_in, d_check_plan, d_part_key, d_plan_key, d_sorted_items, d_part_size, d_size_of, d_parts_within, d_items_in, d_nesting, d_check_room, d_roomy, d_gots_at, d_mapped, d_raised, d_brought, d_roomy_brought, d_folded, d_plain_of, d_meetings_of, d_without, d_met_of, d_is_meeting_of, d_meetings, d_met, d_Graph_init, d_Graph_number_of, d_Graph_reach, d_Graph_grow, d_graph_of, d_in_order, d_longest, d_shortest, d_law_tape, d_law_pick, d_law_plan, d_law_part, d_law_part_size, d_law_size, d_law_raise, d_law_key, d_law_joined, d_law_form, d_law_pairs, d_law_without, d_law_raw, d_law_brought, d_law_items_in, d_law_stage, d_law_graph, d_law_longest, d_law_is_count, d_law_fits, d_law]
def fa : List He.Fa := [.glo "is_integer", .glo "is_within", .glo "is_pair", .glo "is_triple", .glo "is_word", .glo "is_door", .glo "is_part", .glo "is_plan_in", .glo "check_plan", .glo "part_key", .glo "plan_key", .glo "sorted_items", .glo "part_size", .glo "size_of", .glo "parts_within", .glo "items_in", .glo "nesting", .glo "check_room", .glo "roomy", .glo "gots_at", .glo "mapped", .glo "raised", .glo "brought", .glo "roomy_brought", .glo "folded", .glo "plain_of", .glo "meetings_of", .glo "without", .glo "met_of", .glo "is_meeting_of", .glo "meetings", .glo "met", .glo "graph_of", .glo "in_order", .glo "longest", .glo "shortest", .glo "_law_tape", .glo "_law_pick", .glo "_law_plan", .glo "_law_part", .glo "_law_part_size", .glo "_law_size", .glo "_law_raise", .glo "_law_key", .glo "_law_joined", .glo "_law_form", .glo "_law_pairs", .glo "_law_without", .glo "_law_raw", .glo "_law_brought", .glo "_law_items_in", .glo "_law_stage", .glo "_law_graph", .glo "_law_longest", .glo "_law_is_count", .glo "_law_fits", .glo "law", .glo "Graph", .glo "RANKS", .free "isinstance", .free "int", .free "bool", .free "tuple", .free "len", .free "str", .free "all", .free "sum", .free "list", .free "sorted", .free "max", .free "min", .free "range", .free "enumerate", .free "zip", .int "MOST_WORD" 8, .int "MOST_ITEMS" 5000, .int "MOST_NESTED" 120, .int "MOST_STANDINGS" 500, .str "SMALL" "abcdefghijklmnopqrstuvwxyz", .cls "Graph", .noat "Graph" "forms", .noat "Graph" "by_size", .noat "Graph" "links", .noat "Graph" "gates", .noat "Graph" "earliest", .meth "Graph" "number_of", .meth "Graph" "reach", .meth "Graph" "grow", .mkr "Graph"]
def ts : List He.Tab := [((fun K => He.ga K "RANKS"), ["name", "mark", "got", "letter", "wait"])]
def tf : List He.Defn := [("sorted_items", none), ("raised", none), ("brought", none), ("_law_joined", none)]
def ex (K : PySem.W.Frag) : Bool := He.valsB K (He.ga K "RANKS") [("name", .int 0), ("mark", .int 1), ("got", .int 2), ("letter", .int 3), ("wait", .int 4)] && decide ((tf.map fun p => (He.cT K p).2).Nodup)
end G
set_option Elab.async false
set_option linter.all false
set_option maxRecDepth 100000
set_option maxHeartbeats 1000000
/-! own layer: data in slots over a stable heap -/
namespace G
open PySem PySem.Spec PyProof.Rows L2 LamX

abbrev D := PyData
def NT (o : HO) : Prop := ∀ ps, o ≠ .tbl ps
def Fr (H : Hp) (a : Addr) : Prop := ∀ o, H a = some o → ¬ NT o
theorem nt_lst {xs : List V} : NT (.lst xs) := fun _ z => by cases z
theorem nt_tup {xs : List V} : NT (.tup xs) := fun _ z => by cases z

/-! ### data in a heap -/
mutual
inductive At (H : Hp) : V → D → Prop
  | non : At H .non .none
  | bl (b : Bool) : At H (.bl b) (.bool b)
  | int (i : Int) : At H (.int i) (.int i)
  | str (x : Str) (ok : PyData.strOk x = true) : At H (.str x) (.str x)
  | lst {a : Addr} {xs : List V} {ds : List D} : H a = some (.lst xs) → AtAll H xs ds → At H (.ref a) (.list ds)
  | tup {a : Addr} {xs : List V} {ds : List D} : H a = some (.tup xs) → AtAll H xs ds → At H (.ref a) (.tuple ds)
inductive AtAll (H : Hp) : List V → List D → Prop
  | nil : AtAll H [] []
  | cons {v : V} {vs : List V} {d : D} {ds : List D} : At H v d → AtAll H vs ds → AtAll H (v :: vs) (d :: ds)
end
section
variable {H H' : Hp}
mutual
theorem At.mono (e : ExtN H H') : ∀ (d : D) {v : V}, At H v d → At H' v d
  | .none, _, h => by cases h; exact .non
  | .bool _, _, h => by cases h; exact .bl _
  | .int _, _, h => by cases h; exact .int _
  | .str _, _, h => by cases h with | str _ ok => exact .str _ ok
  | .list ds, _, h => by
    cases h with
    | lst h1 h2 => exact .lst (e _ _ h1 nt_lst) (AtAll.mono e ds h2)
  | .tuple ds, _, h => by
    cases h with
    | tup h1 h2 => exact .tup (e _ _ h1 nt_tup) (AtAll.mono e ds h2)
  | .dict _, _, h => by cases h
theorem AtAll.mono (e : ExtN H H') : ∀ (ds : List D) {vs : List V}, AtAll H vs ds → AtAll H' vs ds
  | [], _, h => by cases h; exact .nil
  | d :: ds, _, h => by
    cases h with
    | cons h1 h2 => exact .cons (At.mono e d h1) (AtAll.mono e ds h2)
end
theorem At.up {d : D} {v : V} (h : At H v d) (e : ExtN H H') : At H' v d := At.mono e d h
theorem AtAll.up {ds : List D} {vs : List V} (h : AtAll H vs ds) (e : ExtN H H') : AtAll H' vs ds := AtAll.mono e ds h
mutual
theorem At.dp {K : PySem.W.Frag} : ∀ (d : D) {v : V}, At H v d → Dp K H v d
  | .none, _, h => by cases h; exact .non
  | .bool _, _, h => by cases h; exact .bl _
  | .int _, _, h => by cases h; exact .int _
  | .str _, _, h => by cases h; exact .str _
  | .list ds, _, h => by
    cases h with
    | lst h1 h2 => exact .lst (SqL.of h1) (AtAll.dp ds h2)
  | .tuple ds, _, h => by
    cases h with
    | tup h1 h2 => exact .tup (SqT.of h1) (AtAll.dp ds h2)
  | .dict _, _, h => by cases h
theorem AtAll.dp {K : PySem.W.Frag} : ∀ (ds : List D) {vs : List V}, AtAll H vs ds → DpAll K H vs ds
  | [], _, h => by cases h; exact .nil
  | d :: ds, _, h => by
    cases h with
    | cons h1 h2 => exact .cons (At.dp d h1) (AtAll.dp ds h2)
end
theorem AtAll.len : ∀ {ds : List D} {vs : List V}, AtAll H vs ds → vs.length = ds.length
  | [], _, h => by cases h; rfl
  | _ :: _, _, h => by
    cases h with
    | cons _ h2 => rw [List.length_cons, List.length_cons, AtAll.len h2]
theorem AtAll.get : ∀ {ds : List D} {vs : List V} {i : Nat} {d : D}, AtAll H vs ds → ds[i]? = some d → ∃ v, vs[i]? = some v ∧ At H v d
  | [], _, _, _, _, e => by simp at e
  | _ :: _, _, 0, _, h, e => by
    cases h with
    | cons h1 h2 => simp at e; subst e; exact ⟨_, rfl, h1⟩
  | _ :: _, _, i + 1, d, h, e => by
    cases h with
    | cons h1 h2 =>
      obtain ⟨v, q, r⟩ := AtAll.get (i := i) h2 (by simpa using e)
      exact ⟨v, by simpa using q, r⟩
theorem AtAll.back {ds : List D} {vs : List V} {i : Nat} {v : V} (h : AtAll H vs ds) (e : vs[i]? = some v) : ∃ d, ds[i]? = some d ∧ At H v d := by
  have hl := h.len
  have hi : i < ds.length := by
    have := (List.getElem?_eq_some_iff.mp e).1
    omega
  obtain ⟨v', q, r⟩ := h.get (List.getElem?_eq_getElem hi)
  rw [e] at q
  cases q
  exact ⟨_, List.getElem?_eq_getElem hi, r⟩
theorem AtAll.app : ∀ {ds es : List D} {vs us : List V}, AtAll H vs ds → AtAll H us es → AtAll H (vs ++ us) (ds ++ es)
  | [], _, _, _, h, k => by cases h; exact k
  | _ :: _, _, _, _, h, k => by
    cases h with
    | cons h1 h2 => exact .cons h1 (h2.app k)
theorem AtAll.set : ∀ {ds : List D} {vs : List V} (i : Nat) {v : V} {d : D}, AtAll H vs ds → At H v d → AtAll H (vs.set i v) (ds.set i d)
  | [], _, _, _, _, h, _ => by cases h; exact .nil
  | _ :: _, _, 0, _, _, h, k => by
    cases h with
    | cons _ h2 => exact .cons k h2
  | _ :: _, _, i + 1, _, _, h, k => by
    cases h with
    | cons h1 h2 => exact .cons h1 (h2.set i k)
theorem AtAll.drop : ∀ {ds : List D} {vs : List V} (n : Nat), AtAll H vs ds → AtAll H (vs.drop n) (ds.drop n)
  | _, _, 0, h => h
  | [], _, _ + 1, h => by cases h; exact .nil
  | _ :: _, _, n + 1, h => by
    cases h with
    | cons _ h2 => exact h2.drop n
theorem AtAll.take : ∀ {ds : List D} {vs : List V} (n : Nat), AtAll H vs ds → AtAll H (vs.take n) (ds.take n)
  | _, _, 0, _ => .nil
  | [], _, _ + 1, h => by cases h; exact .nil
  | _ :: _, _, n + 1, h => by
    cases h with
    | cons h1 h2 => exact .cons h1 (h2.take n)
theorem AtAll.one {v : V} {d : D} (h : At H v d) : AtAll H [v] [d] := .cons h .nil
theorem AtAll.ints : ∀ {ns : List Int} {vs : List V}, AtAll H vs (ns.map .int) → vs = ns.map V.int
  | [], _, h => by cases h; rfl
  | n :: ns, _, h => by
    have h' : AtAll H _ (.int n :: ns.map .int) := h
    cases h' with
    | cons h1 h2 =>
      cases h1
      rw [AtAll.ints h2] <;> rfl
theorem AtAll.of_ints : ∀ (ns : List Int), AtAll H (ns.map V.int) (ns.map .int)
  | [] => .nil
  | n :: ns => .cons (.int n) (AtAll.of_ints ns)
theorem AtAll.bls : ∀ {ns : List Bool} {vs : List V}, AtAll H vs (ns.map .bool) → vs = ns.map V.bl
  | [], _, h => by cases h; rfl
  | n :: ns, _, h => by
    have h' : AtAll H _ (.bool n :: ns.map .bool) := h
    cases h' with
    | cons h1 h2 =>
      cases h1
      rw [AtAll.bls h2] <;> rfl
end

/-! ### the tape -/
def TapeAt (Hs H : Hp) (a : Addr) : Prop := ∃ (l : Addr) (ns : List Int) (i x y z : Int), H a = some (.lst [.ref l, .int i, .int x, .int y, .int z]) ∧ Hs l = some (.lst (ns.map V.int)) ∧ 0 ≤ i

/-! ### a transition: Hs the stable part of H -/
structure Stp (T : List (Addr × Str)) (ta : Option Addr) (Hs H Hs' H' : Hp) : Prop where
  s : ExtN Hs Hs'
  e : ∀ b o, H b = some o → NT o → some b ≠ ta → H' b = some o
  k : ∀ b o, H b = some o → NT o → ∃ o', H' b = some o' ∧ NT o'
  x : ExtN Hs' H'
  t : Tabs T H'
  n : ∀ b o, H b = some o → NT o → Fr Hs b → Fr Hs' b
  p : ∀ a, ta = some a → TapeAt Hs H a → TapeAt Hs' H' a
section
variable {T : List (Addr × Str)} {ta : Option Addr} {Hs H Hs1 H1 Hs2 H2 : Hp}
theorem Stp.refl (x : ExtN Hs H) (t : Tabs T H) : Stp T ta Hs H Hs H := ⟨ExtN.refl _, fun _ _ h _ _ => h, fun _ o h q => ⟨o, h, q⟩, x, t, fun _ _ _ _ h => h, fun _ _ h => h⟩
theorem Stp.trans (a : Stp T ta Hs H Hs1 H1) (b : Stp T ta Hs1 H1 Hs2 H2) : Stp T ta Hs H Hs2 H2 where
  s := a.s.trans b.s
  e := fun c o h q z => b.e c o (a.e c o h q z) q z
  k := fun c o h q => let ⟨o1, h1, q1⟩ := a.k c o h q; b.k c o1 h1 q1
  x := b.x
  t := b.t
  n := fun c o h q z => let ⟨o1, h1, q1⟩ := a.k c o h q; b.n c o1 h1 q1 (a.n c o h q z)
  p := fun c e h => b.p c e (a.p c e h)
/-- a call that leaves the tape alone -/
theorem Stp.weak (a : Stp T none Hs H Hs1 H1) : Stp T ta Hs H Hs1 H1 := ⟨a.s, fun c o h q _ => a.e c o h q (by simp), a.k, a.x, a.t, a.n, fun c _ ⟨l, ns, i, x, y, z, h1, h2, h3⟩ => ⟨l, ns, i, x, y, z, a.e _ _ h1 nt_lst (by simp), a.s _ _ h2 nt_lst, h3⟩⟩
theorem ext_ne {p : Addr} {b : Addr} {o : HO} (x : ExtN Hs H) (hp : H p = none) (h : Hs b = some o) (q : NT o) : b ≠ p := ne_of_none (x b o h q) hp
theorem ext_upd {p : Addr} {o : HO} (hp : H p = none) : ExtN H (upd H p o) := fun b u h _ => by
  rw [upd_ne (ne_of_none h hp)]
  exact h
theorem ext_both {p : Addr} {o : HO} (x : ExtN Hs H) (hp : H p = none) : ExtN (upd Hs p o) (upd H p o) := fun b u h q => by
  by_cases z : b = p
  · rw [z, upd_same] at h ⊢
    exact h
  · rw [upd_ne z] at h ⊢
    exact x b u h q
theorem ext_s {p : Addr} {o : HO} (x : ExtN Hs H) (hp : H p = none) : ExtN Hs (upd Hs p o) := fun b u h q => by
  rw [upd_ne (ext_ne x hp h q)]
  exact h
theorem tabs_new {p : Addr} {o : HO} (t : Tabs T H) (hp : H p = none) : Tabs T (upd H p o) := t.ext fun b u h => by
  rw [upd_ne (ne_of_none h hp)]
  exact h
/-- a list is changed -/
theorem tabs_mut {p : Addr} {o : HO} {xs : List V} (t : Tabs T H) (hp : H p = some (.lst xs)) : Tabs T (upd H p o) := fun q hq => by
  obtain ⟨ps, h1, h2, h3⟩ := t q hq
  refine ⟨ps, ?_, h2, fun pos cv hc => ?_⟩
  · rw [upd_ne (ne_of h1 hp (by intro z; cases z))]
    exact h1
  · obtain ⟨c, e1, e2⟩ := h3 pos cv hc
    refine ⟨c, e1, ?_⟩
    rw [upd_ne (ne_of e2 hp (by unfold CodeO; intro z; cases z))]
    exact e2
/-- a new object that is stable -/
theorem Stp.new {p : Addr} {o : HO} (x : ExtN Hs H) (t : Tabs T H) (hp : H p = none) : Stp T ta Hs H (upd Hs p o) (upd H p o) where
  s := ext_s x hp
  e := fun b u h _ _ => by
    rw [upd_ne (ne_of_none h hp)]
    exact h
  k := fun b u h q => ⟨u, by
    rw [upd_ne (ne_of_none h hp)]
    exact h, q⟩
  x := ext_both x hp
  t := tabs_new t hp
  n := fun b u h _ z o e => by
    rw [upd_ne (ne_of_none h hp)] at e
    exact z o e
  p := fun a _ ⟨l, ns, i, x1, y1, z1, h1, h2, h3⟩ => ⟨l, ns, i, x1, y1, z1, by
    rw [upd_ne (ne_of_none h1 hp)]
    exact h1, ext_s x hp _ _ h2 nt_lst, h3⟩
/-- a new object that is not -/
theorem Stp.own {p : Addr} {o : HO} (x : ExtN Hs H) (t : Tabs T H) (hp : H p = none) : Stp T ta Hs H Hs (upd H p o) where
  s := ExtN.refl _
  e := fun b u h _ _ => by
    rw [upd_ne (ne_of_none h hp)]
    exact h
  k := fun b u h q => ⟨u, by
    rw [upd_ne (ne_of_none h hp)]
    exact h, q⟩
  x := fun b u h q => by
    rw [upd_ne (ext_ne x hp h q)]
    exact x b u h q
  t := tabs_new t hp
  n := fun b u _ _ z => z
  p := fun a _ ⟨l, ns, i, x1, y1, z1, h1, h2, h3⟩ => ⟨l, ns, i, x1, y1, z1, by
    rw [upd_ne (ne_of_none h1 hp)]
    exact h1, h2, h3⟩
theorem fr_none {p : Addr} (h : H p = none) : Fr H p := fun o e _ => by
  rw [h] at e
  cases e
theorem fr_ne {p b : Addr} {o : HO} (f : Fr H p) (h : H b = some o) (q : NT o) : b ≠ p := fun z => f o (by rw [← z]; exact h) q
theorem stable_free {p : Addr} (x : ExtN Hs H) (hp : H p = none) : Fr Hs p := fun o e q => by
  have := x p o e q
  rw [hp] at this
  cases this
theorem fr_upd {p b : Addr} {o : HO} (f : Fr H b) (h : b ≠ p) : Fr (upd H p o) b := fun u e => by
  rw [upd_ne h] at e
  exact f u e
theorem ext_updF {p : Addr} {o : HO} (hp : Fr H p) : ExtN H (upd H p o) := fun b u h q => by
  rw [upd_ne (fr_ne hp h q)]
  exact h
/-- fresh behind a step: fresh ahead of it -/
theorem Stp.back {p : Addr} (a : Stp T ta Hs H Hs1 H1) (h : H1 p = none) : Fr H p := fun o e q => by
  obtain ⟨o1, h1, _⟩ := a.k p o e q
  rw [h] at h1
  cases h1
end

/-! ### slots -/
/-- what stands by itself is kept -/
def ExtE (H H' : Hp) : Prop := ∀ (b : Addr) (φ : Heap → Prop), H b = some (.ext φ) → H' b = some (.ext φ)
theorem ExtE.refl (H : Hp) : ExtE H H := fun _ _ h => h
theorem ExtE.trans {H H1 H2 : Hp} (a : ExtE H H1) (b : ExtE H1 H2) : ExtE H H2 := fun c φ h => b c φ (a c φ h)
inductive Sl where
  | any
  | d (x : D)
  | l (xs : List D)
  | tape
  | v (x : V)
  | f (φ : Hp → Hp → Addr → Prop)
def Sl.ok (ta : Option Addr) (Hs H : Hp) : Sl → Option V → Prop
  | .any, _ => True
  | .d x, o => ∃ v, o = some v ∧ At Hs v x
  | .l xs, o => ∃ a vs, o = some (.ref a) ∧ Fr Hs a ∧ some a ≠ ta ∧ H a = some (.lst vs) ∧ AtAll Hs vs xs
  | .tape, o => ∃ a, o = some (.ref a) ∧ ta = some a
  | .v x, o => o = some x
  | .f φ, o => ∃ a, o = some (.ref a) ∧ ∀ Hs' H', ExtN Hs Hs' → ExtE H H' → φ Hs' H' a
structure Ok (T : List (Addr × Str)) (ta : Option Addr) (δ : List Sl) (Hs H : Hp) (σ : L2.St) : Prop where
  ext : ExtN Hs H
  tab : Tabs T H
  tp : ∀ a, ta = some a → Fr Hs a ∧ TapeAt Hs H a
  len : σ.length = δ.length
  at_ : ∀ (i : Nat) (s : Sl), δ[i]? = some s → ∃ o, σ[i]? = some o ∧ s.ok ta Hs H o
  apart : ∀ (i j : Nat) (a : Addr) (xs ys : List D), δ[i]? = some (.l xs) → δ[j]? = some (.l ys) → σ[i]? = some (some (.ref a)) → σ[j]? = some (some (.ref a)) → i = j
section
variable {T : List (Addr × Str)} {ta : Option Addr} {δ : List Sl} {Hs H Hs1 H1 : Hp} {σ : L2.St}
theorem Ok.ee (o : Ok T ta δ Hs H σ) (s : Stp T ta Hs H Hs1 H1) : ExtE H H1 := fun b φ h => s.e b _ h (fun _ z => by cases z) fun z => by
  obtain ⟨_, l, ns, i, x, y, w, q, _⟩ := o.tp b z.symm
  rw [h] at q
  cases q
theorem Ok.refl (o : Ok T ta δ Hs H σ) : Stp T ta Hs H Hs H := Stp.refl o.ext o.tab
theorem Ok.step (o : Ok T ta δ Hs H σ) (s : Stp T ta Hs H Hs1 H1) : Ok T ta δ Hs1 H1 σ where
  ext := s.x
  tab := s.t
  tp := fun a e => by
    obtain ⟨h1, h2⟩ := o.tp a e
    refine ⟨?_, s.p a e h2⟩
    obtain ⟨l, ns, i, x, y, z, q, _⟩ := h2
    exact s.n _ _ q nt_lst h1
  len := o.len
  at_ := fun i sl e => by
    obtain ⟨v, h1, h2⟩ := o.at_ i sl e
    refine ⟨v, h1, ?_⟩
    cases sl with
    | any => trivial
    | d x =>
      obtain ⟨w, e1, e2⟩ := h2
      exact ⟨w, e1, e2.up s.s⟩
    | l xs =>
      obtain ⟨a, vs, e1, e2, e3, e4, e5⟩ := h2
      exact ⟨a, vs, e1, s.n _ _ e4 nt_lst e2, e3, s.e _ _ e4 nt_lst e3, e5.up s.s⟩
    | tape => exact h2
    | v x => exact h2
    | f φ =>
      obtain ⟨a, e1, e2⟩ := h2
      exact ⟨a, e1, fun Hs2 H2 x1 x2 => e2 Hs2 H2 (s.s.trans x1) ((o.ee s).trans x2)⟩
  apart := o.apart
theorem Ok.get (o : Ok T ta δ Hs H σ) {i : Nat} {x : D} (e : δ[i]? = some (.d x)) : ∃ v, σ[i]? = some (some v) ∧ At Hs v x := by
  obtain ⟨w, h1, v, rfl, h3⟩ := o.at_ i _ e
  exact ⟨v, h1, h3⟩
/-- a slot takes a datum -/
theorem Ok.set (o : Ok T ta δ Hs H σ) (i : Nat) {v : V} {x : D} (h : At Hs v x) : Ok T ta (δ.set i (.d x)) Hs H (σ.set i (some v)) where
  ext := o.ext
  tab := o.tab
  tp := o.tp
  len := by rw [List.length_set, List.length_set, o.len]
  at_ := fun j sl e => by
    by_cases z : i = j
    · subst z
      have hi : i < δ.length := by
        have := (List.getElem?_eq_some_iff.mp e).1
        rwa [List.length_set] at this
      rw [List.getElem?_set_self hi] at e
      cases e
      refine ⟨some v, List.getElem?_set_self (by rw [o.len]; exact hi), v, rfl, h⟩
    · rw [List.getElem?_set_ne z] at e ⊢
      exact o.at_ j sl e
  apart := fun j k a xs ys e1 e2 q1 q2 => by
    have n1 : i ≠ j := fun z => by
      subst z
      have hi : i < δ.length := by
        have := (List.getElem?_eq_some_iff.mp e1).1
        rwa [List.length_set] at this
      rw [List.getElem?_set_self hi] at e1
      cases e1
    have n2 : i ≠ k := fun z => by
      subst z
      have hi : i < δ.length := by
        have := (List.getElem?_eq_some_iff.mp e2).1
        rwa [List.length_set] at this
      rw [List.getElem?_set_self hi] at e2
      cases e2
    rw [List.getElem?_set_ne n1] at e1 q1
    rw [List.getElem?_set_ne n2] at e2 q2
    exact o.apart j k a xs ys e1 e2 q1 q2
/-- .. anything -/
theorem Ok.wipe1 (o : Ok T ta δ Hs H σ) (i : Nat) (w : Option V) : Ok T ta (δ.set i .any) Hs H (σ.set i w) where
  ext := o.ext
  tab := o.tab
  tp := o.tp
  len := by rw [List.length_set, List.length_set, o.len]
  at_ := fun j sl e => by
    by_cases z : i = j
    · subst z
      have hi : i < δ.length := by
        have := (List.getElem?_eq_some_iff.mp e).1
        rwa [List.length_set] at this
      rw [List.getElem?_set_self hi] at e
      cases e
      exact ⟨w, List.getElem?_set_self (by rw [o.len]; exact hi), trivial⟩
    · rw [List.getElem?_set_ne z] at e ⊢
      exact o.at_ j sl e
  apart := fun j k a xs ys e1 e2 q1 q2 => by
    have n1 : i ≠ j := fun z => by
      subst z
      have hi : i < δ.length := by
        have := (List.getElem?_eq_some_iff.mp e1).1
        rwa [List.length_set] at this
      rw [List.getElem?_set_self hi] at e1
      cases e1
    have n2 : i ≠ k := fun z => by
      subst z
      have hi : i < δ.length := by
        have := (List.getElem?_eq_some_iff.mp e2).1
        rwa [List.length_set] at this
      rw [List.getElem?_set_self hi] at e2
      cases e2
    rw [List.getElem?_set_ne n1] at e1 q1
    rw [List.getElem?_set_ne n2] at e2 q2
    exact o.apart j k a xs ys e1 e2 q1 q2
/-- a slot takes a list of its own -/
theorem Ok.setL (o : Ok T ta δ Hs H σ) (i : Nat) {a : Addr} {vs : List V} {xs : List D} (h1 : Fr Hs a) (h2 : some a ≠ ta) (h3 : H a = some (.lst vs)) (h4 : AtAll Hs vs xs) (new : ∀ (j : Nat) (ys : List D), δ[j]? = some (.l ys) → σ[j]? ≠ some (some (.ref a))) :
    Ok T ta (δ.set i (.l xs)) Hs H (σ.set i (some (.ref a))) where
  ext := o.ext
  tab := o.tab
  tp := o.tp
  len := by rw [List.length_set, List.length_set, o.len]
  at_ := fun j sl e => by
    by_cases z : i = j
    · subst z
      have hi : i < δ.length := by
        have := (List.getElem?_eq_some_iff.mp e).1
        rwa [List.length_set] at this
      rw [List.getElem?_set_self hi] at e
      cases e
      exact ⟨_, List.getElem?_set_self (by rw [o.len]; exact hi), a, vs, rfl, h1, h2, h3, h4⟩
    · rw [List.getElem?_set_ne z] at e ⊢
      exact o.at_ j sl e
  apart := fun j k b ys zs e1 e2 q1 q2 => by
    by_cases n1 : i = j
    · by_cases n2 : i = k
      · rw [← n1, n2]
      · subst n1
        have hi : i < σ.length := by
          have := (List.getElem?_eq_some_iff.mp q1).1
          rwa [List.length_set] at this
        rw [List.getElem?_set_self hi] at q1
        cases q1
        rw [List.getElem?_set_ne n2] at e2 q2
        exact absurd q2 (new k zs e2)
    · rw [List.getElem?_set_ne n1] at e1 q1
      by_cases n2 : i = k
      · subst n2
        have hi : i < σ.length := by
          have := (List.getElem?_eq_some_iff.mp q2).1
          rwa [List.length_set] at this
        rw [List.getElem?_set_self hi] at q2
        cases q2
        exact absurd q1 (new j ys e1)
      · rw [List.getElem?_set_ne n2] at e2 q2
        exact o.apart j k b ys zs e1 e2 q1 q2
/-- the list of a slot is changed -/
theorem Ok.mutL (o : Ok T ta δ Hs H σ) (i : Nat) {a : Addr} {xs ys : List D} {vs us : List V} (e : δ[i]? = some (.l xs)) (q : σ[i]? = some (some (.ref a))) (h1 : Fr Hs a) (h2 : some a ≠ ta) (h3 : H a = some (.lst vs)) (h4 : AtAll Hs us ys) :
    Ok T ta (δ.set i (.l ys)) Hs (upd H a (.lst us)) σ where
  ext := fun b u h r => by
    rw [upd_ne (fr_ne h1 h r)]
    exact o.ext b u h r
  tab := tabs_mut o.tab h3
  tp := fun b eb => by
    obtain ⟨t1, l, ns, j, x, y, z, t2, t3, t4⟩ := o.tp b eb
    have nb : b ≠ a := fun z => h2 (by rw [← z, eb])
    exact ⟨t1, l, ns, j, x, y, z, by rw [upd_ne nb]; exact t2, t3, t4⟩
  len := by rw [List.length_set, o.len]
  at_ := fun j sl ej => by
    by_cases z : i = j
    · subst z
      have hi : i < δ.length := (List.getElem?_eq_some_iff.mp e).1
      rw [List.getElem?_set_self hi] at ej
      cases ej
      exact ⟨_, q, a, us, rfl, h1, h2, upd_same, h4⟩
    · rw [List.getElem?_set_ne z] at ej
      obtain ⟨v, k1, k2⟩ := o.at_ j sl ej
      refine ⟨v, k1, ?_⟩
      cases sl with
      | any => trivial
      | d x => exact k2
      | l zs =>
        obtain ⟨b, ws, e1, e2, e3, e4, e5⟩ := k2
        have nb : b ≠ a := fun r => by
          subst r
          rw [e1] at k1
          exact z (o.apart i j _ _ _ e ej q k1)
        exact ⟨b, ws, e1, e2, e3, by rw [upd_ne nb]; exact e4, e5⟩
      | tape => exact k2
      | v x => exact k2
      | f φ =>
        obtain ⟨b, e1, e2⟩ := k2
        refine ⟨b, e1, fun Hs2 H2 x1 x2 => e2 Hs2 H2 x1 fun c ψ hc => x2 c ψ ?_⟩
        rw [upd_ne (fun z => by rw [z, h3] at hc; cases hc)]
        exact hc
  apart := fun j k b ys' zs e1 e2 q1 q2 => by
    have hi : i < δ.length := (List.getElem?_eq_some_iff.mp e).1
    have r1 : ∃ ws, δ[j]? = some (.l ws) := by
      by_cases z : i = j
      · subst z; exact ⟨_, e⟩
      · rw [List.getElem?_set_ne z] at e1; exact ⟨_, e1⟩
    have r2 : ∃ ws, δ[k]? = some (.l ws) := by
      by_cases z : i = k
      · subst z; exact ⟨_, e⟩
      · rw [List.getElem?_set_ne z] at e2; exact ⟨_, e2⟩
    obtain ⟨_, r1⟩ := r1
    obtain ⟨_, r2⟩ := r2
    exact o.apart j k b _ _ r1 r2 q1 q2
/-- the list of a slot is a datum from now on -/
theorem Ok.freeze (o : Ok T ta δ Hs H σ) {i : Nat} {xs : List D} (e : δ[i]? = some (.l xs)) : ∃ a vs, σ[i]? = some (some (.ref a)) ∧ H a = some (.lst vs) ∧ Fr Hs a ∧ ExtN Hs (upd Hs a (.lst vs)) ∧ Ok T ta (δ.set i (.d (.list xs))) (upd Hs a (.lst vs)) H σ := by
  obtain ⟨v, q, a, vs, rfl, h1, h2, h3, h4⟩ := o.at_ i _ e
  have hi : i < δ.length := (List.getElem?_eq_some_iff.mp e).1
  have x : ExtN Hs (upd Hs a (.lst vs)) := ext_updF h1
  refine ⟨a, vs, q, h3, h1, x, ⟨fun b u h r => ?_, o.tab, fun b eb => ?_, by rw [List.length_set, o.len], fun j sl ej => ?_, fun j k b ys zs e1 e2 q1 q2 => ?_⟩⟩
  · by_cases z : b = a
    · rw [z, upd_same] at h
      rw [z, h3]
      exact h
    · rw [upd_ne z] at h
      exact o.ext b u h r
  · obtain ⟨t1, l, ns, j, x1, y1, z1, t2, t3, t4⟩ := o.tp b eb
    have nb : b ≠ a := fun z => h2 (by rw [← z, eb])
    exact ⟨fr_upd t1 nb, l, ns, j, x1, y1, z1, t2, x _ _ t3 nt_lst, t4⟩
  · by_cases z : i = j
    · subst z
      rw [List.getElem?_set_self hi] at ej
      cases ej
      exact ⟨_, q, _, rfl, .lst upd_same (h4.up x)⟩
    · rw [List.getElem?_set_ne z] at ej
      obtain ⟨v, k1, k2⟩ := o.at_ j sl ej
      refine ⟨v, k1, ?_⟩
      cases sl with
      | any => trivial
      | d y =>
        obtain ⟨w, e1, e2⟩ := k2
        exact ⟨w, e1, e2.up x⟩
      | l zs =>
        obtain ⟨b, ws, e1, e2, e3, e4, e5⟩ := k2
        have nb : b ≠ a := fun r => by
          subst r
          rw [e1] at k1
          exact z (o.apart i j _ _ _ e ej q k1)
        exact ⟨b, ws, e1, fr_upd e2 nb, e3, e4, e5.up x⟩
      | tape => exact k2
      | v y => exact k2
      | f φ =>
        obtain ⟨b, e1, e2⟩ := k2
        exact ⟨b, e1, fun Hs2 H2 x1 x2 => e2 Hs2 H2 (x.trans x1) x2⟩
  · have n1 : i ≠ j := fun z => by
      subst z
      rw [List.getElem?_set_self hi] at e1
      cases e1
    have n2 : i ≠ k := fun z => by
      subst z
      rw [List.getElem?_set_self hi] at e2
      cases e2
    rw [List.getElem?_set_ne n1] at e1
    rw [List.getElem?_set_ne n2] at e2
    exact o.apart j k b ys zs e1 e2 q1 q2
end
end G
set_option Elab.async false
set_option linter.all false
set_option maxRecDepth 100000
set_option maxHeartbeats 1000000
/-! own layer: expressions -/
namespace G
open PySem PySem.Spec L2 LamX

section
variable (T : List (Addr × Str)) (ta : Option Addr)
def Ev (te : TE) (δ : List Sl) (Φ : D → Prop) : Prop := ∀ (Hs H : Hp) (σ : L2.St) (Q : VK), Ok T ta δ Hs H σ → (∀ d v Hs' H', Φ d → Stp T ta Hs H Hs' H' → At Hs' v d → Q v H') → te σ H Q
def EvT (tt : TT) (δ : List Sl) (Φ : Bool → Prop) : Prop := ∀ (Hs H : Hp) (σ : L2.St) (Q : Bool → Hp → Prop), Ok T ta δ Hs H σ → (∀ b Hs' H', Φ b → Stp T ta Hs H Hs' H' → Q b H') → tt σ H Q
def EvA (t : TA) (δ : List Sl) (Φ : List D → Prop) : Prop := ∀ (Hs H : Hp) (σ : L2.St) (Q : List V → Hp → Prop), Ok T ta δ Hs H σ → (∀ ds vs Hs' H', Φ ds → Stp T ta Hs H Hs' H' → AtAll Hs' vs ds → Q vs H') → t σ H Q
/-- a list that may be read now -/
def EvS (te : TE) (δ : List Sl) (Φ : List D → Prop) : Prop := ∀ (Hs H : Hp) (σ : L2.St) (Q : VK), Ok T ta δ Hs H σ → (∀ xs a vs Hs' H', Φ xs → Stp T ta Hs H Hs' H' → H' a = some (.lst vs) → some a ≠ ta → AtAll Hs' vs xs → Q (.ref a) H') → te σ H Q
/-- a new list, nobody else's -/
def EvL (te : TE) (δ : List Sl) (Φ : List D → Prop) : Prop := ∀ (Hs H : Hp) (σ : L2.St) (Q : VK), Ok T ta δ Hs H σ → (∀ xs a vs Hs' H', Φ xs → Stp T ta Hs H Hs' H' → Fr H a → Fr Hs' a → H' a = some (.lst vs) → AtAll Hs' vs xs → Q (.ref a) H') → te σ H Q
/-- operations on values -/
def RV (r : R2) (x y : D) (Φ : D → Prop) : Prop := ∀ (Hs H : Hp) (v u : V) (Q : VK), ExtN Hs H → Tabs T H → At Hs v x → At Hs u y → (∀ d w Hs' H', Φ d → Stp T ta Hs H Hs' H' → At Hs' w d → Q w H') → r v u H Q
/-- a call of a built-in on values -/
def CV (r : List V → Hp → VK → Prop) (ds : List D) (Φ : D → Prop) : Prop := ∀ (Hs H : Hp) (vs : List V) (Q : VK), ExtN Hs H → Tabs T H → AtAll Hs vs ds → (∀ d w Hs' H', Φ d → Stp T ta Hs H Hs' H' → At Hs' w d → Q w H') → r vs H Q
end
section
variable {T : List (Addr × Str)} {ta : Option Addr} {δ : List Sl} {K : PySem.W.Frag} {te ta' tb tc : TE} {t u : TT} {tr : TA} {r r' : R2} {Φ Ψ : D → Prop}

theorem Ok.nta {Hs H : Hp} {σ : L2.St} {a : Addr} (o : Ok T ta δ Hs H σ) (h : Fr H a) : some a ≠ ta := fun z => by
  obtain ⟨_, l, ns, i, x, y, w, q, _⟩ := o.tp a z.symm
  exact h _ q nt_lst

theorem Ev.imp (h : Ev T ta te δ Φ) (k : ∀ d, Φ d → Ψ d) : Ev T ta te δ Ψ := fun Hs H σ Q o q => h Hs H σ Q o fun d v Hs' H' p s a => q d v Hs' H' (k d p) s a
theorem EvT.imp {Φ Ψ : Bool → Prop} (h : EvT T ta t δ Φ) (k : ∀ d, Φ d → Ψ d) : EvT T ta t δ Ψ := fun Hs H σ Q o q => h Hs H σ Q o fun d Hs' H' p s => q d Hs' H' (k d p) s
theorem ev_var {i : Nat} {x : D} (e : δ[i]? = some (.d x)) (h : Φ x) : Ev T ta (tVar i) δ Φ := fun Hs H σ Q o q => by
  obtain ⟨v, e1, e2⟩ := o.get e
  exact ⟨v, e1, q x v Hs H h o.refl e2⟩
theorem ev_int {i : Int} (h : Φ (.int i)) : Ev T ta (tC (.int i)) δ Φ := fun Hs H σ Q o q => q _ _ Hs H h o.refl (.int i)
theorem ev_str {x : Str} (h : Φ (.str x)) (ok : PyData.strOk x = true := by decide +kernel) : Ev T ta (tC (.str x)) δ Φ := fun Hs H σ Q o q => q _ _ Hs H h o.refl (.str x ok)
theorem ev_bl {x : Bool} (h : Φ (.bool x)) : Ev T ta (tC (.bl x)) δ Φ := fun Hs H σ Q o q => q _ _ Hs H h o.refl (.bl x)
theorem ev_non (h : Φ .none) : Ev T ta (tC .non) δ Φ := fun Hs H σ Q o q => q _ _ Hs H h o.refl .non
theorem ev_op (h : Ev T ta ta' δ fun x => Ev T ta tb δ fun y => RV T ta r x y Φ) : Ev T ta (tOp r ta' tb) δ Φ := fun Hs H σ Q o q => by
  refine h Hs H σ _ o fun x v H1s H1 h1 s1 a1 => ?_
  refine h1 H1s H1 σ _ (o.step s1) fun y u H2s H2 h2 s2 a2 => ?_
  refine h2 H2s H2 v u Q s2.x s2.t (a1.up s2.s) a2 fun d w H3s H3 h3 s3 a3 => q d w H3s H3 h3 ((s1.trans s2).trans s3) a3
theorem ev_neg {te : TE} (h : Ev T ta te δ fun x => ∃ i, x = .int i ∧ Φ (.int (-i))) : Ev T ta (tUn (rU fun i => .int (-i)) te) δ Φ := fun Hs H σ Q o q => by
  refine h Hs H σ _ o fun x v H1s H1 ⟨i, e, h1⟩ s1 a1 => ?_
  subst e
  cases a1
  exact ⟨i, rfl, q _ _ H1s H1 h1 s1 (.int _)⟩
/-! two ints -/
theorem rv_i0 {f : Int → Int → Int} {a b : Int} (h : Φ (.int (f a b))) : RV T ta (rI0 fun i j => .int (f i j)) (.int a) (.int b) Φ := fun Hs H v u Q x t a1 a2 q => by
  cases a1
  cases a2
  exact ⟨a, b, rfl, rfl, q _ _ Hs H h (Stp.refl x t) (.int _)⟩
theorem rv_i {C : Int → Int → Prop} {f : Int → Int → Int} {a b : Int} (c : C a b) (h : Φ (.int (f a b))) : RV T ta (rI C fun i j => .int (f i j)) (.int a) (.int b) Φ := fun Hs H v u Q x t a1 a2 q => by
  cases a1
  cases a2
  exact ⟨a, b, rfl, rfl, c, q _ _ Hs H h (Stp.refl x t) (.int _)⟩
theorem rv_b0 {f : Int → Int → Bool} {a b : Int} (h : Φ (.bool (f a b))) : RV T ta (rI0 fun i j => .bl (f i j)) (.int a) (.int b) Φ := fun Hs H v u Q x t a1 a2 q => by
  cases a1
  cases a2
  exact ⟨a, b, rfl, rfl, q _ _ Hs H h (Stp.refl x t) (.bl _)⟩
/-! == of scalars -/
theorem rv_eq_int {a b : Int} (h : Φ (.bool (decide (a = b)))) : RV T ta rEq (.int a) (.int b) Φ := fun Hs H v u Q x t a1 a2 q => by
  cases a1
  cases a2
  have e : decide (V.int a = V.int b) = decide (a = b) := by simp
  exact ⟨rfl, by rw [e]; exact q _ _ Hs H h (Stp.refl x t) (.bl _)⟩
theorem rv_eq_str {a b : Str} (h : Φ (.bool (decide (a = b)))) : RV T ta rEq (.str a) (.str b) Φ := fun Hs H v u Q x t a1 a2 q => by
  cases a1
  cases a2
  have e : decide (V.str a = V.str b) = decide (a = b) := by simp
  exact ⟨rfl, by rw [e]; exact q _ _ Hs H h (Stp.refl x t) (.bl _)⟩
/-! == of data -/
theorem At.lay : ∀ {H : Hp} (d : D) {v : V}, At H v d → d.canLay0 = true
  | _, .none, _, _ => rfl
  | _, .bool _, _, _ => rfl
  | _, .int _, _, _ => rfl
  | _, .str _, _, h => by cases h with | str _ ok => exact ok
  | H, .list ds, _, h => by
    cases h with
    | lst h1 h2 => exact all ds h2
  | H, .tuple ds, _, h => by
    cases h with
    | tup h1 h2 => exact all ds h2
  | _, .dict _, _, h => by cases h
where all : ∀ {H : Hp} (ds : List D) {vs : List V}, AtAll H vs ds → PyData.canLayAll0 ds = true
  | _, [], _, _ => rfl
  | _, d :: ds, _, h => by
    cases h with
    | cons h1 h2 => simp [PyData.canLayAll0, At.lay d h1, all ds h2]
theorem AtAll.lay {H : Hp} {ds : List D} {vs : List V} (h : AtAll H vs ds) : PyData.canLayAll0 ds = true := At.lay.all ds h
def rEqA (K : PySem.W.Frag) : R2 := fun x y H Q => ∃ d e, Dp K H x d ∧ Dp K H y e ∧ d.canLay0 = true ∧ e.canLay0 = true ∧ min d.depth e.depth ≤ 195 ∧ Q (.bl (PyData.eqv d e)) H
def rNeA (K : PySem.W.Frag) : R2 := fun x y H Q => ∃ d e, Dp K H x d ∧ Dp K H y e ∧ d.canLay0 = true ∧ e.canLay0 = true ∧ min d.depth e.depth ≤ 195 ∧ Q (.bl (!PyData.eqv d e)) H
def rInA (K : PySem.W.Frag) : R2 := fun x y H Q => ∃ d ds, Dp K H x d ∧ Dp K H y (.list ds) ∧ d.canLay0 = true ∧ PyData.canLayAll0 ds = true ∧ d.depth ≤ 195 ∧ Q (.bl (ds.any fun z => PyData.eqv z d)) H
def rNotInA (K : PySem.W.Frag) : R2 := fun x y H Q => ∃ d ds, Dp K H x d ∧ Dp K H y (.list ds) ∧ d.canLay0 = true ∧ PyData.canLayAll0 ds = true ∧ d.depth ≤ 195 ∧ Q (.bl (!ds.any fun z => PyData.eqv z d)) H
section
variable {X : Cx}
theorem op_eqA (hu : X.A.units + 200 < cLine) : OpR X (compareOp .Eq) (rEqA X.K) := by
  intro pins s σ H x y v u Q I rx ry h
  obtain ⟨d, e, hd, he, ld, le, hm, q⟩ := h
  obtain ⟨as, r1⟩ := Dp.reads I d x v hd rx
  obtain ⟨bs, r2⟩ := Dp.reads I e y u he ry
  exact SeqAt.compareEq_reads r1 r2 ld le (by omega) ⟨.bl _, H, I, rfl, q⟩
theorem op_neA (hu : X.A.units + 200 < cLine) : OpR X (compareOp .NotEq) (rNeA X.K) := by
  intro pins s σ H x y v u Q I rx ry h
  obtain ⟨d, e, hd, he, ld, le, hm, q⟩ := h
  obtain ⟨as, r1⟩ := Dp.reads I d x v hd rx
  obtain ⟨bs, r2⟩ := Dp.reads I e y u he ry
  exact SeqAt.compareNe_reads r1 r2 ld le (by omega) ⟨.bl _, H, I, rfl, q⟩
theorem op_inA (hu : X.A.units + 200 < cLine) : OpR X (compareOp .In) (rInA X.K) := by
  intro pins s σ H x y v u Q I rx ry h
  obtain ⟨d, ds, hd, he, ld, le, hm, q⟩ := h
  obtain ⟨as, r1⟩ := Dp.reads I d x v hd rx
  obtain ⟨bs, r2⟩ := Dp.reads I (.list ds) y u he ry
  exact SeqAt.in_list_reads r2 r1 le ld (by have := Nat.min_le_right (PyData.depthAll ds) d.depth; omega) ⟨.bl _, H, I, rfl, q⟩
theorem op_notInA (hu : X.A.units + 200 < cLine) : OpR X (compareOp .NotIn) (rNotInA X.K) := by
  intro pins s σ H x y v u Q I rx ry h
  obtain ⟨d, ds, hd, he, ld, le, hm, q⟩ := h
  obtain ⟨as, r1⟩ := Dp.reads I d x v hd rx
  obtain ⟨bs, r2⟩ := Dp.reads I (.list ds) y u he ry
  exact SeqAt.notIn_list_reads r2 r1 le ld (by have := Nat.min_le_right (PyData.depthAll ds) d.depth; omega) ⟨.bl _, H, I, rfl, q⟩
theorem u200 {k : Nat} {A : Around} (r : Room k A) : A.units + 200 < cLine := by have := r.un; omega
end
theorem rv_eqA {x y : D} (hm : min x.depth y.depth ≤ 195) (h : Φ (.bool (PyData.eqv x y))) : RV T ta (rEqA K) x y Φ := fun Hs H v u Q e t a1 a2 q =>
  ⟨x, y, At.dp x (a1.up e), At.dp y (a2.up e), At.lay x a1, At.lay y a2, hm, q _ _ Hs H h (Stp.refl e t) (.bl _)⟩
theorem rv_neA {x y : D} (hm : min x.depth y.depth ≤ 195) (h : Φ (.bool (!PyData.eqv x y))) : RV T ta (rNeA K) x y Φ := fun Hs H v u Q e t a1 a2 q =>
  ⟨x, y, At.dp x (a1.up e), At.dp y (a2.up e), At.lay x a1, At.lay y a2, hm, q _ _ Hs H h (Stp.refl e t) (.bl _)⟩
theorem rv_inA {x : D} {ds : List D} (hm : x.depth ≤ 195) (h : Φ (.bool (ds.any fun z => PyData.eqv z x))) : RV T ta (rInA K) x (.list ds) Φ := fun Hs H v u Q e t a1 a2 q =>
  ⟨x, ds, At.dp x (a1.up e), At.dp _ (a2.up e), At.lay x a1, At.lay (.list ds) a2, hm, q _ _ Hs H h (Stp.refl e t) (.bl _)⟩
/-! items, slices, + of tuples -/
theorem AtAll.atI {H : Hp} {vs : List V} {ds : List D} {i : Int} {d : D} (h : AtAll H vs ds) (e : atI ds i = some d) : ∃ v, L2.atI vs i = some v ∧ At H v d := by
  unfold L2.atI at e ⊢
  rw [h.len]
  cases q : ixN ds.length i with
  | none => rw [q] at e; cases e
  | some j =>
    rw [q] at e
    obtain ⟨v, e1, e2⟩ := h.get (i := j) (show ds[j]? = some d from e)
    exact ⟨v, e1, e2⟩
theorem rv_ixT {ds : List D} {i : Int} {d : D} (e : L2.atI ds i = some d) (h : Φ d) : RV T ta (rIxT K) (.tuple ds) (.int i) Φ := fun Hs H v u Q x t a1 a2 q => by
  cases a2
  cases a1 with
  | tup h1 h2 =>
    obtain ⟨w, e1, e2⟩ := h2.atI e
    exact ⟨_, _, i, w, rfl, rfl, SqT.of (x _ _ h1 nt_tup), e1, q _ _ Hs H h (Stp.refl x t) e2⟩
theorem rv_ixL {ds : List D} {i : Int} {d : D} (e : L2.atI ds i = some d) (h : Φ d) : RV T ta (rIxL K) (.list ds) (.int i) Φ := fun Hs H v u Q x t a1 a2 q => by
  cases a2
  cases a1 with
  | lst h1 h2 =>
    obtain ⟨w, e1, e2⟩ := h2.atI e
    exact ⟨_, _, i, w, rfl, rfl, SqL.of (x _ _ h1 nt_lst), e1, q _ _ Hs H h (Stp.refl x t) e2⟩
theorem rv_catA {xs ys : List D} (hz : xs.length + ys.length ≤ 1000000) (h : Φ (.tuple (xs ++ ys))) : RV T ta (rCatA K) (.tuple xs) (.tuple ys) Φ := fun Hs H v u Q x t a1 a2 q => by
  cases a1 with
  | @tup a vs _ h1 h2 =>
    cases a2 with
    | @tup b us _ k1 k2 =>
      have l1 := h2.len
      have l2 := k2.len
      refine ⟨a, b, vs, us, rfl, rfl, SqT.of (x _ _ h1 nt_tup), SqT.of (x _ _ k1 nt_tup), Nat.le_trans (by omega : _ ≤ 1000000) (by decide), fun e => ?_, fun _ e => ?_, fun _ _ p hp => ?_⟩
      · subst e
        cases h2
        exact q _ _ Hs H h (Stp.refl x t) (.tup k1 k2)
      · subst e
        cases k2
        rw [List.append_nil] at h
        exact q _ _ Hs H h (Stp.refl x t) (.tup h1 h2)
      · exact q _ _ _ _ h (Stp.new x t hp) (.tup upd_same ((h2.app k2).up (ext_s x hp)))
/-! lists that are read -/
theorem evs_own {i : Nat} {xs : List D} {Φ : List D → Prop} (e : δ[i]? = some (.l xs)) (h : Φ xs) : EvS T ta (tVar i) δ Φ := fun Hs H σ Q o q => by
  obtain ⟨w, e1, a, vs, rfl, h1, h2, h3, h4⟩ := o.at_ i _ e
  exact ⟨_, e1, q xs a vs Hs H h o.refl h3 h2 h4⟩
theorem evs_ev {Φ : List D → Prop} (h : Ev T ta te δ fun x => ∃ xs, x = .list xs ∧ Φ xs) : EvS T ta te δ Φ := fun Hs H σ Q o q => by
  refine h Hs H σ _ o fun x v H1s H1 ⟨xs, e, h1⟩ s1 a1 => ?_
  subst e
  cases a1 with
  | @lst a vs _ k1 k2 =>
    refine q xs a vs H1s H1 h1 s1 (s1.x _ _ k1 nt_lst) (fun z => ?_) k2
    exact ((o.step s1).tp a z.symm).1 _ k1 nt_lst
theorem evs_l {Φ : List D → Prop} (h : EvL T ta te δ Φ) : EvS T ta te δ Φ := fun Hs H σ Q o q =>
  h Hs H σ _ o fun xs a vs H1s H1 h1 s1 n1 n2 e1 a1 => q xs a vs H1s H1 h1 s1 e1 (o.nta n1) a1
theorem ev_l (h : EvL T ta te δ fun xs => Φ (.list xs)) : Ev T ta te δ Φ := fun Hs H σ Q o q =>
  h Hs H σ _ o fun xs a vs H1s H1 h1 s1 n1 n2 e1 a1 => by
    have x : ExtN H1s (upd H1s a (.lst vs)) := ext_updF n2
    refine q _ _ (upd H1s a (.lst vs)) H1 h1 ⟨s1.s.trans x, s1.e, s1.k, fun b u hb r => ?_, s1.t, fun b u hb r z => ?_, fun b eb hb => ?_⟩ (.lst upd_same (a1.up x))
    · by_cases z : b = a
      · rw [z, upd_same] at hb
        rw [z, e1]
        exact hb
      · rw [upd_ne z] at hb
        exact s1.x b u hb r
    · exact fr_upd (s1.n b u hb r z) (fr_ne n1 hb r)
    · obtain ⟨l, ns, i, x1, y1, z1, t1, t2, t3⟩ := s1.p b eb hb
      exact ⟨l, ns, i, x1, y1, z1, t1, x _ _ t2 nt_lst, t3⟩
theorem ev_ixS {te tb : TE} (h : EvS T ta te δ fun xs => Ev T ta tb δ fun y => ∃ i d, y = .int i ∧ L2.atI xs i = some d ∧ Φ d) : Ev T ta (tOp (rIxL K) te tb) δ Φ := fun Hs H σ Q o q => by
  refine h Hs H σ _ o fun xs a vs H1s H1 h1 s1 e1 n1 a1 => ?_
  refine h1 H1s H1 σ _ (o.step s1) fun y u H2s H2 ⟨i, d, ey, ex, h2⟩ s2 a2 => ?_
  subst ey
  cases a2
  obtain ⟨w, w1, w2⟩ := (a1.up s2.s).atI ex
  exact ⟨a, vs, i, w, rfl, rfl, SqL.of (s2.e _ _ e1 nt_lst n1), w1, q d w H2s H2 h2 (s1.trans s2) w2⟩
/-! arguments, displays -/
theorem ea_nil {Φ : List D → Prop} (h : Φ []) : EvA T ta tNil δ Φ := fun Hs H σ Q o q => q [] [] Hs H h o.refl .nil
theorem ea_cons {Φ : List D → Prop} (h : Ev T ta te δ fun d => EvA T ta tr δ fun ds => Φ (d :: ds)) : EvA T ta (tCons te tr) δ Φ := fun Hs H σ Q o q => by
  refine h Hs H σ _ o fun x v H1s H1 h1 s1 a1 => ?_
  refine h1 H1s H1 σ _ (o.step s1) fun ds vs H2s H2 h2 s2 a2 => ?_
  exact q _ _ H2s H2 h2 (s1.trans s2) (.cons (a1.up s2.s) a2)
theorem ev_tup (h : EvA T ta tr δ fun ds => ds.length ≤ 1000000 ∧ Φ (.tuple ds)) : Ev T ta (tTup tr) δ Φ := fun Hs H σ Q o q => by
  refine h Hs H σ _ o fun ds vs H1s H1 ⟨hz, h1⟩ s1 a1 => ?_
  refine ⟨by rw [a1.len]; exact Nat.le_trans hz (by decide), fun p hp => ?_⟩
  exact q _ _ _ _ h1 (s1.trans (Stp.new s1.x s1.t hp)) (.tup upd_same (a1.up (ext_s s1.x hp)))
theorem evl_lst {Φ : List D → Prop} (h : EvA T ta tr δ fun ds => ds.length ≤ 1000000 ∧ Φ ds) : EvL T ta (tLst tr) δ Φ := fun Hs H σ Q o q => by
  refine h Hs H σ _ o fun ds vs H1s H1 ⟨hz, h1⟩ s1 a1 => ?_
  refine ⟨by rw [a1.len]; exact Nat.le_trans hz (by decide), fun p hp => ?_⟩
  exact q _ _ _ _ _ h1 (s1.trans (Stp.own s1.x s1.t hp)) (s1.back hp) (stable_free s1.x hp) upd_same a1
end
end G
set_option Elab.async false
set_option linter.all false
set_option maxRecDepth 100000
set_option maxHeartbeats 1000000
/-! own layer: tests, calls, comprehensions -/
namespace G
open PySem PySem.Spec L2 LamX

section
variable {T : List (Addr × Str)} {ta : Option Addr} {δ : List Sl} {K : PySem.W.Frag} {te tx tb tc : TE} {t u : TT} {tr : TA} {r r' : R2} {Φ Ψ : D → Prop}
/-! tests -/
theorem et_B {Φ : Bool → Prop} (h : Ev T ta te δ fun d => ∃ b, d = .bool b ∧ Φ b) : EvT T ta (tB te) δ Φ := fun Hs H σ Q o q =>
  h Hs H σ _ o fun d v H1s H1 ⟨b, e, h1⟩ s1 a1 => by
    subst e
    cases a1
    exact ⟨b, rfl, q b H1s H1 h1 s1⟩
theorem et_T {Φ : Bool → Prop} (h : Ev T ta te δ fun d => ∃ b, d = .bool b ∧ Φ b) : EvT T ta (tTest te) δ Φ := et_B h
theorem et_and {Φ : Bool → Prop} (h : EvT T ta t δ fun a => (a = true → EvT T ta u δ Φ) ∧ (a = false → Φ false)) : EvT T ta (tAnd t u) δ Φ := fun Hs H σ Q o q =>
  h Hs H σ _ o fun a H1s H1 ⟨h1, h2⟩ s1 => by
    cases a with
    | true => exact h1 rfl H1s H1 σ Q (o.step s1) fun b H2s H2 h3 s2 => q b H2s H2 h3 (s1.trans s2)
    | false => exact q false H1s H1 (h2 rfl) s1
theorem et_or {Φ : Bool → Prop} (h : EvT T ta t δ fun a => (a = true → Φ true) ∧ (a = false → EvT T ta u δ Φ)) : EvT T ta (tOr t u) δ Φ := fun Hs H σ Q o q =>
  h Hs H σ _ o fun a H1s H1 ⟨h1, h2⟩ s1 => by
    cases a with
    | false => exact h2 rfl H1s H1 σ Q (o.step s1) fun b H2s H2 h3 s2 => q b H2s H2 h3 (s1.trans s2)
    | true => exact q true H1s H1 (h1 rfl) s1
theorem et_not {Φ : Bool → Prop} (h : EvT T ta t δ fun a => Φ (!a)) : EvT T ta (tNot t) δ Φ := fun Hs H σ Q o q =>
  h Hs H σ _ o fun a H1s H1 h1 s1 => q (!a) H1s H1 h1 s1
theorem ev_if (h : EvT T ta t δ fun b => (b = true → Ev T ta tx δ Φ) ∧ (b = false → Ev T ta tb δ Φ)) : Ev T ta (tIf t tx tb) δ Φ := fun Hs H σ Q o q =>
  h Hs H σ _ o fun a H1s H1 ⟨h1, h2⟩ s1 => by
    cases a with
    | true => exact h1 rfl H1s H1 σ Q (o.step s1) fun b v H2s H2 h3 s2 a2 => q b v H2s H2 h3 (s1.trans s2) a2
    | false => exact h2 rfl H1s H1 σ Q (o.step s1) fun b v H2s H2 h3 s2 a2 => q b v H2s H2 h3 (s1.trans s2) a2
theorem ev_andV (h : Ev T ta tx δ fun x => ∃ a, x = .bool a ∧ (a = true → Ev T ta tb δ Φ) ∧ (a = false → Φ (.bool false))) : Ev T ta (tAndV tx tb) δ Φ := fun Hs H σ Q o q =>
  h Hs H σ _ o fun d v H1s H1 ⟨a, e, h1, h2⟩ s1 a1 => by
    subst e
    cases a1
    refine ⟨a, rfl, ?_⟩
    cases a with
    | true => exact h1 rfl H1s H1 σ Q (o.step s1) fun b v H2s H2 h3 s2 a2 => q b v H2s H2 h3 (s1.trans s2) a2
    | false => exact q _ _ H1s H1 (h2 rfl) s1 (.bl false)
theorem ev_orV (h : Ev T ta tx δ fun x => ∃ a, x = .bool a ∧ (a = true → Φ (.bool true)) ∧ (a = false → Ev T ta tb δ Φ)) : Ev T ta (tOrV tx tb) δ Φ := fun Hs H σ Q o q =>
  h Hs H σ _ o fun d v H1s H1 ⟨a, e, h1, h2⟩ s1 a1 => by
    subst e
    cases a1
    refine ⟨a, rfl, ?_⟩
    cases a with
    | false => exact h2 rfl H1s H1 σ Q (o.step s1) fun b v H2s H2 h3 s2 a2 => q b v H2s H2 h3 (s1.trans s2) a2
    | true => exact q _ _ H1s H1 (h1 rfl) s1 (.bl true)
theorem ev_notV (h : Ev T ta tx δ fun x => ∃ a, x = .bool a ∧ Φ (.bool (!a))) : Ev T ta (tNotV tx) δ Φ := fun Hs H σ Q o q =>
  h Hs H σ _ o fun d v H1s H1 ⟨a, e, h1⟩ s1 a1 => by
    subst e
    cases a1
    exact ⟨a, rfl, q _ _ H1s H1 h1 s1 (.bl _)⟩
theorem ev_chain (h : Ev T ta tx δ fun x => Ev T ta tb δ fun y => RV T ta r x y fun z => ∃ k, z = .bool k ∧ (k = true → Ev T ta tc δ fun w => RV T ta r' y w Φ) ∧ (k = false → Φ (.bool false))) : Ev T ta (tChain r r' tx tb tc) δ Φ := fun Hs H σ Q o q => by
  refine h Hs H σ _ o fun x v H1s H1 h1 s1 a1 => ?_
  refine h1 H1s H1 σ _ (o.step s1) fun y u H2s H2 h2 s2 a2 => ?_
  refine h2 H2s H2 v u _ s2.x s2.t (a1.up s2.s) a2 fun z w H3s H3 ⟨k, e, h3, h4⟩ s3 a3 => ?_
  subst e
  cases a3
  refine ⟨k, rfl, ?_⟩
  have s123 := (s1.trans s2).trans s3
  cases k with
  | false => exact q _ _ H3s H3 (h4 rfl) s123 (.bl _)
  | true =>
    show tc σ H3 _
    refine h3 rfl H3s H3 σ _ (o.step s123) fun w' z' H4s H4 h5 s4 a4 => ?_
    exact h5 H4s H4 u z' Q s4.x s4.t ((a2.up s3.s).up s4.s) a4 fun d w2 H5s H5 h6 s5 a5 => q d w2 H5s H5 h6 ((s123.trans s4).trans s5) a5
/-! is None -/
def isNon : D → Bool
  | .none => true
  | _ => false
theorem At.non_iff {H : Hp} {v : V} {d : D} (a : At H v d) : decide (v = .non) = isNon d := by
  cases a <;> rfl
theorem ev_isN (h : Ev T ta te δ fun d => Φ (.bool (isNon d))) : Ev T ta (tIsN te) δ Φ := fun Hs H σ Q o q =>
  h Hs H σ _ o fun d v H1s H1 h1 s1 a1 => by
    rw [a1.non_iff]
    exact q _ _ H1s H1 h1 s1 (.bl _)
theorem ev_notN (h : Ev T ta te δ fun d => Φ (.bool (!isNon d))) : Ev T ta (tNotN te) δ Φ := fun Hs H σ Q o q =>
  h Hs H σ _ o fun d v H1s H1 h1 s1 a1 => by
    rw [a1.non_iff]
    exact q _ _ H1s H1 h1 s1 (.bl _)
/-! isinstance -/
def tyD : D → String
  | .none => "NoneType"
  | .bool _ => "bool"
  | .int _ => "int"
  | .str _ => "str"
  | .list _ => "list"
  | .tuple _ => "tuple"
  | .dict _ => "dict"
theorem At.ty {K : PySem.W.Frag} {H : Hp} {v : V} {d : D} (a : At H v d) : TyX K H v (.type (tyD d)) := by
  cases a with
  | non => exact .base .non
  | bl b => exact .base (.bl b)
  | int i => exact .base (.int i)
  | str x _ => exact .base (.str x)
  | lst h _ => exact .base (.lst h)
  | tup h _ => exact .base (.tup h)
theorem TyX.upp {K : PySem.W.Frag} {H : Hp} {v : V} {d : D} {H' : Hp} (a : At H v d) (x : ExtN H H') : TyX K H' v (.type (tyD d)) := (a.up x).ty
theorem ev_isi {n : String} (h : Ev T ta te δ fun d => ∃ b, kitB (tyD d) n = some b ∧ Φ (.bool b)) : Ev T ta (tCB (rIsi K) (tCons te (tCons (tC (.ty n)) tNil))) δ Φ := fun Hs H σ Q o q => by
  refine h Hs H σ _ o fun d v H1s H1 ⟨b, e, h1⟩ s1 a1 => ?_
  refine ⟨v, .ty n, .type (tyD d), .type n, b, rfl, ?_, (a1.up s1.x).ty, kit_ty e, q _ _ H1s H1 h1 s1 (.bl b)⟩
  first | exact rfl | exact ⟨rfl⟩ | constructor
/-! calls -/
/-- from data to a datum -/
def spD (T : List (Addr × Str)) (rel : List D → D → Prop) : Sp := fun vs H Q _ => ∃ (Hs : Hp) (ds : List D) (d : D), ExtN Hs H ∧ Tabs T H ∧ AtAll Hs vs ds ∧ rel ds d ∧ ∀ v Hs' H', Stp T none Hs H Hs' H' → At Hs' v d → Q v H'
theorem ev_call {rel : List D → D → Prop} {E : XK} (h : EvA T ta tr δ fun ds => ∃ d, rel ds d ∧ Φ d) : Ev T ta (tCall (spD T rel) [] E tr) δ Φ := fun Hs H σ Q o q => by
  refine h Hs H σ _ o fun ds vs H1s H1 ⟨d, e, h1⟩ s1 a1 => ?_
  show spD T rel (vs ++ []) H1 Q E
  rw [List.append_nil]
  exact ⟨H1s, ds, d, s1.x, s1.t, a1, e, fun v H2s H2 s2 a2 => q d v H2s H2 h1 (s1.trans s2.weak) a2⟩
theorem ev_cb {r : List V → Hp → VK → Prop} (h : EvA T ta tr δ fun ds => CV T ta r ds Φ) : Ev T ta (tCB r tr) δ Φ := fun Hs H σ Q o q => by
  refine h Hs H σ _ o fun ds vs H1s H1 h1 s1 a1 => ?_
  exact h1 H1s H1 vs Q s1.x s1.t a1 fun d w H2s H2 h2 s2 a2 => q d w H2s H2 h2 (s1.trans s2) a2
abbrev rLenQ (K : PySem.W.Frag) : List V → Hp → VK → Prop := fun xs H Q => ∃ p ys, xs = [.ref p] ∧ (SqL K H p ys ∨ SqT K H p ys) ∧ Q (.int ys.length) H
abbrev rLenStr : List V → Hp → VK → Prop := fun xs H Q => ∃ z, xs = [.str z] ∧ z.length ≤ sizeLine ∧ Q (.int z.length) H
abbrev rTupleOf (K : PySem.W.Frag) : List V → Hp → VK → Prop := fun xs H Q => ∃ p ys, xs = [.ref p] ∧ ((SqL K H p ys ∧ ∀ l, H l = none → Q (.ref l) (upd H l (.tup ys))) ∨ (SqT K H p ys ∧ Q (.ref p) H))
abbrev rListOf (K : PySem.W.Frag) : List V → Hp → VK → Prop := fun xs H Q => ∃ p ys, xs = [.ref p] ∧ (SqL K H p ys ∨ SqT K H p ys) ∧ ∀ l, H l = none → Q (.ref l) (upd H l (.lst ys))
abbrev rInt1 : List V → Hp → VK → Prop := fun xs H Q => (∃ i, xs = [.int i] ∧ Q (.int i) H) ∨ ∃ k, xs = [.bl k] ∧ Q (.int (if k then 1 else 0)) H
abbrev rMax2Q : List V → Hp → VK → Prop := fun xs H Q => ∃ i j, xs = [.int i, .int j] ∧ Q (.int (if j > i then j else i)) H
/-- what has a length -/
def lenD : D → Option Nat
  | .list xs => some xs.length
  | .tuple xs => some xs.length
  | _ => none
theorem ev_len (h : Ev T ta te δ fun d => ∃ n, lenD d = some n ∧ Φ (.int n)) : Ev T ta (tCB (rLenQ K) (tCons te tNil)) δ Φ := fun Hs H σ Q o q => by
  refine h Hs H σ _ o fun d v H1s H1 ⟨n, e, h1⟩ s1 a1 => ?_
  cases a1 with
  | @lst a xs ds k1 k2 =>
    cases e
    have l := k2.len
    refine ⟨a, xs, rfl, .inl (SqL.of (s1.x _ _ k1 nt_lst)), ?_⟩
    rw [l]
    exact q _ _ H1s H1 h1 s1 (.int _)
  | @tup a xs ds k1 k2 =>
    cases e
    have l := k2.len
    refine ⟨a, xs, rfl, .inr (SqT.of (s1.x _ _ k1 nt_tup)), ?_⟩
    rw [l]
    exact q _ _ H1s H1 h1 s1 (.int _)
  | _ => cases e
theorem ev_lenS (h : EvS T ta te δ fun xs => Φ (.int xs.length)) : Ev T ta (tCB (rLenQ K) (tCons te tNil)) δ Φ := fun Hs H σ Q o q => by
  refine h Hs H σ _ o fun xs a vs H1s H1 h1 s1 e1 n1 a1 => ?_
  refine ⟨a, vs, rfl, .inl (SqL.of e1), ?_⟩
  rw [a1.len]
  exact q _ _ H1s H1 h1 s1 (.int _)
theorem ev_lenStr (h : Ev T ta te δ fun d => ∃ z, d = .str z ∧ z.length ≤ 1000000 ∧ Φ (.int z.length)) : Ev T ta (tCB rLenStr (tCons te tNil)) δ Φ := fun Hs H σ Q o q => by
  refine h Hs H σ _ o fun d v H1s H1 ⟨z, e, hz, h1⟩ s1 a1 => ?_
  subst e
  cases a1
  exact ⟨z, rfl, Nat.le_trans hz (by decide), q _ _ H1s H1 h1 s1 (.int _)⟩
theorem ev_tupleS (h : EvS T ta te δ fun xs => Φ (.tuple xs)) : Ev T ta (tCB (rTupleOf K) (tCons te tNil)) δ Φ := fun Hs H σ Q o q => by
  refine h Hs H σ _ o fun xs a vs H1s H1 h1 s1 e1 n1 a1 => ?_
  exact ⟨a, vs, rfl, .inl ⟨SqL.of e1, fun p hp => q _ _ _ _ h1 (s1.trans (Stp.new s1.x s1.t hp)) (.tup upd_same (a1.up (ext_s s1.x hp)))⟩⟩
theorem evl_listT {Φ : List D → Prop} (h : Ev T ta te δ fun d => ∃ xs, d = .tuple xs ∧ Φ xs) : EvL T ta (tCB (rListOf K) (tCons te tNil)) δ Φ := fun Hs H σ Q o q => by
  refine h Hs H σ _ o fun d v H1s H1 ⟨xs, e, h1⟩ s1 a1 => ?_
  subst e
  cases a1 with
  | @tup a vs _ k1 k2 => exact ⟨a, vs, rfl, .inr (SqT.of (s1.x _ _ k1 nt_tup)), fun p hp => q _ _ _ _ _ h1 (s1.trans (Stp.own s1.x s1.t hp)) (s1.back hp) (stable_free s1.x hp) upd_same k2⟩
theorem ev_sumS (h : EvS T ta te δ fun xs => ∃ ns : List Int, xs = ns.map .int ∧ Φ (.int ns.sum)) : Ev T ta (tCB (rSum K) (tCons te tNil)) δ Φ := fun Hs H σ Q o q => by
  refine h Hs H σ _ o fun xs a vs H1s H1 ⟨ns, e, h1⟩ s1 e1 n1 a1 => ?_
  subst e
  rw [a1.ints] at e1
  exact ⟨a, ns, rfl, SqL.of e1, q _ _ H1s H1 h1 s1 (.int _)⟩
theorem ev_maxS (h : EvS T ta te δ fun xs => ∃ ns : List Int, xs = ns.map .int ∧ 0 < ns.length ∧ ∀ m, m ∈ ns → (∀ y, y ∈ ns → y ≤ m) → Φ (.int m)) : Ev T ta (tCB (rMax K) (tCons te tNil)) δ Φ := fun Hs H σ Q o q => by
  refine h Hs H σ _ o fun xs a vs H1s H1 ⟨ns, e, hn, h1⟩ s1 e1 n1 a1 => ?_
  subst e
  rw [a1.ints] at e1
  exact ⟨a, ns, rfl, SqL.of e1, hn, fun m h2 h3 => q _ _ H1s H1 (h1 m h2 h3) s1 (.int _)⟩
theorem ev_minS (h : EvS T ta te δ fun xs => ∃ ns : List Int, xs = ns.map .int ∧ 0 < ns.length ∧ ∀ m, m ∈ ns → (∀ y, y ∈ ns → m ≤ y) → Φ (.int m)) : Ev T ta (tCB (rMin K) (tCons te tNil)) δ Φ := fun Hs H σ Q o q => by
  refine h Hs H σ _ o fun xs a vs H1s H1 ⟨ns, e, hn, h1⟩ s1 e1 n1 a1 => ?_
  subst e
  rw [a1.ints] at e1
  exact ⟨a, ns, rfl, SqL.of e1, hn, fun m h2 h3 => q _ _ H1s H1 (h1 m h2 h3) s1 (.int _)⟩
theorem ev_allS (h : EvS T ta te δ fun xs => ∃ ns : List Bool, xs = ns.map .bool ∧ Φ (.bool (ns.all id))) : Ev T ta (tCB (rAll K) (tCons te tNil)) δ Φ := fun Hs H σ Q o q => by
  refine h Hs H σ _ o fun xs a vs H1s H1 ⟨ns, e, h1⟩ s1 e1 n1 a1 => ?_
  subst e
  rw [a1.bls] at e1
  exact ⟨a, ns, rfl, SqL.of e1, q _ _ H1s H1 h1 s1 (.bl _)⟩
theorem ev_int1 (h : Ev T ta te δ fun d => ∃ i, d = .int i ∧ Φ (.int i)) : Ev T ta (tCB rInt1 (tCons te tNil)) δ Φ := fun Hs H σ Q o q => by
  refine h Hs H σ _ o fun d v H1s H1 ⟨i, e, h1⟩ s1 a1 => ?_
  subst e
  cases a1
  exact .inl ⟨i, rfl, q _ _ H1s H1 h1 s1 (.int _)⟩
theorem ev_max2 (h : Ev T ta tx δ fun x => Ev T ta tb δ fun y => ∃ i j, x = .int i ∧ y = .int j ∧ Φ (.int (if j > i then j else i))) : Ev T ta (tCB rMax2Q (tCons tx (tCons tb tNil))) δ Φ := fun Hs H σ Q o q => by
  refine h Hs H σ _ o fun x v H1s H1 h1 s1 a1 => ?_
  refine h1 H1s H1 σ _ (o.step s1) fun y u H2s H2 ⟨i, j, e1, e2, h2⟩ s2 a2 => ?_
  subst e1 e2
  cases a1
  cases a2
  exact ⟨i, j, rfl, q _ _ H2s H2 h2 (s1.trans s2) (.int _)⟩
/-! + of lists -/
theorem evl_cat {Φ : List D → Prop} (h : EvS T ta tx δ fun xs => EvS T ta tb δ fun ys => xs.length + ys.length ≤ 1000000 ∧ Φ (xs ++ ys)) : EvL T ta (tOp rCat tx tb) δ Φ := fun Hs H σ Q o q => by
  refine h Hs H σ _ o fun xs a vs H1s H1 h1 s1 e1 n1 a1 => ?_
  refine h1 H1s H1 σ _ (o.step s1) fun ys b us H2s H2 ⟨hz, h2⟩ s2 e2 n2 a2 => ?_
  have s12 := s1.trans s2
  refine ⟨a, b, vs, us, rfl, rfl, s2.e _ _ e1 nt_lst n1, e2, ?_, fun p hp => ?_⟩
  · rw [a1.len, a2.len]
    exact Nat.le_trans hz (by decide)
  · exact q _ _ _ _ _ h2 (s12.trans (Stp.own s2.x s2.t hp)) (s12.back hp) (stable_free s2.x hp) upd_same ((a1.up s2.s).app a2)
end

/-! ### what is walked -/
def Walks (T : List (Addr × Str)) (ta : Option Addr) (J : It) (ds : List D) (Hw : Hp) : Prop := ∀ (Hs H : Hp) (i : Nat), ExtN Hw Hs → ExtN Hs H → Tabs T H →
  (∀ d, ds[i]? = some d → J.go i H ∧ ∀ x H', J.yld i H x H' → ∃ Hs', Stp T ta Hs H Hs' H' ∧ At Hs' x d) ∧ (ds.length ≤ i → J.stop i H)
def EvI (T : List (Addr × Str)) (ta : Option Addr) (wi : TI) (δ : List Sl) (Φ : List D → Prop) : Prop := ∀ (Hs H : Hp) (σ : L2.St) (R : It → Hp → Prop), Ok T ta δ Hs H σ → (∀ ds J Hs' H', Φ ds → Stp T ta Hs H Hs' H' → Walks T ta J ds Hs' → R J H') → wi σ H R
section
variable {T : List (Addr × Str)} {ta : Option Addr} {δ : List Sl} {K : PySem.W.Frag} {te tx tb tc : TE} {t u : TT} {tr : TA} {Φ : List D → Prop}
theorem ei_tup (h : Ev T ta te δ fun d => ∃ ds, d = .tuple ds ∧ Φ ds) : EvI T ta (iTup K te) δ Φ := fun Hs H σ R o q => by
  refine h Hs H σ _ o fun d v H1s H1 ⟨ds, e, h1⟩ s1 a1 => ?_
  subst e
  cases a1 with
  | @tup a xs _ k1 k2 =>
    refine ⟨a, rfl, ⟨xs, SqT.of (s1.x _ _ k1 nt_tup)⟩, q ds _ H1s H1 h1 s1 fun Hs' H' i x1 x2 t' => ⟨fun d hd => ?_, fun hl => ?_⟩⟩
    · have hq : SqT K H' a xs := SqT.of (x2 _ _ (x1 _ _ k1 nt_tup) nt_tup)
      obtain ⟨w, e1, e2⟩ := k2.get hd
      refine ⟨⟨xs, w, hq, e1⟩, fun x H2 hy => ?_⟩
      obtain ⟨rfl, hy⟩ := hy
      have := hy xs hq
      rw [e1] at this
      cases this
      exact ⟨Hs', Stp.refl x2 t', e2.up x1⟩
    · exact ⟨xs, SqT.of (x2 _ _ (x1 _ _ k1 nt_tup) nt_tup), by rw [k2.len]; exact hl⟩
theorem ei_list (h : Ev T ta te δ fun d => ∃ ds, d = .list ds ∧ Φ ds) : EvI T ta (iList K te) δ Φ := fun Hs H σ R o q => by
  refine h Hs H σ _ o fun d v H1s H1 ⟨ds, e, h1⟩ s1 a1 => ?_
  subst e
  cases a1 with
  | @lst a xs _ k1 k2 =>
    refine ⟨a, rfl, ⟨xs, SqL.of (s1.x _ _ k1 nt_lst)⟩, q ds _ H1s H1 h1 s1 fun Hs' H' i x1 x2 t' => ⟨fun d hd => ?_, fun hl => ?_⟩⟩
    · have hq : SqL K H' a xs := SqL.of (x2 _ _ (x1 _ _ k1 nt_lst) nt_lst)
      obtain ⟨w, e1, e2⟩ := k2.get hd
      refine ⟨⟨xs, w, hq, e1⟩, fun x H2 hy => ?_⟩
      obtain ⟨rfl, hy⟩ := hy
      have := hy xs hq
      rw [e1] at this
      cases this
      exact ⟨Hs', Stp.refl x2 t', e2.up x1⟩
    · exact ⟨xs, SqL.of (x2 _ _ (x1 _ _ k1 nt_lst) nt_lst), by rw [k2.len]; exact hl⟩
def nums (n : Nat) : List D := (List.range n).map fun i => .int (i : Nat)
theorem nums_get {n i : Nat} {d : D} (h : (nums n)[i]? = some d) : i < n ∧ d = .int (i : Nat) := by
  unfold nums at h
  rw [List.getElem?_map] at h
  by_cases hi : i < n
  · rw [List.getElem?_range hi] at h
    exact ⟨hi, (Option.some.inj h).symm⟩
  · rw [List.getElem?_eq_none (by simpa using hi)] at h
    cases h
theorem nums_len (n : Nat) : (nums n).length = n := by simp [nums]
theorem ei_range (h : Ev T ta te δ fun d => ∃ n : Nat, d = .int n ∧ n ≤ 1000000 ∧ Φ (nums n)) : EvI T ta (iRng1 (tCons te tNil)) δ Φ := fun Hs H σ R o q => by
  refine h Hs H σ _ o fun d v H1s H1 ⟨n, e, hn, h1⟩ s1 a1 => ?_
  subst e
  cases a1
  refine ⟨n, rfl, by omega, by omega, q _ _ H1s H1 h1 s1 fun Hs' H' i x1 x2 t' => ⟨fun d hd => ?_, fun hl => ?_⟩⟩
  · obtain ⟨hi, rfl⟩ := nums_get hd
    refine ⟨by show i < ((n : Int)).toNat; omega, fun x H2 hy => ?_⟩
    obtain ⟨rfl, rfl⟩ := hy
    refine ⟨Hs', Stp.refl x2 t', ?_⟩
    rw [Int.zero_add]
    exact .int _
  · rw [nums_len] at hl
    show ((n : Int)).toNat ≤ i
    omega
/-- the turns of enumerate -/
def pairs : Nat → List D → List D
  | _, [] => []
  | i, d :: ds => .tuple [.int (i : Nat), d] :: pairs (i + 1) ds
theorem pairs_get : ∀ {ds : List D} {k i : Nat} {d : D}, (pairs k ds)[i]? = some d → ∃ x, ds[i]? = some x ∧ d = .tuple [.int ((k + i : Nat) : Int), x]
  | [], _, _, _, h => by simp [pairs] at h
  | _ :: _, k, 0, _, h => by
    simp [pairs] at h
    exact ⟨_, rfl, h.symm⟩
  | _ :: ds, k, i + 1, d, h => by
    obtain ⟨x, e1, e2⟩ := pairs_get (ds := ds) (k := k + 1) (i := i) (d := d) (by simpa [pairs] using h)
    refine ⟨x, by simpa using e1, ?_⟩
    rw [e2, show k + 1 + i = k + (i + 1) by omega]
theorem pairs_len : ∀ (ds : List D) (k : Nat), (pairs k ds).length = ds.length
  | [], _ => rfl
  | _ :: ds, k => by simp [pairs, pairs_len ds (k + 1)]
theorem walk_enum {K : PySem.W.Frag} {Hw : Hp} {a : Addr} {xs : List V} {ds : List D} (hw : Hw a = some (.lst xs)) (ha : AtAll Hw xs ds) : Walks T ta (Ite K a) (pairs 0 ds) Hw := fun Hs' H' i x1 x2 t' => by
  have hq : SqL K H' a xs := SqL.of (x2 _ _ (x1 _ _ hw nt_lst) nt_lst)
  refine ⟨fun d hd => ?_, fun hl => ?_⟩
  · obtain ⟨x, hx, rfl⟩ := pairs_get hd
    obtain ⟨w, e1, e2⟩ := ha.get hx
    refine ⟨⟨xs, w, hq, e1⟩, fun y H2 hy => ?_⟩
    obtain ⟨tp, w', rfl, hn, rfl, hy⟩ := hy
    have := hy xs hq
    rw [e1] at this
    cases this
    have s := Stp.new (T := T) (ta := ta) (o := .tup [.int (i : Nat), w]) x2 t' hn
    refine ⟨_, s, .tup upd_same (.cons ?_ (.cons ((e2.up x1).up s.s) .nil))⟩
    rw [Nat.zero_add]
    exact .int _
  · rw [pairs_len] at hl
    exact ⟨xs, hq, by rw [ha.len]; exact hl⟩
theorem ei_enumL (h : Ev T ta te δ fun d => ∃ ds, d = .list ds ∧ Φ (pairs 0 ds)) : EvI T ta (iEnum K (tCons te tNil)) δ Φ := fun Hs H σ R o q => by
  refine h Hs H σ _ o fun d v H1s H1 ⟨ds, e, h1⟩ s1 a1 => ?_
  subst e
  cases a1 with
  | @lst a xs _ k1 k2 => exact ⟨a, xs, rfl, SqL.of (s1.x _ _ k1 nt_lst), q _ _ H1s H1 h1 s1 (walk_enum k1 k2)⟩
/-- zip of two lists -/
def zips : List D → List D → List D
  | x :: xs, y :: ys => .tuple [x, y] :: zips xs ys
  | _, _ => []
theorem zips_get : ∀ {xs ys : List D} {i : Nat} {d : D}, (zips xs ys)[i]? = some d → ∃ x y, xs[i]? = some x ∧ ys[i]? = some y ∧ d = .tuple [x, y]
  | [], _, _, _, h => by simp [zips] at h
  | _ :: _, [], _, _, h => by simp [zips] at h
  | x :: xs, y :: ys, 0, d, h => by
    simp [zips] at h
    exact ⟨x, y, rfl, rfl, h.symm⟩
  | x :: xs, y :: ys, i + 1, d, h => by
    obtain ⟨a, b, e1, e2, e3⟩ := zips_get (xs := xs) (ys := ys) (i := i) (d := d) (by simpa [zips] using h)
    exact ⟨a, b, by simpa using e1, by simpa using e2, e3⟩
theorem zips_len : ∀ {xs ys : List D} {i : Nat}, (zips xs ys).length ≤ i → xs.length ≤ i ∨ ys.length ≤ i
  | [], _, i, _ => .inl (Nat.zero_le _)
  | _ :: _, [], i, _ => .inr (Nat.zero_le _)
  | x :: xs, y :: ys, i, h => by
    have h' : (zips xs ys).length + 1 ≤ i := by simpa [zips] using h
    rcases zips_len (xs := xs) (ys := ys) (i := i - 1) (by omega) with q | q
    · exact .inl (by simp; omega)
    · exact .inr (by simp; omega)
theorem walk_zip {K : PySem.W.Frag} {Hw : Hp} {a b : Addr} {xs ys : List V} {ds es : List D} (hw : Hw a = some (.lst xs)) (ha : AtAll Hw xs ds) (hv : Hw b = some (.lst ys)) (hb : AtAll Hw ys es) : Walks T ta (Itz K a b) (zips ds es) Hw := fun Hs' H' i x1 x2 t' => by
  have hq : SqL K H' a xs := SqL.of (x2 _ _ (x1 _ _ hw nt_lst) nt_lst)
  have hr : SqL K H' b ys := SqL.of (x2 _ _ (x1 _ _ hv nt_lst) nt_lst)
  refine ⟨fun d hd => ?_, fun hl => ?_⟩
  · obtain ⟨x, y, hx, hy, rfl⟩ := zips_get hd
    obtain ⟨w, e1, e2⟩ := ha.get hx
    obtain ⟨w2, e3, e4⟩ := hb.get hy
    refine ⟨⟨xs, ys, w, w2, hq, hr, e1, e3⟩, fun z H2 hz => ?_⟩
    obtain ⟨tp, x', y', rfl, hn, rfl, g1, g2⟩ := hz
    have := g1 xs hq
    rw [e1] at this
    cases this
    have := g2 ys hr
    rw [e3] at this
    cases this
    have s := Stp.new (T := T) (ta := ta) (o := .tup [w, w2]) x2 t' hn
    exact ⟨_, s, .tup upd_same (.cons ((e2.up x1).up s.s) (.cons ((e4.up x1).up s.s) .nil))⟩
  · refine ⟨xs, ys, hq, hr, ?_⟩
    rw [ha.len, hb.len]
    exact zips_len hl
theorem ei_zip (h : Ev T ta tx δ fun d => Ev T ta tb δ fun e => ∃ ds es, d = .list ds ∧ e = .list es ∧ Φ (zips ds es)) : EvI T ta (iZip K (tCons tx (tCons tb tNil))) δ Φ := fun Hs H σ R o q => by
  refine h Hs H σ _ o fun d v H1s H1 h1 s1 a1 => ?_
  refine h1 H1s H1 σ _ (o.step s1) fun e u H2s H2 ⟨ds, es, e1, e2, h2⟩ s2 a2 => ?_
  subst e1 e2
  cases a1 with
  | @lst a xs _ k1 k2 =>
    cases a2 with
    | @lst b ys _ m1 m2 => exact ⟨a, b, xs, ys, rfl, SqL.of (s2.x _ _ (s2.s _ _ k1 nt_lst) nt_lst), SqL.of (s2.x _ _ m1 nt_lst), q _ _ H2s H2 h2 (s1.trans s2) (walk_zip (s2.s _ _ k1 nt_lst) (k2.up s2.s) m1 m2)⟩
end

/-! ### targets -/
def Gt (T : List (Addr × Str)) (ta : Option Addr) (g : TG) (js : List Nat) (d : D) (δ : List Sl) (Ψ : List Sl → Prop) : Prop := ∀ (Hs H : Hp) (σ : L2.St) (v : V) (Q : L2.St → Hp → Prop), Ok T ta δ Hs H σ → At Hs v d →
  (∀ δ' σ', Ψ δ' → Ok T ta δ' Hs H σ' → (∀ (i : Nat) (xs : List D), δ'[i]? = some (.l xs) → δ[i]? = some (.l xs) ∧ σ'[i]? = σ[i]?) → (∀ vs, (∀ j ∈ js, j ∈ vs) → wipe σ' vs = wipe σ vs) → Q σ' H) → g v σ H Q
theorem wipe_set {σ : L2.St} {i : Nat} {o : Option V} : ∀ {vs : List Nat}, i ∈ vs → wipe (σ.set i o) vs = wipe σ vs
  | [], h => by cases h
  | v :: vs, h => by
    unfold wipe
    by_cases z : i ∈ vs
    · rw [wipe_set z]
    · have e : i = v := by
        rcases List.mem_cons.mp h with e | e
        · exact e
        · exact absurd e z
      subst e
      have comm : ∀ {ws : List Nat}, i ∉ ws → wipe (σ.set i o) ws = (wipe σ ws).set i o := by
        intro ws
        induction ws with
        | nil => intro _; rfl
        | cons w ws ih =>
          intro hw
          unfold wipe
          rw [ih (fun q => hw (List.mem_cons_of_mem _ q)), List.set_comm _ _ (fun q => hw (by rw [q]; exact List.mem_cons_self))]
      rw [comm z, List.set_set]
theorem wipe_wipe {σ : L2.St} {vs : List Nat} : wipe (wipe σ vs) vs = wipe σ vs := by
  have key : ∀ (ws : List Nat), (∀ w ∈ ws, w ∈ vs) → wipe (wipe σ ws) vs = wipe σ vs := by
    intro ws
    induction ws with
    | nil => intro _; rfl
    | cons w ws ih =>
      intro h
      show wipe ((wipe σ ws).set w none) vs = _
      rw [wipe_set (h w List.mem_cons_self)]
      exact ih fun x hx => h x (List.mem_cons_of_mem _ hx)
  exact key vs fun _ h => h
def wipeD (δ : List Sl) : List Nat → List Sl
  | [] => δ
  | v :: vs => (wipeD δ vs).set v .any
theorem Ok.wipes {T : List (Addr × Str)} {ta : Option Addr} {δ : List Sl} {Hs H : Hp} {σ : L2.St} (o : Ok T ta δ Hs H σ) : ∀ vs : List Nat, Ok T ta (wipeD δ vs) Hs H (wipe σ vs)
  | [] => o
  | v :: vs => (o.wipes vs).wipe1 v none
section
variable {T : List (Addr × Str)} {ta : Option Addr} {δ : List Sl} {K : PySem.W.Frag} {Ψ : List Sl → Prop}
theorem gt_name {i : Nat} {d : D} (h : Ψ (δ.set i (.d d))) : Gt T ta (gName i) [i] d δ Ψ := fun Hs H σ v Q o a q =>
  q _ _ h (o.set i a) (fun j xs e => by
    by_cases z : i = j
    · subst z
      have hi : i < δ.length := by
        have := (List.getElem?_eq_some_iff.mp e).1
        rwa [List.length_set] at this
      rw [List.getElem?_set_self hi] at e
      cases e
    · rw [List.getElem?_set_ne z] at e
      exact ⟨e, List.getElem?_set_ne z⟩) fun vs hv => wipe_set (hv i List.mem_cons_self)
theorem gt_pair {g1 g2 : TG} {js1 js2 : List Nat} {x y : D} (h : Gt T ta g1 js1 x δ fun δ1 => Gt T ta g2 js2 y δ1 Ψ) : Gt T ta (gTup K 2 (gCons g1 (gCons g2 gNil))) (js1 ++ js2) (.tuple [x, y]) δ Ψ := fun Hs H σ v Q o a q => by
  cases a with
  | @tup p vs _ k1 k2 =>
    cases k2 with
    | @cons v1 _ _ _ a1 k2 =>
      cases k2 with
      | @cons v2 _ _ _ a2 k2 =>
        cases k2
        refine ⟨p, [v1, v2], rfl, SqT.of (o.ext _ _ k1 nt_tup), rfl, v1, [v2], rfl, ?_⟩
        refine h Hs H σ v1 _ o a1 fun δ1 σ1 h1 o1 l1 w1 => ?_
        refine ⟨v2, [], rfl, ?_⟩
        refine h1 Hs H σ1 v2 _ o1 a2 fun δ2 σ2 h2 o2 l2 w2 => ?_
        refine ⟨rfl, q δ2 σ2 h2 o2 (fun i xs e => ?_) fun vs hv => ?_⟩
        · obtain ⟨e1, e2⟩ := l2 i xs e
          obtain ⟨e3, e4⟩ := l1 i xs e1
          exact ⟨e3, e2.trans e4⟩
        · rw [w2 vs fun j hj => hv j (List.mem_append_right _ hj), w1 vs fun j hj => hv j (List.mem_append_left _ hj)]
end
end G
set_option Elab.async false
set_option linter.all false
set_option maxRecDepth 100000
set_option maxHeartbeats 1000000
/-! own layer: comprehensions, statements, loops, defs -/
namespace G
open PySem PySem.Spec L2 LamX

section
variable {T : List (Addr × Str)} {ta : Option Addr} {Hs H Hs1 H1 Hs2 H2 : Hp}
/-- a list of one's own, new since H, is changed -/
theorem Stp.mut {a : Addr} {vs us : List V} (s : Stp T ta Hs H Hs1 H1) (n : Fr H a) (n1 : Fr Hs1 a) (nt : some a ≠ ta) (h : H1 a = some (.lst vs)) : Stp T ta Hs H Hs1 (upd H1 a (.lst us)) where
  s := s.s
  e := fun b o q r z => by
    rw [upd_ne (fr_ne n q r)]
    exact s.e b o q r z
  k := fun b o q r => by
    obtain ⟨o1, e1, r1⟩ := s.k b o q r
    refine ⟨o1, ?_, r1⟩
    rw [upd_ne (fr_ne n q r)]
    exact e1
  x := fun b o q r => by
    rw [upd_ne (fr_ne n1 q r)]
    exact s.x b o q r
  t := tabs_mut s.t h
  n := s.n
  p := fun b eb hb => by
    obtain ⟨l, ns, i, x, y, z, t1, t2, t3⟩ := s.p b eb hb
    have nb : b ≠ a := fun q => nt (by rw [← q, eb])
    exact ⟨l, ns, i, x, y, z, by rw [upd_ne nb]; exact t1, t2, t3⟩
end
section
variable {T : List (Addr × Str)} {ta : Option Addr} {δ : List Sl} {K : PySem.W.Frag} {te : TE} {tt : TT} {wi : TI} {g : TG} {vs js : List Nat}
/-- one turn of a comprehension: the item x gives y (none: it is left out) -/
def Turn (T : List (Addr × Str)) (ta : Option Addr) (g : TG) (js : List Nat) (tt : TT) (te : TE) (δ : List Sl) (x : D) (y : Option D) : Prop :=
  Gt T ta g js x δ fun δ2 => EvT T ta tt δ2 fun b => (b = true → ∃ z, y = some z ∧ Ev T ta te δ2 fun d => d = z) ∧ (b = false → y = none)
theorem evl_lcM {α : Type} {Φ : List D → Prop} (hj : ∀ j ∈ js, j ∈ vs) (h : EvI T ta wi δ fun ds => ∃ (xs : List α) (e : α → D) (f : α → Option D), ds = xs.map e ∧ xs.length ≤ 1000000 ∧ (∀ x ∈ xs, Turn T ta g js tt te (wipeD δ vs) (e x) (f x)) ∧ Φ (xs.filterMap f)) : EvL T ta (tLc wi g tt te vs) δ Φ := fun Hs H σ Q o q => by
  refine h Hs H σ _ o fun ds0 J H1s H1 ⟨ds, en, f, eds, hz, hf, hp⟩ s1 wk => ?_
  subst eds
  intro L hL
  have o1 := o.step s1
  have nL : some L ≠ ta := o1.nta (fr_none hL)
  refine ⟨fun i m H' => m = ds.length - i ∧ i ≤ ds.length ∧ ∃ Hs' us, Stp T ta H1s H1 Hs' H' ∧ Fr Hs' L ∧ H' L = some (.lst us) ∧ AtAll Hs' us ((ds.take i).filterMap f), ⟨ds.length, rfl, Nat.zero_le _, H1s, [], Stp.own o1.ext o1.tab hL, stable_free o1.ext hL, upd_same, .nil⟩, ?_⟩
  rintro i m H' ⟨rfl, hi, Hs', us, st, fr, hl, ha⟩
  obtain ⟨w1, w2⟩ := wk Hs' H' i st.s st.x st.t
  by_cases hlt : i < ds.length
  · have hd : ds[i]? = some ds[i] := List.getElem?_eq_getElem hlt
    have hd' : (ds.map en)[i]? = some (en ds[i]) := by rw [List.getElem?_map, hd]; rfl
    obtain ⟨go, yl⟩ := w1 _ hd'
    refine .inr ⟨go, fun H'' => ds.length - (i + 1) = ds.length - (i + 1) ∧ i + 1 ≤ ds.length ∧ ∃ Hs' us, Stp T ta H1s H1 Hs' H'' ∧ Fr Hs' L ∧ H'' L = some (.lst us) ∧ AtAll Hs' us ((ds.take (i + 1)).filterMap f), fun H'' k => ⟨ds.length - (i + 1), by omega, k⟩, fun x H2 y => ?_⟩
    obtain ⟨H2s, s2, ax⟩ := yl x H2 y
    have st2 := st.trans s2
    have hl2 := s2.e _ _ hl nt_lst nL
    have fr2 := s2.n _ _ hl nt_lst fr
    have ow := (o1.step st2).wipes vs
    refine hf ds[i] (List.getElem_mem hlt) H2s H2 _ x _ ow ax fun δ2 σ2 h2 o2 _ w => ⟨by rw [w vs hj, wipe_wipe], ?_⟩
    refine h2 H2s H2 σ2 _ o2 fun b H3s H3 ⟨h3, h4⟩ s3 => ?_
    have et : (ds.take (i + 1)) = ds.take i ++ [ds[i]] := by rw [List.take_add_one, hd]; rfl
    cases b with
    | true =>
      obtain ⟨z, ez, h5⟩ := h3 rfl
      show te σ2 H3 _
      refine h5 H3s H3 σ2 _ (o2.step s3) fun d v H4s H4 ed s4 a4 => ?_
      subst ed
      have s34 := s3.trans s4
      have hl4 := s34.e _ _ hl2 nt_lst nL
      have fr4 := s34.n _ _ hl2 nt_lst fr2
      have hlen : us.length ≤ ds.length := by
        rw [ha.len]
        refine Nat.le_trans (List.length_filterMap_le _ _) ?_
        rw [List.length_take]
        exact Nat.min_le_right _ _
      refine ⟨us, hl4, Nat.lt_of_le_of_lt (Nat.le_trans hlen hz) (by decide), rfl, hlt, H4s, us ++ [v], (st2.trans s34).mut (fr_none hL) fr4 nL hl4, fr4, upd_same, ?_⟩
      rw [et, List.filterMap_append]
      have e1 : [ds[i]].filterMap f = [d] := by simp [ez]
      rw [e1]
      exact ((ha.up s2.s).up s34.s).app (.one a4)
    | false =>
      show _ ∧ _
      refine ⟨rfl, hlt, H3s, us, st2.trans s3, s3.n _ _ hl2 nt_lst fr2, s3.e _ _ hl2 nt_lst nL, ?_⟩
      rw [et, List.filterMap_append]
      have e1 : [ds[i]].filterMap f = [] := by simp [h4 rfl]
      rw [e1, List.append_nil]
      exact (ha.up s2.s).up s3.s
  · have ei : i = ds.length := by omega
    subst ei
    rw [List.take_length] at ha
    refine .inl ⟨w2 (by rw [List.length_map]; exact Nat.le_refl _), q _ L us Hs' H' hp (s1.trans st) ?_ fr hl ha⟩
    exact s1.back hL
theorem evl_lc {Φ : List D → Prop} (hj : ∀ j ∈ js, j ∈ vs) (h : EvI T ta wi δ fun ds => ds.length ≤ 1000000 ∧ ∃ f : D → Option D, (∀ x ∈ ds, Turn T ta g js tt te (wipeD δ vs) x (f x)) ∧ Φ (ds.filterMap f)) : EvL T ta (tLc wi g tt te vs) δ Φ :=
  evl_lcM hj fun Hs H σ R o q => h Hs H σ R o fun ds J Hs' H' ⟨hz, f, hf, hp⟩ s w => q ds J Hs' H' ⟨ds, id, f, by simp, hz, hf, hp⟩ s w

end

/-! ### statements -/
structure Po where
  nx : List Sl → Prop
  rt : D → Prop
  bk : List Sl → Prop := fun _ => False
  ct : List Sl → Prop := fun _ => False
/-- a def's body on its way: it began at H0 with the stable part H0s -/
structure In (T : List (Addr × Str)) (ta : Option Addr) (H0s H0 : Hp) (δ : List Sl) (Hs H : Hp) (σ : L2.St) : Prop where
  ok : Ok T ta δ Hs H σ
  st : Stp T ta H0s H0 Hs H
  fr : ∀ (i : Nat) (xs : List D) (a : Addr), δ[i]? = some (.l xs) → σ[i]? = some (some (.ref a)) → Fr H0 a
def Sv (T : List (Addr × Str)) (ta : Option Addr) (ts : TS) (δ : List Sl) (P : Po) : Prop := ∀ (H0s H0 Hs H : Hp) (σ : L2.St) (De : Ends), In T ta H0s H0 δ Hs H σ →
  (∀ δ' Hs' H' σ', P.nx δ' → In T ta H0s H0 δ' Hs' H' σ' → De.nx σ' H') → (∀ δ' Hs' H' σ', P.bk δ' → In T ta H0s H0 δ' Hs' H' σ' → De.bk σ' H') → (∀ δ' Hs' H' σ', P.ct δ' → In T ta H0s H0 δ' Hs' H' σ' → De.ct σ' H') →
  (∀ d v Hs' H', P.rt d → Stp T ta H0s H0 Hs' H' → At Hs' v d → De.rt v H') → ts De σ H
section
variable {T : List (Addr × Str)} {ta : Option Addr} {δ : List Sl} {K : PySem.W.Frag} {te ti tb : TE} {t : TT} {ts us : TS} {P P' : Po} {H0s H0 Hs H Hs1 H1 : Hp} {σ : L2.St}
theorem In.step (n : In T ta H0s H0 δ Hs H σ) (s : Stp T ta Hs H Hs1 H1) : In T ta H0s H0 δ Hs1 H1 σ := ⟨n.ok.step s, n.st.trans s, n.fr⟩
theorem set_l {i j : Nat} {x : D} {xs : List D} (e : (δ.set i (.d x))[j]? = some (.l xs)) : i ≠ j ∧ δ[j]? = some (.l xs) := by
  by_cases z : i = j
  · subst z
    have hi : i < δ.length := by
      have := (List.getElem?_eq_some_iff.mp e).1
      rwa [List.length_set] at this
    rw [List.getElem?_set_self hi] at e
    cases e
  · rw [List.getElem?_set_ne z] at e
    exact ⟨z, e⟩
theorem In.set (n : In T ta H0s H0 δ Hs H σ) (i : Nat) {v : V} {x : D} (a : At Hs v x) : In T ta H0s H0 (δ.set i (.d x)) Hs H (σ.set i (some v)) :=
  ⟨n.ok.set i a, n.st, fun j xs b e q => by
    obtain ⟨z, e⟩ := set_l e
    rw [List.getElem?_set_ne z] at q
    exact n.fr j xs b e q⟩
theorem In.freeze (n : In T ta H0s H0 δ Hs H σ) {i : Nat} {xs : List D} (e : δ[i]? = some (.l xs)) : ∃ Hs', In T ta H0s H0 (δ.set i (.d (.list xs))) Hs' H σ := by
  obtain ⟨a, vs, q, h1, h2, x, o⟩ := n.ok.freeze e
  have f := n.fr i xs a e q
  refine ⟨_, o, ⟨n.st.s.trans x, n.st.e, n.st.k, o.ext, n.st.t, fun b u hb r z => fr_upd (n.st.n b u hb r z) (fr_ne f hb r), fun b eb hb => ?_⟩, fun j ys b ej qj => ?_⟩
  · obtain ⟨l, ns, k, x1, y1, z1, t1, t2, t3⟩ := n.st.p b eb hb
    exact ⟨l, ns, k, x1, y1, z1, t1, x _ _ t2 nt_lst, t3⟩
  · obtain ⟨_, ej⟩ := set_l ej
    exact n.fr j ys b ej qj
theorem sv_imp (h : Sv T ta ts δ P) (k1 : ∀ d, P.nx d → P'.nx d) (k2 : ∀ d, P.rt d → P'.rt d) (k3 : ∀ d, P.bk d → P'.bk d) (k4 : ∀ d, P.ct d → P'.ct d) : Sv T ta ts δ P' := fun A B C E σ De n q1 q2 q3 q4 =>
  h A B C E σ De n (fun d a b c p => q1 d a b c (k1 d p)) (fun d a b c p => q2 d a b c (k3 d p)) (fun d a b c p => q3 d a b c (k4 d p)) fun d v a b p => q4 d v a b (k2 d p)
theorem sv_seq (h : Sv T ta ts δ { P with nx := fun δ' => Sv T ta us δ' P }) : Sv T ta (tSeq ts us) δ P := fun A B C E σ De n q1 q2 q3 q4 =>
  h A B C E σ { De with nx := us De } n (fun d a b c p n' => p A B a b c De n' q1 q2 q3 q4) q2 q3 q4
theorem sv_next (h : P.nx δ) : Sv T ta tNext δ P := fun A B C E σ De n q1 q2 q3 q4 => q1 δ C E σ h n
theorem sv_brk (h : P.bk δ) : Sv T ta tBreak δ P := fun A B C E σ De n q1 q2 q3 q4 => q2 δ C E σ h n
theorem sv_never (h : False) : Sv T ta ts δ P := h.elim
theorem sv_ret (h : Ev T ta te δ P.rt) : Sv T ta (tRet te) δ P := fun A B C E σ De n q1 q2 q3 q4 =>
  h C E σ _ n.ok fun d v a b p s at_ => q4 d v a b p (n.st.trans s) at_
theorem sv_retN (h : P.rt .none) : Sv T ta tRetN δ P := fun A B C E σ De n q1 q2 q3 q4 => q4 .none .non C E h n.st .non
theorem sv_set {i : Nat} (h : Ev T ta te δ fun d => P.nx (δ.set i (.d d))) : Sv T ta (tAsg te (gName i)) δ P := fun A B C E σ De n q1 q2 q3 q4 =>
  h C E σ _ n.ok fun d v a b p s at_ => q1 _ a b _ p ((n.step s).set i at_)
theorem sv_setL {i : Nat} (h : EvL T ta te δ fun xs => P.nx (δ.set i (.l xs))) : Sv T ta (tAsg te (gName i)) δ P := fun A B C E σ De n q1 q2 q3 q4 =>
  h C E σ _ n.ok fun xs l vs a b p s f1 f2 e1 at_ => by
    have n1 := n.step s
    have nl : some l ≠ ta := n.ok.nta f1
    have fB : Fr B l := fun o e r => by
      obtain ⟨o1, h1, r1⟩ := n.st.k l o e r
      exact f1 o1 h1 r1
    refine q1 _ a b _ p ⟨n1.ok.setL i f2 nl e1 at_ fun j ys ej qj => ?_, n1.st, fun j ys c ej qj => ?_⟩
    · obtain ⟨w, e3, a', vs', e4, _, _, h3, _⟩ := n.ok.at_ j _ ej
      rw [qj] at e3
      cases e3
      cases e4
      exact f1 _ h3 nt_lst
    · by_cases z : i = j
      · subst z
        have hi : i < σ.length := by
          have := (List.getElem?_eq_some_iff.mp qj).1
          rwa [List.length_set] at this
        rw [List.getElem?_set_self hi] at qj
        cases qj
        exact fB
      · rw [List.getElem?_set_ne z] at ej qj
        exact n.fr j ys c ej qj
theorem sv_asg {g : TG} {js : List Nat} (h : Ev T ta te δ fun d => Gt T ta g js d δ P.nx) : Sv T ta (tAsg te g) δ P := fun A B C E σ De n q1 q2 q3 q4 =>
  h C E σ _ n.ok fun d v a b p s at_ => by
    have n1 := n.step s
    exact p a b σ v De.nx n1.ok at_ fun δ' σ' p' o' l' _ => q1 δ' a b σ' p' ⟨o', n1.st, fun i xs c e q => by
      obtain ⟨e1, e2⟩ := l' i xs e
      rw [e2] at q
      exact n.fr i xs c e1 q⟩
theorem sv_aug {i : Nat} {f : Int → Int → Int} {a : Int} (e : δ[i]? = some (.d (.int a))) (h : Ev T ta te δ fun d => ∃ b, d = .int b ∧ P.nx (δ.set i (.d (.int (f a b))))) : Sv T ta (tAug i te (ipI f)) δ P := fun A B C E σ De n q1 q2 q3 q4 => by
  obtain ⟨v, e1, e2⟩ := n.ok.get e
  cases e2
  refine ⟨.int a, e1, ?_⟩
  refine h C E σ _ n.ok fun d v a' b ⟨z, e3, p⟩ s at_ => ?_
  subst e3
  cases at_
  exact ⟨a, z, rfl, rfl, q1 _ a' b _ p ((n.step s).set i (.int _))⟩
theorem sv_if (h : EvT T ta t δ fun b => (b = true → Sv T ta ts δ P) ∧ (b = false → Sv T ta us δ P)) : Sv T ta (tIfS t ts us) δ P := fun A B C E σ De n q1 q2 q3 q4 =>
  h C E σ _ n.ok fun b a c ⟨h1, h2⟩ s => by
    cases b with
    | true => exact h1 rfl A B a c σ De (n.step s) q1 q2 q3 q4
    | false => exact h2 rfl A B a c σ De (n.step s) q1 q2 q3 q4
theorem sv_drop (h : Ev T ta te δ fun _ => P.nx δ) : Sv T ta (tDrop te) δ P := fun A B C E σ De n q1 q2 q3 q4 =>
  h C E σ _ n.ok fun d v a b p s at_ => q1 δ a b σ p (n.step s)
theorem sv_freeze (i : Nat) {xs : List D} (e : δ[i]? = some (.l xs)) (h : Sv T ta ts (δ.set i (.d (.list xs))) P) : Sv T ta ts δ P := fun A B C E σ De n q1 q2 q3 q4 => by
  obtain ⟨Hs', n'⟩ := n.freeze e
  exact h A B Hs' E σ De n' q1 q2 q3 q4
/-- forgetting -/
theorem sv_forget (i : Nat) (h : Sv T ta ts (δ.set i .any) P) : Sv T ta ts δ P := fun A B C E σ De n q1 q2 q3 q4 => by
  have key : In T ta A B (δ.set i .any) C E σ := by
    have o := n.ok.wipe1 i ((σ[i]?).getD none)
    have e : σ.set i ((σ[i]?).getD none) = σ := by
      apply List.ext_getElem?
      intro j
      by_cases z : i = j
      · subst z
        by_cases hi : i < σ.length
        · rw [List.getElem?_set_self hi, List.getElem?_eq_getElem hi]
          rfl
        · rw [List.getElem?_eq_none (by simpa using hi), List.getElem?_eq_none (by simpa using hi)]
      · rw [List.getElem?_set_ne z]
    rw [e] at o
    refine ⟨o, n.st, fun j xs a ej q => ?_⟩
    by_cases z : i = j
    · subst z
      have hi : i < δ.length := by
        have := (List.getElem?_eq_some_iff.mp ej).1
        rwa [List.length_set] at this
      rw [List.getElem?_set_self hi] at ej
      cases ej
    · rw [List.getElem?_set_ne z] at ej
      exact n.fr j xs a ej q
  exact h A B C E σ De key q1 q2 q3 q4
theorem In.mut (n : In T ta H0s H0 δ Hs H σ) {i : Nat} {a : Addr} {xs ys : List D} {vs us : List V} (e : δ[i]? = some (.l xs)) (q : σ[i]? = some (some (.ref a))) (h1 : Fr Hs a) (h2 : some a ≠ ta) (h3 : H a = some (.lst vs)) (h4 : AtAll Hs us ys) :
    In T ta H0s H0 (δ.set i (.l ys)) Hs (upd H a (.lst us)) σ :=
  ⟨n.ok.mutL i e q h1 h2 h3 h4, n.st.mut (n.fr i xs a e q) h1 h2 h3, fun j zs b ej qj => by
    by_cases z : i = j
    · subst z
      exact n.fr i xs b e qj
    · rw [List.getElem?_set_ne z] at ej
      exact n.fr j zs b ej qj⟩
theorem In.own (n : In T ta H0s H0 δ Hs H σ) {i : Nat} {xs : List D} (e : δ[i]? = some (.l xs)) : ∃ a vs, σ[i]? = some (some (.ref a)) ∧ Fr Hs a ∧ some a ≠ ta ∧ H a = some (.lst vs) ∧ AtAll Hs vs xs := by
  obtain ⟨w, e1, a, vs, rfl, h1, h2, h3, h4⟩ := n.ok.at_ i _ e
  exact ⟨a, vs, e1, h1, h2, h3, h4⟩
theorem sv_append {i : Nat} {xs : List D} (e : δ[i]? = some (.l xs)) (hz : xs.length < 1000000) (h : Ev T ta te δ fun d => P.nx (δ.set i (.l (xs ++ [d])))) : Sv T ta (tDrop (tBM K "list" rAppend (tVar i) (tCons te tNil))) δ P := fun A B C E σ De n q1 q2 q3 q4 => by
  obtain ⟨l, vs, e1, f1, f2, e2, a1⟩ := n.own e
  refine ⟨_, e1, .inl ⟨rfl, _, SqL.of e2⟩, ?_⟩
  refine h C E σ _ n.ok fun d v a b p s at_ => ?_
  have n1 := n.step s
  have e3 := s.e _ _ e2 nt_lst f2
  refine ⟨l, vs, v, rfl, rfl, e3, by rw [a1.len]; exact Nat.lt_trans hz (by decide), ?_⟩
  exact q1 _ a _ _ p (n1.mut e e1 (s.n _ _ e2 nt_lst f1) f2 e3 ((a1.up s.s).app (.one at_)))
theorem sv_extend {i : Nat} {xs : List D} (e : δ[i]? = some (.l xs)) (h : EvS T ta te δ fun ys => xs.length + ys.length ≤ 1000000 ∧ P.nx (δ.set i (.l (xs ++ ys)))) : Sv T ta (tDrop (tBM K "list" rExtend (tVar i) (tCons te tNil))) δ P := fun A B C E σ De n q1 q2 q3 q4 => by
  obtain ⟨l, vs, e1, f1, f2, e2, a1⟩ := n.own e
  refine ⟨_, e1, .inl ⟨rfl, _, SqL.of e2⟩, ?_⟩
  refine h C E σ _ n.ok fun ys b' us a b ⟨hz, p⟩ s e4 nb at_ => ?_
  have n1 := n.step s
  have e3 := s.e _ _ e2 nt_lst f2
  refine ⟨l, b', vs, us, rfl, rfl, e3, e4, by rw [a1.len, at_.len]; exact Nat.le_trans hz (by decide), ?_⟩
  exact q1 _ a _ _ p (n1.mut e e1 (s.n _ _ e2 nt_lst f1) f2 e3 ((a1.up s.s).app at_))
theorem sv_setitem {i : Nat} {xs : List D} (e : δ[i]? = some (.l xs)) (h : Ev T ta te δ fun d => Ev T ta ti δ fun k => ∃ (z : Int) (j : Nat), k = .int z ∧ ixN xs.length z = some j ∧ P.nx (δ.set i (.l (xs.set j d)))) : Sv T ta (tAsg te (gSub (tVar i) ti rSetL)) δ P := fun A B C E σ De n q1 q2 q3 q4 => by
  obtain ⟨l, vs, e1, f1, f2, e2, a1⟩ := n.own e
  refine h C E σ _ n.ok fun d v a b p s at_ => ?_
  refine ⟨_, e1, ?_⟩
  have n1 := n.step s
  refine p a b σ _ n1.ok fun k u a2 b2 ⟨z, j, ek, ej, p2⟩ s2 at2 => ?_
  subst ek
  cases at2
  have n2 := n1.step s2
  have s12 := s.trans s2
  have e3 := s12.e _ _ e2 nt_lst f2
  refine ⟨l, vs, z, j, rfl, rfl, e3, by rw [a1.len]; exact ej, ?_⟩
  exact q1 _ a2 _ _ p2 (n2.mut e e1 (s12.n _ _ e2 nt_lst f1) f2 e3 ((a1.up s12.s).set j (at_.up s2.s)))
/-! loops -/
open Classical in
/-- the heap without the lists of one's own -/
noncomputable def bare (δ : List Sl) (σ : L2.St) (H : Hp) : Hp := fun b => if ∃ (i : Nat) (xs : List D), δ[i]? = some (.l xs) ∧ σ[i]? = some (some (.ref b)) then none else H b
theorem bare_some {b : Addr} {o : HO} (h : bare δ σ H b = some o) : H b = some o ∧ ¬ ∃ (i : Nat) (xs : List D), δ[i]? = some (.l xs) ∧ σ[i]? = some (some (.ref b)) := by
  unfold bare at h
  split at h
  · cases h
  · rename_i q
    exact ⟨h, q⟩
theorem bare_at {b : Addr} {o : HO} (h : H b = some o) (q : ¬ ∃ (i : Nat) (xs : List D), δ[i]? = some (.l xs) ∧ σ[i]? = some (some (.ref b))) : bare δ σ H b = some o := by
  unfold bare
  rw [if_neg q]
  exact h
theorem In.rebase (n : In T ta H0s H0 δ Hs H σ) : In T ta Hs (bare δ σ H) δ Hs H σ := by
  refine ⟨n.ok, ⟨ExtN.refl _, fun b o h _ _ => (bare_some h).1, fun b o h q => ⟨o, (bare_some h).1, q⟩, n.ok.ext, n.ok.tab, fun _ _ _ _ h => h, fun a _ ⟨l, ns, i, x, y, z, h1, h2, h3⟩ => ⟨l, ns, i, x, y, z, (bare_some h1).1, h2, h3⟩⟩, fun i xs a e q o h _ => ?_⟩
  exact (bare_some h).2 ⟨i, xs, e, q⟩
theorem In.stp (n : In T ta H0s H0 δ Hs H σ) (s : Stp T ta Hs (bare δ σ H) Hs1 H1) : Stp T ta H0s H0 Hs1 H1 := by
  have out : ∀ b o, H0 b = some o → NT o → ¬ ∃ (i : Nat) (xs : List D), δ[i]? = some (.l xs) ∧ σ[i]? = some (some (.ref b)) := fun b o h q ⟨i, xs, e1, e2⟩ => n.fr i xs b e1 e2 o h q
  refine ⟨n.st.s.trans s.s, fun b o h q z => s.e b o (bare_at (n.st.e b o h q z) (out b o h q)) q z, fun b o h q => ?_, s.x, s.t, fun b o h q z => ?_, fun a e h => ?_⟩
  · obtain ⟨o1, h1, q1⟩ := n.st.k b o h q
    exact s.k b o1 (bare_at h1 (out b o h q)) q1
  · obtain ⟨o1, h1, q1⟩ := n.st.k b o h q
    exact s.n b o1 (bare_at h1 (out b o h q)) q1 (n.st.n b o h q z)
  · refine s.p a e ?_
    obtain ⟨_, l, ns, i, x, y, z, h1, h2, h3⟩ := n.ok.tp a e
    refine ⟨l, ns, i, x, y, z, bare_at h1 ?_, h2, h3⟩
    rintro ⟨j, xs, e1, e2⟩
    obtain ⟨w, e3, b, vs, e4, _, k2, _⟩ := n.ok.at_ j _ e1
    rw [e2] at e3
    cases e3
    cases e4
    exact k2 e.symm
theorem In.unbase {δ' : List Sl} {σ' : L2.St} (n : In T ta H0s H0 δ Hs H σ) (m : In T ta Hs (bare δ σ H) δ' Hs1 H1 σ') : In T ta H0s H0 δ' Hs1 H1 σ' := by
  refine ⟨m.ok, n.stp m.st, fun i xs a e q o h r => ?_⟩
  obtain ⟨o1, h1, q1⟩ := n.st.k a o h r
  by_cases z : ∃ (i : Nat) (xs : List D), δ[i]? = some (.l xs) ∧ σ[i]? = some (some (.ref a))
  · obtain ⟨j, ys, e1, e2⟩ := z
    exact n.fr j ys a e1 e2 o h r
  · exact m.fr i xs a e q o1 (bare_at h1 z) q1
theorem sv_for {wi : TI} {g : TG} {js : List Nat} (h : EvI T ta wi δ fun ds => ∃ I : Nat → List Sl → Prop, I 0 δ ∧ (∀ i d δ', ds[i]? = some d → I i δ' → Gt T ta g js d δ' fun δ2 => Sv T ta ts δ2 { nx := I (i + 1), rt := P.rt, bk := P.nx, ct := I (i + 1) }) ∧ ∀ δ', I ds.length δ' → P.nx δ') :
    Sv T ta (tFor wi g ts) δ P := fun A B C E σ De n q1 q2 q3 q4 => by
  refine h C E σ _ n.ok fun ds J C1 E1 ⟨I, i0, st, en⟩ s wk => ?_
  have n1 := n.step s
  refine ⟨fun i m σ' H' => m = ds.length - i ∧ i ≤ ds.length ∧ ∃ δ' Hs', I i δ' ∧ In T ta C1 (bare δ σ E1) δ' Hs' H' σ', ⟨ds.length, rfl, Nat.zero_le _, δ, C1, i0, n1.rebase⟩, ?_⟩
  rintro i m σ' H' ⟨rfl, hi, δ', Hs', hI, m1⟩
  obtain ⟨w1, w2⟩ := wk Hs' H' i m1.st.s m1.ok.ext m1.ok.tab
  by_cases hlt : i < ds.length
  · have hd : ds[i]? = some ds[i] := List.getElem?_eq_getElem hlt
    obtain ⟨go, yl⟩ := w1 _ hd
    refine .inr ⟨go, fun σ2 H2 => ds.length - (i + 1) = ds.length - (i + 1) ∧ i + 1 ≤ ds.length ∧ ∃ δ' Hs', I (i + 1) δ' ∧ In T ta C1 (bare δ σ E1) δ' Hs' H2 σ2, fun σ2 H2 k => ⟨ds.length - (i + 1), by omega, k⟩, fun x H2 y => ?_⟩
    obtain ⟨H2s, s2, ax⟩ := yl x H2 y
    have m2 := m1.step s2
    refine st i ds[i] δ' hd hI H2s H2 σ' x _ m2.ok ax fun δ3 σ3 h3 o3 l3 _ => ?_
    refine h3 C1 (bare δ σ E1) H2s H2 σ3 _ ⟨o3, m2.st, fun j xs c e q => ?_⟩ (fun δ4 a b c p n4 => ⟨rfl, hlt, δ4, a, p, n4⟩) (fun δ4 a b c p n4 => q1 δ4 a b c p (n1.unbase n4)) (fun δ4 a b c p n4 => ⟨rfl, hlt, δ4, a, p, n4⟩) fun d v a b p s5 at_ => q4 d v a b p (n1.stp s5) at_
    obtain ⟨e1, e2⟩ := l3 j xs e
    rw [e2] at q
    exact m2.fr j xs c e1 q
  · have ei : i = ds.length := by omega
    subst ei
    exact .inl ⟨w2 (Nat.le_refl _), q1 δ' Hs' H' σ' (en δ' hI) (n1.unbase m1)⟩
theorem sv_while (I : Nat → List Sl → Prop) (m0 : Nat) (i0 : I m0 δ) (st : ∀ m δ', I m δ' → EvT T ta t δ' fun b => (b = true → Sv T ta ts δ' { nx := fun δ2 => ∃ m', m' < m ∧ I m' δ2, rt := P.rt, bk := P.nx, ct := fun δ2 => ∃ m', m' < m ∧ I m' δ2 }) ∧ (b = false → P.nx δ')) :
    Sv T ta (tWhile t ts) δ P := fun A B C E σ De n q1 q2 q3 q4 => by
  refine ⟨fun m σ' H' => ∃ δ' Hs', I m δ' ∧ In T ta A B δ' Hs' H' σ', ⟨m0, δ, C, i0, n⟩, ?_⟩
  rintro m σ' H' ⟨δ', Hs', hI, m1⟩
  refine st m δ' hI Hs' H' σ' _ m1.ok fun b H2s H2 ⟨h1, h2⟩ s => ?_
  have m2 := m1.step s
  cases b with
  | true =>
    show ∃ N : L2.St → Hp → Prop, _
    refine ⟨fun σ3 H3 => ∃ m', m' < m ∧ ∃ δ3 H3s, I m' δ3 ∧ In T ta A B δ3 H3s H3 σ3, fun σ3 H3 k => k, ?_⟩
    exact h1 rfl A B H2s H2 σ' _ m2 (fun δ4 a b c ⟨m', l, p⟩ n4 => ⟨m', l, δ4, a, p, n4⟩) (fun δ4 a b c p n4 => q1 δ4 a b c p n4) (fun δ4 a b c ⟨m', l, p⟩ n4 => ⟨m', l, δ4, a, p, n4⟩) q4
  | false =>
    show De.nx σ' H2
    exact q1 δ' H2s H2 σ' (h2 rfl) m2
end

/-! ### defs -/
section
variable {P : Program} {w : World} {K : PySem.W.Frag} {mg : Str → Option Value} {base : Heap} {T : List (Addr × Str)}
def start0 (N : List Str) (ds : List D) : List Sl := ds.map .d ++ List.replicate (N.length - ds.length) .any
theorem start_ok {Hs H : Hp} {N : List Str} {vs : List V} {ds : List D} (x : ExtN Hs H) (t : Tabs T H) (a : AtAll Hs vs ds) : In T none Hs H (start0 N ds) Hs H (L2.start N vs) := by
  have hl := a.len
  refine ⟨⟨x, t, (fun b e => by cases e), ?_, fun i sl e => ?_, fun i j b xs ys e => ?_⟩, Stp.refl x t, fun i xs b e => ?_⟩
  · unfold L2.start start0
    rw [List.length_append, List.length_append, List.length_map, List.length_map, List.length_replicate, List.length_replicate, hl]
  · unfold start0 at e
    unfold L2.start
    by_cases hi : i < ds.length
    · rw [List.getElem?_append_left (by simpa using hi), List.getElem?_map, List.getElem?_eq_getElem hi] at e
      cases e
      obtain ⟨v, e1, e2⟩ := a.get (List.getElem?_eq_getElem hi)
      rw [List.getElem?_append_left (by rw [List.length_map, hl]; exact hi), List.getElem?_map, e1]
      exact ⟨some v, rfl, v, rfl, e2⟩
    · rw [List.getElem?_append_right (by simpa using hi), List.getElem?_replicate] at e
      split at e
      · rename_i hlt
        cases e
        refine ⟨none, ?_, trivial⟩
        rw [List.getElem?_append_right (by rw [List.length_map, hl]; omega), List.getElem?_replicate, if_pos (by rw [List.length_map] at hlt ⊢; rw [hl]; exact hlt)]
      · cases e
  · exfalso
    unfold start0 at e
    by_cases hi : i < ds.length
    · rw [List.getElem?_append_left (by simpa using hi), List.getElem?_map, List.getElem?_eq_getElem hi] at e
      cases e
    · rw [List.getElem?_append_right (by simpa using hi), List.getElem?_replicate] at e
      split at e <;> cases e
  · exfalso
    unfold start0 at e
    by_cases hi : i < ds.length
    · rw [List.getElem?_append_left (by simpa using hi), List.getElem?_map, List.getElem?_eq_getElem hi] at e
      cases e
    · rw [List.getElem?_append_right (by simpa using hi), List.getElem?_replicate] at e
      split at e <;> cases e
/-- a def keeps a promise -/
structure Keeps (P : Program) (w : World) (K : PySem.W.Frag) (mg : Str → Option Value) (base : Heap) (d : He.DefD) (ps : List Str) (k : Nat) (sp : Sp) : Prop where
  ex : ∃ fd, FnOk P w K mg base CX0 k (He.fAd K d.at_) fd ps sp ∧ Binds K fd ps []
  kp : PySem.W.keepIn K (.ref (He.fAd K d.at_)) = true
theorem Keeps.mono {d : He.DefD} {ps : List Str} {j k : Nat} {sp : Sp} (h : Keeps P w K mg base d ps j sp) (l : j ≤ k) : Keeps P w K mg base d ps k sp :=
  ⟨let ⟨fd, a, b⟩ := h.ex; ⟨fd, a.mono l, b⟩, h.kp⟩
theorem Keeps.imp {d : He.DefD} {ps : List Str} {k : Nat} {sp sp' : Sp} (h : Keeps P w K mg base d ps k sp) (l : ∀ vs H Q E, sp' vs H Q E → sp vs H Q E) : Keeps P w K mg base d ps k sp' :=
  ⟨let ⟨fd, a, b⟩ := h.ex; ⟨fd, a.imp l, b⟩, h.kp⟩
/-- where a def stands -/
structure There (K : PySem.W.Frag) (d : He.DefD) (ps : List Str) : Prop where
  ex : ∃ fd, FunD K d.name d.qual d.params d.body d.scope [] [] (He.fAd K d.at_) fd ∧ Binds K fd ps []
theorem pe_k {X : Cx} {d : He.DefD} {ps : List Str} {k : Nat} {sp : Sp} {p pos : Pos} {e : Expr} {es : List Expr} {t : TA} {x : Str} (h : Keeps X.prog X.w X.K X.mg X.base d ps k sp) (hr : Room k X.A) (hg : Gl X x) (hm : X.mg x = some (.ref (He.fAd X.K d.at_)))
    (ha : PA X (e :: es) t) (hdb : (x == ("__debug__" : Str)) = false := by decide) (he : starEach (e :: es) X.env = (false, eval e X.env) :: starEach es X.env := by rfl) (hpl : (backTo pos (starEach es X.env)).any (·.1) = false := by rfl) :
    PE X (.Call (.Name x p) (e :: es) [] pos) (tCall sp [] E0 t) := by
  obtain ⟨fd, F, b⟩ := h.ex
  exact pe_call F hr hg hm h.kp b .nil pass0 ha hdb he hpl
/-- THE RULE for a def from data to a datum -/
theorem def_ok {d : He.DefD} {N ps : List Str} {k : Nat} {rel : List D → D → Prop} (F : There K d ps) (S : FnScope N ps d.scope) (hl : ∀ ds x, rel ds x → ds.length = ps.length)
    (hb : ∀ (cdv : Value) (A : Around) (outer : List PySem.Env) (s : Shared) (H : Hp) (E : XK), Room k (A.deeper (PyProof.Rows.envOfC d.qual d.scope s.heap.objs.size (He.fAd K d.at_) cdv)) → ∀ ds x, rel ds x →
      ∃ t, PSs (cxOf CX0 P w K mg base N d.qual d.scope (He.fAd K d.at_) cdv A outer s H E).nox d.body t ∧ Sv T none t (start0 N ds) { nx := fun _ => x = .none, rt := fun y => y = x }) :
    Keeps P w K mg base d ps (k + 1) (spD T rel) := by
  obtain ⟨fd, F, b⟩ := F.ex
  refine ⟨⟨fd, F.ok S (fun vs H Q E ⟨Hs, ds, x, _, _, a, r, _⟩ => by rw [a.len]; exact hl ds x r) fun cdv A outer s H vs Q E hr ⟨Hs, ds, x, x1, t1, a, r, q⟩ => ?_, b⟩, F.kp⟩
  obtain ⟨t, h1, h2⟩ := hb cdv A outer s H E hr ds x r
  refine ⟨t, h1.nox, ?_⟩
  refine h2 Hs H Hs H _ _ (start_ok x1 t1 a) (fun δ' a b c e n => ?_) (fun _ _ _ _ z => z.elim) (fun _ _ _ _ z => z.elim) fun y v a b e s1 at_ => ?_
  · have e : x = .none := e
    subst e
    exact q .non a b n.st .non
  · have e : y = x := e
    subst e
    exact q v a b s1 at_
end
end G
set_option Elab.async false
set_option linter.all false
set_option maxRecDepth 100000
set_option maxHeartbeats 1000000
/-! own layer: what the top has, more rules -/
namespace G
open PySem PySem.Spec L2 LamX
structure Bs (K : PySem.W.Frag) (mg : Str → Option Value) : Prop where
  t_is_integer : There K d_is_integer ["thing"]
  m_is_integer : mg "is_integer" = some (.ref (He.fAd K d_is_integer.at_))
  t_is_within : There K d_is_within ["thing", "least", "most"]
  m_is_within : mg "is_within" = some (.ref (He.fAd K d_is_within.at_))
  t_is_pair : There K d_is_pair ["thing"]
  m_is_pair : mg "is_pair" = some (.ref (He.fAd K d_is_pair.at_))
  t_is_triple : There K d_is_triple ["thing"]
  m_is_triple : mg "is_triple" = some (.ref (He.fAd K d_is_triple.at_))
  t_is_word : There K d_is_word ["thing"]
  m_is_word : mg "is_word" = some (.ref (He.fAd K d_is_word.at_))
  t_is_door : There K d_is_door ["thing"]
  m_is_door : mg "is_door" = some (.ref (He.fAd K d_is_door.at_))
  t_is_part : There K d_is_part ["thing", "depth"]
  m_is_part : mg "is_part" = some (.ref (He.fAd K d_is_part.at_))
  t_is_plan_in : There K d_is_plan_in ["thing", "depth"]
  m_is_plan_in : mg "is_plan_in" = some (.ref (He.fAd K d_is_plan_in.at_))
  t_check_plan : There K d_check_plan ["thing"]
  m_check_plan : mg "check_plan" = some (.ref (He.fAd K d_check_plan.at_))
  t_part_key : There K d_part_key ["part"]
  m_part_key : mg "part_key" = some (.ref (He.fAd K d_part_key.at_))
  t_plan_key : There K d_plan_key ["plan"]
  m_plan_key : mg "plan_key" = some (.ref (He.fAd K d_plan_key.at_))
  t_sorted_items : There K d_sorted_items ["items"]
  m_sorted_items : mg "sorted_items" = some (.ref (He.fAd K d_sorted_items.at_))
  t_part_size : There K d_part_size ["part"]
  m_part_size : mg "part_size" = some (.ref (He.fAd K d_part_size.at_))
  t_size_of : There K d_size_of ["plan"]
  m_size_of : mg "size_of" = some (.ref (He.fAd K d_size_of.at_))
  t_parts_within : There K d_parts_within ["plan"]
  m_parts_within : mg "parts_within" = some (.ref (He.fAd K d_parts_within.at_))
  t_items_in : There K d_items_in ["plan"]
  m_items_in : mg "items_in" = some (.ref (He.fAd K d_items_in.at_))
  t_nesting : There K d_nesting ["plan"]
  m_nesting : mg "nesting" = some (.ref (He.fAd K d_nesting.at_))
  t_check_room : There K d_check_room ["items"]
  m_check_room : mg "check_room" = some (.ref (He.fAd K d_check_room.at_))
  t_roomy : There K d_roomy ["plan"]
  m_roomy : mg "roomy" = some (.ref (He.fAd K d_roomy.at_))
  t_gots_at : There K d_gots_at ["plan", "depth"]
  m_gots_at : mg "gots_at" = some (.ref (He.fAd K d_gots_at.at_))
  t_mapped : There K d_mapped ["plan", "depth", "action"]
  m_mapped : mg "mapped" = some (.ref (He.fAd K d_mapped.at_))
  t_raised : There K d_raised ["plan", "by", "least"]
  m_raised : mg "raised" = some (.ref (He.fAd K d_raised.at_))
  t_brought : There K d_brought ["body", "other"]
  m_brought : mg "brought" = some (.ref (He.fAd K d_brought.at_))
  t_roomy_brought : There K d_roomy_brought ["rest", "body", "other"]
  m_roomy_brought : mg "roomy_brought" = some (.ref (He.fAd K d_roomy_brought.at_))
  t_folded : There K d_folded ["door", "body"]
  m_folded : mg "folded" = some (.ref (He.fAd K d_folded.at_))
  t_plain_of : There K d_plain_of ["plan"]
  m_plain_of : mg "plain_of" = some (.ref (He.fAd K d_plain_of.at_))
  t_meetings_of : There K d_meetings_of ["plan"]
  m_meetings_of : mg "meetings_of" = some (.ref (He.fAd K d_meetings_of.at_))
  t_without : There K d_without ["plan", "part"]
  m_without : mg "without" = some (.ref (He.fAd K d_without.at_))
  t_met_of : There K d_met_of ["plan", "meeting"]
  m_met_of : mg "met_of" = some (.ref (He.fAd K d_met_of.at_))
  t_is_meeting_of : There K d_is_meeting_of ["plan", "thing"]
  m_is_meeting_of : mg "is_meeting_of" = some (.ref (He.fAd K d_is_meeting_of.at_))
  t_meetings : There K d_meetings ["plan"]
  m_meetings : mg "meetings" = some (.ref (He.fAd K d_meetings.at_))
  t_met : There K d_met ["plan", "meeting"]
  m_met : mg "met" = some (.ref (He.fAd K d_met.at_))
  t_Graph_init : There K d_Graph_init ["self", "start"]
  t_Graph_number_of : There K d_Graph_number_of ["self", "form"]
  t_Graph_reach : There K d_Graph_reach ["self", "form", "choices"]
  t_Graph_grow : There K d_Graph_grow ["self"]
  t_graph_of : There K d_graph_of ["plan"]
  m_graph_of : mg "graph_of" = some (.ref (He.fAd K d_graph_of.at_))
  t_in_order : There K d_in_order ["links"]
  m_in_order : mg "in_order" = some (.ref (He.fAd K d_in_order.at_))
  t_longest : There K d_longest ["plan"]
  m_longest : mg "longest" = some (.ref (He.fAd K d_longest.at_))
  t_shortest : There K d_shortest ["plan"]
  m_shortest : mg "shortest" = some (.ref (He.fAd K d_shortest.at_))
  t_law_tape : There K d_law_tape ["_law_script"]
  m_law_tape : mg "_law_tape" = some (.ref (He.fAd K d_law_tape.at_))
  t_law_pick : There K d_law_pick ["_law_tape_here", "_law_many"]
  m_law_pick : mg "_law_pick" = some (.ref (He.fAd K d_law_pick.at_))
  t_law_plan : There K d_law_plan ["_law_tape_here", "_law_left", "_law_depth", "_law_letters", "_law_words"]
  m_law_plan : mg "_law_plan" = some (.ref (He.fAd K d_law_plan.at_))
  t_law_part : There K d_law_part ["_law_tape_here", "_law_left", "_law_depth", "_law_letters", "_law_words"]
  m_law_part : mg "_law_part" = some (.ref (He.fAd K d_law_part.at_))
  t_law_part_size : There K d_law_part_size ["_law_part_here"]
  m_law_part_size : mg "_law_part_size" = some (.ref (He.fAd K d_law_part_size.at_))
  t_law_size : There K d_law_size ["_law_plan_here"]
  m_law_size : mg "_law_size" = some (.ref (He.fAd K d_law_size.at_))
  t_law_raise : There K d_law_raise ["_law_plan_here", "_law_by", "_law_least"]
  m_law_raise : mg "_law_raise" = some (.ref (He.fAd K d_law_raise.at_))
  t_law_key : There K d_law_key ["_law_part_here"]
  m_law_key : mg "_law_key" = some (.ref (He.fAd K d_law_key.at_))
  t_law_joined : There K d_law_joined ["_law_items"]
  m_law_joined : mg "_law_joined" = some (.ref (He.fAd K d_law_joined.at_))
  t_law_form : There K d_law_form ["_law_plan_here"]
  m_law_form : mg "_law_form" = some (.ref (He.fAd K d_law_form.at_))
  t_law_pairs : There K d_law_pairs ["_law_form_here"]
  m_law_pairs : mg "_law_pairs" = some (.ref (He.fAd K d_law_pairs.at_))
  t_law_without : There K d_law_without ["_law_form_here", "_law_part_here"]
  m_law_without : mg "_law_without" = some (.ref (He.fAd K d_law_without.at_))
  t_law_raw : There K d_law_raw ["_law_form_here", "_law_pair"]
  m_law_raw : mg "_law_raw" = some (.ref (He.fAd K d_law_raw.at_))
  t_law_brought : There K d_law_brought ["_law_plan_here", "_law_depth", "_law_other"]
  m_law_brought : mg "_law_brought" = some (.ref (He.fAd K d_law_brought.at_))
  t_law_items_in : There K d_law_items_in ["_law_plan_here"]
  m_law_items_in : mg "_law_items_in" = some (.ref (He.fAd K d_law_items_in.at_))
  t_law_stage : There K d_law_stage ["_law_tape_here", "_law_letters", "_law_most"]
  m_law_stage : mg "_law_stage" = some (.ref (He.fAd K d_law_stage.at_))
  t_law_graph : There K d_law_graph ["_law_plan_here", "_law_most"]
  m_law_graph : mg "_law_graph" = some (.ref (He.fAd K d_law_graph.at_))
  t_law_longest : There K d_law_longest ["_law_links"]
  m_law_longest : mg "_law_longest" = some (.ref (He.fAd K d_law_longest.at_))
  t_law_is_count : There K d_law_is_count ["_law_told", "_law_due"]
  m_law_is_count : mg "_law_is_count" = some (.ref (He.fAd K d_law_is_count.at_))
  t_law_fits : There K d_law_fits ["_law_form_here"]
  m_law_fits : mg "_law_fits" = some (.ref (He.fAd K d_law_fits.at_))
  t_law : There K d_law ["_law_script"]
  m_law : mg "law" = some (.ref (He.fAd K d_law.at_))
  isinstance : mg "isinstance" = none
  int : mg "int" = none
  bool : mg "bool" = none
  tuple : mg "tuple" = none
  len : mg "len" = none
  str : mg "str" = none
  all : mg "all" = none
  sum : mg "sum" = none
  list : mg "list" = none
  sorted : mg "sorted" = none
  max : mg "max" = none
  min : mg "min" = none
  range : mg "range" = none
  enumerate : mg "enumerate" = none
  zip : mg "zip" = none
  mostWord : ∃ t, mg "MOST_WORD" = some (.int 8 t)
  mostItems : ∃ t, mg "MOST_ITEMS" = some (.int 5000 t)
  mostNested : ∃ t, mg "MOST_NESTED" = some (.int 120 t)
  mostStandings : ∃ t, mg "MOST_STANDINGS" = some (.int 500 t)
  small : ∃ t, mg "SMALL" = some (.str "abcdefghijklmnopqrstuvwxyz" t)
  ranks : mg "RANKS" = some (.ref (He.ga K "RANKS"))
  rankv : He.valsB K (He.ga K "RANKS") [("name", .int 0), ("mark", .int 1), ("got", .int 2), ("letter", .int 3), ("wait", .int 4)] = true
  graph : mg "Graph" = some (.ref (He.ga K "Graph"))
  gcls : Cls K (He.ga K "Graph")
  g_forms : NoAttr K (He.ga K "Graph") "forms"
  g_by_size : NoAttr K (He.ga K "Graph") "by_size"
  g_links : NoAttr K (He.ga K "Graph") "links"
  g_gates : NoAttr K (He.ga K "Graph") "gates"
  g_earliest : NoAttr K (He.ga K "Graph") "earliest"
  gm_number_of : Meth K (He.ga K "Graph") "number_of" (He.ma K (He.ga K "Graph") "number_of")
  gm_reach : Meth K (He.ga K "Graph") "reach" (He.ma K (He.ga K "Graph") "reach")
  gm_grow : Meth K (He.ga K "Graph") "grow" (He.ma K (He.ga K "Graph") "grow")
  gmk : Mk K (He.ga K "Graph") (He.ma K (He.ga K "Graph") "__init__")
/-! great products -/
def Sm (i : Int) : Prop := i.natAbs.log2 < 50000000
def CMulB (i j : Int) : Prop := i.natAbs.log2 + j.natAbs.log2 < 100000000
theorem CMulB.ok {i j : Int} (h : CMulB i j) : IntMulOk i j := by
  have b : ∀ x : Int, Builtin.Int.intBits x ≤ x.natAbs.log2 + 1 := fun x => by
    unfold Builtin.Int.intBits
    split <;> omega
  have h1 := b i
  have h2 := b j
  have h3 : i.natAbs.log2 + j.natAbs.log2 < 100000000 := h
  have e : bitsLine = 134217728 := by decide
  unfold IntMulOk
  intro z
  rw [Bool.and_eq_true] at z
  have z2 := z.2
  unfold Builtin.Int.intTooBig at z2
  have z3 := of_decide_eq_true z2
  rw [e] at z3
  omega
theorem Sm.mul {i j : Int} (h : Sm i) (k : Sm j) : CMulB i j := by
  have h1 : i.natAbs.log2 < 50000000 := h
  have h2 : j.natAbs.log2 < 50000000 := k
  show i.natAbs.log2 + j.natAbs.log2 < 100000000
  omega
theorem Sm.le {i j : Int} (h : Sm j) (h0 : 0 ≤ i) (l : i ≤ j) : Sm i := by
  have h1 : j.natAbs.log2 < 50000000 := h
  show i.natAbs.log2 < 50000000
  have hn : i.natAbs ≤ j.natAbs := by omega
  by_cases z : i.natAbs = 0
  · rw [z]
    decide
  · have h2 : 2 ^ i.natAbs.log2 ≤ i.natAbs := Nat.log2_self_le z
    have h3 : j.natAbs < 2 ^ (j.natAbs.log2 + 1) := Nat.lt_log2_self
    have h4 : 2 ^ i.natAbs.log2 < 2 ^ (j.natAbs.log2 + 1) := Nat.lt_of_le_of_lt (Nat.le_trans h2 hn) h3
    have h5 := (Nat.pow_lt_pow_iff_right (a := 2) (by decide)).mp h4
    omega
section
variable {X : Cx}
theorem op_mulB : OpR X (binaryOp .Mult) (rI CMulB fun i j => .int (i * j)) := opI fun _ _ _ _ _ _ _ hc q => PyProof.Rows.mul_int q hc.ok
/-- a module's number, text -/
theorem pe_c {x : Str} {i : Int} {pos : Pos} (h : ∃ t, X.mg x = some (.int i t)) (hg : Gl X x := by rfl) (hd : (x == ("__debug__" : Str)) = false := by decide) : PE X (.Name x pos) (tC (.int i)) := by
  obtain ⟨t, h⟩ := h
  exact pe_glob hg h ⟨t, rfl⟩ hd
theorem pe_cs {x y : Str} {pos : Pos} (h : ∃ t, X.mg x = some (.str y t)) (hg : Gl X x := by rfl) (hd : (x == ("__debug__" : Str)) = false := by decide) : PE X (.Name x pos) (tC (.str y)) := by
  obtain ⟨t, h⟩ := h
  exact pe_glob hg h ⟨t, rfl⟩ hd
/-- xs[i], by values -/
def gGetL (K : PySem.W.Frag) : V → V → Hp → VK → Prop := fun o i H Q => rIxL K o i H Q
end
end G
set_option Elab.async false
set_option linter.all false
set_option maxRecDepth 100000
set_option maxHeartbeats 1000000
/-! the mathematics: plans, what the defs make of them -/
namespace G
open PySem

inductive Part where
  | name (w : Nat)
  | got (i : Int)
  | nest (k : Bool) (d : Nat) (b : List (Int × Part))
abbrev Plan := List (Int × Part)
noncomputable instance : DecidableEq Part := fun _ _ => Classical.propDecidable _

def chr (c : Nat) : Str := ⟨#[c]⟩
def kindS (k : Bool) : Str := if k then "wait" else "letter"
/-! ### as data -/
mutual
def encP : Part → D
  | .name w => .tuple [.str "name", .str (chr w)]
  | .got i => .tuple [.str "got", .int i]
  | .nest k d b => .tuple [.str (kindS k), .str (chr d), .tuple (encL b)]
def encL : Plan → List D
  | [] => []
  | (c, p) :: r => .tuple [.int c, encP p] :: encL r
end
abbrev encI (x : Int × Part) : D := .tuple [.int x.1, encP x.2]
abbrev enc (p : Plan) : D := .tuple (encL p)
theorem encL_map : ∀ p : Plan, encL p = p.map encI
  | [] => by simp [encL]
  | (c, q) :: r => by simp [encL, encL_map r]
theorem encL_len (p : Plan) : (encL p).length = p.length := by rw [encL_map, List.length_map]
theorem encL_get {p : Plan} {i : Nat} {d : D} (h : (encL p)[i]? = some d) : ∃ x, p[i]? = some x ∧ d = encI x := by
  rw [encL_map, List.getElem?_map] at h
  cases e : p[i]? with
  | none => rw [e] at h; cases h
  | some x => rw [e] at h; exact ⟨x, rfl, (Option.some.inj h).symm⟩
theorem encL_append (p q : Plan) : encL (p ++ q) = encL p ++ encL q := by simp [encL_map]
/-! ### sizes -/
mutual
def sizeP : Part → Int
  | .nest _ _ b => 1 + sizeL b
  | .name _ => 1
  | .got _ => 1
def sizeL : Plan → Int
  | [] => 0
  | (c, p) :: r => c * sizeP p + sizeL r
end
mutual
def itemsP : Part → Nat
  | .nest _ _ b => itemsL b
  | .name _ => 0
  | .got _ => 0
def itemsL : Plan → Nat
  | [] => 0
  | (_, p) :: r => 1 + itemsP p + itemsL r
end
mutual
def nestP : Part → Nat
  | .nest _ _ b => 1 + nestL b
  | .name _ => 0
  | .got _ => 0
def nestL : Plan → Nat
  | [] => 0
  | (_, p) :: r => max (nestP p) (nestL r)
end
/-! ### well made: counts from 1 on, gots bound, doors and names small letters -/
mutual
def okP : Int → Part → Prop
  | _, .name w => 97 ≤ w ∧ w ≤ 122
  | n, .got i => 0 ≤ i ∧ i < n
  | n, .nest k d b => (97 ≤ d ∧ d ≤ 122) ∧ okL (if k then n + 1 else n) b
def okL : Int → Plan → Prop
  | _, [] => True
  | n, (c, p) :: r => 1 ≤ c ∧ okP n p ∧ okL n r
end
/-! ### gots raised -/
mutual
def raiseP (u : Int) : Int → Part → Part
  | _, .name w => .name w
  | l, .got i => if l ≤ i then .got (i + u) else .got i
  | l, .nest k d b => .nest k d (raiseL u (if k then l + 1 else l) b)
def raiseL (u : Int) : Int → Plan → Plan
  | _, [] => []
  | l, (c, p) :: r => (c, raiseP u l p) :: raiseL u l r
end
/-! ### mapped -/
def scale (c : Int) (p : Plan) : Plan := p.map fun x => (c * x.1, x.2)
mutual
def mapP (act : Part → Int → Plan) : Int → Part → Plan
  | n, .name w => act (.name w) n
  | n, .got i => act (.got i) n
  | n, .nest k d b => [(1, .nest k d (mapL act (if k then n + 1 else n) b))]
def mapL (act : Part → Int → Plan) : Int → Plan → Plan
  | _, [] => []
  | n, (c, p) :: r => scale c (mapP act n p) ++ mapL act n r
end
def liftA (u l : Int) : Part → Int → Plan
  | .got i, n => if n + l ≤ i then [(1, .got (i + u))] else [(1, .got i)]
  | p, _ => [(1, p)]
def bringA (other : Plan) : Part → Int → Plan
  | .got i, n => if i = n then raiseL n 0 other else if n < i then [(1, .got (i - 1))] else [(1, .got i)]
  | p, _ => [(1, p)]
/-- what the plan of a wait becomes with a plan for what it brings -/
def bring (body other : Plan) : Plan := mapL (bringA other) 0 body
/-! ### keys, order -/
def rankP : Part → Int
  | .name _ => 0
  | .got _ => 2
  | .nest k _ _ => if k then 4 else 3
def labelP : Part → D
  | .name w => .str (chr w)
  | .got i => .int i
  | .nest _ d _ => .str (chr d)
mutual
def keyP : Part → D
  | .nest k d b => .tuple [.int (1 + sizeL b), .int (if k then 4 else 3), .str (chr d), .tuple (keyL b)]
  | .name w => .tuple [.int 1, .int 0, .str (chr w), .tuple []]
  | .got i => .tuple [.int 1, .int 2, .int i, .tuple []]
def keyL : Plan → List D
  | [] => []
  | (c, p) :: r => .tuple [keyP p, .int c] :: keyL r
end
/-- not after -/
def leP (a b : Int × Part) : Bool := !PySem.W.dataLt (keyP b.2) (keyP a.2)
noncomputable def joinStep (f : Plan) (x : Int × Part) : Plan := match f.getLast? with
  | some y => if y.2 = x.2 then f.dropLast ++ [(y.1 + x.1, x.2)] else f ++ [x]
  | none => f ++ [x]
noncomputable def join (p : Plan) : Plan := p.foldl joinStep []
noncomputable def sortItems (p : Plan) : Plan := join (p.mergeSort leP)
/-! ### plain forms -/
noncomputable def foldAt (d : Nat) : Plan → Plan → Option (Int × Plan)
  | _, [] => none
  | pre, (m, p) :: post => if p = .nest true d (raiseL 1 1 (pre ++ post)) then some (m + 1, pre ++ post) else foldAt d (pre ++ [(m, p)]) post
noncomputable def fold (d : Nat) (body : Plan) : Int × Plan := (foldAt d [] body).getD (1, body)
mutual
noncomputable def plainP : Part → Int × Part
  | .name w => (1, .name w)
  | .got i => (1, .got i)
  | .nest k d b => match k with
    | false => (1, .nest false d (sortItems (plainI b)))
    | true => ((fold d (sortItems (plainI b))).1, .nest true d (fold d (sortItems (plainI b))).2)
noncomputable def plainI : Plan → Plan
  | [] => []
  | (c, p) :: r => (c * (plainP p).1, (plainP p).2) :: plainI r
end
noncomputable def plain (p : Plan) : Plan := sortItems (plainI p)
/-! ### meetings -/
def isLet : Part → Bool
  | .nest false _ _ => true
  | _ => false
def meets : Part → Part → Bool
  | .nest false d _, .nest true e _ => d == e
  | _, _ => false
/-- the pairs that can meet -/
def pairsOf (p : Plan) : List (Part × Part) := p.flatMap fun x => (p.filter fun y => meets x.2 y.2).map fun y => (x.2, y.2)
noncomputable def without (p : Plan) (q : Part) : Plan := p.filterMap fun x => if x.2 = q then (if 1 < x.1 then some (x.1 - 1, x.2) else none) else some x
def bodyP : Part → Plan
  | .nest _ _ b => b
  | _ => []
noncomputable def rawOf (p : Plan) (m : Part × Part) : Plan := without (without p m.1) m.2 ++ bring (bodyP m.2) (bodyP m.1)
noncomputable def metOf (p : Plan) (m : Part × Part) : Plan := plain (rawOf p m)
def gotsP : Int → Part → Nat
  | n, .got i => if i = n then 1 else 0
  | n, .name _ => 0
  | n, .nest _ _ _ => 0

/-! ### depth of the data -/
mutual
theorem encP_depth : ∀ p : Part, (encP p).depth ≤ 3 * nestP p + 1
  | .name w => by simp [encP, PyData.depth, PyData.depthAll, nestP]
  | .got i => by simp [encP, PyData.depth, PyData.depthAll, nestP]
  | .nest k d b => by
    have := encL_depth b
    simp only [encP, PyData.depth, PyData.depthAll, nestP]
    omega
theorem encL_depth : ∀ p : Plan, PyData.depthAll (encL p) ≤ 3 * nestL p + 2
  | [] => by simp [encL, PyData.depthAll]
  | (c, p) :: r => by
    have h1 := encP_depth p
    have h2 := encL_depth r
    simp only [encL, PyData.depth, PyData.depthAll, nestL]
    omega
end
theorem enc_depth (p : Plan) : (enc p).depth ≤ 3 * nestL p + 3 := by
  have := encL_depth p
  simp only [enc, PyData.depth]
  omega
mutual
theorem encP_inj : ∀ (p q : Part), encP p = encP q → p = q
  | .name w, q, h => by
    cases q with
    | name v => simp [encP, chr] at h; rw [h]
    | got i => simp [encP] at h
    | nest k d b => simp [encP] at h
  | .got i, q, h => by
    cases q with
    | name v => simp [encP] at h
    | got j => simp [encP] at h; rw [h]
    | nest k d b => simp [encP] at h
  | .nest k d b, q, h => by
    cases q with
    | name v => simp [encP] at h
    | got j => simp [encP] at h
    | nest k' d' b' =>
      simp only [encP, PyData.tuple.injEq, List.cons.injEq, PyData.str.injEq, and_true] at h
      obtain ⟨h1, h2, h3⟩ := h
      have e1 : k = k' := by
        cases k <;> cases k' <;> first | rfl | (exact absurd h1 (by decide))
      have e2 : d = d' := by simpa [chr] using h2
      rw [e1, e2, encL_inj b b' h3]
theorem encL_inj : ∀ (p q : Plan), encL p = encL q → p = q
  | [], q, h => by
    cases q with
    | nil => rfl
    | cons x r => simp [encL] at h
  | (c, p) :: r, q, h => by
    cases q with
    | nil => simp [encL] at h
    | cons x s =>
      obtain ⟨c', p'⟩ := x
      simp only [encL, List.cons.injEq, PyData.tuple.injEq, PyData.int.injEq, and_true] at h
      obtain ⟨⟨h1, h2⟩, h3⟩ := h
      rw [h1, encP_inj p p' h2, encL_inj r s h3]
end
/-! data without truth values are equal as Python says iff they are one -/
mutual
def noB : D → Bool
  | .int _ => true
  | .str _ => true
  | .none => true
  | .tuple xs => noBs xs
  | .list xs => noBs xs
  | _ => false
def noBs : List D → Bool
  | [] => true
  | x :: xs => noB x && noBs xs
end
mutual
theorem eqv_eq : ∀ (x y : D), noB x = true → noB y = true → (PyData.eqv x y = true ↔ x = y)
  | .none, y, _, hy => by cases y <;> simp_all [PyData.eqv, noB]
  | .bool _, _, hx, _ => by simp [noB] at hx
  | .int a, y, _, hy => by cases y <;> simp_all [PyData.eqv, noB]
  | .str a, y, _, hy => by cases y <;> simp_all [PyData.eqv, noB]
  | .list xs, y, hx, hy => by
    cases y with
    | list ys => simp only [PyData.eqv, PyData.list.injEq]; exact eqv_all xs ys (by simpa [noB] using hx) (by simpa [noB] using hy)
    | _ => simp_all [PyData.eqv, noB]
  | .tuple xs, y, hx, hy => by
    cases y with
    | tuple ys => simp only [PyData.eqv, PyData.tuple.injEq]; exact eqv_all xs ys (by simpa [noB] using hx) (by simpa [noB] using hy)
    | _ => simp_all [PyData.eqv, noB]
  | .dict _, _, hx, _ => by simp [noB] at hx
theorem eqv_all : ∀ (xs ys : List D), noBs xs = true → noBs ys = true → (PyData.eqvAll xs ys = true ↔ xs = ys)
  | [], [], _, _ => by simp [PyData.eqvAll]
  | [], _ :: _, _, _ => by simp [PyData.eqvAll]
  | _ :: _, [], _, _ => by simp [PyData.eqvAll]
  | x :: xs, y :: ys, hx, hy => by
    have hx' : noB x = true ∧ noBs xs = true := by simpa [noBs] using hx
    have hy' : noB y = true ∧ noBs ys = true := by simpa [noBs] using hy
    simp only [PyData.eqvAll, Bool.and_eq_true, List.cons.injEq]
    rw [eqv_eq x y hx'.1 hy'.1, eqv_all xs ys hx'.2 hy'.2]
end
mutual
theorem noB_encP : ∀ p : Part, noB (encP p) = true
  | .name _ => by simp [encP, noB, noBs]
  | .got _ => by simp [encP, noB, noBs]
  | .nest k d b => by simp [encP, noB, noBs, noB_encL b]
theorem noB_encL : ∀ p : Plan, noBs (encL p) = true
  | [] => by simp [encL, noBs]
  | (c, p) :: r => by simp [encL, noB, noBs, noB_encP p, noB_encL r]
end
theorem noB_enc (p : Plan) : noB (enc p) = true := by simp [enc, noB, noB_encL p]
theorem eqv_encP (p q : Part) : PyData.eqv (encP p) (encP q) = decide (p = q) := by
  rw [Bool.eq_iff_iff, eqv_eq _ _ (noB_encP p) (noB_encP q), decide_eq_true_eq]
  exact ⟨encP_inj p q, fun h => by rw [h]⟩
theorem eqv_enc (p q : Plan) : PyData.eqv (enc p) (enc q) = decide (p = q) := by
  rw [Bool.eq_iff_iff, eqv_eq _ _ (noB_enc p) (noB_enc q), decide_eq_true_eq]
  exact ⟨fun h => encL_inj p q (by simpa [enc] using h), fun h => by rw [h]⟩
end G
set_option Elab.async false
set_option linter.all false
set_option maxRecDepth 100000
set_option maxHeartbeats 1000000
/-! walks in a graph given by rows; the order; the longest walk by the order and by rounds -/
namespace G
open PySem

/-! ### walks -/
def Wk {α : Type} (E : α → α → Prop) : Nat → α → α → Prop
  | 0, a, b => a = b
  | n + 1, a, b => ∃ c, Wk E n a c ∧ E c b
section
variable {α : Type} {E : α → α → Prop}
theorem Wk.front : ∀ {n : Nat} {a b c : α}, E a b → Wk E n b c → Wk E (n + 1) a c
  | 0, a, b, c, h, w => by
    have : b = c := w
    subst this
    exact ⟨a, rfl, h⟩
  | n + 1, a, b, c, h, ⟨d, w, e⟩ => ⟨d, Wk.front h w, e⟩
theorem Wk.back : ∀ {n : Nat} {a c : α}, Wk E (n + 1) a c → ∃ b, E a b ∧ Wk E n b c
  | 0, a, c, ⟨d, w, e⟩ => by
    have : a = d := w
    subst this
    exact ⟨c, e, rfl⟩
  | n + 1, a, c, ⟨d, w, e⟩ => by
    obtain ⟨b, e1, w1⟩ := Wk.back w
    exact ⟨b, e1, d, w1, e⟩
theorem Wk.app : ∀ {m n : Nat} {a b c : α}, Wk E m a b → Wk E n b c → Wk E (m + n) a c
  | m, 0, a, b, c, w, v => by
    have : b = c := v
    subst this
    exact w
  | m, n + 1, a, b, c, w, ⟨d, v, e⟩ => ⟨d, Wk.app w v, e⟩
/-- the start of a walk -/
theorem Wk.cut : ∀ {m n : Nat} {a b : α}, Wk E (m + n) a b → ∃ c, Wk E m a c
  | m, 0, a, b, w => ⟨b, w⟩
  | m, n + 1, a, b, ⟨d, w, _⟩ => Wk.cut (n := n) w
end

/-! ### sums below n -/
def S : Nat → (Nat → Nat) → Nat
  | 0, _ => 0
  | n + 1, c => S n c + c n
theorem S_congr {c d : Nat → Nat} : ∀ {n : Nat}, (∀ u, u < n → c u = d u) → S n c = S n d
  | 0, _ => rfl
  | n + 1, h => by
    show S n c + c n = S n d + d n
    rw [S_congr fun u hu => h u (by omega), h n (by omega)]
theorem S_add (c d : Nat → Nat) : ∀ n : Nat, S n (fun u => c u + d u) = S n c + S n d
  | 0 => rfl
  | n + 1 => by
    show S n _ + (c n + d n) = (S n c + c n) + (S n d + d n)
    rw [S_add c d n]
    omega
theorem S_le {c d : Nat → Nat} : ∀ {n : Nat}, (∀ u, u < n → c u ≤ d u) → S n c ≤ S n d
  | 0, _ => Nat.le_refl _
  | n + 1, h => Nat.add_le_add (S_le fun u hu => h u (by omega)) (h n (by omega))
theorem S_zero : ∀ n : Nat, S n (fun _ => 0) = 0
  | 0 => rfl
  | n + 1 => by
    show S n _ + 0 = 0
    rw [S_zero n]
theorem S_one {c : Nat → Nat} {x : Nat} : ∀ {n : Nat}, x < n → S n (fun u => if u = x then c u else 0) = c x
  | 0, h => absurd h (Nat.not_lt_zero _)
  | n + 1, h => by
    show S n _ + (if n = x then c n else 0) = c x
    by_cases z : n = x
    · subst z
      rw [if_pos rfl, S_congr (d := fun _ => 0) fun u hu => if_neg (by omega), S_zero]
      omega
    · rw [if_neg z, S_one (by omega)]
      all_goals rfl
/-- the sum over a list of unlike numbers below n -/
theorem S_list {c : Nat → Nat} {n : Nat} : ∀ {L : List Nat}, (∀ u ∈ L, u < n) → (L.map c).sum = S n (fun u => L.count u * c u)
  | [], _ => by simp [S_zero]
  | x :: L, h => by
    rw [List.map_cons, List.sum_cons, S_list (L := L) fun u hu => h u (List.mem_cons_of_mem _ hu)]
    have e : S n (fun u => (x :: L).count u * c u) = S n (fun u => L.count u * c u + (if u = x then c u else 0)) := S_congr fun u _ => by
      rw [List.count_cons]
      by_cases z : u = x
      · subst z
        simp [Nat.add_mul]
      · have : (x == u) = false := by simp; exact fun q => z q.symm
        rw [this]
        simp [z]
    rw [e, S_add, S_one (h x List.mem_cons_self)]
    omega
theorem S_nodup {c : Nat → Nat} {n : Nat} {L : List Nat} (h : ∀ u ∈ L, u < n) (nd : L.Nodup) : (L.map c).sum ≤ S n c := by
  rw [S_list h]
  refine S_le fun u _ => ?_
  have := List.nodup_iff_count.mp nd u
  calc L.count u * c u ≤ 1 * c u := Nat.mul_le_mul_right _ this
    _ = c u := Nat.one_mul _
theorem S_out {c : Nat → Nat} {n : Nat} {L : List Nat} (h : ∀ u ∈ L, u < n) (nd : L.Nodup) {x : Nat} (hx : x < n) (nx : x ∉ L) : (L.map c).sum + c x ≤ S n c := by
  have := S_nodup (c := c) (n := n) (L := x :: L) (fun u hu => by
    rcases List.mem_cons.mp hu with e | e
    · rw [e]; exact hx
    · exact h u e) (List.nodup_cons.mpr ⟨nx, nd⟩)
  rw [List.map_cons, List.sum_cons] at this
  omega
theorem S_all {c : Nat → Nat} {n : Nat} {L : List Nat} (h : ∀ u ∈ L, u < n) (nd : L.Nodup) (z : ∀ u, u < n → u ∉ L → c u = 0) : (L.map c).sum = S n c := by
  rw [S_list h]
  refine S_congr fun u hu => ?_
  by_cases m : u ∈ L
  · have h1 := List.nodup_iff_count.mp nd u
    have h2 : 0 < L.count u := List.count_pos_iff.mpr m
    have : L.count u = 1 := by omega
    rw [this, Nat.one_mul]
  · rw [z u hu m, Nat.mul_zero]

/-! ### rows -/
abbrev Rows := List (List Nat)
def row (rows : Rows) (u : Nat) : List Nat := rows.getD u []
def Eg (rows : Rows) (u v : Nat) : Prop := v ∈ row rows u
def RowsOk (rows : Rows) : Prop := ∀ u v, Eg rows u v → v < rows.length
theorem row_of {rows : Rows} {u : Nat} {r : List Nat} (h : rows[u]? = some r) : row rows u = r := by
  simp [row, h]
theorem row_get {rows : Rows} {u : Nat} (h : u < rows.length) : rows[u]? = some (row rows u) := by
  unfold row
  rw [List.getD_eq_getElem?_getD, List.getElem?_eq_getElem h]
  rfl
theorem eg_lt {rows : Rows} {u v : Nat} (h : Eg rows u v) : u < rows.length := by
  by_cases z : u < rows.length
  · exact z
  · unfold Eg row at h
    rw [List.getD_eq_getElem?_getD, List.getElem?_eq_none (by omega)] at h
    cases h
theorem flat_take (rows : Rows) (v : Nat) : ∀ i, i ≤ rows.length → (rows.take i).flatten.count v = S i fun u => (row rows u).count v
  | 0, _ => by simp [S]
  | i + 1, h => by
    have e : rows.take (i + 1) = rows.take i ++ [row rows i] := by
      rw [List.take_add_one, row_get (by omega)]
      rfl
    rw [e, List.flatten_append, List.count_append, flat_take rows v i (by omega)]
    simp [S]
theorem flat_all (rows : Rows) (v : Nat) : rows.flatten.count v = S rows.length fun u => (row rows u).count v := by
  have := flat_take rows v rows.length (Nat.le_refl _)
  rwa [List.take_length] at this
/-- the edges to v that come from L -/
def inn (rows : Rows) (L : List Nat) (v : Nat) : Nat := (L.map fun u => (row rows u).count v).sum
def tot (rows : Rows) (v : Nat) : Nat := rows.flatten.count v
theorem inn_snoc (rows : Rows) (L : List Nat) (u v : Nat) : inn rows (L ++ [u]) v = inn rows L v + (row rows u).count v := by simp [inn]

/-! ### a change at one place -/
def put (f : Nat → Int) (g : Nat) (x : Int) : Nat → Int := fun v => if v = g then x else f v
theorem put_same (f : Nat → Int) (g : Nat) (x : Int) : put f g x g = x := if_pos rfl
theorem put_ne (f : Nat → Int) {g v : Nat} (x : Int) (h : v ≠ g) : put f g x v = f v := if_neg h

/-! ### the order -/
def decStep (s : (Nat → Int) × List Nat) (g : Nat) : (Nat → Int) × List Nat := (put s.1 g (s.1 g - 1), if s.1 g - 1 = 0 then s.2 ++ [g] else s.2)
def kGo (rows : Rows) : Nat → Nat → (Nat → Int) → List Nat → List Nat
  | 0, _, _, found => found
  | m + 1, at_, f, found => match found[at_]? with
    | none => found
    | some u => kGo rows m (at_ + 1) ((row rows u).foldl decStep (f, found)).1 ((row rows u).foldl decStep (f, found)).2
def k0 (rows : Rows) : List Nat := (List.range rows.length).filter fun v => decide ((tot rows v : Int) = 0)
def kahn (rows : Rows) : List Nat := kGo rows (rows.length + 1) 0 (fun v => (tot rows v : Int)) (k0 rows)
structure KI (rows : Rows) (at_ : Nat) (pre : List Nat) (f : Nat → Int) (found : List Nat) : Prop where
  nd : found.Nodup
  lt : ∀ v ∈ found, v < rows.length
  le : at_ ≤ found.length
  val : ∀ v, v < rows.length → f v = (tot rows v : Int) - (inn rows (found.take at_) v : Int) - (pre.count v : Int)
  iff : ∀ v, v < rows.length → (v ∈ found ↔ f v = 0)
  top : ∀ (j v u : Nat), found[j]? = some v → Eg rows u v → ∃ i, i < j ∧ found[i]? = some u
theorem ki_0 (rows : Rows) : KI rows 0 [] (fun v => (tot rows v : Int)) (k0 rows) where
  nd := List.nodup_range.filter _
  lt := fun v h => by
    have := (List.mem_filter.mp h).1
    simpa using this
  le := Nat.zero_le _
  val := fun v _ => by simp [inn]
  iff := fun v hv => by
    unfold k0
    rw [List.mem_filter]
    simp [hv]
  top := fun j v u hj e => by
    have h := List.mem_filter.mp (List.mem_of_getElem? hj)
    have z : tot rows v = 0 := by
      have := of_decide_eq_true h.2
      omega
    unfold tot at z
    rw [flat_all] at z
    have h1 : (row rows u).count v ≤ S rows.length fun u => (row rows u).count v := by
      have := S_nodup (c := fun u => (row rows u).count v) (n := rows.length) (L := [u]) (by simp; exact eg_lt e) (by simp)
      simpa using this
    have h2 : 0 < (row rows u).count v := List.count_pos_iff.mpr e
    omega
/-- one goal -/
theorem ki_dec {rows : Rows} (ok : RowsOk rows) {at_ u g : Nat} {pre rest : List Nat} {f : Nat → Int} {found : List Nat} (h : KI rows at_ pre f found) (hu : found[at_]? = some u) (hr : row rows u = pre ++ g :: rest) :
    KI rows at_ (pre ++ [g]) (decStep (f, found) g).1 (decStep (f, found) g).2 := by
  have hat : at_ < found.length := (List.getElem?_eq_some_iff.mp hu).1
  have eg : Eg rows u g := by unfold Eg; rw [hr]; simp
  have hg := ok _ _ eg
  have eL : found.take (at_ + 1) = found.take at_ ++ [u] := by rw [List.take_add_one, hu]; rfl
  have ndL : (found.take (at_ + 1)).Nodup := h.nd.sublist (List.take_sublist _ _)
  have ltL : ∀ v ∈ found.take (at_ + 1), v < rows.length := fun v hv => h.lt v (List.mem_of_mem_take hv)
  have key : inn rows (found.take at_) g + (row rows u).count g ≤ tot rows g := by
    rw [← inn_snoc, ← eL]
    unfold tot
    rw [flat_all]
    exact S_nodup ltL ndL
  have ec : (row rows u).count g = pre.count g + (1 + rest.count g) := by
    rw [hr, List.count_append, List.count_cons]
    simp
    omega
  have fg := h.val g hg
  have nin : g ∉ found := fun m => by
    have := (h.iff g hg).mp m
    omega
  have cnt : ∀ v, ((pre ++ [g]).count v : Int) = pre.count v + (if v = g then 1 else 0) := fun v => by
    rw [List.count_append, List.count_singleton]
    by_cases z : v = g
    · subst z; simp
    · have : (g == v) = false := by simp; exact fun q => z q.symm
      rw [this]
      simp [z]
  have valN : ∀ v, v < rows.length → put f g (f g - 1) v = (tot rows v : Int) - (inn rows (found.take at_) v : Int) - ((pre ++ [g]).count v : Int) := fun v hv => by
    rw [cnt]
    by_cases z : v = g
    · subst z
      rw [put_same, if_pos rfl]
      omega
    · rw [put_ne _ _ z, if_neg z, h.val v hv]
      omega
  by_cases z : f g - 1 = 0
  · have e : decStep (f, found) g = (put f g (f g - 1), found ++ [g]) := by simp [decStep, z]
    rw [e]
    have et : (found ++ [g]).take at_ = found.take at_ := List.take_append_of_le_length h.le
    refine ⟨?_, fun v hv => ?_, ?_, fun v hv => ?_, fun v hv => ?_, fun j v w hj ew => ?_⟩
    · rw [List.nodup_append]
      exact ⟨h.nd, by simp, fun a ha b hb q => by simp at hb; rw [q, hb] at ha; exact nin ha⟩
    · rcases List.mem_append.mp hv with q | q
      · exact h.lt v q
      · simp at q; rw [q]; exact hg
    · rw [List.length_append]
      have := h.le
      omega
    · show put f g (f g - 1) v = _
      rw [et]
      exact valN v hv
    · show v ∈ found ++ [g] ↔ put f g (f g - 1) v = 0
      by_cases q : v = g
      · subst q
        rw [put_same]
        simp [z]
      · rw [put_ne _ _ q, ← h.iff v hv]
        simp [q]
    · have hj' : (found ++ [g])[j]? = some v := hj
      by_cases q : j < found.length
      · rw [List.getElem?_append_left q] at hj'
        obtain ⟨i, hi, ei⟩ := h.top j v w hj' ew
        exact ⟨i, hi, by rw [List.getElem?_append_left (by omega)]; exact ei⟩
      · rw [List.getElem?_append_right (by omega)] at hj'
        have ej : j - found.length = 0 := by
          by_cases y : j - found.length = 0
          · exact y
          · rw [List.getElem?_eq_none (by simp; omega)] at hj'
            cases hj'
        rw [ej] at hj'
        have ev : g = v := by simpa using hj'
        subst ev
        have hw := eg_lt ew
        have mw : w ∈ found.take (at_ + 1) := by
          by_cases m : w ∈ found.take (at_ + 1)
          · exact m
          · exfalso
            have k1 := S_out (c := fun u => (row rows u).count g) ltL ndL hw m
            have k2 : 0 < (row rows w).count g := List.count_pos_iff.mpr ew
            have k3 : tot rows g = S rows.length fun u => (row rows u).count g := flat_all rows g
            have k4 : inn rows (found.take (at_ + 1)) g = inn rows (found.take at_) g + (row rows u).count g := by rw [eL, inn_snoc]
            unfold inn at k4
            unfold inn at fg
            have k5 : ((found.take (at_ + 1)).map fun u => (row rows u).count g).sum = ((found.take at_).map fun u => (row rows u).count g).sum + (row rows u).count g := k4
            omega
        obtain ⟨i, hi⟩ := List.getElem?_of_mem mw
        have hi2 : i < at_ + 1 := by
          have := (List.getElem?_eq_some_iff.mp hi).1
          rw [List.length_take] at this
          omega
        rw [List.getElem?_take_of_lt hi2] at hi
        exact ⟨i, by omega, by rw [List.getElem?_append_left (by omega)]; exact hi⟩
  · have e : decStep (f, found) g = (put f g (f g - 1), found) := by simp [decStep, z]
    rw [e]
    refine ⟨h.nd, h.lt, h.le, valN, fun v hv => ?_, h.top⟩
    show v ∈ found ↔ put f g (f g - 1) v = 0
    by_cases q : v = g
    · subst q
      rw [put_same]
      exact ⟨fun m => absurd m nin, fun y => absurd y z⟩
    · rw [put_ne _ _ q, ← h.iff v hv]
theorem dec_get {s : (Nat → Int) × List Nat} {g : Nat} {i u : Nat} (h : s.2[i]? = some u) : (decStep s g).2[i]? = some u := by
  unfold decStep
  by_cases z : s.1 g - 1 = 0
  · simp only [z, if_true]
    rw [List.getElem?_append_left (List.getElem?_eq_some_iff.mp h).1]
    exact h
  · simp only [z, if_false]
    exact h
theorem ki_row {rows : Rows} (ok : RowsOk rows) {at_ u : Nat} : ∀ {rest pre : List Nat} {s : (Nat → Int) × List Nat}, KI rows at_ pre s.1 s.2 → s.2[at_]? = some u → row rows u = pre ++ rest →
    KI rows at_ (row rows u) (rest.foldl decStep s).1 (rest.foldl decStep s).2 ∧ (rest.foldl decStep s).2[at_]? = some u
  | [], pre, s, h, hu, hr => by
    rw [List.append_nil] at hr
    rw [hr]
    exact ⟨h, hu⟩
  | g :: rest, pre, s, h, hu, hr => by
    rw [List.foldl_cons]
    exact ki_row ok (pre := pre ++ [g]) (ki_dec ok h hu hr) (dec_get hu) (by rw [hr]; simp)
theorem ki_next {rows : Rows} {at_ u : Nat} {f : Nat → Int} {found : List Nat} (h : KI rows at_ (row rows u) f found) (hu : found[at_]? = some u) : KI rows (at_ + 1) [] f found where
  nd := h.nd
  lt := h.lt
  le := (List.getElem?_eq_some_iff.mp hu).1
  val := fun v hv => by
    rw [h.val v hv, List.take_add_one, hu]
    have : inn rows (found.take at_ ++ (some u).toList) v = inn rows (found.take at_) v + (row rows u).count v := inn_snoc rows _ u v
    rw [this]
    simp
    omega
  iff := h.iff
  top := h.top
theorem nodup_len {n : Nat} {L : List Nat} (h : ∀ v ∈ L, v < n) (nd : L.Nodup) : L.length ≤ n := by
  have := S_nodup (c := fun _ => 1) h nd
  have e : ∀ m, S m (fun _ => 1) = m := fun m => by
    induction m with
    | zero => rfl
    | succ m ih => show S m _ + 1 = m + 1; rw [ih]
  rw [e] at this
  have e2 : ∀ L : List Nat, (L.map fun _ => 1).sum = L.length := fun L => by
    induction L with
    | nil => rfl
    | cons x r ih => rw [List.map_cons, List.sum_cons, ih, List.length_cons]; omega
  have e3 := e2 L
  have e4 := e n
  omega
theorem nodup_full {n : Nat} {L : List Nat} (h : ∀ v ∈ L, v < n) (nd : L.Nodup) (hl : n ≤ L.length) {v : Nat} (hv : v < n) : v ∈ L := by
  by_cases m : v ∈ L
  · exact m
  · have := nodup_len (n := n) (L := v :: L) (fun u hu => by
      rcases List.mem_cons.mp hu with e | e
      · rw [e]; exact hv
      · exact h u e) (List.nodup_cons.mpr ⟨m, nd⟩)
    rw [List.length_cons] at this
    omega
structure KDone (rows : Rows) (found : List Nat) : Prop where
  nd : found.Nodup
  lt : ∀ v ∈ found, v < rows.length
  top : ∀ (j v u : Nat), found[j]? = some v → Eg rows u v → ∃ i, i < j ∧ found[i]? = some u
  more : ∀ v, v < rows.length → v ∉ found → ∃ u, u ∉ found ∧ Eg rows u v
theorem ki_done {rows : Rows} {at_ : Nat} {f : Nat → Int} {found : List Nat} (h : KI rows at_ [] f found) (e : found.length ≤ at_) : KDone rows found := by
  refine ⟨h.nd, h.lt, h.top, fun v hv nv => ?_⟩
  have e2 : at_ = found.length := by have := h.le; omega
  have hf := h.val v hv
  rw [e2, List.take_length] at hf
  have nz : ¬ f v = 0 := fun z => nv ((h.iff v hv).mpr z)
  apply Classical.byContradiction
  intro no
  have := S_all (c := fun u => (row rows u).count v) h.lt h.nd fun u hu m => by
    apply Classical.byContradiction
    intro q
    exact no ⟨u, m, List.count_pos_iff.mp (by omega)⟩
  have k3 : tot rows v = S rows.length fun u => (row rows u).count v := flat_all rows v
  unfold inn at hf
  simp at hf
  omega
theorem kGo_done {rows : Rows} (ok : RowsOk rows) : ∀ {m at_ : Nat} {f : Nat → Int} {found : List Nat}, KI rows at_ [] f found → rows.length + 1 ≤ m + at_ → KDone rows (kGo rows m at_ f found)
  | 0, at_, f, found, h, hm => by
    have := nodup_len h.lt h.nd
    show KDone rows found
    exact ki_done h (by omega)
  | m + 1, at_, f, found, h, hm => by
    unfold kGo
    cases e : found[at_]? with
    | none =>
      have := List.getElem?_eq_none_iff.mp e
      exact ki_done h this
    | some u =>
      obtain ⟨k1, k2⟩ := ki_row ok (s := (f, found)) h e (rest := row rows u) (by simp)
      exact kGo_done ok (ki_next k1 k2) (by omega)
theorem kahn_done {rows : Rows} (ok : RowsOk rows) : KDone rows (kahn rows) := kGo_done ok (ki_0 rows) (by omega)
end G
set_option Elab.async false
set_option linter.all false
set_option maxRecDepth 100000
set_option maxHeartbeats 1000000
/-! the longest walk: by the order, by rounds -/
namespace G
open PySem

/-! ### by the order -/
def dpStep (u : Nat) (g : Nat → Int) (v : Nat) : Nat → Int := put g v (max (g v) (g u + 1))
def dpRow (rows : Rows) (g : Nat → Int) (u : Nat) : Nat → Int := (row rows u).foldl (dpStep u) g
def dp (rows : Rows) (L : List Nat) : Nat → Int := L.foldl (dpRow rows) fun _ => 0
/-- what is held is the length of a walk that ends there -/
def Real (rows : Rows) (g : Nat → Int) : Prop := ∀ v, ∃ n : Nat, g v = n ∧ ∃ a, Wk (Eg rows) n a v
theorem real_step {rows : Rows} {g : Nat → Int} {u v : Nat} (h : Real rows g) (e : Eg rows u v) : Real rows (dpStep u g v) := fun w => by
  unfold dpStep
  by_cases z : w = v
  · subst z
    rw [put_same]
    by_cases q : g u + 1 ≤ g w
    · rw [Int.max_eq_left q]
      exact h w
    · rw [Int.max_eq_right (by omega)]
      obtain ⟨n, e1, a, wk⟩ := h u
      exact ⟨n + 1, by rw [e1]; rfl, a, u, wk, e⟩
  · rw [put_ne _ _ z]
    exact h w
theorem mono_step (u : Nat) (g : Nat → Int) (v w : Nat) : g w ≤ dpStep u g v w := by
  unfold dpStep
  by_cases z : w = v
  · subst z
    rw [put_same]
    exact Int.le_max_left _ _
  · rw [put_ne _ _ z]
    exact Int.le_refl _
theorem fold_row {rows : Rows} {u : Nat} (nl : ¬ Eg rows u u) : ∀ {L : List Nat} {g : Nat → Int}, (∀ v ∈ L, Eg rows u v) → Real rows g →
    Real rows (L.foldl (dpStep u) g) ∧ (∀ w, g w ≤ L.foldl (dpStep u) g w) ∧ (∀ w, w ∉ L → L.foldl (dpStep u) g w = g w) ∧ ∀ v ∈ L, g u + 1 ≤ L.foldl (dpStep u) g v
  | [], g, _, r => ⟨r, fun _ => Int.le_refl _, fun _ _ => rfl, fun v hv => by cases hv⟩
  | x :: L, g, h, r => by
    have ex := h x List.mem_cons_self
    obtain ⟨k1, k2, k3, k4⟩ := fold_row nl (L := L) (g := dpStep u g x) (fun v hv => h v (List.mem_cons_of_mem _ hv)) (real_step r ex)
    have xu : u ≠ x := fun z => nl (by rw [← z] at ex; exact ex)
    have eu : dpStep u g x u = g u := put_ne _ _ xu
    rw [List.foldl_cons]
    refine ⟨k1, fun w => Int.le_trans (mono_step u g x w) (k2 w), fun w hw => ?_, fun v hv => ?_⟩
    · rw [k3 w fun q => hw (List.mem_cons_of_mem _ q)]
      exact put_ne _ _ fun z => hw (by rw [z]; exact List.mem_cons_self)
    · rcases List.mem_cons.mp hv with e | e
      · subst e
        refine Int.le_trans ?_ (k2 v)
        unfold dpStep
        rw [put_same]
        exact Int.le_max_right _ _
      · have := k4 v e
        rwa [eu] at this
theorem nd_at {L : List Nat} (nd : L.Nodup) {i j u : Nat} (hi : L[i]? = some u) (hj : L[j]? = some u) : i = j := by
  have h1 := (List.getElem?_eq_some_iff.mp hi).1
  exact (List.getElem?_inj h1 nd).mp (hi.trans hj.symm)
theorem dp_inv {rows : Rows} {found : List Nat} (K : KDone rows found) : ∀ i, i ≤ found.length → Real rows (dp rows (found.take i)) ∧ ∀ (a u v : Nat), a < i → found[a]? = some u → Eg rows u v → dp rows (found.take i) u + 1 ≤ dp rows (found.take i) v
  | 0, _ => ⟨fun v => ⟨0, rfl, v, rfl⟩, fun a u v h => absurd h (Nat.not_lt_zero _)⟩
  | i + 1, hi => by
    obtain ⟨r, k⟩ := dp_inv K i (by omega)
    have hu : found[i]? = some found[i] := List.getElem?_eq_getElem (by omega)
    generalize found[i] = u at hu
    have e : found.take (i + 1) = found.take i ++ [u] := by rw [List.take_add_one, hu]; rfl
    have nl : ∀ (a w : Nat), a ≤ i → found[a]? = some w → ¬ Eg rows u w := fun a w ha hw ew => by
      obtain ⟨b, hb, eb⟩ := K.top a w u hw ew
      have := nd_at K.nd eb hu
      omega
    have ed : dp rows (found.take (i + 1)) = (row rows u).foldl (dpStep u) (dp rows (found.take i)) := by
      rw [e]
      unfold dp
      rw [List.foldl_append]
      rfl
    obtain ⟨k1, k2, k3, k4⟩ := fold_row (nl i u (Nat.le_refl _) hu) (L := row rows u) (fun v hv => hv) r
    rw [ed]
    refine ⟨k1, fun a w v ha hw ev => ?_⟩
    rw [k3 w (nl a w (by omega) hw)]
    by_cases z : a = i
    · subst z
      have : u = w := by rw [hu] at hw; exact Option.some.inj hw
      subst this
      exact k4 v ev
    · exact Int.le_trans (k a w v (by omega) hw ev) (k2 v)
/-- m: the length of the longest walk -/
def LongAll (rows : Rows) (m : Int) : Prop := (∃ (n : Nat) (a b : Nat), m = n ∧ a < rows.length ∧ b < rows.length ∧ Wk (Eg rows) n a b) ∧ ∀ (n a b : Nat), b < rows.length → Wk (Eg rows) n a b → (n : Int) ≤ m
theorem wk_lt {rows : Rows} {n a b : Nat} (ok : RowsOk rows) (hb : b < rows.length) (w : Wk (Eg rows) n a b) : a < rows.length := by
  cases n with
  | zero =>
    have : a = b := w
    rw [this]
    exact hb
  | succ n =>
    obtain ⟨c, e, _⟩ := w.back
    exact eg_lt e
theorem dp_long {rows : Rows} {found : List Nat} (ok : RowsOk rows) (K : KDone rows found) (full : rows.length ≤ found.length) {m : Int} (hm : ∃ v, v < rows.length ∧ dp rows found v = m) (hx : ∀ v, v < rows.length → dp rows found v ≤ m) : LongAll rows m := by
  obtain ⟨r, k⟩ := dp_inv K found.length (Nat.le_refl _)
  rw [List.take_length] at r k
  have edge : ∀ u v, Eg rows u v → dp rows found u + 1 ≤ dp rows found v := fun u v e => by
    obtain ⟨a, ha⟩ := List.getElem?_of_mem (nodup_full K.lt K.nd full (eg_lt e))
    exact k a u v (List.getElem?_eq_some_iff.mp ha).1 ha e
  refine ⟨?_, fun n a b hb w => ?_⟩
  · obtain ⟨v, hv, e⟩ := hm
    obtain ⟨n, e2, a, w⟩ := r v
    exact ⟨n, a, v, by rw [← e, e2], wk_lt ok hv w, hv, w⟩
  · have walk : ∀ (n a b : Nat), Wk (Eg rows) n a b → (n : Int) ≤ dp rows found b := by
      intro n
      induction n with
      | zero =>
        intro a b w
        obtain ⟨j, e, _⟩ := r b
        omega
      | succ n ih =>
        intro a b ⟨c, w, e⟩
        have h1 := ih a c w
        have h2 := edge c b e
        omega
    exact Int.le_trans (walk n a b w) (hx b hb)
/-- nothing left out: walks of every length -/
theorem kahn_cycle {rows : Rows} {found : List Nat} (ok : RowsOk rows) (K : KDone rows found) (short : found.length < rows.length) : ∀ n : Nat, ∃ a b, a < rows.length ∧ b < rows.length ∧ Wk (Eg rows) n a b := by
  have hv : ∃ v, v < rows.length ∧ v ∉ found := by
    apply Classical.byContradiction
    intro no
    have h1 : ∀ v, v < rows.length → v ∈ found := fun v hv => by
      apply Classical.byContradiction
      intro q
      exact no ⟨v, hv, q⟩
    have h2 : rows.length ≤ found.length := by
      have := S_nodup (c := fun u => found.count u) (n := rows.length) (L := List.range rows.length) (fun u hu => by simpa using hu) List.nodup_range
      have e : (found.map fun _ => 1).sum = S rows.length fun u => found.count u * 1 := S_list K.lt
      have e2 : ∀ m, m ≤ rows.length → m ≤ S m fun u => found.count u * 1 := fun m => by
        induction m with
        | zero => intro _; exact Nat.zero_le _
        | succ m ih =>
          intro hm
          show m + 1 ≤ S m _ + found.count m * 1
          have k1 := ih (by omega)
          have k2 := List.count_pos_iff.mpr (h1 m (by omega))
          omega
      have e3 : ∀ L : List Nat, (L.map fun _ => 1).sum = L.length := fun L => by
        induction L with
        | nil => rfl
        | cons x r ih => rw [List.map_cons, List.sum_cons, ih, List.length_cons]; omega
      have := e2 rows.length (Nat.le_refl _)
      rw [← e, e3] at this
      exact this
    omega
  have back : ∀ (n v : Nat), v < rows.length → v ∉ found → ∃ a, a < rows.length ∧ Wk (Eg rows) n a v := by
    intro n
    induction n with
    | zero => exact fun v hv _ => ⟨v, hv, rfl⟩
    | succ n ih =>
      intro v hv nv
      obtain ⟨u, nu, e⟩ := K.more v hv nv
      obtain ⟨a, ha, w⟩ := ih u (eg_lt e) nu
      exact ⟨a, ha, u, w, e⟩
  intro n
  obtain ⟨v, hv, nv⟩ := hv
  obtain ⟨a, ha, w⟩ := back n v hv nv
  exact ⟨a, v, ha, hv, w⟩

/-! ### by rounds -/
def bfStep (u : Nat) (g : Nat → Int) (v : Nat) : Nat → Int := if 0 ≤ g u then put g v (max (g v) (g u + 1)) else g
def bfRow (rows : Rows) (g : Nat → Int) (u : Nat) : Nat → Int := (row rows u).foldl (bfStep u) g
def bfTurn (rows : Rows) (g : Nat → Int) : Nat → Int := (List.range rows.length).foldl (bfRow rows) g
def bf0 : Nat → Int := fun v => if v = 0 then 0 else -1
def bfN (rows : Rows) : Nat → Nat → Int
  | 0 => bf0
  | n + 1 => bfTurn rows (bfN rows n)
/-- what is held is the length of a walk from 0 -/
def RealZ (rows : Rows) (g : Nat → Int) : Prop := ∀ v, 0 ≤ g v → ∃ n : Nat, g v = n ∧ Wk (Eg rows) n 0 v
theorem bf_real {rows : Rows} {g : Nat → Int} {u v : Nat} (h : RealZ rows g) (e : Eg rows u v) : RealZ rows (bfStep u g v) := fun w hw => by
  unfold bfStep at hw ⊢
  by_cases p : 0 ≤ g u
  · rw [if_pos p] at hw ⊢
    by_cases z : w = v
    · subst z
      rw [put_same] at hw ⊢
      by_cases q : g u + 1 ≤ g w
      · rw [Int.max_eq_left q] at hw ⊢
        exact h w hw
      · rw [Int.max_eq_right (by omega)]
        obtain ⟨n, e1, wk⟩ := h u p
        exact ⟨n + 1, by rw [e1]; rfl, u, wk, e⟩
    · rw [put_ne _ _ z] at hw ⊢
      exact h w hw
  · rw [if_neg p] at hw ⊢
    exact h w hw
theorem bf_mono (u : Nat) (g : Nat → Int) (v w : Nat) : g w ≤ bfStep u g v w := by
  unfold bfStep
  by_cases p : 0 ≤ g u
  · rw [if_pos p]
    by_cases z : w = v
    · subst z
      rw [put_same]
      exact Int.le_max_left _ _
    · rw [put_ne _ _ z]
      exact Int.le_refl _
  · rw [if_neg p]
    exact Int.le_refl _
theorem bf_row {rows : Rows} {u : Nat} : ∀ {L : List Nat} {g : Nat → Int}, (∀ v ∈ L, Eg rows u v) → RealZ rows g →
    RealZ rows (L.foldl (bfStep u) g) ∧ (∀ w, g w ≤ L.foldl (bfStep u) g w) ∧ ∀ v ∈ L, 0 ≤ g u → g u + 1 ≤ L.foldl (bfStep u) g v
  | [], g, _, r => ⟨r, fun _ => Int.le_refl _, fun v hv => by cases hv⟩
  | x :: L, g, h, r => by
    have ex := h x List.mem_cons_self
    obtain ⟨k1, k2, k3⟩ := bf_row (L := L) (g := bfStep u g x) (fun v hv => h v (List.mem_cons_of_mem _ hv)) (bf_real r ex)
    rw [List.foldl_cons]
    refine ⟨k1, fun w => Int.le_trans (bf_mono u g x w) (k2 w), fun v hv p => ?_⟩
    rcases List.mem_cons.mp hv with e | e
    · subst e
      refine Int.le_trans ?_ (k2 v)
      unfold bfStep
      rw [if_pos p, put_same]
      exact Int.le_max_right _ _
    · have h1 := bf_mono u g x u
      have := k3 v e (by omega)
      omega
theorem bf_rows {rows : Rows} : ∀ {L : List Nat} {g : Nat → Int}, RealZ rows g →
    RealZ rows (L.foldl (bfRow rows) g) ∧ (∀ w, g w ≤ L.foldl (bfRow rows) g w) ∧ ∀ u v, u ∈ L → Eg rows u v → 0 ≤ g u → g u + 1 ≤ L.foldl (bfRow rows) g v
  | [], g, r => ⟨r, fun _ => Int.le_refl _, fun u v hu => by cases hu⟩
  | x :: L, g, r => by
    obtain ⟨a1, a2, a3⟩ := bf_row (u := x) (L := row rows x) (fun v hv => hv) r
    obtain ⟨k1, k2, k3⟩ := bf_rows (L := L) (g := bfRow rows g x) a1
    rw [List.foldl_cons]
    refine ⟨k1, fun w => Int.le_trans (a2 w) (k2 w), fun u v hu e p => ?_⟩
    rcases List.mem_cons.mp hu with z | z
    · subst z
      exact Int.le_trans (a3 v e p) (k2 v)
    · have h1 : g u ≤ bfRow rows g x u := a2 u
      have := k3 u v z e (by omega)
      omega
theorem bf_inv {rows : Rows} (n0 : 0 < rows.length) : ∀ n, RealZ rows (bfN rows n) ∧ (∀ w, bf0 w ≤ bfN rows n w) ∧ ∀ (m v : Nat), m ≤ n → v < rows.length → Wk (Eg rows) m 0 v → (m : Int) ≤ bfN rows n v
  | 0 => by
    refine ⟨fun v h => ?_, fun _ => Int.le_refl _, fun m v hm hv w => ?_⟩
    · unfold bfN bf0 at h ⊢
      by_cases z : v = 0
      · subst z
        exact ⟨0, by simp, rfl⟩
      · rw [if_neg z] at h
        omega
    · obtain rfl : m = 0 := by omega
      have : 0 = v := w
      subst this
      simp [bfN, bf0]
  | n + 1 => by
    obtain ⟨r, b, k⟩ := bf_inv n0 n
    obtain ⟨k1, k2, k3⟩ := bf_rows (L := List.range rows.length) r
    refine ⟨k1, fun w => Int.le_trans (b w) (k2 w), fun m v hm hv w => ?_⟩
    show (m : Int) ≤ (List.range rows.length).foldl (bfRow rows) (bfN rows n) v
    cases m with
    | zero => exact Int.le_trans (k 0 v (by omega) hv w) (k2 v)
    | succ m =>
      obtain ⟨u, w2, e⟩ := w
      have hu := eg_lt e
      have h1 := k m u (by omega) hu w2
      have := k3 u v (List.mem_range.mpr hu) e (by omega)
      omega
/-- what the rounds say -/
theorem bf_long {rows : Rows} (n0 : 0 < rows.length) (reach : ∀ v, v < rows.length → ∃ n, Wk (Eg rows) n 0 v) (ok : RowsOk rows) {m : Int} (hm : ∃ v, v < rows.length ∧ bfN rows rows.length v = m) (hx : ∀ v, v < rows.length → bfN rows rows.length v ≤ m) :
    ((rows.length : Int) ≤ m → ∃ b, b < rows.length ∧ Wk (Eg rows) rows.length 0 b) ∧ (m < (rows.length : Int) → LongAll rows m) := by
  obtain ⟨r, b, k⟩ := bf_inv n0 rows.length
  have m0 : 0 ≤ m := Int.le_trans (by have := b 0; simpa [bf0] using this) (hx 0 n0)
  obtain ⟨v, hv, e⟩ := hm
  obtain ⟨n, en, w⟩ := r v (by omega)
  have lt : ∀ (j a : Nat), Wk (Eg rows) j 0 a → a < rows.length := fun j a w => by
    cases j with
    | zero =>
      have : 0 = a := w
      omega
    | succ j =>
      obtain ⟨c, _, e⟩ := w
      exact ok _ _ e
  refine ⟨fun h => ?_, fun h => ⟨⟨n, 0, v, by omega, n0, hv, w⟩, fun j a c hc wj => ?_⟩⟩
  · obtain ⟨d, hd⟩ : ∃ d, n = rows.length + d := ⟨n - rows.length, by omega⟩
    rw [hd] at w
    obtain ⟨c, wc⟩ := w.cut
    exact ⟨c, lt _ _ wc, wc⟩
  · -- every walk from 0 is shorter than the number of rows
    have short : ∀ (j c : Nat), Wk (Eg rows) j 0 c → (j : Int) ≤ m := fun j c wj => by
      by_cases q : j ≤ rows.length
      · exact Int.le_trans (k j c q (lt _ _ wj) wj) (hx c (lt _ _ wj))
      · obtain ⟨d, hd⟩ : ∃ d, j = rows.length + d := ⟨j - rows.length, by omega⟩
        rw [hd] at wj
        obtain ⟨x, wx⟩ := wj.cut
        have := Int.le_trans (k rows.length x (Nat.le_refl _) (lt _ _ wx) wx) (hx x (lt _ _ wx))
        omega
    obtain ⟨i, wi⟩ := reach a (wk_lt ok hc wj)
    have := short (i + j) c (wi.app wj)
    omega
end G
set_option Elab.async false
set_option linter.all false
set_option maxRecDepth 100000
set_option maxHeartbeats 1000000
/-! own layer: the world in one, more rules -/
namespace G
open PySem PySem.Spec L2 LamX
structure Wd where
  P : Program
  w : World
  K : PySem.W.Frag
  mg : Str → Option Value
  base : Heap
  T : List (Addr × Str)
abbrev Kp (W : Wd) (d : He.DefD) (ps : List Str) (k : Nat) (rel : List D → D → Prop) : Prop := Keeps W.P W.w W.K W.mg W.base d ps k (spD W.T rel)
section
variable {W : Wd} {d : He.DefD} {ps N : List Str} {j k : Nat} {rel rel' : List D → D → Prop}
theorem kp_vac (F : There W.K d ps) (S : FnScope N ps d.scope) : Kp W d ps (k + 1) fun _ _ => False :=
  def_ok F S (fun _ _ h => h.elim) fun _ _ _ _ _ _ _ _ _ h => h.elim
theorem Kp.up (h : Kp W d ps j rel) (l : j ≤ k) : Kp W d ps k rel := h.mono l
theorem Kp.sub (h : Kp W d ps k rel) (l : ∀ ds y, rel' ds y → rel ds y) : Kp W d ps k rel' :=
  h.imp fun _ _ _ _ ⟨Hs, ds, y, a, b, c, r, q⟩ => ⟨Hs, ds, y, a, b, c, l _ _ r, q⟩
end
theorem kit_ii : kitB "int" "int" = some true := by decide +kernel
theorem kit_ib : kitB "int" "bool" = some false := by decide +kernel
theorem kit_ss : kitB "str" "str" = some true := by decide +kernel
theorem kit_tt : kitB "tuple" "tuple" = some true := by decide +kernel
theorem kit_ni : kitB "NoneType" "int" = some false := by decide +kernel
section
variable {T : List (Addr × Str)} {ta : Option Addr} {δ : List Sl} {K : PySem.W.Frag} {te tx tb tc : TE} {t u : TT} {tr : TA} {r r' : R2} {Φ Ψ : D → Prop}
/-- one argument -/
theorem ea1 {Φ : List D → Prop} (h : Ev T ta te δ fun d => Φ [d]) : EvA T ta (tCons te tNil) δ Φ := ea_cons (h.imp fun _ q => ea_nil q)
theorem ea2 {Φ : List D → Prop} (h : Ev T ta tx δ fun d => Ev T ta tb δ fun e => Φ [d, e]) : EvA T ta (tCons tx (tCons tb tNil)) δ Φ := ea_cons (h.imp fun _ q => ea1 q)
theorem ea3 {Φ : List D → Prop} (h : Ev T ta tx δ fun d => Ev T ta tb δ fun e => Ev T ta tc δ fun f => Φ [d, e, f]) : EvA T ta (tCons tx (tCons tb (tCons tc tNil))) δ Φ := ea_cons (h.imp fun _ q => ea2 q)
/-- a test that is known -/
theorem et_known {Φ : Bool → Prop} {b : Bool} (h : EvT T ta t δ fun x => x = b) (q : Φ b) : EvT T ta t δ Φ := h.imp fun x e => by rw [e]; exact q
theorem ev_known {d : D} (h : Ev T ta te δ fun x => x = d) (q : Φ d) : Ev T ta te δ Φ := h.imp fun x e => by rw [e]; exact q
/-! signs of a text -/
def signs (x : Str) : List D := x.cps.toList.map fun c => .str (chr c)
theorem ei_str {Φ : List D → Prop} (h : Ev T ta te δ fun d => ∃ x, d = .str x ∧ (∀ c ∈ x.cps.toList, PyData.strOk (chr c) = true) ∧ Φ (signs x)) : EvI T ta (iStr te) δ Φ := fun Hs H σ R o q => by
  refine h Hs H σ _ o fun d v H1s H1 ⟨x, e, hk, h1⟩ s1 a1 => ?_
  subst e
  cases a1
  refine ⟨x, rfl, q _ _ H1s H1 h1 s1 fun Hs' H' i x1 x2 t' => ⟨fun d hd => ?_, fun hl => ?_⟩⟩
  · unfold signs at hd
    rw [List.getElem?_map] at hd
    cases hc : x.cps.toList[i]? with
    | none => rw [hc] at hd; cases hd
    | some c =>
      rw [hc] at hd
      cases hd
      have hc2 : x.cps[i]? = some c := by rw [← Array.getElem?_toList]; exact hc
      have hlt : i < x.cps.size := by
        have := (Array.getElem?_eq_some_iff.mp hc2).1
        exact this
      refine ⟨hlt, fun z H2 hy => ?_⟩
      obtain ⟨rfl, c', e1, rfl⟩ := hy
      rw [hc2] at e1
      cases e1
      exact ⟨Hs', Stp.refl x2 t', .str _ (hk c (List.mem_of_getElem? hc))⟩
  · unfold signs at hl
    rw [List.length_map, Array.length_toList] at hl
    exact hl
abbrev rInSign : R2 := fun x y H Q => ∃ (c : Nat) (z : Str), x = .str ⟨#[c]⟩ ∧ y = .str z ∧ Q (.bl (decide (c ∈ z.cps.toList))) H
theorem rv_inSign {c : Nat} {z : Str} (h : Φ (.bool (decide (c ∈ z.cps.toList)))) : RV T ta rInSign (.str (chr c)) (.str z) Φ := fun Hs H v u Q x t a1 a2 q => by
  cases a1
  cases a2
  exact ⟨c, z, rfl, rfl, q _ _ Hs H h (Stp.refl x t) (.bl _)⟩
/-- a text in a tuple of texts -/
theorem AtAll.strs {H : Hp} : ∀ {xs : List Str} {vs : List V}, AtAll H vs (xs.map .str) → vs = xs.map V.str
  | [], _, h => by cases h; rfl
  | n :: ns, _, h => by
    have h' : AtAll H _ (.str n :: ns.map .str) := h
    cases h' with
    | cons h1 h2 =>
      cases h1
      rw [AtAll.strs h2] <;> rfl
theorem inV_strs (a : Str) : ∀ xs : List Str, inV (.str a) (xs.map V.str) = xs.any fun y => decide (y = a)
  | [] => rfl
  | x :: xs => by
    unfold inV at *
    rw [List.map_cons, List.any_cons, List.any_cons]
    have e : eqV (V.str x) (.str a) = decide (x = a) := by
      first
        | rfl
        | (unfold eqV; simp)
    rw [e]
    have := inV_strs a xs
    unfold inV at this
    rw [this]
theorem flat_strs : ∀ xs : List Str, (xs.map V.str).all flatV = true
  | [] => rfl
  | x :: xs => by
    rw [List.map_cons, List.all_cons, flat_strs xs]
    rfl
theorem rv_notInT {a : Str} {xs : List Str} (h : Φ (.bool (!xs.any fun y => decide (y = a)))) : RV T ta (rIn K true) (.str a) (.tuple (xs.map .str)) Φ := fun Hs H v u Q x t a1 a2 q => by
  cases a1
  cases a2 with
  | @tup p vs _ h1 h2 =>
    rw [h2.strs] at h1
    refine ⟨p, _, rfl, .inr (SqT.of (x _ _ h1 nt_tup)), rfl, flat_strs _, ?_⟩
    rw [if_pos rfl, inV_strs]
    exact q _ _ Hs H h (Stp.refl x t) (.bl _)
end
end G
set_option Elab.async false
set_option linter.all false
set_option maxRecDepth 100000
set_option maxHeartbeats 1000000
/-! own layer: known tests -/
namespace G
open PySem PySem.Spec L2 LamX
theorem bft {C : Prop} {a b : Bool} (e : a = b) (z : a = !b) : C := by
  subst e
  cases a <;> cases z
section
variable {T : List (Addr × Str)} {ta : Option Addr} {δ : List Sl} {K : PySem.W.Frag} {te tx tb tc : TE} {t u : TT} {ts us : TS} {tr : TA} {r r' : R2} {Φ Ψ : D → Prop} {P : Po}
theorem et_orF (h1 : EvT T ta t δ (· = false)) (h2 : EvT T ta u δ (· = false)) : EvT T ta (tOr t u) δ (· = false) := et_or (h1.imp fun a e => ⟨fun z => bft e z, fun _ => h2⟩)
theorem et_or1 (h1 : EvT T ta t δ (· = true)) : EvT T ta (tOr t u) δ (· = true) := et_or (h1.imp fun a e => ⟨fun _ => rfl, fun z => bft e z⟩)
theorem et_or2 (h1 : EvT T ta t δ (· = false)) (h2 : EvT T ta u δ (· = true)) : EvT T ta (tOr t u) δ (· = true) := et_or (h1.imp fun a e => ⟨fun z => bft e z, fun _ => h2⟩)
theorem et_andT (h1 : EvT T ta t δ (· = true)) (h2 : EvT T ta u δ (· = true)) : EvT T ta (tAnd t u) δ (· = true) := et_and (h1.imp fun a e => ⟨fun _ => h2, fun z => bft e z⟩)
theorem et_and1 (h1 : EvT T ta t δ (· = false)) : EvT T ta (tAnd t u) δ (· = false) := et_and (h1.imp fun a e => ⟨fun z => bft e z, fun _ => rfl⟩)
theorem et_and2 (h1 : EvT T ta t δ (· = true)) (h2 : EvT T ta u δ (· = false)) : EvT T ta (tAnd t u) δ (· = false) := et_and (h1.imp fun a e => ⟨fun _ => h2, fun z => bft e z⟩)
theorem et_andB {a b : Bool} (h1 : EvT T ta t δ (· = a)) (h2 : a = true → EvT T ta u δ (· = b)) : EvT T ta (tAnd t u) δ (· = (a && b)) := et_and (h1.imp fun c e => by
  subst e
  exact ⟨fun z => by rw [z]; exact (h2 z).imp fun _ q => q, fun z => by rw [z]; rfl⟩)
theorem et_notT (h1 : EvT T ta t δ (· = false)) : EvT T ta (tNot t) δ (· = true) := et_not (h1.imp fun a e => by rw [e]; rfl)
theorem et_notF (h1 : EvT T ta t δ (· = true)) : EvT T ta (tNot t) δ (· = false) := et_not (h1.imp fun a e => by rw [e]; rfl)
theorem et_notB {a : Bool} (h1 : EvT T ta t δ (· = a)) : EvT T ta (tNot t) δ (· = !a) := et_not (h1.imp fun a e => by rw [e])
theorem et_BE {b : Bool} (h : Ev T ta te δ (· = .bool b)) : EvT T ta (tB te) δ (· = b) := et_B (h.imp fun d e => ⟨b, e, rfl⟩)
theorem et_TE {b : Bool} (h : Ev T ta te δ (· = .bool b)) : EvT T ta (tTest te) δ (· = b) := et_T (h.imp fun d e => ⟨b, e, rfl⟩)
theorem ev_andB {a b : Bool} (h1 : Ev T ta tx δ (· = .bool a)) (h2 : a = true → Ev T ta tb δ (· = .bool b)) : Ev T ta (tAndV tx tb) δ (· = .bool (a && b)) := ev_andV (h1.imp fun c e => by
  refine ⟨a, e, fun z => ?_, fun z => ?_⟩
  · rw [z]
    exact (h2 z).imp fun _ q => q
  · rw [z]
    rfl)
theorem ev_notB {a : Bool} (h1 : Ev T ta tx δ (· = .bool a)) : Ev T ta (tNotV tx) δ (· = .bool (!a)) := ev_notV (h1.imp fun c e => ⟨a, e, rfl⟩)
theorem ev_chainB {x y w : D} {k m : Bool} (h1 : Ev T ta tx δ (· = x)) (h2 : Ev T ta tb δ (· = y)) (h3 : RV T ta r x y (· = .bool k)) (h4 : k = true → Ev T ta tc δ (· = w)) (h5 : RV T ta r' y w (· = .bool m)) : Ev T ta (tChain r r' tx tb tc) δ (· = .bool (k && m)) :=
  ev_chain (h1.imp fun _ e1 => by
    subst e1
    refine h2.imp fun _ e2 => ?_
    subst e2
    intro Hs H v u' Q x t a1 a2 q
    refine h3 Hs H v u' Q x t a1 a2 fun d w' Hs' H' e s a => q d w' Hs' H' ⟨k, e, fun z => (h4 z).imp fun _ e3 => ?_, fun z => by rw [z]; rfl⟩ s a
    subst e3
    rw [z]
    exact h5)
theorem ev_ifT (h : EvT T ta t δ (· = true)) (k : Ev T ta tx δ Φ) : Ev T ta (tIf t tx tb) δ Φ := ev_if (h.imp fun a e => ⟨fun _ => k, fun z => bft e z⟩)
theorem ev_ifF (h : EvT T ta t δ (· = false)) (k : Ev T ta tb δ Φ) : Ev T ta (tIf t tx tb) δ Φ := ev_if (h.imp fun a e => ⟨fun z => bft e z, fun _ => k⟩)
theorem sv_ifT (h : EvT T ta t δ (· = true)) (k : Sv T ta ts δ P) : Sv T ta (tIfS t ts us) δ P := sv_if (h.imp fun a e => ⟨fun _ => k, fun z => bft e z⟩)
theorem sv_ifF (h : EvT T ta t δ (· = false)) (k : Sv T ta us δ P) : Sv T ta (tIfS t ts us) δ P := sv_if (h.imp fun a e => ⟨fun z => bft e z, fun _ => k⟩)
theorem sv_ifP (p : Prop) [Decidable p] (h : EvT T ta t δ (· = decide p)) (k1 : p → Sv T ta ts δ P) (k2 : ¬ p → Sv T ta us δ P) : Sv T ta (tIfS t ts us) δ P := by
  by_cases z : p
  · exact sv_ifT (h.imp fun a e => by rw [e]; exact decide_eq_true z) (k1 z)
  · exact sv_ifF (h.imp fun a e => by rw [e]; exact decide_eq_false z) (k2 z)
theorem et_yes {Φ : Bool → Prop} (h : Φ true) : EvT T ta tYes δ Φ := fun Hs H σ Q o q => q true Hs H h o.refl
theorem turn1 {i : Nat} {x z : D} (h : Ev T ta te (δ.set i (.d x)) (· = z)) : Turn T ta (gName i) [i] tYes te δ x (some z) :=
  gt_name (et_yes ⟨fun _ => ⟨z, rfl, h⟩, fun q => by cases q⟩)
theorem turn2 {i j : Nat} {x y z : D} (h : Ev T ta te ((δ.set i (.d x)).set j (.d y)) (· = z)) : Turn T ta (gTup K 2 (gCons (gName i) (gCons (gName j) gNil))) ([i] ++ [j]) tYes te δ (.tuple [x, y]) (some z) :=
  gt_pair (gt_name (gt_name (et_yes ⟨fun _ => ⟨z, rfl, h⟩, fun q => by cases q⟩)))
theorem turn2F {i j : Nat} {x y : D} {z : Option D} {b : Bool} (h1 : EvT T ta t ((δ.set i (.d x)).set j (.d y)) (· = b)) (h2 : b = true → ∃ w, z = some w ∧ Ev T ta te ((δ.set i (.d x)).set j (.d y)) (· = w)) (h3 : b = false → z = none) : Turn T ta (gTup K 2 (gCons (gName i) (gCons (gName j) gNil))) ([i] ++ [j]) t te δ (.tuple [x, y]) z :=
  gt_pair (gt_name (gt_name (h1.imp fun c e => by
    subst e
    exact ⟨h2, h3⟩)))
/-! == -/
theorem eqv_int (a b : Int) : PyData.eqv (.int a) (.int b) = decide (a = b) := by
  rw [Bool.eq_iff_iff, eqv_eq _ _ rfl rfl, decide_eq_true_eq]
  exact ⟨fun h => by cases h; rfl, fun h => by rw [h]⟩
theorem eqv_str (a b : Str) : PyData.eqv (.str a) (.str b) = decide (a = b) := by
  rw [Bool.eq_iff_iff, eqv_eq _ _ rfl rfl, decide_eq_true_eq]
  exact ⟨fun h => by cases h; rfl, fun h => by rw [h]⟩
theorem rv_eqI {a b : Int} (h : Φ (.bool (decide (a = b)))) : RV T ta (rEqA K) (.int a) (.int b) Φ := rv_eqA (by simp [PyData.depth]) (by rw [eqv_int]; exact h)
theorem rv_eqS {a b : Str} (h : Φ (.bool (decide (a = b)))) : RV T ta (rEqA K) (.str a) (.str b) Φ := rv_eqA (by simp [PyData.depth]) (by rw [eqv_str]; exact h)
/-- t[j], t in a slot -/
theorem ev_ix {i : Nat} {j : Int} {ds : List D} {d : D} (e : δ[i]? = some (.d (.tuple ds))) (e2 : L2.atI ds j = some d) (h : Φ d) : Ev T ta (tOp (rIxT K) (tVar i) (tC (.int j))) δ Φ := ev_op (ev_var e (ev_int (rv_ixT e2 h)))
/-- t[j] == 'a' -/
theorem et_ixS {i : Nat} {j : Int} {ds : List D} {a b : Str} {Φ : Bool → Prop} (e : δ[i]? = some (.d (.tuple ds))) (e2 : L2.atI ds j = some (.str a)) (h : Φ (decide (a = b))) (ok : PyData.strOk b = true := by decide +kernel) : EvT T ta (tTest (tOp (rEqA K) (tOp (rIxT K) (tVar i) (tC (.int j))) (tC (.str b)))) δ Φ :=
  et_T (ev_op (ev_ix e e2 (ev_str (rv_eqS ⟨_, rfl, h⟩) ok)))
theorem rv_eqP {p q : Part} (hn : nestP p ≤ 60 ∨ nestP q ≤ 60) (h : Φ (.bool (decide (p = q)))) : RV T ta (rEqA K) (encP p) (encP q) Φ := rv_eqA (by have := encP_depth p; have := encP_depth q; omega) (by rw [eqv_encP]; exact h)
theorem rv_neP {p q : Part} (hn : nestP p ≤ 60 ∨ nestP q ≤ 60) (h : Φ (.bool (!decide (p = q)))) : RV T ta (rNeA K) (encP p) (encP q) Φ := rv_neA (by have := encP_depth p; have := encP_depth q; omega) (by rw [eqv_encP]; exact h)
theorem rv_eqL {p q : Plan} (hn : nestL p ≤ 60 ∨ nestL q ≤ 60) (h : Φ (.bool (decide (p = q)))) : RV T ta (rEqA K) (enc p) (enc q) Φ := rv_eqA (by have := enc_depth p; have := enc_depth q; omega) (by rw [eqv_enc]; exact h)
end
theorem chr_ok {c : Nat} (h : 97 ≤ c ∧ c ≤ 122) : PyData.strOk (chr c) = true := by
  obtain ⟨h1, h2⟩ := h
  have : ∀ c : Fin 26, PyData.strOk (chr (97 + c.val)) = true := by decide +kernel
  have e := this ⟨c - 97, by omega⟩
  have e2 : 97 + (c - 97) = c := by omega
  rw [e2] at e
  exact e
theorem small_mem {c : Nat} (h : 97 ≤ c ∧ c ≤ 122) : c ∈ ("abcdefghijklmnopqrstuvwxyz" : Str).cps.toList := by
  obtain ⟨h1, h2⟩ := h
  have : ∀ c : Fin 26, (97 + c.val) ∈ ("abcdefghijklmnopqrstuvwxyz" : Str).cps.toList := by decide +kernel
  have e := this ⟨c - 97, by omega⟩
  have e2 : 97 + (c - 97) = c := by omega
  rw [e2] at e
  exact e
theorem dlen (n m : Nat) : decide ((n : Int) = (m : Int)) = decide (n = m) := by
  rw [Bool.eq_iff_iff, decide_eq_true_eq, decide_eq_true_eq]
  omega
def rankT : List (Str × He.Dv) := [("name", .int 0), ("mark", .int 1), ("got", .int 2), ("letter", .int 3), ("wait", .int 4)]
def rRank (K : PySem.W.Frag) : R2 := fun x y H Q => ∃ z i, x = .ref (He.ga K "RANKS") ∧ y = .str z ∧ (z, He.Dv.int i) ∈ rankT ∧ Q (.int i) H
theorem pe_ranks {X : Cx} {i : Expr} {ty : TE} {p pos : Pos} (D : ∃ es n, KDict X.K X.w (He.ga X.K "RANKS") es n) (B : Bs X.K X.mg) (hi : PE X i ty) (hs : NoSl i) (hg : Gl X "RANKS" := by rfl) : PE X (.Subscript (.Name "RANKS" p) i pos) (tOp (rRank X.K) (tC (.ref (He.ga X.K "RANKS"))) ty) := by
  obtain ⟨es, n, D⟩ := D
  have ho : PE X (.Name "RANKS" p) (tC (.ref (He.ga X.K "RANKS"))) := pe_glob hg B.ranks rfl
  refine ⟨fun pins s σ H Q I h => ?_⟩
  refine subD_of PySem.F.slot_dict_getitem.lookup hs (thn (ho.run pins s σ H _ I h) fun u s1 ⟨x, H1, I1, rx, q1⟩ => thn (hi.run pins s1 σ H1 _ I1 q1) fun iv s2 ⟨y, H2, I2, ry, z, j, ex, ey, hz, q2⟩ => ?_)
  subst ex ey
  obtain rfl : u = Value.ref _ := rx
  obtain ⟨u0, e0, r0⟩ := He.valsB_ok B.rankv hz
  exact ⟨kd_type D I2, op_item_kd D pins s2 σ H2 (.ref (He.ga X.K "RANKS")) (.str z) _ _ Q I2 (show RelV (.ref (He.ga X.K "RANKS")) (Value.ref _) from rfl) ry ⟨z, u0, _, rfl, rfl, e0, r0, q2⟩⟩
theorem ev_rank {T : List (Addr × Str)} {ta : Option Addr} {δ : List Sl} {K : PySem.W.Frag} {te : TE} {Φ : D → Prop} (h : Ev T ta te δ fun d => ∃ z i, d = .str z ∧ (z, He.Dv.int i) ∈ rankT ∧ Φ (.int i)) : Ev T ta (tOp (rRank K) (tC (.ref (He.ga K "RANKS"))) te) δ Φ := fun Hs H σ Q o q => by
  refine h Hs H σ _ o fun d v H1s H1 ⟨z, i, e, hz, h1⟩ s1 a1 => ?_
  subst e
  cases a1
  exact ⟨z, i, rfl, rfl, hz, q _ _ H1s H1 h1 s1 (.int _)⟩
/-! the same rules with the frame said -/
section
variable {X : Cx}
theorem ix_tupK (K : PySem.W.Frag) (h : X.K = K := by rfl) : IxR X (rIxT K) := h ▸ ix_tup
theorem ix_listK (K : PySem.W.Frag) (h : X.K = K := by rfl) : IxR X (rIxL K) := h ▸ ix_list
theorem op_eqK (K : PySem.W.Frag) (hu : X.A.units + 200 < cLine) (h : X.K = K := by rfl) : OpR X (compareOp .Eq) (rEqA K) := h ▸ op_eqA hu
theorem op_neK (K : PySem.W.Frag) (hu : X.A.units + 200 < cLine) (h : X.K = K := by rfl) : OpR X (compareOp .NotEq) (rNeA K) := h ▸ op_neA hu
theorem op_inK (K : PySem.W.Frag) (hu : X.A.units + 200 < cLine) (h : X.K = K := by rfl) : OpR X (compareOp .In) (rInA K) := h ▸ op_inA hu
theorem op_notInK (K : PySem.W.Frag) (hu : X.A.units + 200 < cLine) (h : X.K = K := by rfl) : OpR X (compareOp .NotIn) (rNotInA K) := h ▸ op_notInA hu
theorem call_lenK (K : PySem.W.Frag) (h : X.K = K := by rfl) : CallR X (.builtin "len") (rLenQ K) := h ▸ call_len_seq
theorem pg_tupK (K : PySem.W.Frag) {es : List Expr} {k : Nat} {t : TGs} {n : Nat} {pos : Pos} (hc : X.calm = true) (h : PGs X es t) (hn : (assignEach es X.env).length = n := by rfl) (hst : (assignEach es X.env).findIdx? (·.1) = none := by rfl) (hK : X.K = K := by rfl) : PG X (.Tuple es k pos) (gTup K n t) := hK ▸ pg_tup hc h hn hst
end
end G
set_option Elab.async false
set_option linter.all false
set_option maxRecDepth 100000
set_option maxHeartbeats 1000000
/-! enumerate over a tuple -/
namespace G
open PySem PySem.Spec PyProof.Rows L2
theorem enumT_new {val : Value} {ob : Obj} {Z : Heap → Prop} (Bg : Begins val ob Z) :
    Meets (Builtin.«enumerate.__new__» ⟨[.type "enumerate", val], []⟩) (fun _ R st => Z st.heap ∧ R (.ok (.ret (.ref (st.heap.push ob).objs.size))) { st with heap := (st.heap.push ob).push { cls := .type "enumerate", data := .fields #[.none, .bool false, .ref st.heap.objs.size, rawInt 0, .none, .none] } }) :=
  .of_wp fun prog w A R st hyp => by
    obtain ⟨hp1, g1, d1, tk1, os1⟩ := st
    obtain ⟨hz, hyp⟩ := hyp
    have hsb := sub_enumerate
    have qi : ∀ {A' : Around} {E' : Value → Shared → Prop} {Q' : Value → Shared → Prop}, Q' (.ref hp1.objs.size) ⟨hp1.push ob, g1, d1, tk1, os1⟩ → wpAny (model prog w) A' (pyIter val) Q' E' ⟨hp1, g1, d1, tk1, os1⟩ :=
      fun q => Bg.iter prog w _ _ ⟨hp1, g1, d1, tk1, os1⟩ _ hz q
    wp_walk using qi
    refine wpAny_stack_any fun stk => wpAny_pure ?_
    split
    · rename_i cc _ _ _ _ _
      cases (cc == Value.type "enumerate")
      · wp_walk using qi
        exact ⟨_, rfl, hyp⟩
      · wp_walk using qi
        exact ⟨_, rfl, hyp⟩
    · wp_walk using qi
      exact ⟨_, rfl, hyp⟩
theorem enumT_call {prog : Program} {w : World} {A : Around} {E : Value → Shared → Prop} {s : Shared} {val : Value} {ob : Obj} {Z : Heap → Prop} {Q : Value → Shared → Prop} (Bg : Begins val ob Z) (hz : Z s.heap)
    (k : ∀ h2, IsEnum h2 (s.heap.objs.size + 1) s.heap.objs.size 0 .none → h2.get? s.heap.objs.size = some ob → (∀ b o, s.heap.get? b = some o → h2.get? b = some o) → Q (.ref (s.heap.objs.size + 1)) { s with heap := h2 }) :
    wpAny (model prog w) A (call (.type "enumerate") [val]) Q E s := by
  refine callType_new F.called_enumerate (by decide) (F.typeCall_enumerate_1 _) (F.newCall_enumerate_1 _) (fun obj => F.args_object_init_2 obj _) F.entry_enumerate_new (enumT_new Bg) ⟨hz, ?_⟩
  have z1 : (s.heap.push ob).objs.size = s.heap.objs.size + 1 := Heap.size_push ..
  have he := Heap.get?_push_size (s.heap.push ob) (o := { cls := .type "enumerate", data := .fields #[.none, .bool false, .ref s.heap.objs.size, rawInt 0, .none, .none] }) rfl
  rw [z1] at he
  show _ ∧ _
  rw [z1]
  exact ⟨⟨_, he, rfl⟩, k _ he (Heap.get?_push_of_some _ (Heap.get?_push_size _ Bg.free)) fun b o x => Heap.get?_push_of_some _ (Heap.get?_push_of_some _ x)⟩
/-- the tuple at a, each item in a new pair -/
def IteT (K : PySem.W.Frag) (a : Addr) : It where
  go := fun i H => ∃ (xs : List V) (x : V), SqT K H a xs ∧ xs[i]? = some x
  yld := fun i H v H' => ∃ T x, v = .ref T ∧ H T = none ∧ H' = upd H T (.tup [.int (i : Nat), x]) ∧ ∀ xs, SqT K H a xs → xs[i]? = some x
  stop := fun i H => ∃ xs : List V, SqT K H a xs ∧ xs.length ≤ i
theorem turn_enumT {P : Program} {w : World} {K : PySem.W.Frag} {elts : List Expr} {kk : Nat} {tpos : Pos} (a e it : Addr) :
    L2.Turn P w K (.Tuple elts kk tpos) (IteT K a) [e, it] e (fun i h => (∃ old, IsEnum h e it ((i : Nat) : Int) old) ∧ h.IsTupleIter it a i ∧ e ≠ it) where
  mem := by simp
  obj := fun i h st b hb => by
    obtain ⟨⟨old, he⟩, ⟨o, ho, hc, hd⟩, _⟩ := st
    rcases (by simpa using hb : b = e ∨ b = it) with z | z <;> rw [z]
    · exact ⟨_, he, fun v q => nomatch q⟩
    · exact ⟨o, ho, fun v q => by rw [hd] at q; cases q⟩
  keep := fun i h h' st k => ⟨⟨st.1.choose, k e (by simp) _ st.1.choose_spec⟩, st.2.1.at fun o q => k it (by simp) o q, st.2.2⟩
  item := by
    intro X hP hw hK hc i pins s σ H E I hf st hg
    subst hP hw hK
    obtain ⟨⟨old, he⟩, hit, hne⟩ := st
    obtain ⟨xs, x, hq, hx⟩ := hg
    obtain ⟨its, rv, p, hz⟩ := I.tuple hq
    obtain ⟨u, hu, ru⟩ := rv.get hx
    have l1 : e < s.heap.objs.size := Heap.lt_size he
    have l2 : it < s.heap.objs.size := by
      obtain ⟨_, q, _⟩ := hit
      exact Heap.lt_size q
    have l3 : a < s.heap.objs.size := by
      obtain ⟨_, q, _⟩ := p
      exact Heap.lt_size q
    have na : a ≠ e := fun z => by
      obtain ⟨o, q, hc', _⟩ := p
      rw [z, he] at q
      cases q
      exact absurd (Value.type.inj hc') (by decide)
    have ni : a ≠ it := fun z => by
      obtain ⟨o, q, hc', _⟩ := p
      obtain ⟨o', q', hc2, _⟩ := hit
      rw [z, q'] at q
      cases q
      rw [hc2] at hc'
      exact absurd (Value.type.inj hc') (by decide)
    have hlt : i < its.toArray.size := by
      have := (List.getElem?_eq_some_iff.mp hu).1
      simpa using this
    refine wpAny_pyNext_enum_itemD (Draws.tuple (A := X.A.in1) (I.ok.hd hc) it a ni its.toArray) he ⟨hit, p⟩ hlt hne (by simp [hne, Ne.symm na]) fun y h' tk hy ho hs' hT hsz hk => ?_
    have ey : y = u := by
      have h3 : its.toArray[i]? = some y := hy
      have h4 : its.toArray[i]? = some u := by simpa using hu
      rw [h3] at h4
      exact Option.some.inj h4
    subst ey
    refine ⟨_, rfl, wpAny_letOwnedTupleGo_enum (s := { s with heap := h', toks := tk + 1 }) ho fun h'' he' sb => ?_⟩
    have hT2 : h''.get? s.heap.objs.size = some { cls := .type "tuple", data := .seq #[.int i tk, y] } := (sb.2 _ (Nat.ne_of_gt l1)).trans hT
    have I1 : Inv X pins σ (upd H s.heap.objs.size (.tup [.int (i : Nat), x])) { s with heap := h'', toks := tk + 1 } :=
      I.turnedNew (ch := [e, it]) (fun b ob hb q => (sb.2 b (fun z => hb (by simp [z]))).trans (hk b ob (fun z => hb (by simp [z])) (fun z => hb (by simp [z])) q)) hf (Nat.le_refl _) ⟨by show 2 ≤ sizeLine; decide, [.int i tk, y], .cons ⟨_, rfl⟩ (.cons ru .nil), ⟨_, hT2, rfl, _, rfl⟩⟩
    refine ⟨.ref s.heap.objs.size, _, I1, rfl, ⟨_, x, rfl, I.hok.fresh (Nat.le_refl _), rfl, fun ys hy => by rw [I.tuple_inj hy hq]; exact hx⟩, ⟨⟨y, ?_⟩, hs'.1.at fun o q => (sb.2 it (Ne.symm hne)).trans q, hne⟩, fun b hb => ?_⟩
    · rw [show ((i + 1 : Nat) : Int) = (i : Int) + 1 by omega]
      exact he'
    · have lb : b < s.heap.objs.size := by
        rcases (by simpa using hb : b = e ∨ b = it) with z | z <;> rw [z]
        · exact l1
        · exact l2
      rw [upd_ne (Nat.ne_of_lt lb)]
      exact (hf b hb).1
  done := by
    intro X hP hw hK hc i pins s σ H E I hf st hg
    subst hP hw hK
    obtain ⟨⟨old, he⟩, hit, hne⟩ := st
    obtain ⟨xs, hq, hx⟩ := hg
    obtain ⟨its, rv, p, hz⟩ := I.tuple hq
    obtain ⟨f0, f1, f2, f3, f4, f5⟩ := hf it (by simp)
    have hl := rv.length
    have hno : its.toArray[i]? = none := by
      simp
      omega
    have D0 : Draws X.prog X.w X.A.in1 it [it, a] 0 (fun _ _ => False) (fun _ h => h.IsTupleIter it a i ∧ h.IsTuple a its.toArray) :=
      ⟨fun _ _ z => let ⟨o, ho, _⟩ := z.1; ⟨o, ho⟩, fun _ _ _ z k => ⟨z.1.at fun o q => k it (by simp) o q, z.2.at fun o q => k a (by simp) o q⟩, fun _ _ _ _ z => absurd z (Nat.not_lt_zero _), fun s' Q' E' z k => wpAny_nextOf_tuple_end (I.ok.hd hc) z.1 z.2 hno k⟩
    exact wpAny_pyNext_enum_endD D0 he ⟨hit, p⟩ fun h' eb => ⟨rfl, I.turned (t' := s.toks) (fun b o hb q => eb b o hb q) f0 f1 f3 f4 f5⟩
  self := fun A i s Q E st h => wpAny_pyIter_enum st.1.choose_spec h
def iEnumT (K : PySem.W.Frag) (ta : TA) : TI := fun σ H R => ta σ H fun vs H1 => ∃ a xs, vs = [.ref a] ∧ SqT K H1 a xs ∧ R (IteT K a) H1
theorem pi_enumT {X : Cx} {e : Expr} {ta : TA} {p pos tpos : Pos} {elts : List Expr} {kk : Nat} (hg : Gl X "enumerate") (hm : X.mg "enumerate" = none) (ha : PA X [e] ta) (hs : starEach [e] X.env = [(false, eval e X.env)] := by rfl) :
    PI X (.Tuple elts kk tpos) (.Call (.Name "enumerate" p) [e] [] pos) (iEnumT X.K ta) := by
  refine ⟨fun pins st σ H R I hyp => ?_⟩
  refine Call_ (ld_blt I hg hm boot_enumerate (PyProof.Rows.callWith_type1 (thn (ha.run pos pins st σ H _ I hyp) fun us s1 ⟨vs, H1, I1, r1, q1⟩ => ?_) hs rfl))
  obtain ⟨a, xs, ex, hq, q⟩ := q1
  subst ex
  cases r1 with
  | cons r rr =>
    cases rr
    cases r
    obtain ⟨its, rv, tp, hz⟩ := I1.tuple hq
    refine enumT_call (begins_tuple a its.toArray) tp fun h2 he hit hk => wpAny_pyIter_enum he ?_
    have I2 : Inv X pins σ H1 { s1 with heap := h2 } := I1.kept (t' := s1.toks) hk
    refine ⟨s1.heap.objs.size + 1, [s1.heap.objs.size + 1, s1.heap.objs.size], _, _, H1, rfl, I2, turn_enumT a (s1.heap.objs.size + 1) s1.heap.objs.size, ⟨⟨.none, he⟩, ⟨_, hit, rfl, rfl⟩, Nat.succ_ne_self _⟩, fun b hb => ?_, q⟩
    have lb : s1.heap.objs.size ≤ b := by
      rcases (by simpa using hb : b = s1.heap.objs.size + 1 ∨ b = s1.heap.objs.size) with z | z <;> rw [z]
      · exact Nat.le_add_right _ _
      · exact Nat.le_refl _
    exact I1.fpOk lb (I1.hok.fresh lb)
section
variable {T : List (Addr × Str)} {ta : Option Addr} {δ : List Sl} {K : PySem.W.Frag} {te : TE} {Φ : List D → Prop}
theorem walk_enumT {Hw : Hp} {a : Addr} {xs : List V} {ds : List D} (hw : Hw a = some (.tup xs)) (ha : AtAll Hw xs ds) : Walks T ta (IteT K a) (pairs 0 ds) Hw := fun Hs' H' i x1 x2 t' => by
  have hq : SqT K H' a xs := SqT.of (x2 _ _ (x1 _ _ hw nt_tup) nt_tup)
  refine ⟨fun d hd => ?_, fun hl => ?_⟩
  · obtain ⟨x, hx, rfl⟩ := pairs_get hd
    obtain ⟨w, e1, e2⟩ := ha.get hx
    refine ⟨⟨xs, w, hq, e1⟩, fun y H2 hy => ?_⟩
    obtain ⟨tp, w', rfl, hn, rfl, hy⟩ := hy
    have := hy xs hq
    rw [e1] at this
    cases this
    have s := Stp.new (T := T) (ta := ta) (o := .tup [.int (i : Nat), w]) x2 t' hn
    refine ⟨_, s, .tup upd_same (.cons ?_ (.cons ((e2.up x1).up s.s) .nil))⟩
    rw [Nat.zero_add]
    exact .int _
  · rw [pairs_len] at hl
    exact ⟨xs, hq, by rw [ha.len]; exact hl⟩
theorem ei_enumT (h : Ev T ta te δ fun d => ∃ ds, d = .tuple ds ∧ Φ (pairs 0 ds)) : EvI T ta (iEnumT K (tCons te tNil)) δ Φ := fun Hs H σ R o q => by
  refine h Hs H σ _ o fun d v H1s H1 ⟨ds, e, h1⟩ s1 a1 => ?_
  subst e
  cases a1 with
  | @tup a xs _ k1 k2 => exact ⟨a, xs, rfl, SqT.of (s1.x _ _ k1 nt_tup), q _ _ H1s H1 h1 s1 (walk_enumT k1 k2)⟩
end
end G
set_option Elab.async false
set_option linter.all false
set_option maxRecDepth 100000
set_option maxHeartbeats 1000000
/-! xs[i] += e, slices, index -/
namespace G
open PySem PySem.Spec PyProof.Rows L2
def gGetN (K : PySem.W.Frag) : V → V → Hp → VK → Prop := fun o i H Q => ∃ (p : Addr) (xs : List V) (n : Nat) (v : V), o = .ref p ∧ i = .int n ∧ SqL K H p xs ∧ xs[n]? = some v ∧ Q v H
section
variable {X : Cx}
theorem get_list : PGet X (gGetN X.K) := by
  intro pins st σ H o i ov iv Q I ro ri hyp
  obtain ⟨p, xs, n, v, rfl, rfl, hq, hx, q⟩ := hyp
  cases ro
  obtain ⟨tk, rfl⟩ := ri
  obtain ⟨its, rv, pl, hz⟩ := I.list hq
  obtain ⟨u, hu, ru⟩ := rv.get hx
  have l1 := (List.getElem?_eq_some_iff.mp hx).1
  have l2 := rv.length
  have l3 := line63
  exact wpAny_getItem_list pl.isList (by omega) (by omega) (by rw [Int.toNat_natCast]; simpa using hu) ⟨v, H, I, ru, q⟩
theorem get_listK (K : PySem.W.Frag) (h : X.K = K := by rfl) : PGet X (gGetN K) := h ▸ get_list
theorem sl_tupK (K : PySem.W.Frag) (h : X.K = K := by rfl) : SlR X (rSlA K) := h ▸ sl_tupA
theorem sl_listK (K : PySem.W.Frag) (h : X.K = K := by rfl) : SlR X (rSlL K) := h ▸ sl_list
end
section
variable {T : List (Addr × Str)} {ta : Option Addr} {δ : List Sl} {K : PySem.W.Frag} {te ti tb : TE} {P : Po} {Φ : D → Prop}
theorem sv_augS {i : Nat} {xs : List D} {f : Int → Int → Int} (e : δ[i]? = some (.l xs)) (h : Ev T ta ti δ fun k => ∃ (j : Nat) (a : Int), k = .int j ∧ xs[j]? = some (.int a) ∧ Ev T ta te δ fun d => ∃ b, d = .int b ∧ P.nx (δ.set i (.l (xs.set j (.int (f a b)))))) : Sv T ta (tAugS (tVar i) ti te (gGetN K) (ipI f) rSetL) δ P := fun A B C E σ De n q1 q2 q3 q4 => by
  obtain ⟨l, vs, e1, f1, f2, e2, a1⟩ := n.own e
  refine ⟨_, e1, ?_⟩
  refine h C E σ _ n.ok fun k v a b ⟨j, z, ek, ej, h1⟩ s at_ => ?_
  subst ek
  cases at_
  have n1 := n.step s
  have e3 := s.e _ _ e2 nt_lst f2
  obtain ⟨w, w1, w2⟩ := (a1.up s.s).get ej
  refine ⟨l, vs, j, w, rfl, rfl, SqL.of e3, w1, ?_⟩
  cases w2
  refine h1 a b σ _ n1.ok fun d u a2 b2 ⟨y, ey, p⟩ s2 at2 => ?_
  subst ey
  cases at2
  have n2 := n1.step s2
  have s12 := s.trans s2
  have e4 := s12.e _ _ e2 nt_lst f2
  have l1 := (List.getElem?_eq_some_iff.mp w1).1
  have l2 := line63
  refine ⟨z, y, rfl, rfl, l, vs, j, j, rfl, rfl, e4, ?_, ?_⟩
  · unfold ixN
    have c : (j : Int) < vs.length := by omega
    simp [c]
    try omega
  · exact q1 _ a2 _ _ p (n2.mut e e1 (s12.n _ _ e2 nt_lst f1) f2 e4 ((a1.up s12.s).set j (.int _)))
theorem cutV_to (xs : List V) (k : Nat) : cutV xs none (some (k : Int)) = xs.take k := by
  unfold cutV
  rw [HT.sIx_none, HT.sIx_nat, List.drop_zero, Nat.sub_zero]
  by_cases z : k ≤ xs.length
  · rw [Nat.min_eq_left z]
  · rw [Nat.min_eq_right (by omega), List.take_length, List.take_of_length_le (by omega)]
theorem cutV_from (xs : List V) (k : Nat) : cutV xs (some (k : Int)) none = xs.drop k := by
  unfold cutV
  rw [HT.sIx_none, HT.sIx_nat]
  by_cases z : k ≤ xs.length
  · rw [Nat.min_eq_left z, List.take_of_length_le (by rw [List.length_drop]; omega)]
  · rw [Nat.min_eq_right (by omega), List.drop_eq_nil_of_le (by omega), List.drop_eq_nil_of_le (by omega), List.take_nil]
theorem ev_slTo (h : Ev T ta te δ fun x => ∃ ds, x = .tuple ds ∧ Ev T ta tb δ fun y => ∃ k : Nat, y = .int k ∧ Φ (.tuple (ds.take k))) : Ev T ta (tSl (rSlA K) te tNoPart (tPart tb)) δ Φ := fun Hs H σ Q o q => by
  refine h Hs H σ _ o fun x v H1s H1 ⟨ds, e1, h1⟩ s1 a1 => ?_
  subst e1
  show tb σ H1 _
  refine h1 H1s H1 σ _ (o.step s1) fun y u H2s H2 ⟨k, e2, h2⟩ s2 a2 => ?_
  subst e2
  cases a2
  cases a1 with
  | @tup a vs _ k1 k2 =>
    refine ⟨_, rfl, a, vs, rfl, SqT.of (s2.x _ _ (s2.s _ _ k1 nt_tup) nt_tup), fun hw => ?_, fun _ p hp => ?_⟩
    · obtain ⟨_, hw⟩ := hw
      rw [HT.sIx_nat] at hw
      have l := k2.len
      have ek : ds.take k = ds := List.take_of_length_le (by omega)
      rw [ek] at h2
      exact q _ _ H2s H2 h2 (s1.trans s2) (.tup (s2.s _ _ k1 nt_tup) (k2.up s2.s))
    · rw [cutV_to]
      exact q _ _ _ _ h2 ((s1.trans s2).trans (Stp.new s2.x s2.t hp)) (.tup upd_same (((k2.up s2.s).take k).up (ext_s s2.x hp)))
theorem ev_slFrom (h : Ev T ta te δ fun x => ∃ ds, x = .tuple ds ∧ Ev T ta tb δ fun y => ∃ k : Nat, y = .int k ∧ Φ (.tuple (ds.drop k))) : Ev T ta (tSl (rSlA K) te (tPart tb) tNoPart) δ Φ := fun Hs H σ Q o q => by
  refine h Hs H σ _ o fun x v H1s H1 ⟨ds, e1, h1⟩ s1 a1 => ?_
  subst e1
  show tb σ H1 _
  refine h1 H1s H1 σ _ (o.step s1) fun y u H2s H2 ⟨k, e2, h2⟩ s2 a2 => ?_
  subst e2
  cases a2
  cases a1 with
  | @tup a vs _ k1 k2 =>
    refine ⟨_, rfl, a, vs, rfl, SqT.of (s2.x _ _ (s2.s _ _ k1 nt_tup) nt_tup), fun hw => ?_, fun _ p hp => ?_⟩
    · obtain ⟨hw, _⟩ := hw
      rw [HT.sIx_nat] at hw
      have l := k2.len
      have ek : ds.drop k = ds := by
        by_cases z : k = 0
        · rw [z]
          rfl
        · have : ds.length = 0 := by omega
          rw [List.length_eq_zero_iff.mp this, List.drop_nil]
      rw [ek] at h2
      exact q _ _ H2s H2 h2 (s1.trans s2) (.tup (s2.s _ _ k1 nt_tup) (k2.up s2.s))
    · rw [cutV_from]
      exact q _ _ _ _ h2 ((s1.trans s2).trans (Stp.new s2.x s2.t hp)) (.tup upd_same (((k2.up s2.s).drop k).up (ext_s s2.x hp)))
theorem evl_slFrom {Φ : List D → Prop} (h : Ev T ta te δ fun x => ∃ ds, x = .list ds ∧ Ev T ta tb δ fun y => ∃ k : Nat, y = .int k ∧ Φ (ds.drop k)) : EvL T ta (tSl (rSlL K) te (tPart tb) tNoPart) δ Φ := fun Hs H σ Q o q => by
  refine h Hs H σ _ o fun x v H1s H1 ⟨ds, e1, h1⟩ s1 a1 => ?_
  subst e1
  show tb σ H1 _
  refine h1 H1s H1 σ _ (o.step s1) fun y u H2s H2 ⟨k, e2, h2⟩ s2 a2 => ?_
  subst e2
  cases a2
  cases a1 with
  | @lst a vs _ k1 k2 =>
    refine ⟨_, rfl, a, vs, rfl, SqL.of (s2.x _ _ (s2.s _ _ k1 nt_lst) nt_lst), fun p hp => ?_⟩
    rw [cutV_from]
    have s12 := s1.trans s2
    exact q _ _ _ _ _ h2 (s12.trans (Stp.own s2.x s2.t hp)) (s12.back hp) (stable_free s2.x hp) upd_same ((k2.up s2.s).drop k)
end
end G
set_option Elab.async false
set_option linter.all false
set_option maxRecDepth 100000
set_option maxHeartbeats 1000000
/-! plain law: sizes -/
namespace G
open PySem
mutual
def posP : Part → Prop
  | .nest _ _ b => posL b
  | .name _ => True
  | .got _ => True
def posL : Plan → Prop
  | [] => True
  | (c, p) :: r => 1 ≤ c ∧ posP p ∧ posL r
end
mutual
theorem okP_pos : ∀ (p : Part) (n : Int), okP n p → posP p
  | .name _, _, _ => by simp [posP]
  | .got _, _, _ => by simp [posP]
  | .nest k d b, n, h => by
    simp only [okP] at h
    simp only [posP]
    exact okL_pos b _ h.2
theorem okL_pos : ∀ (p : Plan) (n : Int), okL n p → posL p
  | [], _, _ => by simp [posL]
  | (c, p) :: r, n, h => by
    simp only [okL] at h
    simp only [posL]
    exact ⟨h.1, okP_pos p n h.2.1, okL_pos r n h.2.2⟩
end
mutual
theorem sizeP_pos : ∀ p : Part, posP p → 1 ≤ sizeP p
  | .name _, _ => by simp [sizeP]
  | .got _, _ => by simp [sizeP]
  | .nest k d b, h => by
    simp only [posP] at h
    have := sizeL_nn b h
    simp only [sizeP]
    omega
theorem sizeL_nn : ∀ p : Plan, posL p → 0 ≤ sizeL p
  | [], _ => by simp [sizeL]
  | (c, p) :: r, h => by
    simp only [posL] at h
    have h1 := sizeP_pos p h.2.1
    have h2 := sizeL_nn r h.2.2
    simp only [sizeL]
    have : 0 ≤ c * sizeP p := Int.mul_nonneg (by omega) (by omega)
    omega
end
theorem posL_mem : ∀ {p : Plan} {x : Int × Part}, posL p → x ∈ p → 1 ≤ x.1 ∧ posP x.2 ∧ x.1 ≤ sizeL p ∧ sizeP x.2 ≤ sizeL p
  | [], _, _, h => by cases h
  | (c, p) :: r, x, h, hx => by
    simp only [posL] at h
    have h1 := sizeP_pos p h.2.1
    have h2 := sizeL_nn r h.2.2
    have h3 : 0 ≤ c * sizeP p := Int.mul_nonneg (by omega) (by omega)
    rcases List.mem_cons.mp hx with e | e
    · subst e
      refine ⟨h.1, h.2.1, ?_, ?_⟩
      · simp only [sizeL]
        have : c * 1 ≤ c * sizeP p := Int.mul_le_mul_of_nonneg_left h1 (by omega)
        omega
      · simp only [sizeL]
        have : 1 * sizeP p ≤ c * sizeP p := Int.mul_le_mul_of_nonneg_right h.1 (by omega)
        omega
    · obtain ⟨a, b, c', d⟩ := posL_mem h.2.2 e
      simp only [sizeL]
      exact ⟨a, b, by omega, by omega⟩
theorem nestL_mem : ∀ {p : Plan} {x : Int × Part}, x ∈ p → nestP x.2 ≤ nestL p
  | [], _, h => by cases h
  | (c, p) :: r, x, hx => by
    rcases List.mem_cons.mp hx with e | e
    · subst e
      simp only [nestL]
      omega
    · have := nestL_mem e
      simp only [nestL]
      omega
theorem okL_mem : ∀ {p : Plan} {n : Int} {x : Int × Part}, okL n p → x ∈ p → 1 ≤ x.1 ∧ okP n x.2
  | [], _, _, _, h => by cases h
  | (c, p) :: r, n, x, h, hx => by
    simp only [okL] at h
    rcases List.mem_cons.mp hx with e | e
    · subst e
      exact ⟨h.1, h.2.1⟩
    · exact okL_mem h.2.2 e
theorem sizeL_sum : ∀ p : Plan, sizeL p = (p.map fun x => x.1 * sizeP x.2).sum
  | [] => by simp [sizeL]
  | (c, p) :: r => by simp [sizeL, sizeL_sum r]
theorem keyL_map : ∀ p : Plan, keyL p = p.map fun x => .tuple [keyP x.2, .int x.1]
  | [] => by simp [keyL]
  | (c, q) :: r => by simp [keyL, keyL_map r]
mutual
def partsL : Plan → List D
  | [] => []
  | (_, p) :: r => encP p :: (insideP p ++ partsL r)
def insideP : Part → List D
  | .nest _ _ b => partsL b
  | .name _ => []
  | .got _ => []
end
mutual
theorem partsL_len : ∀ p : Plan, (partsL p).length = itemsL p
  | [] => by simp [partsL, itemsL]
  | (c, p) :: r => by
    have h1 := insideP_len p
    have h2 := partsL_len r
    simp only [partsL, itemsL, List.length_cons, List.length_append]
    omega
theorem insideP_len : ∀ p : Part, (insideP p).length = itemsP p
  | .name _ => by simp [insideP, itemsP]
  | .got _ => by simp [insideP, itemsP]
  | .nest _ _ b => by
    have h1 := partsL_len b
    simp only [insideP, itemsP]
    exact h1
end
theorem partsL_append (p q : Plan) : partsL (p ++ q) = partsL p ++ partsL q := by
  induction p with
  | nil => simp [partsL]
  | cons x r ih =>
    obtain ⟨c, y⟩ := x
    simp [partsL, ih]
/-! the gots that are brought at a depth -/
mutual
def gotsL : Int → Plan → Int
  | _, [] => 0
  | n, (_, p) :: r => gotsQ n p + gotsL n r
def gotsQ : Int → Part → Int
  | n, .got i => if i = n then 1 else 0
  | _, .name _ => 0
  | n, .nest k _ b => gotsL (if k then n + 1 else n) b
end
theorem gotsL_append (n : Int) (p q : Plan) : gotsL n (p ++ q) = gotsL n p + gotsL n q := by
  induction p with
  | nil => simp [gotsL]
  | cons x r ih =>
    obtain ⟨c, y⟩ := x
    simp only [List.cons_append, gotsL, ih]
    omega
theorem itemsL_mem : ∀ {p : Plan} {x : Int × Part}, x ∈ p → itemsP x.2 + 1 ≤ itemsL p
  | [], _, h => by cases h
  | (c, p) :: r, x, hx => by
    rcases List.mem_cons.mp hx with e | e
    · subst e
      simp only [itemsL]
      omega
    · have := itemsL_mem e
      simp only [itemsL]
      omega
theorem len_le_items : ∀ p : Plan, p.length ≤ itemsL p
  | [] => by simp
  | (c, p) :: r => by
    have := len_le_items r
    simp only [itemsL, List.length_cons]
    omega
/-- the size can be handled -/
structure SmL (p : Plan) : Prop where
  pos : posL p
  sm : Sm (sizeL p)
  it : itemsL p ≤ 1000000
structure SmP (p : Part) : Prop where
  pos : posP p
  sm : Sm (sizeP p)
  it : itemsP p ≤ 1000000
theorem SmL.mem {p : Plan} {x : Int × Part} (h : SmL p) (hx : x ∈ p) : SmP x.2 ∧ 1 ≤ x.1 ∧ CMulB x.1 (sizeP x.2) := by
  obtain ⟨a, b, c, d⟩ := posL_mem h.pos hx
  have e := sizeP_pos _ b
  have s1 : Sm x.1 := h.sm.le (by omega) c
  have s2 : Sm (sizeP x.2) := h.sm.le (by omega) d
  have i := itemsL_mem hx
  have hi := h.it
  exact ⟨⟨b, s2, by omega⟩, a, s1.mul s2⟩
theorem SmP.body {k : Bool} {d : Nat} {b : Plan} (h : SmP (.nest k d b)) : SmL b := by
  have h1 := h.pos
  simp only [posP] at h1
  have e := sizeL_nn b h1
  have i := h.it
  simp only [itemsP] at i
  refine ⟨h1, h.sm.le e ?_, i⟩
  simp only [sizeP]
  omega
theorem SmL.len {p : Plan} (h : SmL p) : p.length ≤ 1000000 := Nat.le_trans (len_le_items p) h.it
end G
set_option Elab.async false
set_option linter.all false
set_option maxRecDepth 100000
set_option maxHeartbeats 1000000
/-! data that can be compared up to the first place that differs -/
namespace G
open PySem PySem.Spec PySem.W PySem.SeqAt PyProof.Rows
mutual
/-- ints, texts, tuples of these -/
def kd : PyData → Bool
  | .int _ => true
  | .str x => PyData.strOk x
  | .tuple xs => kds xs
  | _ => false
def kds : List PyData → Bool
  | [] => true
  | x :: xs => kd x && kds xs
end
mutual
theorem kd_lay : ∀ x : PyData, kd x = true → x.canLay0 = true
  | .int _, _ => rfl
  | .str x, h => h
  | .tuple xs, h => kds_lay xs (by simpa [kd] using h)
  | .none, h => by simp [kd] at h
  | .bool _, h => by simp [kd] at h
  | .list _, h => by simp [kd] at h
  | .dict _, h => by simp [kd] at h
theorem kds_lay : ∀ xs : List PyData, kds xs = true → PyData.canLayAll0 xs = true
  | [], _ => rfl
  | x :: xs, h => by
    have h' : kd x = true ∧ kds xs = true := by simpa [kds] using h
    simp [PyData.canLayAll0, kd_lay x h'.1, kds_lay xs h'.2]
end
mutual
theorem kd_noB : ∀ x : PyData, kd x = true → noB x = true
  | .int _, _ => rfl
  | .str x, _ => rfl
  | .tuple xs, h => by
    have := kds_noB xs (by simpa [kd] using h)
    simpa [noB] using this
  | .none, h => by simp [kd] at h
  | .bool _, h => by simp [kd] at h
  | .list _, h => by simp [kd] at h
  | .dict _, h => by simp [kd] at h
theorem kds_noB : ∀ xs : List PyData, kds xs = true → noBs xs = true
  | [], _ => rfl
  | x :: xs, h => by
    have h' : kd x = true ∧ kds xs = true := by simpa [kds] using h
    simp [noBs, kd_noB x h'.1, kds_noB xs h'.2]
end
theorem kd_eqv {x y : PyData} (hx : kd x = true) (hy : kd y = true) : PyData.eqv x y = true ↔ x = y := eqv_eq x y (kd_noB x hx) (kd_noB y hy)
mutual
theorem reads_one : ∀ (x y : PyData) {h : Heap} {v : Value} {as bs : List Addr}, kd x = true → Reads h v x as → Reads h v y bs → x = y
  | .int _, y, _, _, _, _, _, r, q => by
    cases r
    cases q
    rfl
  | .str _, y, _, _, _, _, _, r, q => by
    cases r
    cases q
    rfl
  | .tuple xs, y, _, _, _, _, k, r, q => by
    cases r with
    | tuple h1 h2 h3 h4 =>
      cases q with
      | tuple k1 k2 k3 k4 =>
        rw [h1] at k1
        cases k1
        rw [h3] at k3
        cases k3
        rw [reads_all xs _ (by simpa [kd] using k) h4 k4]
      | list k1 k2 k3 k4 =>
        rw [h1] at k1
        cases k1
        rw [h2] at k2
        exact absurd (Value.type.inj k2) (by decide)
      | dict k1 k2 k3 k4 =>
        rw [h1] at k1
        cases k1
        rw [h2] at k2
        exact absurd (Value.type.inj k2) (by decide)
  | .none, _, _, _, _, _, k, _, _ => by simp [kd] at k
  | .bool _, _, _, _, _, _, k, _, _ => by simp [kd] at k
  | .list _, _, _, _, _, _, k, _, _ => by simp [kd] at k
  | .dict _, _, _, _, _, _, k, _, _ => by simp [kd] at k
theorem reads_all : ∀ (xs ys : List PyData) {h : Heap} {vs : List Value} {as bs : List Addr}, kds xs = true → ReadsAll h vs xs as → ReadsAll h vs ys bs → xs = ys
  | [], ys, _, _, _, _, _, r, q => by
    cases r
    cases q
    rfl
  | x :: xs, ys, _, _, _, _, k, r, q => by
    have k' : kd x = true ∧ kds xs = true := by simpa [kds] using k
    cases r with
    | cons r1 r2 =>
      cases q with
      | cons q1 q2 => rw [reads_one x _ k'.1 r1 q1, reads_all xs _ k'.2 r2 q2]
end
mutual
/-- comparable as far as the first place that differs -/
def sa : PyData → PyData → Bool
  | .int _, .int _ => true
  | .str _, .str _ => true
  | .tuple xs, .tuple ys => sas xs ys
  | _, _ => false
def sas : List PyData → List PyData → Bool
  | x :: xs, y :: ys => sa x y && (!PyData.eqv x y || sas xs ys)
  | [], _ => true
  | _ :: _, [] => true
end
abbrev Tk := List (Int ⊕ List Nat)
/-- the two rows part -/
def Parts (a b : Tk) : Prop := ∃ (p : Tk) (t u : Int ⊕ List Nat) (r1 r2 : Tk), a = p ++ t :: r1 ∧ b = p ++ u :: r2 ∧ t ≠ u
theorem Parts.app {a b : Tk} (h : Parts a b) (c d : Tk) : Parts (a ++ c) (b ++ d) := by
  obtain ⟨p, t, u, r1, r2, e1, e2, n⟩ := h
  exact ⟨p, t, u, r1 ++ c, r2 ++ d, by rw [e1]; simp, by rw [e2]; simp, n⟩
theorem Parts.pre {a b : Tk} (h : Parts a b) (c : Tk) : Parts (c ++ a) (c ++ b) := by
  obtain ⟨p, t, u, r1, r2, e1, e2, n⟩ := h
  exact ⟨c ++ p, t, u, r1, r2, by rw [e1]; simp, by rw [e2]; simp, n⟩
theorem Parts.lt {a b : Tk} (h : Parts a b) (c d : Tk) : lexLt itemOrd (a ++ c) (b ++ d) = lexLt itemOrd a b := by
  obtain ⟨p, t, u, r1, r2, e1, e2, n⟩ := h
  subst e1 e2
  rw [List.append_assoc, List.append_assoc, lex_pre, lex_pre, List.cons_append, List.cons_append, lex_diff (O := itemOrd) n, lex_diff (O := itemOrd) n]
theorem toks_cons (x : PyData) (xs : List PyData) : keyToksAll (x :: xs) = .inl 1 :: (keyToks x ++ keyToksAll xs) := by rw [keyToksAll]
theorem toks_nil : keyToksAll [] = [.inl 0] := by rw [keyToksAll]
mutual
theorem sa_parts : ∀ (x y : PyData), kd x = true → kd y = true → sa x y = true → x ≠ y → Parts (keyToks x) (keyToks y)
  | .int a, .int b, _, _, _, n => ⟨[], .inl a, .inl b, [], [], by simp [keyToks], by simp [keyToks], fun e => n (by rw [Sum.inl.inj e])⟩
  | .str a, .str b, _, _, _, n => ⟨[], .inr a.cps.toList, .inr b.cps.toList, [], [], by simp [keyToks], by simp [keyToks], fun e => n (by rw [str_of_cps (Sum.inr.inj e)])⟩
  | .tuple xs, .tuple ys, hx, hy, h, n => by
    have := sas_parts xs ys (by simpa [kd] using hx) (by simpa [kd] using hy) (by simpa [sa] using h) (fun e => n (by rw [e]))
    simpa [keyToks] using this
  | .int _, .str _, _, _, h, _ => by simp [sa] at h
  | .int _, .tuple _, _, _, h, _ => by simp [sa] at h
  | .str _, .int _, _, _, h, _ => by simp [sa] at h
  | .str _, .tuple _, _, _, h, _ => by simp [sa] at h
  | .tuple _, .int _, _, _, h, _ => by simp [sa] at h
  | .tuple _, .str _, _, _, h, _ => by simp [sa] at h
  | .none, _, h, _, _, _ => by simp [kd] at h
  | .bool _, _, h, _, _, _ => by simp [kd] at h
  | .list _, _, h, _, _, _ => by simp [kd] at h
  | .dict _, _, h, _, _, _ => by simp [kd] at h
  | _, .none, _, h, _, _ => by simp [kd] at h
  | _, .bool _, _, h, _, _ => by simp [kd] at h
  | _, .list _, _, h, _, _ => by simp [kd] at h
  | _, .dict _, _, h, _, _ => by simp [kd] at h
theorem sas_parts : ∀ (xs ys : List PyData), kds xs = true → kds ys = true → sas xs ys = true → xs ≠ ys → Parts (keyToksAll xs) (keyToksAll ys)
  | [], [], _, _, _, n => absurd rfl n
  | [], y :: ys, _, _, _, _ => ⟨[], .inl 0, .inl 1, [], _, by rw [toks_nil]; rfl, by rw [toks_cons]; rfl, by simp⟩
  | x :: xs, [], _, _, _, _ => ⟨[], .inl 1, .inl 0, _, [], by rw [toks_cons]; rfl, by rw [toks_nil]; rfl, by simp⟩
  | x :: xs, y :: ys, hx, hy, h, n => by
    have hx' : kd x = true ∧ kds xs = true := by simpa [kds] using hx
    have hy' : kd y = true ∧ kds ys = true := by simpa [kds] using hy
    have h' : sa x y = true ∧ (PyData.eqv x y = false ∨ sas xs ys = true) := by simpa [sas] using h
    rw [toks_cons, toks_cons]
    by_cases e : x = y
    · subst e
      have h2 : sas xs ys = true := by
        rcases h'.2 with z | z
        · rw [(kd_eqv hx'.1 hx'.1).mpr rfl] at z
          cases z
        · exact z
      have := sas_parts xs ys hx'.2 hy'.2 h2 (fun e => n (by rw [e]))
      exact this.pre (.inl 1 :: keyToks x)
    · exact ((sa_parts x y hx'.1 hy'.1 h'.1 e).app _ _).pre [.inl 1]
end
theorem dl_yes {x y : PyData} {xs ys : List PyData} (e : x = y) : lexLt itemOrd (keyToksAll (x :: xs)) (keyToksAll (y :: ys)) = lexLt itemOrd (keyToksAll xs) (keyToksAll ys) := by
  subst e
  rw [toks_cons, toks_cons, lex_self (O := itemOrd), lex_pre]
theorem dl_no {x y : PyData} {xs ys : List PyData} (hx : kd x = true) (hy : kd y = true) (h : sa x y = true) (e : x ≠ y) : lexLt itemOrd (keyToksAll (x :: xs)) (keyToksAll (y :: ys)) = dataLt x y := by
  rw [toks_cons, toks_cons, lex_self (O := itemOrd), (sa_parts x y hx hy h e).lt]
  rfl
/-! the first place that differs -/
theorem firstLt_succ (e r : Nat → Bool) (fin : Bool) : ∀ l : List Nat, firstLt e r fin (l.map Nat.succ) = firstLt (fun j => e (j + 1)) (fun j => r (j + 1)) fin l
  | [] => rfl
  | j :: t => by
    show (if e (j + 1) = true then firstLt e r fin (t.map Nat.succ) else r (j + 1)) = (if e (j + 1) = true then firstLt (fun j => e (j + 1)) (fun j => r (j + 1)) fin t else r (j + 1))
    rw [firstLt_succ e r fin t]
theorem firstLt_sas : ∀ (xs ys : List PyData), kds xs = true → kds ys = true → sas xs ys = true →
    firstLt (pairEq xs ys) (fun j => dataLt (xs.getD j .none) (ys.getD j .none)) (decide (xs.length < ys.length)) (List.range (min xs.length ys.length)) = lexLt itemOrd (keyToksAll xs) (keyToksAll ys)
  | [], [], _, _, _ => by rw [lex_irrefl]; rfl
  | [], y :: ys, _, _, _ => by
    rw [toks_nil, toks_cons, lex_diff (O := itemOrd) (by simp)]
    simp [firstLt, itemLt]
  | x :: xs, [], _, _, _ => by
    rw [toks_nil, toks_cons, lex_diff (O := itemOrd) (by simp)]
    simp [firstLt, itemLt]
  | x :: xs, y :: ys, hx, hy, h => by
    have hx' : kd x = true ∧ kds xs = true := by simpa [kds] using hx
    have hy' : kd y = true ∧ kds ys = true := by simpa [kds] using hy
    have h' : sa x y = true ∧ (PyData.eqv x y = false ∨ sas xs ys = true) := by simpa [sas] using h
    have em : min (x :: xs).length (y :: ys).length = min xs.length ys.length + 1 := by simp only [List.length_cons]; omega
    have e0 : pairEq (x :: xs) (y :: ys) 0 = PyData.eqv x y := rfl
    have er : decide ((x :: xs).length < (y :: ys).length) = decide (xs.length < ys.length) := by simp
    rw [em, er, List.range_succ_eq_map]
    by_cases e : x = y
    · have ev : PyData.eqv x y = true := (kd_eqv hx'.1 hy'.1).mpr e
      have h2 : sas xs ys = true := by
        rcases h'.2 with z | z
        · rw [ev] at z
          cases z
        · exact z
      rw [firstLt_yes (by rw [e0]; exact ev), firstLt_succ, dl_yes e]
      exact firstLt_sas xs ys hx'.2 hy'.2 h2
    · have ev : PyData.eqv x y = false := by
        cases q : PyData.eqv x y
        · rfl
        · exact absurd ((kd_eqv hx'.1 hy'.1).mp q) e
      rw [firstLt_no (by rw [e0]; exact ev), dl_no hx'.1 hy'.1 h'.1 e]
      rfl
end G
set_option Elab.async false
set_option linter.all false
set_option maxRecDepth 100000
set_option maxHeartbeats 1000000
/-! < of tuples that can be compared up to the first place that differs; keys of a sort -/
namespace G
open PySem PySem.Spec PySem.W PySem.SeqAt PyProof.Rows
open AutoSeq1 (wpAny_loadPart')
open MeetsSeq MeetsSeq2 MeetsSeq3 SeqRoads2
section
/-- all places ahead of i are equal -/
def Sofar (e : Nat → Bool) (i : Nat) : Prop := ∀ j, j < i → e j = true
theorem tupLt (la lb : Addr) (xs ys : Array Value) (n1 n2 : Nat) (d1 d2 : Option Addr) (s1 s2 : Array (Option Value)) (e r : Nat → Bool) :
    Meets (Builtin.«tuple.__lt__» ⟨[.ref la, .ref lb], []⟩)
      (fun A R st => st.heap.get? la = some { cls := .type "tuple", dict := d1, data := .seq xs n1, slots := s1 } ∧ st.heap.get? lb = some { cls := .type "tuple", dict := d2, data := .seq ys n2, slots := s2 } ∧
        (∀ j (h1 : j < xs.size) (h2 : j < ys.size), EqAt A.in1 st xs[j] ys[j] (e j)) ∧ (∀ j (h1 : j < xs.size) (h2 : j < ys.size), Sofar e j → e j = false → RcLt A.in1 st xs[j] ys[j] (r j)) ∧
        R (.ok (.ret (.bool (firstLt e r (decide (xs.size < ys.size)) (List.range (min xs.size ys.size)))))) st) :=
  .of_wp fun prog w A R st hyp => by
    obtain ⟨hp1, g1, d1', tk1, os1⟩ := st
    obtain ⟨hla, hlb, he, hr, hyp⟩ := hyp
    have f2 := AutoSeq1.sub_tuple_tuple
    have lz : (xs.toList.zip ys.toList).length = min xs.size ys.size := by simp
    wp_walk using wpAny_loadPart' hla, wpAny_loadPart' hlb, wpAny_forIn_list _ (fun rest b s' => b.1 = none ∧ s' = ⟨hp1, g1, d1', tk1, os1⟩ ∧ ∃ i, Sofar e i ∧ rest = (xs.toList.zip ys.toList).drop i ∧
      R (.ok (.ret (.bool (firstLt e r (decide (xs.size < ys.size)) ((List.range (min xs.size ys.size)).drop i))))) ⟨hp1, g1, d1', tk1, os1⟩) _
    case turn =>
      rintro ⟨u, v⟩ rest b s' ⟨hb1, rfl, i, so, hz, hR⟩
      have hlt : i < (xs.toList.zip ys.toList).length := by
        rcases Nat.lt_or_ge i (xs.toList.zip ys.toList).length with q | q
        · exact q
        · rw [List.drop_of_length_le q] at hz
          cases hz
      have hm : i < min xs.size ys.size := lz ▸ hlt
      have k1 : i < xs.size := Nat.lt_of_lt_of_le hm (Nat.min_le_left _ _)
      have k2 : i < ys.size := Nat.lt_of_lt_of_le hm (Nat.min_le_right _ _)
      rw [List.drop_eq_getElem_cons hlt] at hz
      injection hz with huv hrest
      have hu : u = xs[i] := by simpa using congrArg Prod.fst huv
      have hv : v = ys[i] := by simpa using congrArg Prod.snd huv
      subst hu hv
      have hd : (List.range (min xs.size ys.size)).drop i = i :: (List.range (min xs.size ys.size)).drop (i + 1) := by simp [List.drop_eq_getElem_cons, hm]
      rw [hd] at hR
      refine wpAny_bind (he i k1 k2 prog w _ _ ?_)
      cases hy : e i with
      | true =>
        rw [firstLt_yes hy] at hR
        wp_walk
        refine ⟨rfl, rfl, i + 1, fun j hj => ?_, hrest, hR⟩
        by_cases q : j = i
        · rw [q]
          exact hy
        · exact so j (by omega)
      | false =>
        rw [firstLt_no hy] at hR
        have hr2 : ∀ {E' : Value → Shared → Prop} {Q' : Value → Shared → Prop}, Q' (.bool (r i)) ⟨hp1, g1, d1', tk1, os1⟩ → wpAny (model prog w) A.in1 (richCompare .Lt xs[i] ys[i]) Q' E' ⟨hp1, g1, d1', tk1, os1⟩ := fun q => hr i k1 k2 so hy prog w _ _ q
        wp_walk using hr2
        exact ⟨_, rfl, hR⟩
    case fin =>
      rintro ⟨b1, b2⟩ s' ⟨hb1, rfl, i, so, hz, hR⟩
      simp only at hb1
      subst hb1
      have hge : min xs.size ys.size ≤ i := by
        rcases Nat.lt_or_ge i (xs.toList.zip ys.toList).length with q | q
        · rw [List.drop_eq_getElem_cons q] at hz
          cases hz
        · exact lz ▸ q
      rw [List.drop_of_length_le (by simpa using hge)] at hR
      wp_walk
      exact ⟨_, rfl, by simpa [Builtin.Tuple.tupleCompareSizes, firstLt] using hR⟩
    case h => exact ⟨rfl, rfl, 0, fun j hj => absurd hj (Nat.not_lt_zero _), rfl, by simpa using hyp⟩
theorem rcTup {A : Around} {s : Shared} {la lb : Addr} {xs ys : Array Value} {e r : Nat → Bool} (ha : s.heap.IsTuple la xs) (hb : s.heap.IsTuple lb ys) (hu : A.units < cLine)
    (he : ∀ j (h1 : j < xs.size) (h2 : j < ys.size), EqAt A.in1 s xs[j] ys[j] (e j)) (hr : ∀ j (h1 : j < xs.size) (h2 : j < ys.size), Sofar e j → e j = false → RcLt A.in1 s xs[j] ys[j] (r j)) :
    RcLt A s (.ref la) (.ref lb) (firstLt e r (decide (xs.size < ys.size)) (List.range (min xs.size ys.size))) := fun prog w E Q q => by
  obtain ⟨⟨c1, d1, t1, l1⟩, o1, k1, n1, e1⟩ := id ha
  obtain ⟨⟨c2, d2, t2, l2⟩, o2, k2, n2, e2⟩ := id hb
  simp only at k1 e1 k2 e2
  subst k1 e1 k2 e2
  exact richCompare_meets_room (op := .Lt) ⟨_, o1, rfl⟩ ⟨_, o2, rfl⟩ F.slot_tuple_lt F.entry_tuple_lt (F.args_tuple_lt_2 _ _) (tupLt la lb xs ys n1 n2 d1 d2 l1 l2 e r)
    ⟨o1, o2, he, hr, show Value.bool (firstLt e r (decide (xs.size < ys.size)) (List.range (min xs.size ys.size))) ≠ Value.notImplemented ∧ Q (.bool (firstLt e r (decide (xs.size < ys.size)) (List.range (min xs.size ys.size)))) s from ⟨(fun x => nomatch x), q⟩⟩ hu
end
mutual
theorem rc_sa : ∀ (x y : PyData) (A : Around) (s : Shared) (a b : Value) (as bs : List Addr), Reads s.heap a x as → Reads s.heap b y bs → kd x = true → kd y = true → sa x y = true → A.units + min x.depth y.depth < cLine → RcLt A s a b (dataLt x y)
  | .int _, .int _, A, s, a, b, _, _, ra, rb, _, _, _, _ => by
    cases ra
    cases rb
    intro prog w E Q q
    rw [dataLt_int] at q
    exact P.lt_int q
  | .str _, .str _, A, s, a, b, _, _, ra, rb, _, _, _, _ => by
    cases ra
    cases rb
    intro prog w E Q q
    rw [dataLt_str] at q
    exact P.lt_str q
  | .tuple xs, .tuple ys, A, s, a, b, _, _, ra, rb, kx, ky, h, hu => by
    have kx' : kds xs = true := by simpa [kd] using kx
    have ky' : kds ys = true := by simpa [kd] using ky
    have h' : sas xs ys = true := by simpa [sa] using h
    cases ra with
    | @tuple l o vs n _ as1 h1 h2 h3 h4 =>
      cases rb with
      | @tuple l' o' vs' n' _ bs1 k1 k2 k3 k4 =>
        have n1 : vs.size = xs.length := by simpa using ReadsAll.length _ _ _ h4
        have n2 : vs'.size = ys.length := by simpa using ReadsAll.length _ _ _ k4
        rw [dataLt_tuple, ← firstLt_sas xs ys kx' ky' h', ← n1, ← n2]
        refine rcTup ⟨_, h1, h2, _, h3⟩ ⟨_, k1, k2, _, k3⟩ (room_here hu) (fun j j1 j2 => ?_) fun j j1 j2 so hj => ?_
        · have := eqAt_readsAll xs ys A.in1 s vs.toList vs'.toList _ _ h4 k4 (kds_lay xs kx') (kds_lay ys ky') (room_in hu) j (by simpa using j1) (by simpa using j2)
          simpa using this
        · have := rc_sas xs ys A.in1 s vs.toList vs'.toList _ _ h4 k4 kx' ky' h' (room_in hu) j (by simpa using j1) (by simpa using j2) so hj
          simpa using this
  | .int _, .str _, _, _, _, _, _, _, _, _, _, _, h, _ => by simp [sa] at h
  | .int _, .tuple _, _, _, _, _, _, _, _, _, _, _, h, _ => by simp [sa] at h
  | .str _, .int _, _, _, _, _, _, _, _, _, _, _, h, _ => by simp [sa] at h
  | .str _, .tuple _, _, _, _, _, _, _, _, _, _, _, h, _ => by simp [sa] at h
  | .tuple _, .int _, _, _, _, _, _, _, _, _, _, _, h, _ => by simp [sa] at h
  | .tuple _, .str _, _, _, _, _, _, _, _, _, _, _, h, _ => by simp [sa] at h
  | .none, _, _, _, _, _, _, _, _, _, h, _, _, _ => by simp [kd] at h
  | .bool _, _, _, _, _, _, _, _, _, _, h, _, _, _ => by simp [kd] at h
  | .list _, _, _, _, _, _, _, _, _, _, h, _, _, _ => by simp [kd] at h
  | .dict _, _, _, _, _, _, _, _, _, _, h, _, _, _ => by simp [kd] at h
  | _, .none, _, _, _, _, _, _, _, _, _, h, _, _ => by simp [kd] at h
  | _, .bool _, _, _, _, _, _, _, _, _, _, h, _, _ => by simp [kd] at h
  | _, .list _, _, _, _, _, _, _, _, _, _, h, _, _ => by simp [kd] at h
  | _, .dict _, _, _, _, _, _, _, _, _, _, h, _, _ => by simp [kd] at h
theorem rc_sas : ∀ (xs ys : List PyData) (A : Around) (s : Shared) (vs ws : List Value) (as bs : List Addr), ReadsAll s.heap vs xs as → ReadsAll s.heap ws ys bs → kds xs = true → kds ys = true → sas xs ys = true →
    A.units + min (PyData.depthAll xs) (PyData.depthAll ys) < cLine → ∀ j (h1 : j < vs.length) (h2 : j < ws.length), Sofar (pairEq xs ys) j → pairEq xs ys j = false → RcLt A s vs[j] ws[j] (dataLt (xs.getD j .none) (ys.getD j .none))
  | [], _, _, _, _, _, _, _, ra, _, _, _, _, _, j, h1, _, _, _ => by cases ra; exact absurd h1 (Nat.not_lt_zero _)
  | _ :: _, [], _, _, _, _, _, _, _, rb, _, _, _, _, j, _, h2, _, _ => by cases rb; exact absurd h2 (Nat.not_lt_zero _)
  | x :: xs, y :: ys, A, s, _, _, _, _, ra, rb, kx, ky, h, hu, j, h1, h2, so, hj => by
    have kx' : kd x = true ∧ kds xs = true := by simpa [kds] using kx
    have ky' : kd y = true ∧ kds ys = true := by simpa [kds] using ky
    have h' : sa x y = true ∧ (PyData.eqv x y = false ∨ sas xs ys = true) := by simpa [sas] using h
    cases ra with
    | cons r rs =>
      cases rb with
      | cons r' rs' =>
        cases j with
        | zero => exact rc_sa x y A s _ _ _ _ r r' kx'.1 ky'.1 h'.1 (room_head hu)
        | succ j =>
          have e0 : PyData.eqv x y = true := so 0 (Nat.succ_pos _)
          have h3 : sas xs ys = true := by
            rcases h'.2 with z | z
            · rw [e0] at z
              cases z
            · exact z
          exact rc_sas xs ys A s _ _ _ _ rs rs' kx'.2 ky'.2 h3 (room_tail hu) j (Nat.lt_of_succ_lt_succ h1) (Nat.lt_of_succ_lt_succ h2) (fun i hi => so (i + 1) (Nat.succ_lt_succ hi)) hj
end
section
variable {prog : Program} {w : World} {A : Around} {s : Shared}
theorem one_sa {f : Bool} {x y : PyData} {a b : Value} {as bs : List Addr} {E : Value → Shared → Prop} {Q : Bool → Shared → Prop} (hf : f = true → ∃ i, x = .int i) (ra : Reads s.heap a x as) (rb : Reads s.heap b y bs) (kx : kd x = true) (ky : kd y = true) (h : sa x y = true)
    (hu : A.units + min x.depth y.depth < cLine) (q : Q (dataLt x y) s) : wpAny (model prog w) A (oneLt' f a b) Q E s := by
  cases f with
  | false =>
    rw [oneLt'_eq]
    simp only [Bool.false_eq_true, if_false]
    exact wpAny_bind (rc_sa x y A s a b as bs ra rb kx ky h hu prog w E _ (wpAny_truthy_bool q))
  | true =>
    obtain ⟨i, rfl⟩ := hf rfl
    cases y with
    | int j =>
      cases ra
      cases rb
      rw [dataLt_int] at q
      exact oneLt_int q
    | _ => simp [sa] at h
theorem kat_sas {b fin : Bool} {Q : Bool → Shared → Prop} : ∀ (xs ys : List PyData) (i : Nat) (vs ws : List Value) (as bs : List Addr), ReadsAll s.heap vs xs as → ReadsAll s.heap ws ys bs → kds xs = true → kds ys = true → sas xs ys = true →
    A.units + min (PyData.depthAll xs) (PyData.depthAll ys) < cLine → (i = 0 → ∀ x r, xs = x :: r → ∃ n, x = .int n) → fin = decide (xs.length < ys.length) → Q (lexLt itemOrd (keyToksAll xs) (keyToksAll ys)) s → KatLex prog w A b fin Q (vs.zip ws) i s
  | [], [], i, _, _, _, _, ra, rb, _, _, _, _, _, hf, q => by
    cases ra
    cases rb
    subst hf
    rw [lex_irrefl] at q
    exact kat_nil q
  | [], y :: ys, i, _, _, _, _, ra, rb, _, _, _, _, _, hf, q => by
    cases ra
    subst hf
    rw [toks_nil, toks_cons, lex_diff (O := itemOrd) (by simp)] at q
    rw [List.zip_nil_left]
    exact kat_nil (by simpa [itemLt] using q)
  | x :: xs, [], i, _, _, _, _, ra, rb, _, _, _, _, _, hf, q => by
    cases rb
    subst hf
    rw [toks_nil, toks_cons, lex_diff (O := itemOrd) (by simp)] at q
    rw [List.zip_nil_right]
    exact kat_nil (by simpa [itemLt] using q)
  | x :: xs, y :: ys, i, _, _, _, _, ra, rb, kx, ky, h, hu, hi, hf, q => by
    have kx' : kd x = true ∧ kds xs = true := by simpa [kds] using kx
    have ky' : kd y = true ∧ kds ys = true := by simpa [kds] using ky
    have h' : sa x y = true ∧ (PyData.eqv x y = false ∨ sas xs ys = true) := by simpa [sas] using h
    have hf' : fin = decide (xs.length < ys.length) := by
      rw [hf]
      simp only [List.length_cons, Nat.add_lt_add_iff_right]
    cases ra with
    | cons r rs =>
      cases rb with
      | cons r' rs' =>
        rw [List.zip_cons_cons]
        refine kat_cons (eqAt_reads x y A s _ _ _ _ r r' (kd_lay x kx'.1) (kd_lay y ky'.1) (room_head hu) prog w _ _ ?_)
        cases hx : PyData.eqv x y with
        | true =>
          have e := (kd_eqv kx'.1 ky'.1).mp hx
          have h3 : sas xs ys = true := by
            rcases h'.2 with z | z
            · rw [hx] at z
              cases z
            · exact z
          rw [dl_yes e] at q
          exact kat_yes (kat_sas xs ys (i + 1) _ _ _ _ rs rs' kx'.2 ky'.2 h3 (room_tail hu) (fun z => absurd z (Nat.succ_ne_zero i)) hf' q)
        | false =>
          have e : x ≠ y := fun z => by
            rw [(kd_eqv kx'.1 ky'.1).mpr z] at hx
            cases hx
          rw [dl_no kx'.1 ky'.1 h'.1 e] at q
          refine kat_no (one_sa (fun z => ?_) r r' kx'.1 ky'.1 h'.1 (room_head hu) q)
          rw [Bool.and_eq_true] at z
          exact hi (by simpa using z.2) x xs rfl
/-- what can be a sort's keys -/
structure KeyDs (ds : List PyData) : Prop where
  k : ∀ d ∈ ds, kd d = true
  f : ∀ d ∈ ds, ∃ i r, d = .tuple (.int i :: r)
  c : ∀ d ∈ ds, ∀ e ∈ ds, sa d e = true
theorem kind_some {h : Heap} {ds : List PyData} (K : KeyDs ds) {v : Value} {d : PyData} {as : List Addr} (hd : d ∈ ds) (r : Reads h v d as) : (dataKind h ds).keyOf v = some (keyToks d) := by
  have q : ∃ d, d ∈ ds ∧ ∃ as, Reads h v d as := ⟨d, hd, as, r⟩
  obtain ⟨h1, as', h2⟩ := q.choose_spec
  have e : (dataKind h ds).keyOf v = some (keyToks q.choose) := by
    show (open Classical in if z : ∃ d, d ∈ ds ∧ ∃ as, Reads h v d as then some (keyToks z.choose) else none) = _
    rw [dif_pos q]
  rw [e, reads_one _ _ (K.k _ h1) h2 r]
theorem sorts_keys {vs : List Value} {ds : List PyData} (e : EachIs (fun v d => ∃ as, Reads s.heap v d as) vs ds) (K : KeyDs ds) (hu : ∀ d ∈ ds, A.units + d.depth < cLine) : SortsAt prog w A s (dataKind s.heap ds) vs := by
  refine ⟨fun v hv => ?_, tuples' true, ?_, fun h2 E Q q => ?_⟩
  · obtain ⟨d, hd, as, r⟩ := e.left v hv
    exact ⟨_, kind_some K hd r⟩
  · intro E x y a b Q ha hb q
    obtain ⟨d, as, hd, ra, rfl⟩ := dataKind_inv ha
    obtain ⟨d', as', hd', rb, rfl⟩ := dataKind_inv hb
    have hc := K.c d hd d' hd'
    have k1 := K.k d hd
    have k2 := K.k d' hd'
    have hr : A.units + min d.depth d'.depth < cLine := Nat.lt_of_le_of_lt (Nat.add_le_add_left (Nat.min_le_left _ _) _) (hu d hd)
    obtain ⟨i1, r1, rfl⟩ := K.f d hd
    obtain ⟨i2, r2, rfl⟩ := K.f d' hd'
    have q' : Q (dataLt (.tuple (.int i1 :: r1)) (.tuple (.int i2 :: r2))) s := q
    rw [dataLt_tuple] at q'
    cases ra with
    | @tuple l o xs n _ _ h1 h2 h3 h4 =>
      cases rb with
      | @tuple l' o' xs' n' _ _ k1' k2' k3' k4' =>
        have n1 : xs.size = (PyData.int i1 :: r1).length := by simpa using ReadsAll.length _ _ _ h4
        have n2 : xs'.size = (PyData.int i2 :: r2).length := by simpa using ReadsAll.length _ _ _ k4'
        refine kat_lt h1 h3 k1' k3' (kat_sas (.int i1 :: r1) (.int i2 :: r2) 0 _ _ _ _ h4 k4' (by simpa [kd] using k1) (by simpa [kd] using k2) (by simpa [sa] using hc) (by have z := room_in hr; omega) (fun _ x r ex => ?_) (by rw [n1, n2]) q')
        obtain ⟨rfl, rfl⟩ := List.cons.inj ex
        exact ⟨_, rfl⟩
  · obtain ⟨fs, t1, t2, t3⟩ := each_katTups e fun d hd => by
      obtain ⟨i, r, z⟩ := K.f d hd
      exact ⟨_, _, z⟩
    refine kat_kind (T := .type "int") t1 (by omega) (fun f hf => ?_) (beq_self_eq_true _) (by
      have z : (Value.type "int" != Value.type "tuple") = true := by first | rfl | decide
      rw [z]
      exact q)
    obtain ⟨x, r, as, m1, m2⟩ := t3 f hf
    obtain ⟨i, r', z⟩ := K.f _ m1
    cases z
    exact looks_reads m2
end
end G
set_option Elab.async false
set_option linter.all false
set_option maxRecDepth 100000
set_option maxHeartbeats 1000000
/-! sorted(xs, key=f) -/
namespace G
open PySem PySem.Spec PySem.W PyProof.Rows L2 LamX
section
variable {X : Cx} {pins : List (Addr × Obj)} {σ : L2.St} {H : Hp} {s : Shared} {h2 : Heap}
/-- an object that lay untracked at a is a list from now on, one at k has turned -/
theorem inv_made {a k : Addr} {tk : Nat} {ws : List V} {out : List Value} {c : Nat} (I : Inv X pins σ H s) (fa : FpOk X pins H a) (fk : FpOk X pins H k) (keep : ∀ b o, b ≠ a → b ≠ k → s.heap.get? b = some o → h2.get? b = some o)
    (new : h2.get? a = some (seqObj "list" out.toArray c)) (rv : Vals ws out) (hz : ws.length ≤ sizeLine) : Inv X pins σ (upd H a (.lst ws)) { s with heap := h2, toks := tk } := by
  obtain ⟨a0, a1, a2, a3, a4, a5⟩ := fa
  obtain ⟨k0, k1, k2, k3, k4, k5⟩ := fk
  have na : ∀ b u, H b = some u → b ≠ a := fun b u e z => by rw [z, a0] at e; cases e
  have nk : ∀ b u, H b = some u → b ≠ k := fun b u e z => by rw [z, k0] at e; cases e
  have ne : ∀ {b : Addr}, b ∉ [a, k] → b ≠ a ∧ b ≠ k := fun {b} z => ⟨fun q => z (by simp [q]), fun q => z (by simp [q])⟩
  have at_ : ∀ b u, H b = some u → upd H a (.lst ws) b = some u := fun b u e => by rw [upd_ne (na b u e)]; exact e
  refine I.step (g' := s.gens) (d' := s.drawn) (ch := [a, k]) (fun b hb => ?_) (fun b o _ _ hc e _ => keep b o (ne hc).1 (ne hc).2 e) (fun b o _ _ hc e _ => ⟨o.slots, keep b o (ne hc).1 (ne hc).2 e⟩) (fun b o hc _ n => by rw [upd_ne (ne hc).1]; exact n)
    (fun b o hc e => ⟨o, keep b o (ne hc).1 (ne hc).2 e⟩) (fun b xs e => at_ b _ e) (fun b o u e => at_ b _ e) (fun b ps e => ⟨#[], by rw [at_ b _ e]; simp⟩) (fun m hm => ?_) (fun b u e => ?_) I.bare
  · rcases (by simpa using hb : b = a ∨ b = k) with z | z <;> rw [z]
    · exact ⟨a3, a1, a4, a5⟩
    · exact ⟨k3, k1, k4, k5⟩
  · obtain ⟨o, es, ep, ho, r⟩ := hm
    exact ⟨o, es, ep, keep _ o (Ne.symm a1) (Ne.symm k1) ho, r⟩
  · by_cases z : b = a
    · rw [z, upd_same] at e
      cases e
      rw [z]
      exact ⟨hz, out, c, rv, new⟩
    · rw [upd_ne z] at e
      refine (I.hok b u e).stay (fun c v hc q => ?_) (fun c q => at_ c _ q) fun c xs q => at_ c _ q
      rcases hc with y | y
      · rw [y] at q ⊢
        exact keep b v z (nk b u e) q
      · exact keep c v (na c _ y) (nk c _ y) q
theorem fp_pins {b : Addr} {H' : Hp} {pins' : List (Addr × Obj)} (f : FpOk X pins H b) (n : H' b = none) (h : ∀ p ∈ pins', p ∈ pins) : FpOk X pins' H' b := by
  obtain ⟨f0, f1, f2, f3, f4, f5⟩ := f
  exact ⟨n, f1, f2, f3, f4, fun p hp => f5 p ((List.mem_append.mp hp).elim (fun z => List.mem_append_left _ z) fun z => List.mem_append_right _ (h p z))⟩
def hideAt (h : Heap) (k : Addr) : Heap := h.update k fun o => ⟨o.cls, o.dict, .freed, o.slots⟩
theorem hide_none {h : Heap} {k : Addr} {o : Obj} (e : h.get? k = some o) : (hideAt h k).get? k = none := by
  cases q : (hideAt h k).get? k with
  | none => rfl
  | some u =>
    exfalso
    obtain ⟨e1, e2⟩ := Heap.get?_some_iff.mp q
    obtain ⟨e3, _⟩ := Heap.get?_some_iff.mp e
    unfold hideAt at e1
    cases h with
    | mk objs l =>
      simp only [Heap.update, Array.getElem?_modify, if_true] at e1
      simp only at e3
      rw [e3] at e1
      simp only [Option.map_some, Option.some.injEq] at e1
      subst e1
      simp [Obj.isFreed] at e2
theorem hide_ne {h : Heap} {k b : Addr} (n : b ≠ k) : (hideAt h k).get? b = h.get? b := Heap.get?_update_ne _ _ _ _ n
/-- keys that a call gave: they read as kz -/
theorem keys_read (I : Inv X pins σ H s) : ∀ {kz : List D} {kvs : List V} {ks : List Value}, AtAll H kvs kz → Vals kvs ks → EachIs (fun v d => ∃ as, Reads s.heap v d as) ks kz
  | [], _, _, h, r => by
    cases h
    cases r
    exact .nil
  | d :: ds, _, _, h, r => by
    cases h with
    | cons h1 h2 =>
      cases r with
      | cons r1 r2 => exact .cons (Dp.reads I d _ _ (At.dp (K := X.K) d h1) r1) (keys_read I h2 r2)
theorem items_each {Hs : Hp} : ∀ {ds kz : List D} {vs : List V} {us : List Value}, AtAll Hs vs ds → Vals vs us → kz.length = ds.length → EachIs (fun u (p : D × D) => ∃ v, RelV v u ∧ At Hs v p.1) us (ds.zip kz)
  | [], kz, _, _, h, r, _ => by
    cases h
    cases r
    exact .nil
  | d :: ds, [], _, _, _, _, hl => by simp at hl
  | d :: ds, k :: kz, _, _, h, r, hl => by
    cases h with
    | cons h1 h2 =>
      cases r with
      | cons r1 r2 =>
        rw [List.zip_cons_cons]
        exact .cons ⟨_, r1, h1⟩ (items_each h2 r2 (by simpa using hl))
theorem each_back {Hs : Hp} : ∀ {ps : List (D × D)} {us : List Value}, EachIs (fun u (p : D × D) => ∃ v, RelV v u ∧ At Hs v p.1) us ps → ∃ ws, Vals ws us ∧ AtAll Hs ws (ps.map Prod.fst)
  | [], _, h => by
    cases h
    exact ⟨[], .nil, .nil⟩
  | p :: ps, _, h => by
    cases h with
    | cons h1 h2 =>
      obtain ⟨v, r, a⟩ := h1
      obtain ⟨ws, rs, as⟩ := each_back h2
      exact ⟨v :: ws, .cons r rs, .cons a as⟩
theorem vals_snoc {v : V} {u : Value} (r : RelV v u) : ∀ {vs : List V} {us : List Value}, Vals vs us → Vals (vs ++ [v]) (us ++ [u])
  | _, _, .nil => .cons r .nil
  | _, _, .cons h t => .cons h (vals_snoc r t)
/-- the items by their keys -/
noncomputable def sortBy (ds kz : List D) : List D := ((ds.zip kz).mergeSort (dataLe false Prod.snd)).map Prod.fst
variable {T : List (Addr × Str)} {ta : Option Addr} {Hs : Hp} {ds kz : List D} {vs : List V} {us : List Value} {f l : Addr}
/-- one call of the key: what it asks -/
def KeyCall (X : Cx) (T : List (Addr × Str)) (ta : Option Addr) (pins : List (Addr × Obj)) (σ : L2.St) (Hs H : Hp) (f : Addr) (u : Value) (d : D) : Prop :=
  ∀ (pins' : List (Addr × Obj)) (s' : Shared) (Hs' H' : Hp), (∀ p ∈ pins, p ∈ pins') → Inv X pins' σ H' s' → Stp T ta Hs H Hs' H' →
    wpAny (model X.prog X.w) X.A.in1.in1 (call (.ref f) [u]) (fun kv s2 => ∃ v Hs2 H2, Inv X pins' σ H2 s2 ∧ Stp T ta Hs' H' Hs2 H2 ∧ RelV v kv ∧ At Hs2 v d) (fun _ _ => False) s'
theorem sort_rest {aC kS : Addr} {e1 : Nat} {PF : PySem.Fin → Shared → Prop} {E : Value → Shared → Prop} {A : Around} (eA : A = X.A.in1.in1) (I : Inv X pins σ H s) (st : Stp T ta Hs H Hs H) (fa : FpOk X pins H aC) (fk : FpOk X pins H kS) (nka : kS ≠ aC) (na : s.heap.get? aC = some (seqObj "list" #[] e1)) (nk : s.heap.get? kS = some (seqObj "list" #[] 0))
    (rv : Vals vs us) (av : AtAll Hs vs ds) (hlen : kz.length = ds.length) (hz : us.length ≤ sizeLine) (KD : KeyDs kz) (hu : ∀ d ∈ kz, A.units + d.depth < cLine)
    (turn : ∀ (i : Nat) (u : Value) (d : D), us[i]? = some u → kz[i]? = some d → KeyCall X T ta pins σ Hs H f u d)
    (fin : ∀ (h' : Heap) (tk : Nat) (s2 : Shared) (Hs2 H2 : Hp) (ws : List V), Inv X pins σ (upd H2 aC (.lst ws)) { s2 with heap := h', toks := tk } → Stp T ta Hs H Hs2 H2 → Fr H aC → Fr Hs2 aC → H2 aC = none → AtAll Hs2 ws (sortBy ds kz) → PF (.done (.ret .none)) { s2 with heap := h', toks := tk }) :
    wpAny (model X.prog X.w) A (ksk_rest aC (.ref f) false us.toArray e1 (.ref kS)) PF E s := by
  have lds : vs.length = ds.length := av.len
  have lus : us.length = ds.length := by rw [← rv.length]; exact lds
  unfold ksk_rest
  refine wpAny_bind (wpAny_rule ?_)
  first
    | rw [List.forIn_toArray]
    | (rw [← Array.forIn_toList]; simp only [List.toList_toArray])
    | rw [← Array.forIn_toList]
  refine wpAny_bind (ksk_fold (fun i s' => ∃ (kA : Array Value) (e : Nat) (Hs' H' : Hp) (kvs : List V), Inv X (pins ++ [(aC, seqObj "list" #[] e1), (kS, seqObj "list" kA e)]) σ H' s' ∧ Stp T ta Hs H Hs' H' ∧ Vals kvs kA.toList ∧ AtAll Hs' kvs (kz.take i)) us 0 s ⟨#[], 0, Hs, H, [], ?_, st, .nil, ?_⟩ ?step ?done)
  · refine I.pins_of fun p hp => ?_
    rcases List.mem_append.mp hp with z | z
    · exact I.pin p (List.mem_append_right _ z)
    · rcases (by simpa using z : p = (aC, seqObj "list" #[] e1) ∨ p = (kS, seqObj "list" #[] 0)) with y | y <;> rw [y]
      · exact ⟨na, fa.1, fa.2.1, fa.2.2.1, fun v q => by cases q⟩
      · exact ⟨nk, fk.1, fk.2.1, fk.2.2.1, fun v q => by cases q⟩
  · rw [List.take_zero]
    exact .nil
  case step =>
    rintro j u s' hx ⟨kA, e, Hs', H', kvs, I', st', rk, ak⟩
    simp only [Nat.zero_add] at ak ⊢
    have hj : j < us.length := (List.getElem?_eq_some_iff.mp hx).1
    obtain ⟨d, hd⟩ : ∃ d, kz[j]? = some d := ⟨_, List.getElem?_eq_getElem (by omega)⟩
    subst eA
    refine wpAny_bind (wpAny_attempt (wpAny_mono (turn j u d hx hd _ s' Hs' H' (fun p hp => List.mem_append_left _ hp) I' st') (fun kv s2 q => ?_) fun _ _ z => z.elim))
    obtain ⟨v, Hs2, H2, I2, st2, r2, a2⟩ := q
    have pk := I2.pin (kS, seqObj "list" kA e) (List.mem_append_right _ (List.mem_append_right _ (by simp)))
    have pa := I2.pin (aC, seqObj "list" #[] e1) (List.mem_append_right _ (List.mem_append_right _ (by simp)))
    have fk2 : FpOk X pins H2 kS := fp_pins fk pk.2.1 fun _ z => z
    have lk : kA.size = (kz.take j).length := by
      rw [← ak.len, rk.length, Array.length_toList]
    have hks : kA.size ≤ sizeLine := by
      rw [lk, List.length_take]
      omega
    obtain ⟨c2, hc2⟩ : ∃ c2, (s2.heap.update kS (Obj.mapSeq (·.push kv))).get? kS = some (seqObj "list" (kA.push kv) c2) := ⟨_, get?_update_seq pk.1 (·.push kv)⟩
    have sb := Heap.SameBut.update s2.heap kS (Obj.mapSeq (·.push kv))
    try dsimp only
    refine wpAny_bind (listUpdate_at pk.1 rfl ?_ hks (Nat.le_trans (Nat.le_of_eq (Array.size_push ..)) (Nat.succ_le_succ hks)))
    have I3 : Inv X pins σ H2 { s2 with heap := s2.heap.update kS (Obj.mapSeq (·.push kv)), toks := s2.toks } :=
      I2.unpinned.turned (it := kS) (fun b o hb q => (sb.2 b hb).trans q) fk2.1 fk2.2.1 fk2.2.2.2.1 fk2.2.2.2.2.1 fk2.2.2.2.2.2
    refine wpAny_pure ⟨rfl, kA.push kv, c2, Hs2, H2, kvs ++ [v], ?_, st'.trans st2, ?_, ?_⟩
    · refine I3.pins_of fun p hp => ?_
      rcases List.mem_append.mp hp with z | z
      · exact I3.pin p (List.mem_append_right _ z)
      · rcases (by simpa using z : p = (aC, seqObj "list" #[] e1) ∨ p = (kS, seqObj "list" (kA.push kv) c2)) with y | y <;> rw [y]
        · exact ⟨(sb.2 aC (Ne.symm nka)).trans pa.1, pa.2.1, pa.2.2.1, pa.2.2.2.1, fun v q => by cases q⟩
        · exact ⟨hc2, pk.2.1, pk.2.2.1, pk.2.2.2.1, fun v q => by cases q⟩
    · rw [show (kA.push kv).toList = kA.toList ++ [kv] by simp]
      exact vals_snoc r2 rk
    · rw [show kz.take (j + 1) = kz.take j ++ [d] by rw [List.take_add_one, hd]; simp]
      exact (ak.up st2.s).app (.one a2)
  case done =>
    rintro s' ⟨kA, e, Hs', H', kvs, I', st', rk, ak⟩
    have ek : kz.take (0 + us.length) = kz := List.take_of_length_le (by omega)
    rw [ek] at ak
    have pk := I'.pin (kS, seqObj "list" kA e) (List.mem_append_right _ (List.mem_append_right _ (by simp)))
    have pa := I'.pin (aC, seqObj "list" #[] e1) (List.mem_append_right _ (List.mem_append_right _ (by simp)))
    have fk2 : FpOk X pins H' kS := fp_pins fk pk.2.1 fun _ z => z
    have fa2 : FpOk X pins H' aC := fp_pins fa pa.2.1 fun _ z => z
    have hks : kA.size = us.length := by
      rw [← Array.length_toList, ← rk.length, ak.len]
      omega
    have er := keys_read I' (ak.up st'.x) rk
    try dsimp only
    refine wpAny_bind (listItems_at pk.1 rfl ?_)
    refine keyH_end (κ := dataKind s'.heap kz) (h₁ := hideAt s'.heap kS) (fun b o hb q => ?_) (hide_none pk.1) pk.1 pa.1 nka (sorts_keys er KD hu) hks hz fun h3 tk3 c kp hn => ?_
    · by_cases z : b = kS
      · rw [z, hide_none pk.1] at q
        cases q
      · rw [hide_ne z] at q
        exact q
    · have eo : EachIs (fun u (p : D × D) => ∃ v, RelV v u ∧ At Hs' v p.1) (sortVals (dataKind s'.heap kz) false kA.toList us) ((ds.zip kz).mergeSort (dataLe false Prod.snd)) := by
        refine sortVals_each (κ := dataKind s'.heap kz) (fun p : D × D => keyToks p.2) (items_each (av.up st'.s) rv hlen) (each_of_map (R := fun v (d : D) => (dataKind s'.heap kz).keyOf v = some (keyToks d)) Prod.snd ?_)
        rw [List.map_snd_zip (by omega)]
        exact (each_mem er).mono fun _ _ ⟨⟨_, r⟩, hd⟩ => kind_some KD hd r
      obtain ⟨ws, rw', aw⟩ := each_back eo
      have lw : ws.length ≤ sizeLine := by
        rw [rw'.length, sortVals_length false (by rw [Array.length_toList]; exact hks)]
        exact hz
      refine fin h3 tk3 s' Hs' H' ws (inv_made I'.unpinned fa2 fk2 (fun b o hb hk q => kp b o hb (by rw [hide_ne hk]; exact q)) hn rw' lw) st' (fr_none fa.1) (stable_free st'.x pa.2.1) pa.2.1 aw
end
end G
set_option Elab.async false
set_option linter.all false
set_option maxRecDepth 100000
set_option maxHeartbeats 1000000
/-! sorted(xs, key=lambda y: ..) -/
namespace G
open PySem PySem.Spec PySem.W PyProof.Rows L2 LamX NdefX
/-- the lambda's words -/
abbrev lamF (q : Str) (params : Arguments) (scope : Scope) (c' : Addr) : NF := ⟨"<lambda>", q, params, [], scope, [], c'⟩
section
variable {P : Program} {w : World} {K : PySem.W.Frag} {mg : Str → Option Value} {base : Heap}
/-- a lambda of one parameter is called -/
theorem lam_run {A : Around} {outer : List Env} {s : Shared} {H : Hp} {q y : Str} {params : Arguments} {body : Expr} {scope : Scope} {pm ctv u : Value} {v : V} {f c' : Addr} {k : Nat} {tb : TE} {Q : VK} (S : NScope [y] [y] [] scope)
    (hr : Room (k + 1) A) (e0 : Env0 P w K mg base A outer s H) (hf : s.heap.get? f = some (kla_obj "<lambda>" q params body scope [] pm c' ctv)) (hc : H c' = some (CodeO c' q)) (r : L2.RelV v u)
    (hbind : bindArgs (kla_fn "<lambda>" q params body scope [] pm (.ref c') ctv) ⟨[u], []⟩ = pure [(y, u)])
    (hbody : Room k (A.deeper (envF (lamF q params scope c') f s.heap.objs.size)) → PE (ncx C8.CX0 P w K mg base [y] (lamF q params scope c') f A outer s H C8.E0) body tb) (ht : tb [some v] H Q) :
    codeAny (model P w) A (.call (.ref f) ⟨[u], []⟩) (CR C8.CX0 outer P w H s Q C8.E0) s := by
  have lim : s.heap.NoLimit := e0.mod.nolimit.keeps fun b o e => (e0.bs b o e).1
  refine kla_callFunE hr.depth hf rfl S.co S.gen rfl (codeO_at e0.hok hc) ?_
  rw [hbind]
  refine wpAny_pure (wpAny_newFunctionEnv S.nocell (fun ⟨n, _⟩ hy => S.par n (by simp at hy; simp [hy.1])) (fun h₁ hns hsb => ⟨lim.fresh _ hsb, ?_⟩) S.kind)
  have kp : ∀ b o, s.heap.get? b = some o → h₁.get? b = some o := fun b o e => hsb.extBut b o (Nat.ne_of_lt (Heap.lt_size e)) (Heap.get?_push_of_some _ e)
  have I : Inv (ncx C8.CX0 P w K mg base [y] (lamF q params scope c') f A outer s H C8.E0) [] (startF [y] [v] []) H { s with heap := h₁, toks := s.toks + 1 } :=
    inv_startN (us := [u]) S hr.hd e0 rfl (.cons r .nil) ⟨rfl, (fun _ _ e => by cases e), (fun _ _ _ e => by cases e), (fun i y e => by cases e)⟩ hns kp
  show codeAny _ _ (.expr body (envF (lamF q params scope c') f s.heap.objs.size)) _ _
  refine kla_codeExpr (wpAny_mono ((hbody (hr.deeper _)).run [] _ _ H Q I ht) (fun z s' hq => ?_) fun e s' hq => hq)
  obtain ⟨w', H', J', rv, qq⟩ := hq
  exact ⟨w', H', J'.os, J'.bare, J'.base, J'.hok, rv, qq⟩
end
section
variable {X : Cx} {pins : List (Addr × Obj)} {σ : L2.St} {H Hs : Hp} {s : Shared} {T : List (Addr × Str)} {ds kz : List D} {vs : List V} {us : List Value} {f l : Addr} {Q : VK}
theorem sort_call (I : Inv X pins σ H s) (st : Stp T none Hs H Hs H) (hl : s.heap.IsList l us.toArray) (rv : Vals vs us) (av : AtAll Hs vs ds) (hlen : kz.length = ds.length) (hz : us.length ≤ sizeLine) (KD : KeyDs kz) (hu : ∀ d ∈ kz, X.A.units + 2 + d.depth < cLine)
    (turn : ∀ (i : Nat) (u : Value) (d : D), us[i]? = some u → kz[i]? = some d → KeyCall X T none pins σ Hs H f u d)
    (fin : ∀ (p : Addr) (Hs2 H2 : Hp) (ws : List V), Stp T none Hs H Hs2 H2 → Fr H p → Fr Hs2 p → H2 p = none → AtAll Hs2 ws (sortBy ds kz) → Q (.ref p) (upd H2 p (.lst ws))) :
    wpAny (model X.prog X.w) X.A (call (.builtin "sorted") [.ref l] [(Str.ofString "key", .ref f)]) (EP X pins σ Q) X.xe s := by
  refine sorted_of_sort hl hz (ksk_s1 _ _) (fun x => ksk_l1 _ _) fun E' => ?_
  rw [ksk_t1]
  have ho := copyHeap_at s.heap us
  obtain ⟨e1, ho1⟩ : ∃ e1, ((copyHeap s.heap us).update (s.heap.objs.size + 1) (Obj.mapSeq fun _ => (#[] : Array Value))).get? (s.heap.objs.size + 1) = some (seqObj "list" #[] e1) := ⟨_, get?_update_seq ho fun _ => #[]⟩
  have za : s.heap.objs.size + 1 < (copyHeap s.heap us).objs.size := Heap.lt_size ho
  have hk : (((copyHeap s.heap us).update (s.heap.objs.size + 1) (Obj.mapSeq fun _ => (#[] : Array Value))).push (seqObj "tuple" us.toArray 0)).objs.size = (copyHeap s.heap us).objs.size + 1 := by rw [Heap.size_push, Heap.size_after_update]
  unfold ksk_tree
  refine wpAny_bind (listItems_at ho rfl ?_)
  refine wpAny_bind (listUpdate_at ho rfl ?_ (by rw [List.size_toArray]; exact hz) (Nat.zero_le _))
  refine wpAny_bind (seqEpoch_at ho1 rfl ?_)
  refine wpAny_bind (wpAny_newTuple ?_ (by show us.length ≤ _; exact hz))
  refine wpAny_bind (wpAny_newList ?_ (Nat.zero_le _))
  refine wpAny_holding ?_
  have old : ∀ b o, s.heap.get? b = some o → ((((copyHeap s.heap us).update (s.heap.objs.size + 1) (Obj.mapSeq fun _ => (#[] : Array Value))).push (seqObj "tuple" us.toArray 0)).push (seqObj "list" #[] 0)).get? b = some o := fun b o q => by
    have lb : b < s.heap.objs.size := Heap.lt_size q
    refine Heap.get?_push_of_some _ (Heap.get?_push_of_some _ ?_)
    rw [Heap.get?_update_ne _ _ _ _ (Nat.ne_of_lt (Nat.lt_succ_of_lt lb))]
    exact copyHeap_old q
  have I1 : Inv X pins σ H { s with heap := (((copyHeap s.heap us).update (s.heap.objs.size + 1) (Obj.mapSeq fun _ => (#[] : Array Value))).push (seqObj "tuple" us.toArray 0)).push (seqObj "list" #[] 0), toks := s.toks } := I.kept old
  have ga : s.heap.objs.size ≤ s.heap.objs.size + 1 := Nat.le_succ _
  have gk : s.heap.objs.size ≤ (((copyHeap s.heap us).update (s.heap.objs.size + 1) (Obj.mapSeq fun _ => (#[] : Array Value))).push (seqObj "tuple" us.toArray 0)).objs.size := by
    rw [hk]
    omega
  have nka : (((copyHeap s.heap us).update (s.heap.objs.size + 1) (Obj.mapSeq fun _ => (#[] : Array Value))).push (seqObj "tuple" us.toArray 0)).objs.size ≠ s.heap.objs.size + 1 := by
    rw [hk]
    exact Nat.ne_of_gt (Nat.lt_succ_of_lt za)
  refine sort_rest (A := X.A.in1.in1) rfl I1 st (I.fpOk ga (I.hok.fresh ga)) (I.fpOk gk (I.hok.fresh gk)) nka (Heap.get?_push_of_some _ (Heap.get?_push_of_some _ ho1)) (Heap.get?_push_size _ rfl) rv av hlen hz KD hu turn fun h' tk s2 Hs2 H2 ws J st2 n1 n2 n3 aw => ⟨rfl, ?_⟩
  exact ⟨.ref (s.heap.objs.size + 1), _, J, rfl, fin _ _ _ _ st2 n1 n2 n3 aw⟩
end
/-- sorted(te, key=lambda: tb): what its list is asked -/
def SortR (T : List (Addr × Str)) (tb : TE) (Q : VK) : V → Hp → Prop := fun v H1 => ∃ (Hs : Hp) (l : Addr) (vs : List V) (ds kz : List D), v = .ref l ∧ H1 l = some (.lst vs) ∧ ExtN Hs H1 ∧ Tabs T H1 ∧ AtAll Hs vs ds ∧ kz.length = ds.length ∧ KeyDs kz ∧ (∀ d ∈ kz, d.depth ≤ 195) ∧
  (∀ (i : Nat) (x d : D), ds[i]? = some x → kz[i]? = some d → Ev T none tb [.d x] (· = d)) ∧
  ∀ (p : Addr) (Hs2 H2 : Hp) (ws : List V), Stp T none Hs H1 Hs2 H2 → Fr H1 p → Fr Hs2 p → H2 p = none → AtAll Hs2 ws (sortBy ds kz) → Q (.ref p) (upd H2 p (.lst ws))
def tSortLam (T : List (Addr × Str)) (te tb : TE) : TE := fun σ H Q => te σ H (SortR T tb Q)
theorem ext_stp {T : List (Addr × Str)} {Hs H H1 : Hp} (x : ExtN Hs H) (e : ExtN H H1) (t : Tabs T H1) : Stp T none Hs H Hs H1 :=
  ⟨ExtN.refl _, fun b o h q _ => e b o h q, fun b o h q => ⟨o, e b o h q, q⟩, x.trans e, t, fun _ _ _ _ z => z, fun _ z => by cases z⟩
theorem pe_sortLam {X : Cx} {T : List (Addr × Str)} {c P : Addr} {k : Nat} {params : Arguments} {body : Expr} {scope : Scope} {p lpos kpos pos : Pos} {e : Expr} {te tb : TE} {y : Str} (hg : Gl X "sorted") (hm : X.mg "sorted" = none) (ha : PA X [e] (tCons te tNil)) (TB : TabB X.base X.mg c P) (hcode : X.env.code = .ref c)
    (hmT : (P, X.env.qual ++ "<lambda>") ∈ T) (hu : ∀ p ∈ T, p.1 = P → p.2 = X.env.qual ++ "<lambda>") (hr : Room (k + 3) X.A) (hX : ∀ b, b ∉ frs X.stack → b ≠ X.env.locals ∧ b ∉ X.fs) (hdef : defaultsOf params X.env = ([], [])) (hfree : ∀ z ∈ scope.names, z.2 ≠ .free) (hcl : cloFrom X.env.cells scope.names [] = []) (S : NScope [y] [y] [] scope)
    (hbind : ∀ (q : Str) (pm cv ctv u : Value), bindArgs (kla_fn "<lambda>" q params body scope [] pm cv ctv) ⟨[u], []⟩ = pure [(y, u)])
    (hbody : ∀ (A : Around) (outer : List Env) (s : Shared) (H : Hp) (f c' : Addr), Room k (A.deeper (envF (lamF (X.env.qual ++ "<lambda>") params scope c') f s.heap.objs.size)) → PE (ncx C8.CX0 X.prog X.w X.K X.mg X.base [y] (lamF (X.env.qual ++ "<lambda>") params scope c') f A outer s H C8.E0) body tb)
    (he2 : backTo pos (starEach [e] X.env) = (false, eval e X.env) :: backTo pos (starEach [] X.env) := by rfl) (hpl : (backTo pos (starEach [e] X.env)).any (·.1) = false := by rfl)
    (hall : (backToKw pos (keywordEach [⟨some "key", .Lambda params body scope lpos, kpos⟩] X.env)).all (·.1.isSome) = true := by rfl) (hnone : (backToKw pos (keywordEach [⟨some "key", .Lambda params body scope lpos, kpos⟩] X.env)).any (·.1.isNone) = false := by rfl)
    (hks : (backToKw pos (keywordEach [⟨some "key", .Lambda params body scope lpos, kpos⟩] X.env)).filterMap (·.1) = [Str.ofString "key"] := by rfl) :
    PE X (.Call (.Name "sorted" p) [e] [⟨some "key", .Lambda params body scope lpos, kpos⟩] pos) (tSortLam T te tb) := by
  refine ⟨fun pins s σ H Q I hyp => ?_⟩
  refine wpAny_Call_Name_kw (ld_blt I hg hm (by decide +kernel : bootBuiltins "sorted" = some (.builtin "sorted")) ?_)
  refine PyProof.Rows.callWith_kw (thn (ha.run pos pins s σ H (fun vs0 H1 => ∃ v, vs0 = [v] ∧ SortR T tb Q v H1) I (show te σ H _ from ?_)) fun us0 s1 q0 => ?_) he2 hpl hall hnone
  · have e0 : SortR T tb Q = fun v H1 => ∃ v', [v] = [v'] ∧ SortR T tb Q v' H1 := by
      funext v H1
      apply propext
      exact ⟨fun h => ⟨v, rfl, h⟩, fun ⟨v', e, h⟩ => by cases e; exact h⟩
    have hyp' : te σ H (SortR T tb Q) := hyp
    rw [e0] at hyp'
    exact hyp'
  · obtain ⟨vs0, H1, I1, r1, v, rfl, Hs, l, vs, ds, kz, rfl, hl1, x1, t1, av, hlen, KD, hd, hev, fin⟩ := q0
    cases r1 with
    | cons r1 r2 =>
    cases r2
    cases r1
    show wpAny _ _ (evalAll ((do let v ← eval (.Lambda params body scope lpos) X.env; standAt pos; pure v) :: [])) _ _ s1
    refine wpAny_evalAll_cons (wpAny_bind (lam_make2 I1 TB hcode hmT hu t1 hdef (fun z hz ez => absurd ez (hfree z hz)) fun f c' pm ctv H2 s2 I2 eN t2 hf hfn hfr hc => ?_))
    refine wpAny_bind (wpAny_standAt (wpAny_pure ?_))
    refine wpAny_evalAll_nil ?_
    rw [hks]
    rw [hcl] at hf
    show wpAny (model X.prog X.w) X.A (call (.builtin "sorted") [.ref l] [(Str.ofString "key", .ref f)]) _ _ _
    obtain ⟨n1, n2⟩ := hX f hfr
    have st0 : Stp T none Hs H1 Hs H2 := ext_stp x1 eN t2
    have hl2 : H2 l = some (.lst vs) := eN _ _ hl1 nt_lst
    have I3 : Inv X (pins ++ [(f, kla_obj "<lambda>" (X.env.qual ++ "<lambda>") params body scope [] pm c' ctv)]) σ H2 { s2 with toks := s2.toks } := I2.pins_of fun q hq => by
      rcases List.mem_append.mp hq with z | z
      · exact I2.pin q (List.mem_append_right _ z)
      · have y : q = (f, kla_obj "<lambda>" (X.env.qual ++ "<lambda>") params body scope [] pm c' ctv) := by simpa using z
        rw [y]
        exact ⟨hf, hfn, n1, n2, fun v q => by cases q⟩
    obtain ⟨its, rv, pl, hz⟩ := I3.list (SqL.of hl2)
    have u2 := u200 hr
    refine thn (sort_call (T := T) (Hs := Hs) (ds := ds) (kz := kz) I3 (Stp.refl st0.x st0.t) pl.isList rv av hlen (by rw [← rv.length]; exact hz) KD (fun d hdd => by have := hd d hdd; omega) (fun i u d hui hki pins' s' Hs' H' sub I' st' => ?_) fun p Hs2 H3 ws st2 m1 m2 m3 aw => ?_) fun u s3 ⟨z, H3, I4, r, q⟩ => ⟨z, H3, I4.unpinned, r, q⟩
    · have hi : i < vs.length := by
        have := (List.getElem?_eq_some_iff.mp hui).1
        rw [rv.length]
        exact this
      obtain ⟨u', hu', ru⟩ := rv.get (List.getElem?_eq_getElem hi)
      rw [hui] at hu'
      cases hu'
      obtain ⟨x, hx, ax⟩ := av.back (List.getElem?_eq_getElem hi)
      have of1 := (I'.pin (f, kla_obj "<lambda>" (X.env.qual ++ "<lambda>") params body scope [] pm c' ctv) (List.mem_append_right _ (sub _ (by simp)))).1
      have ok : Ok T none [.d x] Hs' H' [some vs[i]] := by
        refine ⟨st'.x, st'.t, (fun a e => by cases e), rfl, fun j sl e => ?_, fun j k a xs ys e => ?_⟩
        · cases j with
          | zero =>
            simp at e
            subst e
            exact ⟨_, rfl, _, rfl, ax.up st'.s⟩
          | succ j => simp at e
        · cases j with
          | zero => simp at e
          | succ j => simp at e
      have rc := lam_run (Q := fun v' H4 => ∃ Hs2, Stp T none Hs' H' Hs2 H4 ∧ At Hs2 v' d) S hr.in1.in1 I'.env0.in1.in1 of1 (st'.e c' _ hc codeO_ne (by simp)) ru (hbind _ _ _ _ _) (fun hr2 => hbody _ _ _ _ _ _ hr2)
        (hev i x d hx hki Hs' H' [some vs[i]] _ ok fun d2 v2 Hs2 H4 e s4 a4 => by
          subst e
          exact ⟨Hs2, s4, a4⟩)
      refine wpAny_call (codeAny_mono rc fun r s4 hq => ?_)
      cases r with
      | error e => exact (show False from hq).elim
      | ok fl =>
        cases fl with
        | ret u =>
          obtain ⟨v3, H5, I5, r5, Hs2, s5, a5⟩ := I'.after hq
          exact ⟨v3, Hs2, H5, I5, s5, r5, a5⟩
        | next => exact False.elim hq
        | brk => exact False.elim hq
        | cont => exact False.elim hq
    · have fr1 : Fr H1 p := fun o ho hn => by
        exact m1 o (eN p o ho hn) hn
      exact fin p Hs2 H3 ws (st0.trans st2) fr1 m2 m3 aw
end G
set_option Elab.async false
set_option linter.all false
set_option maxRecDepth 100000
set_option maxHeartbeats 1000000
/-! the order of parts -/
namespace G
open PySem PySem.W PyProof.Rows
theorem chr_inj {a b : Nat} (h : chr a = chr b) : a = b := by simpa [chr] using h
theorem chr_toks (a : Nat) : (chr a).cps.toList = [a] := rfl
theorem kt_int (i : Int) : keyToks (.int i) = [.inl i] := by rw [keyToks]
theorem kt_str (x : Str) : keyToks (.str x) = [.inr x.cps.toList] := by rw [keyToks]
theorem kt_tup (xs : List PyData) : keyToks (.tuple xs) = keyToksAll xs := by rw [keyToks]
theorem kt_key (a b : Int) (c : PyData) (d : List PyData) (r : Tk) : keyToks (.tuple [.int a, .int b, c, .tuple d]) ++ r = .inl 1 :: .inl a :: .inl 1 :: .inl b :: .inl 1 :: (keyToks c ++ .inl 1 :: (keyToksAll d ++ .inl 0 :: r)) := by
  rw [kt_tup, toks_cons, toks_cons, toks_cons, toks_cons, toks_nil, kt_int, kt_int, kt_tup]
  simp
mutual
theorem toks_inj : ∀ (p q : Part) (r t : Tk), keyToks (keyP p) ++ r = keyToks (keyP q) ++ t → p = q ∧ r = t
  | .name w, q, r, t, h => by
    cases q with
    | name v =>
      simp only [keyP, kt_key, kt_str, toks_nil] at h
      simp at h
      obtain ⟨h1, h2⟩ := h
      have h3 : w = v := by simpa [chr] using h1
      rw [h3]
      exact ⟨rfl, h2⟩
    | got i =>
      simp only [keyP, kt_key] at h
      simp at h
    | nest k d b =>
      cases k <;> (simp only [keyP, kt_key] at h; simp at h)
  | .got i, q, r, t, h => by
    cases q with
    | name v =>
      simp only [keyP, kt_key] at h
      simp at h
    | got j =>
      simp only [keyP, kt_key, kt_int, toks_nil] at h
      simp at h
      obtain ⟨h1, h2⟩ := h
      rw [h1]
      exact ⟨rfl, h2⟩
    | nest k d b => cases k <;> (simp only [keyP, kt_key] at h; simp at h)
  | .nest k d b, q, r, t, h => by
    cases q with
    | name v => cases k <;> (simp only [keyP, kt_key] at h; simp at h)
    | got j => cases k <;> (simp only [keyP, kt_key] at h; simp at h)
    | nest k' d' b' =>
      have hk : k = k' := by
        cases k <;> cases k' <;> first | rfl | (exfalso; simp only [keyP, kt_key] at h; simp at h)
      subst hk
      simp only [keyP, kt_key, kt_str] at h
      simp only [List.cons.injEq, true_and, List.cons_append, List.nil_append, Sum.inr.injEq, chr_toks] at h
      obtain ⟨_, h1, h2⟩ := h
      have h1' : d = d' := by simpa using h1
      obtain ⟨e1, e2⟩ := toksL_inj b b' _ _ h2
      rw [h1', e1]
      refine ⟨rfl, ?_⟩
      simpa using e2
theorem toksL_inj : ∀ (p q : Plan) (r t : Tk), keyToksAll (keyL p) ++ r = keyToksAll (keyL q) ++ t → p = q ∧ r = t
  | [], q, r, t, h => by
    cases q with
    | nil =>
      simp only [keyL] at h
      exact ⟨rfl, List.append_cancel_left h⟩
    | cons y s =>
      obtain ⟨c, p⟩ := y
      simp only [keyL, toks_nil, toks_cons] at h
      simp at h
  | (c, p) :: s, q, r, t, h => by
    cases q with
    | nil =>
      simp only [keyL, toks_nil, toks_cons] at h
      simp at h
    | cons y s' =>
      obtain ⟨c', p'⟩ := y
      simp only [keyL, toks_cons, kt_tup, toks_nil, kt_int, List.cons_append, List.append_assoc, List.nil_append, List.cons.injEq, true_and] at h
      obtain ⟨e1, e2⟩ := toks_inj p p' _ _ h
      simp only [List.cons.injEq, Sum.inl.injEq, true_and] at e2
      obtain ⟨e3, e4⟩ := e2
      obtain ⟨e5, e6⟩ := toksL_inj s s' _ _ e4
      rw [e1, e3, e5]
      exact ⟨rfl, e6⟩
end
theorem keyP_inj {p q : Part} (h : keyToks (keyP p) = keyToks (keyP q)) : p = q := (toks_inj p q [] [] (by rw [h])).1
/-! ltP: a strict total order of parts -/
def ltP (p q : Part) : Bool := dataLt (keyP p) (keyP q)
theorem ltP_irrefl (p : Part) : ltP p p = false := lex_irrefl _
theorem ltP_trans {p q r : Part} (h1 : ltP p q = true) (h2 : ltP q r = true) : ltP p r = true := lex_trans (O := itemOrd) _ _ _ h1 h2
theorem ltP_total {p q : Part} (h1 : ltP p q = false) (h2 : ltP q p = false) : p = q := keyP_inj (lex_total (O := itemOrd) _ _ h1 h2)
theorem ltP_asymm {p q : Part} (h : ltP p q = true) : ltP q p = false := by
  cases e : ltP q p
  · rfl
  · have := ltP_trans h e
    rw [ltP_irrefl] at this
    cases this
theorem leP_total (a b : Int × Part) : (leP a b || leP b a) = true := by
  unfold leP
  cases h : dataLt (keyP b.2) (keyP a.2)
  · rfl
  · have : dataLt (keyP a.2) (keyP b.2) = false := ltP_asymm h
    rw [this]
    rfl
theorem leP_iff {a b : Int × Part} : leP a b = true ↔ a.2 = b.2 ∨ ltP a.2 b.2 = true := by
  unfold leP
  constructor
  · intro h
    have h' : ltP b.2 a.2 = false := by
      have z : (!ltP b.2 a.2) = true := h
      simpa using z
    cases e : ltP a.2 b.2
    · exact .inl (ltP_total e h')
    · exact .inr rfl
  · rintro (h | h)
    · have : dataLt (keyP b.2) (keyP a.2) = false := by rw [h]; exact ltP_irrefl _
      rw [this]
      rfl
    · have : dataLt (keyP b.2) (keyP a.2) = false := ltP_asymm h
      rw [this]
      rfl
theorem leP_trans (a b c : Int × Part) (h1 : leP a b = true) (h2 : leP b c = true) : leP a c = true := by
  rw [leP_iff] at *
  rcases h1 with h1 | h1
  · rw [h1]
    exact h2
  · rcases h2 with h2 | h2
    · rw [← h2]
      exact .inr h1
    · exact .inr (ltP_trans h1 h2)
/-! keys can be compared -/
mutual
theorem sa_key : ∀ p q : Part, sa (keyP p) (keyP q) = true
  | .name w, q => by cases q with
    | name v => simp [keyP, sa, sas]
    | got i => simp [keyP, sa, sas, eqv_int]
    | nest k d b => cases k <;> simp [keyP, sa, sas, eqv_int]
  | .got i, q => by cases q with
    | name v => simp [keyP, sa, sas, eqv_int]
    | got i => simp [keyP, sa, sas]
    | nest k d b => cases k <;> simp [keyP, sa, sas, eqv_int]
  | .nest k d b, q => by cases q with
    | name v => cases k <;> simp [keyP, sa, sas, eqv_int]
    | got i => cases k <;> simp [keyP, sa, sas, eqv_int]
    | nest k' d' b' =>
      have := sa_keyL b b'
      cases k <;> cases k' <;> simp [keyP, sa, sas, eqv_int, this]
theorem sa_keyL : ∀ p q : Plan, sas (keyL p) (keyL q) = true
  | [], q => by cases q <;> simp [keyL, sas]
  | (c, p) :: r, q => by
    cases q with
    | nil => simp [keyL, sas]
    | cons y s =>
      obtain ⟨c', p'⟩ := y
      simp only [keyL, sas, sa, sa_key p p', sa_keyL r s]
      simp
end
/-! letters -/
mutual
def lowP : Part → Prop
  | .name w => 97 ≤ w ∧ w ≤ 122
  | .got _ => True
  | .nest _ d b => (97 ≤ d ∧ d ≤ 122) ∧ lowL b
def lowL : Plan → Prop
  | [] => True
  | (_, p) :: r => lowP p ∧ lowL r
end
mutual
theorem okP_low : ∀ (p : Part) (n : Int), okP n p → lowP p
  | .name _, _, h => by simpa [okP, lowP] using h
  | .got _, _, _ => by simp [lowP]
  | .nest k d b, n, h => by
    simp only [okP] at h
    simp only [lowP]
    exact ⟨h.1, okL_low b _ h.2⟩
theorem okL_low : ∀ (p : Plan) (n : Int), okL n p → lowL p
  | [], _, _ => by simp [lowL]
  | (c, p) :: r, n, h => by
    simp only [okL] at h
    simp only [lowL]
    exact ⟨okP_low p n h.2.1, okL_low r n h.2.2⟩
end
mutual
theorem kd_key : ∀ p : Part, lowP p → kd (keyP p) = true
  | .name w, h => by
    simp only [lowP] at h
    simp [keyP, kd, kds, chr_ok h]
  | .got i, _ => by simp [keyP, kd, kds]
  | .nest k d b, h => by
    simp only [lowP] at h
    simp [keyP, kd, kds, chr_ok h.1, kd_keyL b h.2]
theorem kd_keyL : ∀ p : Plan, lowL p → kds (keyL p) = true
  | [], _ => by simp [keyL, kds]
  | (c, p) :: r, h => by
    simp only [lowL] at h
    simp [keyL, kd, kds, kd_key p h.1, kd_keyL r h.2]
end
theorem lowL_mem : ∀ {p : Plan} {x : Int × Part}, lowL p → x ∈ p → lowP x.2
  | [], _, _, h => by cases h
  | (c, p) :: r, x, h, hx => by
    simp only [lowL] at h
    rcases List.mem_cons.mp hx with e | e
    · subst e
      exact h.1
    · exact lowL_mem h.2 e
mutual
theorem keyP_depth : ∀ p : Part, (keyP p).depth ≤ 3 * nestP p + 2
  | .name w => by simp [keyP, PyData.depth, PyData.depthAll, nestP]
  | .got i => by simp [keyP, PyData.depth, PyData.depthAll, nestP]
  | .nest k d b => by
    have := keyL_depth b
    simp only [keyP, PyData.depth, PyData.depthAll, nestP]
    omega
theorem keyL_depth : ∀ p : Plan, PyData.depthAll (keyL p) ≤ 3 * nestL p + 3
  | [] => by simp [keyL, PyData.depthAll]
  | (c, p) :: r => by
    have h1 := keyP_depth p
    have h2 := keyL_depth r
    simp only [keyL, PyData.depth, PyData.depthAll, nestL]
    omega
end
theorem keys_of {p : Plan} (h : lowL p) : KeyDs (p.map fun x => keyP x.2) := by
  refine ⟨fun d hd => ?_, fun d hd => ?_, fun d hd e he => ?_⟩
  · obtain ⟨x, hx, rfl⟩ := List.mem_map.mp hd
    exact kd_key _ (lowL_mem h hx)
  · obtain ⟨x, hx, rfl⟩ := List.mem_map.mp hd
    cases x.2 with
    | name w => exact ⟨_, _, by rw [keyP]⟩
    | got i => exact ⟨_, _, by rw [keyP]⟩
    | nest k d b => exact ⟨_, _, by rw [keyP]⟩
  · obtain ⟨x, hx, rfl⟩ := List.mem_map.mp hd
    obtain ⟨y, hy, rfl⟩ := List.mem_map.mp he
    exact sa_key _ _
theorem sortBy_items (p : Plan) : sortBy (encL p) (p.map fun x => keyP x.2) = encL (p.mergeSort leP) := by
  have e : (encL p).zip (p.map fun x => keyP x.2) = p.map fun x => (encI x, keyP x.2) := by
    rw [encL_map, List.zip_map']
  unfold sortBy
  have e2 := List.map_mergeSort (r := leP) (s := dataLe false Prod.snd) (f := fun x : Int × Part => (encI x, keyP x.2)) (l := p) (fun a _ b _ => rfl)
  rw [e, ← e2, List.map_map, encL_map]
  rfl
end G
set_option Elab.async false
set_option linter.all false
set_option maxRecDepth 100000
set_option maxHeartbeats 1000000
/-! own layer: tables of code objects, sorting, lists copied -/
namespace G
open PySem PySem.Spec L2 LamX NdefX
def lamN : List Str := [(("sorted_items" : Str) ++ ".<locals>.") ++ "<lambda>", (("raised" : Str) ++ ".<locals>.") ++ "lift", (("brought" : Str) ++ ".<locals>.") ++ "bring", (("_law_joined" : Str) ++ ".<locals>.") ++ "<lambda>"]
/-- what is known of the code objects that make functions -/
structure Tb (W : Wd) : Prop where
  tab : ∀ p ∈ tf, TabB W.base W.mg (He.cT W.K p).1 (He.cT W.K p).2
  tt : W.T = (tf.map fun p => (He.cT W.K p).2).zip lamN
  nd : (tf.map fun p => (He.cT W.K p).2).Nodup
  rk : ∃ es n, KDict W.K W.w (He.ga W.K "RANKS") es n
theorem zip_one {α β : Type} : ∀ {xs : List α} {ys : List β} {i : Nat} {x : α} {y : β}, xs.Nodup → xs[i]? = some x → ys[i]? = some y → (x, y) ∈ xs.zip ys ∧ ∀ p ∈ xs.zip ys, p.1 = x → p.2 = y
  | [], _, _, _, _, _, h, _ => by simp at h
  | _ :: _, [], _, _, _, _, _, h => by simp at h
  | a :: xs, b :: ys, 0, x, y, nd, h1, h2 => by
    simp at h1 h2
    subst h1 h2
    refine ⟨by simp, fun p hp e => ?_⟩
    rw [List.zip_cons_cons] at hp
    rcases List.mem_cons.mp hp with z | z
    · rw [z]
    · obtain ⟨p1, p2⟩ := p
      have := (List.of_mem_zip z).1
      simp only at e
      rw [e] at this
      exact absurd this (List.nodup_cons.mp nd).1
  | a :: xs, b :: ys, i + 1, x, y, nd, h1, h2 => by
    obtain ⟨k1, k2⟩ := zip_one (i := i) (xs := xs) (ys := ys) (List.nodup_cons.mp nd).2 (by simpa using h1) (by simpa using h2)
    rw [List.zip_cons_cons]
    refine ⟨List.mem_cons_of_mem _ k1, fun p hp e => ?_⟩
    rcases List.mem_cons.mp hp with z | z
    · rw [z] at e
      simp only at e
      rw [e] at nd
      exact absurd (List.of_mem_zip k1).1 (List.nodup_cons.mp nd).1
    · exact k2 p z e
theorem Tb.at_ {W : Wd} (B : Tb W) (i : Nat) {p : He.Defn} {q : Str} (h1 : tf[i]? = some p := by rfl) (h2 : lamN[i]? = some q := by rfl) : TabB W.base W.mg (He.codeOf W.K p) (He.cT W.K p).2 ∧ ((He.cT W.K p).2, q) ∈ W.T ∧ ∀ z ∈ W.T, z.1 = (He.cT W.K p).2 → z.2 = q := by
  have m := zip_one (i := i) (x := (He.cT W.K p).2) (y := q) B.nd (by rw [List.getElem?_map, h1]; rfl) h2
  rw [← B.tt] at m
  exact ⟨B.tab p (List.mem_of_getElem? h1), m.1, m.2⟩
section
variable {P : Program} {w : World} {K : PySem.W.Frag} {mg : Str → Option Value} {base : Heap} {T : List (Addr × Str)}
/-- def_ok, the code object told -/
theorem def_okC {d : He.DefD} {N ps : List Str} {k : Nat} {rel : List D → D → Prop} (F : There K d ps) (S : FnScope N ps d.scope) (hl : ∀ ds x, rel ds x → ds.length = ps.length)
    (hb : ∀ (A : Around) (outer : List PySem.Env) (s : Shared) (H : Hp) (E : XK), Room k (A.deeper (PyProof.Rows.envOfC d.qual d.scope s.heap.objs.size (He.fAd K d.at_) (.ref (He.codeOf K d.at_)))) → ∀ ds x, rel ds x →
      ∃ t, PSs (cxOf CX0 P w K mg base N d.qual d.scope (He.fAd K d.at_) (.ref (He.codeOf K d.at_)) A outer s H E).nox d.body t ∧ Sv T none t (start0 N ds) { nx := fun _ => x = .none, rt := fun y => y = x }) :
    Keeps P w K mg base d ps (k + 1) (spD T rel) := by
  obtain ⟨fd, F, b⟩ := F.ex
  obtain ⟨oc, od, dV, kV, doc, pm, an, cdv, ct, osl, rfl, lk, hcd, _, _⟩ := F.ex
  obtain ⟨c, rfl⟩ := He.codeIn_ref hcd
  have ec : He.codeOf K d.at_ = c := He.codeOf_eq lk rfl
  refine ⟨⟨_, fn_of lk hcd S (fun vs H Q E ⟨Hs, ds, x, _, _, a, r, _⟩ => by rw [a.len]; exact hl ds x r) fun A outer s H vs Q E hr ⟨Hs, ds, x, x1, t1, a, r, q⟩ => ?_, b⟩, F.kp⟩
  rw [← ec] at hr ⊢
  obtain ⟨t, h1, h2⟩ := hb A outer s H E hr ds x r
  refine ⟨t, h1.nox, ?_⟩
  refine h2 Hs H Hs H _ _ (start_ok x1 t1 a) (fun δ' a b c e n => ?_) (fun _ _ _ _ z => z.elim) (fun _ _ _ _ z => z.elim) fun y v a b e s1 at_ => ?_
  · have e : x = .none := e
    subst e
    exact q .non a b n.st .non
  · have e : y = x := e
    subst e
    exact q v a b s1 at_
end
section
variable {T : List (Addr × Str)} {ta : Option Addr} {δ : List Sl} {K : PySem.W.Frag} {te tb : TE} {Φ : List D → Prop}
theorem evl_sortLam (h : EvS T ta te δ fun xs => ∃ kz, kz.length = xs.length ∧ KeyDs kz ∧ (∀ d ∈ kz, d.depth ≤ 195) ∧ (∀ (i : Nat) (x d : D), xs[i]? = some x → kz[i]? = some d → Ev T none tb [.d x] (· = d)) ∧ Φ (sortBy xs kz)) : EvL T ta (tSortLam T te tb) δ Φ := fun Hs H σ Q o q => by
  refine h Hs H σ _ o fun xs a vs H1s H1 ⟨kz, hlen, KD, hd, hev, hp⟩ s1 e1 n1 a1 => ?_
  refine ⟨H1s, a, vs, xs, kz, rfl, e1, s1.x, s1.t, a1, hlen, KD, hd, hev, fun p Hs2 H2 ws st f1 f2 n aw => ?_⟩
  have s2 := s1.trans (st.weak (ta := ta))
  exact q _ p ws Hs2 _ hp (s2.trans (Stp.own st.x st.t n)) (s2.back n) f2 upd_same aw
theorem evl_listL (h : EvS T ta te δ Φ) : EvL T ta (tCB (rListOf K) (tCons te tNil)) δ Φ := fun Hs H σ Q o q => by
  refine h Hs H σ _ o fun xs a vs H1s H1 h1 s1 e1 n1 a1 => ?_
  exact ⟨a, vs, rfl, .inl (SqL.of e1), fun p hp => q _ _ _ _ _ h1 (s1.trans (Stp.own s1.x s1.t hp)) (s1.back hp) (stable_free s1.x hp) upd_same a1⟩
end
end G
set_option Elab.async false
set_option linter.all false
set_option maxRecDepth 100000
set_option maxHeartbeats 1000000
/-! the checks -/
namespace G
open PySem PySem.Spec L2 LamX
section
variable {W : Wd} {k : Nat}
theorem k_is_integer (B : Bs W.K W.mg) : Kp W d_is_integer ["thing"] (k + 1) fun ds y => ∃ i, ds = [.int i] ∧ y = .bool true :=
  def_ok B.t_is_integer sc_is_integer (by rintro _ _ ⟨i, rfl, rfl⟩; rfl) fun cdv A outer s H E hr ds y ⟨i, e, e2⟩ => by
    subst e e2
    refine ⟨_, (pss_one (ps_ret (pe_and (pe_callB call_isi (by rfl) B.isinstance (by decide +kernel) (pa_cons (pv 0) (pa_cons (pe_bltn (v := .ty "int") (by rfl) B.int (by decide +kernel) rfl) pa_nil))) (pe_one (pe_not (pe_callB call_isi (by rfl) B.isinstance (by decide +kernel) (pa_cons (pv 0) (pa_cons (pe_bltn (v := .ty "bool") (by rfl) B.bool (by decide +kernel) rfl) pa_nil)))))))), ?_⟩
    exact sv_ret (ev_andB (a := true) (b := true) (ev_isi (ev_var rfl ⟨true, kit_ii, rfl⟩)) fun _ => ev_notB (a := false) (ev_isi (ev_var rfl ⟨false, kit_ib, rfl⟩)))
theorem k_is_within (B : Bs W.K W.mg) (h_is_integer : Kp W d_is_integer ["thing"] k fun ds y => ∃ i, ds = [.int i] ∧ y = .bool true) : Kp W d_is_within ["thing", "least", "most"] (k + 1) fun ds y => ∃ i a b, ds = [.int i, .int a, .int b] ∧ (a ≤ i ∧ i ≤ b) ∧ y = .bool true :=
  def_ok B.t_is_within sc_is_within (by rintro _ _ ⟨i, a, b, rfl, _, rfl⟩; rfl) fun cdv A outer s H E hr ds y ⟨i, a, b, e, h, e2⟩ => by
    subst e e2
    refine ⟨_, (pss_one (ps_ret (pe_and (pe_k h_is_integer hr rfl B.m_is_integer (pa_cons (pv 0) pa_nil)) (pe_one (pe_chain op_le op_le (pv 1) (pv 0) (pv 2)))))), ?_⟩
    refine sv_ret (ev_andB (a := true) (b := true) (ev_call (ea1 (ev_var rfl ⟨_, ⟨i, rfl, rfl⟩, rfl⟩))) fun _ => ?_)
    exact ev_chainB (k := true) (m := true) (ev_var rfl rfl) (ev_var rfl rfl) (rv_b0 (by rw [decide_eq_true h.1])) (fun _ => ev_var rfl rfl) (rv_b0 (by rw [decide_eq_true h.2]))
theorem k_is_pair (B : Bs W.K W.mg) : Kp W d_is_pair ["thing"] (k + 1) fun ds y => ∃ xs, ds = [.tuple xs] ∧ y = .bool (decide (xs.length = 2)) :=
  def_ok B.t_is_pair sc_is_pair (by rintro _ _ ⟨i, rfl, rfl⟩; rfl) fun cdv A outer s H E hr ds y ⟨xs, e, e2⟩ => by
    subst e e2
    refine ⟨_, (pss_one (ps_ret (pe_and (pe_callB call_isi (by rfl) B.isinstance (by decide +kernel) (pa_cons (pv 0) (pa_cons (pe_bltn (v := .ty "tuple") (by rfl) B.tuple (by decide +kernel) rfl) pa_nil))) (pe_one (pe_cmpR (op_eqK W.K (u200 hr)) (pe_callB (call_lenK W.K) (by rfl) B.len PySem.boot_len (pa_cons (pv 0) pa_nil)) pe_int (nomark _)))))), ?_⟩
    refine sv_ret (ev_andB (a := true) (b := decide (xs.length = 2)) (ev_isi (ev_var rfl ⟨true, kit_tt, rfl⟩)) fun _ => ?_)
    exact ev_op (ev_len (ev_var rfl ⟨_, rfl, ev_int (rv_eqI (by show PyData.bool _ = _; rw [← dlen]; rfl))⟩))
theorem k_is_triple (B : Bs W.K W.mg) : Kp W d_is_triple ["thing"] (k + 1) fun ds y => ∃ xs, ds = [.tuple xs] ∧ y = .bool (decide (xs.length = 3)) :=
  def_ok B.t_is_triple sc_is_triple (by rintro _ _ ⟨i, rfl, rfl⟩; rfl) fun cdv A outer s H E hr ds y ⟨xs, e, e2⟩ => by
    subst e e2
    refine ⟨_, (pss_one (ps_ret (pe_and (pe_callB call_isi (by rfl) B.isinstance (by decide +kernel) (pa_cons (pv 0) (pa_cons (pe_bltn (v := .ty "tuple") (by rfl) B.tuple (by decide +kernel) rfl) pa_nil))) (pe_one (pe_cmpR (op_eqK W.K (u200 hr)) (pe_callB (call_lenK W.K) (by rfl) B.len PySem.boot_len (pa_cons (pv 0) pa_nil)) pe_int (nomark _)))))), ?_⟩
    refine sv_ret (ev_andB (a := true) (b := decide (xs.length = 3)) (ev_isi (ev_var rfl ⟨true, kit_tt, rfl⟩)) fun _ => ?_)
    exact ev_op (ev_len (ev_var rfl ⟨_, rfl, ev_int (rv_eqI (by show PyData.bool _ = _; rw [← dlen]; rfl))⟩))
def rWord : List D → D → Prop := fun ds y => ∃ c, ds = [.str (chr c)] ∧ (97 ≤ c ∧ c ≤ 122) ∧ y = .bool true
theorem k_is_word (B : Bs W.K W.mg) : Kp W d_is_word ["thing"] (k + 1) rWord :=
  def_ok B.t_is_word sc_is_word (by rintro _ _ ⟨i, rfl, _, rfl⟩; rfl) fun cdv A outer s H E hr ds y ⟨c, e, h, e2⟩ => by
    subst e e2
    refine ⟨_, (pss_cons (ps_if (PW.pt (pw_or (pt_not (pt_val (pe_callB call_isi (by rfl) B.isinstance (by decide +kernel) (pa_cons (pv 0) (pa_cons (pe_bltn (v := .ty "str") (by rfl) B.str (by decide +kernel) rfl) pa_nil))))) (pw_or1 (pt_not (pt_chain op_le op_le pe_int (pe_callB call_len_str (by rfl) B.len PySem.boot_len (pa_cons (pv 0) pa_nil)) (pe_c B.mostWord)))))) (pss_one (ps_ret pe_bl)) pss_nil)
    (pss_one (ps_ret (pe_callB (cr_all rfl) (by rfl) B.all (by decide +kernel) (pa_cons (pe_lc (own := [("sign", 1)]) rfl sc_is_word.nd (pi_str (pv 0)) (blkOk_by (own := [("sign", 1)]) (N := n_is_word) (sc := defScope s_is_word) (by decide +kernel)) (fun _ _ _ _ _ => (pg_name (i := 1) sc_is_word.nd rfl (Or.inl rfl))) (fun _ _ _ _ _ => pts_nil) (fun _ _ _ _ _ => (pe_cmpR op_in_sign (pv 1) (pe_cs B.small) rfl))) pa_nil))))), ?_⟩
    refine sv_seq (sv_ifF (et_orF (et_notF (et_BE (ev_isi (ev_var rfl ⟨true, kit_ss, rfl⟩)))) (et_notF (et_TE (ev_chainB (k := true) (m := true) (ev_int rfl) (ev_lenStr (ev_var rfl ⟨_, rfl, (by show 1 ≤ 1000000; decide), rfl⟩)) (rv_b0 rfl) (fun _ => ev_int rfl) (rv_b0 rfl))))) (sv_next ?_))
    refine sv_ret (ev_allS (evs_l (evl_lc (js := [1]) (by simp) (ei_str (ev_var rfl ⟨_, rfl, ?_, (by show 1 ≤ 1000000; decide), fun _ => some (.bool true), ?_, [true], rfl, rfl⟩)))))
    · intro c' hc
      have : c' = c := by simpa [chr] using hc
      rw [this]
      exact chr_ok h
    · intro x hx
      have : x = .str (chr c) := by simpa [signs, chr] using hx
      subst this
      refine gt_name ?_
      refine fun Hs H σ Q o q => q true Hs H ⟨fun _ => ⟨_, rfl, ?_⟩, fun z => by cases z⟩ o.refl
      exact ev_op (ev_var rfl (ev_str (rv_inSign (by rw [decide_eq_true (small_mem h)])) (by decide +kernel)))
theorem k_is_door (B : Bs W.K W.mg) (h_is_word : Kp W d_is_word ["thing"] k rWord) : Kp W d_is_door ["thing"] (k + 1) rWord :=
  def_ok B.t_is_door sc_is_door (by rintro _ _ ⟨i, rfl, _, rfl⟩; rfl) fun cdv A outer s H E hr ds y ⟨c, e, h, e2⟩ => by
    subst e e2
    refine ⟨_, (pss_one (ps_ret (pe_and (pe_k h_is_word hr rfl B.m_is_word (pa_cons (pv 0) pa_nil)) (pe_one (pe_cmpR (op_eqK W.K (u200 hr)) (pe_callB call_len_str (by rfl) B.len PySem.boot_len (pa_cons (pv 0) pa_nil)) pe_int (nomark _)))))), ?_⟩
    refine sv_ret (ev_andB (a := true) (b := true) (ev_call (ea1 (ev_var rfl ⟨_, ⟨c, rfl, h, rfl⟩, rfl⟩))) fun _ => ?_)
    exact ev_op (ev_lenStr (ev_var rfl ⟨_, rfl, (by show 1 ≤ 1000000; decide), ev_int (rv_eqI rfl)⟩))
def rPart (n : Nat) : List D → D → Prop := fun ds y => ∃ p m, ds = [encP p, .int m] ∧ nestP p < n ∧ okP m p ∧ y = .bool true
def rPlanIn (n : Nat) : List D → D → Prop := fun ds y => ∃ p m, ds = [enc p, .int m] ∧ nestL p < n ∧ okL m p ∧ y = .bool true
theorem k_is_part (B : Bs W.K W.mg) {n : Nat} (h_is_integer : Kp W d_is_integer ["thing"] k fun ds y => ∃ i, ds = [.int i] ∧ y = .bool true)
    (h_is_within : Kp W d_is_within ["thing", "least", "most"] k fun ds y => ∃ i a b, ds = [.int i, .int a, .int b] ∧ (a ≤ i ∧ i ≤ b) ∧ y = .bool true)
    (h_is_pair : Kp W d_is_pair ["thing"] k fun ds y => ∃ xs, ds = [.tuple xs] ∧ y = .bool (decide (xs.length = 2)))
    (h_is_triple : Kp W d_is_triple ["thing"] k fun ds y => ∃ xs, ds = [.tuple xs] ∧ y = .bool (decide (xs.length = 3)))
    (h_is_word : Kp W d_is_word ["thing"] k rWord) (h_is_door : Kp W d_is_door ["thing"] k rWord) (h_is_plan_in : Kp W d_is_plan_in ["thing", "depth"] k (rPlanIn n)) : Kp W d_is_part ["thing", "depth"] (k + 1) (rPart (n + 1)) :=
  def_ok B.t_is_part sc_is_part (by rintro _ _ ⟨p, m, rfl, _, _, rfl⟩; rfl) fun cdv A outer s H E hr ds y ⟨p, m, e, hn, h, e2⟩ => by
    subst e e2
    refine ⟨_, (pss_cons (ps_if (pt_val (pe_k h_is_pair hr rfl B.m_is_pair (pa_cons (pv 0) pa_nil))) (pss_cons (ps_if (pt_cmpR (op_eqK W.K (u200 hr)) (pe_ix (ix_tupK W.K) (pv 0) pe_int (fun _ _ => rfl)) pe_str (nomark _)) (pss_one (ps_ret (pe_k h_is_word hr rfl B.m_is_word (pa_cons (pe_ix (ix_tupK W.K) (pv 0) pe_int (fun _ _ => rfl)) pa_nil)))) pss_nil)
    (pss_cons (ps_if (pt_cmpR (op_eqK W.K (u200 hr)) (pe_ix (ix_tupK W.K) (pv 0) pe_int (fun _ _ => rfl)) pe_str (nomark _)) (pss_one (ps_ret (pe_and (pe_k h_is_integer hr rfl B.m_is_integer (pa_cons (pe_ix (ix_tupK W.K) (pv 0) pe_int (fun _ _ => rfl)) pa_nil)) (pe_one (pe_cmpR op_ge (pe_ix (ix_tupK W.K) (pv 0) pe_int (fun _ _ => rfl)) pe_int (nomark _)))))) pss_nil)
    (pss_one (ps_ret (pe_and (pe_cmpR (op_eqK W.K (u200 hr)) (pe_ix (ix_tupK W.K) (pv 0) pe_int (fun _ _ => rfl)) pe_str (nomark _)) (pe_one (pe_k h_is_within hr rfl B.m_is_within (pa_cons (pe_ix (ix_tupK W.K) (pv 0) pe_int (fun _ _ => rfl)) (pa_cons pe_int (pa_cons (pe_op op_sub (pv 1) pe_int) pa_nil)))))))))) pss_nil)
    (pss_cons (ps_if (PW.pt (pw_or (pt_not (pt_val (pe_k h_is_triple hr rfl B.m_is_triple (pa_cons (pv 0) pa_nil)))) (pw_or (pt_cmpR op_notIn_seq (pe_ix (ix_tupK W.K) (pv 0) pe_int (fun _ _ => rfl)) (pe_tup (pa_cons pe_str (pa_cons pe_str pa_nil))) rfl) (pw_or1 (pt_not (pt_val (pe_k h_is_door hr rfl B.m_is_door (pa_cons (pe_ix (ix_tupK W.K) (pv 0) pe_int (fun _ _ => rfl)) pa_nil)))))))) (pss_one (ps_ret pe_bl)) pss_nil)
    (pss_one (ps_ret (pe_k h_is_plan_in hr rfl B.m_is_plan_in (pa_cons (pe_ix (ix_tupK W.K) (pv 0) pe_int (fun _ _ => rfl)) (pa_cons (pe_ifExp (pt_cmpR (op_eqK W.K (u200 hr)) (pe_ix (ix_tupK W.K) (pv 0) pe_int (fun _ _ => rfl)) pe_str (nomark _)) (pe_op op_add (pv 1) pe_int) (pv 1)) pa_nil))))))), ?_⟩
    cases p with
    | name w =>
      simp only [encP, okP] at h ⊢
      refine sv_seq (sv_ifT (et_BE (ev_call (ea1 (ev_var rfl ⟨_, ⟨_, rfl, rfl⟩, rfl⟩)))) ?_)
      refine sv_seq (sv_ifT (et_ixS rfl rfl rfl) ?_)
      exact sv_ret (ev_call (ea1 (ev_op (ev_var rfl (ev_int (rv_ixT rfl ⟨_, ⟨w, rfl, h, rfl⟩, rfl⟩))))))
    | got i =>
      simp only [encP, okP] at h ⊢
      refine sv_seq (sv_ifT (et_BE (ev_call (ea1 (ev_var rfl ⟨_, ⟨_, rfl, rfl⟩, rfl⟩)))) ?_)
      refine sv_seq (sv_ifF (et_ixS rfl rfl (by decide)) (sv_next ?_))
      refine sv_seq (sv_ifF (et_ixS rfl rfl (by decide)) (sv_next ?_))
      refine sv_ret (ev_andB (a := true) (b := true) (ev_op (ev_ix rfl rfl (ev_str (rv_eqS rfl)))) fun _ => ?_)
      exact ev_call (ea3 (ev_ix rfl rfl (ev_int (ev_op (ev_var rfl (ev_int (rv_i0 ⟨_, ⟨i, 0, m - 1, rfl, ⟨h.1, by omega⟩, rfl⟩, rfl⟩)))))))
    | nest kd d b =>
      simp only [encP, okP, nestP] at h hn ⊢
      refine sv_seq (sv_ifF (et_BE (ev_call (ea1 (ev_var rfl ⟨_, ⟨_, rfl, rfl⟩, rfl⟩)))) (sv_next ?_))
      refine sv_seq (sv_ifF (et_orF (et_notF (et_BE (ev_call (ea1 (ev_var rfl ⟨_, ⟨_, rfl, rfl⟩, rfl⟩))))) (et_orF (et_TE ?_) (et_notF (et_BE ?_)))) (sv_next ?_))
      · refine ev_op (ev_ix rfl rfl (ev_tup (ea2 (ev_str (ev_str ⟨by decide, ?_⟩)))))
        refine rv_notInT (xs := ["letter", "wait"]) ?_
        cases kd <;> rfl
      · exact ev_call (ea1 (ev_ix rfl rfl ⟨_, ⟨d, rfl, h.1, rfl⟩, rfl⟩))
      · refine sv_ret (ev_call (ea2 (ev_ix rfl rfl ?_)))
        cases kd with
        | true => exact ev_ifT (et_ixS rfl rfl rfl) (ev_op (ev_var rfl (ev_int (rv_i0 ⟨_, ⟨b, m + 1, rfl, by omega, h.2, rfl⟩, rfl⟩))))
        | false => exact ev_ifF (et_ixS rfl rfl (by decide)) (ev_var rfl ⟨_, ⟨b, m, rfl, by omega, h.2, rfl⟩, rfl⟩)
theorem okL_get : ∀ {p : Plan} {n : Int} {i : Nat} {x : Int × Part}, okL n p → p[i]? = some x → 1 ≤ x.1 ∧ okP n x.2
  | [], _, _, _, _, e => by simp at e
  | (c, q) :: r, n, 0, x, h, e => by
    simp only [okL] at h
    simp at e
    subst e
    exact ⟨h.1, h.2.1⟩
  | (c, q) :: r, n, i + 1, x, h, e => by
    simp only [okL] at h
    exact okL_get h.2.2 (by simpa using e)
theorem nestL_get : ∀ {p : Plan} {i : Nat} {x : Int × Part}, p[i]? = some x → nestP x.2 ≤ nestL p
  | [], _, _, e => by simp at e
  | (c, q) :: r, 0, x, e => by
    simp at e
    subst e
    simp only [nestL]
    omega
  | (c, q) :: r, i + 1, x, e => by
    have := nestL_get (p := r) (by simpa using e)
    simp only [nestL]
    omega
theorem k_is_plan_in (B : Bs W.K W.mg) {n : Nat} (h_is_integer : Kp W d_is_integer ["thing"] k fun ds y => ∃ i, ds = [.int i] ∧ y = .bool true)
    (h_is_pair : Kp W d_is_pair ["thing"] k fun ds y => ∃ xs, ds = [.tuple xs] ∧ y = .bool (decide (xs.length = 2)))
    (h_is_part : Kp W d_is_part ["thing", "depth"] k (rPart n)) : Kp W d_is_plan_in ["thing", "depth"] (k + 1) (rPlanIn n) :=
  def_ok B.t_is_plan_in sc_is_plan_in (by rintro _ _ ⟨p, m, rfl, _, _, rfl⟩; rfl) fun cdv A outer s H E hr ds y ⟨p, m, e, hn, h, e2⟩ => by
    subst e e2
    refine ⟨_, (pss_cons (ps_if (pt_not (pt_val (pe_callB call_isi (by rfl) B.isinstance (by decide +kernel) (pa_cons (pv 0) (pa_cons (pe_bltn (v := .ty "tuple") (by rfl) B.tuple (by decide +kernel) rfl) pa_nil))))) (pss_one (ps_ret pe_bl)) pss_nil)
    (pss_cons (ps_for PassesOwn.never rfl (pi_tup (pv 0)) (pg_name (i := 2) sc_is_plan_in.nd rfl (Or.inl rfl)) (pss_one (ps_if (PW.pt (pw_or (pt_not (pt_val (pe_k h_is_pair hr rfl B.m_is_pair (pa_cons (pv 2) pa_nil)))) (pw_or (pt_not (pt_val (pe_k h_is_integer hr rfl B.m_is_integer (pa_cons (pe_ix (ix_tupK W.K) (pv 2) pe_int (fun _ _ => rfl)) pa_nil)))) (pw_or (pt_cmpR op_lt (pe_ix (ix_tupK W.K) (pv 2) pe_int (fun _ _ => rfl)) pe_int (nomark _)) (pw_or1 (pt_not (pt_val (pe_k h_is_part hr rfl B.m_is_part (pa_cons (pe_ix (ix_tupK W.K) (pv 2) pe_int (fun _ _ => rfl)) (pa_cons (pv 1) pa_nil)))))))))) (pss_one (ps_ret pe_bl)) pss_nil)))
    (pss_one (ps_ret pe_bl)))), ?_⟩
    refine sv_seq (sv_ifF (et_notF (et_BE (ev_isi (ev_var rfl ⟨true, kit_tt, rfl⟩)))) (sv_next ?_))
    refine sv_seq (sv_for (js := [2]) (ei_tup (ev_var rfl ⟨_, rfl, fun _ δ => ∃ s, δ = [.d (enc p), .d (.int m), s], ⟨_, rfl⟩, ?_, ?_⟩)))
    · rintro i x δ hx ⟨s, rfl⟩
      obtain ⟨⟨c, q⟩, e, rfl⟩ := encL_get hx
      have h1 : 1 ≤ c ∧ okP m q := okL_get h e
      have h2 : nestP q ≤ nestL p := nestL_get e
      refine gt_name ?_
      refine sv_ifF (et_orF (et_notF (et_BE (ev_call (ea1 (ev_var rfl ⟨_, ⟨_, rfl, rfl⟩, rfl⟩))))) (et_orF (et_notF (et_BE ?_)) (et_orF (et_TE ?_) (et_notF (et_BE ?_))))) (sv_next ⟨_, rfl⟩)
      · exact ev_call (ea1 (ev_ix rfl rfl ⟨_, ⟨c, rfl, rfl⟩, rfl⟩))
      · exact ev_op (ev_ix rfl rfl (ev_int (rv_b0 (by rw [decide_eq_false (by have := h1.1; omega)]))))
      · exact ev_call (ea2 (ev_ix rfl rfl (ev_var rfl ⟨_, ⟨q, m, rfl, by have := h2; omega, h1.2, rfl⟩, rfl⟩)))
    · rintro δ ⟨s, rfl⟩
      exact sv_ret (ev_bl rfl)
def rCheck (n : Nat) : List D → D → Prop := fun ds y => ∃ p, ds = [enc p] ∧ nestL p < n ∧ okL 0 p ∧ y = .none
theorem k_check_plan (B : Bs W.K W.mg) {n : Nat} (h_is_plan_in : Kp W d_is_plan_in ["thing", "depth"] k (rPlanIn n)) : Kp W d_check_plan ["thing"] (k + 1) (rCheck n) :=
  def_ok B.t_check_plan sc_check_plan (by rintro _ _ ⟨p, rfl, _, _, rfl⟩; rfl) fun cdv A outer s H E hr ds y ⟨p, e, hn, h, e2⟩ => by
    subst e e2
    refine ⟨_, (pss_one (ps_if (pt_not (pt_val (pe_k h_is_plan_in hr rfl B.m_is_plan_in (pa_cons (pv 0) (pa_cons pe_int pa_nil))))) (pss_one ps_never) pss_nil)), ?_⟩
    exact sv_ifF (et_notF (et_BE (ev_call (ea2 (ev_var rfl (ev_int ⟨_, ⟨p, 0, rfl, hn, h, rfl⟩, rfl⟩)))))) (sv_next rfl)
end
end G
set_option Elab.async false
set_option linter.all false
set_option maxRecDepth 100000
set_option maxHeartbeats 1000000
/-! sizes, keys, counts -/
namespace G
open PySem PySem.Spec L2 LamX
theorem encP_len (p : Part) : ∃ xs, encP p = .tuple xs ∧ xs.length = (match p with | .nest _ _ _ => 3 | _ => 2) := by
  cases p <;> simp [encP]
section
variable {T : List (Addr × Str)} {ta : Option Addr} {δ : List Sl} {K : PySem.W.Frag} {te tx tb tc : TE} {t u : TT}
/-- len(p) == 3 -/
theorem et_len3 {i : Nat} {p : Part} {Φ : Bool → Prop} (e : δ[i]? = some (.d (encP p))) (h : Φ (match p with | .nest _ _ _ => true | _ => false)) : EvT T ta (tTest (tOp (rEqA K) (tCB (rLenQ K) (tCons (tVar i) tNil)) (tC (.int 3)))) δ Φ := by
  refine et_T (ev_op (ev_len (ev_var e ?_)))
  cases p with
  | name w => exact ⟨2, by simp [encP, lenD], ev_int (rv_eqI ⟨_, rfl, h⟩)⟩
  | got w => exact ⟨2, by simp [encP, lenD], ev_int (rv_eqI ⟨_, rfl, h⟩)⟩
  | nest k d b => exact ⟨3, by simp [encP, lenD], ev_int (rv_eqI ⟨_, rfl, h⟩)⟩
end
section
variable {W : Wd} {k : Nat}
def rSizeP (n : Nat) : List D → D → Prop := fun ds y => ∃ p, ds = [encP p] ∧ nestP p < n ∧ SmP p ∧ y = .int (sizeP p)
def rSizeL (n : Nat) : List D → D → Prop := fun ds y => ∃ p, ds = [enc p] ∧ nestL p < n ∧ SmL p ∧ y = .int (sizeL p)
theorem k_part_size (B : Bs W.K W.mg) {n : Nat} (h_size_of : Kp W d_size_of ["plan"] k (rSizeL n)) : Kp W d_part_size ["part"] (k + 1) (rSizeP (n + 1)) :=
  def_ok B.t_part_size sc_part_size (by rintro _ _ ⟨p, rfl, _, _, rfl⟩; rfl) fun cdv A outer s H E hr ds y ⟨p, e, hn, h, e2⟩ => by
    subst e e2
    refine ⟨_, (pss_one (ps_ret (pe_ifExp (pt_cmpR (op_eqK W.K (u200 hr)) (pe_callB (call_lenK W.K) (by rfl) B.len PySem.boot_len (pa_cons (pv 0) pa_nil)) pe_int (nomark _)) (pe_op op_add pe_int (pe_k h_size_of hr rfl B.m_size_of (pa_cons (pe_ix (ix_tupK W.K) (pv 0) pe_int (fun _ _ => rfl)) pa_nil))) pe_int))), sv_ret (ev_if (et_len3 (p := p) rfl ?_))⟩
    cases p with
    | name w => exact ⟨fun z => (by cases z), fun _ => ev_int (by simp [sizeP])⟩
    | got w => exact ⟨fun z => (by cases z), fun _ => ev_int (by simp [sizeP])⟩
    | nest kd d b =>
      simp only [nestP] at hn
      refine ⟨fun _ => ?_, fun z => (by cases z)⟩
      simp only [encP, sizeP]
      exact ev_op (ev_int (ev_call (ea1 (ev_ix rfl rfl ⟨_, ⟨b, rfl, by omega, h.body, rfl⟩, rv_i0 rfl⟩))))
theorem k_size_of (B : Bs W.K W.mg) {n : Nat} (h_part_size : Kp W d_part_size ["part"] k (rSizeP n)) : Kp W d_size_of ["plan"] (k + 1) (rSizeL n) :=
  def_ok B.t_size_of sc_size_of (by rintro _ _ ⟨p, rfl, _, _, rfl⟩; rfl) fun cdv A outer s H E hr ds y ⟨p, e, hn, h, e2⟩ => by
    subst e e2
    refine ⟨_, (pss_one (ps_ret (pe_callB (cr_sum rfl) (by rfl) B.sum (by decide +kernel) (pa_cons (pe_lc (own := [("count", 1), ("part", 2)]) rfl sc_size_of.nd (pi_tup (pv 0)) (blkOk_by (own := [("count", 1), ("part", 2)]) (N := n_size_of) (sc := defScope s_size_of) (by decide +kernel)) (fun _ _ _ _ _ => (pg_tupK W.K (n := 2) (by rfl) (pgs_cons (pg_name (i := 1) sc_size_of.nd rfl (Or.inl rfl)) (pgs_cons (pg_name (i := 2) sc_size_of.nd rfl (Or.inl rfl)) pgs_nil)))) (fun _ _ _ _ _ => pts_nil) (fun _ _ _ _ _ => (pe_op op_mulB (pv 1) (pe_k h_part_size hr rfl B.m_part_size (pa_cons (pv 2) pa_nil))))) pa_nil)))), sv_ret (ev_sumS (evs_l (evl_lcM (js := [1] ++ [2]) (by simp) (ei_tup (ev_var rfl ⟨_, rfl, p, encI, fun x => some (.int (x.1 * sizeP x.2)), encL_map p, ?_, ?_, ?_⟩)))))⟩
    · exact h.len
    · rintro ⟨c, q⟩ hx
      have h1 := h.mem hx
      have h2 : nestP q ≤ nestL p := nestL_mem hx
      refine turn2 (ev_op (ev_var rfl (ev_call (ea1 (ev_var rfl ⟨_, ⟨q, rfl, by omega, h1.1, rfl⟩, rv_i h1.2.2 rfl⟩)))))
    · exact ⟨p.map fun x => x.1 * sizeP x.2, by simp [List.filterMap_eq_map, Function.comp_def], by rw [sizeL_sum]⟩

theorem keyP_0 (q : Part) : ∃ x y z, keyP q = .tuple [.int (sizeP q), x, y, z] := by
  cases q <;> simp [keyP, sizeP]
def rKeyP (n : Nat) : List D → D → Prop := fun ds y => ∃ p, ds = [encP p] ∧ nestP p < n ∧ SmP p ∧ y = keyP p
def rKeyL (n : Nat) : List D → D → Prop := fun ds y => ∃ p, ds = [enc p] ∧ nestL p < n ∧ SmL p ∧ y = .tuple (keyL p)
theorem k_part_key (B : Bs W.K W.mg) (RK : ∃ es n, KDict W.K W.w (He.ga W.K "RANKS") es n) {n : Nat} (h_plan_key : Kp W d_plan_key ["plan"] k (rKeyL n)) : Kp W d_part_key ["part"] (k + 1) (rKeyP (n + 1)) :=
  def_ok B.t_part_key sc_part_key (by rintro _ _ ⟨p, rfl, _, _, rfl⟩; rfl) fun cdv A outer s H E hr ds y ⟨p, e, hn, h, e2⟩ => by
    subst e e2
    refine ⟨_, (pss_cons (ps_set (i := 1) sc_part_key.nd rfl (Or.inl rfl) (pe_ifExp (pt_cmpR (op_eqK W.K (u200 hr)) (pe_callB (call_lenK W.K) (by rfl) B.len PySem.boot_len (pa_cons (pv 0) pa_nil)) pe_int (nomark _)) (pe_k h_plan_key hr rfl B.m_plan_key (pa_cons (pe_ix (ix_tupK W.K) (pv 0) pe_int (fun _ _ => rfl)) pa_nil)) (pe_tup pa_nil)))
    (pss_cons (ps_set (i := 2) sc_part_key.nd rfl (Or.inl rfl) (pe_op op_add pe_int (pe_callB (cr_sum rfl) (by rfl) B.sum (by decide +kernel) (pa_cons (pe_lc (own := [("key", 3), ("count", 4)]) rfl sc_part_key.nd (pi_tup (pv 1)) (blkOk_by (own := [("key", 3), ("count", 4)]) (N := n_part_key) (sc := defScope s_part_key) (by decide +kernel)) (fun _ _ _ _ _ => (pg_tupK W.K (n := 2) (by rfl) (pgs_cons (pg_name (i := 3) sc_part_key.nd rfl (Or.inl rfl)) (pgs_cons (pg_name (i := 4) sc_part_key.nd rfl (Or.inl rfl)) pgs_nil)))) (fun _ _ _ _ _ => pts_nil) (fun _ _ _ _ _ => (pe_op op_mulB (pv 4) (pe_ix (ix_tupK W.K) (pv 3) pe_int (fun _ _ => rfl))))) pa_nil))))
    (pss_one (ps_ret (pe_tup (pa_cons (pv 2) (pa_cons (pe_ranks RK B (pe_ix (ix_tupK W.K) (pv 0) pe_int (fun _ _ => rfl)) (fun _ _ => rfl)) (pa_cons (pe_ix (ix_tupK W.K) (pv 0) pe_int (fun _ _ => rfl)) (pa_cons (pv 1) pa_nil))))))))), ?_⟩
    refine sv_seq (sv_set (ev_known (d := .tuple (keyL (bodyP p))) ?_ ?_))
    · refine ev_if (et_len3 (p := p) rfl ?_)
      cases p with
      | name w => exact ⟨fun z => (by cases z), fun _ => ev_tup (ea_nil ⟨by decide, by simp [bodyP, keyL]⟩)⟩
      | got w => exact ⟨fun z => (by cases z), fun _ => ev_tup (ea_nil ⟨by decide, by simp [bodyP, keyL]⟩)⟩
      | nest kd d b =>
        simp only [nestP] at hn
        refine ⟨fun _ => ?_, fun z => (by cases z)⟩
        simp only [encP, bodyP]
        exact ev_call (ea1 (ev_ix rfl rfl ⟨_, ⟨b, rfl, by omega, h.body, rfl⟩, rfl⟩))
    have hb : SmL (bodyP p) := by
      cases p with
      | name w => exact ⟨trivial, (by show (0 : Int).natAbs.log2 < 50000000; decide), (by show 0 ≤ 1000000; decide)⟩
      | got w => exact ⟨trivial, (by show (0 : Int).natAbs.log2 < 50000000; decide), (by show 0 ≤ 1000000; decide)⟩
      | nest kd d b => exact h.body
    refine sv_seq (sv_set (ev_op (ev_int (ev_sumS (evs_l (evl_lcM (js := [3] ++ [4]) (by simp) (ei_tup (ev_var rfl ⟨_, rfl, bodyP p, (fun x => .tuple [keyP x.2, .int x.1]), fun x => some (.int (x.1 * sizeP x.2)), keyL_map _, hb.len, ?_, ?_⟩))))))))
    · rintro ⟨c, q⟩ hx
      have h1 := hb.mem hx
      obtain ⟨x', y', z', el⟩ := keyP_0 q
      show Turn _ _ _ _ _ _ _ (.tuple [keyP q, .int c]) (some (.int (c * sizeP q)))
      rw [el]
      exact turn2 (ev_op (ev_var rfl (ev_ix rfl rfl (rv_i h1.2.2 rfl))))
    refine ⟨(bodyP p).map fun x => x.1 * sizeP x.2, by simp [List.filterMap_eq_map, Function.comp_def], rv_i0 ?_⟩
    rw [← sizeL_sum]
    cases p with
    | name w =>
      simp only [encP]
      refine sv_ret (ev_tup (ea_cons (ev_var rfl (ea_cons (ev_rank (ev_ix rfl rfl ⟨_, 0, rfl, (.head _), ea_cons (ev_ix rfl rfl (ea_cons (ev_var rfl (ea_nil ⟨(by show 4 ≤ 1000000; decide), ?_⟩))))⟩))))))
      simp [keyP, bodyP, keyL, sizeL]
    | got i =>
      simp only [encP]
      refine sv_ret (ev_tup (ea_cons (ev_var rfl (ea_cons (ev_rank (ev_ix rfl rfl ⟨_, 2, rfl, (.tail _ (.tail _ (.head _))), ea_cons (ev_ix rfl rfl (ea_cons (ev_var rfl (ea_nil ⟨(by show 4 ≤ 1000000; decide), ?_⟩))))⟩))))))
      simp [keyP, bodyP, keyL, sizeL]
    | nest kd d b =>
      simp only [encP]
      cases kd with
      | true =>
        refine sv_ret (ev_tup (ea_cons (ev_var rfl (ea_cons (ev_rank (ev_ix rfl rfl ⟨_, 4, rfl, (.tail _ (.tail _ (.tail _ (.tail _ (.head _))))), ea_cons (ev_ix rfl rfl (ea_cons (ev_var rfl (ea_nil ⟨(by show 4 ≤ 1000000; decide), ?_⟩))))⟩))))))
        simp [keyP, bodyP]
      | false =>
        refine sv_ret (ev_tup (ea_cons (ev_var rfl (ea_cons (ev_rank (ev_ix rfl rfl ⟨_, 3, rfl, (.tail _ (.tail _ (.tail _ (.head _)))), ea_cons (ev_ix rfl rfl (ea_cons (ev_var rfl (ea_nil ⟨(by show 4 ≤ 1000000; decide), ?_⟩))))⟩))))))
        simp [keyP, bodyP]
theorem k_plan_key (B : Bs W.K W.mg) {n : Nat} (h_part_key : Kp W d_part_key ["part"] k (rKeyP n)) : Kp W d_plan_key ["plan"] (k + 1) (rKeyL n) :=
  def_ok B.t_plan_key sc_plan_key (by rintro _ _ ⟨p, rfl, _, _, rfl⟩; rfl) fun cdv A outer s H E hr ds y ⟨p, e, hn, h, e2⟩ => by
    subst e e2
    refine ⟨_, (pss_one (ps_ret (pe_callTy call_tuple_of (by rfl) B.tuple (by decide +kernel) (pa_cons (pe_lc (own := [("count", 1), ("part", 2)]) rfl sc_plan_key.nd (pi_tup (pv 0)) (blkOk_by (own := [("count", 1), ("part", 2)]) (N := n_plan_key) (sc := defScope s_plan_key) (by decide +kernel)) (fun _ _ _ _ _ => (pg_tupK W.K (n := 2) (by rfl) (pgs_cons (pg_name (i := 1) sc_plan_key.nd rfl (Or.inl rfl)) (pgs_cons (pg_name (i := 2) sc_plan_key.nd rfl (Or.inl rfl)) pgs_nil)))) (fun _ _ _ _ _ => pts_nil) (fun _ _ _ _ _ => (pe_tup (pa_cons (pe_k h_part_key hr rfl B.m_part_key (pa_cons (pv 2) pa_nil)) (pa_cons (pv 1) pa_nil))))) pa_nil)))), sv_ret (ev_tupleS (evs_l (evl_lcM (js := [1] ++ [2]) (by simp) (ei_tup (ev_var rfl ⟨_, rfl, p, encI, fun x => some (.tuple [keyP x.2, .int x.1]), encL_map p, h.len, ?_, ?_⟩)))))⟩
    · rintro ⟨c, q⟩ hx
      have h1 := h.mem hx
      have h2 : nestP q ≤ nestL p := nestL_mem hx
      exact turn2 (ev_tup (ea2 (ev_call (ea1 (ev_var rfl ⟨_, ⟨q, rfl, by omega, h1.1, rfl⟩, ev_var rfl ⟨(by show 2 ≤ 1000000; decide), rfl⟩⟩)))))
    · show PyData.tuple _ = _
      rw [keyL_map]
      simp [List.filterMap_eq_map, Function.comp_def]
/-! ### parts within -/
theorem take_succ' {p : Plan} {i : Nat} {x : Int × Part} (h : p[i]? = some x) : p.take (i + 1) = p.take i ++ [x] := by
  rw [List.take_add_one, h]
  rfl
theorem itemsL_append (p q : Plan) : itemsL (p ++ q) = itemsL p + itemsL q := by
  rw [← partsL_len, partsL_append, List.length_append, partsL_len, partsL_len]
theorem itemsL_take (p : Plan) (i : Nat) : itemsL (p.take i) ≤ itemsL p := by
  have := itemsL_append (p.take i) (p.drop i)
  rw [List.take_append_drop] at this
  omega
def rParts (n : Nat) : List D → D → Prop := fun ds y => ∃ p, ds = [enc p] ∧ nestL p < n ∧ itemsL p ≤ 900000 ∧ y = .list (partsL p)
theorem k_parts_within (B : Bs W.K W.mg) {n : Nat} (h_parts_within : Kp W d_parts_within ["plan"] k (rParts n)) : Kp W d_parts_within ["plan"] (k + 1) (rParts (n + 1)) :=
  def_ok B.t_parts_within sc_parts_within (by rintro _ _ ⟨p, rfl, _, _, rfl⟩; rfl) fun cdv A outer s H E hr ds y ⟨p, e, hn, h, e2⟩ => by
    subst e e2
    refine ⟨_, (pss_cons (ps_set (i := 1) sc_parts_within.nd rfl (Or.inl rfl) (pe_lst pa_nil))
    (pss_cons (ps_for PassesOwn.never rfl (pi_tup (pv 0)) (pg_tupK W.K (n := 2) (by rfl) (pgs_cons (pg_name (i := 2) sc_parts_within.nd rfl (Or.inl rfl)) (pgs_cons (pg_name (i := 3) sc_parts_within.nd rfl (Or.inl rfl)) pgs_nil))) (pss_cons (ps_expr (pe_bm PySem.F.plainAttrs_list PySem.F.slot_list_append PySem.F.type_list_append mt_append (pv 1) (pa_cons (pv 3) pa_nil)))
    (pss_one (ps_if (pt_cmpR (op_eqK W.K (u200 hr)) (pe_callB (call_lenK W.K) (by rfl) B.len PySem.boot_len (pa_cons (pv 3) pa_nil)) pe_int (nomark _)) (pss_one (ps_expr (pe_bm PySem.F.plainAttrs_list PySem.F.slot_list_extend PySem.F.type_list_extend mt_extend (pv 1) (pa_cons (pe_k h_parts_within hr rfl B.m_parts_within (pa_cons (pe_ix (ix_tupK W.K) (pv 3) pe_int (fun _ _ => rfl)) pa_nil)) pa_nil)))) pss_nil))))
    (pss_one (ps_ret (pv 1))))), ?_⟩
    refine sv_seq (sv_setL (evl_lst (ea_nil ⟨by decide, ?_⟩)))
    refine sv_seq (sv_for (js := [2] ++ [3]) (ei_tup (ev_var rfl ⟨_, rfl, fun i δ => ∃ A s2 s3, δ = [.d (enc p), .l A, s2, s3] ∧ A = partsL (p.take i), ⟨_, _, _, rfl, rfl⟩, ?_, ?_⟩)))
    · rintro i x δ hx ⟨A, s2, s3, rfl, rfl⟩
      obtain ⟨⟨c, q⟩, e, rfl⟩ := encL_get hx
      have h2 : nestP q ≤ nestL p := nestL_get e
      have h3 := itemsL_take p i
      have h4 := itemsL_take p (i + 1)
      have e4 := take_succ' e
      have l1 := partsL_len (p.take i)
      have e5 : partsL (p.take (i + 1)) = partsL (p.take i) ++ (encP q :: insideP q) := by rw [e4, partsL_append]; simp [partsL]
      have l2 := partsL_len (p.take (i + 1))
      rw [e5, List.length_append, List.length_cons] at l2
      refine gt_pair (gt_name (gt_name ?_))
      refine sv_seq (sv_append rfl (by omega) (ev_var rfl ?_))
      refine sv_if (et_len3 (p := q) rfl ?_)
      cases q with
      | name w => exact ⟨fun z => (by cases z), fun _ => sv_next ⟨_, _, _, rfl, by rw [e5]; rfl⟩⟩
      | got w => exact ⟨fun z => (by cases z), fun _ => sv_next ⟨_, _, _, rfl, by rw [e5]; rfl⟩⟩
      | nest kd d b =>
        refine ⟨fun _ => ?_, fun z => (by cases z)⟩
        simp only [nestP] at h2
        have h5 : itemsL b + 1 ≤ itemsL p := itemsL_mem (List.mem_of_getElem? e)
        have l3 : (insideP (.nest kd d b)).length = (partsL b).length := by simp [insideP]
        simp only [encP]
        refine sv_extend rfl (evs_ev (ev_call (ea1 (ev_ix rfl rfl ⟨_, ⟨b, rfl, by omega, by omega, rfl⟩, _, rfl, ?_, ?_⟩))))
        · rw [List.length_append]
          simp only [List.length_cons, List.length_nil]
          omega
        · have e6 : partsL (p.take (i + 1)) = (partsL (p.take i) ++ [.tuple [.str (kindS kd), .str (chr d), .tuple (encL b)]]) ++ partsL b := by rw [e5]; simp [insideP, encP]
          exact ⟨_, _, _, rfl, e6.symm⟩
    · rintro δ ⟨A, s2, s3, rfl, rfl⟩
      rw [encL_len, List.take_length]
      exact sv_freeze 1 rfl (sv_ret (ev_var rfl rfl))
def rItems (n : Nat) : List D → D → Prop := fun ds y => ∃ p, ds = [enc p] ∧ nestL p < n ∧ itemsL p ≤ 900000 ∧ y = .int (itemsL p)
theorem k_items_in (B : Bs W.K W.mg) {n : Nat} (h_parts_within : Kp W d_parts_within ["plan"] k (rParts n)) : Kp W d_items_in ["plan"] (k + 1) (rItems n) :=
  def_ok B.t_items_in sc_items_in (by rintro _ _ ⟨p, rfl, _, _, rfl⟩; rfl) fun cdv A outer s H E hr ds y ⟨p, e, hn, h, e2⟩ => by
    subst e e2
    refine ⟨_, (pss_one (ps_ret (pe_callB (call_lenK W.K) (by rfl) B.len PySem.boot_len (pa_cons (pe_k h_parts_within hr rfl B.m_parts_within (pa_cons (pv 0) pa_nil)) pa_nil)))), ?_⟩
    exact sv_ret (ev_len (ev_call (ea1 (ev_var rfl ⟨_, ⟨p, rfl, hn, h, rfl⟩, _, rfl, by rw [partsL_len]⟩))))
def nestsOf : Plan → List Int
  | [] => []
  | (_, .nest k d b) :: r => ((1 + nestL b : Nat) : Int) :: nestsOf r
  | _ :: r => nestsOf r
theorem nestsOf_max : ∀ p : Plan, (∀ y ∈ (0 : Int) :: nestsOf p, y ≤ nestL p) ∧ (nestL p : Int) ∈ (0 : Int) :: nestsOf p
  | [] => by simp [nestsOf, nestL]
  | (c, .name w) :: r => by simpa [nestsOf, nestL, nestP] using nestsOf_max r
  | (c, .got w) :: r => by simpa [nestsOf, nestL, nestP] using nestsOf_max r
  | (c, .nest k d b) :: r => by
    obtain ⟨h1, h2⟩ := nestsOf_max r
    simp only [nestsOf, nestL, nestP]
    refine ⟨fun y hy => ?_, ?_⟩
    · rcases List.mem_cons.mp hy with e | e
      · omega
      · rcases List.mem_cons.mp e with e | e
        · omega
        · have := h1 y (List.mem_cons_of_mem _ e)
          omega
    · rcases List.mem_cons.mp h2 with e | e
      · have : nestL r = 0 := by omega
        rw [this, Nat.max_eq_left (by omega)]
        exact List.mem_cons_of_mem _ List.mem_cons_self
      · by_cases z : nestL r ≤ 1 + nestL b
        · rw [Nat.max_eq_left z]
          exact List.mem_cons_of_mem _ List.mem_cons_self
        · rw [Nat.max_eq_right (by omega)]
          exact List.mem_cons_of_mem _ (List.mem_cons_of_mem _ e)
def nestO (x : Int × Part) : Option D := match x.2 with
  | .nest _ _ b => some (.int ((1 + nestL b : Nat) : Int))
  | _ => none
theorem nestsOf_map : ∀ p : Plan, p.filterMap nestO = (nestsOf p).map .int
  | [] => rfl
  | (c, .name w) :: r => (List.filterMap_cons_none rfl).trans (nestsOf_map r)
  | (c, .got w) :: r => (List.filterMap_cons_none rfl).trans (nestsOf_map r)
  | (c, .nest k d b) :: r => by simpa [nestsOf, nestO] using nestsOf_map r
def rNest (n : Nat) : List D → D → Prop := fun ds y => ∃ p, ds = [enc p] ∧ nestL p < n ∧ itemsL p ≤ 900000 ∧ y = .int (nestL p)
theorem k_nesting (B : Bs W.K W.mg) {n : Nat} (h_nesting : Kp W d_nesting ["plan"] k (rNest n)) : Kp W d_nesting ["plan"] (k + 1) (rNest (n + 1)) :=
  def_ok B.t_nesting sc_nesting (by rintro _ _ ⟨p, rfl, _, _, rfl⟩; rfl) fun cdv A outer s H E hr ds y ⟨p, e, hn, h, e2⟩ => by
    subst e e2
    have hl : p.length ≤ 900000 := Nat.le_trans (len_le_items p) h
    refine ⟨_, (pss_one (ps_ret (pe_callB (cr_max rfl) (by rfl) B.max (by decide +kernel) (pa_cons (pe_op op_cat (pe_lst (pa_cons pe_int pa_nil)) (pe_lc (own := [("count", 1), ("part", 2)]) rfl sc_nesting.nd (pi_tup (pv 0)) (blkOk_by (own := [("count", 1), ("part", 2)]) (N := n_nesting) (sc := defScope s_nesting) (by decide +kernel)) (fun _ _ _ _ _ => (pg_tupK W.K (n := 2) (by rfl) (pgs_cons (pg_name (i := 1) sc_nesting.nd rfl (Or.inl rfl)) (pgs_cons (pg_name (i := 2) sc_nesting.nd rfl (Or.inl rfl)) pgs_nil)))) (fun _ _ _ _ _ => pts_one (pt_cmpR (op_eqK W.K (u200 hr)) (pe_callB (call_lenK W.K) (by rfl) B.len PySem.boot_len (pa_cons (pv 2) pa_nil)) pe_int (nomark _))) (fun _ _ _ _ _ => (pe_op op_add pe_int (pe_k h_nesting hr rfl B.m_nesting (pa_cons (pe_ix (ix_tupK W.K) (pv 2) pe_int (fun _ _ => rfl)) pa_nil)))))) pa_nil)))), ?_⟩
    refine sv_ret (ev_maxS (evs_l (evl_cat (evs_l (evl_lst (ea1 (ev_int ⟨by show 1 ≤ 1000000; decide, evs_l (evl_lcM (js := [1] ++ [2]) (by simp) (ei_tup (ev_var rfl ⟨_, rfl, p, encI, nestO, encL_map p, by omega, ?_, ?_, ?_⟩)))⟩)))))))
    · rintro ⟨c, q⟩ hx
      have h2 : nestP q ≤ nestL p := nestL_mem hx
      cases q with
      | name w => exact turn2F (b := false) (et_len3 (p := .name w) rfl rfl) (fun z => (by cases z)) fun _ => rfl
      | got w => exact turn2F (b := false) (et_len3 (p := .got w) rfl rfl) (fun z => (by cases z)) fun _ => rfl
      | nest kd d b =>
        have h5 : itemsL b + 1 ≤ itemsL p := itemsL_mem hx
        simp only [nestP] at h2
        refine turn2F (b := true) (et_len3 (p := .nest kd d b) rfl rfl) (fun _ => ⟨_, rfl, ?_⟩) fun z => (by cases z)
        simp only [encP]
        exact ev_op (ev_int (ev_call (ea1 (ev_ix rfl rfl ⟨_, ⟨b, rfl, by omega, by omega, rfl⟩, rv_i0 (by rw [Int.natCast_add]; rfl)⟩))))
    · have := List.length_filterMap_le nestO p
      simp only [List.length_cons, List.length_nil]
      omega
    · refine ⟨0 :: nestsOf p, by rw [nestsOf_map]; rfl, by simp, fun m h1 h2 => ?_⟩
      obtain ⟨a, b⟩ := nestsOf_max p
      have e1 := a m h1
      have e2 := h2 _ b
      show PyData.int m = _
      rw [show m = (nestL p : Int) by omega]
theorem k_check_room (B : Bs W.K W.mg) : Kp W d_check_room ["items"] (k + 1) fun ds y => ∃ i, ds = [.int i] ∧ i ≤ 5000 ∧ y = .none :=
  def_ok B.t_check_room sc_check_room (by rintro _ _ ⟨p, rfl, _, rfl⟩; rfl) fun cdv A outer s H E hr ds y ⟨i, e, hi, e2⟩ => by
    subst e e2
    refine ⟨_, (pss_one (ps_if (pt_cmpR op_gt (pv 0) (pe_c B.mostItems) (nomark _)) (pss_one ps_never) pss_nil)), ?_⟩
    exact sv_ifF (et_TE (ev_op (ev_var rfl (ev_int (rv_b0 (by rw [decide_eq_false (by omega)])))))) (sv_next rfl)
def rRoomy (n : Nat) : List D → D → Prop := fun ds y => ∃ p, ds = [enc p] ∧ nestL p < n ∧ itemsL p ≤ 5000 ∧ nestL p ≤ 120 ∧ y = enc p
theorem k_roomy (B : Bs W.K W.mg) {n : Nat} (h_check_room : Kp W d_check_room ["items"] k fun ds y => ∃ i, ds = [.int i] ∧ i ≤ 5000 ∧ y = .none) (h_items_in : Kp W d_items_in ["plan"] k (rItems n)) (h_nesting : Kp W d_nesting ["plan"] k (rNest n)) : Kp W d_roomy ["plan"] (k + 1) (rRoomy n) :=
  def_ok B.t_roomy sc_roomy (by rintro _ _ ⟨p, rfl, _, _, _, rfl⟩; rfl) fun cdv A outer s H E hr ds y ⟨p, e, hn, h, h3, e2⟩ => by
    subst e e2
    refine ⟨_, (pss_cons (ps_expr (pe_k h_check_room hr rfl B.m_check_room (pa_cons (pe_k h_items_in hr rfl B.m_items_in (pa_cons (pv 0) pa_nil)) pa_nil)))
    (pss_cons (ps_if (pt_cmpR op_gt (pe_k h_nesting hr rfl B.m_nesting (pa_cons (pv 0) pa_nil)) (pe_c B.mostNested) (nomark _)) (pss_one ps_never) pss_nil)
    (pss_one (ps_ret (pv 0))))), ?_⟩
    refine sv_seq (sv_drop (ev_call (ea1 (ev_call (ea1 (ev_var rfl ⟨_, ⟨p, rfl, hn, by omega, rfl⟩, _, ⟨_, rfl, by omega, rfl⟩, ?_⟩))))))
    refine sv_seq (sv_ifF (et_TE (ev_op (ev_call (ea1 (ev_var rfl ⟨_, ⟨p, rfl, hn, by omega, rfl⟩, ev_int (rv_b0 (by rw [decide_eq_false (by omega)]))⟩))))) (sv_next ?_))
    exact sv_ret (ev_var rfl rfl)
theorem gotsL_take {p : Plan} {i : Nat} {x : Int × Part} {n : Int} (h : p[i]? = some x) : gotsL n (p.take (i + 1)) = gotsL n (p.take i) + gotsQ n x.2 := by
  rw [take_succ' h, gotsL_append]
  obtain ⟨c, q⟩ := x
  simp [gotsL]
def rGots (n : Nat) : List D → D → Prop := fun ds y => ∃ p m, ds = [enc p, .int m] ∧ nestL p < n ∧ nestL p ≤ 60 ∧ y = .int (gotsL m p)
theorem k_gots_at (B : Bs W.K W.mg) {n : Nat} (h_gots_at : Kp W d_gots_at ["plan", "depth"] k (rGots n)) : Kp W d_gots_at ["plan", "depth"] (k + 1) (rGots (n + 1)) :=
  def_ok B.t_gots_at sc_gots_at (by rintro _ _ ⟨p, m, rfl, _, _, rfl⟩; rfl) fun cdv A outer s H E hr ds y ⟨p, m, e, hn, h, e2⟩ => by
    subst e e2
    refine ⟨_, (pss_cons (ps_set (i := 2) sc_gots_at.nd rfl (Or.inl rfl) pe_int)
    (pss_cons (ps_for PassesOwn.never rfl (pi_tup (pv 0)) (pg_tupK W.K (n := 2) (by rfl) (pgs_cons (pg_name (i := 3) sc_gots_at.nd rfl (Or.inl rfl)) (pgs_cons (pg_name (i := 4) sc_gots_at.nd rfl (Or.inl rfl)) pgs_nil))) (pss_one (ps_if (pt_cmpR (op_eqK W.K (u200 hr)) (pv 4) (pe_tup (pa_cons pe_str (pa_cons (pv 1) pa_nil))) (nomark _)) (pss_one (ps_aug (i := 2) sc_gots_at.nd rfl (Or.inl rfl) pe_int ip_add)) (pss_one (ps_if (pt_cmpR (op_eqK W.K (u200 hr)) (pe_callB (call_lenK W.K) (by rfl) B.len PySem.boot_len (pa_cons (pv 4) pa_nil)) pe_int (nomark _)) (pss_one (ps_aug (i := 2) sc_gots_at.nd rfl (Or.inl rfl) (pe_k h_gots_at hr rfl B.m_gots_at (pa_cons (pe_ix (ix_tupK W.K) (pv 4) pe_int (fun _ _ => rfl)) (pa_cons (pe_ifExp (pt_cmpR (op_eqK W.K (u200 hr)) (pe_ix (ix_tupK W.K) (pv 4) pe_int (fun _ _ => rfl)) pe_str (nomark _)) (pe_op op_add (pv 1) pe_int) (pv 1)) pa_nil))) ip_add)) pss_nil)))))
    (pss_one (ps_ret (pv 2))))), ?_⟩
    refine sv_seq (sv_set (ev_int ?_))
    refine sv_seq (sv_for (js := [3] ++ [4]) (ei_tup (ev_var rfl ⟨_, rfl, fun i δ => ∃ A s2 s3, δ = [.d (enc p), .d (.int m), .d (.int A), s2, s3] ∧ A = gotsL m (p.take i), ⟨_, _, _, rfl, by simp [gotsL]⟩, ?_, ?_⟩)))
    · rintro i x δ hx ⟨A, s2, s3, rfl, rfl⟩
      obtain ⟨⟨c, q⟩, e, rfl⟩ := encL_get hx
      have h2 : nestP q ≤ nestL p := nestL_get e
      have eg := gotsL_take (n := m) e
      refine gt_pair (gt_name (gt_name ?_))
      refine sv_ifP (q = .got m) (et_TE (ev_op (ev_var rfl (ev_tup (ea2 (ev_str (ev_var rfl ⟨(by show 2 ≤ 1000000; decide), ?_⟩))))))) (fun z => ?_) fun z => ?_
      · have e7 : PyData.tuple [.str "got", .int m] = encP (.got m) := by simp [encP]
        rw [e7]
        exact rv_eqP (.inl (show nestP q ≤ 60 by omega)) rfl
      · subst z
        have e6 : gotsL m (p.take (i + 1)) = gotsL m (p.take i) + 1 := by rw [eg]; simp [gotsQ]
        refine sv_aug rfl (ev_int ⟨1, rfl, ?_⟩)
        exact ⟨_, _, _, rfl, e6.symm⟩
      · refine sv_if (et_len3 (p := q) rfl ?_)
        cases q with
        | name w =>
          have e6 : gotsL m (p.take (i + 1)) = gotsL m (p.take i) := by rw [eg]; simp [gotsQ]
          exact ⟨fun z => (by cases z), fun _ => sv_next ⟨_, _, _, rfl, e6.symm⟩⟩
        | got w =>
          have : w ≠ m := fun e => z (by rw [e])
          have e6 : gotsL m (p.take (i + 1)) = gotsL m (p.take i) := by rw [eg]; simp [gotsQ, this]
          exact ⟨fun z => (by cases z), fun _ => sv_next ⟨_, _, _, rfl, e6.symm⟩⟩
        | nest kd d b =>
          refine ⟨fun _ => ?_, fun z => (by cases z)⟩
          simp only [nestP] at h2
          simp only [encP]
          refine sv_aug rfl (ev_call (ea2 (ev_ix rfl rfl (ev_known (d := .int (if kd then m + 1 else m)) ?_ ⟨_, ⟨b, _, rfl, by omega, by omega, rfl⟩, _, rfl, ?_⟩))))
          · cases kd with
            | true => exact ev_ifT (et_ixS rfl rfl rfl) (ev_op (ev_var rfl (ev_int (rv_i0 rfl))))
            | false => exact ev_ifF (et_ixS rfl rfl (by decide)) (ev_var rfl rfl)
          · have e6 : gotsL m (p.take (i + 1)) = gotsL m (p.take i) + gotsL (if kd then m + 1 else m) b := by rw [eg]; simp [gotsQ]
            exact ⟨_, _, _, rfl, e6.symm⟩
    · rintro δ ⟨A, s2, s3, rfl, rfl⟩
      rw [encL_len, List.take_length]
      exact sv_ret (ev_var rfl rfl)
end
end G
set_option Elab.async false
set_option linter.all false
set_option maxRecDepth 100000
set_option maxHeartbeats 1000000
/-! items sorted and joined -/
namespace G
open PySem PySem.Spec L2 LamX NdefX
theorem ixN_last (n : Nat) : ixN (n + 1) (-1) = some n := by
  unfold ixN
  rw [if_neg (by omega), if_pos (by omega)]
  congr 1
  omega
theorem atI_lastA (xs : List D) (d : D) : L2.atI (xs ++ [d]) (-1) = some d := by
  unfold L2.atI
  rw [List.length_append]
  show (ixN (xs.length + 1) (-1)).bind _ = _
  rw [ixN_last]
  simp
theorem set_lastA (xs : List D) (d e : D) : (xs ++ [d]).set xs.length e = xs ++ [e] := by simp
theorem encL_snoc (p : Plan) (x : Int × Part) : encL (p ++ [x]) = encL p ++ [encI x] := by
  rw [encL_append]
  obtain ⟨c, q⟩ := x
  simp [encL]
section
variable {T : List (Addr × Str)} {ta : Option Addr} {δ : List Sl} {K : PySem.W.Frag}
/-- found[-1], found = encL (p ++ [y]) -/
theorem ev_last {i : Nat} {p : Plan} {y : Int × Part} {Φ : D → Prop} (e : δ[i]? = some (.l (encL (p ++ [y])))) (h : Φ (encI y)) : Ev T ta (tOp (rIxL K) (tVar i) (tUn (rU fun i => .int (-i)) (tC (.int 1)))) δ Φ :=
  ev_ixS (evs_own e (ev_neg (ev_int ⟨1, rfl, -1, encI y, rfl, by rw [encL_snoc]; exact atI_lastA _ _, h⟩)))
theorem joinStep_nil (x : Int × Part) : joinStep [] x = [x] := by simp [joinStep]
theorem joinStep_snoc (A : Plan) (y x : Int × Part) : joinStep (A ++ [y]) x = if y.2 = x.2 then A ++ [(y.1 + x.1, x.2)] else A ++ [y] ++ [x] := by simp [joinStep]
/-- the turn of the joining: found in slot 1, count 2, part 3 -/
theorem sv_join {s0 : Sl} {A : Plan} {c : Int} {q : Part} {P : Po} (hn : nestP q ≤ 60) (hl : A.length < 1000000) (h : P.nx [s0, .l (encL (joinStep A (c, q))), .d (.int c), .d (encP q)]) :
    Sv T ta (tIfS (tAnd (tTest (tOp (rI0 fun i j => .bl (decide (j < i))) (tCB (rLenQ K) (tCons (tVar 1) tNil)) (tC (.int 0)))) (tTest (tOp (rEqA K) (tOp (rIxT K) (tOp (rIxL K) (tVar 1) (tUn (rU fun i => .int (-i)) (tC (.int 1)))) (tC (.int 1))) (tVar 3))))
      (tAsg (tTup (tCons (tOp (rI0 fun i j => .int (i + j)) (tOp (rIxT K) (tOp (rIxL K) (tVar 1) (tUn (rU fun i => .int (-i)) (tC (.int 1)))) (tC (.int 0))) (tVar 2)) (tCons (tVar 3) tNil))) (gSub (tVar 1) (tUn (rU fun i => .int (-i)) (tC (.int 1))) rSetL))
      (tDrop (tBM K "list" rAppend (tVar 1) (tCons (tTup (tCons (tVar 2) (tCons (tVar 3) tNil))) tNil)))) [s0, .l (encL A), .d (.int c), .d (encP q)] P := by
  have app : ∀ B : Plan, encL B ++ [encI (c, q)] = encL (B ++ [(c, q)]) := fun B => (encL_snoc B (c, q)).symm
  rcases List.eq_nil_or_concat A with e | ⟨B, y, e⟩
  · subst e
    rw [joinStep_nil] at h
    refine sv_ifF (et_and1 (et_TE (ev_op (ev_lenS (evs_own rfl (ev_int (rv_b0 rfl))))))) ?_
    refine sv_append rfl (by rw [encL_len]; exact hl) (ev_tup (ea2 (ev_var rfl (ev_var rfl ⟨(by show 2 ≤ 1000000; decide), ?_⟩))))
    show P.nx [s0, .l (encL [] ++ [encI (c, q)]), .d (.int c), .d (encP q)]
    rw [app]
    exact h
  · rw [List.concat_eq_append] at e
    subst e
    rw [joinStep_snoc] at h
    refine sv_ifP (y.2 = q) ((et_andB (a := true) (b := decide (y.2 = q)) (et_TE (ev_op (ev_lenS (evs_own rfl (ev_int (rv_b0 ?_)))))) fun _ => et_TE (ev_op (ev_op (ev_last rfl (ev_int (rv_ixT rfl (ev_var rfl (rv_eqP (.inr hn) rfl)))))))).imp fun b e => by rw [e]; rfl) (fun z => ?_) fun z => ?_
    · rw [decide_eq_true (by rw [encL_len, List.length_append, List.length_singleton]; omega)]
    · rw [if_pos z] at h
      refine sv_setitem rfl (ev_tup (ea2 (ev_op (ev_op (ev_last rfl (ev_int (rv_ixT rfl (ev_var rfl (rv_i0 (ev_var rfl ⟨(by show 2 ≤ 1000000; decide), ?_⟩))))))))))
      refine ev_neg (ev_int ⟨1, rfl, -1, (encL B).length, rfl, ?_, ?_⟩)
      · rw [encL_snoc, List.length_append]
        exact ixN_last _
      · have e2 : (encL (B ++ [y])).set (encL B).length (.tuple [.int (y.1 + c), encP q]) = encL (B ++ [(y.1 + c, q)]) := by rw [encL_snoc, set_lastA, encL_snoc]
        show P.nx [s0, .l ((encL (B ++ [y])).set (encL B).length (.tuple [.int (y.1 + c), encP q])), .d (.int c), .d (encP q)]
        rw [e2]
        exact h
    · rw [if_neg z] at h
      refine sv_append rfl (by rw [encL_len]; exact hl) (ev_tup (ea2 (ev_var rfl (ev_var rfl ⟨(by show 2 ≤ 1000000; decide), ?_⟩))))
      show P.nx [s0, .l (encL (B ++ [y]) ++ [encI (c, q)]), .d (.int c), .d (encP q)]
      rw [app]
      exact h
end
theorem foldl_join_len : ∀ (r A : Plan), (r.foldl joinStep A).length ≤ A.length + r.length
  | [], A => by simp
  | x :: r, A => by
    have h := foldl_join_len r (joinStep A x)
    have h2 : (joinStep A x).length ≤ A.length + 1 := by
      rcases List.eq_nil_or_concat A with e | ⟨B, y, e⟩
      · subst e
        rw [joinStep_nil]
        simp
      · rw [List.concat_eq_append] at e
        subst e
        rw [joinStep_snoc]
        split <;> simp
    simp only [List.foldl_cons, List.length_cons]
    omega
section
variable {W : Wd} {k : Nat}
def rSorted (n : Nat) : List D → D → Prop := fun ds y => ∃ p, ds = [.list (encL p)] ∧ nestL p < n ∧ nestL p ≤ 60 ∧ SmL p ∧ lowL p ∧ y = enc (sortItems p)
theorem k_sorted_items (B : Bs W.K W.mg) (BT : Tb W) {n : Nat} (h_part_key : Kp W d_part_key ["part"] k (rKeyP n)) : Kp W d_sorted_items ["items"] (k + 3 + 1) (rSorted n) :=
  def_okC B.t_sorted_items sc_sorted_items (by rintro _ _ ⟨p, rfl, _, _, _, _, rfl⟩; rfl) fun A outer s H E hr ds y ⟨p, e, hn, h60, h, lw, e2⟩ => by
    subst e e2
    have hT := BT.at_ 0 (p := d_sorted_items.at_) (q := (("sorted_items" : Str) ++ ".<locals>.") ++ "<lambda>")
    refine ⟨_, (pss_cons (ps_set (i := 1) sc_sorted_items.nd rfl (Or.inl rfl) (pe_lst pa_nil))
    (pss_cons (ps_for PassesOwn.never rfl (pi_list (pe_sortLam (T := W.T) (k := k) (by rfl) B.sorted (pa_cons (pe_callTy call_list_of (by rfl) B.list (by decide +kernel) (pa_cons (pv 0) pa_nil)) pa_nil) hT.1 rfl hT.2.1 hT.2.2 hr (fun b hb => ⟨fun z => hb (z ▸ List.mem_cons_self), fun z => hb (List.mem_cons_of_mem _ z)⟩) rfl (by decide +kernel) rfl (nscope_by (by decide +kernel)) (fun _ _ _ _ _ => rfl) (fun _ _ _ _ _ _ hr2 => pe_k h_part_key hr2 rfl B.m_part_key (pa_cons (pe_ix (ix_tupK W.K) (pv 0) pe_int (fun _ _ => rfl)) pa_nil)))) (pg_tupK W.K (n := 2) (by rfl) (pgs_cons (pg_name (i := 2) sc_sorted_items.nd rfl (Or.inl rfl)) (pgs_cons (pg_name (i := 3) sc_sorted_items.nd rfl (Or.inl rfl)) pgs_nil))) (pss_one (ps_if (PW.pt (pw_and (pt_cmpR op_gt (pe_callB (call_lenK W.K) (by rfl) B.len PySem.boot_len (pa_cons (pv 1) pa_nil)) pe_int (nomark _)) (pw_and1 (pt_cmpR (op_eqK W.K (u200 hr)) (pe_ix (ix_tupK W.K) (pe_ix (ix_listK W.K) (pv 1) (pe_un un_neg pe_int) (fun _ _ => rfl)) pe_int (fun _ _ => rfl)) (pv 3) (nomark _))))) (pss_one (ps_asg (pe_tup (pa_cons (pe_op op_add (pe_ix (ix_tupK W.K) (pe_ix (ix_listK W.K) (pv 1) (pe_un un_neg pe_int) (fun _ _ => rfl)) pe_int (fun _ _ => rfl)) (pv 2)) (pa_cons (pv 3) pa_nil))) (pg_sub (pv 1) (pe_un un_neg pe_int) set_list))) (pss_one (ps_expr (pe_bm PySem.F.plainAttrs_list PySem.F.slot_list_append PySem.F.type_list_append mt_append (pv 1) (pa_cons (pe_tup (pa_cons (pv 2) (pa_cons (pv 3) pa_nil))) pa_nil)))))))
    (pss_one (ps_ret (pe_callTy call_tuple_of (by rfl) B.tuple (by decide +kernel) (pa_cons (pv 1) pa_nil)))))), ?_⟩
    have hz : p.length ≤ 1000000 := h.len
    refine sv_seq (sv_setL (evl_lst (ea_nil ⟨by decide, ?_⟩)))
    refine sv_seq (sv_for (js := [2] ++ [3]) (ei_list (ev_l (evl_sortLam (evs_l (evl_listL (evs_ev (ev_var rfl ⟨_, rfl, p.map (fun x => keyP x.2), ?_, keys_of lw, ?_, ?_, _, rfl, fun i δ => ∃ A s2 s3, δ = [.d (.list (encL p)), .l (encL A), s2, s3] ∧ A = ((p.mergeSort leP).take i).foldl joinStep [], ⟨[], _, _, rfl, rfl⟩, ?_, ?_⟩))))))))
    · rw [List.length_map, encL_len]
    · intro d hd
      obtain ⟨x, hx, rfl⟩ := List.mem_map.mp hd
      have h1 := keyP_depth x.2
      have h2 := nestL_mem hx
      omega
    · intro i x d hx hd
      obtain ⟨⟨c, q⟩, e, rfl⟩ := encL_get hx
      rw [List.getElem?_map, e] at hd
      cases hd
      have hm := List.mem_of_getElem? e
      have h1 := h.mem hm
      have h2 : nestP q ≤ nestL p := nestL_mem hm
      exact ev_call (ea1 (ev_ix rfl rfl ⟨_, ⟨q, rfl, by omega, h1.1, rfl⟩, rfl⟩))
    · rintro i x δ hx ⟨A, s2, s3, rfl, rfl⟩
      rw [sortBy_items] at hx
      obtain ⟨⟨c, q⟩, e, rfl⟩ := encL_get hx
      have hm : (c, q) ∈ p := (List.mergeSort_perm p leP).mem_iff.mp (List.mem_of_getElem? e)
      have h2 : nestP q ≤ nestL p := nestL_mem hm
      have hi : i < (p.mergeSort leP).length := (List.getElem?_eq_some_iff.mp e).1
      have hlen : (((p.mergeSort leP).take i).foldl joinStep []).length < 1000000 := by
        have z := foldl_join_len ((p.mergeSort leP).take i) []
        rw [List.length_take] at z
        rw [(List.mergeSort_perm p leP).length_eq] at hi z
        simp only [List.length_nil] at z
        omega
      refine gt_pair (gt_name (gt_name ?_))
      refine sv_join (show nestP q ≤ 60 by omega) hlen ⟨_, _, _, rfl, ?_⟩
      rw [List.take_add_one, e]
      simp
    · rintro δ ⟨A, s2, s3, rfl, rfl⟩
      refine sv_ret (ev_tupleS (evs_own rfl ?_))
      rw [sortBy_items, encL_len, List.take_length]
      rfl
end
end G
set_option Elab.async false
set_option linter.all false
set_option maxRecDepth 100000
set_option maxHeartbeats 1000000
/-! mapped, by mathematics -/
namespace G
open PySem
theorem mapL_append (act : Part → Int → Plan) (m : Int) : ∀ p q : Plan, mapL act m (p ++ q) = mapL act m p ++ mapL act m q
  | [], q => by simp [mapL]
  | (c, x) :: r, q => by simp [mapL, mapL_append act m r q]
theorem scale_one (p : Plan) : scale 1 p = p := by
  unfold scale
  simp
theorem scale_single (c : Int) (x : Part) : scale c [(1, x)] = [(c, x)] := by simp [scale]
theorem itemsL_scale (c : Int) : ∀ p : Plan, itemsL (scale c p) = itemsL p
  | [] => rfl
  | (d, x) :: r => by
    have := itemsL_scale c r
    unfold scale at this ⊢
    simp only [List.map_cons, itemsL, this]
theorem nestL_scale (c : Int) : ∀ p : Plan, nestL (scale c p) = nestL p
  | [] => rfl
  | (d, x) :: r => by
    have := nestL_scale c r
    unfold scale at this ⊢
    simp only [List.map_cons, nestL, this]
theorem mapL_take {act : Part → Int → Plan} {m : Int} {p : Plan} {i : Nat} {x : Int × Part} (h : p[i]? = some x) : mapL act m (p.take (i + 1)) = mapL act m (p.take i) ++ scale x.1 (mapP act m x.2) := by
  rw [take_succ' h, mapL_append]
  obtain ⟨c, q⟩ := x
  simp [mapL]
theorem mapL_part (act : Part → Int → Plan) (m : Int) (p : Plan) (i : Nat) : itemsL (mapL act m (p.take i)) ≤ itemsL (mapL act m p) := by
  have h := mapL_append act m (p.take i) (p.drop i)
  rw [List.take_append_drop] at h
  rw [h, itemsL_append]
  omega
mutual
theorem lift_raiseP (u l : Int) : ∀ (n : Int) (p : Part), mapP (liftA u l) n p = [(1, raiseP u (n + l) p)]
  | n, .name w => by simp [mapP, liftA, raiseP]
  | n, .got i => by
    simp only [mapP, liftA, raiseP]
    split <;> rfl
  | n, .nest k d b => by
    have := lift_raiseL u l (if k then n + 1 else n) b
    simp only [mapP, raiseP, this]
    cases k
    · rfl
    · simp only [if_true]
      rw [show n + 1 + l = n + l + 1 by omega]
theorem lift_raiseL (u l : Int) : ∀ (n : Int) (p : Plan), mapL (liftA u l) n p = raiseL u (n + l) p
  | n, [] => by simp [mapL, raiseL]
  | n, (c, p) :: r => by simp [mapL, raiseL, lift_raiseP u l n p, lift_raiseL u l n r, scale_single]
end
theorem lift_raise (u l : Int) (p : Plan) : mapL (liftA u l) 0 p = raiseL u l p := by
  rw [lift_raiseL, Int.zero_add]
theorem raiseL_map (u l : Int) : ∀ p : Plan, raiseL u l p = p.map fun x => (x.1, raiseP u l x.2)
  | [] => by simp [raiseL]
  | (c, p) :: r => by simp [raiseL, raiseL_map u l r]
mutual
theorem raiseP_items (u : Int) : ∀ (l : Int) (p : Part), itemsP (raiseP u l p) = itemsP p
  | l, .name w => by simp [raiseP]
  | l, .got i => by
    simp only [raiseP]
    split <;> simp [itemsP]
  | l, .nest k d b => by simp [raiseP, itemsP, raiseL_items u _ b]
theorem raiseL_items (u : Int) : ∀ (l : Int) (p : Plan), itemsL (raiseL u l p) = itemsL p
  | l, [] => by simp [raiseL]
  | l, (c, p) :: r => by simp [raiseL, itemsL, raiseP_items u l p, raiseL_items u l r]
end
mutual
theorem raiseP_nest (u : Int) : ∀ (l : Int) (p : Part), nestP (raiseP u l p) = nestP p
  | l, .name w => by simp [raiseP]
  | l, .got i => by
    simp only [raiseP]
    split <;> simp [nestP]
  | l, .nest k d b => by simp [raiseP, nestP, raiseL_nest u _ b]
theorem raiseL_nest (u : Int) : ∀ (l : Int) (p : Plan), nestL (raiseL u l p) = nestL p
  | l, [] => by simp [raiseL]
  | l, (c, p) :: r => by simp [raiseL, nestL, raiseP_nest u l p, raiseL_nest u l r]
end
mutual
theorem raiseP_size (u : Int) : ∀ (l : Int) (p : Part), sizeP (raiseP u l p) = sizeP p
  | l, .name w => by simp [raiseP]
  | l, .got i => by
    simp only [raiseP]
    split <;> simp [sizeP]
  | l, .nest k d b => by simp [raiseP, sizeP, raiseL_size u _ b]
theorem raiseL_size (u : Int) : ∀ (l : Int) (p : Plan), sizeL (raiseL u l p) = sizeL p
  | l, [] => by simp [raiseL]
  | l, (c, p) :: r => by simp [raiseL, sizeL, raiseP_size u l p, raiseL_size u l r]
end
theorem sm_one : Sm 1 := by show (1 : Int).natAbs.log2 < 50000000; decide
theorem SmL.cnt {p : Plan} {x : Int × Part} (h : SmL p) (hx : x ∈ p) : Sm x.1 := by
  obtain ⟨a, b, c, d⟩ := posL_mem h.pos hx
  exact h.sm.le (by omega) c
theorem encL_scale (c : Int) (p : Plan) : encL (scale c p) = p.filterMap fun x => some (.tuple [.int (c * x.1), encP x.2]) := by
  rw [encL_map, List.filterMap_eq_map' (f := fun x : Int × Part => PyData.tuple [.int (c * x.1), encP x.2])]
  unfold scale
  rw [List.map_map]
  rfl
end G
set_option Elab.async false
set_option linter.all false
set_option maxRecDepth 100000
set_option maxHeartbeats 1000000
/-! plain forms keep sizes and bounds -/
namespace G
open PySem
theorem posL_iff : ∀ {p : Plan}, posL p ↔ ∀ x ∈ p, 1 ≤ x.1 ∧ posP x.2
  | [] => by simp [posL]
  | (c, q) :: r => by
    simp only [posL, posL_iff (p := r), List.forall_mem_cons]
    exact ⟨fun ⟨a, b, c⟩ => ⟨⟨a, b⟩, c⟩, fun ⟨⟨a, b⟩, c⟩ => ⟨a, b, c⟩⟩
theorem okL_iff : ∀ {p : Plan} {n : Int}, okL n p ↔ ∀ x ∈ p, 1 ≤ x.1 ∧ okP n x.2
  | [], n => by simp [okL]
  | (c, q) :: r, n => by
    simp only [okL, okL_iff (p := r), List.forall_mem_cons]
    exact ⟨fun ⟨a, b, c⟩ => ⟨⟨a, b⟩, c⟩, fun ⟨⟨a, b⟩, c⟩ => ⟨a, b, c⟩⟩
theorem lowL_iff : ∀ {p : Plan}, lowL p ↔ ∀ x ∈ p, lowP x.2
  | [] => by simp [lowL]
  | (c, q) :: r => by
    simp only [lowL, lowL_iff (p := r), List.forall_mem_cons]
theorem nestL_le : ∀ {p : Plan} {n : Nat}, nestL p ≤ n ↔ ∀ x ∈ p, nestP x.2 ≤ n
  | [], n => by simp [nestL]
  | (c, q) :: r, n => by
    simp only [nestL, List.forall_mem_cons, ← nestL_le (p := r), Nat.max_le]
theorem sizeL_append (p q : Plan) : sizeL (p ++ q) = sizeL p + sizeL q := by
  rw [sizeL_sum, sizeL_sum, sizeL_sum, List.map_append, List.sum_append]
theorem sizeL_cons (x : Int × Part) (r : Plan) : sizeL (x :: r) = x.1 * sizeP x.2 + sizeL r := by
  obtain ⟨c, q⟩ := x
  simp [sizeL]
theorem itemsL_cons (x : Int × Part) (r : Plan) : itemsL (x :: r) = 1 + itemsP x.2 + itemsL r := by
  obtain ⟨c, q⟩ := x
  simp [itemsL]
theorem sizeL_perm {p q : Plan} (h : p.Perm q) : sizeL p = sizeL q := by
  induction h with
  | nil => rfl
  | cons x _ ih => rw [sizeL_cons, sizeL_cons, ih]
  | swap x y l => rw [sizeL_cons, sizeL_cons, sizeL_cons, sizeL_cons]; omega
  | trans _ _ a b => rw [a, b]
theorem itemsL_perm {p q : Plan} (h : p.Perm q) : itemsL p = itemsL q := by
  induction h with
  | nil => rfl
  | cons x _ ih => rw [itemsL_cons, itemsL_cons, ih]
  | swap x y l => rw [itemsL_cons, itemsL_cons, itemsL_cons, itemsL_cons]; omega
  | trans _ _ a b => rw [a, b]
theorem itemsL_sub {p q : Plan} (h : p.Sublist q) : itemsL p ≤ itemsL q := by
  induction h with
  | slnil => exact Nat.le_refl _
  | cons x _ ih => rw [itemsL_cons]; omega
  | cons_cons x _ ih => rw [itemsL_cons, itemsL_cons]; omega
theorem sizeL_sub {p q : Plan} (h : p.Sublist q) (hq : posL q) : sizeL p ≤ sizeL q := by
  induction h with
  | slnil => exact Int.le_refl _
  | cons x _ ih =>
    rw [sizeL_cons]
    have z := posL_iff.mp hq
    have a := z x List.mem_cons_self
    have := ih (posL_iff.mpr fun y hy => z y (List.mem_cons_of_mem _ hy))
    have e := sizeP_pos _ a.2
    have : 0 ≤ x.1 * sizeP x.2 := Int.mul_nonneg (by omega) (by omega)
    omega
  | cons_cons x _ ih =>
    rw [sizeL_cons, sizeL_cons]
    have z := posL_iff.mp hq
    have := ih (posL_iff.mpr fun y hy => z y (List.mem_cons_of_mem _ hy))
    omega
theorem posL_sub {p q : Plan} (h : ∀ x ∈ p, x ∈ q) (k : posL q) : posL p := posL_iff.mpr fun x hx => posL_iff.mp k x (h x hx)
theorem lowL_sub {p q : Plan} (h : ∀ x ∈ p, x ∈ q) (k : lowL q) : lowL p := lowL_iff.mpr fun x hx => lowL_iff.mp k x (h x hx)
theorem okL_sub {p q : Plan} {n : Int} (h : ∀ x ∈ p, x ∈ q) (k : okL n q) : okL n p := okL_iff.mpr fun x hx => okL_iff.mp k x (h x hx)
theorem nestL_sub {p q : Plan} (h : ∀ x ∈ p, x ∈ q) : nestL p ≤ nestL q := nestL_le.mpr fun x hx => nestL_mem (h x hx)
theorem SmL.sub {p q : Plan} (h : p.Sublist q) (k : SmL q) : SmL p := by
  have hp : posL p := posL_sub (fun x hx => h.subset hx) k.pos
  have e := sizeL_nn p hp
  exact ⟨hp, k.sm.le e (sizeL_sub h k.pos), Nat.le_trans (itemsL_sub h) k.it⟩
theorem sub_out (p : Plan) (i : Nat) : (p.take i ++ p.drop (i + 1)).Sublist p := by
  rw [← List.eraseIdx_eq_take_drop_succ]
  exact List.eraseIdx_sublist _ _
/-! joining -/
theorem joinStep_cases (A : Plan) (x : Int × Part) : joinStep A x = A ++ [x] ∨ ∃ B y, A = B ++ [y] ∧ y.2 = x.2 ∧ joinStep A x = B ++ [(y.1 + x.1, x.2)] := by
  rcases List.eq_nil_or_concat A with e | ⟨B, y, e⟩
  · subst e
    exact .inl (joinStep_nil x)
  · rw [List.concat_eq_append] at e
    subst e
    rw [joinStep_snoc]
    by_cases z : y.2 = x.2
    · exact .inr ⟨B, y, rfl, z, if_pos z⟩
    · exact .inl (if_neg z)
theorem sizeL_one (x : Int × Part) : sizeL [x] = x.1 * sizeP x.2 := by
  rw [sizeL_cons]
  simp [sizeL]
theorem joinStep_size (A : Plan) (x : Int × Part) : sizeL (joinStep A x) = sizeL A + x.1 * sizeP x.2 := by
  rcases joinStep_cases A x with e | ⟨B, y, e1, e2, e⟩
  · rw [e, sizeL_append, sizeL_one]
  · rw [e, e1, sizeL_append, sizeL_append, sizeL_one, sizeL_one]
    simp only [e2, Int.add_mul]
    omega
theorem join_size : ∀ (p A : Plan), sizeL (p.foldl joinStep A) = sizeL A + sizeL p
  | [], A => by simp [sizeL]
  | x :: r, A => by rw [List.foldl_cons, join_size r, joinStep_size, sizeL_cons]; omega
theorem joinStep_items (A : Plan) (x : Int × Part) : itemsL (joinStep A x) ≤ itemsL A + 1 + itemsP x.2 := by
  have one : ∀ y : Int × Part, itemsL [y] = 1 + itemsP y.2 := fun y => by rw [itemsL_cons]; simp [itemsL]
  rcases joinStep_cases A x with e | ⟨B, y, e1, e2, e⟩
  · rw [e, itemsL_append, one]; omega
  · rw [e, e1, itemsL_append, itemsL_append, one, one]
    simp only [e2]
    omega
theorem join_items : ∀ (p A : Plan), itemsL (p.foldl joinStep A) ≤ itemsL A + itemsL p
  | [], A => by simp [itemsL]
  | x :: r, A => by
    have h1 := join_items r (joinStep A x)
    have h2 := joinStep_items A x
    rw [List.foldl_cons, itemsL_cons]
    omega
/-- what holds of all items of p and is kept when counts are added holds of what is joined -/
theorem join_all {Q : Int × Part → Prop} (hq : ∀ a b : Int × Part, Q a → Q b → a.2 = b.2 → Q (a.1 + b.1, b.2)) : ∀ (p A : Plan), (∀ x ∈ A, Q x) → (∀ x ∈ p, Q x) → ∀ x ∈ p.foldl joinStep A, Q x
  | [], A, h, _ => h
  | y :: r, A, h, k => by
    refine join_all hq r (joinStep A y) (fun x hx => ?_) fun x hx => k x (List.mem_cons_of_mem _ hx)
    have ky := k y List.mem_cons_self
    rcases joinStep_cases A y with e | ⟨B, z, e1, e2, e⟩
    · rw [e] at hx
      rcases List.mem_append.mp hx with w | w
      · exact h x w
      · rw [List.mem_singleton.mp w]
        exact ky
    · rw [e] at hx
      rw [e1] at h
      rcases List.mem_append.mp hx with w | w
      · exact h x (List.mem_append_left _ w)
      · rw [List.mem_singleton.mp w]
        exact hq z y (h z (List.mem_append_right _ (by simp))) ky e2
theorem sortItems_all {Q : Int × Part → Prop} (hq : ∀ a b : Int × Part, Q a → Q b → a.2 = b.2 → Q (a.1 + b.1, b.2)) {p : Plan} (h : ∀ x ∈ p, Q x) : ∀ x ∈ sortItems p, Q x :=
  join_all hq _ [] (fun _ z => by cases z) fun x hx => h x ((List.mergeSort_perm p leP).mem_iff.mp hx)
theorem sortItems_size (p : Plan) : sizeL (sortItems p) = sizeL p := by
  unfold sortItems join
  rw [join_size, sizeL_perm (List.mergeSort_perm p leP)]
  simp [sizeL]
theorem sortItems_items (p : Plan) : itemsL (sortItems p) ≤ itemsL p := by
  have h := join_items (p.mergeSort leP) []
  rw [itemsL_perm (List.mergeSort_perm p leP)] at h
  unfold sortItems join
  simp only [itemsL] at h
  omega
theorem sortItems_pos {p : Plan} (h : posL p) : posL (sortItems p) := posL_iff.mpr (sortItems_all (Q := fun x => 1 ≤ x.1 ∧ posP x.2) (fun a b ha hb e => ⟨by have := ha.1; have := hb.1; show 1 ≤ a.1 + b.1; omega, hb.2⟩) (posL_iff.mp h))
theorem sortItems_ok {p : Plan} {n : Int} (h : okL n p) : okL n (sortItems p) := okL_iff.mpr (sortItems_all (Q := fun x => 1 ≤ x.1 ∧ okP n x.2) (fun a b ha hb e => ⟨by have := ha.1; have := hb.1; show 1 ≤ a.1 + b.1; omega, hb.2⟩) (okL_iff.mp h))
theorem sortItems_low {p : Plan} (h : lowL p) : lowL (sortItems p) := lowL_iff.mpr (sortItems_all (Q := fun x => lowP x.2) (fun a b ha hb e => hb) (lowL_iff.mp h))
theorem sortItems_nest (p : Plan) : nestL (sortItems p) ≤ nestL p := nestL_le.mpr (sortItems_all (Q := fun x => nestP x.2 ≤ nestL p) (fun a b ha hb e => hb) fun x hx => nestL_mem hx)
/-! folding -/
theorem foldAt_some {d : Nat} : ∀ {post pre : Plan} {c : Int} {r : Plan}, foldAt d pre post = some (c, r) → ∃ a m b, pre ++ post = a ++ (m, .nest true d (raiseL 1 1 r)) :: b ∧ r = a ++ b ∧ c = m + 1
  | [], pre, c, r, h => by simp [foldAt] at h
  | (m, p) :: post, pre, c, r, h => by
    simp only [foldAt] at h
    split at h
    · rename_i e
      simp only [Option.some.injEq, Prod.mk.injEq] at h
      obtain ⟨h1, h2⟩ := h
      exact ⟨pre, m, post, by rw [e, h2], h2.symm, h1.symm⟩
    · obtain ⟨a, m', b, h1, h2, h3⟩ := foldAt_some h
      exact ⟨a, m', b, by rw [← h1]; simp, h2, h3⟩
theorem fold_cases (d : Nat) (b : Plan) : (foldAt d [] b = none ∧ fold d b = (1, b)) ∨ ∃ pre m post, b = pre ++ (m, .nest true d (raiseL 1 1 (pre ++ post))) :: post ∧ fold d b = (m + 1, pre ++ post) := by
  cases h : foldAt d [] b with
  | none =>
    refine .inl ⟨rfl, ?_⟩
    unfold fold
    rw [h]
    rfl
  | some x =>
    obtain ⟨c, r⟩ := x
    obtain ⟨a, m, e, h1, h2, h3⟩ := foldAt_some h
    refine .inr ⟨a, m, e, by rw [h2] at h1; simpa using h1, ?_⟩
    unfold fold
    rw [h, h2, h3]
    rfl
theorem fold_sub (d : Nat) (b : Plan) : (fold d b).2.Sublist b := by
  rcases fold_cases d b with ⟨_, e⟩ | ⟨pre, m, post, e1, e2⟩
  · rw [e]
    exact List.Sublist.refl _
  · rw [e2]
    conv => rhs; rw [e1]
    exact List.Sublist.append (List.Sublist.refl _) (List.sublist_cons_self _ _)
theorem fold_size (d : Nat) (b : Plan) : (fold d b).1 * (1 + sizeL (fold d b).2) = 1 + sizeL b := by
  rcases fold_cases d b with ⟨_, e⟩ | ⟨pre, m, post, e1, e2⟩
  · rw [e]
    simp
  · rw [e2]
    have : sizeL b = sizeL (pre ++ post) + m * (1 + sizeL (pre ++ post)) := by
      conv => lhs; rw [e1]
      rw [sizeL_append, sizeL_cons, sizeL_append]
      simp only [sizeP, raiseL_size, sizeL_append]
      omega
    rw [this]
    simp only [Int.add_mul, Int.one_mul]
    omega
theorem fold_pos {d : Nat} {b : Plan} (h : posL b) : 1 ≤ (fold d b).1 := by
  rcases fold_cases d b with ⟨_, e⟩ | ⟨pre, m, post, e1, e2⟩
  · rw [e]
    exact Int.le_refl _
  · rw [e2]
    have := (posL_iff.mp h (m, .nest true d (raiseL 1 1 (pre ++ post))) (by rw [e1]; simp)).1
    show 1 ≤ m + 1
    have : 1 ≤ m := this
    omega
/-! plain -/
mutual
theorem plainP_pos : ∀ p : Part, posP p → 1 ≤ (plainP p).1 ∧ posP (plainP p).2
  | .name w, _ => by simp [plainP, posP]
  | .got i, _ => by simp [plainP, posP]
  | .nest k d b, h => by
    simp only [posP] at h
    have h2 := sortItems_pos (plainI_pos b h)
    cases k
    · exact ⟨by simp [plainP], by simpa [plainP, posP] using h2⟩
    · refine ⟨by simpa [plainP] using fold_pos (d := d) h2, ?_⟩
      simp only [plainP, posP]
      exact posL_sub (fun x hx => (fold_sub d _).subset hx) h2
theorem plainI_pos : ∀ p : Plan, posL p → posL (plainI p)
  | [], _ => by simp [plainI, posL]
  | (c, q) :: r, h => by
    simp only [posL] at h
    have h1 := plainP_pos q h.2.1
    simp only [plainI, posL]
    refine ⟨?_, h1.2, plainI_pos r h.2.2⟩
    have : 1 * 1 ≤ c * (plainP q).1 := Int.mul_le_mul h.1 h1.1 (by omega) (by omega)
    omega
end
mutual
theorem plainP_size : ∀ p : Part, (plainP p).1 * sizeP (plainP p).2 = sizeP p
  | .name w => by simp [plainP]
  | .got i => by simp [plainP]
  | .nest k d b => by
    have h := plainI_size b
    cases k
    · simp [plainP, sizeP, sortItems_size, h]
    · simp only [plainP, sizeP, fold_size, sortItems_size, h]
theorem plainI_size : ∀ p : Plan, sizeL (plainI p) = sizeL p
  | [] => by simp [plainI]
  | (c, q) :: r => by
    have h := plainP_size q
    simp only [plainI, sizeL, plainI_size r, Int.mul_assoc, h]
end
theorem plain_size (p : Plan) : sizeL (plain p) = sizeL p := by
  unfold plain
  rw [sortItems_size, plainI_size]
mutual
theorem plainP_items : ∀ p : Part, itemsP (plainP p).2 ≤ itemsP p
  | .name w => by simp [plainP]
  | .got i => by simp [plainP]
  | .nest k d b => by
    have h := plainI_items b
    have h2 := sortItems_items (plainI b)
    cases k
    · simp only [plainP, itemsP]
      omega
    · have h3 := itemsL_sub (fold_sub d (sortItems (plainI b)))
      simp only [plainP, itemsP]
      omega
theorem plainI_items : ∀ p : Plan, itemsL (plainI p) ≤ itemsL p
  | [] => by simp [plainI]
  | (c, q) :: r => by
    have h := plainP_items q
    have h2 := plainI_items r
    simp only [plainI, itemsL]
    omega
end
mutual
theorem plainP_nest : ∀ p : Part, nestP (plainP p).2 ≤ nestP p
  | .name w => by simp [plainP]
  | .got i => by simp [plainP]
  | .nest k d b => by
    have h := plainI_nest b
    have h2 := sortItems_nest (plainI b)
    cases k
    · simp only [plainP, nestP]
      omega
    · have h3 := nestL_sub (fun x hx => (fold_sub d (sortItems (plainI b))).subset hx)
      simp only [plainP, nestP]
      omega
theorem plainI_nest : ∀ p : Plan, nestL (plainI p) ≤ nestL p
  | [] => by simp [plainI]
  | (c, q) :: r => by
    have h := plainP_nest q
    have h2 := plainI_nest r
    simp only [plainI, nestL]
    omega
end
mutual
theorem plainP_ok : ∀ (p : Part) (n : Int), okP n p → posP p → okP n (plainP p).2
  | .name w, n, h, _ => by simpa [plainP] using h
  | .got i, n, h, _ => by simpa [plainP] using h
  | .nest k d b, n, h, hp => by
    simp only [okP] at h
    simp only [posP] at hp
    have h2 := sortItems_ok (plainI_ok b _ h.2 hp)
    cases k
    · simp only [plainP, okP]
      exact ⟨h.1, by simpa using h2⟩
    · simp only [plainP, okP]
      exact ⟨h.1, okL_sub (fun x hx => (fold_sub d _).subset hx) (by simpa using h2)⟩
theorem plainI_ok : ∀ (p : Plan) (n : Int), okL n p → posL p → okL n (plainI p)
  | [], _, _, _ => by simp [plainI, okL]
  | (c, q) :: r, n, h, hp => by
    simp only [okL] at h
    simp only [posL] at hp
    have h1 := plainP_pos q hp.2.1
    simp only [plainI, okL]
    refine ⟨?_, plainP_ok q n h.2.1 hp.2.1, plainI_ok r n h.2.2 hp.2.2⟩
    have : 1 * 1 ≤ c * (plainP q).1 := Int.mul_le_mul h.1 h1.1 (by omega) (by omega)
    omega
end
mutual
theorem plainP_low : ∀ (p : Part), lowP p → lowP (plainP p).2
  | .name w, h => by simpa [plainP] using h
  | .got i, h => by simpa [plainP] using h
  | .nest k d b, h => by
    simp only [lowP] at h
    have h2 := sortItems_low (plainI_low b h.2)
    cases k
    · simp only [plainP, lowP]
      exact ⟨h.1, h2⟩
    · simp only [plainP, lowP]
      exact ⟨h.1, lowL_sub (fun x hx => (fold_sub d _).subset hx) h2⟩
theorem plainI_low : ∀ (p : Plan), lowL p → lowL (plainI p)
  | [], _ => by simp [plainI, lowL]
  | (c, q) :: r, h => by
    simp only [lowL] at h
    simp only [plainI, lowL]
    exact ⟨plainP_low q h.1, plainI_low r h.2⟩
end
theorem SmL.plainI {p : Plan} (h : SmL p) : SmL (plainI p) := ⟨plainI_pos p h.pos, by rw [plainI_size]; exact h.sm, Nat.le_trans (plainI_items p) h.it⟩
theorem SmL.sorted {p : Plan} (h : SmL p) : SmL (sortItems p) := ⟨sortItems_pos h.pos, by rw [sortItems_size]; exact h.sm, Nat.le_trans (sortItems_items p) h.it⟩
theorem SmL.plain {p : Plan} (h : SmL p) : SmL (plain p) := h.plainI.sorted
theorem plain_ok {p : Plan} {n : Int} (h : okL n p) : okL n (plain p) := sortItems_ok (plainI_ok p n h (okL_pos p n h))
theorem plain_low {p : Plan} (h : lowL p) : lowL (plain p) := sortItems_low (plainI_low p h)
theorem plain_nest (p : Plan) : nestL (plain p) ≤ nestL p := Nat.le_trans (sortItems_nest _) (plainI_nest p)
theorem plain_items (p : Plan) : itemsL (plain p) ≤ itemsL p := Nat.le_trans (sortItems_items _) (plainI_items p)
end G
set_option Elab.async false
set_option linter.all false
set_option maxRecDepth 100000
set_option maxHeartbeats 1000000
/-! meetings, by mathematics -/
namespace G
open PySem
theorem sm_small {i : Int} (h : i.natAbs ≤ 1000000000000) : Sm i := by
  show i.natAbs.log2 < 50000000
  by_cases z : i.natAbs = 0
  · rw [z]; decide
  · have h2 : 2 ^ i.natAbs.log2 ≤ i.natAbs := Nat.log2_self_le z
    have h3 : 2 ^ i.natAbs.log2 < 2 ^ 40 := by
      refine Nat.lt_of_le_of_lt (Nat.le_trans h2 h) ?_
      decide
    have := (Nat.pow_lt_pow_iff_right (a := 2) (by decide)).mp h3
    omega
abbrev encPair (x : Part × Part) : D := .tuple [encP x.1, encP x.2]
noncomputable def wasO (q : Part) (x : Int × Part) : Option (Int × Part) := if x.2 = q then (if 1 < x.1 then some (x.1 - 1, x.2) else none) else some x
theorem without_eq (p : Plan) (q : Part) : without p q = p.filterMap (wasO q) := rfl
theorem without_mem {p : Plan} {q : Part} {x : Int × Part} (h : x ∈ without p q) : ∃ y ∈ p, y.2 = x.2 ∧ x.1 ≤ y.1 ∧ (1 ≤ y.1 → 1 ≤ x.1) := by
  rw [without_eq] at h
  obtain ⟨y, hy, e⟩ := List.mem_filterMap.mp h
  refine ⟨y, hy, ?_⟩
  unfold wasO at e
  split at e
  · split at e
    · have e' := Option.some.inj e
      rw [← e']
      refine ⟨rfl, by simp only []; omega, fun _ => by simp only []; omega⟩
    · cases e
  · have e' := Option.some.inj e
    rw [e']
    exact ⟨rfl, Int.le_refl _, id⟩
theorem without_ok {p : Plan} {q : Part} {n : Int} (h : okL n p) : okL n (without p q) := okL_iff.mpr fun x hx => by
  obtain ⟨y, hy, e1, e2, e3⟩ := without_mem hx
  have := okL_iff.mp h y hy
  rw [← e1]
  exact ⟨e3 this.1, this.2⟩
theorem without_pos {p : Plan} {q : Part} (h : posL p) : posL (without p q) := posL_iff.mpr fun x hx => by
  obtain ⟨y, hy, e1, e2, e3⟩ := without_mem hx
  have := posL_iff.mp h y hy
  rw [← e1]
  exact ⟨e3 this.1, this.2⟩
theorem without_low {p : Plan} {q : Part} (h : lowL p) : lowL (without p q) := lowL_iff.mpr fun x hx => by
  obtain ⟨y, hy, e1, e2, e3⟩ := without_mem hx
  rw [← e1]
  exact lowL_iff.mp h y hy
theorem without_nest (p : Plan) (q : Part) : nestL (without p q) ≤ nestL p := nestL_le.mpr fun x hx => by
  obtain ⟨y, hy, e1, e2, e3⟩ := without_mem hx
  rw [← e1]
  exact nestL_mem hy
theorem without_cons (x : Int × Part) (r : Plan) (q : Part) : without (x :: r) q = (match wasO q x with | some y => [y] | none => []) ++ without r q := by
  rw [without_eq, without_eq, List.filterMap_cons]
  cases wasO q x <;> rfl
theorem without_items : ∀ (p : Plan) (q : Part), itemsL (without p q) ≤ itemsL p
  | [], q => by simp [without]
  | x :: r, q => by
    have h := without_items r q
    rw [without_cons, itemsL_append, itemsL_cons]
    have : itemsL (match wasO q x with | some y => [y] | none => []) ≤ 1 + itemsP x.2 := by
      unfold wasO
      split
      · rename_i y e
        rw [itemsL_cons]
        have : y.2 = x.2 := by
          split at e
          · split at e
            · rw [← Option.some.inj e]
            · cases e
          · rw [← Option.some.inj e]
        rw [this]
        simp [itemsL]
      · simp [itemsL]
    omega
theorem without_size : ∀ (p : Plan) (q : Part), posL p → sizeL (without p q) ≤ sizeL p
  | [], q, _ => by simp [without]
  | x :: r, q, hp => by
    have z := posL_iff.mp hp
    have hx := z x List.mem_cons_self
    have h := without_size r q (posL_iff.mpr fun y hy => z y (List.mem_cons_of_mem _ hy))
    have hs := sizeP_pos _ hx.2
    rw [without_cons, sizeL_append, sizeL_cons]
    have : sizeL (match wasO q x with | some y => [y] | none => []) ≤ x.1 * sizeP x.2 := by
      have nn : 0 ≤ x.1 * sizeP x.2 := Int.mul_nonneg (by omega) (by omega)
      unfold wasO
      split
      · rename_i y e
        rw [sizeL_one]
        split at e
        · split at e
          · rw [← Option.some.inj e]
            simp only [Int.sub_mul]
            omega
          · cases e
        · rw [← Option.some.inj e]
          exact Int.le_refl _
      · simpa [sizeL] using nn
    omega
theorem SmL.without {p : Plan} (h : SmL p) (q : Part) : SmL (without p q) :=
  ⟨without_pos h.pos, h.sm.le (sizeL_nn _ (without_pos h.pos)) (without_size p q h.pos), Nat.le_trans (without_items p q) h.it⟩
/-! meetings -/
def waitsFor (x y : Int × Part) : Option (Part × Part) := if meets x.2 y.2 then some (x.2, y.2) else none
theorem pairs_filter (x : Int × Part) (p : Plan) : (p.filter fun y => meets x.2 y.2).map (fun y => (x.2, y.2)) = p.filterMap (waitsFor x) := by
  induction p with
  | nil => rfl
  | cons y r ih =>
    rw [List.filter_cons, List.filterMap_cons]
    unfold waitsFor
    by_cases z : meets x.2 y.2 = true
    · rw [if_pos z, if_pos z, List.map_cons, ih]
      rfl
    · rw [if_neg z, if_neg z, ih]
      rfl
/-- the pairs of the first i items with all -/
def pairsTo (p q : Plan) : List (Part × Part) := q.flatMap fun x => p.filterMap (waitsFor x)
theorem pairsOf_to (p : Plan) : pairsOf p = pairsTo p p := by
  unfold pairsOf pairsTo
  congr 1
  funext x
  exact pairs_filter x p
theorem pairsTo_snoc (p q : Plan) (x : Int × Part) : pairsTo p (q ++ [x]) = pairsTo p q ++ p.filterMap (waitsFor x) := by simp [pairsTo]
theorem pairsTo_len : ∀ p q : Plan, (pairsTo p q).length ≤ q.length * p.length
  | p, [] => by simp [pairsTo]
  | p, x :: r => by
    have h := pairsTo_len p r
    have h2 := List.length_filterMap_le (waitsFor x) p
    unfold pairsTo at h ⊢
    rw [List.flatMap_cons, List.length_append, List.length_cons, Nat.succ_mul]
    omega
theorem pairsOf_mem {p : Plan} {m : Part × Part} (h : m ∈ pairsOf p) : ∃ d b1 b2, m = (.nest false d b1, .nest true d b2) ∧ (∃ c, (c, m.1) ∈ p) ∧ ∃ c, (c, m.2) ∈ p := by
  rw [pairsOf_to] at h
  obtain ⟨x, hx, h2⟩ := List.mem_flatMap.mp h
  obtain ⟨y, hy, e⟩ := List.mem_filterMap.mp h2
  unfold waitsFor at e
  split at e
  · rename_i z
    have e' := Option.some.inj e
    obtain ⟨c1, q1⟩ := x
    obtain ⟨c2, q2⟩ := y
    subst e'
    simp only at z ⊢
    cases q1 with
    | nest k1 d1 b1 =>
      cases k1 with
      | true => simp [meets] at z
      | false =>
        cases q2 with
        | nest k2 d2 b2 =>
          cases k2 with
          | false => simp [meets] at z
          | true =>
            have : d1 = d2 := by simpa [meets] using z
            subst this
            exact ⟨d1, b1, b2, rfl, ⟨c1, hx⟩, ⟨c2, hy⟩⟩
        | _ => simp [meets] at z
    | _ => simp [meets] at z
  · cases e
theorem pair_inj {x y : Part × Part} : encPair x = encPair y ↔ x = y := by
  constructor
  · intro h
    simp only [encPair, PyData.tuple.injEq, List.cons.injEq, and_true] at h
    obtain ⟨a, b⟩ := x
    obtain ⟨c, d⟩ := y
    have h1 : a = c := encP_inj _ _ h.1
    have h2 : b = d := encP_inj _ _ h.2
    rw [h1, h2]
  · intro h
    rw [h]
theorem eqv_pair (x y : Part × Part) : PyData.eqv (encPair x) (encPair y) = decide (x = y) := by
  rw [Bool.eq_iff_iff, eqv_eq _ _ (by simp [encPair, noB, noBs, noB_encP]) (by simp [encPair, noB, noBs, noB_encP]), decide_eq_true_eq, pair_inj]
/-! what is brought -/
mutual
theorem bring_itemsP (o : Plan) : ∀ (n : Int) (p : Part), (itemsL (mapP (bringA o) n p) : Int) = 1 + itemsP p + gotsQ n p * (itemsL o - 1)
  | n, .name w => by simp [mapP, bringA, itemsL, itemsP, gotsQ]
  | n, .got i => by
    simp only [mapP, bringA, gotsQ]
    by_cases h : i = n
    · simp only [if_pos h, raiseL_items, itemsP]
      omega
    · simp only [if_neg h]
      split <;> simp [itemsL, itemsP]
  | n, .nest k d b => by
    have h := bring_itemsL o (if k then n + 1 else n) b
    simp only [mapP, itemsL, itemsP, gotsQ]
    omega
theorem bring_itemsL (o : Plan) : ∀ (n : Int) (p : Plan), (itemsL (mapL (bringA o) n p) : Int) = itemsL p + gotsL n p * (itemsL o - 1)
  | n, [] => by simp [mapL, itemsL, gotsL]
  | n, (c, p) :: r => by
    have h1 := bring_itemsP o n p
    have h2 := bring_itemsL o n r
    simp only [mapL, itemsL_append, itemsL_scale, itemsL, gotsL, Int.add_mul]
    omega
end
theorem gots_nn : ∀ (p : Plan) (n : Int), 0 ≤ gotsL n p ∧ gotsL n p ≤ itemsL p := fun p => (gots_both p)
where
  gots_part : ∀ (q : Part) (n : Int), 0 ≤ gotsQ n q ∧ gotsQ n q ≤ 1 + itemsP q
  | .name w, n => by simp [gotsQ, itemsP]
  | .got i, n => by
    simp only [gotsQ, itemsP]
    split <;> omega
  | .nest k d b, n => by
    have := gots_both b (if k then n + 1 else n)
    simp only [gotsQ, itemsP]
    omega
  gots_both : ∀ (p : Plan) (n : Int), 0 ≤ gotsL n p ∧ gotsL n p ≤ itemsL p
  | [], n => by simp [gotsL, itemsL]
  | (c, q) :: r, n => by
    have h1 := gots_part q n
    have h2 := gots_both r n
    simp only [gotsL, itemsL]
    omega
end G
set_option Elab.async false
set_option linter.all false
set_option maxRecDepth 100000
set_option maxHeartbeats 1000000
/-! sorted items are distinct; closed plans stay when raised -/
namespace G
open PySem
def Inc (p : Plan) : Prop := p.Pairwise fun x y => ltP x.2 y.2 = true
theorem join_inc : ∀ (r A : Plan), Inc A → r.Pairwise (fun x y => leP x y = true) → (∀ y ∈ A, ∀ x ∈ r, leP y x = true) → Inc (r.foldl joinStep A)
  | [], A, h, _, _ => h
  | x :: r, A, h, hr, hl => by
    rw [List.pairwise_cons] at hr
    rw [List.foldl_cons]
    rcases joinStep_cases A x with e | ⟨B, y, e1, e2, e⟩
    · -- x is put behind
      rw [e]
      by_cases hd : ∀ y ∈ A, y.2 ≠ x.2
      · refine join_inc r _ ?_ hr.2 fun y hy z hz => ?_
        · unfold Inc
          rw [List.pairwise_append]
          refine ⟨h, by simp, fun a ha b hb => ?_⟩
          rw [List.mem_singleton.mp hb]
          rcases leP_iff.mp (hl a ha x List.mem_cons_self) with q | q
          · exact absurd q (hd a ha)
          · exact q
        · rcases List.mem_append.mp hy with w | w
          · exact hl y w z (List.mem_cons_of_mem _ hz)
          · rw [List.mem_singleton.mp w]
            exact hr.1 z hz
      · exfalso
        -- the last of A is the greatest: it would be x's part
        rcases List.eq_nil_or_concat A with e0 | ⟨B, y, e0⟩
        · subst e0
          exact hd (fun y hy => by cases hy)
        · rw [List.concat_eq_append] at e0
          subst e0
          rw [joinStep_snoc] at e
          by_cases q : y.2 = x.2
          · rw [if_pos q] at e
            have := congrArg List.length e
            simp at this
          · refine hd fun z hz => ?_
            rcases List.mem_append.mp hz with w | w
            · intro e3
              unfold Inc at h
              rw [List.pairwise_append] at h
              have h1 := h.2.2 z w y (by simp)
              rcases leP_iff.mp (hl y (List.mem_append_right _ (by simp)) x List.mem_cons_self) with v | v
              · exact q v
              · have := ltP_trans h1 v
                rw [e3, ltP_irrefl] at this
                cases this
            · rw [List.mem_singleton.mp w]
              exact q
    · rw [e]
      subst e1
      unfold Inc at h
      rw [List.pairwise_append] at h
      refine join_inc r _ ?_ hr.2 fun z hz w hw => ?_
      · unfold Inc
        rw [List.pairwise_append]
        refine ⟨h.1, by simp, fun a ha b hb => ?_⟩
        rw [List.mem_singleton.mp hb]
        have := h.2.2 a ha y (by simp)
        rw [e2] at this
        exact this
      · rcases List.mem_append.mp hz with v | v
        · exact hl z (List.mem_append_left _ v) w (List.mem_cons_of_mem _ hw)
        · rw [List.mem_singleton.mp v]
          have := hr.1 w hw
          rw [leP_iff] at this ⊢
          exact this
theorem sortItems_inc (p : Plan) : Inc (sortItems p) := by
  unfold sortItems join
  refine join_inc _ [] .nil ?_ (fun y hy => by cases hy)
  exact List.pairwise_mergeSort leP_trans leP_total p
theorem Inc.ne {p : Plan} (h : Inc p) {i j : Nat} {x y : Int × Part} (hi : p[i]? = some x) (hj : p[j]? = some y) (e : x.2 = y.2) : i = j := by
  have key : ∀ {i j : Nat} {x y : Int × Part}, p[i]? = some x → p[j]? = some y → i < j → ltP x.2 y.2 = true := fun {i j x y} hi hj hl => by
    obtain ⟨a, ea⟩ := List.getElem?_eq_some_iff.mp hi
    obtain ⟨b, eb⟩ := List.getElem?_eq_some_iff.mp hj
    have := List.pairwise_iff_getElem.mp h i j a b hl
    rw [ea, eb] at this
    exact this
  rcases Nat.lt_trichotomy i j with q | q | q
  · have := key hi hj q
    rw [e, ltP_irrefl] at this
    cases this
  · exact q
  · have := key hj hi q
    rw [e, ltP_irrefl] at this
    cases this
/-- the items of other parts -/
noncomputable def others (p : Plan) (q : Part) : Plan := p.filter fun x => decide (x.2 ≠ q)
theorem others_inc {p : Plan} (h : Inc p) {i : Nat} {x : Int × Part} (hi : p[i]? = some x) : others p x.2 = p.take i ++ p.drop (i + 1) := by
  have hl : i < p.length := (List.getElem?_eq_some_iff.mp hi).1
  have ex : p[i] = x := (List.getElem?_eq_some_iff.mp hi).2
  have e : p = p.take i ++ (x :: p.drop (i + 1)) := by
    conv => lhs; rw [← List.take_append_drop i p, List.drop_eq_getElem_cons hl, ex]
  have g1 : ∀ y ∈ p.take i, decide (y.2 ≠ x.2) = true := fun y hy => by
    obtain ⟨j, hj⟩ := List.mem_iff_getElem?.mp hy
    rw [List.getElem?_take] at hj
    split at hj
    · rename_i z
      refine decide_eq_true fun e => ?_
      have := h.ne hj hi e
      omega
    · cases hj
  have g2 : ∀ y ∈ p.drop (i + 1), decide (y.2 ≠ x.2) = true := fun y hy => by
    obtain ⟨j, hj⟩ := List.mem_iff_getElem?.mp hy
    rw [List.getElem?_drop] at hj
    refine decide_eq_true fun e => ?_
    have := h.ne hj hi e
    omega
  unfold others
  conv => lhs; rw [e]
  rw [List.filter_append, List.filter_cons]
  have g3 : decide (x.2 ≠ x.2) = false := by simp
  rw [g3, List.filter_eq_self.mpr g1, List.filter_eq_self.mpr g2]
  rfl
theorem plain_inc (p : Plan) : Inc (plain p) := sortItems_inc _
/-! closed plans -/
mutual
theorem raise_closedP (u : Int) : ∀ (p : Part) (l : Int), okP l p → raiseP u l p = p
  | .name w, l, _ => by simp [raiseP]
  | .got i, l, h => by
    simp only [okP] at h
    simp only [raiseP, if_neg (show ¬ l ≤ i by omega)]
  | .nest k d b, l, h => by
    simp only [okP] at h
    simp only [raiseP, raise_closedL u b _ h.2]
theorem raise_closedL (u : Int) : ∀ (p : Plan) (l : Int), okL l p → raiseL u l p = p
  | [], _, _ => by simp [raiseL]
  | (c, p) :: r, l, h => by
    simp only [okL] at h
    simp only [raiseL, raise_closedP u p l h.2.1, raise_closedL u r l h.2.2]
end
mutual
theorem okP_mono : ∀ (p : Part) {m n : Int}, m ≤ n → okP m p → okP n p
  | .name w, _, _, _, h => by simpa [okP] using h
  | .got i, _, _, hl, h => by
    simp only [okP] at h ⊢
    omega
  | .nest k d b, m, n, hl, h => by
    simp only [okP] at h ⊢
    refine ⟨h.1, okL_mono b ?_ h.2⟩
    cases k
    · simpa using hl
    · simp only [if_true]
      omega
theorem okL_mono : ∀ (p : Plan) {m n : Int}, m ≤ n → okL m p → okL n p
  | [], _, _, _, _ => by simp [okL]
  | (c, p) :: r, m, n, hl, h => by
    simp only [okL] at h ⊢
    exact ⟨h.1, okP_mono p hl h.2.1, okL_mono r hl h.2.2⟩
end
def bring0 (o : Plan) : Part → Int → Plan
  | .got i, n => if i = n then o else if n < i then [(1, .got (i - 1))] else [(1, .got i)]
  | p, _ => [(1, p)]
theorem bring0_eq {o : Plan} (h : okL 0 o) : bring0 o = bringA o := by
  funext q n
  cases q with
  | name w => rfl
  | nest k d b => rfl
  | got i => simp only [bring0, bringA, raise_closedL n o 0 h]
theorem okL_append {n : Int} {p q : Plan} (h1 : okL n p) (h2 : okL n q) : okL n (p ++ q) := okL_iff.mpr fun x hx => (List.mem_append.mp hx).elim (okL_iff.mp h1 x) (okL_iff.mp h2 x)
theorem okL_scale {n : Int} {c : Int} {p : Plan} (hc : 1 ≤ c) (h : okL n p) : okL n (scale c p) := okL_iff.mpr fun x hx => by
  unfold scale at hx
  obtain ⟨y, hy, rfl⟩ := List.mem_map.mp hx
  have := okL_iff.mp h y hy
  refine ⟨?_, this.2⟩
  have : 1 * 1 ≤ c * y.1 := Int.mul_le_mul hc this.1 (by omega) (by omega)
  show 1 ≤ c * y.1
  omega
mutual
theorem bring_okP {o : Plan} (ho : okL 0 o) : ∀ (p : Part) (n : Int), 0 ≤ n → okP (n + 1) p → okL n (mapP (bringA o) n p)
  | .name w, n, _, h => by
    simp only [okP] at h
    simpa [mapP, bringA, okL, okP] using h
  | .got i, n, hn, h => by
    simp only [okP] at h
    simp only [mapP, bringA]
    by_cases e : i = n
    · rw [if_pos e, raise_closedL n o 0 ho]
      exact okL_mono o hn ho
    · rw [if_neg e, if_neg (show ¬ n < i by omega)]
      simp only [okL, okP]
      exact ⟨by omega, by omega, trivial⟩
  | .nest k d b, n, hn, h => by
    simp only [okP] at h
    simp only [mapP, okL, okP]
    refine ⟨by omega, ⟨h.1, ?_⟩, trivial⟩
    cases k
    · simpa using bring_okL ho b n hn (by simpa using h.2)
    · simpa using bring_okL ho b (n + 1) (by omega) (by simpa using h.2)
theorem bring_okL {o : Plan} (ho : okL 0 o) : ∀ (p : Plan) (n : Int), 0 ≤ n → okL (n + 1) p → okL n (mapL (bringA o) n p)
  | [], _, _, _ => by simp [mapL, okL]
  | (c, p) :: r, n, hn, h => by
    simp only [okL] at h
    simp only [mapL]
    exact okL_append (okL_scale h.1 (bring_okP ho p n hn h.2.1)) (bring_okL ho r n hn h.2.2)
end
theorem rawOf_ok {p : Plan} {m : Part × Part} (h : okL 0 p) (hm : m ∈ pairsOf p) : okL 0 (rawOf p m) := by
  obtain ⟨d, b1, b2, rfl, ⟨c1, h1⟩, ⟨c2, h2⟩⟩ := pairsOf_mem hm
  have o1 := (okL_mem h h1).2
  have o2 := (okL_mem h h2).2
  simp only [okP] at o1 o2
  exact okL_append (without_ok (without_ok h)) (bring_okL (show okL 0 b1 by simpa using o1.2) b2 0 (Int.le_refl _) (by simpa using o2.2))
end G
set_option Elab.async false
set_option linter.all false
set_option maxRecDepth 100000
set_option maxHeartbeats 1000000
/-! the graph of what can be reached -/
namespace G
open PySem

def Succ (p q : Plan) : Prop := ∃ m, m ∈ pairsOf p ∧ q = metOf p m
structure Gr where
  forms : List Plan
  ways : List (List Nat)
  links : Rows
/-- the number of a form, laid at the end when it is new -/
def ReachG (G : Gr) (q : Plan) (w : List Nat) (G' : Gr) (n : Nat) : Prop :=
  (G.forms[n]? = some q ∧ G' = G) ∨ (q ∉ G.forms ∧ n = G.forms.length ∧ G' = { G with forms := G.forms ++ [q], ways := G.ways ++ [w] })
def wl (G : Gr) (i : Nat) : Nat := (G.ways.getD i []).length
structure BI (s : Plan) (G : Gr) : Prop where
  st : G.forms[0]? = some s
  nd : G.forms.Nodup
  wn : G.ways.length = G.forms.length
  w0 : wl G 0 = 0
  le : G.links.length ≤ G.forms.length
  lk : ∀ (i : Nat) (p : Plan) (r : List Nat), G.links[i]? = some r → G.forms[i]? = some p → r.length = (pairsOf p).length ∧ ∀ (k : Nat) (m : Part × Part), (pairsOf p)[k]? = some m → ∃ j, r[k]? = some j ∧ G.forms[j]? = some (metOf p m)
  wk : ∀ (i : Nat) (p : Plan), G.forms[i]? = some p → Wk Succ (wl G i) s p
  up : ∀ (i : Nat) (r : List Nat) (j : Nat), G.links[i]? = some r → j ∈ r → wl G j ≤ wl G i + 1
  mono : ∀ i j, i ≤ j → j < G.forms.length → wl G i ≤ wl G j
  top : G.links.length < G.forms.length → ∀ j, j < G.forms.length → wl G j ≤ wl G G.links.length + 1
theorem bi_start (s : Plan) : BI s ⟨[s], [[]], []⟩ where
  st := rfl
  nd := by simp
  wn := rfl
  w0 := rfl
  le := Nat.zero_le _
  lk := fun i p r h => by simp at h
  wk := fun i p h => by
    match i, h with
    | 0, h =>
      have : s = p := by simpa using h
      exact this
    | i + 1, h => simp at h
  up := fun i r j h => by simp at h
  mono := fun i j h1 h2 => by
    have : j = 0 := by simp at h2; exact h2
    obtain rfl : i = 0 := by omega
    rw [this]
    exact Nat.le_refl _
  top := fun _ j hj => by
    have : j = 0 := by simp at hj; exact hj
    rw [this]
    exact Nat.le_succ _
/-- on the way through the row of p, i pairs are done -/
structure BM (s p : Plan) (G : Gr) (row : List Nat) (i : Nat) : Prop where
  b : BI s G
  lt : G.links.length < G.forms.length
  at_ : G.forms[G.links.length]? = some p
  rl : row.length = i
  rk : ∀ (k : Nat) (m : Part × Part), k < i → (pairsOf p)[k]? = some m → ∃ j, row[k]? = some j ∧ G.forms[j]? = some (metOf p m)
  ru : ∀ j ∈ row, wl G j ≤ wl G G.links.length + 1
theorem bm_0 {s p : Plan} {G : Gr} (b : BI s G) (lt : G.links.length < G.forms.length) (h : G.forms[G.links.length]? = some p) : BM s p G [] 0 :=
  ⟨b, lt, h, rfl, fun k m hk => absurd hk (Nat.not_lt_zero _), fun j hj => by cases hj⟩
theorem get_snoc {α : Type} {L : List α} {x y : α} {i : Nat} (h : L[i]? = some y) : (L ++ [x])[i]? = some y := by
  rw [List.getElem?_append_left (List.getElem?_eq_some_iff.mp h).1]
  exact h
theorem wl_new {G G' : Gr} {w : List Nat} {i : Nat} (e : G'.ways = G.ways ++ [w]) (h : i < G.ways.length) : wl G' i = wl G i := by
  unfold wl
  rw [e, List.getD_eq_getElem?_getD, List.getD_eq_getElem?_getD, List.getElem?_append_left h]
theorem wl_last {G G' : Gr} {w : List Nat} (e : G'.ways = G.ways ++ [w]) : wl G' G.ways.length = w.length := by
  unfold wl
  rw [e, List.getD_eq_getElem?_getD, List.getElem?_append_right (Nat.le_refl _)]
  simp
theorem bm_reach {s p : Plan} {G G' : Gr} {row : List Nat} {i n : Nat} {m : Part × Part} {w : List Nat} (b : BM s p G row i) (hm : (pairsOf p)[i]? = some m) (hw : w.length = wl G G.links.length + 1) (h : ReachG G (metOf p m) w G' n) : BM s p G' (row ++ [n]) (i + 1) ∧ G'.links = G.links := by
  rcases h with ⟨h1, rfl⟩ | ⟨h1, rfl, rfl⟩
  · refine ⟨⟨b.b, b.lt, b.at_, by simp [b.rl], fun k m' hk hm' => ?_, fun j hj => ?_⟩, rfl⟩
    · by_cases z : k < i
      · obtain ⟨j, e1, e2⟩ := b.rk k m' z hm'
        exact ⟨j, get_snoc e1, e2⟩
      · obtain rfl : k = i := by omega
        rw [hm] at hm'
        cases hm'
        refine ⟨n, ?_, h1⟩
        rw [List.getElem?_append_right (by rw [b.rl]; exact Nat.le_refl _), b.rl]
        simp
    · rcases List.mem_append.mp hj with q | q
      · exact b.ru j q
      · have e : j = n := by simpa using q
        rw [e]
        exact b.b.top b.lt n (List.getElem?_eq_some_iff.mp h1).1
  · have wn := b.b.wn
    have hat := b.lt
    generalize eG : ({ G with forms := G.forms ++ [metOf p m], ways := G.ways ++ [w] } : Gr) = G2
    have ef : G2.forms = G.forms ++ [metOf p m] := by rw [← eG]
    have ew : G2.ways = G.ways ++ [w] := by rw [← eG]
    have el : G2.links = G.links := by rw [← eG]
    have old : ∀ i, i < G.forms.length → wl G2 i = wl G i := fun i hi => wl_new ew (by omega)
    have new : wl G2 G.forms.length = wl G G.links.length + 1 := by
      rw [← hw, ← wn]
      exact wl_last ew
    have lf : G2.forms.length = G.forms.length + 1 := by rw [ef]; simp
    have oldf : ∀ {i : Nat} {q : Plan}, G2.forms[i]? = some q → i < G.forms.length → G.forms[i]? = some q := fun {i q} hq hi => by
      rw [ef, List.getElem?_append_left hi] at hq
      exact hq
    have gf : ∀ {i : Nat} {q : Plan}, G.forms[i]? = some q → G2.forms[i]? = some q := fun h => by rw [ef]; exact get_snoc h
    have rowlt : ∀ (i : Nat) (r : List Nat) (j : Nat), G.links[i]? = some r → j ∈ r → j < G.forms.length := fun i r j hr hj => by
      have hi : i < G.forms.length := by
        have := (List.getElem?_eq_some_iff.mp hr).1
        omega
      obtain ⟨k1, k2⟩ := b.b.lk i _ r hr (List.getElem?_eq_getElem hi)
      obtain ⟨k, hk⟩ := List.getElem?_of_mem hj
      have hk' : k < (pairsOf G.forms[i]).length := by
        have := (List.getElem?_eq_some_iff.mp hk).1
        omega
      obtain ⟨j', e1, e2⟩ := k2 k _ (List.getElem?_eq_getElem hk')
      rw [hk] at e1
      cases e1
      exact (List.getElem?_eq_some_iff.mp e2).1
    refine ⟨⟨⟨gf b.b.st, ?_, by rw [ef, ew]; simp [wn], by rw [old 0 (by omega)]; exact b.b.w0, by rw [el, lf]; have := b.b.le; omega, fun i q r hr hq => ?_, fun i q hq => ?_, fun i r j hr hj => ?_, fun i j h2 h3 => ?_, fun _ j hj => ?_⟩, by rw [el, lf]; omega, by rw [el]; exact gf b.at_, by simp [b.rl], fun k m' hk hm' => ?_, fun j hj => ?_⟩, el⟩
    · rw [ef, List.nodup_append]
      exact ⟨b.b.nd, by simp, fun a ha c hc q => by simp at hc; rw [q, hc] at ha; exact h1 ha⟩
    · rw [el] at hr
      have hi : i < G.forms.length := by
        have := (List.getElem?_eq_some_iff.mp hr).1
        omega
      obtain ⟨k1, k2⟩ := b.b.lk i q r hr (oldf hq hi)
      exact ⟨k1, fun k m hm => let ⟨j, e1, e2⟩ := k2 k m hm; ⟨j, e1, gf e2⟩⟩
    · by_cases z : i < G.forms.length
      · rw [old i z]
        exact b.b.wk i q (oldf hq z)
      · have hi := (List.getElem?_eq_some_iff.mp hq).1
        obtain rfl : i = G.forms.length := by omega
        rw [new]
        have e : metOf p m = q := by
          rw [ef, List.getElem?_append_right (Nat.le_refl _)] at hq
          simpa using hq
        rw [← e]
        exact ⟨p, b.b.wk _ p b.at_, m, List.mem_of_getElem? hm, rfl⟩
    · rw [el] at hr
      have hi : i < G.forms.length := by
        have := (List.getElem?_eq_some_iff.mp hr).1
        omega
      rw [old i hi, old j (rowlt i r j hr hj)]
      exact b.b.up i r j hr hj
    · by_cases z : j < G.forms.length
      · rw [old i (by omega), old j z]
        exact b.b.mono i j h2 z
      · obtain rfl : j = G.forms.length := by omega
        rw [new]
        by_cases y : i < G.forms.length
        · rw [old i y]
          exact b.b.top hat i y
        · obtain rfl : i = G.forms.length := by omega
          rw [new]
          exact Nat.le_refl _
    · rw [el, old _ hat]
      by_cases z : j < G.forms.length
      · rw [old j z]
        exact b.b.top hat j z
      · obtain rfl : j = G.forms.length := by omega
        rw [new]
        exact Nat.le_refl _
    · by_cases z : k < i
      · obtain ⟨j, e1, e2⟩ := b.rk k m' z hm'
        exact ⟨j, get_snoc e1, gf e2⟩
      · obtain rfl : k = i := by omega
        rw [hm] at hm'
        cases hm'
        refine ⟨G.forms.length, ?_, ?_⟩
        · rw [List.getElem?_append_right (by rw [b.rl]; exact Nat.le_refl _), b.rl]
          simp
        · rw [ef, List.getElem?_append_right (Nat.le_refl _)]
          simp
    · rw [el, old _ hat]
      rcases List.mem_append.mp hj with q | q
      · have hl : j < G.forms.length := by
          obtain ⟨k, hk⟩ := List.getElem?_of_mem q
          have hk2 : k < i := by
            have := (List.getElem?_eq_some_iff.mp hk).1
            rw [b.rl] at this
            exact this
          have hi2 := (List.getElem?_eq_some_iff.mp hm).1
          obtain ⟨j', e1, e2⟩ := b.rk k _ hk2 (List.getElem?_eq_getElem (by omega))
          rw [hk] at e1
          cases e1
          exact (List.getElem?_eq_some_iff.mp e2).1
        rw [old j hl]
        exact b.ru j q
      · have e : j = G.forms.length := by simpa using q
        rw [e, new]
        exact Nat.le_refl _
theorem bm_done {s p : Plan} {G : Gr} {row : List Nat} (b : BM s p G row (pairsOf p).length) : BI s { G with links := G.links ++ [row] } := by
  have hat := b.lt
  refine ⟨b.b.st, b.b.nd, b.b.wn, b.b.w0, by simp; omega, fun i q r hr hq => ?_, b.b.wk, fun i r j hr hj => ?_, b.b.mono, fun h j hj => ?_⟩
  · have hr' : (G.links ++ [row])[i]? = some r := hr
    have hq' : G.forms[i]? = some q := hq
    by_cases z : i < G.links.length
    · rw [List.getElem?_append_left z] at hr'
      exact b.b.lk i q r hr' hq
    · have hi := (List.getElem?_eq_some_iff.mp hr').1
      obtain rfl : i = G.links.length := by simp at hi; omega
      rw [List.getElem?_append_right (Nat.le_refl _)] at hr'
      have e : row = r := by simpa using hr'
      have e2 : p = q := by
        have := b.at_
        rw [hq'] at this
        exact (Option.some.inj this).symm
      subst e e2
      exact ⟨b.rl, fun k m hm => b.rk k m (List.getElem?_eq_some_iff.mp hm).1 hm⟩
  · have hr' : (G.links ++ [row])[i]? = some r := hr
    by_cases z : i < G.links.length
    · rw [List.getElem?_append_left z] at hr'
      exact b.b.up i r j hr' hj
    · have hi := (List.getElem?_eq_some_iff.mp hr').1
      obtain rfl : i = G.links.length := by simp at hi; omega
      rw [List.getElem?_append_right (Nat.le_refl _)] at hr'
      have e : row = r := by simpa using hr'
      subst e
      exact b.ru j hj
  · have h' : G.links.length + 1 < G.forms.length := by simpa using h
    have e : ({ G with links := G.links ++ [row] } : Gr).links.length = G.links.length + 1 := by simp
    rw [e]
    have h1 := b.b.top hat j hj
    have h2 := b.b.mono G.links.length (G.links.length + 1) (by omega) h'
    have h3 : wl ({ G with links := G.links ++ [row] } : Gr) (G.links.length + 1) = wl G (G.links.length + 1) := rfl
    have h4 : wl ({ G with links := G.links ++ [row] } : Gr) j = wl G j := rfl
    rw [h3, h4]
    omega
end G
set_option Elab.async false
set_option linter.all false
set_option maxRecDepth 100000
set_option maxHeartbeats 1000000
/-! a plain form stays as it is -/
namespace G
open PySem
mutual
def PlP : Part → Prop
  | .nest k d b => Inc b ∧ PlL b ∧ (k = true → foldAt d [] b = none)
  | .name _ => True
  | .got _ => True
def PlL : Plan → Prop
  | [] => True
  | (_, p) :: r => PlP p ∧ PlL r
end
theorem plL_iff : ∀ {p : Plan}, PlL p ↔ ∀ x ∈ p, PlP x.2
  | [] => by simp [PlL]
  | (c, q) :: r => by simp [PlL, plL_iff (p := r)]
theorem raise_comm : (∀ (p : Part) (l : Int), raiseP 1 (l + 1) (raiseP 1 l p) = raiseP 1 l (raiseP 1 l p)) ∧ (∀ (p : Plan) (l : Int), raiseL 1 (l + 1) (raiseL 1 l p) = raiseL 1 l (raiseL 1 l p)) :=
  ⟨fun p => P p, fun p => L p⟩
where
  P : ∀ (p : Part) (l : Int), raiseP 1 (l + 1) (raiseP 1 l p) = raiseP 1 l (raiseP 1 l p)
    | .name _, _ => rfl
    | .got i, l => by
      by_cases h : l ≤ i
      · have h1 : l + 1 ≤ i + 1 := by omega
        have h2 : l ≤ i + 1 := by omega
        simp [raiseP, h, h1, h2]
      · have h1 : ¬ l + 1 ≤ i := by omega
        simp [raiseP, h, h1]
    | .nest true d b, l => by
      simp only [raiseP, if_true]
      rw [L b (l + 1)]
    | .nest false d b, l => by
      simp only [raiseP, Bool.false_eq_true, if_false]
      rw [L b l]
  L : ∀ (p : Plan) (l : Int), raiseL 1 (l + 1) (raiseL 1 l p) = raiseL 1 l (raiseL 1 l p)
    | [], _ => rfl
    | (c, q) :: r, l => by
      simp only [raiseL]
      rw [P q l, L r l]
theorem foldAt_none {d : Nat} : ∀ {post pre : Plan}, foldAt d pre post = none → ∀ (a b : Plan) (m : Int) (q : Part), post = a ++ (m, q) :: b → q ≠ .nest true d (raiseL 1 1 (pre ++ a ++ b))
  | [], _, _, a, b, m, q, e => by simp at e
  | (c, p) :: post, pre, h, a, b, m, q, e => by
    unfold foldAt at h
    by_cases z : p = .nest true d (raiseL 1 1 (pre ++ post))
    · rw [if_pos z] at h
      cases h
    · rw [if_neg z] at h
      cases a with
      | nil =>
        have e' : (c, p) :: post = (m, q) :: b := e
        cases e'
        rw [List.append_nil]
        exact z
      | cons x a =>
        have e' : (c, p) :: post = x :: (a ++ (m, q) :: b) := e
        injection e' with e1 e2
        subst e1
        have := foldAt_none (post := post) (pre := pre ++ [(c, p)]) h a b m q e2
        rw [show pre ++ (c, p) :: a ++ b = pre ++ [(c, p)] ++ a ++ b by simp]
        exact this
theorem raiseL_append (u l : Int) (p q : Plan) : raiseL u l (p ++ q) = raiseL u l p ++ raiseL u l q := by
  rw [raiseL_map, raiseL_map, raiseL_map, List.map_append]
/-- what is folded does not fold again -/
theorem fold_once {d : Nat} {b : Plan} (h : PlL b) (hi : Inc b) : foldAt d [] (fold d b).2 = none ∧ PlL (fold d b).2 ∧ Inc (fold d b).2 := by
  have sub := fold_sub d b
  refine ⟨?_, plL_iff.mpr fun x hx => plL_iff.mp h x (sub.subset hx), hi.sublist sub⟩
  rcases fold_cases d b with ⟨h1, h2⟩ | ⟨pre, m, post, h1, h2⟩
  · rw [h2]
    exact h1
  · rw [h2]
    show foldAt d [] (pre ++ post) = none
    have hq : PlP (.nest true d (raiseL 1 1 (pre ++ post))) := plL_iff.mp h (m, .nest true d (raiseL 1 1 (pre ++ post))) (by rw [h1]; simp)
    have no : foldAt d [] (raiseL 1 1 (pre ++ post)) = none := by
      unfold PlP at hq
      exact hq.2.2 rfl
    cases e : foldAt d [] (pre ++ post) with
    | none => rfl
    | some cr =>
      exfalso
      obtain ⟨c, r⟩ := cr
      obtain ⟨a, m', b', e1, e2, e3⟩ := foldAt_some e
      have e1' : pre ++ post = a ++ (m', .nest true d (raiseL 1 1 r)) :: b' := by simpa using e1
      refine foldAt_none no (raiseL 1 1 a) (raiseL 1 1 b') m' (.nest true d (raiseL 1 2 (raiseL 1 1 r))) ?_ ?_
      · rw [e1', raiseL_append]
        rfl
      · have k : raiseL 1 2 (raiseL 1 1 r) = raiseL 1 1 (raiseL 1 1 r) := raise_comm.2 r 1
        rw [k, List.nil_append, ← raiseL_append, ← e2]
theorem join_fix : ∀ (p A : Plan), Inc (A ++ p) → p.foldl joinStep A = A ++ p
  | [], A, _ => by simp
  | x :: p, A, h => by
    have e : joinStep A x = A ++ [x] := by
      unfold joinStep
      cases el : A.getLast? with
      | none => rfl
      | some y =>
        have hy : y ∈ A := List.mem_of_getLast? el
        have lt : ltP y.2 x.2 = true := (List.pairwise_append.mp h).2.2 y hy x List.mem_cons_self
        have ne : y.2 ≠ x.2 := fun z => by
          rw [z, ltP_irrefl] at lt
          cases lt
        simp [ne]
    rw [List.foldl_cons, e, join_fix p (A ++ [x]) (by simpa using h)]
    simp
theorem sortItems_fix {p : Plan} (h : Inc p) : sortItems p = p := by
  unfold sortItems join
  have e : p.mergeSort leP = p := List.mergeSort_of_pairwise (h.imp fun lt => leP_iff.mpr (.inr lt))
  rw [e, join_fix p [] (by simpa using h)]
  rfl
theorem plain_fixes : (∀ p : Part, PlP p → plainP p = (1, p)) ∧ (∀ p : Plan, PlL p → plainI p = p) := ⟨fun p => P p, fun p => L p⟩
where
  P : ∀ p : Part, PlP p → plainP p = (1, p)
    | .name _, _ => by simp [plainP]
    | .got _, _ => by simp [plainP]
    | .nest k d b, h => by
      unfold PlP at h
      obtain ⟨h1, h2, h3⟩ := h
      have e := L b h2
      cases k with
      | false =>
        unfold plainP
        simp only [e, sortItems_fix h1]
      | true =>
        have e3 : fold d b = (1, b) := by unfold fold; rw [h3 rfl]; rfl
        unfold plainP
        simp only [e, sortItems_fix h1, e3]
  L : ∀ p : Plan, PlL p → plainI p = p
    | [], _ => by simp [plainI]
    | (c, q) :: r, h => by
      unfold PlL at h
      unfold plainI
      rw [P q h.1, L r h.2]
      simp
theorem pl_sorted {p : Plan} (h : PlL p) : PlL (sortItems p) := plL_iff.mpr (sortItems_all (Q := fun x => PlP x.2) (fun a b ha hb e => hb) (plL_iff.mp h))
theorem plain_pls : (∀ p : Part, PlP (plainP p).2) ∧ (∀ p : Plan, PlL (plainI p)) := ⟨fun p => P p, fun p => L p⟩
where
  P : ∀ p : Part, PlP (plainP p).2
    | .name _ => by simp [plainP, PlP]
    | .got _ => by simp [plainP, PlP]
    | .nest k d b => by
      have hb : PlL (sortItems (plainI b)) := pl_sorted (L b)
      have hi : Inc (sortItems (plainI b)) := sortItems_inc _
      cases k with
      | false =>
        unfold plainP
        unfold PlP
        exact ⟨hi, hb, fun z => by cases z⟩
      | true =>
        obtain ⟨f1, f2, f3⟩ := fold_once (d := d) hb hi
        unfold plainP
        unfold PlP
        exact ⟨f3, f2, fun _ => f1⟩
  L : ∀ p : Plan, PlL (plainI p)
    | [] => by simp [plainI, PlL]
    | (c, q) :: r => by
      unfold plainI
      unfold PlL
      exact ⟨P q, L r⟩
theorem plain_plain (p : Plan) : plain (plain p) = plain p := by
  have h : PlL (plain p) := pl_sorted (plain_pls.2 p)
  show sortItems (plainI (plain p)) = plain p
  rw [plain_fixes.2 _ h]
  exact sortItems_fix (plain_inc p)
theorem plain_met (p : Plan) (m : Part × Part) : plain (metOf p m) = metOf p m := plain_plain _
end G
set_option Elab.async false
set_option linter.all false
set_option maxRecDepth 100000
set_option maxHeartbeats 1000000
/-! the longest run and the shortest, by the graph and by what is behind one meeting -/
namespace G
open PySem
def LongP (s : Plan) : Option Int → Prop
  | none => ∀ n, ∃ q, Wk Succ n s q
  | some m => (∃ (n : Nat) (q : Plan), m = n ∧ Wk Succ n s q) ∧ ∀ (n : Nat) (q : Plan), Wk Succ n s q → (n : Int) ≤ m
def ShortP (s : Plan) : Option Int → Prop
  | none => ∀ n q, Wk Succ n s q → pairsOf q ≠ []
  | some m => (∃ (n : Nat) (q : Plan), m = n ∧ Wk Succ n s q ∧ pairsOf q = []) ∧ ∀ (n : Nat) (q : Plan), Wk Succ n s q → pairsOf q = [] → m ≤ (n : Int)
theorem LongP.uniq {s : Plan} : ∀ {a b : Option Int}, LongP s a → LongP s b → a = b
  | none, none, _, _ => rfl
  | none, some m, h, k => by
    obtain ⟨⟨n, q, e, _⟩, k2⟩ := k
    obtain ⟨q', w⟩ := h (n + 1)
    have := k2 (n + 1) q' w
    omega
  | some m, none, h, k => by
    obtain ⟨⟨n, q, e, _⟩, h2⟩ := h
    obtain ⟨q', w⟩ := k (n + 1)
    have := h2 (n + 1) q' w
    omega
  | some a, some b, h, k => by
    obtain ⟨⟨n, q, e, w⟩, h2⟩ := h
    obtain ⟨⟨n', q', e', w'⟩, k2⟩ := k
    have h3 := h2 _ _ w'
    have k3 := k2 _ _ w
    have : a = b := by omega
    rw [this]
theorem ShortP.uniq {s : Plan} : ∀ {a b : Option Int}, ShortP s a → ShortP s b → a = b
  | none, none, _, _ => rfl
  | none, some m, h, k => by
    obtain ⟨⟨n, q, _, w, z⟩, _⟩ := k
    exact absurd z (h n q w)
  | some m, none, h, k => by
    obtain ⟨⟨n, q, _, w, z⟩, _⟩ := h
    exact absurd z (k n q w)
  | some a, some b, h, k => by
    obtain ⟨⟨n, q, e, w, z⟩, h2⟩ := h
    obtain ⟨⟨n', q', e', w', z'⟩, k2⟩ := k
    have h3 := h2 _ _ w' z'
    have k3 := k2 _ _ w z
    have : a = b := by omega
    rw [this]

theorem len_sub {α : Type} : ∀ {L M : List α}, L.Nodup → (∀ x ∈ L, x ∈ M) → L.length ≤ M.length
  | [], _, _, _ => Nat.zero_le _
  | x :: L, M, nd, h => by
    obtain ⟨A, B, e⟩ := List.append_of_mem (h x List.mem_cons_self)
    have nx := (List.nodup_cons.mp nd).1
    have := len_sub (L := L) (M := A ++ B) (List.nodup_cons.mp nd).2 fun y hy => by
      have hm := h y (List.mem_cons_of_mem _ hy)
      rw [e] at hm
      rcases List.mem_append.mp hm with q | q
      · exact List.mem_append_left _ q
      · rcases List.mem_cons.mp q with z | z
        · rw [z] at hy
          exact absurd hy nx
        · exact List.mem_append_right _ z
    rw [e]
    simp at this ⊢
    omega
/-! ### by the graph -/
section
variable {s : Plan} {G : Gr}
theorem BI.ok (b : BI s G) (full : G.links.length = G.forms.length) : RowsOk G.links := fun u v e => by
  have hu := eg_lt e
  obtain ⟨k1, k2⟩ := b.lk u _ _ (row_get hu) (List.getElem?_eq_getElem (by omega))
  obtain ⟨k, hk⟩ := List.getElem?_of_mem e
  have hk2 : k < (pairsOf G.forms[u]).length := by
    have := (List.getElem?_eq_some_iff.mp hk).1
    omega
  obtain ⟨j, e1, e2⟩ := k2 k _ (List.getElem?_eq_getElem hk2)
  rw [hk] at e1
  cases e1
  have := (List.getElem?_eq_some_iff.mp e2).1
  omega
theorem BI.edge (b : BI s G) (full : G.links.length = G.forms.length) {u v : Nat} (e : Eg G.links u v) : ∃ p q, G.forms[u]? = some p ∧ G.forms[v]? = some q ∧ Succ p q := by
  have hu := eg_lt e
  have hp : G.forms[u]? = some G.forms[u] := List.getElem?_eq_getElem (by omega)
  obtain ⟨k1, k2⟩ := b.lk u _ _ (row_get hu) hp
  obtain ⟨k, hk⟩ := List.getElem?_of_mem e
  have hk2 : k < (pairsOf G.forms[u]).length := by
    have := (List.getElem?_eq_some_iff.mp hk).1
    omega
  have hm := List.getElem?_eq_getElem hk2
  obtain ⟨j, e1, e2⟩ := k2 k _ hm
  rw [hk] at e1
  cases e1
  exact ⟨_, _, hp, e2, _, List.mem_of_getElem? hm, rfl⟩
theorem BI.succ (b : BI s G) (full : G.links.length = G.forms.length) {u : Nat} {p q : Plan} (hp : G.forms[u]? = some p) (h : Succ p q) : ∃ v, G.forms[v]? = some q ∧ Eg G.links u v := by
  obtain ⟨m, hm, rfl⟩ := h
  have hu : u < G.links.length := by
    have := (List.getElem?_eq_some_iff.mp hp).1
    omega
  obtain ⟨k1, k2⟩ := b.lk u p _ (row_get hu) hp
  obtain ⟨k, hk⟩ := List.getElem?_of_mem hm
  obtain ⟨j, e1, e2⟩ := k2 k m hk
  exact ⟨j, e2, List.mem_of_getElem? e1⟩
theorem BI.walk (b : BI s G) (full : G.links.length = G.forms.length) : ∀ {n : Nat} {q : Plan}, Wk Succ n s q → ∃ v, G.forms[v]? = some q ∧ Wk (Eg G.links) n 0 v
  | 0, q, w => by
    have : s = q := w
    subst this
    exact ⟨0, b.st, rfl⟩
  | n + 1, q, ⟨p, w, e⟩ => by
    obtain ⟨u, hu, wu⟩ := BI.walk b full w
    obtain ⟨v, hv, ev⟩ := b.succ full hu e
    exact ⟨v, hv, u, wu, ev⟩
theorem BI.back (b : BI s G) (full : G.links.length = G.forms.length) : ∀ {n v : Nat}, Wk (Eg G.links) n 0 v → ∃ q, G.forms[v]? = some q ∧ Wk Succ n s q
  | 0, v, w => by
    have : 0 = v := w
    subst this
    exact ⟨s, b.st, rfl⟩
  | n + 1, v, ⟨u, w, e⟩ => by
    obtain ⟨p, hp, wp⟩ := BI.back b full w
    obtain ⟨p', q, h1, h2, h3⟩ := b.edge full e
    rw [hp] at h1
    cases h1
    exact ⟨q, h2, p, wp, h3⟩
theorem nd_get {L : List Plan} (nd : L.Nodup) {i j : Nat} {u : Plan} (hi : L[i]? = some u) (hj : L[j]? = some u) : i = j :=
  (List.getElem?_inj (List.getElem?_eq_some_iff.mp hi).1 nd).mp (hi.trans hj.symm)
theorem BI.reach (b : BI s G) (full : G.links.length = G.forms.length) : ∀ v, v < G.links.length → ∃ n, Wk (Eg G.links) n 0 v := fun v hv => by
  have h := List.getElem?_eq_getElem (show v < G.forms.length by omega)
  obtain ⟨u, hu, w⟩ := b.walk full (b.wk v _ h)
  have := nd_get b.nd h hu
  subst this
  exact ⟨_, w⟩
theorem BI.pos (b : BI s G) (full : G.links.length = G.forms.length) : 0 < G.links.length := by
  have := (List.getElem?_eq_some_iff.mp b.st).1
  omega
theorem BI.longAll (b : BI s G) (full : G.links.length = G.forms.length) {m : Int} (h : LongAll G.links m) : LongP s (some m) := by
  obtain ⟨⟨n, a, c, e, ha, hc, w⟩, h2⟩ := h
  refine ⟨?_, fun n q w => ?_⟩
  · obtain ⟨i, wi⟩ := b.reach full a ha
    have w3 := wi.app w
    have := h2 _ _ _ hc w3
    obtain rfl : i = 0 := by omega
    obtain ⟨q, hq, wq⟩ := b.back full w3
    exact ⟨0 + n, q, by omega, wq⟩
  · obtain ⟨v, hv, wv⟩ := b.walk full w
    exact h2 n 0 v (by have := (List.getElem?_eq_some_iff.mp hv).1; omega) wv
theorem BI.cycle (b : BI s G) (full : G.links.length = G.forms.length) (h : (kahn G.links).length < G.links.length) : LongP s none := fun n => by
  have ok := b.ok full
  obtain ⟨a, c, ha, hc, w⟩ := kahn_cycle ok (kahn_done ok) h n
  obtain ⟨i, wi⟩ := b.reach full a ha
  have w3 := wi.app w
  rw [Nat.add_comm] at w3
  obtain ⟨x, wx⟩ := w3.cut
  obtain ⟨q, _, wq⟩ := b.back full wx
  exact ⟨q, wq⟩
theorem kahn_pos {rows : Rows} {found : List Nat} (K : KDone rows found) (full : rows.length ≤ found.length) : ∀ {n a b : Nat}, Wk (Eg rows) n a b → b < rows.length → ∃ j, n ≤ j ∧ found[j]? = some b
  | 0, a, b, w, hb => by
    obtain ⟨j, hj⟩ := List.getElem?_of_mem (nodup_full K.lt K.nd full hb)
    exact ⟨j, Nat.zero_le _, hj⟩
  | n + 1, a, b, ⟨c, w, e⟩, hb => by
    obtain ⟨i, hi, ei⟩ := kahn_pos K full w (eg_lt e)
    obtain ⟨j, hj⟩ := List.getElem?_of_mem (nodup_full K.lt K.nd full hb)
    obtain ⟨i', h1, h2⟩ := K.top j b c hj e
    have := nd_at K.nd ei h2
    exact ⟨j, by omega, hj⟩
theorem BI.bf (b : BI s G) (full : G.links.length = G.forms.length) {m : Int} (h : (∃ v, v < G.links.length ∧ bfN G.links G.links.length v = m) ∧ ∀ v, v < G.links.length → bfN G.links G.links.length v ≤ m) : LongP s (if (G.links.length : Int) ≤ m then none else some m) := by
  have ok := b.ok full
  obtain ⟨k1, k2⟩ := bf_long (b.pos full) (b.reach full) ok h.1 h.2
  by_cases z : (G.links.length : Int) ≤ m
  · rw [if_pos z]
    obtain ⟨c, hc, w⟩ := k1 z
    refine b.cycle full ?_
    apply Classical.byContradiction
    intro no
    have K := kahn_done ok
    obtain ⟨j, hj, ej⟩ := kahn_pos K (by omega) w hc
    have := (List.getElem?_eq_some_iff.mp ej).1
    have := nodup_len K.lt K.nd
    omega
  · rw [if_neg z]
    exact b.longAll full (k2 (by omega))
theorem BI.dist (b : BI s G) (full : G.links.length = G.forms.length) : ∀ {n v : Nat}, Wk (Eg G.links) n 0 v → wl G v ≤ n
  | 0, v, w => by
    have : 0 = v := w
    rw [← this, b.w0]
    exact Nat.le_refl _
  | n + 1, v, ⟨u, w, e⟩ => by
    have h1 := b.dist full w
    have h2 := b.up u _ v (row_get (eg_lt e)) e
    omega
theorem BI.stuck (b : BI s G) {i : Nat} {p : Plan} {r : List Nat} (hr : G.links[i]? = some r) (hp : G.forms[i]? = some p) : r = [] ↔ pairsOf p = [] := by
  obtain ⟨k1, _⟩ := b.lk i p r hr hp
  rw [← List.length_eq_zero_iff, ← List.length_eq_zero_iff, k1]
/-- no row is empty -/
theorem BI.short0 (b : BI s G) (full : G.links.length = G.forms.length) (h : ∀ (i : Nat) (r : List Nat), G.links[i]? = some r → r ≠ []) : ShortP s none := fun n q w z => by
  obtain ⟨v, hv, wv⟩ := b.walk full w
  have hl : v < G.links.length := by
    have := (List.getElem?_eq_some_iff.mp hv).1
    omega
  have hr := row_get hl
  exact h v _ hr ((b.stuck hr hv).mpr z)
/-- m: the least of the ways of the empty rows -/
theorem BI.short1 (b : BI s G) (full : G.links.length = G.forms.length) {m : Nat} (h1 : ∃ i : Nat, G.links[i]? = some [] ∧ wl G i = m) (h2 : ∀ i : Nat, G.links[i]? = some [] → m ≤ wl G i) : ShortP s (some (m : Int)) := by
  refine ⟨?_, fun n q w z => ?_⟩
  · obtain ⟨i, hi, e⟩ := h1
    have hp := List.getElem?_eq_getElem (show i < G.forms.length by
      have := (List.getElem?_eq_some_iff.mp hi).1
      omega)
    exact ⟨m, _, rfl, by rw [← e]; exact b.wk i _ hp, (b.stuck hi hp).mp rfl⟩
  · obtain ⟨v, hv, wv⟩ := b.walk full w
    have hl : v < G.links.length := by
      have := (List.getElem?_eq_some_iff.mp hv).1
      omega
    have hr := row_get hl
    have e := (b.stuck hr hv).mpr z
    rw [e] at hr
    have := h2 v hr
    have := b.dist full wv
    omega
/-- the first empty row has the least way -/
theorem BI.short2 (b : BI s G) (full : G.links.length = G.forms.length) {i : Nat} (h1 : G.links[i]? = some []) (h2 : ∀ (j : Nat), j < i → ∀ r : List Nat, G.links[j]? = some r → r ≠ []) : ShortP s (some (wl G i : Nat)) :=
  b.short1 full ⟨i, h1, rfl⟩ fun j hj => by
    by_cases z : j < i
    · exact absurd rfl (h2 j z [] hj)
    · refine b.mono i j (by omega) ?_
      have := (List.getElem?_eq_some_iff.mp hj).1
      omega
/-- no more forms than a set that is closed -/
theorem BI.few (b : BI s G) {Sx : List Plan} (hs : s ∈ Sx) (cl : ∀ p q, p ∈ Sx → Succ p q → q ∈ Sx) : G.forms.length ≤ Sx.length := by
  have sub : ∀ n q, Wk Succ n s q → q ∈ Sx := fun n => by
    induction n with
    | zero => intro q w; have : s = q := w; rw [← this]; exact hs
    | succ n ih => intro q ⟨p, w, e⟩; exact cl p q (ih p w) e
  have h : ∀ p ∈ G.forms, p ∈ Sx := fun p hp => by
    obtain ⟨i, hi⟩ := List.getElem?_of_mem hp
    exact sub _ _ (b.wk i p hi)
  exact len_sub b.nd h
end

/-! ### by what is behind one meeting -/
theorem wk_step {s q : Plan} {n : Nat} : Wk Succ (n + 1) s q ↔ ∃ m, m ∈ pairsOf s ∧ Wk Succ n (metOf s m) q := by
  constructor
  · intro w
    obtain ⟨b, ⟨m, hm, e⟩, w2⟩ := w.back
    subst e
    exact ⟨m, hm, w2⟩
  · rintro ⟨m, hm, w⟩
    exact w.front ⟨m, hm, rfl⟩
theorem long_stop {s : Plan} (h : pairsOf s = []) : LongP s (some 0) := by
  refine ⟨⟨0, s, rfl, rfl⟩, fun n q w => ?_⟩
  cases n with
  | zero => exact Int.le_refl _
  | succ n =>
    obtain ⟨m, hm, _⟩ := wk_step.mp w
    rw [h] at hm
    cases hm
theorem long_none {s : Plan} {m : Part × Part} (hm : m ∈ pairsOf s) (h : LongP (metOf s m) none) : LongP s none := fun n => by
  cases n with
  | zero => exact ⟨s, rfl⟩
  | succ n =>
    obtain ⟨q, w⟩ := h n
    exact ⟨q, wk_step.mpr ⟨m, hm, w⟩⟩
theorem long_some {s : Plan} {x : Int} (h1 : ∃ m, m ∈ pairsOf s ∧ LongP (metOf s m) (some x)) (h2 : ∀ m, m ∈ pairsOf s → ∃ y, y ≤ x ∧ LongP (metOf s m) (some y)) : LongP s (some (1 + x)) := by
  obtain ⟨m, hm, ⟨n, q, e, w⟩, k⟩ := h1
  refine ⟨⟨n + 1, q, by omega, wk_step.mpr ⟨m, hm, w⟩⟩, fun j r wj => ?_⟩
  cases j with
  | zero => omega
  | succ j =>
    obtain ⟨m', hm', w'⟩ := wk_step.mp wj
    obtain ⟨y, hy, _, k'⟩ := h2 m' hm'
    have := k' j r w'
    omega
theorem short_stop {s : Plan} (h : pairsOf s = []) : ShortP s (some 0) := by
  refine ⟨⟨0, s, rfl, rfl, h⟩, fun n q w z => by omega⟩
theorem short_none {s : Plan} (h : pairsOf s ≠ []) (k : ∀ m, m ∈ pairsOf s → ShortP (metOf s m) none) : ShortP s none := fun n q w => by
  cases n with
  | zero =>
    have : s = q := w
    rw [← this]
    exact h
  | succ n =>
    obtain ⟨m, hm, w2⟩ := wk_step.mp w
    exact k m hm n q w2
theorem short_some {s : Plan} {x : Int} (h1 : ∃ m, m ∈ pairsOf s ∧ ShortP (metOf s m) (some x)) (h2 : ∀ m, m ∈ pairsOf s → ShortP (metOf s m) none ∨ ∃ y, x ≤ y ∧ ShortP (metOf s m) (some y)) : ShortP s (some (1 + x)) := by
  obtain ⟨m, hm, ⟨n, q, e, w, z⟩, k⟩ := h1
  refine ⟨⟨n + 1, q, by omega, wk_step.mpr ⟨m, hm, w⟩, z⟩, fun j r wj zj => ?_⟩
  cases j with
  | zero =>
    have : s = r := wj
    rw [← this] at zj
    rw [zj] at hm
    cases hm
  | succ j =>
    obtain ⟨m', hm', w'⟩ := wk_step.mp wj
    rcases h2 m' hm' with h | ⟨y, hy, _, k'⟩
    · exact absurd zj (h j r w')
    · have := k' j r w' zj
      omega
end G
set_option Elab.async false
set_option linter.all false
set_option maxRecDepth 100000
set_option maxHeartbeats 1000000
/-! functions handed to a def: their cells are told, taken back while they run -/
namespace G
open PySem PySem.Spec PyProof.Rows L2 LamX NdefX
/-- the object at c is o -/
def ObjO (c : Addr) (o : Obj) : HO := .ext fun h => h.get? c = some o
theorem objO_nt {c : Addr} {o : Obj} : NT (ObjO c o) := fun ps z => by
  unfold ObjO at z
  cases z
abbrev Cs := List (Addr × Obj)
def minus (H : Hp) (cs : Cs) : Hp := fun b => match cs.lookup b with
  | some _ => none
  | none => H b
def plus (H : Hp) (cs : Cs) : Hp := fun b => match cs.lookup b with
  | some o => some (ObjO b o)
  | none => H b
section
variable {H H3 Hs : Hp} {cs : Cs} {b : Addr} {o : Obj}
theorem minus_in (e : cs.lookup b = some o) : minus H cs b = none := by
  unfold minus
  rw [e]
theorem minus_out (e : cs.lookup b = none) : minus H cs b = H b := by
  unfold minus
  rw [e]
theorem plus_in (e : cs.lookup b = some o) : plus H cs b = some (ObjO b o) := by
  unfold plus
  rw [e]
theorem plus_out (e : cs.lookup b = none) : plus H cs b = H b := by
  unfold plus
  rw [e]
/-- the cells are told in H -/
def Told (H : Hp) (cs : Cs) : Prop := ∀ b o, cs.lookup b = some o → H b = some (ObjO b o)
theorem minus_some {u : HO} (e : minus H cs b = some u) : cs.lookup b = none ∧ H b = some u := by
  cases q : cs.lookup b with
  | none => exact ⟨rfl, by rw [minus_out q] at e; exact e⟩
  | some o => rw [minus_in q] at e; cases e
theorem ext_minus (t : Told H cs) (x : ExtN Hs H) : ExtN (minus Hs cs) (minus H cs) := fun b u e q => by
  obtain ⟨h1, h2⟩ := minus_some e
  rw [minus_out h1]
  exact x b u h2 q
theorem told_ne (t : Told H cs) {u : HO} (e : H b = some u) (n : ∀ o, u ≠ ObjO b o) : cs.lookup b = none := by
  cases q : cs.lookup b with
  | none => rfl
  | some o =>
    have := t b o q
    rw [e] at this
    exact absurd (Option.some.inj this) (n o)
mutual
theorem At.minus (t : Told H cs) (x : ExtN Hs H) : ∀ (d : D) {v : V}, At Hs v d → At (minus Hs cs) v d
  | .none, _, h => by cases h; exact .non
  | .bool _, _, h => by cases h; exact .bl _
  | .int _, _, h => by cases h; exact .int _
  | .str _, _, h => by cases h with | str _ ok => exact .str _ ok
  | .list ds, _, h => by
    cases h with
    | lst h1 h2 =>
      refine .lst ?_ (AtAll.minus t x ds h2)
      rw [minus_out (told_ne t (x _ _ h1 nt_lst) (fun o z => by unfold ObjO at z; cases z))]
      exact h1
  | .tuple ds, _, h => by
    cases h with
    | tup h1 h2 =>
      refine .tup ?_ (AtAll.minus t x ds h2)
      rw [minus_out (told_ne t (x _ _ h1 nt_tup) (fun o z => by unfold ObjO at z; cases z))]
      exact h1
  | .dict _, _, h => by cases h
theorem AtAll.minus (t : Told H cs) (x : ExtN Hs H) : ∀ (ds : List D) {vs : List V}, AtAll Hs vs ds → AtAll (minus Hs cs) vs ds
  | [], _, h => by cases h; exact .nil
  | d :: ds, _, h => by
    cases h with
    | cons h1 h2 => exact .cons (At.minus t x d h1) (AtAll.minus t x ds h2)
end
/-- from the heap with the cells told, back to the heap without -/
def again (H H3 : Hp) (cs : Cs) : Hp := fun b => match cs.lookup b with
  | some _ => H b
  | none => H3 b
theorem again_in (e : cs.lookup b = some o) : again H H3 cs b = H b := by
  unfold again
  rw [e]
theorem again_out (e : cs.lookup b = none) : again H H3 cs b = H3 b := by
  unfold again
  rw [e]
variable {P : Program} {w : World} {h h' : Heap} {fs : List Addr}
theorem hok_minus (k : HOk P w H h) (t : Told H cs) : HOk P w (minus H cs) h := fun b u e => by
  obtain ⟨h1, h2⟩ := minus_some e
  refine (k b u h2).stay (fun c v _ q => q) (fun c q => ?_) fun c xs q => ?_
  · rw [minus_out (told_ne t q (fun o z => by unfold ObjO at z; cases z))]
    exact q
  · rw [minus_out (told_ne t q (fun o z => by unfold ObjO at z; cases z))]
    exact q
theorem told_at (k : HOk P w H h) (t : Told H cs) (e : cs.lookup b = some o) : h.get? b = some o := by
  have := k b _ (t b o e)
  unfold ObjO at this
  exact this.1
theorem hok_plus (k : HOk P w H h) (n : ∀ b o, cs.lookup b = some o → H b = none ∧ h.get? b = some o) : HOk P w (plus H cs) h := fun b u e => by
  have st : ∀ c u, H c = some u → plus H cs c = some u := fun c u q => by
    cases z : cs.lookup c with
    | none => rw [plus_out z]; exact q
    | some o =>
      have := (n c o z).1
      rw [q] at this
      cases this
  cases q : cs.lookup b with
  | none =>
    rw [plus_out q] at e
    exact (k b u e).stay (fun c v _ y => y) (fun c y => st c _ y) fun c xs y => st c _ y
  | some o =>
    rw [plus_in q] at e
    cases e
    have g := (n b o q).2
    exact ⟨g, ⟨o, g⟩, fun h1 h2 z s => s o z⟩
theorem hok_again (k3 : HOk P w H3 h') (t : Told H cs) (n3 : ∀ b o, cs.lookup b = some o → H3 b = none ∧ h'.get? b = some o) : HOk P w (again H H3 cs) h' := by
  have e : again H H3 cs = plus H3 cs := by
    funext b
    cases q : cs.lookup b with
    | none => rw [again_out q, plus_out q]
    | some o => rw [again_in q, plus_in q, t b o q]
  rw [e]
  exact hok_plus k3 n3
theorem un_again (k : HOk P w H h) (t : Told H cs) (nf : ∀ b o, cs.lookup b = some o → b ∉ fs) (u : Un fs [] (minus H cs) H3 h h') : Un fs [] H (again H H3 cs) h h' := by
  have out : ∀ b, H b = none → cs.lookup b = none := fun b e => by
    cases q : cs.lookup b with
    | none => rfl
    | some o =>
      have := t b o q
      rw [e] at this
      cases this
  have ne : ∀ b (x : HO), H b = some x → (∀ o, x ≠ ObjO b o) → minus H cs b = some x ∧ cs.lookup b = none := fun b x e n => by
    have q := told_ne t e n
    exact ⟨by rw [minus_out q]; exact e, q⟩
  refine ⟨fun b o e n hb hx => u.keep b o e (by rw [minus_out (out b n)]; exact n) hb hx, fun b o e n hb hx => u.slot b o e (by rw [minus_out (out b n)]; exact n) hb hx, fun b o e n hx => ?_, fun b o e hx => u.there b o e hx, fun b xs e => ?_, fun b o x e => ?_, fun b ps e => ?_⟩
  · rw [again_out (out b n)]
    exact u.free b o e (by rw [minus_out (out b n)]; exact n) hx
  · obtain ⟨h1, h2⟩ := ne b _ e (fun o z => by unfold ObjO at z; cases z)
    rw [again_out h2]
    exact u.tups b xs h1
  · obtain ⟨h1, h2⟩ := ne b _ e (fun o z => by unfold ObjO at z; cases z)
    rw [again_out h2]
    exact u.frzs b o x h1
  · obtain ⟨h1, h2⟩ := ne b _ e (fun o z => by unfold ObjO at z; cases z)
    rw [again_out h2]
    exact u.tbls b ps h1
/-- a call made with the cells taken back -/
theorem ce_again {outer : List Env} {s s' : Shared} {Q Q' : VK} {v : Value} (k : HOk P w H s.heap) (t : Told H cs) (nf : ∀ b o, cs.lookup b = some o → b ∉ frs outer) (c : CE outer P w (minus H cs) s Q' v s') (q : ∀ x H3, Q' x H3 → (∀ b o, cs.lookup b = some o → H3 b = none) → Q x (again H H3 cs)) : CE outer P w H s Q v s' := by
  obtain ⟨x, H3, os, ba, un, hk, r, y⟩ := c
  have n3 : ∀ b o, cs.lookup b = some o → H3 b = none ∧ s'.heap.get? b = some o := fun b o e => by
    have g := told_at k t e
    exact ⟨un.free b o g (minus_in e) (by simp), un.keep b o g (minus_in e) (nf b o e) (by simp)⟩
  exact ⟨x, again H H3 cs, os, ba, un_again k t nf un, hok_again hk t n3, r, q x H3 y fun b o e => (n3 b o e).1⟩
/-- a call made with the cells told -/
theorem ce_plus {outer : List Env} {s s' : Shared} {Q Q' : VK} {v : Value} (n : ∀ b o, cs.lookup b = some o → H b = none ∧ s.heap.get? b = some o) (c : CE outer P w (plus H cs) s Q' v s') (q : ∀ x H3, Q' x H3 → Told H3 cs ∧ Q x (minus H3 cs)) : CE outer P w H s Q v s' := by
  obtain ⟨x, H3, os, ba, un, hk, r, y⟩ := c
  obtain ⟨t3, y⟩ := q x H3 y
  have st : ∀ c u, H c = some u → plus H cs c = some u ∧ cs.lookup c = none := fun c u q => by
    cases z : cs.lookup c with
    | none => exact ⟨by rw [plus_out z]; exact q, rfl⟩
    | some o =>
      have := (n c o z).1
      rw [q] at this
      cases this
  refine ⟨x, minus H3 cs, os, ba, ⟨fun b o e nb hb hx => ?_, fun b o e nb hb hx => ?_, fun b o e nb hx => ?_, fun b o e hx => un.there b o e hx, fun b xs e => ?_, fun b o u e => ?_, fun b ps e => ?_⟩, hok_minus hk t3, r, y⟩
  · cases z : cs.lookup b with
    | none => exact un.keep b o e (by rw [plus_out z]; exact nb) hb hx
    | some o' =>
      have g := (n b o' z).2
      rw [e] at g
      cases g
      exact told_at hk t3 z
  · cases z : cs.lookup b with
    | none => exact un.slot b o e (by rw [plus_out z]; exact nb) hb hx
    | some o' =>
      have g := (n b o' z).2
      rw [e] at g
      cases g
      exact ⟨o.slots, told_at hk t3 z⟩
  · cases z : cs.lookup b with
    | none =>
      rw [minus_out z]
      exact un.free b o e (by rw [plus_out z]; exact nb) hx
    | some o' => exact minus_in z
  · obtain ⟨h1, h2⟩ := st b _ e
    rw [minus_out h2]
    exact un.tups b xs h1
  · obtain ⟨h1, h2⟩ := st b _ e
    rw [minus_out h2]
    exact un.frzs b o u h1
  · obtain ⟨h1, h2⟩ := st b _ e
    rw [minus_out h2]
    exact un.tbls b ps h1
end
end G
set_option Elab.async false
set_option linter.all false
set_option maxRecDepth 100000
set_option maxHeartbeats 1000000
/-! functions handed to a def: the promise, the call -/
namespace G
open PySem PySem.Spec PyProof.Rows L2 LamX NdefX
def CellD (cs : Cs) : Prop := ∀ b o, cs.lookup b = some o → ∃ v, o.data = .cell v
theorem heap_at (c : Addr) {o : Obj} {v : Option Value} (h : o.data = .cell v) : ∃ g : Heap, g.get? c = some o := by
  refine ⟨{ objs := Array.replicate (c + 1) o }, Heap.get?_some_iff.mpr ⟨?_, ?_⟩⟩
  · show (Array.replicate (c + 1) o)[c]? = some o
    rw [Array.getElem?_replicate, if_pos (Nat.lt_succ_self _)]
  · obtain ⟨a, b, d, e⟩ := o
    simp only at h
    subst h
    rfl
theorem code_ne {c : Addr} {q : Str} {o : Obj} {v : Option Value} (h : o.data = .cell v) : CodeO c q ≠ ObjO c o := fun z => by
  obtain ⟨g, hg⟩ := heap_at c h
  unfold CodeO ObjO at z
  have e := congrFun (HO.ext.inj z) g
  have k : g.get? c = some o := hg
  rw [← e] at k
  obtain ⟨oc, vs, t, h1, h2, _⟩ := k
  rw [hg] at h1
  cases h1
  rw [h] at h2
  cases h2
theorem fn_ne {f : Addr} {F : NF} {o : Obj} {v : Option Value} (h : o.data = .cell v) : FnO f F ≠ ObjO f o := fun z => by
  obtain ⟨g, hg⟩ := heap_at f h
  unfold FnO ObjO at z
  have e := congrFun (HO.ext.inj z) g
  have k : g.get? f = some o := hg
  rw [← e] at k
  obtain ⟨od, sl, doc, pm, ctv, h1⟩ := k
  rw [hg] at h1
  cases h1
  cases h
section
variable {T : List (Addr × Str)} {H H1 H3 Hs Hs3 : Hp} {cs : Cs}
theorem minus_code (t : Told H cs) (cd : CellD cs) {c : Addr} {q : Str} (e : H c = some (CodeO c q)) : minus H cs c = some (CodeO c q) := by
  cases z : cs.lookup c with
  | none => rw [minus_out z]; exact e
  | some o =>
    have := t c o z
    rw [e] at this
    obtain ⟨v, hv⟩ := cd c o z
    exact absurd (Option.some.inj this) (code_ne hv)
theorem minus_fn (t : Told H cs) (cd : CellD cs) {f : Addr} {F : NF} (e : H f = some (FnO f F)) : minus H cs f = some (FnO f F) := by
  cases z : cs.lookup f with
  | none => rw [minus_out z]; exact e
  | some o =>
    have := t f o z
    rw [e] at this
    obtain ⟨v, hv⟩ := cd f o z
    exact absurd (Option.some.inj this) (fn_ne hv)
theorem minus_tabs (t : Told H cs) (cd : CellD cs) (tb : Tabs T H) : Tabs T (minus H cs) := fun p hp => by
  obtain ⟨ps, h1, h2, h3⟩ := tb p hp
  refine ⟨ps, ?_, h2, fun pos cv hc => ?_⟩
  · rw [minus_out (told_ne t h1 (fun o z => by unfold ObjO at z; cases z))]
    exact h1
  · obtain ⟨c, e1, e2⟩ := h3 pos cv hc
    exact ⟨c, e1, minus_code t cd e2⟩
theorem stp_again (x : ExtN Hs H) (t : Told H cs) (n3 : ∀ b o, cs.lookup b = some o → H3 b = none) (s : Stp T none (minus Hs cs) (minus H cs) Hs3 H3) : Stp T none Hs H (again Hs Hs3 cs) (again H H3 cs) where
  s := fun b u e q => by
    cases z : cs.lookup b with
    | none => rw [again_out z]; exact s.s b u (by rw [minus_out z]; exact e) q
    | some o => rw [again_in z]; exact e
  e := fun b u e q _ => by
    cases z : cs.lookup b with
    | none => rw [again_out z]; exact s.e b u (by rw [minus_out z]; exact e) q (by simp)
    | some o => rw [again_in z]; exact e
  k := fun b u e q => ⟨u, by
    cases z : cs.lookup b with
    | none => rw [again_out z]; exact s.e b u (by rw [minus_out z]; exact e) q (by simp)
    | some o => rw [again_in z]; exact e, q⟩
  x := fun b u e q => by
    cases z : cs.lookup b with
    | none => rw [again_out z] at e ⊢; exact s.x b u e q
    | some o => rw [again_in z] at e ⊢; exact x b u e q
  t := s.t.ext fun b u e => by
    cases z : cs.lookup b with
    | none => rw [again_out z]; exact e
    | some o => rw [n3 b o z] at e; cases e
  n := fun b u e q f => by
    cases z : cs.lookup b with
    | none =>
      intro o ho
      rw [again_out z] at ho
      exact s.n b u (by rw [minus_out z]; exact e) q (fun o' ho' => by rw [minus_out z] at ho'; exact f o' ho') o ho
    | some o' =>
      intro o ho
      rw [again_in z] at ho
      exact f o ho
  p := fun _ e => by cases e
theorem again_ext (n3 : ∀ b o, cs.lookup b = some o → H3 b = none) (x3 : ExtN Hs3 H3) : ExtN Hs3 (again Hs Hs3 cs) := fun b u e q => by
  cases z : cs.lookup b with
  | none => rw [again_out z]; exact e
  | some o =>
    have := x3 b u e q
    rw [n3 b o z] at this
    cases this
theorem plus_ext (n : ∀ b o, cs.lookup b = some o → H b = none) : ∀ b u, H b = some u → plus H cs b = some u := fun b u e => by
  cases z : cs.lookup b with
  | none => rw [plus_out z]; exact e
  | some o => rw [n b o z] at e; cases e
theorem plus_told (n : ∀ b o, cs.lookup b = some o → H b = none) : Told (plus H cs) cs := fun b o e => plus_in e
theorem stp_plus (x : ExtN Hs H) (cd : CellD cs) (n : ∀ b o, cs.lookup b = some o → H b = none) (s : Stp T none Hs (plus H cs) Hs3 H3) : Told H3 cs ∧ Stp T none Hs H (minus Hs3 cs) (minus H3 cs) := by
  have t3 : Told H3 cs := fun b o e => s.e b _ (plus_in e) objO_nt (by simp)
  have out : ∀ b u, H b = some u → cs.lookup b = none := fun b u e => by
    cases z : cs.lookup b with
    | none => rfl
    | some o => rw [n b o z] at e; cases e
  refine ⟨t3, ⟨fun b u e q => ?_, fun b u e q _ => ?_, fun b u e q => ⟨u, ?_, q⟩, ext_minus t3 s.x, minus_tabs t3 cd s.t, fun b u e q f o ho => ?_, fun _ e => by cases e⟩⟩
  · rw [minus_out (out b u (x b u e q))]
    exact s.s b u e q
  · rw [minus_out (out b u e)]
    exact s.e b u (plus_ext n b u e) q (by simp)
  · rw [minus_out (out b u e)]
    exact s.e b u (plus_ext n b u e) q (by simp)
  · obtain ⟨h1, h2⟩ := minus_some ho
    exact s.n b u (plus_ext n b u e) q f o h2
end
/-- the promise of a function by what it captured -/
def spC (T : List (Addr × Str)) (R : List D → List D → D → Prop) (ws : List (Option V)) : Sp := fun vs H Q _ => ∃ (Hs : Hp) (wvs : List V) (cds ds : List D) (d : D), ws = wvs.map some ∧ AtAll Hs wvs cds ∧ ExtN Hs H ∧ Tabs T H ∧ AtAll Hs vs ds ∧ R cds ds d ∧ ∀ v Hs' H', Stp T none Hs H Hs' H' → At Hs' v d → Q v H'
/-- at f a function that answers as R says -/
structure Act (W : Wd) (k : Nat) (R : List D → D → Prop) (Hs H : Hp) (f : Addr) : Prop where
  ex : ∃ (F : NF) (ps fr : List Str) (wvs : List V) (cds : List D) (cs : Cs) (Rc : List D → List D → D → Prop), H f = some (FnO f F) ∧ H F.c = some (CodeO F.c F.qual) ∧ Told H cs ∧ CellD cs ∧ (∀ y c, F.cl.lookup y = some c → ∃ o, cs.lookup c = some o) ∧
    (∀ x y c, F.cl.lookup x = some c → F.cl.lookup y = some c → x = y) ∧ wvs.length = fr.length ∧ (∀ (i : Nat) (y : Str), fr[i]? = some y → ∃ c o, F.cl.lookup y = some c ∧ cs.lookup c = some o ∧ ∀ v, wvs[i]? = some v → ∃ u, L2.RelV v u ∧ o.data = .cell (some u)) ∧
    AtAll Hs wvs cds ∧ NOk W.P W.w W.K W.mg W.base C8.CX0 k f F ps fr (spC W.T Rc) ∧ ∀ ds d, R ds d → Rc cds ds d
theorem Act.up {W : Wd} {k : Nat} {R : List D → D → Prop} {Hs H Hs' H' : Hp} {f : Addr} (a : Act W k R Hs H f) (x : ExtN Hs Hs') (e : ExtE H H') : Act W k R Hs' H' f := by
  obtain ⟨F, ps, fr, wvs, cds, cs, Rc, h1, h2, h3, h4, h5, h6, h7, h8, h9, h10, h11⟩ := a.ex
  exact ⟨F, ps, fr, wvs, cds, cs, Rc, e _ _ h1, e _ _ h2, fun b o z => e _ _ (h3 b o z), h4, h5, h6, h7, h8, h9.up x, h10, h11⟩
def tAct (W : Wd) (k : Nat) (R : List D → D → Prop) (i : Nat) (t : TA) : TE := fun σ H Q => ∃ f Hs0, σ[i]? = some (some (.ref f)) ∧ Act W k R Hs0 H f ∧ t σ H fun vs H1 => ∃ Hs ds d, Act W k R Hs H1 f ∧ ExtN Hs H1 ∧ Tabs W.T H1 ∧ AtAll Hs vs ds ∧ R ds d ∧ ∀ v Hs' H', Stp W.T none Hs H1 Hs' H' → At Hs' v d → Q v H'
section
variable {X : Cx} {T : List (Addr × Str)}
theorem act_fn {W : Wd} {k : Nat} {R : List D → D → Prop} {Hs H : Hp} {f : Addr} {pins : List (Addr × Obj)} {σ : L2.St} {s : Shared} (a : Act W k R Hs H f) (I : Inv X pins σ H s) : PySem.W.FnAt f s.heap := by
  obtain ⟨F, ps, fr, wvs, cds, cs, Rc, h1, _⟩ := a.ex
  exact fnAt_of I h1
theorem pe_act {W : Wd} {R : List D → D → Prop} {k j i : Nat} {x : Str} {t : TA} {e : Expr} {es : List Expr} {p pos : Pos} (hr : Room j X.A) (hk : k ≤ j) (hN : X.N[i]? = some x) (hv : Vis X.env.scope x) (ha : PA X (e :: es) t) (hW : W = ⟨X.prog, X.w, X.K, X.mg, X.base, W.T⟩ := by rfl)
    (hd : (x == ("__debug__" : Str)) = false := by decide) (hcd : (x == ("__classdict__" : Str)) = false := by decide) (he : starEach (e :: es) X.env = (false, eval e X.env) :: starEach es X.env := by rfl) (hpl : (backTo pos (starEach es X.env)).any (·.1) = false := by rfl) :
    PE X (.Call (.Name x p) (e :: es) [] pos) (tAct W k R i t) := by
  refine ⟨fun pins s σ H Q I hyp => ?_⟩
  obtain ⟨f, Hs0, hs, a0, ht⟩ := hyp
  refine wpAny_Call_Name_kw (thn ((pe_var (pos := p) hN hv hd hcd).run pins s σ H (fun v H1 => v = .ref f ∧ H1 = H) I ⟨.ref f, hs, rfl, rfl⟩) fun u s1 ⟨v, H1, I1, r1, q1⟩ => ?_)
  obtain ⟨ev, eH⟩ := q1
  subst ev
  rw [eH] at I1
  obtain rfl : u = Value.ref f := r1
  refine PySem.W.callWith_F (first := []) (act_fn a0 I1) (thn (ha.run pos pins s1 σ H _ I1 ht) fun us s2 ⟨vs, H2, I2, r, Hs, ds, d, a2, x2, t2, av, hR, q⟩ => ⟨act_fn a2 I2, ?_⟩) he hpl
  show wpAny _ _ (call (.ref f) us) _ _ _
  obtain ⟨F, ps, fr, wvs, cds, cs, Rc, h1, h2, h3, h4, h5, h6, h7, h8, h9, h10, h11⟩ := a2.ex
  have nf : ∀ b o, cs.lookup b = some o → b ∉ frs X.stack := fun b o z y => by
    have g := I2.stkFree b y
    rw [h3 b o z] at g
    cases g
  have C : CellsAt F.cl fr (wvs.map some) s2.heap (minus H2 cs) := by
    refine ⟨by rw [List.length_map]; exact h7, fun y c e => ?_, h6, fun i y e => ?_⟩
    · obtain ⟨o, z⟩ := h5 y c e
      obtain ⟨v, hv⟩ := h4 c o z
      exact ⟨minus_in z, v, o, told_at I2.hok h3 z, hv⟩
    · obtain ⟨c, o, z1, z2, z3⟩ := h8 i y e
      refine ⟨c, z1, fun v hv => ?_⟩
      rw [List.getElem?_map] at hv
      cases hw : wvs[i]? with
      | none => rw [hw] at hv; cases hv
      | some v' =>
        rw [hw] at hv
        cases hv
        obtain ⟨u, ru, du⟩ := z3 v hw
        exact ⟨u, ru, o, told_at I2.hok h3 z2, du⟩
  have e0 := I2.env0
  have e1 : Env0 X.prog X.w X.K X.mg X.base X.A X.stack s2 (minus H2 cs) := by
    refine ⟨e0.frames, e0.mod, fun b o g => ⟨(e0.bs b o g).1, ?_⟩, e0.bsz, e0.funs, fun b g => ?_, hok_minus e0.hok h3, e0.bare⟩
    · cases z : cs.lookup b with
      | none => rw [minus_out z]; exact (e0.bs b o g).2
      | some o' => exact minus_in z
    · cases z : cs.lookup b with
      | none => rw [minus_out z]; exact e0.frf b g
      | some o' => exact minus_in z
  rw [hW] at h10
  have run := h10.run X.A X.stack s2 (minus H2 cs) us vs (wvs.map some) (fun v H4 => ∃ Hs4, Stp W.T none (minus Hs cs) (minus H2 cs) Hs4 H4 ∧ At Hs4 v d) C8.E0 (hr.mono hk) e1 (minus_fn h3 h4 h1) (minus_code h3 h4 h2) C r
    ⟨minus Hs cs, wvs, cds, ds, d, rfl, AtAll.minus h3 x2 _ h9, ext_minus h3 x2, minus_tabs h3 h4 t2, AtAll.minus h3 x2 _ av, h11 ds d hR, fun v Hs4 H4 s4 a4 => ⟨Hs4, s4, a4⟩⟩
  refine wpAny_call (codeAny_mono run fun r2 s4 hq => ?_)
  cases r2 with
  | error e => exact (show False from hq).elim
  | ok fl =>
    cases fl with
    | ret u =>
      refine I2.after (ce_again I2.hok h3 nf hq fun v H4 ⟨Hs4, s4, a4⟩ n4 => ?_)
      exact q v _ _ (stp_again x2 h3 n4 s4) (a4.up (again_ext n4 s4.x))
    | next => exact False.elim hq
    | brk => exact False.elim hq
    | cont => exact False.elim hq
end
section
variable {W : Wd} {k : Nat} {R : List D → D → Prop} {δ : List Sl} {tr : TA} {Φ : D → Prop}
theorem ev_act {i : Nat} (e : δ[i]? = some (.f (Act W k R))) (h : EvA W.T none tr δ fun ds => ∃ d, R ds d ∧ Φ d) : Ev W.T none (tAct W k R i tr) δ Φ := fun Hs H σ Q o q => by
  obtain ⟨w, e1, f, rfl, hf⟩ := o.at_ i _ e
  refine ⟨f, Hs, e1, hf Hs H (ExtN.refl _) (ExtE.refl _), ?_⟩
  refine h Hs H σ _ o fun ds vs H1s H1 ⟨d, hR, hp⟩ s1 a1 => ?_
  exact ⟨H1s, ds, d, hf H1s H1 s1.s (o.ee s1), s1.x, s1.t, a1, hR, fun v H2s H2 s2 a2 => q d v H2s H2 hp (s1.trans s2) a2⟩
end
/-- a function within a def keeps its promise -/
theorem nok_data {P : Program} {w : World} {K : PySem.W.Frag} {mg : Str → Option Value} {base : Heap} {T : List (Addr × Str)} {N ps fr : List Str} {F : NF} {f : Addr} {k : Nat} {R : List D → List D → D → Prop} (S : NScope N ps fr F.scope)
    (hb : ∀ (doc pm ctv : Value) (us : List Value), us.length = ps.length → bindArgs (F.fd doc pm ctv) ⟨us, []⟩ = pure (ps.zip us)) (hl : ∀ cds ds d, R cds ds d → ds.length = ps.length)
    (hbody : ∀ (A : Around) (outer : List PySem.Env) (s : Shared) (H : Hp) (E : XK), Room k (A.deeper (envF F f s.heap.objs.size)) → ∀ cds ds d, R cds ds d → cds.length = fr.length →
      ∃ t, PSs (ncx C8.CX0 P w K mg base N F f A outer s H E) F.body t ∧ Sv T none t (start0 N (ds ++ cds)) { nx := fun _ => d = .none, rt := fun y => y = d }) :
    NOk P w K mg base C8.CX0 (k + 1) f F ps fr (spC T R) := by
  refine nok_of (N := N) S hb (fun ws vs H Q E ⟨Hs, wvs, cds, ds, d, _, _, _, _, av, hR, _⟩ => by rw [av.len]; exact hl _ _ _ hR) fun A outer s H vs ws Q E hr _ _ lw ⟨Hs, wvs, cds, ds, d, ew, aw, x1, t1, av, hR, q⟩ => ?_
  have lc : cds.length = fr.length := by
    rw [← aw.len, ← lw, ew, List.length_map]
  obtain ⟨t, h1, h2⟩ := hbody A outer s H E hr cds ds d hR lc
  refine ⟨t, h1, ?_⟩
  have es : startF N vs ws = L2.start N (vs ++ wvs) := by
    unfold startF L2.start
    rw [ew, List.map_append, List.append_assoc, List.length_append, List.length_map, Nat.sub_sub]
  rw [es]
  refine h2 Hs H Hs H _ _ (start_ok x1 t1 (av.app aw)) (fun δ' a b c e n => ?_) (fun _ _ _ _ z => z.elim) (fun _ _ _ _ z => z.elim) fun y v a b e s1 at_ => ?_
  · have e : d = .none := e
    subst e
    exact q .non a b n.st .non
  · have e : y = d := e
    subst e
    exact q v a b s1 at_
end G
set_option Elab.async false
set_option linter.all false
set_option maxRecDepth 100000
set_option maxHeartbeats 1000000
/-! a def within a def, handed to another def -/
namespace G
open PySem PySem.Spec PyProof.Rows L2 LamX NdefX
theorem cells_new : ∀ (names : List (Str × NameKind)) (n : Nat) (acc : List (Str × Addr)), (∀ p ∈ acc, n ≤ p.2 ∨ True) → ∀ y c, (cellsFrom n names acc).lookup y = some c → n ≤ c ∨ acc.lookup y = some c
  | [], n, acc, _, y, c, h => .inr h
  | (z, k) :: r, n, acc, _, y, c, h => by
    unfold cellsFrom at h
    by_cases hk : (k == .cell) = true
    · rw [if_pos hk] at h
      rcases cells_new r (n + 1) ((z, n) :: acc) (fun _ _ => .inr trivial) y c h with q | q
      · exact .inl (Nat.le_of_succ_le q)
      · rw [List.lookup_cons] at q
        by_cases e : (y == z) = true
        · rw [e] at q
          cases q
          exact .inl (Nat.le_refl _)
        · have e' : (y == z) = false := by simpa using e
          rw [e'] at q
          exact .inr q
    · rw [if_neg hk] at h
      exact cells_new r n acc (fun _ _ => .inr trivial) y c h
theorem cells_ge {names : List (Str × NameKind)} {n : Nat} {y : Str} {c : Addr} (h : (cellsFrom n names []).lookup y = some c) : n ≤ c := by
  rcases cells_new names n [] (fun _ z => by cases z) y c h with q | q
  · exact q
  · cases q
section
variable {T : List (Addr × Str)} {ta : Option Addr} {δ : List Sl} {Hs H H0s H0 : Hp} {σ : L2.St}
/-- a slot that is known of is told so -/
theorem Ok.put {i : Nat} {sl : Sl} {o : Option V} (k : Ok T ta δ Hs H σ) (h : sl.ok ta Hs H o) (nl : ∀ xs, sl ≠ .l xs) : Ok T ta (δ.set i sl) Hs H (σ.set i o) := by
  have w := k.wipe1 i o
  refine ⟨w.ext, w.tab, w.tp, by rw [List.length_set, List.length_set, k.len], fun j s e => ?_, fun j1 j2 a xs ys e1 e2 q1 q2 => ?_⟩
  · by_cases z : i = j
    · subst z
      have hi : i < δ.length := by
        have := (List.getElem?_eq_some_iff.mp e).1
        rwa [List.length_set] at this
      rw [List.getElem?_set_self hi] at e
      cases e
      exact ⟨o, List.getElem?_set_self (by rw [k.len]; exact hi), h⟩
    · rw [List.getElem?_set_ne z] at e ⊢
      exact k.at_ j s e
  · have ne : ∀ (j : Nat) (zs : List D), (δ.set i sl)[j]? = some (.l zs) → i ≠ j := fun j zs e z => by
      subst z
      have hi : i < δ.length := by
        have := (List.getElem?_eq_some_iff.mp e).1
        rwa [List.length_set] at this
      rw [List.getElem?_set_self hi] at e
      exact nl zs (Option.some.inj e)
    have n1 := ne j1 xs e1
    have n2 := ne j2 ys e2
    rw [List.getElem?_set_ne n1] at e1 q1
    rw [List.getElem?_set_ne n2] at e2 q2
    exact k.apart j1 j2 a xs ys e1 e2 q1 q2
theorem In.put {i : Nat} {sl : Sl} {o : Option V} (n : In T ta H0s H0 δ Hs H σ) (h : sl.ok ta Hs H o) (nl : ∀ xs, sl ≠ .l xs) : In T ta H0s H0 (δ.set i sl) Hs H (σ.set i o) :=
  ⟨n.ok.put h nl, n.st, fun j xs a e q => by
    by_cases z : i = j
    · subst z
      have hi : i < δ.length := by
        have := (List.getElem?_eq_some_iff.mp e).1
        rwa [List.length_set] at this
      rw [List.getElem?_set_self hi] at e
      exact absurd (Option.some.inj e) (nl xs)
    · rw [List.getElem?_set_ne z] at e q
      exact n.fr j xs a e q⟩
def tabN (T : List (Addr × Str)) : List NTab := T.map fun p => (p.1, fun _ _ => p.2)
theorem tabN_of (h : Tabs T H) : TabsN (tabN T) H := fun p hp => by
  obtain ⟨q, hq, rfl⟩ := List.mem_map.mp hp
  exact TabN.of (h q hq)
theorem tabN_to (h : TabsN (tabN T) H) : Tabs T H := fun p hp => TabN.to (h _ (List.mem_map.mpr ⟨p, hp, rfl⟩))
/-- the function made by mk -/
def MadeBy (mk : Addr → NF) : Hp → Hp → Addr → Prop := fun _ H f => ∃ c', H f = some (FnO f (mk c')) ∧ H (mk c').c = some (CodeO (mk c').c (mk c').qual)
theorem sv_ndef {i : Nat} {mk : Addr → NF} {P : Po} (hc : ∀ c', (mk c').c = c') (h : P.nx (δ.set i (.f (MadeBy mk)))) : Sv T none (tNdef (tabN T) i mk) δ P := fun A B C E σ De n q1 q2 q3 q4 => by
  refine ⟨tabN_of n.ok.tab, fun f c' H1 eN tN hf h1 h2 => ?_⟩
  have st : Stp T none C E C H1 := ext_stp n.ok.ext eN (tabN_to tN)
  refine q1 _ C H1 _ h ((n.step st).put ⟨f, rfl, fun Hs' H' _ e => ⟨c', e _ _ h1, e _ _ ?_⟩⟩ (fun _ z => by cases z))
  rw [hc]
  exact h2
end
/-- a call with the cells told -/
def tTold (cl : List (Str × Addr)) (fr : List Str) (js : List Nat) (sp : Sp) (t : TA) : TE := fun σ H Q => t σ H fun vs H1 => ∀ cs : Cs, CellD cs → (∀ b o, cs.lookup b = some o → H1 b = none) → (∀ y c, cl.lookup y = some c → ∃ o, cs.lookup c = some o) → (∀ x y c, cl.lookup x = some c → cl.lookup y = some c → x = y) →
  (∀ (i : Nat) (y : Str), fr[i]? = some y → ∃ c o, cl.lookup y = some c ∧ cs.lookup c = some o ∧ ∀ v, (js.map (slotAt σ))[i]? = some (some v) → ∃ u, L2.RelV v u ∧ o.data = .cell (some u)) → sp vs (plus H1 cs) (fun v H3 => Told H3 cs ∧ Q v (minus H3 cs)) C8.E0
theorem look_of {c : Addr} {o : Obj} : ∀ {l : Cs}, (c, o) ∈ l → ∃ o', l.lookup c = some o'
  | [], h => by cases h
  | (b, u) :: r, h => by
    rw [List.lookup_cons]
    cases z : (c == b) with
    | true => exact ⟨u, rfl⟩
    | false =>
      rcases List.mem_cons.mp h with e | e
      · have : c = b := congrArg Prod.fst e
        rw [this] at z
        simp at z
      · exact look_of e
/-- the cells' objects -/
def cellObjs (cl : List (Str × Addr)) (h : Heap) : Cs := cl.filterMap fun p => if cl.lookup p.1 = some p.2 then (h.get? p.2).map fun o => (p.2, o) else none
theorem cellObjs_some {cl : List (Str × Addr)} {h : Heap} {b : Addr} {o : Obj} (e : (cellObjs cl h).lookup b = some o) : h.get? b = some o ∧ ∃ y, cl.lookup y = some b := by
  have m := He.lookup_mem e
  obtain ⟨p, hp, q⟩ := List.mem_filterMap.mp m
  split at q
  · rename_i z
    cases g : h.get? p.2 with
    | none => rw [g] at q; cases q
    | some o' =>
      rw [g] at q
      have q' : (p.2, o') = (b, o) := Option.some.inj q
      cases q'
      exact ⟨g, p.1, z⟩
  · cases q
theorem cellObjs_has {cl : List (Str × Addr)} {h : Heap} {y : Str} {c : Addr} {o : Obj} (e : cl.lookup y = some c) (g : h.get? c = some o) : (cellObjs cl h).lookup c = some o := by
  have m : (c, o) ∈ cellObjs cl h := List.mem_filterMap.mpr ⟨(y, c), PySem.mem_of_lookup e, by
    show (if cl.lookup y = some c then (h.get? c).map fun o => (c, o) else none) = _
    rw [if_pos e, g]
    rfl⟩
  obtain ⟨o', h1⟩ := look_of m
  have := (cellObjs_some h1).1
  rw [g] at this
  cases this
  exact h1
section
variable {X : Cx} {d : He.DefD} {ps : List Str} {k : Nat} {sp : Sp} {t : TA} {e : Expr} {es : List Expr} {p pos : Pos} {x : Str} {cl : List (Str × Addr)} {fr : List Str} {js : List Nat}
theorem pe_told (h : Keeps X.prog X.w X.K X.mg X.base d ps k sp) (hr : Room k X.A) (hg : Gl X x) (hm : X.mg x = some (.ref (He.fAd X.K d.at_))) (cp : X.Ok → Caps X cl fr js) (hnew : X.Ok → ∀ y c, cl.lookup y = some c → X.s_0.heap.objs.size ≤ c) (ha : PA X (e :: es) t)
    (hdb : (x == ("__debug__" : Str)) = false := by decide) (he : starEach (e :: es) X.env = (false, eval e X.env) :: starEach es X.env := by rfl) (hpl : (backTo pos (starEach es X.env)).any (·.1) = false := by rfl) :
    PE X (.Call (.Name x p) (e :: es) [] pos) (tTold cl fr js sp t) := by
  obtain ⟨fd, F, b⟩ := h.ex
  refine ⟨fun pins s σ H Q I hyp => ?_⟩
  refine wpAny_Call_Name_kw (ld_glob I hg hm ?_ hdb)
  refine PySem.W.callWith_K (h₀ := X.base) I.ok.mod.kin h.kp (thn (ha.run pos pins s σ H _ I hyp) fun us s1 ⟨vs, H1, I1, r, q⟩ => ⟨I1.kIn, ?_⟩) he hpl
  have C := cells_of I1 (cp I1.ok)
  have old : ∀ b' o, X.s_0.heap.get? b' = some o → ∀ y c, cl.lookup y = some c → b' ≠ c := fun b' o g y c e => Nat.ne_of_lt (Nat.lt_of_lt_of_le (Heap.lt_size g) (hnew I1.ok y c e))
  have hn : ∀ b' o, (cellObjs cl s1.heap).lookup b' = some o → H1 b' = none ∧ s1.heap.get? b' = some o := fun b' o z => by
    obtain ⟨g, y, hy⟩ := cellObjs_some z
    exact ⟨(C.all y b' hy).1, g⟩
  have q2 := q (cellObjs cl s1.heap) (fun b' o z => by
    obtain ⟨g, y, hy⟩ := cellObjs_some z
    obtain ⟨_, v, o', g', dv⟩ := C.all y b' hy
    rw [g] at g'
    cases g'
    exact ⟨v, dv⟩) (fun b' o z => (hn b' o z).1) (fun y c e => by
    obtain ⟨_, v, o', g', dv⟩ := C.all y c e
    exact ⟨o', cellObjs_has e g'⟩) C.inj (fun i y e => by
    obtain ⟨c, hc, hv⟩ := C.has i y e
    obtain ⟨_, v0, o0, g0, d0⟩ := C.all y c hc
    refine ⟨c, o0, hc, cellObjs_has hc g0, fun v ev => ?_⟩
    obtain ⟨u, ru, o1, g1, d1⟩ := hv v ev
    rw [g0] at g1
    cases g1
    exact ⟨u, ru, d1⟩)
  have e0 := I1.env0
  have e1 : Env0 X.prog X.w X.K X.mg X.base X.A X.stack s1 (plus H1 (cellObjs cl s1.heap)) := by
    refine ⟨e0.frames, e0.mod, fun b' o g => ⟨(e0.bs b' o g).1, ?_⟩, e0.bsz, e0.funs, fun b' g => ?_, hok_plus e0.hok hn, e0.bare⟩
    · cases z : (cellObjs cl s1.heap).lookup b' with
      | none => rw [plus_out z]; exact (e0.bs b' o g).2
      | some o' =>
        exfalso
        obtain ⟨_, y, hy⟩ := cellObjs_some z
        have := Heap.lt_size g
        have h2 := hnew I1.ok y b' hy
        have h3 := I1.ok.bsz
        exact absurd (Nat.lt_of_lt_of_le this (Nat.le_trans h3 h2)) (Nat.lt_irrefl _)
    · cases z : (cellObjs cl s1.heap).lookup b' with
      | none => rw [plus_out z]; exact e0.frf b' g
      | some o' =>
        exfalso
        obtain ⟨gz, y, hy⟩ := cellObjs_some z
        rcases List.mem_cons.mp (I1.stkSub b' g) with w | w
        · have c2 := (cp I1.ok).sub y b' hy
          exact I1.cne y b' c2 w
        · obtain ⟨_, o2, ho2, _⟩ := I1.ok.funs.mem w
          exact old b' o2 ho2 y b' hy rfl
  have hl : us.length = ps.length := by
    rw [← r.length]
    exact F.len _ _ _ _ q2
  have run := F.run X.A X.stack s1 (plus H1 (cellObjs cl s1.heap)) ⟨us, []⟩ us vs _ C8.E0 hr e1 (by have z := b s1 us I1.kIn (by rw [List.append_nil]; exact hl); rw [List.append_nil] at z; exact z) r q2
  show wpAny _ _ (call (.ref _) us) _ _ _
  refine wpAny_call (codeAny_mono run fun r2 s4 hq => ?_)
  cases r2 with
  | error e => exact (show False from hq).elim
  | ok fl =>
    cases fl with
    | ret u => exact I1.after (ce_plus hn hq fun v H3 z => z)
    | next => exact False.elim hq
    | brk => exact False.elim hq
    | cont => exact False.elim hq
end
/-! ### the promise of mapped -/
def leafP : Part → Prop
  | .nest _ _ _ => False
  | _ => True
def rAct (act : Part → Int → Plan) : List D → D → Prop := fun ds d => ∃ q m, ds = [encP q, .int m] ∧ leafP q ∧ d = enc (act q m)
structure MapOk (act : Part → Int → Plan) (m : Int) (p : Plan) : Prop where
  sm : SmL p
  cs : ∀ q m', leafP q → ∀ x ∈ act q m', Sm x.1
  it : itemsL (mapL act m p) ≤ 900000
def spM (W : Wd) (ka n : Nat) : Sp := fun vs H Q _ => ∃ (Hs : Hp) (vp : V) (f : Addr) (p : Plan) (m : Int) (act : Part → Int → Plan), vs = [vp, .int m, .ref f] ∧ At Hs vp (enc p) ∧ ExtN Hs H ∧ Tabs W.T H ∧ Act W ka (rAct act) Hs H f ∧ nestL p < n ∧ MapOk act m p ∧
  ∀ v Hs' H', Stp W.T none Hs H Hs' H' → At Hs' v (enc (mapL act m p)) → Q v H'
section
variable {W : Wd} {ka n : Nat} {δ : List Sl} {tx tb : TE} {Φ : D → Prop} {act : Part → Int → Plan}
theorem ev_callM {i : Nat} (e : δ[i]? = some (.f (Act W ka (rAct act)))) (h : Ev W.T none tx δ fun x => Ev W.T none tb δ fun y => ∃ p m, x = enc p ∧ y = .int m ∧ nestL p < n ∧ MapOk act m p ∧ Φ (enc (mapL act m p))) : Ev W.T none (tCall (spM W ka n) [] E0 (tCons tx (tCons tb (tCons (tVar i) tNil)))) δ Φ := fun Hs H σ Q o q => by
  refine h Hs H σ _ o fun x v H1s H1 h1 s1 a1 => ?_
  refine h1 H1s H1 σ _ (o.step s1) fun y u H2s H2 ⟨p, m, ex, ey, hn, mo, hp⟩ s2 a2 => ?_
  subst ex ey
  cases a2
  have s12 := s1.trans s2
  obtain ⟨w, e1, f, rfl, hf⟩ := (o.step s12).at_ i _ e
  refine ⟨_, e1, ?_⟩
  exact ⟨H2s, v, f, p, m, act, rfl, a1.up s2.s, s12.x, s12.t, hf H2s H2 (ExtN.refl _) (ExtE.refl _), hn, mo, fun v3 H3s H3 s3 a3 => q _ v3 H3s H3 hp (s12.trans s3) a3⟩
theorem caps_vals {T : List (Addr × Str)} {ta : Option Addr} {Hs H : Hp} {σ : L2.St} (o : Ok T ta δ Hs H σ) : ∀ {js : List Nat} {cds : List D}, js.map (fun j => δ[j]?) = cds.map (fun x => some (.d x)) → ∃ wvs : List V, js.map (slotAt σ) = wvs.map some ∧ AtAll Hs wvs cds
  | [], [], _ => ⟨[], rfl, .nil⟩
  | [], _ :: _, h => by cases h
  | _ :: _, [], h => by cases h
  | j :: js, x :: cds, h => by
    rw [List.map_cons, List.map_cons] at h
    injection h with h1 h2
    obtain ⟨v, e1, e2⟩ := o.get h1
    obtain ⟨wvs, e3, e4⟩ := caps_vals o h2
    exact ⟨v :: wvs, by rw [List.map_cons, List.map_cons, e3, slotAt_of e1], .cons e2 e4⟩
theorem ev_told {i0 i3 : Nat} {mk : Addr → NF} {ps fr : List Str} {js : List Nat} {cds : List D} {Rc : List D → List D → D → Prop} {cl : List (Str × Addr)} {p : Plan} (e0 : δ[i0]? = some (.d (enc p))) (e3 : δ[i3]? = some (.f (MadeBy mk))) (hcd : js.map (fun j => δ[j]?) = cds.map (fun x => some (.d x))) (hcl : ∀ c', (mk c').cl = cl) (hlen : js.length = fr.length)
    (nok : ∀ f c', NOk W.P W.w W.K W.mg W.base C8.CX0 ka f (mk c') ps fr (spC W.T Rc)) (cov : ∀ ds d, rAct act ds d → Rc cds ds d) (hn : nestL p < n) (mo : MapOk act 0 p) (hp : Φ (enc (mapL act 0 p))) :
    Ev W.T none (tTold cl fr js (spM W ka n) (tCons (tVar i0) (tCons (tC (.int 0)) (tCons (tVar i3) tNil)))) δ Φ := fun Hs H σ Q o q => by
  obtain ⟨v, ev, av⟩ := o.get e0
  obtain ⟨w, e1, f, rfl, hf⟩ := o.at_ i3 _ e3
  refine ⟨v, ev, _, e1, fun cs cd nn has inj cap => ?_⟩
  obtain ⟨c', h1, h2⟩ := hf Hs H (ExtN.refl _) (ExtE.refl _)
  obtain ⟨wvs, ew, aw⟩ := caps_vals o hcd
  have pe := plus_ext nn
  have ac : Act W ka (rAct act) Hs (plus H cs) f := by
    refine ⟨mk c', ps, fr, wvs, cds, cs, Rc, pe _ _ h1, pe _ _ h2, plus_told nn, cd, fun y c z => has y c (by rw [← hcl c']; exact z), fun x y c z1 z2 => inj x y c (by rw [← hcl c']; exact z1) (by rw [← hcl c']; exact z2), ?_, fun i y z => ?_, aw, nok f c', cov⟩
    · have := congrArg List.length ew
      rw [List.length_map, List.length_map] at this
      omega
    · obtain ⟨c, o', z1, z2, z3⟩ := cap i y z
      refine ⟨c, o', by rw [hcl c']; exact z1, z2, fun v' hv => z3 v' ?_⟩
      rw [ew, List.getElem?_map, hv]
      rfl
  refine ⟨Hs, v, f, p, 0, act, rfl, av, fun b u g y => pe b u (o.ext b u g y), o.tab.ext pe, ac, hn, mo, fun v3 H3s H3 s3 a3 => ?_⟩
  obtain ⟨t3, s4⟩ := stp_plus o.ext cd nn s3
  exact ⟨t3, q _ v3 _ _ hp s4 (At.minus t3 s3.x _ a3)⟩
end
/-- mapped's own rule -/
theorem def_okM {W : Wd} {N : List Str} {k ka n : Nat} (F : There W.K d_mapped ["plan", "depth", "action"]) (S : FnScope N ["plan", "depth", "action"] d_mapped.scope) (hN : 3 ≤ N.length)
    (hb : ∀ (cdv : Value) (A : Around) (outer : List PySem.Env) (s : Shared) (H : Hp) (E : XK), Room k (A.deeper (PyProof.Rows.envOfC d_mapped.qual d_mapped.scope s.heap.objs.size (He.fAd W.K d_mapped.at_) cdv)) → ∀ (p : Plan) (m : Int) (act : Part → Int → Plan), nestL p < n → MapOk act m p →
      ∃ t, PSs (cxOf CX0 W.P W.w W.K W.mg W.base N d_mapped.qual d_mapped.scope (He.fAd W.K d_mapped.at_) cdv A outer s H E).nox d_mapped.body t ∧ Sv W.T none t ([.d (enc p), .d (.int m), .f (Act W ka (rAct act))] ++ List.replicate (N.length - 3) .any) { nx := fun _ => False, rt := fun y => y = enc (mapL act m p) }) :
    Keeps W.P W.w W.K W.mg W.base d_mapped ["plan", "depth", "action"] (k + 1) (spM W ka n) := by
  obtain ⟨fd, F, b⟩ := F.ex
  refine ⟨⟨fd, F.ok S (fun vs H Q E ⟨Hs, vp, f, p, m, act, e, _⟩ => by rw [e]; rfl) fun cdv A outer s H vs Q E hr ⟨Hs, vp, f, p, m, act, e, a, x, tb, ac, hn, mo, q⟩ => ?_, b⟩, F.kp⟩
  subst e
  obtain ⟨t, h1, h2⟩ := hb cdv A outer s H E hr p m act hn mo
  refine ⟨t, h1.nox, ?_⟩
  have s0 : In W.T none Hs H (start0 N [enc p, .int m]) Hs H (L2.start N [vp, .int m]) := start_ok x tb (.cons a (.cons (.int m) .nil))
  have s1 := s0.put (i := 2) (sl := .f (Act W ka (rAct act))) (o := some (.ref f)) ⟨f, rfl, fun Hs' H' x1 x2 => ac.up x1 x2⟩ (fun _ z => by cases z)
  have eδ : (start0 N [enc p, .int m]).set 2 (.f (Act W ka (rAct act))) = [.d (enc p), .d (.int m), .f (Act W ka (rAct act))] ++ List.replicate (N.length - 3) .any := by
    unfold start0
    obtain ⟨j, hj⟩ : ∃ j, N.length = j + 3 := ⟨N.length - 3, by omega⟩
    rw [hj]
    simp [List.replicate_succ, List.set]
  have eσ : (L2.start N [vp, .int m]).set 2 (some (.ref f)) = L2.start N [vp, .int m, .ref f] := by
    unfold L2.start
    obtain ⟨j, hj⟩ : ∃ j, N.length = j + 3 := ⟨N.length - 3, by omega⟩
    rw [hj]
    simp [List.replicate_succ, List.set]
  rw [eδ, eσ] at s1
  exact h2 Hs H Hs H _ _ s1 (fun _ _ _ _ z => z.elim) (fun _ _ _ _ z => z.elim) (fun _ _ _ _ z => z.elim) fun y v a b e s1 at_ => by
    have e : y = enc (mapL act m p) := e
    subst e
    exact q v a b s1 at_
end G
set_option Elab.async false
set_option linter.all false
set_option maxRecDepth 100000
set_option maxHeartbeats 1000000
/-! mapped, raised, brought -/
namespace G
open PySem PySem.Spec L2 LamX NdefX
/-- the word that a part begins with -/
def kindOf : Part → Str
  | .name _ => "name"
  | .got _ => "got"
  | .nest k _ _ => kindS k
theorem kf {p : Part} {a s : Str} (e : kindOf p = a) (h : decide (a = s) = false) : decide (kindOf p = s) = false := by rw [e]; exact h
theorem et_kind {T : List (Addr × Str)} {ta : Option Addr} {δ : List Sl} {K : PySem.W.Frag} {i : Nat} {p : Part} {s : Str} {Φ : Bool → Prop} (e : δ[i]? = some (.d (encP p))) (h : Φ (decide (kindOf p = s))) (ok : PyData.strOk s = true := by decide +kernel) :
    EvT T ta (tTest (tOp (rEqA K) (tOp (rIxT K) (tVar i) (tC (.int 0))) (tC (.str s)))) δ Φ := by
  cases p <;> (simp only [encP] at e; exact et_ixS e rfl h ok)
theorem MapOk.body {act : Part → Int → Plan} {m : Int} {p : Plan} {c : Int} {k : Bool} {d : Nat} {b : Plan} (h : MapOk act m p) (hx : (c, Part.nest k d b) ∈ p) : MapOk act (if k then m + 1 else m) b := by
  refine ⟨(h.sm.mem hx).1.body, h.cs, ?_⟩
  obtain ⟨p1, p2, e⟩ := List.append_of_mem hx
  have hi := h.it
  rw [e, mapL_append, itemsL_append] at hi
  simp only [mapL, mapP, itemsL_append, scale_single, itemsL, itemsP] at hi
  omega
section
variable {W : Wd} {k : Nat}
theorem k_mapped (B : Bs W.K W.mg) {ka n : Nat} (hka : ka ≤ k) (h_mapped : Keeps W.P W.w W.K W.mg W.base d_mapped ["plan", "depth", "action"] k (spM W ka n)) : Keeps W.P W.w W.K W.mg W.base d_mapped ["plan", "depth", "action"] (k + 1) (spM W ka (n + 1)) :=
  def_okM B.t_mapped sc_mapped (by decide) fun cdv A outer s H E hr p m act hn mo => by
    refine ⟨_, (pss_cons (ps_set (i := 3) sc_mapped.nd rfl (Or.inl rfl) (pe_lst pa_nil))
    (pss_cons (ps_for PassesOwn.never rfl (pi_tup (pv 0)) (pg_tupK W.K (n := 2) (by rfl) (pgs_cons (pg_name (i := 4) sc_mapped.nd rfl (Or.inr rfl)) (pgs_cons (pg_name (i := 5) sc_mapped.nd rfl (Or.inl rfl)) pgs_nil))) (pss_one (ps_if (pt_cmpR (op_eqK W.K (u200 hr)) (pe_ix (ix_tupK W.K) (pv 5) pe_int (fun _ _ => rfl)) pe_str (nomark _)) (pss_one (ps_expr (pe_bm PySem.F.plainAttrs_list PySem.F.slot_list_append PySem.F.type_list_append mt_append (pv 3) (pa_cons (pe_tup (pa_cons (pv 4) (pa_cons (pe_tup (pa_cons pe_str (pa_cons (pe_ix (ix_tupK W.K) (pv 5) pe_int (fun _ _ => rfl)) (pa_cons (pe_k h_mapped hr rfl B.m_mapped (pa_cons (pe_ix (ix_tupK W.K) (pv 5) pe_int (fun _ _ => rfl)) (pa_cons (pv 1) (pa_cons (pv 2) pa_nil)))) pa_nil)))) pa_nil))) pa_nil)))) (pss_one (ps_if (pt_cmpR (op_eqK W.K (u200 hr)) (pe_ix (ix_tupK W.K) (pv 5) pe_int (fun _ _ => rfl)) pe_str (nomark _)) (pss_one (ps_expr (pe_bm PySem.F.plainAttrs_list PySem.F.slot_list_append PySem.F.type_list_append mt_append (pv 3) (pa_cons (pe_tup (pa_cons (pv 4) (pa_cons (pe_tup (pa_cons pe_str (pa_cons (pe_ix (ix_tupK W.K) (pv 5) pe_int (fun _ _ => rfl)) (pa_cons (pe_k h_mapped hr rfl B.m_mapped (pa_cons (pe_ix (ix_tupK W.K) (pv 5) pe_int (fun _ _ => rfl)) (pa_cons (pe_op op_add (pv 1) pe_int) (pa_cons (pv 2) pa_nil)))) pa_nil)))) pa_nil))) pa_nil)))) (pss_one (ps_expr (pe_bm PySem.F.plainAttrs_list PySem.F.slot_list_extend PySem.F.type_list_extend mt_extend (pv 3) (pa_cons (pe_lc (own := [("many", 6), ("other", 7)]) rfl sc_mapped.nd (pi_tup (pe_act (W := W) (R := rAct act) (k := ka) (i := 2) hr hka rfl (Or.inl rfl) (pa_cons (pv 5) (pa_cons (pv 1) pa_nil)))) (blkOk_by (own := [("many", 6), ("other", 7)]) (N := n_mapped) (sc := defScope s_mapped) (by decide +kernel)) (fun _ _ _ _ _ => (pg_tupK W.K (n := 2) (by rfl) (pgs_cons (pg_name (i := 6) sc_mapped.nd rfl (Or.inl rfl)) (pgs_cons (pg_name (i := 7) sc_mapped.nd rfl (Or.inl rfl)) pgs_nil)))) (fun _ _ _ _ _ => pts_nil) (fun _ _ _ _ _ => (pe_tup (pa_cons (pe_op op_mulB (pv 4) (pv 6)) (pa_cons (pv 7) pa_nil))))) pa_nil)))))))))
    (pss_one (ps_ret (pe_callTy call_tuple_of (by rfl) B.tuple (by decide +kernel) (pa_cons (pv 3) pa_nil)))))), ?_⟩
    show Sv _ _ _ [.d (enc p), .d (.int m), .f (Act W ka (rAct act)), .any, .any, .any, .any, .any] _
    refine sv_seq (sv_setL (evl_lst (ea_nil ⟨by decide, ?_⟩)))
    refine sv_seq (sv_for (js := [4] ++ [5]) (ei_tup (ev_var rfl ⟨_, rfl, fun i δ => ∃ A s4 s5 s6 s7, δ = [.d (enc p), .d (.int m), .f (Act W ka (rAct act)), .l (encL A), s4, s5, s6, s7] ∧ A = mapL act m (p.take i), ⟨[], _, _, _, _, rfl, by simp [mapL]⟩, ?_, ?_⟩)))
    · rintro i x δ hx ⟨A, s4, s5, s6, s7, rfl, eA⟩
      obtain ⟨⟨c, q⟩, e, rfl⟩ := encL_get hx
      have hm := List.mem_of_getElem? e
      have h2 : nestP q ≤ nestL p := nestL_mem hm
      have et := mapL_take (act := act) (m := m) e
      have li := mapL_part act m p (i + 1)
      have lA : A.length ≤ itemsL A := len_le_items A
      have mit := mo.it
      rw [et, ← eA, itemsL_append, itemsL_scale] at li
      refine gt_pair (gt_name (gt_name ?_))
      cases q with
      | nest kd d b =>
        have mb := mo.body hm
        simp only [nestP] at h2
        simp only [mapP, itemsL, itemsP] at li
        have en : encL A ++ [.tuple [.int c, .tuple [.str (kindS kd), .str (chr d), .tuple (encL (mapL act (if kd then m + 1 else m) b))]]] = encL (mapL act m (p.take (i + 1))) := by
          rw [et, ← eA, encL_append]
          simp [mapP, scale_single, encL, encP]
        cases kd with
        | false =>
          refine sv_ifT (et_kind (p := .nest false d b) rfl rfl) ?_
          simp only [encP]
          refine sv_append rfl (by rw [encL_len]; omega) (ev_tup (ea2 (ev_var rfl (ev_tup (ea3 (ev_str (ev_ix rfl rfl (ev_callM rfl (ev_ix rfl rfl (ev_var rfl ⟨b, m, rfl, rfl, by omega, mb, (by show 3 ≤ 1000000; decide), (by show 2 ≤ 1000000; decide), ?_⟩))))))))))
          exact ⟨mapL act m (p.take (i + 1)), _, _, _, _, by rw [← en]; rfl, rfl⟩
        | true =>
          refine sv_ifF (et_kind (p := .nest true d b) rfl (kf (a := "wait") rfl (by decide))) (sv_ifT (et_kind (p := .nest true d b) rfl rfl) ?_)
          simp only [encP]
          refine sv_append rfl (by rw [encL_len]; omega) (ev_tup (ea2 (ev_var rfl (ev_tup (ea3 (ev_str (ev_ix rfl rfl (ev_callM rfl (ev_ix rfl rfl (ev_op (ev_var rfl (ev_int (rv_i0 ⟨b, m + 1, rfl, rfl, by omega, mb, (by show 3 ≤ 1000000; decide), (by show 2 ≤ 1000000; decide), ?_⟩)))))))))))))
          exact ⟨mapL act m (p.take (i + 1)), _, _, _, _, by rw [← en]; rfl, rfl⟩
      | name w =>
        refine sv_ifF (et_kind (p := .name w) rfl (kf (a := "name") rfl (by decide))) (sv_ifF (et_kind (p := .name w) rfl (kf (a := "name") rfl (by decide))) ?_)
        have cc : Sm c := mo.sm.cnt hm
        have en : encL A ++ (act (.name w) m).filterMap (fun x => some (PyData.tuple [.int (c * x.1), encP x.2])) = encL (mapL act m (p.take (i + 1))) := by
          rw [et, ← eA, encL_append, ← encL_scale]
          rfl
        have la : (act (.name w) m).length ≤ itemsL (act (.name w) m) := len_le_items _
        simp only [mapP] at li
        refine sv_extend rfl (evs_l (evl_lcM (js := [6] ++ [7]) (by simp) (ei_tup (ev_act rfl (ea2 (ev_var rfl (ev_var rfl ⟨_, ⟨.name w, m, rfl, trivial, rfl⟩, _, rfl, act (.name w) m, encI, fun x => some (.tuple [.int (c * x.1), encP x.2]), encL_map _, by omega, ?_, ?_, ?_⟩)))))))
        · rintro ⟨c2, q2⟩ h3
          exact turn2 (ev_tup (ea2 (ev_op (ev_var rfl (ev_var rfl (rv_i (cc.mul (mo.cs (.name w) m trivial _ h3)) (ev_var rfl ⟨(by show 2 ≤ 1000000; decide), rfl⟩)))))))
        · have z := congrArg List.length en
          rw [List.length_append] at z
          rw [z, encL_len]
          have := len_le_items (mapL act m (p.take (i + 1)))
          rw [et, ← eA, itemsL_append, itemsL_scale] at this
          simp only [mapP] at this
          rw [et, ← eA]
          simp only [mapP]
          omega
        · exact ⟨mapL act m (p.take (i + 1)), _, _, _, _, by rw [← en]; rfl, rfl⟩
      | got w =>
        refine sv_ifF (et_kind (p := .got w) rfl (kf (a := "got") rfl (by decide))) (sv_ifF (et_kind (p := .got w) rfl (kf (a := "got") rfl (by decide))) ?_)
        have cc : Sm c := mo.sm.cnt hm
        have en : encL A ++ (act (.got w) m).filterMap (fun x => some (PyData.tuple [.int (c * x.1), encP x.2])) = encL (mapL act m (p.take (i + 1))) := by
          rw [et, ← eA, encL_append, ← encL_scale]
          rfl
        have la : (act (.got w) m).length ≤ itemsL (act (.got w) m) := len_le_items _
        simp only [mapP] at li
        refine sv_extend rfl (evs_l (evl_lcM (js := [6] ++ [7]) (by simp) (ei_tup (ev_act rfl (ea2 (ev_var rfl (ev_var rfl ⟨_, ⟨.got w, m, rfl, trivial, rfl⟩, _, rfl, act (.got w) m, encI, fun x => some (.tuple [.int (c * x.1), encP x.2]), encL_map _, by omega, ?_, ?_, ?_⟩)))))))
        · rintro ⟨c2, q2⟩ h3
          exact turn2 (ev_tup (ea2 (ev_op (ev_var rfl (ev_var rfl (rv_i (cc.mul (mo.cs (.got w) m trivial _ h3)) (ev_var rfl ⟨(by show 2 ≤ 1000000; decide), rfl⟩)))))))
        · have z := congrArg List.length en
          rw [List.length_append] at z
          rw [z, encL_len]
          have := len_le_items (mapL act m (p.take (i + 1)))
          rw [et, ← eA, itemsL_append, itemsL_scale] at this
          simp only [mapP] at this
          rw [et, ← eA]
          simp only [mapP]
          omega
        · exact ⟨mapL act m (p.take (i + 1)), _, _, _, _, by rw [← en]; rfl, rfl⟩
    · rintro δ ⟨A, s4, s5, s6, s7, rfl, eA⟩
      refine sv_ret (ev_tupleS (evs_own rfl ?_))
      rw [eA, encL_len, List.take_length]
end
end G
set_option Elab.async false
set_option linter.all false
set_option maxRecDepth 100000
set_option maxHeartbeats 1000000
/-! raised, brought -/
namespace G
open PySem PySem.Spec L2 LamX NdefX
abbrev st_lift : Stmt := d_raised.body.getD 0 (.Pass ⟨0, 0, 0, 0⟩)
abbrev st_bring : Stmt := d_brought.body.getD 0 (.Pass ⟨0, 0, 0, 0⟩)
abbrev n_lift : List Str := ["part", "depth", "by", "least"]
abbrev n_bring : List Str := ["part", "depth", "other"]
theorem sc_lift : NScope n_lift ["part", "depth"] ["by", "least"] (defScope st_lift) := nscope_by (by decide +kernel)
theorem sc_bring : NScope n_bring ["part", "depth"] ["other"] (defScope st_bring) := nscope_by (by decide +kernel)
def mkLift (q : Str) (cl : List (Str × Addr)) (c' : Addr) : NF := ⟨"lift", q, C8.fnArgs st_lift, C8.fnBody st_lift, defScope st_lift, cl, c'⟩
def mkBring (q : Str) (cl : List (Str × Addr)) (c' : Addr) : NF := ⟨"bring", q, C8.fnArgs st_bring, C8.fnBody st_bring, defScope st_bring, cl, c'⟩
def rLift : List D → List D → D → Prop := fun cds ds d => ∃ u l q m, cds = [.int u, .int l] ∧ ds = [encP q, .int m] ∧ leafP q ∧ d = enc (liftA u l q m)
section
variable {W : Wd} {k : Nat}
theorem k_lift (B : Bs W.K W.mg) {q : Str} {cl : List (Str × Addr)} {f c' : Addr} : NOk W.P W.w W.K W.mg W.base C8.CX0 1 f (mkLift q cl c') ["part", "depth"] ["by", "least"] (spC W.T rLift) := by
  refine nok_data (k := 0) (N := n_lift) sc_lift (fun _ _ _ us hu => by
    obtain ⟨a, b, rfl⟩ : ∃ a b, us = [a, b] := by
      match us, hu with
      | [a, b], _ => exact ⟨a, b, rfl⟩
    rfl) (by rintro _ _ _ ⟨u, l, q, m, _, rfl, _, _⟩; rfl) fun A outer s H E hr cds ds d ⟨u, l, q, m, e1, e2, lf, e3⟩ _ => ?_
  subst e1 e2 e3
  refine ⟨_, (pss_cons (ps_if (PW.pt (pw_and (pt_cmpR (op_eqK W.K (u200 hr)) (pe_ix (ix_tupK W.K) (pv 0) pe_int (fun _ _ => rfl)) pe_str (nomark _)) (pw_and1 (pt_cmpR op_ge (pe_ix (ix_tupK W.K) (pv 0) pe_int (fun _ _ => rfl)) (pe_op op_add (pv 1) (pv 3)) (nomark _))))) (pss_one (ps_ret (pe_tup (pa_cons (pe_tup (pa_cons pe_int (pa_cons (pe_tup (pa_cons pe_str (pa_cons (pe_op op_add (pe_ix (ix_tupK W.K) (pv 0) pe_int (fun _ _ => rfl)) (pv 2)) pa_nil))) pa_nil))) pa_nil)))) pss_nil)
    (pss_one (ps_ret (pe_tup (pa_cons (pe_tup (pa_cons pe_int (pa_cons (pv 0) pa_nil))) pa_nil))))), ?_⟩
  show Sv _ _ _ [.d (encP q), .d (.int m), .d (.int u), .d (.int l)] _
  have one : Ev W.T none (tTup (tCons (tTup (tCons (tC (.int 1)) (tCons (tVar 0) tNil))) tNil)) [.d (encP q), .d (.int m), .d (.int u), .d (.int l)] (· = enc [(1, q)]) := ev_tup (ea1 (ev_tup (ea2 (ev_int (ev_var rfl ⟨(by show 2 ≤ 1000000; decide), (by show 1 ≤ 1000000; decide), by simp [encL]⟩)))))
  cases q with
  | nest _ _ _ => exact lf.elim
  | name w => exact sv_seq (sv_ifF (et_and1 (et_kind (p := .name w) rfl (kf (a := "name") rfl (by decide)))) (sv_next (sv_ret one)))
  | got i =>
    refine sv_seq (sv_ifP (m + l ≤ i) ((et_andB (a := true) (b := decide (m + l ≤ i)) (et_kind (p := .got i) rfl rfl) fun _ => et_TE ?_).imp fun b e => by rw [e]; rfl) (fun z => ?_) fun z => ?_)
    · simp only [encP]
      exact ev_op (ev_ix rfl rfl (ev_op (ev_var rfl (ev_var rfl (rv_i0 (rv_b0 rfl))))))
    · refine sv_ret ?_
      simp only [encP, liftA, if_pos z]
      exact ev_tup (ea1 (ev_tup (ea2 (ev_int (ev_tup (ea2 (ev_str (ev_op (ev_ix rfl rfl (ev_var rfl (rv_i0 ⟨(by show 2 ≤ 1000000; decide), (by show 2 ≤ 1000000; decide), (by show 1 ≤ 1000000; decide), by simp [encL, encP]⟩)))))))))))
    · refine sv_next (sv_ret ?_)
      simp only [liftA, if_neg z]
      exact one
def rRaised (n : Nat) : List D → D → Prop := fun ds y => ∃ p u l, ds = [enc p, .int u, .int l] ∧ nestL p < n ∧ SmL p ∧ itemsL p ≤ 900000 ∧ y = enc (raiseL u l p)
theorem liftA_one (u l : Int) : ∀ (q : Part) (m : Int), leafP q → ∀ x ∈ liftA u l q m, x.1 = 1
  | .name w, m, _, x, hx => by
    simp [liftA] at hx
    rw [hx]
  | .got i, m, _, x, hx => by
    simp only [liftA] at hx
    split at hx <;> (simp at hx; rw [hx])
  | .nest k d b, m, h, x, hx => h.elim
theorem k_raised (B : Bs W.K W.mg) (BT : Tb W) {n : Nat} (h_mapped : Keeps W.P W.w W.K W.mg W.base d_mapped ["plan", "depth", "action"] k (spM W 1 n)) : Kp W d_raised ["plan", "by", "least"] (k + 1) (rRaised n) :=
  def_okC B.t_raised sc_raised (by rintro _ _ ⟨p, u, l, rfl, _, _, _, rfl⟩; rfl) fun A outer s H E hr ds y ⟨p, u, l, e, hn, sm, it, e2⟩ => by
    subst e e2
    have hT := BT.at_ 1 (p := d_raised.at_) (q := (("raised" : Str) ++ ".<locals>.") ++ "lift")
    have hfree := ndef_free (sc := defScope s_raised) (nsc := defScope st_lift) (fr := ["by", "least"]) (by decide +kernel)
    have hfr := ndef_fr (sc := defScope s_raised) (nsc := defScope st_lift) (fr := ["by", "least"]) (by decide +kernel)
    refine ⟨_, pss_cons (ps_ndef (i := 3) (T := tabN W.T) (nm := fun _ _ => (("raised" : Str) ++ ".<locals>.") ++ "lift") hT.1 rfl (List.mem_map.mpr ⟨_, hT.2.1, rfl⟩) rfl (fun z hz e => by
      obtain ⟨y, hy, rfl⟩ := List.mem_map.mp hz
      have := hT.2.2 y hy e
      simp only [this]) hfree rfl rfl rfl sc_raised.nd rfl (Or.inl rfl) (Or.inr rfl))
      (pss_one (ps_ret (pe_told h_mapped hr rfl B.m_mapped (fr := ["by", "least"]) (js := [1, 2]) (fun ok => Caps.made ok hfree hfr rfl) (fun ok y c e => Nat.le_of_succ_le (cells_ge ((Caps.made (js := [1, 2]) ok hfree hfr rfl).sub y c e))) (pa_cons (pv 0) (pa_cons pe_int (pa_cons (pv 3) pa_nil)))))), ?_⟩
    show Sv _ _ _ [.d (enc p), .d (.int u), .d (.int l), .any] _
    refine sv_seq (sv_ndef (fun _ => rfl) (sv_ret ?_))
    refine ev_told (act := liftA u l) (cds := [.int u, .int l]) (ps := ["part", "depth"]) (Rc := rLift) rfl rfl rfl (fun _ => rfl) rfl (fun f c' => k_lift B) (fun ds d ⟨q, m, e1, lf, e2⟩ => ⟨u, l, q, m, rfl, e1, lf, e2⟩) hn ⟨sm, fun q m lf x hx => by rw [liftA_one u l q m lf x hx]; exact sm_one, by rw [lift_raise, raiseL_items]; exact it⟩ ?_
    rw [lift_raise]
def rBring (n : Nat) : List D → List D → D → Prop := fun cds ds d => ∃ o q m, cds = [enc o] ∧ ds = [encP q, .int m] ∧ leafP q ∧ nestL o < n ∧ SmL o ∧ itemsL o ≤ 900000 ∧ d = enc (bringA o q m)
theorem k_bring (B : Bs W.K W.mg) {n : Nat} (h_raised : Kp W d_raised ["plan", "by", "least"] k (rRaised n)) {q : Str} {cl : List (Str × Addr)} {f c' : Addr} : NOk W.P W.w W.K W.mg W.base C8.CX0 (k + 1) f (mkBring q cl c') ["part", "depth"] ["other"] (spC W.T (rBring n)) := by
  refine nok_data (k := k) (N := n_bring) sc_bring (fun _ _ _ us hu => by
    obtain ⟨a, b, rfl⟩ : ∃ a b, us = [a, b] := by
      match us, hu with
      | [a, b], _ => exact ⟨a, b, rfl⟩
    rfl) (by rintro _ _ _ ⟨o, q, m, _, rfl, _, _⟩; rfl) fun A outer s H E hr cds ds d ⟨o, q, m, e1, e2, lf, hn, sm, it, e3⟩ _ => ?_
  subst e1 e2 e3
  refine ⟨_, (pss_cons (ps_if (PW.pt (pw_and (pt_cmpR (op_eqK W.K (u200 hr)) (pe_ix (ix_tupK W.K) (pv 0) pe_int (fun _ _ => rfl)) pe_str (nomark _)) (pw_and1 (pt_cmpR (op_eqK W.K (u200 hr)) (pe_ix (ix_tupK W.K) (pv 0) pe_int (fun _ _ => rfl)) (pv 1) (nomark _))))) (pss_one (ps_ret (pe_k h_raised hr rfl B.m_raised (pa_cons (pv 2) (pa_cons (pv 1) (pa_cons pe_int pa_nil)))))) pss_nil)
    (pss_cons (ps_if (PW.pt (pw_and (pt_cmpR (op_eqK W.K (u200 hr)) (pe_ix (ix_tupK W.K) (pv 0) pe_int (fun _ _ => rfl)) pe_str (nomark _)) (pw_and1 (pt_cmpR op_gt (pe_ix (ix_tupK W.K) (pv 0) pe_int (fun _ _ => rfl)) (pv 1) (nomark _))))) (pss_one (ps_ret (pe_tup (pa_cons (pe_tup (pa_cons pe_int (pa_cons (pe_tup (pa_cons pe_str (pa_cons (pe_op op_sub (pe_ix (ix_tupK W.K) (pv 0) pe_int (fun _ _ => rfl)) pe_int) pa_nil))) pa_nil))) pa_nil)))) pss_nil)
    (pss_one (ps_ret (pe_tup (pa_cons (pe_tup (pa_cons pe_int (pa_cons (pv 0) pa_nil))) pa_nil)))))), ?_⟩
  show Sv _ _ _ [.d (encP q), .d (.int m), .d (enc o)] _
  have one : Ev W.T none (tTup (tCons (tTup (tCons (tC (.int 1)) (tCons (tVar 0) tNil))) tNil)) [.d (encP q), .d (.int m), .d (enc o)] (· = enc [(1, q)]) := ev_tup (ea1 (ev_tup (ea2 (ev_int (ev_var rfl ⟨(by show 2 ≤ 1000000; decide), (by show 1 ≤ 1000000; decide), by simp [encL]⟩)))))
  cases q with
  | nest _ _ _ => exact lf.elim
  | name w => exact sv_seq (sv_ifF (et_and1 (et_kind (p := .name w) rfl (kf (a := "name") rfl (by decide)))) (sv_next (sv_seq (sv_ifF (et_and1 (et_kind (p := .name w) rfl (kf (a := "name") rfl (by decide)))) (sv_next (sv_ret one))))))
  | got i =>
    refine sv_seq (sv_ifP (i = m) ((et_andB (a := true) (b := decide (i = m)) (et_kind (p := .got i) rfl rfl) fun _ => et_TE ?_).imp fun b e => by rw [e]; rfl) (fun z => ?_) fun z => ?_)
    · simp only [encP]
      exact ev_op (ev_ix rfl rfl (ev_var rfl (rv_eqI rfl)))
    · refine sv_ret ?_
      simp only [bringA, if_pos z]
      exact ev_call (ea3 (ev_var rfl (ev_var rfl (ev_int ⟨_, ⟨o, m, 0, rfl, hn, sm, it, rfl⟩, rfl⟩))))
    · refine sv_next (sv_seq (sv_ifP (m < i) ((et_andB (a := true) (b := decide (m < i)) (et_kind (p := .got i) rfl rfl) fun _ => et_TE ?_).imp fun b e => by rw [e]; rfl) (fun y => ?_) fun y => ?_))
      · simp only [encP]
        exact ev_op (ev_ix rfl rfl (ev_var rfl (rv_b0 rfl)))
      · refine sv_ret ?_
        simp only [encP, bringA, if_neg z, if_pos y]
        exact ev_tup (ea1 (ev_tup (ea2 (ev_int (ev_tup (ea2 (ev_str (ev_op (ev_ix rfl rfl (ev_int (rv_i0 ⟨(by show 2 ≤ 1000000; decide), (by show 2 ≤ 1000000; decide), (by show 1 ≤ 1000000; decide), by simp [encL, encP]⟩)))))))))))
      · refine sv_next (sv_ret ?_)
        simp only [bringA, if_neg z, if_neg y]
        exact one
theorem bringA_sm {o : Plan} (sm : SmL o) : ∀ (q : Part) (m : Int), leafP q → ∀ x ∈ bringA o q m, Sm x.1
  | .name w, m, _, x, hx => by
    simp [bringA] at hx
    rw [hx]
    exact sm_one
  | .got i, m, _, x, hx => by
    simp only [bringA] at hx
    split at hx
    · rw [raiseL_map] at hx
      obtain ⟨y, hy, rfl⟩ := List.mem_map.mp hx
      exact (show Sm y.1 from sm.cnt hy)
    · split at hx <;> (simp at hx; rw [hx]; exact sm_one)
  | .nest k d b, m, h, x, hx => h.elim
def rBrought (n : Nat) : List D → D → Prop := fun ds y => ∃ b o, ds = [enc b, enc o] ∧ nestL b < n ∧ nestL o < n ∧ SmL b ∧ SmL o ∧ itemsL o ≤ 900000 ∧ itemsL (bring b o) ≤ 900000 ∧ y = enc (bring b o)
theorem k_brought (B : Bs W.K W.mg) (BT : Tb W) {n j : Nat} (h_raised : Kp W d_raised ["plan", "by", "least"] j (rRaised n)) (h_mapped : Keeps W.P W.w W.K W.mg W.base d_mapped ["plan", "depth", "action"] k (spM W (j + 1) n)) : Kp W d_brought ["body", "other"] (k + 1) (rBrought n) :=
  def_okC B.t_brought sc_brought (by rintro _ _ ⟨b, o, rfl, _, _, _, _, _, _, rfl⟩; rfl) fun A outer s H E hr ds y ⟨b, o, e, hn, hno, sm, smo, ito, it, e2⟩ => by
    subst e e2
    have hT := BT.at_ 2 (p := d_brought.at_) (q := (("brought" : Str) ++ ".<locals>.") ++ "bring")
    have hfree := ndef_free (sc := defScope s_brought) (nsc := defScope st_bring) (fr := ["other"]) (by decide +kernel)
    have hfr := ndef_fr (sc := defScope s_brought) (nsc := defScope st_bring) (fr := ["other"]) (by decide +kernel)
    refine ⟨_, pss_cons (ps_ndef (i := 2) (T := tabN W.T) (nm := fun _ _ => (("brought" : Str) ++ ".<locals>.") ++ "bring") hT.1 rfl (List.mem_map.mpr ⟨_, hT.2.1, rfl⟩) rfl (fun z hz e => by
      obtain ⟨y, hy, rfl⟩ := List.mem_map.mp hz
      have := hT.2.2 y hy e
      simp only [this]) hfree rfl rfl rfl sc_brought.nd rfl (Or.inl rfl) (Or.inr rfl))
      (pss_one (ps_ret (pe_told h_mapped hr rfl B.m_mapped (fr := ["other"]) (js := [1]) (fun ok => Caps.made ok hfree hfr rfl) (fun ok y c e => Nat.le_of_succ_le (cells_ge ((Caps.made (js := [1]) ok hfree hfr rfl).sub y c e))) (pa_cons (pv 0) (pa_cons pe_int (pa_cons (pv 2) pa_nil)))))), ?_⟩
    show Sv _ _ _ [.d (enc b), .d (enc o), .any] _
    refine sv_seq (sv_ndef (fun _ => rfl) (sv_ret ?_))
    exact ev_told (act := bringA o) (cds := [enc o]) (ps := ["part", "depth"]) (Rc := rBring n) rfl rfl rfl (fun _ => rfl) rfl (fun f c' => k_bring B h_raised) (fun ds d ⟨q, m, e1, lf, e2⟩ => ⟨o, q, m, rfl, e1, lf, hno, smo, ito, e2⟩) hn ⟨sm, bringA_sm smo, it⟩ rfl
end
end G
set_option Elab.async false
set_option linter.all false
set_option maxRecDepth 100000
set_option maxHeartbeats 1000000
/-! folded, plain_of -/
namespace G
open PySem PySem.Spec L2 LamX NdefX
theorem encL_take (p : Plan) (i : Nat) : (encL p).take i = encL (p.take i) := by rw [encL_map, encL_map, List.map_take]
theorem encL_drop (p : Plan) (i : Nat) : (encL p).drop i = encL (p.drop i) := by rw [encL_map, encL_map, List.map_drop]
theorem chr_eq (a b : Nat) : decide (chr a = chr b) = decide (a = b) := by
  rw [Bool.eq_iff_iff, decide_eq_true_eq, decide_eq_true_eq]
  exact ⟨chr_inj, fun h => by rw [h]⟩
section
variable {W : Wd} {k : Nat}
def rFolded (n : Nat) : List D → D → Prop := fun ds y => ∃ d b, ds = [.str (chr d), enc b] ∧ nestL b < n ∧ nestL b ≤ 60 ∧ SmL b ∧ itemsL b ≤ 900000 ∧ y = .tuple [.int (fold d b).1, encP (.nest true d (fold d b).2)]
theorem k_folded (B : Bs W.K W.mg) {n : Nat} (h_raised : Kp W d_raised ["plan", "by", "least"] k (rRaised n)) : Kp W d_folded ["door", "body"] (k + 1) (rFolded n) :=
  def_ok B.t_folded sc_folded (by rintro _ _ ⟨d, b, rfl, _, _, _, _, rfl⟩; rfl) fun cdv A outer s H E hr ds y ⟨d, b, e, hn, h60, sm, it, e2⟩ => by
    subst e e2
    refine ⟨_, (pss_cons (ps_for PassesOwn.never rfl (pi_enumT (by rfl) B.enumerate (pa_cons (pv 1) pa_nil)) (pg_tupK W.K (n := 2) (by rfl) (pgs_cons (pg_name (i := 2) sc_folded.nd rfl (Or.inl rfl)) (pgs_cons (pg_tupK W.K (n := 2) (by rfl) (pgs_cons (pg_name (i := 3) sc_folded.nd rfl (Or.inl rfl)) (pgs_cons (pg_name (i := 4) sc_folded.nd rfl (Or.inl rfl)) pgs_nil))) pgs_nil))) (pss_one (ps_if (PW.pt (pw_and (pt_cmpR (op_eqK W.K (u200 hr)) (pe_ix (ix_tupK W.K) (pv 4) pe_int (fun _ _ => rfl)) pe_str (nomark _)) (pw_and1 (pt_cmpR (op_eqK W.K (u200 hr)) (pe_ix (ix_tupK W.K) (pv 4) pe_int (fun _ _ => rfl)) (pv 0) (nomark _))))) (pss_cons (ps_set (i := 5) sc_folded.nd rfl (Or.inl rfl) (pe_op op_catA (pe_slice sl_tupA (pv 1) po_none (po_some (pv 2))) (pe_slice sl_tupA (pv 1) (po_some (pe_op op_add (pv 2) pe_int)) po_none)))
    (pss_one (ps_if (pt_cmpR (op_eqK W.K (u200 hr)) (pe_ix (ix_tupK W.K) (pv 4) pe_int (fun _ _ => rfl)) (pe_k h_raised hr rfl B.m_raised (pa_cons (pv 5) (pa_cons pe_int (pa_cons pe_int pa_nil)))) (nomark _)) (pss_one (ps_ret (pe_tup (pa_cons (pe_op op_add (pv 3) pe_int) (pa_cons (pe_tup (pa_cons pe_str (pa_cons (pv 0) (pa_cons (pv 5) pa_nil)))) pa_nil))))) pss_nil))) pss_nil)))
    (pss_one (ps_ret (pe_tup (pa_cons pe_int (pa_cons (pe_tup (pa_cons pe_str (pa_cons (pv 0) (pa_cons (pv 1) pa_nil)))) pa_nil)))))), ?_⟩
    refine sv_seq (sv_for (js := [2] ++ ([3] ++ [4])) (ei_enumT (ev_var rfl ⟨_, rfl, fun i δ => ∃ s2 s3 s4 s5, δ = [.d (.str (chr d)), .d (enc b), s2, s3, s4, s5] ∧ foldAt d [] b = foldAt d (b.take i) (b.drop i), ⟨_, _, _, _, rfl, by simp⟩, ?_, ?_⟩)))
    · rintro i x δ hx ⟨s2, s3, s4, s5, rfl, ef⟩
      obtain ⟨y, hy, rfl⟩ := pairs_get hx
      obtain ⟨⟨m, q⟩, e, rfl⟩ := encL_get hy
      have hi : i < b.length := (List.getElem?_eq_some_iff.mp e).1
      have ed : b.drop i = (m, q) :: b.drop (i + 1) := by
        rw [List.drop_eq_getElem_cons hi]
        congr 1
        exact Option.some.inj ((List.getElem?_eq_getElem hi).symm.trans e)
      have et := take_succ' e
      have hm := List.mem_of_getElem? e
      have h2 : nestP q ≤ nestL b := nestL_mem hm
      rw [Nat.zero_add]
      refine gt_pair (gt_name (gt_pair (gt_name (gt_name ?_))))
      have go : q ≠ .nest true d (raiseL 1 1 (b.take i ++ b.drop (i + 1))) → foldAt d [] b = foldAt d (b.take (i + 1)) (b.drop (i + 1)) := fun z => by
        rw [ef, ed, et]
        simp only [foldAt, if_neg z]
      cases q with
      | name w => exact sv_ifF (et_and1 (et_kind (p := .name w) rfl (kf (a := "name") rfl (by decide)))) (sv_next ⟨_, _, _, _, rfl, go (fun z => by cases z)⟩)
      | got w => exact sv_ifF (et_and1 (et_kind (p := .got w) rfl (kf (a := "got") rfl (by decide)))) (sv_next ⟨_, _, _, _, rfl, go (fun z => by cases z)⟩)
      | nest kd d' b' =>
        cases kd with
        | false => exact sv_ifF (et_and1 (et_kind (p := .nest false d' b') rfl (kf (a := "letter") rfl (by decide)))) (sv_next ⟨_, _, _, _, rfl, go (fun z => by cases z)⟩)
        | true =>
          refine sv_ifP (d' = d) ((et_andB (a := true) (b := decide (d' = d)) (et_kind (p := .nest true d' b') rfl rfl) fun _ => et_TE ?_).imp fun b e => by rw [e]; rfl) (fun z => ?_) fun z => ?_
          · simp only [encP]
            exact ev_op (ev_ix rfl rfl (ev_var rfl (rv_eqS (by rw [chr_eq]))))
          · subst z
            have su := sub_out b i
            have sr := sm.sub su
            have hl : (encL (b.take i)).length + (encL (b.drop (i + 1))).length ≤ 1000000 := by
              rw [encL_len, encL_len, List.length_take, List.length_drop]
              have := sm.len
              omega
            refine sv_seq (sv_set (ev_op (ev_slTo (ev_var rfl ⟨_, rfl, ev_var rfl ⟨i, rfl, ev_slFrom (ev_var rfl ⟨_, rfl, ev_op (ev_var rfl (ev_int (rv_i0 ⟨i + 1, rfl, ?_⟩)))⟩)⟩⟩))))
            rw [encL_take, encL_drop]
            refine rv_catA hl ?_
            rw [← encL_append]
            have hns : nestL (b.take i ++ b.drop (i + 1)) ≤ nestL b := nestL_sub fun x hx => su.subset hx
            simp only [nestP] at h2
            refine sv_ifP (b' = raiseL 1 1 (b.take i ++ b.drop (i + 1))) (et_TE ?_) (fun z => ?_) fun z => ?_
            · simp only [encP]
              exact ev_op (ev_ix rfl rfl (ev_call (ea3 (ev_var rfl (ev_int (ev_int ⟨_, ⟨b.take i ++ b.drop (i + 1), 1, 1, rfl, by omega, sr, Nat.le_trans (itemsL_sub su) it, rfl⟩, rv_eqL (.inl (by omega)) rfl⟩))))))
            · have e9 : fold d' b = (m + 1, b.take i ++ b.drop (i + 1)) := by
                unfold fold
                rw [ef, ed]
                simp only [foldAt]
                rw [if_pos (by rw [← z])]
                rfl
              rw [e9]
              refine sv_ret (ev_tup (ea2 (ev_op (ev_var rfl (ev_int (rv_i0 (ev_tup (ea3 (ev_str (ev_var rfl (ev_var rfl ⟨(by show 3 ≤ 1000000; decide), (by show 2 ≤ 1000000; decide), ?_⟩)))))))))))
              simp [encP, kindS]
            · exact sv_next ⟨_, _, _, _, rfl, go (fun y => z (by injection y))⟩
          · exact sv_next ⟨_, _, _, _, rfl, go (fun y => z (by injection y))⟩
    · rintro δ ⟨s2, s3, s4, s5, rfl, ef⟩
      rw [pairs_len, encL_len, List.take_length, List.drop_length] at ef
      have e9 : fold d b = (1, b) := by
        unfold fold
        rw [ef]
        rfl
      rw [e9]
      refine sv_ret (ev_tup (ea2 (ev_int (ev_tup (ea3 (ev_str (ev_var rfl (ev_var rfl ⟨(by show 3 ≤ 1000000; decide), (by show 2 ≤ 1000000; decide), ?_⟩))))))))
      simp [encP, kindS]
theorem plainI_append : ∀ p q : Plan, plainI (p ++ q) = plainI p ++ plainI q
  | [], q => by simp [plainI]
  | (c, x) :: r, q => by simp [plainI, plainI_append r q]
theorem plainI_take {p : Plan} {i : Nat} {c : Int} {q : Part} (h : p[i]? = some (c, q)) : plainI (p.take (i + 1)) = plainI (p.take i) ++ [(c * (plainP q).1, (plainP q).2)] := by
  rw [take_succ' h, plainI_append]
  simp [plainI]
theorem plainI_len : ∀ p : Plan, (plainI p).length = p.length
  | [] => by simp [plainI]
  | (c, x) :: r => by simp [plainI, plainI_len r]
theorem SmP.many {q : Part} (h : SmP q) : Sm (plainP q).1 := by
  have h1 := plainP_pos q h.pos
  have h2 := plainP_size q
  have h3 := sizeP_pos _ h1.2
  refine h.sm.le (by omega) ?_
  have : (plainP q).1 * 1 ≤ (plainP q).1 * sizeP (plainP q).2 := Int.mul_le_mul_of_nonneg_left h3 (by omega)
  omega
def rPlain (n : Nat) : List D → D → Prop := fun ds y => ∃ p, ds = [enc p] ∧ nestL p < n ∧ nestL p ≤ 60 ∧ SmL p ∧ itemsL p ≤ 900000 ∧ lowL p ∧ y = enc (plain p)
theorem k_plain_of (B : Bs W.K W.mg) {n : Nat} (h_folded : Kp W d_folded ["door", "body"] k (rFolded n)) (h_sorted_items : Kp W d_sorted_items ["items"] k (rSorted (n + 1))) (h_plain_of : Kp W d_plain_of ["plan"] k (rPlain n)) : Kp W d_plain_of ["plan"] (k + 1) (rPlain (n + 1)) :=
  def_ok B.t_plain_of sc_plain_of (by rintro _ _ ⟨p, rfl, _, _, _, _, _, rfl⟩; rfl) fun cdv A outer s H E hr ds y ⟨p, e, hn, h60, sm, it, lw, e2⟩ => by
    subst e e2
    refine ⟨_, (pss_cons (ps_set (i := 1) sc_plain_of.nd rfl (Or.inl rfl) (pe_lst pa_nil))
    (pss_cons (ps_for PassesOwn.never rfl (pi_tup (pv 0)) (pg_tupK W.K (n := 2) (by rfl) (pgs_cons (pg_name (i := 2) sc_plain_of.nd rfl (Or.inl rfl)) (pgs_cons (pg_name (i := 3) sc_plain_of.nd rfl (Or.inl rfl)) pgs_nil))) (pss_one (ps_if (pt_cmpR (op_eqK W.K (u200 hr)) (pe_ix (ix_tupK W.K) (pv 3) pe_int (fun _ _ => rfl)) pe_str (nomark _)) (pss_one (ps_expr (pe_bm PySem.F.plainAttrs_list PySem.F.slot_list_append PySem.F.type_list_append mt_append (pv 1) (pa_cons (pe_tup (pa_cons (pv 2) (pa_cons (pe_tup (pa_cons pe_str (pa_cons (pe_ix (ix_tupK W.K) (pv 3) pe_int (fun _ _ => rfl)) (pa_cons (pe_k h_plain_of hr rfl B.m_plain_of (pa_cons (pe_ix (ix_tupK W.K) (pv 3) pe_int (fun _ _ => rfl)) pa_nil)) pa_nil)))) pa_nil))) pa_nil)))) (pss_one (ps_if (pt_cmpR (op_eqK W.K (u200 hr)) (pe_ix (ix_tupK W.K) (pv 3) pe_int (fun _ _ => rfl)) pe_str (nomark _)) (pss_cons (ps_asg (pe_k h_folded hr rfl B.m_folded (pa_cons (pe_ix (ix_tupK W.K) (pv 3) pe_int (fun _ _ => rfl)) (pa_cons (pe_k h_plain_of hr rfl B.m_plain_of (pa_cons (pe_ix (ix_tupK W.K) (pv 3) pe_int (fun _ _ => rfl)) pa_nil)) pa_nil))) (pg_tupK W.K (n := 2) (by rfl) (pgs_cons (pg_name (i := 4) sc_plain_of.nd rfl (Or.inl rfl)) (pgs_cons (pg_name (i := 5) sc_plain_of.nd rfl (Or.inl rfl)) pgs_nil))))
    (pss_one (ps_expr (pe_bm PySem.F.plainAttrs_list PySem.F.slot_list_append PySem.F.type_list_append mt_append (pv 1) (pa_cons (pe_tup (pa_cons (pe_op op_mulB (pv 2) (pv 4)) (pa_cons (pv 5) pa_nil))) pa_nil))))) (pss_one (ps_expr (pe_bm PySem.F.plainAttrs_list PySem.F.slot_list_append PySem.F.type_list_append mt_append (pv 1) (pa_cons (pe_tup (pa_cons (pv 2) (pa_cons (pv 3) pa_nil))) pa_nil)))))))))
    (pss_one (ps_ret (pe_k h_sorted_items hr rfl B.m_sorted_items (pa_cons (pv 1) pa_nil)))))), ?_⟩
    refine sv_seq (sv_setL (evl_lst (ea_nil ⟨by decide, ?_⟩)))
    refine sv_seq (sv_for (js := [2] ++ [3]) (ei_tup (ev_var rfl ⟨_, rfl, fun i δ => ∃ A s2 s3 s4 s5, δ = [.d (enc p), .l (encL A), s2, s3, s4, s5] ∧ A = plainI (p.take i), ⟨[], _, _, _, _, rfl, by simp [plainI]⟩, ?_, ?_⟩)))
    · rintro i x δ hx ⟨A, s2, s3, s4, s5, rfl, eA⟩
      obtain ⟨⟨c, q⟩, e, rfl⟩ := encL_get hx
      have hm := List.mem_of_getElem? e
      have h2 : nestP q ≤ nestL p := nestL_mem hm
      have et := plainI_take e
      have lA : A.length < 1000000 := by
        have := plainI_len (p.take i)
        rw [← eA, List.length_take] at this
        have := len_le_items p
        omega
      have sq := (sm.mem hm).1
      have lq : lowP q := lowL_mem lw hm
      have si : itemsP q + 1 ≤ itemsL p := itemsL_mem hm
      have en : encL A ++ [.tuple [.int (c * (plainP q).1), encP (plainP q).2]] = encL (plainI (p.take (i + 1))) := by
        rw [et, ← eA, encL_snoc]
      refine gt_pair (gt_name (gt_name ?_))
      cases q with
      | nest kd d b =>
        have sb := sq.body
        simp only [nestP] at h2
        simp only [itemsP] at si
        simp only [lowP] at lq
        cases kd with
        | false =>
          refine sv_ifT (et_kind (p := .nest false d b) rfl rfl) ?_
          simp only [encP]
          refine sv_append rfl (by rw [encL_len]; exact lA) (ev_tup (ea2 (ev_var rfl (ev_tup (ea3 (ev_str (ev_ix rfl rfl (ev_call (ea1 (ev_ix rfl rfl ⟨_, ⟨b, rfl, by omega, by omega, sb, by omega, lq.2, rfl⟩, (by show 3 ≤ 1000000; decide), (by show 2 ≤ 1000000; decide), ?_⟩))))))))))
          have e5 : PyData.tuple [.int c, .tuple [.str "letter", .str (chr d), enc (plain b)]] = .tuple [.int (c * (plainP (.nest false d b)).1), encP (plainP (.nest false d b)).2] := by simp [plainP, encP, kindS, plain]
          rw [← e5] at en
          exact ⟨_, _, _, _, _, by rw [← en]; rfl, rfl⟩
        | true =>
          have mn := sq.many
          have cc := sm.cnt hm
          refine sv_ifF (et_kind (p := .nest true d b) rfl (kf (a := "wait") rfl (by decide))) (sv_ifT (et_kind (p := .nest true d b) rfl rfl) ?_)
          simp only [encP]
          have nb := plain_nest b
          have ib := plain_items b
          refine sv_seq (sv_asg (js := [4] ++ [5]) (ev_call (ea2 (ev_ix rfl rfl (ev_call (ea1 (ev_ix rfl rfl ⟨_, ⟨b, rfl, by omega, by omega, sb, by omega, lq.2, rfl⟩, _, ⟨d, plain b, rfl, by omega, by omega, sb.plain, by omega, rfl⟩, gt_pair (gt_name (gt_name ?_))⟩)))))))
          have e6 : (plainP (.nest true d b)).1 = (fold d (plain b)).1 := by simp [plainP, plain]
          rw [e6] at mn
          refine sv_append rfl (by rw [encL_len]; exact lA) (ev_tup (ea2 (ev_op (ev_var rfl (ev_var rfl (rv_i (cc.mul mn) (ev_var rfl ⟨(by show 2 ≤ 1000000; decide), ?_⟩)))))))
          have e5 : PyData.tuple [.int (c * (fold d (plain b)).1), encP (.nest true d (fold d (plain b)).2)] = .tuple [.int (c * (plainP (.nest true d b)).1), encP (plainP (.nest true d b)).2] := by simp [plainP, plain]
          rw [← e5] at en
          exact ⟨_, _, _, _, _, by rw [← en]; rfl, rfl⟩
      | name w =>
        refine sv_ifF (et_kind (p := .name w) rfl (kf (a := "name") rfl (by decide))) (sv_ifF (et_kind (p := .name w) rfl (kf (a := "name") rfl (by decide))) ?_)
        refine sv_append rfl (by rw [encL_len]; exact lA) (ev_tup (ea2 (ev_var rfl (ev_var rfl ⟨(by show 2 ≤ 1000000; decide), ?_⟩))))
        have e5 : PyData.tuple [.int c, encP (.name w)] = .tuple [.int (c * (plainP (.name w)).1), encP (plainP (.name w)).2] := by simp [plainP]
        rw [← e5] at en
        exact ⟨_, _, _, _, _, by rw [← en]; rfl, rfl⟩
      | got w =>
        refine sv_ifF (et_kind (p := .got w) rfl (kf (a := "got") rfl (by decide))) (sv_ifF (et_kind (p := .got w) rfl (kf (a := "got") rfl (by decide))) ?_)
        refine sv_append rfl (by rw [encL_len]; exact lA) (ev_tup (ea2 (ev_var rfl (ev_var rfl ⟨(by show 2 ≤ 1000000; decide), ?_⟩))))
        have e5 : PyData.tuple [.int c, encP (.got w)] = .tuple [.int (c * (plainP (.got w)).1), encP (plainP (.got w)).2] := by simp [plainP]
        rw [← e5] at en
        exact ⟨_, _, _, _, _, by rw [← en]; rfl, rfl⟩
    · rintro δ ⟨A, s2, s3, s4, s5, rfl, eA⟩
      rw [encL_len, List.take_length] at eA
      subst eA
      have np := plainI_nest p
      exact sv_freeze 1 rfl (sv_ret (ev_call (ea1 (ev_var rfl ⟨_, ⟨plainI p, rfl, by omega, by omega, sm.plainI, plainI_low p lw, rfl⟩, rfl⟩))))
end
end G
set_option Elab.async false
set_option linter.all false
set_option maxRecDepth 100000
set_option maxHeartbeats 1000000
/-! meetings -/
namespace G
open PySem PySem.Spec L2 LamX NdefX
section
variable {W : Wd} {k : Nat}
def rWithout : List D → D → Prop := fun ds y => ∃ p q, ds = [enc p, encP q] ∧ nestL p ≤ 60 ∧ itemsL p ≤ 900000 ∧ y = enc (without p q)
theorem k_without (B : Bs W.K W.mg) : Kp W d_without ["plan", "part"] (k + 1) rWithout :=
  def_ok B.t_without sc_without (by rintro _ _ ⟨p, q, rfl, _, _, rfl⟩; rfl) fun cdv A outer s H E hr ds y ⟨p, q, e, h60, it, e2⟩ => by
    subst e e2
    refine ⟨_, (pss_cons (ps_set (i := 2) sc_without.nd rfl (Or.inl rfl) (pe_lst pa_nil))
    (pss_cons (ps_for PassesOwn.never rfl (pi_tup (pv 0)) (pg_tupK W.K (n := 2) (by rfl) (pgs_cons (pg_name (i := 3) sc_without.nd rfl (Or.inl rfl)) (pgs_cons (pg_name (i := 4) sc_without.nd rfl (Or.inl rfl)) pgs_nil))) (pss_one (ps_if (pt_cmpR (op_neK W.K (u200 hr)) (pv 4) (pv 1) (nomark _)) (pss_one (ps_expr (pe_bm PySem.F.plainAttrs_list PySem.F.slot_list_append PySem.F.type_list_append mt_append (pv 2) (pa_cons (pe_tup (pa_cons (pv 3) (pa_cons (pv 4) pa_nil))) pa_nil)))) (pss_one (ps_if (pt_cmpR op_gt (pv 3) pe_int (nomark _)) (pss_one (ps_expr (pe_bm PySem.F.plainAttrs_list PySem.F.slot_list_append PySem.F.type_list_append mt_append (pv 2) (pa_cons (pe_tup (pa_cons (pe_op op_sub (pv 3) pe_int) (pa_cons (pv 4) pa_nil))) pa_nil)))) pss_nil)))))
    (pss_one (ps_ret (pe_callTy call_tuple_of (by rfl) B.tuple (by decide +kernel) (pa_cons (pv 2) pa_nil)))))), ?_⟩
    have lp := len_le_items p
    refine sv_seq (sv_setL (evl_lst (ea_nil ⟨by decide, ?_⟩)))
    refine sv_seq (sv_for (js := [3] ++ [4]) (ei_tup (ev_var rfl ⟨_, rfl, fun i δ => ∃ A s3 s4, δ = [.d (enc p), .d (encP q), .l (encL A), s3, s4] ∧ A = without (p.take i) q, ⟨[], _, _, rfl, rfl⟩, ?_, ?_⟩)))
    · rintro i x δ hx ⟨A, s3, s4, rfl, eA⟩
      obtain ⟨⟨c, r⟩, e, rfl⟩ := encL_get hx
      have hm := List.mem_of_getElem? e
      have h2 : nestP r ≤ nestL p := nestL_mem hm
      have et := take_succ' e
      have ew : without (p.take (i + 1)) q = A ++ (match wasO q (c, r) with | some y => [y] | none => []) := by
        rw [et, without_eq, List.filterMap_append, ← without_eq, eA]
        congr 1
        cases h : wasO q (c, r) <;> simp [h]
      have lA : A.length < 1000000 := by
        rw [eA]
        have := List.length_filterMap_le (wasO q) (p.take i)
        rw [← without_eq, List.length_take] at this
        omega
      refine gt_pair (gt_name (gt_name ?_))
      refine sv_ifP (r ≠ q) (et_TE (ev_op (ev_var rfl (ev_var rfl (rv_neP (.inl (show nestP r ≤ 60 by omega)) (by simp)))))) (fun z => ?_) fun z => ?_
      · refine sv_append rfl (by rw [encL_len]; exact lA) (ev_tup (ea2 (ev_var rfl (ev_var rfl ⟨(by show 2 ≤ 1000000; decide), ?_⟩))))
        have e3 : wasO q (c, r) = some (c, r) := by simp [wasO, z]
        rw [e3] at ew
        exact ⟨A ++ [(c, r)], _, _, by rw [encL_snoc]; rfl, ew.symm⟩
      · have z' : r = q := Classical.byContradiction z
        subst z'
        refine sv_ifP (1 < c) (et_TE (ev_op (ev_var rfl (ev_int (rv_b0 rfl))))) (fun y => ?_) fun y => ?_
        · refine sv_append rfl (by rw [encL_len]; exact lA) (ev_tup (ea2 (ev_op (ev_var rfl (ev_int (rv_i0 (ev_var rfl ⟨(by show 2 ≤ 1000000; decide), ?_⟩)))))))
          have e3 : wasO r (c, r) = some (c - 1, r) := by simp [wasO, y]
          rw [e3] at ew
          exact ⟨A ++ [(c - 1, r)], _, _, by rw [encL_snoc]; rfl, ew.symm⟩
        · have e3 : wasO r (c, r) = none := by simp [wasO, y]
          rw [e3] at ew
          simp only [List.append_nil] at ew
          exact sv_next ⟨A, _, _, rfl, ew.symm⟩
    · rintro δ ⟨A, s3, s4, rfl, eA⟩
      refine sv_ret (ev_tupleS (evs_own rfl ?_))
      rw [eA, encL_len, List.take_length]
def rMeetOf : List D → D → Prop := fun ds y => ∃ p, ds = [enc p] ∧ p.length ≤ 900 ∧ nestL p ≤ 60 ∧ y = .list ((pairsOf p).map encPair)
theorem k_meetings_of (B : Bs W.K W.mg) : Kp W d_meetings_of ["plan"] (k + 1) rMeetOf :=
  def_ok B.t_meetings_of sc_meetings_of (by rintro _ _ ⟨p, rfl, _, _, rfl⟩; rfl) fun cdv A outer s H E hr ds y ⟨p, e, lp, h60, e2⟩ => by
    subst e e2
    refine ⟨_, (pss_cons (ps_set (i := 1) sc_meetings_of.nd rfl (Or.inl rfl) (pe_lst pa_nil))
    (pss_cons (ps_for PassesOwn.never rfl (pi_tup (pv 0)) (pg_tupK W.K (n := 2) (by rfl) (pgs_cons (pg_name (i := 2) sc_meetings_of.nd rfl (Or.inl rfl)) (pgs_cons (pg_name (i := 3) sc_meetings_of.nd rfl (Or.inr rfl)) pgs_nil))) (pss_one (ps_if (pt_cmpR (op_eqK W.K (u200 hr)) (pe_ix (ix_tupK W.K) (pv 3) pe_int (fun _ _ => rfl)) pe_str (nomark _)) (pss_one (ps_expr (pe_bm PySem.F.plainAttrs_list PySem.F.slot_list_extend PySem.F.type_list_extend mt_extend (pv 1) (pa_cons (pe_lc (own := [("many", 4), ("other", 5)]) rfl sc_meetings_of.nd (pi_tup (pv 0)) (blkOk_by (own := [("many", 4), ("other", 5)]) (N := n_meetings_of) (sc := defScope s_meetings_of) (by decide +kernel)) (fun _ _ _ _ _ => (pg_tupK W.K (n := 2) (by rfl) (pgs_cons (pg_name (i := 4) sc_meetings_of.nd rfl (Or.inl rfl)) (pgs_cons (pg_name (i := 5) sc_meetings_of.nd rfl (Or.inl rfl)) pgs_nil)))) (fun _ _ _ _ _ => pts_one (PW.pt (pw_and (pt_cmpR (op_eqK W.K (u200 hr)) (pe_ix (ix_tupK W.K) (pv 5) pe_int (fun _ _ => rfl)) pe_str (nomark _)) (pw_and1 (pt_cmpR (op_eqK W.K (u200 hr)) (pe_ix (ix_tupK W.K) (pv 5) pe_int (fun _ _ => rfl)) (pe_ix (ix_tupK W.K) (pv 3) pe_int (fun _ _ => rfl)) (nomark _)))))) (fun _ _ _ _ _ => (pe_tup (pa_cons (pv 3) (pa_cons (pv 5) pa_nil))))) pa_nil)))) pss_nil)))
    (pss_one (ps_ret (pv 1))))), ?_⟩
    refine sv_seq (sv_setL (evl_lst (ea_nil ⟨by decide, ?_⟩)))
    refine sv_seq (sv_for (js := [2] ++ [3]) (ei_tup (ev_var rfl ⟨_, rfl, fun i δ => ∃ A s2 s3 s4 s5, δ = [.d (enc p), .l (A.map encPair), s2, s3, s4, s5] ∧ A = pairsTo p (p.take i), ⟨[], _, _, _, _, rfl, rfl⟩, ?_, ?_⟩)))
    · rintro i x δ hx ⟨A, s2, s3, s4, s5, rfl, eA⟩
      obtain ⟨⟨c, r⟩, e, rfl⟩ := encL_get hx
      have hm := List.mem_of_getElem? e
      have ep : pairsTo p (p.take (i + 1)) = A ++ p.filterMap (waitsFor (c, r)) := by rw [take_succ' e, pairsTo_snoc, eA]
      have lA : A.length ≤ 900 * 900 := by
        rw [eA]
        refine Nat.le_trans (pairsTo_len _ _) (Nat.mul_le_mul ?_ lp)
        rw [List.length_take]
        omega
      have none_ : (∀ y : Int × Part, meets r y.2 = false) → p.filterMap (waitsFor (c, r)) = [] := fun h => by
        rw [List.filterMap_eq_nil_iff]
        intro y _
        simp [waitsFor, h y]
      refine gt_pair (gt_name (gt_name ?_))
      have skip : (∀ y : Int × Part, meets r y.2 = false) → A = pairsTo p (p.take (i + 1)) := fun h => by rw [ep, none_ h, List.append_nil]
      cases r with
      | name w =>
        exact sv_ifF (et_kind (p := .name w) rfl (kf (a := "name") rfl (by decide))) (sv_next ⟨A, _, _, _, _, rfl, skip fun y => by simp [meets]⟩)
      | got w =>
        exact sv_ifF (et_kind (p := .got w) rfl (kf (a := "got") rfl (by decide))) (sv_next ⟨A, _, _, _, _, rfl, skip fun y => by simp [meets]⟩)
      | nest kd d b =>
        cases kd with
        | true =>
          exact sv_ifF (et_kind (p := .nest true d b) rfl (kf (a := "wait") rfl (by decide))) (sv_next ⟨A, _, _, _, _, rfl, skip fun y => by simp [meets]⟩)
        | false =>
          refine sv_ifT (et_kind (p := .nest false d b) rfl rfl) ?_
          have lf := List.length_filterMap_le (waitsFor (c, .nest false d b)) p
          have mp : p.filterMap (fun y => (waitsFor (c, .nest false d b) y).map encPair) = (p.filterMap (waitsFor (c, .nest false d b))).map encPair := by rw [List.map_filterMap]
          refine sv_extend rfl (evs_l (evl_lcM (js := [4] ++ [5]) (by simp) (ei_tup (ev_var rfl ⟨_, rfl, p, encI, fun y => (waitsFor (c, .nest false d b) y).map encPair, encL_map _, by omega, ?_, ?_, ?_⟩))))
          · rintro ⟨c2, q2⟩ h3
            have ff : ∀ {q : Part}, meets (.nest false d b) q = false → (waitsFor (c, .nest false d b) (c2, q)).map encPair = none := fun {q} h => by simp [waitsFor, h]
            cases q2 with
            | name w => exact turn2F (b := false) (et_and1 (et_kind (p := .name w) rfl (kf (a := "name") rfl (by decide)))) (fun z => by cases z) fun _ => ff (by simp [meets])
            | got w => exact turn2F (b := false) (et_and1 (et_kind (p := .got w) rfl (kf (a := "got") rfl (by decide)))) (fun z => by cases z) fun _ => ff (by simp [meets])
            | nest k2 d2 b2 =>
              cases k2 with
              | false => exact turn2F (b := false) (et_and1 (et_kind (p := .nest false d2 b2) rfl (kf (a := "letter") rfl (by decide)))) (fun z => by cases z) fun _ => ff (by simp [meets])
              | true =>
                refine turn2F (b := decide (d2 = d)) ((et_andB (a := true) (b := decide (d2 = d)) (et_kind (p := .nest true d2 b2) rfl rfl) fun _ => et_TE ?_).imp fun b e => by rw [e]; rfl) (fun z => ?_) fun z => ff ?_
                · simp only [encP]
                  exact ev_op (ev_ix rfl rfl (ev_ix rfl rfl (rv_eqS (by rw [chr_eq]))))
                · have z' : d2 = d := of_decide_eq_true z
                  subst z'
                  refine ⟨_, by simp [waitsFor, meets]; rfl, ?_⟩
                  exact ev_tup (ea2 (ev_var rfl (ev_var rfl ⟨(by show 2 ≤ 1000000; decide), rfl⟩)))
                · have z' : d2 ≠ d := of_decide_eq_false z
                  simp [meets]
                  exact fun h => z' h.symm
          · rw [mp, List.length_map, List.length_map]
            omega
          · exact ⟨A ++ p.filterMap (waitsFor (c, .nest false d b)), _, _, _, _, by rw [List.map_append, ← mp]; rfl, ep.symm⟩
    · rintro δ ⟨A, s2, s3, s4, s5, rfl, eA⟩
      rw [encL_len, List.take_length, ← pairsOf_to] at eA
      subst eA
      exact sv_freeze 1 rfl (sv_ret (ev_var rfl rfl))
end
end G
set_option Elab.async false
set_option linter.all false
set_option maxRecDepth 100000
set_option maxHeartbeats 1000000
/-! what is met -/
namespace G
open PySem PySem.Spec L2 LamX NdefX
structure Good (p : Plan) : Prop where
  ok : okL 0 p
  sm : SmL p
  ne : nestL p ≤ 60
  it : itemsL p ≤ 900
theorem Good.low {p : Plan} (h : Good p) : lowL p := okL_low p 0 h.ok
theorem Good.plain {p : Plan} (h : Good p) : Good (plain p) := ⟨plain_ok h.ok, h.sm.plain, Nat.le_trans (plain_nest p) h.ne, Nat.le_trans (plain_items p) h.it⟩
theorem Good.len {p : Plan} (h : Good p) : p.length ≤ 900 := Nat.le_trans (len_le_items p) h.it
structure RawOk (p : Plan) (m : Part × Part) : Prop where
  it : itemsL (rawOf p m) ≤ 5000
  ne : nestL (rawOf p m) ≤ 60
  sm : SmL (rawOf p m)
  low : lowL (rawOf p m)
theorem any_pair (m : Part × Part) : ∀ l : List (Part × Part), (l.map encPair).any (fun z => PyData.eqv z (encPair m)) = decide (m ∈ l)
  | [] => by simp
  | x :: r => by
    rw [List.map_cons, List.any_cons, any_pair m r, eqv_pair]
    by_cases h : x = m
    · subst h
      simp
    · have h' : ¬ m = x := fun e => h e.symm
      simp [h, h']
section
variable {W : Wd} {k : Nat}
def rRB : List D → D → Prop := fun ds y => ∃ r b o, ds = [enc r, enc b, enc o] ∧ SmL b ∧ SmL o ∧ nestL b ≤ 60 ∧ nestL o ≤ 60 ∧ nestL r ≤ 60 ∧ itemsL r ≤ 5000 ∧ itemsL b ≤ 5000 ∧ itemsL o ≤ 5000 ∧ itemsL (r ++ bring b o) ≤ 5000 ∧ nestL (r ++ bring b o) ≤ 60 ∧ y = enc (r ++ bring b o)
theorem k_roomy_brought (B : Bs W.K W.mg) (h_check_room : Kp W d_check_room ["items"] k fun ds y => ∃ i, ds = [.int i] ∧ i ≤ 5000 ∧ y = .none) (h_items_in : Kp W d_items_in ["plan"] k (rItems 61)) (h_gots_at : Kp W d_gots_at ["plan", "depth"] k (rGots 61)) (h_roomy : Kp W d_roomy ["plan"] k (rRoomy 61)) (h_brought : Kp W d_brought ["body", "other"] k (rBrought 61)) :
    Kp W d_roomy_brought ["rest", "body", "other"] (k + 1) rRB :=
  def_ok B.t_roomy_brought sc_roomy_brought (by rintro _ _ ⟨r, b, o, rfl, _⟩; rfl) fun cdv A outer s H E hr ds y ⟨r, b, o, e, sb, so, nb, no, nr, ir, ib, io, it, ne, e2⟩ => by
    subst e e2
    refine ⟨_, (pss_cons (ps_expr (pe_k h_check_room hr rfl B.m_check_room (pa_cons (pe_op op_add (pe_op op_add (pe_k h_items_in hr rfl B.m_items_in (pa_cons (pv 0) pa_nil)) (pe_k h_items_in hr rfl B.m_items_in (pa_cons (pv 1) pa_nil))) (pe_op op_mulB (pe_k h_gots_at hr rfl B.m_gots_at (pa_cons (pv 1) (pa_cons pe_int pa_nil))) (pe_op op_sub (pe_k h_items_in hr rfl B.m_items_in (pa_cons (pv 2) pa_nil)) pe_int))) pa_nil)))
    (pss_one (ps_ret (pe_k h_roomy hr rfl B.m_roomy (pa_cons (pe_op op_catA (pv 0) (pe_k h_brought hr rfl B.m_brought (pa_cons (pv 1) (pa_cons (pv 2) pa_nil)))) pa_nil))))), ?_⟩
    have h1 := bring_itemsL o 0 b
    have h2 := gots_nn b 0
    have h3 := itemsL_append r (bring b o)
    have h4 : itemsL (bring b o) = itemsL (mapL (bringA o) 0 b) := rfl
    have lr := len_le_items (r ++ bring b o)
    rw [List.length_append] at lr
    refine sv_seq (sv_drop (ev_call (ea1 (ev_op (ev_op (ev_call (ea1 (ev_var rfl ⟨_, ⟨r, rfl, by omega, by omega, rfl⟩, ev_call (ea1 (ev_var rfl ⟨_, ⟨b, rfl, by omega, by omega, rfl⟩, rv_i0 ?_⟩))⟩))))))))
    refine ev_op (ev_call (ea2 (ev_var rfl (ev_int ⟨_, ⟨b, 0, rfl, by omega, by omega, rfl⟩, ev_op (ev_call (ea1 (ev_var rfl ⟨_, ⟨o, rfl, by omega, by omega, rfl⟩, ev_int (rv_i0 (rv_i ?_ (rv_i0 ⟨_, ⟨_, rfl, ?_, rfl⟩, ?_⟩)))⟩)))⟩))))
    · exact (sm_small (by omega)).mul (sm_small (by omega))
    · omega
    · refine sv_ret (ev_call (ea1 (ev_op (ev_var rfl (ev_call (ea2 (ev_var rfl (ev_var rfl ⟨_, ⟨b, o, rfl, by omega, by omega, sb, so, by omega, by omega, rfl⟩, rv_catA (by rw [encL_len, encL_len]; omega) ?_⟩))))))))
      rw [← encL_append]
      exact ⟨_, ⟨_, rfl, by omega, it, by omega, rfl⟩, rfl⟩
def rMetOf : List D → D → Prop := fun ds y => ∃ p m, ds = [enc p, encPair m] ∧ m ∈ pairsOf p ∧ Good p ∧ RawOk p m ∧ y = enc (metOf p m)
theorem k_met_of (B : Bs W.K W.mg) (h_without : Kp W d_without ["plan", "part"] k rWithout) (h_plain_of : Kp W d_plain_of ["plan"] k (rPlain 61)) (h_roomy_brought : Kp W d_roomy_brought ["rest", "body", "other"] k rRB) : Kp W d_met_of ["plan", "meeting"] (k + 1) rMetOf :=
  def_ok B.t_met_of sc_met_of (by rintro _ _ ⟨p, m, rfl, _⟩; rfl) fun cdv A outer s H E hr ds y ⟨p, m, e, hm, g, ro, e2⟩ => by
    subst e e2
    refine ⟨_, (pss_cons (ps_asg (pv 1) (pg_tupK W.K (n := 2) (by rfl) (pgs_cons (pg_name (i := 2) sc_met_of.nd rfl (Or.inl rfl)) (pgs_cons (pg_name (i := 3) sc_met_of.nd rfl (Or.inl rfl)) pgs_nil))))
    (pss_cons (ps_set (i := 4) sc_met_of.nd rfl (Or.inl rfl) (pe_k h_without hr rfl B.m_without (pa_cons (pe_k h_without hr rfl B.m_without (pa_cons (pv 0) (pa_cons (pv 2) pa_nil))) (pa_cons (pv 3) pa_nil))))
    (pss_one (ps_ret (pe_k h_plain_of hr rfl B.m_plain_of (pa_cons (pe_k h_roomy_brought hr rfl B.m_roomy_brought (pa_cons (pv 4) (pa_cons (pe_ix (ix_tupK W.K) (pv 3) pe_int (fun _ _ => rfl)) (pa_cons (pe_ix (ix_tupK W.K) (pv 2) pe_int (fun _ _ => rfl)) pa_nil)))) pa_nil)))))), ?_⟩
    obtain ⟨d, b1, b2, rfl, ⟨c1, h1⟩, ⟨c2, h2⟩⟩ := pairsOf_mem hm
    have s1 := (g.sm.mem h1).1.body
    have s2 := (g.sm.mem h2).1.body
    have n1 : nestP (.nest false d b1) ≤ nestL p := nestL_mem h1
    have n2 : nestP (.nest true d b2) ≤ nestL p := nestL_mem h2
    have i1 : itemsP (.nest false d b1) + 1 ≤ itemsL p := itemsL_mem h1
    have i2 : itemsP (.nest true d b2) + 1 ≤ itemsL p := itemsL_mem h2
    simp only [nestP] at n1 n2
    simp only [itemsP] at i1 i2
    have gn := g.ne
    have gi := g.it
    have w1 := without_nest p (.nest false d b1)
    have w2 := without_nest (without p (.nest false d b1)) (.nest true d b2)
    have w3 := without_items p (.nest false d b1)
    have w4 := without_items (without p (.nest false d b1)) (.nest true d b2)
    have er : rawOf p (.nest false d b1, .nest true d b2) = without (without p (.nest false d b1)) (.nest true d b2) ++ bring b2 b1 := rfl
    have rit := ro.it
    have rne := ro.ne
    refine sv_seq (sv_asg (js := [2] ++ [3]) (ev_var rfl (gt_pair (gt_name (gt_name ?_)))))
    refine sv_seq (sv_set (ev_call (ea2 (ev_call (ea2 (ev_var rfl (ev_var rfl ⟨_, ⟨p, .nest false d b1, rfl, gn, by omega, rfl⟩, ev_var rfl ⟨_, ⟨without p (.nest false d b1), .nest true d b2, rfl, by omega, by omega, rfl⟩, ?_⟩⟩)))))))
    simp only [encP]
    refine sv_ret (ev_call (ea1 (ev_call (ea3 (ev_var rfl (ev_ix rfl rfl (ev_ix rfl rfl ⟨_, ⟨_, b2, b1, rfl, s2, s1, by omega, by omega, by omega, by omega, by omega, by omega, by rw [← er]; exact rit, by rw [← er]; exact rne, rfl⟩, ?_⟩)))))))
    rw [← er]
    exact ⟨_, ⟨_, rfl, by omega, rne, ro.sm, by omega, ro.low, rfl⟩, rfl⟩
def rIsMeeting : List D → D → Prop := fun ds y => ∃ p m, ds = [enc p, encPair m] ∧ okP 0 m.1 ∧ okP 0 m.2 ∧ nestP m.1 ≤ 60 ∧ nestP m.2 ≤ 60 ∧ p.length ≤ 900 ∧ nestL p ≤ 60 ∧ y = .bool (decide (m ∈ pairsOf p))
theorem k_is_meeting_of (B : Bs W.K W.mg) (h_is_pair : Kp W d_is_pair ["thing"] k fun ds y => ∃ xs, ds = [.tuple xs] ∧ y = .bool (decide (xs.length = 2))) (h_is_part : Kp W d_is_part ["thing", "depth"] k (rPart 61)) (h_meetings_of : Kp W d_meetings_of ["plan"] k rMeetOf) : Kp W d_is_meeting_of ["plan", "thing"] (k + 1) rIsMeeting :=
  def_ok B.t_is_meeting_of sc_is_meeting_of (by rintro _ _ ⟨p, m, rfl, _⟩; rfl) fun cdv A outer s H E hr ds y ⟨p, m, e, o1, o2, n1, n2, lp, np, e2⟩ => by
    subst e e2
    refine ⟨_, (pss_cons (ps_if (PW.pt (pw_or (pt_not (pt_val (pe_k h_is_pair hr rfl B.m_is_pair (pa_cons (pv 1) pa_nil)))) (pw_or (pt_not (pt_val (pe_k h_is_part hr rfl B.m_is_part (pa_cons (pe_ix (ix_tupK W.K) (pv 1) pe_int (fun _ _ => rfl)) (pa_cons pe_int pa_nil))))) (pw_or1 (pt_not (pt_val (pe_k h_is_part hr rfl B.m_is_part (pa_cons (pe_ix (ix_tupK W.K) (pv 1) pe_int (fun _ _ => rfl)) (pa_cons pe_int pa_nil))))))))) (pss_one (ps_ret pe_bl)) pss_nil)
    (pss_one (ps_ret (pe_cmpR (op_inK W.K (u200 hr)) (pv 1) (pe_k h_meetings_of hr rfl B.m_meetings_of (pa_cons (pv 0) pa_nil)) rfl)))), ?_⟩
    refine sv_seq (sv_ifF (et_orF (et_notF (et_BE (ev_call (ea1 (ev_var rfl ⟨_, ⟨_, rfl, rfl⟩, rfl⟩))))) (et_orF (et_notF (et_BE (ev_call (ea2 (ev_ix rfl rfl (ev_int ⟨_, ⟨m.1, 0, rfl, by omega, o1, rfl⟩, rfl⟩)))))) (et_notF (et_BE (ev_call (ea2 (ev_ix rfl rfl (ev_int ⟨_, ⟨m.2, 0, rfl, by omega, o2, rfl⟩, rfl⟩)))))))) (sv_next ?_))
    refine sv_ret (ev_op (ev_var rfl (ev_call (ea1 (ev_var rfl ⟨_, ⟨p, rfl, lp, np, rfl⟩, rv_inA ?_ ?_⟩)))))
    · have d1 := encP_depth m.1
      have d2 := encP_depth m.2
      simp only [encPair, PyData.depth, PyData.depthAll]
      omega
    · rw [any_pair]
def rMeetings : List D → D → Prop := fun ds y => ∃ p, ds = [enc p] ∧ Good p ∧ y = .list ((pairsOf (plain p)).map encPair)
theorem k_meetings (B : Bs W.K W.mg) (h_check_plan : Kp W d_check_plan ["thing"] k (rCheck 61)) (h_plain_of : Kp W d_plain_of ["plan"] k (rPlain 61)) (h_meetings_of : Kp W d_meetings_of ["plan"] k rMeetOf) : Kp W d_meetings ["plan"] (k + 1) rMeetings :=
  def_ok B.t_meetings sc_meetings (by rintro _ _ ⟨p, rfl, _⟩; rfl) fun cdv A outer s H E hr ds y ⟨p, e, g, e2⟩ => by
    subst e e2
    have gn := g.ne
    have gi := g.it
    refine ⟨_, (pss_cons (ps_expr (pe_k h_check_plan hr rfl B.m_check_plan (pa_cons (pv 0) pa_nil)))
    (pss_one (ps_ret (pe_k h_meetings_of hr rfl B.m_meetings_of (pa_cons (pe_k h_plain_of hr rfl B.m_plain_of (pa_cons (pv 0) pa_nil)) pa_nil))))), ?_⟩
    refine sv_seq (sv_drop (ev_call (ea1 (ev_var rfl ⟨_, ⟨p, rfl, by omega, g.ok, rfl⟩, ?_⟩))))
    exact sv_ret (ev_call (ea1 (ev_call (ea1 (ev_var rfl ⟨_, ⟨p, rfl, by omega, gn, g.sm, by omega, g.low, rfl⟩, _, ⟨_, rfl, g.plain.len, g.plain.ne, rfl⟩, rfl⟩)))))
def rMet : List D → D → Prop := fun ds y => ∃ p m, ds = [enc p, encPair m] ∧ m ∈ pairsOf (plain p) ∧ Good p ∧ RawOk (plain p) m ∧ y = enc (metOf (plain p) m)
theorem k_met (B : Bs W.K W.mg) (h_check_plan : Kp W d_check_plan ["thing"] k (rCheck 61)) (h_plain_of : Kp W d_plain_of ["plan"] k (rPlain 61)) (h_is_meeting_of : Kp W d_is_meeting_of ["plan", "thing"] k rIsMeeting) (h_met_of : Kp W d_met_of ["plan", "meeting"] k rMetOf) : Kp W d_met ["plan", "meeting"] (k + 1) rMet :=
  def_ok B.t_met sc_met (by rintro _ _ ⟨p, m, rfl, _⟩; rfl) fun cdv A outer s H E hr ds y ⟨p, m, e, hm, g, ro, e2⟩ => by
    subst e e2
    have gn := g.ne
    have gi := g.it
    have gp := g.plain
    have gpn := gp.ne
    refine ⟨_, (pss_cons (ps_expr (pe_k h_check_plan hr rfl B.m_check_plan (pa_cons (pv 0) pa_nil)))
    (pss_cons (ps_set (i := 2) sc_met.nd rfl (Or.inl rfl) (pe_k h_plain_of hr rfl B.m_plain_of (pa_cons (pv 0) pa_nil)))
    (pss_cons (ps_if (pt_not (pt_val (pe_k h_is_meeting_of hr rfl B.m_is_meeting_of (pa_cons (pv 2) (pa_cons (pv 1) pa_nil))))) (pss_one ps_never) pss_nil)
    (pss_one (ps_ret (pe_k h_met_of hr rfl B.m_met_of (pa_cons (pv 2) (pa_cons (pv 1) pa_nil)))))))), ?_⟩
    obtain ⟨d, b1, b2, em, ⟨c1, h1⟩, ⟨c2, h2⟩⟩ := pairsOf_mem hm
    have o1 := (okL_mem gp.ok h1).2
    have o2 := (okL_mem gp.ok h2).2
    have n1 : nestP m.1 ≤ nestL (plain p) := nestL_mem h1
    have n2 : nestP m.2 ≤ nestL (plain p) := nestL_mem h2
    refine sv_seq (sv_drop (ev_call (ea1 (ev_var rfl ⟨_, ⟨p, rfl, by omega, g.ok, rfl⟩, ?_⟩))))
    refine sv_seq (sv_set (ev_call (ea1 (ev_var rfl ⟨_, ⟨p, rfl, by omega, gn, g.sm, by omega, g.low, rfl⟩, ?_⟩))))
    refine sv_seq (sv_ifF (et_notF (et_BE (ev_call (ea2 (ev_var rfl (ev_var rfl ⟨_, ⟨plain p, m, rfl, o1, o2, by omega, by omega, gp.len, gpn, rfl⟩, by rw [decide_eq_true hm]⟩)))))) (sv_next ?_))
    exact sv_ret (ev_call (ea2 (ev_var rfl (ev_var rfl ⟨_, ⟨plain p, m, rfl, hm, gp, ro, rfl⟩, rfl⟩))))
end
end G
set_option Elab.async false
set_option linter.all false
set_option maxRecDepth 100000
set_option maxHeartbeats 1000000
/-! bounds behind a meeting -/
namespace G
open PySem
mutual
theorem nestP_items : ∀ p : Part, nestP p ≤ 1 + itemsP p
  | .name w => by simp [nestP]
  | .got i => by simp [nestP]
  | .nest k d b => by
    have := nestL_items b
    simp only [nestP, itemsP]
    omega
theorem nestL_items : ∀ p : Plan, nestL p ≤ itemsL p
  | [] => by simp [nestL]
  | (c, q) :: r => by
    have h1 := nestP_items q
    have h2 := nestL_items r
    simp only [nestL, itemsL]
    omega
end
theorem items_two {x y : Int × Part} (ne : x ≠ y) : ∀ {p : Plan}, x ∈ p → y ∈ p → itemsP x.2 + itemsP y.2 + 2 ≤ itemsL p
  | [], hx, _ => by cases hx
  | z :: r, hx, hy => by
    rw [itemsL_cons]
    rcases List.mem_cons.mp hx with e | hx
    · rcases List.mem_cons.mp hy with e2 | hy
      · exact absurd (e.trans e2.symm) ne
      · have := itemsL_mem hy
        rw [e]
        omega
    · rcases List.mem_cons.mp hy with e2 | hy
      · have := itemsL_mem hx
        rw [e2]
        omega
      · have := items_two ne hx hy
        omega
theorem nestL_app (p q : Plan) : nestL (p ++ q) ≤ max (nestL p) (nestL q) := nestL_le.mpr fun x hx => by
  rcases List.mem_append.mp hx with h | h
  · have := nestL_mem h
    omega
  · have := nestL_mem h
    omega
mutual
theorem bring_nestP (o : Plan) : ∀ (n : Int) (p : Part), nestL (mapP (bringA o) n p) ≤ nestP p + nestL o
  | n, .name w => by simp [mapP, bringA, nestL, nestP]
  | n, .got i => by
    simp only [mapP, bringA]
    split
    · rw [raiseL_nest]
      omega
    · split <;> simp [nestL, nestP]
  | n, .nest k d b => by
    have := bring_nestL o (if k then n + 1 else n) b
    simp only [mapP, nestL, nestP]
    omega
theorem bring_nestL (o : Plan) : ∀ (n : Int) (p : Plan), nestL (mapL (bringA o) n p) ≤ nestL p + nestL o
  | n, [] => by simp [mapL, nestL]
  | n, (c, q) :: r => by
    have h1 := bring_nestP o n q
    have h2 := bring_nestL o n r
    have h3 := nestL_app (scale c (mapP (bringA o) n q)) (mapL (bringA o) n r)
    rw [nestL_scale] at h3
    simp only [mapL, nestL]
    omega
end
theorem size_scale (c : Int) : ∀ p : Plan, sizeL (scale c p) = c * sizeL p
  | [] => by simp [scale, sizeL]
  | (d, q) :: r => by
    have h := size_scale c r
    unfold scale at h ⊢
    rw [List.map_cons, sizeL_cons, sizeL_cons, h, Int.mul_add, Int.mul_assoc]
mutual
theorem bring_sizeP {o : Plan} {M : Int} (h1 : 1 ≤ M) (ho : sizeL o ≤ M) : ∀ (n : Int) (p : Part), posP p → sizeL (mapP (bringA o) n p) ≤ sizeP p * M
  | n, .name w, _ => by simp [mapP, bringA, sizeL, sizeP]; omega
  | n, .got i, _ => by
    simp only [mapP, bringA, sizeP]
    split
    · rw [raiseL_size]
      omega
    · split <;> (simp [sizeL, sizeP]; omega)
  | n, .nest k d b, h => by
    have := bring_sizeL h1 ho (if k then n + 1 else n) b (by simpa only [posP] using h)
    simp only [mapP, sizeL, sizeP, Int.add_mul]
    omega
theorem bring_sizeL {o : Plan} {M : Int} (h1 : 1 ≤ M) (ho : sizeL o ≤ M) : ∀ (n : Int) (p : Plan), posL p → sizeL (mapL (bringA o) n p) ≤ sizeL p * M
  | n, [], _ => by simp [mapL, sizeL]
  | n, (c, q) :: r, h => by
    simp only [posL] at h
    have k1 := bring_sizeP h1 ho n q h.2.1
    have k2 := bring_sizeL h1 ho n r h.2.2
    simp only [mapL, sizeL_append, size_scale, sizeL, Int.add_mul]
    have k3 : c * sizeL (mapP (bringA o) n q) ≤ c * (sizeP q * M) := Int.mul_le_mul_of_nonneg_left k1 (by omega)
    rw [Int.mul_assoc]
    omega
end
theorem sm_pow {i : Int} {a : Nat} (h0 : 0 ≤ i) (h : i ≤ ((2 ^ a : Nat) : Int)) (ha : a < 50000000) : Sm i := by
  show i.natAbs.log2 < 50000000
  have hn : i.natAbs ≤ 2 ^ a := by omega
  by_cases z : i.natAbs = 0
  · rw [z]
    decide
  · have h2 : 2 ^ i.natAbs.log2 ≤ i.natAbs := Nat.log2_self_le z
    have h3 : 2 ^ i.natAbs.log2 ≤ 2 ^ a := Nat.le_trans h2 hn
    have := (Nat.pow_le_pow_iff_right (a := 2) (by decide)).mp h3
    omega
/-- a form n meetings behind the first one -/
structure GB (n : Nat) (f : Plan) : Prop where
  ok : okL 0 f
  it : itemsL f ≤ 60
  sz : sizeL f ≤ ((2 ^ (8 * 2 ^ n) : Nat) : Int)
theorem exp_lt {n : Nat} (h : n ≤ 17) : 8 * 2 ^ n < 50000000 := by
  have h1 : 2 ^ n ≤ 2 ^ 17 := Nat.pow_le_pow_right (by decide) h
  have h2 : (2 : Nat) ^ 17 = 131072 := by decide
  omega
theorem GB.sm {n : Nat} {f : Plan} (h : GB n f) (hn : n ≤ 17) : SmL f :=
  ⟨okL_pos f 0 h.ok, sm_pow (sizeL_nn f (okL_pos f 0 h.ok)) h.sz (exp_lt hn), Nat.le_trans h.it (by decide)⟩
theorem GB.good {n : Nat} {f : Plan} (h : GB n f) (hn : n ≤ 17) : Good f := ⟨h.ok, h.sm hn, Nat.le_trans (nestL_items f) h.it, Nat.le_trans h.it (by decide)⟩
theorem GB.plain {n : Nat} {f : Plan} (h : GB n f) : GB n (plain f) := ⟨plain_ok h.ok, Nat.le_trans (plain_items f) h.it, by
  have e : sizeL (G.plain f) = sizeL f := by
    unfold G.plain
    rw [sortItems_size, plainI_size]
  rw [e]
  exact h.sz⟩
theorem raw_size {f : Plan} {m : Part × Part} (ok : okL 0 f) (hm : m ∈ pairsOf f) : sizeL (rawOf f m) ≤ sizeL f * sizeL f := by
  obtain ⟨d, b1, b2, rfl, ⟨c1, h1⟩, ⟨c2, h2⟩⟩ := pairsOf_mem hm
  have pos := okL_pos f 0 ok
  obtain ⟨_, p1, _, s1⟩ := posL_mem pos h1
  obtain ⟨_, p2, _, s2⟩ := posL_mem pos h2
  simp only [sizeP] at s1 s2
  simp only [posP] at p1 p2
  have n1 := sizeL_nn b1 p1
  have n2 := sizeL_nn b2 p2
  have w1 := without_size f (.nest false d b1) pos
  have w2 := without_size (without f (.nest false d b1)) (.nest true d b2) (without_pos pos)
  have hb := bring_sizeL (o := b1) (M := max 1 (sizeL b1)) (by omega) (by omega) 0 b2 p2
  unfold rawOf bring
  rw [sizeL_append]
  simp only [bodyP]
  generalize eT : sizeL f - 1 = T at *
  have eS : sizeL f = T + 1 := by omega
  rw [eS]
  have k1 : sizeL b2 * max 1 (sizeL b1) ≤ T * T := by
    by_cases z : T = 0
    · have e1 : sizeL b2 = 0 := by omega
      rw [e1, z]
      simp
    · have h3 : max 1 (sizeL b1) ≤ T := by omega
      exact Int.mul_le_mul (by omega) h3 (by omega) (by omega)
  have k2 : (T + 1) * (T + 1) = T * T + T + (T + 1) := by
    rw [Int.add_mul, Int.mul_add, Int.one_mul, Int.mul_one]
  rw [k2]
  omega
theorem GB.raw {n : Nat} {f : Plan} (h : GB n f) (hn : n ≤ 16) {m : Part × Part} (hm : m ∈ pairsOf f) : RawOk f m ∧ okL 0 (rawOf f m) ∧ sizeL (rawOf f m) ≤ ((2 ^ (8 * 2 ^ (n + 1)) : Nat) : Int) := by
  have ok := rawOf_ok h.ok hm
  have sz : sizeL (rawOf f m) ≤ ((2 ^ (8 * 2 ^ (n + 1)) : Nat) : Int) := by
    have h1 := raw_size h.ok hm
    have h2 := h.sz
    have h0 := sizeL_nn f (okL_pos f 0 h.ok)
    have h3 : sizeL f * sizeL f ≤ ((2 ^ (8 * 2 ^ n) : Nat) : Int) * ((2 ^ (8 * 2 ^ n) : Nat) : Int) := Int.mul_le_mul h2 h2 h0 (by omega)
    have e : 8 * 2 ^ (n + 1) = 8 * 2 ^ n + 8 * 2 ^ n := by rw [Nat.pow_succ]; omega
    rw [e, Nat.pow_add, Int.natCast_mul]
    omega
  obtain ⟨d, b1, b2, rfl, ⟨c1, h1⟩, ⟨c2, h2⟩⟩ := pairsOf_mem hm
  have two := items_two (x := (c1, .nest false d b1)) (y := (c2, .nest true d b2)) (by simp) h1 h2
  simp only [itemsP] at two
  have it := h.it
  have w1 := without_items f (.nest false d b1)
  have w2 := without_items (without f (.nest false d b1)) (.nest true d b2)
  have nw1 := without_nest f (.nest false d b1)
  have nw2 := without_nest (without f (.nest false d b1)) (.nest true d b2)
  have bi := bring_itemsL b1 0 b2
  have bn := bring_nestL b1 0 b2
  have g := gots_nn b2 0
  have i1 := nestL_items b1
  have i2 := nestL_items b2
  have i3 := nestL_items f
  have hit : itemsL (rawOf f (.nest false d b1, .nest true d b2)) ≤ 5000 := by
    unfold rawOf bring
    rw [itemsL_append]
    simp only [bodyP]
    have k1 : gotsL 0 b2 * ((itemsL b1 : Int) - 1) ≤ 60 * 60 := by
      by_cases z : (itemsL b1 : Int) - 1 ≤ 0
      · have : gotsL 0 b2 * ((itemsL b1 : Int) - 1) ≤ gotsL 0 b2 * 0 := Int.mul_le_mul_of_nonneg_left z g.1
        omega
      · exact Int.mul_le_mul (by omega) (by omega) (by omega) (by omega)
    omega
  refine ⟨⟨hit, ?_, ⟨okL_pos _ 0 ok, sm_pow (sizeL_nn _ (okL_pos _ 0 ok)) sz (exp_lt (by omega)), by omega⟩, okL_low _ 0 ok⟩, ok, sz⟩
  unfold rawOf bring
  have := nestL_app (without (without f (.nest false d b1)) (.nest true d b2)) (mapL (bringA b1) 0 b2)
  simp only [bodyP]
  omega
theorem GB.met {n : Nat} {f : Plan} (h : GB n f) (hn : n ≤ 16) {m : Part × Part} (hm : m ∈ pairsOf f) (it : itemsL (metOf f m) ≤ 60) : GB (n + 1) (metOf f m) := by
  obtain ⟨_, ok, sz⟩ := h.raw hn hm
  refine ⟨plain_ok ok, it, ?_⟩
  have e : sizeL (metOf f m) = sizeL (rawOf f m) := by
    unfold metOf G.plain
    rw [sortItems_size, plainI_size]
  rw [e]
  exact sz
/-! ### the forms of a graph -/
def FI (G : Gr) : Prop := ∀ (i : Nat) (f : Plan), G.forms[i]? = some f → wl G i ≤ i ∧ wl G i ≤ 16 ∧ GB (wl G i) f
theorem fi_start {s : Plan} (h : GB 0 s) : FI ⟨[s], [[]], []⟩ := fun i f e => by
  match i, e with
  | 0, e =>
    have : s = f := by simpa using e
    rw [← this]
    exact ⟨Nat.le_refl _, Nat.zero_le _, h⟩
  | i + 1, e => simp at e
theorem FI.reach {G G' : Gr} {q : Plan} {w : List Nat} {n : Nat} (h : FI G) (r : ReachG G q w G' n) (wn : G.ways.length = G.forms.length) (h1 : w.length ≤ G.forms.length) (h2 : w.length ≤ 16) (h3 : q ∉ G.forms → GB w.length q) : FI G' := by
  rcases r with ⟨_, rfl⟩ | ⟨nq, _, rfl⟩
  · exact h
  · intro i f e
    have e' : (G.forms ++ [q])[i]? = some f := e
    by_cases z : i < G.forms.length
    · rw [List.getElem?_append_left z] at e'
      have ew : wl { G with forms := G.forms ++ [q], ways := G.ways ++ [w] } i = wl G i := wl_new rfl (by omega)
      rw [ew]
      exact h i f e'
    · have hi : i = G.forms.length := by
        have := (List.getElem?_eq_some_iff.mp e').1
        simp at this
        omega
      subst hi
      have ew : wl { G with forms := G.forms ++ [q], ways := G.ways ++ [w] } G.forms.length = w.length := by
        rw [← wn]
        exact wl_last rfl
      rw [ew]
      have ef : q = f := by
        rw [List.getElem?_append_right (Nat.le_refl _)] at e'
        simpa using e'
      rw [← ef]
      exact ⟨h1, h2, h3 nq⟩
theorem BI.plain_of {s : Plan} {G : Gr} (b : BI s G) (hs : plain s = s) {i : Nat} {f : Plan} (hf : G.forms[i]? = some f) : plain f = f := by
  have w := b.wk i f hf
  generalize wl G i = n at w
  cases n with
  | zero =>
    have : s = f := w
    rw [← this]
    exact hs
  | succ n =>
    obtain ⟨p, _, m, _, rfl⟩ := w
    exact plain_met p m
end G
set_option Elab.async false
set_option linter.all false
set_option maxRecDepth 100000
set_option maxHeartbeats 1000000
/-! the order -/
namespace G
open PySem PySem.Spec L2 LamX NdefX
def encNs (L : List Nat) : List D := L.map fun v => .int (v : Nat)
def encRow (L : List Nat) : D := .list (encNs L)
def encRows (rows : Rows) : D := .list (rows.map encRow)
def tabD (n : Nat) (f : Nat → Int) : List D := (List.range n).map fun v => .int (f v)
theorem tabD_len (n : Nat) (f : Nat → Int) : (tabD n f).length = n := by simp [tabD]
theorem tabD_get {n v : Nat} {f : Nat → Int} (h : v < n) : (tabD n f)[v]? = some (.int (f v)) := by simp [tabD, h]
theorem tabD_set (n g : Nat) (f : Nat → Int) (x : Int) : (tabD n f).set g (.int x) = tabD n (put f g x) := by
  apply List.ext_getElem?
  intro v
  unfold tabD
  by_cases z : g = v
  · subst z
    by_cases h : g < n
    · rw [List.getElem?_set_self (by simpa using h)]
      simp [h, put_same]
    · rw [List.getElem?_eq_none (by simpa using h), List.getElem?_eq_none (by simpa using h)]
  · rw [List.getElem?_set_ne z, List.getElem?_map, List.getElem?_map]
    by_cases h : v < n
    · rw [List.getElem?_range h]
      simp [put_ne f x (fun q => z q.symm)]
    · rw [List.getElem?_eq_none (by simpa using h)]
      rfl
theorem tabD_congr {n : Nat} {f g : Nat → Int} (h : ∀ v, v < n → f v = g v) : tabD n f = tabD n g := by
  unfold tabD
  refine List.map_congr_left fun v hv => ?_
  rw [h v (by simpa using hv)]
theorem atI_natD {xs : List D} {j : Nat} {d : D} (h : xs[j]? = some d) : L2.atI xs (j : Int) = some d := by
  have := (List.getElem?_eq_some_iff.mp h).1
  unfold L2.atI ixN
  have c : (j : Int) < xs.length := by omega
  simp [c, h]
theorem encNs_get {L : List Nat} {i : Nat} {d : D} (h : (encNs L)[i]? = some d) : ∃ g, L[i]? = some g ∧ d = .int (g : Nat) := by
  unfold encNs at h
  rw [List.getElem?_map] at h
  cases e : L[i]? with
  | none => rw [e] at h; cases h
  | some g => rw [e] at h; exact ⟨g, rfl, (Option.some.inj h).symm⟩
theorem encNs_at {L : List Nat} {i g : Nat} (h : L[i]? = some g) : (encNs L)[i]? = some (.int (g : Nat)) := by
  unfold encNs
  rw [List.getElem?_map, h]
  rfl
theorem rows_get {rows : Rows} {i : Nat} {d : D} (h : (rows.map encRow)[i]? = some d) : ∃ r, rows[i]? = some r ∧ d = encRow r := by
  rw [List.getElem?_map] at h
  cases e : rows[i]? with
  | none => rw [e] at h; cases h
  | some r => rw [e] at h; exact ⟨r, rfl, (Option.some.inj h).symm⟩
theorem rows_at {rows : Rows} {i : Nat} (h : i < rows.length) : (rows.map encRow)[i]? = some (encRow (row rows i)) := by
  rw [List.getElem?_map, row_get h]
  rfl
theorem drop_cons {α : Type} {L : List α} {i : Nat} {g : α} (h : L[i]? = some g) : L.drop i = g :: L.drop (i + 1) := by
  obtain ⟨h1, h2⟩ := List.getElem?_eq_some_iff.mp h
  rw [List.drop_eq_getElem_cons h1, h2]
theorem pick_map (rows : Rows) : ∀ L : List Nat, L.filterMap (fun v => if (tot rows v : Int) = 0 then some (PyData.int (v : Nat)) else none) = encNs (L.filter fun v => decide ((tot rows v : Int) = 0))
  | [] => rfl
  | v :: L => by
    rw [List.filterMap_cons, List.filter_cons, pick_map rows L]
    by_cases z : (tot rows v : Int) = 0
    · simp [z, encNs]
    · have z' : ¬ tot rows v = 0 := fun e => z (by omega)
      simp [z', encNs]
theorem take_snoc {α : Type} {L : List α} {i : Nat} {g : α} (h : L[i]? = some g) : L.take (i + 1) = L.take i ++ [g] := by
  rw [List.take_add_one, h]
  rfl
theorem count_snoc (L : List Nat) (g v : Nat) : ((L ++ [g]).count v : Int) = L.count v + (if v = g then 1 else 0) := by
  rw [List.count_append, List.count_singleton]
  by_cases z : v = g
  · subst z; simp
  · have : (g == v) = false := by simp; exact fun q => z q.symm
    rw [this]
    simp [z]
section
variable {T : List (Addr × Str)} {ta : Option Addr} {δ : List Sl} {te : TE} {t : TT}
theorem turn1F {i : Nat} {x : D} {z : Option D} {b : Bool} (h1 : EvT T ta t (δ.set i (.d x)) (· = b)) (h2 : b = true → ∃ w, z = some w ∧ Ev T ta te (δ.set i (.d x)) (· = w)) (h3 : b = false → z = none) : Turn T ta (gName i) [i] t te δ x z :=
  gt_name (h1.imp fun c e => by
    subst e
    exact ⟨h2, h3⟩)
end
section
variable {W : Wd} {k : Nat}
def rInOrder : List D → D → Prop := fun ds y => ∃ rows, ds = [encRows rows] ∧ RowsOk rows ∧ rows.length ≤ 1000 ∧ y = encRow (kahn rows)
theorem k_in_order (B : Bs W.K W.mg) : Kp W d_in_order ["links"] (k + 1) rInOrder :=
  def_ok B.t_in_order sc_in_order (by rintro _ _ ⟨p, rfl, _⟩; rfl) fun cdv A outer s H E hr ds y ⟨rows, e, ok, lr, e2⟩ => by
    subst e e2
    refine ⟨_, (pss_cons (ps_set (i := 2) sc_in_order.nd rfl (Or.inr rfl) (pe_lc (own := [("row", 1)]) rfl sc_in_order.nd (pi_list (pv 0)) (blkOk_by (own := [("row", 1)]) (N := n_in_order) (sc := defScope s_in_order) (by decide +kernel)) (fun _ _ _ _ _ => (pg_name (i := 1) sc_in_order.nd rfl (Or.inl rfl))) (fun _ _ _ _ _ => pts_nil) (fun _ _ _ _ _ => pe_int)))
    (pss_cons (ps_for PassesOwn.never rfl (pi_list (pv 0)) (pg_name (i := 1) sc_in_order.nd rfl (Or.inl rfl)) (pss_one (ps_for PassesOwn.never rfl (pi_list (pv 1)) (pg_name (i := 3) sc_in_order.nd rfl (Or.inl rfl)) (pss_one (ps_augS (pv 2) (pv 3) get_list pe_int ip_add set_list)))))
    (pss_cons (ps_setLc (i := 5) (own := [("at", 4)]) rfl sc_in_order.nd rfl rfl (sw_true rfl rfl rfl (by decide +kernel)) (pi_range1 (by rfl) B.range (pa_cons (pe_callB (call_lenK W.K) (by rfl) B.len PySem.boot_len (pa_cons (pv 0) pa_nil)) pa_nil)) (blkOk_by (own := [("at", 4)]) (N := n_in_order) (sc := defScope s_in_order) (by decide +kernel)) (fun _ _ _ _ _ => (pg_name (i := 4) sc_in_order.nd rfl (Or.inl rfl))) (fun _ _ _ _ _ => pts_one (pt_cmpR (op_eqK W.K (u200 hr)) (pe_ix (ix_listK W.K) (pv 2) (pv 4) (fun _ _ => rfl)) pe_int (nomark _))) (fun _ _ _ _ _ => (pv 4)))
    (pss_cons (ps_set (i := 4) sc_in_order.nd rfl (Or.inl rfl) pe_int)
    (pss_cons (ps_while PassesOwn.never (pt_cmpR op_lt (pv 4) (pe_callB (call_lenK W.K) (by rfl) B.len PySem.boot_len (pa_cons (pv 5) pa_nil)) (nomark _)) (pss_cons (ps_for PassesOwn.never rfl (pi_list (pe_ix (ix_listK W.K) (pv 0) (pe_ix (ix_listK W.K) (pv 5) (pv 4) (fun _ _ => rfl)) (fun _ _ => rfl))) (pg_name (i := 3) sc_in_order.nd rfl (Or.inl rfl)) (pss_cons (ps_augS (pv 2) (pv 3) get_list pe_int ip_sub set_list)
    (pss_one (ps_if (pt_cmpR (op_eqK W.K (u200 hr)) (pe_ix (ix_listK W.K) (pv 2) (pv 3) (fun _ _ => rfl)) pe_int (nomark _)) (pss_one (ps_expr (pe_bm PySem.F.plainAttrs_list PySem.F.slot_list_append PySem.F.type_list_append mt_append (pv 5) (pa_cons (pv 3) pa_nil)))) pss_nil))))
    (pss_one (ps_aug (i := 4) sc_in_order.nd rfl (Or.inl rfl) pe_int ip_add))))
    (pss_one (ps_ret (pv 5)))))))), ?_⟩
    refine sv_seq (sv_setL (evl_lcM (js := [1]) (by simp) (ei_list (ev_var rfl ⟨_, rfl, rows, encRow, fun _ => some (.int 0), rfl, by omega, fun r _ => turn1 (ev_int rfl), ?_⟩))))
    have e0 : rows.filterMap (fun _ => some (PyData.int 0)) = tabD rows.length (fun _ => 0) := by
      rw [List.filterMap_eq_map']
      unfold tabD
      rw [List.map_const', List.map_const', List.length_range]
    rw [e0]
    refine sv_seq (sv_for (js := [1]) (ei_list (ev_var rfl ⟨_, rfl, fun i δ => ∃ s1 s3 f, δ = [.d (encRows rows), s1, .l (tabD rows.length f), s3, .any, .any] ∧ ∀ v, v < rows.length → f v = ((rows.take i).flatten.count v : Int), ⟨_, _, _, rfl, fun v _ => by simp⟩, ?_, ?_⟩)))
    · rintro i x δ hx ⟨s1, s3, f, rfl, hf⟩
      obtain ⟨r, er, rfl⟩ := rows_get hx
      refine gt_name ?_
      refine sv_for (js := [3]) (ei_list (ev_var rfl ⟨_, rfl, fun j δ => ∃ s3 f, δ = [.d (encRows rows), .d (encRow r), .l (tabD rows.length f), s3, .any, .any] ∧ ∀ v, v < rows.length → f v = ((rows.take i).flatten.count v : Int) + ((r.take j).count v : Int), ⟨_, _, rfl, fun v hv => by rw [hf v hv]; simp⟩, ?_, ?_⟩))
      · rintro j y δ hy ⟨s3, f, rfl, hf⟩
        obtain ⟨g, eg, rfl⟩ := encNs_get hy
        have hg : g < rows.length := ok i g (by unfold Eg; rw [row_of er]; exact List.mem_of_getElem? eg)
        refine gt_name ?_
        refine sv_augS rfl (ev_var rfl ⟨g, f g, rfl, tabD_get hg, ev_int ⟨1, rfl, ?_⟩⟩)
        refine ⟨_, put f g (f g + 1), by rw [tabD_set]; rfl, fun v hv => ?_⟩
        rw [take_snoc eg, count_snoc]
        by_cases z : v = g
        · subst z
          rw [put_same, if_pos rfl, hf v hv]
          omega
        · rw [put_ne _ _ z, if_neg z, hf v hv]
          omega
      · rintro δ ⟨s3, f, rfl, hf⟩
        refine ⟨_, _, f, rfl, fun v hv => ?_⟩
        have l : (encNs r).length = r.length := by simp [encNs]
        rw [hf v hv, take_snoc er, List.flatten_append, List.count_append, l, List.take_length]
        simp
    rintro δ ⟨s1, s3, f, rfl, hf⟩
    have l : (rows.map encRow).length = rows.length := by simp
    rw [l, List.take_length] at hf
    have hf' : ∀ v, v < rows.length → f v = (tot rows v : Int) := hf
    rw [tabD_congr hf']
    refine sv_seq (sv_setL (evl_lcM (js := [4]) (by simp) (ei_range (ev_len (ev_var rfl ⟨rows.length, by simp [lenD, encRows], rows.length, rfl, by omega, List.range rows.length, (fun v => .int (v : Nat)), (fun v => if (tot rows v : Int) = 0 then some (.int (v : Nat)) else none), rfl, by rw [List.length_range]; omega, ?_, ?_⟩)))))
    · intro v hv
      have hv' : v < rows.length := by simpa using hv
      refine turn1F (b := decide ((tot rows v : Int) = 0)) (et_TE (ev_op (ev_ixS (evs_own rfl (ev_var rfl ⟨v, _, rfl, atI_natD (tabD_get hv'), ev_int (rv_eqI rfl)⟩))))) (fun z => ?_) fun z => ?_
      · exact ⟨_, if_pos (of_decide_eq_true z), ev_var rfl rfl⟩
      · exact if_neg (of_decide_eq_false z)
    have e1 : (List.range rows.length).filterMap (fun v => if (tot rows v : Int) = 0 then some (PyData.int (v : Nat)) else none) = encNs (k0 rows) := by
      exact pick_map _ _
    rw [e1]
    refine sv_seq (sv_set (ev_int ?_))
    refine sv_seq (sv_while (fun m δ => ∃ s1 s3 at_ f found, δ = [.d (encRows rows), s1, .l (tabD rows.length f), s3, .d (.int (at_ : Nat)), .l (encNs found)] ∧ KI rows at_ [] f found ∧ m + at_ = rows.length ∧ kGo rows (m + 1) at_ f found = kahn rows) rows.length ⟨_, _, 0, _, _, rfl, ki_0 rows, rfl, rfl⟩ ?_)
    rintro m δ ⟨s1, s3, at_, f, found, rfl, ki, hm, ek⟩
    refine et_T (ev_op (ev_var rfl (ev_lenS (evs_own rfl (rv_b0 ⟨_, rfl, fun z => ?_, fun z => ?_⟩)))))
    · have hl : at_ < found.length := by
        have := of_decide_eq_true z
        simp [encNs] at this
        omega
      have hu : found[at_]? = some found[at_] := List.getElem?_eq_getElem hl
      generalize found[at_] = u at hu
      have hun : u < rows.length := ki.lt u (List.mem_of_getElem? hu)
      have nl := nodup_len ki.lt ki.nd
      refine sv_seq (sv_for (js := [3]) (ei_list (ev_op (ev_var rfl (ev_ixS (evs_own rfl (ev_var rfl ⟨at_, _, rfl, atI_natD (encNs_at hu), rv_ixL (atI_natD (rows_at hun)) ⟨_, rfl, fun j δ => ∃ s3 S pre, δ = [.d (encRows rows), s1, .l (tabD rows.length S.1), s3, .d (.int (at_ : Nat)), .l (encNs S.2)] ∧ pre = (row rows u).take j ∧ KI rows at_ pre S.1 S.2 ∧ S.2[at_]? = some u ∧ (row rows u).foldl decStep (f, found) = ((row rows u).drop j).foldl decStep S, ⟨_, (f, found), [], rfl, rfl, ki, hu, rfl⟩, ?_, ?_⟩⟩)))))))
      · rintro j y δ hy ⟨s3, S, pre, rfl, rfl, kj, hu2, ef⟩
        obtain ⟨g, eg, rfl⟩ := encNs_get hy
        have hg : g < rows.length := ok u g (List.mem_of_getElem? eg)
        have er : row rows u = (row rows u).take j ++ g :: (row rows u).drop (j + 1) := by
          rw [← drop_cons eg, List.take_append_drop]
        have kd := ki_dec ok kj hu2 er
        have ed : (row rows u).drop j = g :: (row rows u).drop (j + 1) := by
          exact drop_cons eg
        have nl2 := nodup_len kj.lt kj.nd
        refine gt_name ?_
        refine sv_seq (sv_augS rfl (ev_var rfl ⟨g, S.1 g, rfl, tabD_get hg, ev_int ⟨1, rfl, ?_⟩⟩))
        rw [tabD_set]
        refine sv_ifP (S.1 g - 1 = 0) (et_TE (ev_op (ev_ixS (evs_own rfl (ev_var rfl ⟨g, _, rfl, atI_natD (tabD_get hg), ev_int (rv_eqI (by rw [put_same])) ⟩))))) (fun q => ?_) fun q => ?_
        · refine sv_append rfl (by simp [encNs]; omega) (ev_var rfl ?_)
          refine ⟨.d (.int (g : Nat)), decStep S g, _, ?_, rfl, by rw [take_snoc eg]; exact kd, dec_get hu2, ?_⟩
          · have e : decStep S g = (put S.1 g (S.1 g - 1), S.2 ++ [g]) := by simp [decStep, q]
            rw [e]
            simp [encNs]
          · rw [ef, ed, List.foldl_cons]
        · refine sv_next ⟨.d (.int (g : Nat)), decStep S g, _, ?_, rfl, by rw [take_snoc eg]; exact kd, dec_get hu2, ?_⟩
          · have e : decStep S g = (put S.1 g (S.1 g - 1), S.2) := by simp [decStep, q]
            rw [e]
            rfl
          · rw [ef, ed, List.foldl_cons]
      · rintro δ ⟨s3, S, pre, rfl, rfl, kj, hu2, ef⟩
        have l : (encNs (row rows u)).length = (row rows u).length := by simp [encNs]
        rw [l, List.take_length] at kj
        rw [l, List.drop_length] at ef
        have ef' : (row rows u).foldl decStep (f, found) = S := ef
        refine sv_aug rfl (ev_int ⟨1, rfl, ?_⟩)
        refine ⟨m - 1, by omega, _, _, at_ + 1, S.1, S.2, rfl, ki_next kj hu2, by omega, ?_⟩
        have em : m = (m - 1) + 1 := by omega
        rw [← ek]
        conv => rhs; unfold kGo
        rw [hu]
        simp only [ef']
        rw [← em]
    · have hl : found.length ≤ at_ := by
        have := of_decide_eq_false z
        simp [encNs] at this
        omega
      refine sv_freeze 5 rfl (sv_ret (ev_var rfl ?_))
      have hn : found[at_]? = none := List.getElem?_eq_none hl
      have : kahn rows = found := by
        rw [← ek]
        unfold kGo
        rw [hn]
      rw [this]
      rfl
end
end G
set_option Elab.async false
set_option linter.all false
set_option maxRecDepth 100000
set_option maxHeartbeats 1000000
/-! the graph's objects in a heap -/
namespace G
open PySem PySem.Spec L2 LamX NdefX PyProof.Rows
structure GAd where
  f : Addr
  b : Addr
  l : Addr
  a : Addr
  e : Addr
  dx : Addr
  kvs : List (Key × V)
  fb : List Plan
  gn : Nat
def gf (A : GAd) : List (Str × V) := [("forms", .ref A.f), ("by_size", .ref A.b), ("links", .ref A.l), ("gates", .ref A.a), ("earliest", .ref A.e)]
theorem gf_forms (A : GAd) : (gf A).lookup ("forms" : Str) = some (V.ref A.f) := by rfl
theorem gf_by_size (A : GAd) : (gf A).lookup ("by_size" : Str) = some (V.ref A.b) := by rfl
theorem gf_links (A : GAd) : (gf A).lookup ("links" : Str) = some (V.ref A.l) := by rfl
theorem gf_gates (A : GAd) : (gf A).lookup ("gates" : Str) = some (V.ref A.a) := by rfl
theorem gf_earliest (A : GAd) : (gf A).lookup ("earliest" : Str) = some (V.ref A.e) := by rfl
theorem gf_number_of (A : GAd) : (gf A).lookup ("number_of" : Str) = none := by rfl
theorem gf_reach (A : GAd) : (gf A).lookup ("reach" : Str) = none := by rfl
theorem gf_grow (A : GAd) : (gf A).lookup ("grow" : Str) = none := by rfl
def bucket (fs : List Plan) (s : Int) : List Nat := (List.range fs.length).filter fun i => decide (sizeL (fs.getD i []) = s)
theorem bucket_snoc (fs : List Plan) (p : Plan) (s : Int) : bucket (fs ++ [p]) s = bucket fs s ++ (if sizeL p = s then [fs.length] else []) := by
  unfold bucket
  rw [List.length_append, List.length_singleton, List.range_succ, List.filter_append]
  congr 1
  · refine List.filter_congr fun i hi => ?_
    have hi' : i < fs.length := by simpa using hi
    rw [List.getD_eq_getElem?_getD, List.getD_eq_getElem?_getD, List.getElem?_append_left hi']
  · have e : (fs ++ [p]).getD fs.length [] = p := by
      rw [List.getD_eq_getElem?_getD, List.getElem?_append_right (Nat.le_refl _)]
      simp
    by_cases z : sizeL p = s
    · simp [z]
    · simp [z]
theorem bucket_mem {fs : List Plan} {s : Int} {i : Nat} : i ∈ bucket fs s ↔ ∃ p, fs[i]? = some p ∧ sizeL p = s := by
  unfold bucket
  rw [List.mem_filter, List.mem_range]
  constructor
  · rintro ⟨h1, h2⟩
    refine ⟨fs[i], List.getElem?_eq_getElem h1, ?_⟩
    have := of_decide_eq_true h2
    rwa [List.getD_eq_getElem?_getD, List.getElem?_eq_getElem h1] at this
  · rintro ⟨p, h1, h2⟩
    refine ⟨(List.getElem?_eq_some_iff.mp h1).1, decide_eq_true ?_⟩
    rw [List.getD_eq_getElem?_getD, h1]
    exact h2
theorem bucket_len (fs : List Plan) (s : Int) : (bucket fs s).length ≤ fs.length := by
  unfold bucket
  refine Nat.le_trans (List.length_filter_le _ _) ?_
  rw [List.length_range]
  exact Nat.le_refl _
def encWay (w : List Nat) : D := .tuple (encNs w)
structure GAt (C : Addr) (R : Addr → Prop) (Hs H : Hp) (g : Addr) (G : Gr) (A : GAd) : Prop where
  ob : H g = some (.ins C A.dx (gf A))
  hf : ∃ vs, H A.f = some (.lst vs) ∧ AtAll Hs vs (G.forms.map enc)
  hl : ∃ vs, H A.l = some (.lst vs) ∧ AtAll Hs vs (G.links.map encRow)
  ha : ∃ vs ds, H A.a = some (.lst vs) ∧ AtAll Hs vs ds ∧ ds.length = A.gn
  he : ∃ vs, H A.e = some (.lst vs) ∧ AtAll Hs vs (G.ways.map encWay)
  hb : H A.b = some (.dK A.kvs)
  bn : ∀ s : Int, valV A.kvs (.inl s) = none → bucket A.fb s = []
  bs : ∀ (s : Int) (v : V), valV A.kvs (.inl s) = some v → ∃ q, v = .ref q ∧ H q = some (.lst ((bucket A.fb s).map fun i => V.int (i : Nat))) ∧ R q ∧ q ≠ A.f ∧ q ≠ A.l ∧ q ≠ A.a ∧ q ≠ A.e
  bl : A.kvs.length ≤ A.fb.length
  inj : ∀ (s t : Int) (q : Addr), valV A.kvs (.inl s) = some (.ref q) → valV A.kvs (.inl t) = some (.ref q) → s = t
  nd : [A.f, A.l, A.a, A.e].Nodup
  rg : R g ∧ R A.f ∧ R A.b ∧ R A.l ∧ R A.a ∧ R A.e
  fr : ∀ x, R x → Fr Hs x
  here : ∀ x, R x → ∃ o, H x = some o ∧ NT o ∧ ∀ φ, o ≠ .ext φ
/-- a transition that may change R -/
structure Rg (T : List (Addr × Str)) (R : Addr → Prop) (Hs H : Hp) (R' : Addr → Prop) (Hs' H' : Hp) : Prop where
  s : ExtN Hs Hs'
  e : ∀ b o, H b = some o → NT o → ¬ R b → H' b = some o
  k : ∀ b o, H b = some o → NT o → ∃ o', H' b = some o' ∧ NT o'
  x : ExtN Hs' H'
  t : Tabs T H'
  n : ∀ b o, H b = some o → NT o → Fr Hs b → Fr Hs' b
  r : ∀ b, R' b → R b ∨ Fr H b
section
variable {T : List (Addr × Str)} {R R1 R2 : Addr → Prop} {Hs H Hs1 H1 Hs2 H2 : Hp} {C g : Addr} {G : Gr} {A : GAd}
theorem Rg.refl (x : ExtN Hs H) (t : Tabs T H) : Rg T R Hs H R Hs H := ⟨ExtN.refl _, fun _ _ h _ _ => h, fun _ o h q => ⟨o, h, q⟩, x, t, fun _ _ _ _ h => h, fun _ h => .inl h⟩
theorem Rg.trans (a : Rg T R Hs H R1 Hs1 H1) (b : Rg T R1 Hs1 H1 R2 Hs2 H2) : Rg T R Hs H R2 Hs2 H2 where
  s := a.s.trans b.s
  e := fun c o h q z => b.e c o (a.e c o h q z) q fun r1 => by
    rcases a.r c r1 with y | y
    · exact z y
    · exact y o h q
  k := fun c o h q => let ⟨o1, h1, q1⟩ := a.k c o h q; b.k c o1 h1 q1
  x := b.x
  t := b.t
  n := fun c o h q z => let ⟨o1, h1, q1⟩ := a.k c o h q; b.n c o1 h1 q1 (a.n c o h q z)
  r := fun c h => by
    rcases b.r c h with y | y
    · exact a.r c y
    · refine .inr fun o ho q => ?_
      obtain ⟨o1, h1, q1⟩ := a.k c o ho q
      exact y o1 h1 q1
theorem Rg.of (s : Stp T none Hs H Hs1 H1) : Rg T R Hs H R Hs1 H1 := ⟨s.s, fun b o h q _ => s.e b o h q (by simp), s.k, s.x, s.t, s.n, fun _ h => .inl h⟩
/-- the graph behind a step that leaves it alone -/
theorem GAt.step (h : GAt C R Hs H g G A) (s : Stp T none Hs H Hs1 H1) : GAt C R Hs1 H1 g G A := by
  have kp : ∀ b o, H b = some o → NT o → H1 b = some o := fun b o e q => s.e b o e q (by simp)
  refine ⟨kp _ _ h.ob (fun _ z => by cases z), ?_, ?_, ?_, ?_, kp _ _ h.hb (fun _ z => by cases z), h.bn, fun t v hv => ?_, h.bl, h.inj, h.nd, h.rg, fun x hx => ?_, fun x hx => ?_⟩
  · obtain ⟨vs, h1, h2⟩ := h.hf
    exact ⟨vs, kp _ _ h1 nt_lst, h2.up s.s⟩
  · obtain ⟨vs, h1, h2⟩ := h.hl
    exact ⟨vs, kp _ _ h1 nt_lst, h2.up s.s⟩
  · obtain ⟨vs, ds, h1, h2, h3⟩ := h.ha
    exact ⟨vs, ds, kp _ _ h1 nt_lst, h2.up s.s, h3⟩
  · obtain ⟨vs, h1, h2⟩ := h.he
    exact ⟨vs, kp _ _ h1 nt_lst, h2.up s.s⟩
  · obtain ⟨q, e, h1, h2⟩ := h.bs t v hv
    exact ⟨q, e, kp _ _ h1 nt_lst, h2⟩
  · obtain ⟨o, h1, h2, _⟩ := h.here x hx
    exact s.n x o h1 h2 (h.fr x hx)
  · obtain ⟨o, h1, h2, h3⟩ := h.here x hx
    exact ⟨o, kp _ _ h1 h2, h2, h3⟩
/-- data behind such a transition: no list of its own in R -/
theorem Ok.reg {δ : List Sl} {σ : L2.St} (o : Ok T none δ Hs H σ) (s : Rg T R Hs H R1 Hs1 H1) (nl : ∀ (i : Nat) (xs : List D) (a : Addr), δ[i]? = some (.l xs) → σ[i]? = some (some (.ref a)) → ¬ R a) (nf : ∀ (i : Nat) φ, δ[i]? ≠ some (.f φ)) : Ok T none δ Hs1 H1 σ where
  ext := s.x
  tab := s.t
  tp := fun a e => by cases e
  len := o.len
  at_ := fun i sl e => by
    obtain ⟨v, h1, h2⟩ := o.at_ i sl e
    refine ⟨v, h1, ?_⟩
    cases sl with
    | any => trivial
    | d x =>
      obtain ⟨w, e1, e2⟩ := h2
      exact ⟨w, e1, e2.up s.s⟩
    | l xs =>
      obtain ⟨a, vs, e1, e2, e3, e4, e5⟩ := h2
      subst e1
      exact ⟨a, vs, rfl, s.n _ _ e4 nt_lst e2, e3, s.e _ _ e4 nt_lst (nl i xs a e h1), e5.up s.s⟩
    | tape => exact h2
    | v x => exact h2
    | f φ => exact absurd e (nf i φ)
  apart := o.apart
end
/-! ### changes -/
section
variable {T : List (Addr × Str)} {R : Addr → Prop} {Hs H : Hp} {C g : Addr} {G : Gr} {A : GAd}
theorem tabs_ne {p : Addr} {o : HO} (t : Tabs T H) (hn : ∀ u, H p = some u → (∀ ps, u ≠ .tbl ps) ∧ ∀ φ, u ≠ .ext φ) : Tabs T (upd H p o) := fun q hq => by
  obtain ⟨ps, h1, h2, h3⟩ := t q hq
  refine ⟨ps, ?_, h2, fun pos cv hc => ?_⟩
  · rw [upd_ne fun z => (hn _ (by rw [← z]; exact h1)).1 _ rfl]
    exact h1
  · obtain ⟨c, e1, e2⟩ := h3 pos cv hc
    refine ⟨c, e1, ?_⟩
    rw [upd_ne fun z => (hn _ (by rw [← z]; exact e2)).2 _ rfl]
    exact e2
theorem Rg.mut {p : Addr} {u o : HO} (x : ExtN Hs H) (t : Tabs T H) (ga : GAt C R Hs H g G A) (rp : R p) (hp : H p = some u) (nt : NT o) : Rg T R Hs H R Hs (upd H p o) where
  s := ExtN.refl _
  e := fun b w h _ z => by
    rw [upd_ne fun y => z (by rw [y]; exact rp)]
    exact h
  k := fun b w h q => by
    by_cases z : b = p
    · rw [z, upd_same]
      exact ⟨_, rfl, nt⟩
    · rw [upd_ne z]
      exact ⟨w, h, q⟩
  x := fun b w h q => by
    rw [upd_ne (fr_ne (ga.fr p rp) h q)]
    exact x b w h q
  t := tabs_ne t fun w hw => by
    obtain ⟨o1, h1, h2, h3⟩ := ga.here p rp
    rw [hw] at h1
    cases h1
    exact ⟨h2, h3⟩
  n := fun _ _ _ _ z => z
  r := fun _ z => .inl z
theorem GAt.ne (ga : GAt C R Hs H g G A) : A.f ≠ A.l ∧ A.f ≠ A.a ∧ A.f ≠ A.e ∧ A.l ≠ A.a ∧ A.l ≠ A.e ∧ A.a ≠ A.e := by
  have h := ga.nd
  simp only [List.nodup_cons, List.mem_cons, List.not_mem_nil, or_false, not_or] at h
  exact ⟨h.1.1, h.1.2.1, h.1.2.2, h.2.1.1, h.2.1.2, h.2.2.1⟩
theorem GAt.forms1 (ga : GAt C R Hs H g G A) {p : Plan} {y : V} (ay : At Hs y (enc p)) : ∃ vs, H A.f = some (.lst vs) ∧ vs.length = G.forms.length ∧ GAt C R Hs (upd H A.f (.lst (vs ++ [y]))) g { G with forms := G.forms ++ [p] } A := by
  obtain ⟨vs, h1, h2⟩ := ga.hf
  obtain ⟨n1, n2, n3, n4, n5, n6⟩ := ga.ne
  refine ⟨vs, h1, by rw [h2.len, List.length_map], ⟨?_, ?_, ?_, ?_, ?_, ?_, ga.bn, fun s v hv => ?_, ga.bl, ga.inj, ga.nd, ga.rg, ga.fr, fun x hx => ?_⟩⟩
  · rw [upd_ne (ne_of ga.ob h1 (by intro z; cases z))]
    exact ga.ob
  · exact ⟨_, upd_same, by rw [List.map_append]; exact h2.app (.one ay)⟩
  · obtain ⟨us, k1, k2⟩ := ga.hl
    exact ⟨us, by rw [upd_ne n1.symm]; exact k1, k2⟩
  · obtain ⟨us, es, k1, k2, k3⟩ := ga.ha
    exact ⟨us, es, by rw [upd_ne n2.symm]; exact k1, k2, k3⟩
  · obtain ⟨us, k1, k2⟩ := ga.he
    exact ⟨us, by rw [upd_ne n3.symm]; exact k1, k2⟩
  · rw [upd_ne (ne_of ga.hb h1 (by intro z; cases z))]
    exact ga.hb
  · obtain ⟨q, e, k1, k2, q1, q2, q3, q4⟩ := ga.bs s v hv
    exact ⟨q, e, by rw [upd_ne q1]; exact k1, k2, q1, q2, q3, q4⟩
  · by_cases z : x = A.f
    · rw [z, upd_same]
      exact ⟨_, rfl, nt_lst, fun φ w => by cases w⟩
    · rw [upd_ne z]
      exact ga.here x hx
theorem GAt.links1 (ga : GAt C R Hs H g G A) {r : List Nat} {y : V} (ay : At Hs y (encRow r)) : ∃ vs, H A.l = some (.lst vs) ∧ vs.length = G.links.length ∧ GAt C R Hs (upd H A.l (.lst (vs ++ [y]))) g { G with links := G.links ++ [r] } A := by
  obtain ⟨vs, h1, h2⟩ := ga.hl
  obtain ⟨n1, n2, n3, n4, n5, n6⟩ := ga.ne
  refine ⟨vs, h1, by rw [h2.len, List.length_map], ⟨?_, ?_, ?_, ?_, ?_, ?_, ga.bn, fun s v hv => ?_, ga.bl, ga.inj, ga.nd, ga.rg, ga.fr, fun x hx => ?_⟩⟩
  · rw [upd_ne (ne_of ga.ob h1 (by intro z; cases z))]
    exact ga.ob
  · obtain ⟨us, k1, k2⟩ := ga.hf
    exact ⟨us, by rw [upd_ne n1]; exact k1, k2⟩
  · exact ⟨_, upd_same, by rw [List.map_append]; exact h2.app (.one ay)⟩
  · obtain ⟨us, es, k1, k2, k3⟩ := ga.ha
    exact ⟨us, es, by rw [upd_ne n4.symm]; exact k1, k2, k3⟩
  · obtain ⟨us, k1, k2⟩ := ga.he
    exact ⟨us, by rw [upd_ne n5.symm]; exact k1, k2⟩
  · rw [upd_ne (ne_of ga.hb h1 (by intro z; cases z))]
    exact ga.hb
  · obtain ⟨q, e, k1, k2, q1, q2, q3, q4⟩ := ga.bs s v hv
    exact ⟨q, e, by rw [upd_ne q2]; exact k1, k2, q1, q2, q3, q4⟩
  · by_cases z : x = A.l
    · rw [z, upd_same]
      exact ⟨_, rfl, nt_lst, fun φ w => by cases w⟩
    · rw [upd_ne z]
      exact ga.here x hx
theorem GAt.ways1 (ga : GAt C R Hs H g G A) {w : List Nat} {y : V} (ay : At Hs y (encWay w)) : ∃ vs, H A.e = some (.lst vs) ∧ vs.length = G.ways.length ∧ GAt C R Hs (upd H A.e (.lst (vs ++ [y]))) g { G with ways := G.ways ++ [w] } A := by
  obtain ⟨vs, h1, h2⟩ := ga.he
  obtain ⟨n1, n2, n3, n4, n5, n6⟩ := ga.ne
  refine ⟨vs, h1, by rw [h2.len, List.length_map], ⟨?_, ?_, ?_, ?_, ?_, ?_, ga.bn, fun s v hv => ?_, ga.bl, ga.inj, ga.nd, ga.rg, ga.fr, fun x hx => ?_⟩⟩
  · rw [upd_ne (ne_of ga.ob h1 (by intro z; cases z))]
    exact ga.ob
  · obtain ⟨us, k1, k2⟩ := ga.hf
    exact ⟨us, by rw [upd_ne n3]; exact k1, k2⟩
  · obtain ⟨us, k1, k2⟩ := ga.hl
    exact ⟨us, by rw [upd_ne n5]; exact k1, k2⟩
  · obtain ⟨us, es, k1, k2, k3⟩ := ga.ha
    exact ⟨us, es, by rw [upd_ne n6]; exact k1, k2, k3⟩
  · exact ⟨_, upd_same, by rw [List.map_append]; exact h2.app (.one ay)⟩
  · rw [upd_ne (ne_of ga.hb h1 (by intro z; cases z))]
    exact ga.hb
  · obtain ⟨q, e, k1, k2, q1, q2, q3, q4⟩ := ga.bs s v hv
    exact ⟨q, e, by rw [upd_ne q4]; exact k1, k2, q1, q2, q3, q4⟩
  · by_cases z : x = A.e
    · rw [z, upd_same]
      exact ⟨_, rfl, nt_lst, fun φ w => by cases w⟩
    · rw [upd_ne z]
      exact ga.here x hx
theorem GAt.gates1 (ga : GAt C R Hs H g G A) {d : D} {y : V} (ay : At Hs y d) : ∃ vs, H A.a = some (.lst vs) ∧ vs.length = A.gn ∧ GAt C R Hs (upd H A.a (.lst (vs ++ [y]))) g G { A with gn := A.gn + 1 } := by
  obtain ⟨vs, ds, h1, h2, h3⟩ := ga.ha
  obtain ⟨n1, n2, n3, n4, n5, n6⟩ := ga.ne
  refine ⟨vs, h1, by rw [h2.len, h3], ⟨?_, ?_, ?_, ?_, ?_, ?_, ga.bn, fun s v hv => ?_, ga.bl, ga.inj, ga.nd, ga.rg, ga.fr, fun x hx => ?_⟩⟩
  · rw [upd_ne (ne_of ga.ob h1 (by intro z; cases z))]
    exact ga.ob
  · obtain ⟨us, k1, k2⟩ := ga.hf
    exact ⟨us, by rw [upd_ne n2]; exact k1, k2⟩
  · obtain ⟨us, k1, k2⟩ := ga.hl
    exact ⟨us, by rw [upd_ne n4]; exact k1, k2⟩
  · exact ⟨_, ds ++ [d], upd_same, h2.app (.one ay), by rw [List.length_append, h3]; rfl⟩
  · obtain ⟨us, k1, k2⟩ := ga.he
    exact ⟨us, by rw [upd_ne n6.symm]; exact k1, k2⟩
  · rw [upd_ne (ne_of ga.hb h1 (by intro z; cases z))]
    exact ga.hb
  · obtain ⟨q, e, k1, k2, q1, q2, q3, q4⟩ := ga.bs s v hv
    exact ⟨q, e, by rw [upd_ne q3]; exact k1, k2, q1, q2, q3, q4⟩
  · by_cases z : x = A.a
    · rw [z, upd_same]
      exact ⟨_, rfl, nt_lst, fun φ w => by cases w⟩
    · rw [upd_ne z]
      exact ga.here x hx
/-- a number is laid into its bucket -/
theorem GAt.old1 (ga : GAt C R Hs H g G A) {p : Plan} {v : V} (hv : valV A.kvs (.inl (sizeL p)) = some v) : ∃ q, v = .ref q ∧ R q ∧ H q = some (.lst ((bucket A.fb (sizeL p)).map fun i => V.int (i : Nat))) ∧ GAt C R Hs (upd H q (.lst ((bucket A.fb (sizeL p)).map (fun i => V.int (i : Nat)) ++ [V.int (A.fb.length : Nat)]))) g G { A with fb := A.fb ++ [p] } := by
  obtain ⟨q, rfl, h1, rq, n1, n2, n3, n4⟩ := ga.bs _ v hv
  refine ⟨q, rfl, rq, h1, ⟨?_, ?_, ?_, ?_, ?_, ?_, fun s hs => ?_, fun s v hs => ?_, ?_, ga.inj, ga.nd, ga.rg, ga.fr, fun x hx => ?_⟩⟩
  · rw [upd_ne (ne_of ga.ob h1 (by intro z; cases z))]
    exact ga.ob
  · obtain ⟨us, k1, k2⟩ := ga.hf
    exact ⟨us, by rw [upd_ne n1.symm]; exact k1, k2⟩
  · obtain ⟨us, k1, k2⟩ := ga.hl
    exact ⟨us, by rw [upd_ne n2.symm]; exact k1, k2⟩
  · obtain ⟨us, es, k1, k2, k3⟩ := ga.ha
    exact ⟨us, es, by rw [upd_ne n3.symm]; exact k1, k2, k3⟩
  · obtain ⟨us, k1, k2⟩ := ga.he
    exact ⟨us, by rw [upd_ne n4.symm]; exact k1, k2⟩
  · rw [upd_ne (ne_of ga.hb h1 (by intro z; cases z))]
    exact ga.hb
  · show bucket (A.fb ++ [p]) s = []
    have hs' : valV A.kvs (.inl s) = none := hs
    rw [bucket_snoc, ga.bn s hs']
    by_cases z : sizeL p = s
    · rw [z, hs'] at hv
      cases hv
    · simp [z]
  · obtain ⟨r, e, k1, k2, k3⟩ := ga.bs s v hs
    subst e
    refine ⟨r, rfl, ?_, k2, k3⟩
    by_cases z : r = q
    · subst z
      have es : s = sizeL p := ga.inj _ _ _ hs hv
      subst es
      rw [upd_same]
      show _ = some (HO.lst ((bucket (A.fb ++ [p]) (sizeL p)).map fun i => V.int (i : Nat)))
      rw [bucket_snoc]
      simp
    · rw [upd_ne z, k1]
      show _ = some (HO.lst ((bucket (A.fb ++ [p]) s).map fun i => V.int (i : Nat)))
      have ns : ¬ sizeL p = s := fun w => by
        subst w
        rw [hv] at hs
        cases hs
        exact z rfl
      rw [bucket_snoc]
      simp [ns]
  · show A.kvs.length ≤ (A.fb ++ [p]).length
    have := ga.bl
    rw [List.length_append]
    omega
  · by_cases z : x = q
    · rw [z, upd_same]
      exact ⟨_, rfl, nt_lst, fun φ w => by cases w⟩
    · rw [upd_ne z]
      exact ga.here x hx
theorem valV_put {kvs : List (Key × V)} {k j : Key} {v : V} (h : valV kvs k = none) : valV (putK kvs k v) j = if j = k then some v else valV kvs j := by
  have hn : (kvs.any fun kv => decide (kv.1 = k)) = false := by
    unfold valV at h
    have h' : kvs.find? (fun kv => decide (kv.1 = k)) = none := by simpa using h
    rw [List.any_eq_false]
    intro x hx
    exact List.find?_eq_none.mp h' x hx
  unfold putK
  rw [hn]
  simp only [Bool.false_eq_true, if_false]
  unfold valV
  rw [List.find?_append]
  by_cases z : j = k
  · subst z
    unfold valV at h
    have h' : kvs.find? (fun kv => decide (kv.1 = j)) = none := by simpa using h
    rw [h']
    simp
  · rw [if_neg z]
    have : ([(k, v)] : List (Key × V)).find? (fun kv => decide (kv.1 = j)) = none := by
      simp
      exact fun w => z w.symm
    rw [this]
    simp
theorem putK_len {kvs : List (Key × V)} {k : Key} {v : V} : (putK kvs k v).length ≤ kvs.length + 1 := by
  unfold putK
  split
  · rw [List.length_map]
    exact Nat.le_succ _
  · rw [List.length_append]
    exact Nat.le_refl _
/-- a new bucket at q -/
theorem GAt.new1 (ga : GAt C R Hs H g G A) {p : Plan} (hv : valV A.kvs (.inl (sizeL p)) = none) {q : Addr} {us : List V} (hq : H q = some (.lst us)) (nq : ¬ R q) (fq : Fr Hs q) :
    GAt C (fun x => R x ∨ x = q) Hs (upd (upd H A.b (.dK (putK A.kvs (.inl (sizeL p)) (.ref q)))) q (.lst [V.int (A.fb.length : Nat)])) g G { A with fb := A.fb ++ [p], kvs := putK A.kvs (.inl (sizeL p)) (.ref q) } := by
  obtain ⟨r0, r1, r2, r3, r4, r5⟩ := ga.rg
  have nx : ∀ x, R x → x ≠ q := fun x hx z => nq (by rw [← z]; exact hx)
  have b0 : bucket A.fb (sizeL p) = [] := ga.bn _ hv
  have lb : ∀ {x us}, H x = some (.lst us) → x ≠ A.b := fun h => ne_of h ga.hb (by intro z; cases z)
  refine ⟨?_, ?_, ?_, ?_, ?_, ?_, fun s hs => ?_, fun s v hs => ?_, ?_, fun s t r h1 h2 => ?_, ga.nd, ⟨.inl r0, .inl r1, .inl r2, .inl r3, .inl r4, .inl r5⟩, fun x hx => ?_, fun x hx => ?_⟩
  · rw [upd_ne (nx _ r0), upd_ne (ne_of ga.ob ga.hb (by intro z; cases z))]
    exact ga.ob
  · obtain ⟨us, k1, k2⟩ := ga.hf
    exact ⟨us, by rw [upd_ne (nx _ r1), upd_ne (lb k1)]; exact k1, k2⟩
  · obtain ⟨us, k1, k2⟩ := ga.hl
    exact ⟨us, by rw [upd_ne (nx _ r3), upd_ne (lb k1)]; exact k1, k2⟩
  · obtain ⟨us, es, k1, k2, k3⟩ := ga.ha
    exact ⟨us, es, by rw [upd_ne (nx _ r4), upd_ne (lb k1)]; exact k1, k2, k3⟩
  · obtain ⟨us, k1, k2⟩ := ga.he
    exact ⟨us, by rw [upd_ne (nx _ r5), upd_ne (lb k1)]; exact k1, k2⟩
  · rw [upd_ne (nx _ r2), upd_same]
  · have hs' : valV (putK A.kvs (.inl (sizeL p)) (.ref q)) (.inl s) = none := hs
    rw [valV_put hv] at hs'
    show bucket (A.fb ++ [p]) s = []
    by_cases z : sizeL p = s
    · subst z
      simp at hs'
    · have z' : ¬ (Sum.inl s : Key) = .inl (sizeL p) := fun w => z (Sum.inl.inj w).symm
      rw [if_neg z'] at hs'
      rw [bucket_snoc, ga.bn s hs']
      simp [z]
  · have hs' : valV (putK A.kvs (.inl (sizeL p)) (.ref q)) (.inl s) = some v := hs
    rw [valV_put hv] at hs'
    show ∃ r, v = .ref r ∧ _ = some (HO.lst ((bucket (A.fb ++ [p]) s).map fun i => V.int (i : Nat))) ∧ (R r ∨ r = q) ∧ _
    by_cases z : sizeL p = s
    · subst z
      rw [if_pos rfl] at hs'
      refine ⟨q, (Option.some.inj hs').symm, ?_, .inr rfl, fun w => nx _ r1 w.symm, fun w => nx _ r3 w.symm, fun w => nx _ r4 w.symm, fun w => nx _ r5 w.symm⟩
      rw [upd_same, bucket_snoc, b0]
      simp
    · have z' : ¬ (Sum.inl s : Key) = .inl (sizeL p) := fun w => z (Sum.inl.inj w).symm
      rw [if_neg z'] at hs'
      obtain ⟨r, e, k1, k2, k3⟩ := ga.bs s v hs'
      refine ⟨r, e, ?_, .inl k2, k3⟩
      rw [upd_ne (nx _ k2), upd_ne (lb k1), k1, bucket_snoc]
      simp [z]
  · show (putK A.kvs (.inl (sizeL p)) (.ref q)).length ≤ (A.fb ++ [p]).length
    have h1 := ga.bl
    have h2 := putK_len (kvs := A.kvs) (k := .inl (sizeL p)) (v := .ref q)
    rw [List.length_append]
    simp
    omega
  · have h1' : valV (putK A.kvs (.inl (sizeL p)) (.ref q)) (.inl s) = some (.ref r) := h1
    have h2' : valV (putK A.kvs (.inl (sizeL p)) (.ref q)) (.inl t) = some (.ref r) := h2
    rw [valV_put hv] at h1' h2'
    by_cases z1 : (Sum.inl s : Key) = .inl (sizeL p)
    · rw [if_pos z1] at h1'
      by_cases z2 : (Sum.inl t : Key) = .inl (sizeL p)
      · exact Sum.inl.inj (z1.trans z2.symm)
      · rw [if_neg z2] at h2'
        obtain ⟨r', e, _, k2, _⟩ := ga.bs t _ h2'
        cases e
        cases h1'
        exact absurd k2 nq
    · rw [if_neg z1] at h1'
      by_cases z2 : (Sum.inl t : Key) = .inl (sizeL p)
      · rw [if_pos z2] at h2'
        obtain ⟨r', e, _, k2, _⟩ := ga.bs s _ h1'
        cases e
        cases h2'
        exact absurd k2 nq
      · rw [if_neg z2] at h2'
        exact ga.inj s t r h1' h2'
  · rcases hx with h | h
    · exact ga.fr x h
    · rw [h]
      exact fq
  · by_cases z : x = q
    · rw [z, upd_same]
      exact ⟨_, rfl, nt_lst, fun φ w => by cases w⟩
    · rw [upd_ne z]
      rcases hx with h | h
      · by_cases y : x = A.b
        · rw [y, upd_same]
          exact ⟨_, rfl, (fun ps w => by cases w), fun φ w => by cases w⟩
        · rw [upd_ne y]
          exact ga.here x h
      · exact absurd h z
end
/-! ### promises of any kind -/
section
variable {P : Program} {w : World} {K : PySem.W.Frag} {mg : Str → Option Value} {base : Heap}
theorem def_raw {d : He.DefD} {N ps : List Str} {k : Nat} {sp : Sp} (F : There K d ps) (S : FnScope N ps d.scope) (hl : ∀ vs H Q E, sp vs H Q E → vs.length = ps.length)
    (hb : ∀ (cdv : Value) (A : Around) (outer : List PySem.Env) (s : Shared) (H : Hp) (E : XK), Room k (A.deeper (PyProof.Rows.envOfC d.qual d.scope s.heap.objs.size (He.fAd K d.at_) cdv)) → ∀ vs Q, sp vs H Q E →
      ∃ t, PSs (cxOf CX0 P w K mg base N d.qual d.scope (He.fAd K d.at_) cdv A outer s H E).nox d.body t ∧ t { nx := fun _ H' => Q .non H', rt := Q } (L2.start N vs) H) :
    Keeps P w K mg base d ps (k + 1) sp := by
  obtain ⟨fd, F, b⟩ := F.ex
  refine ⟨⟨fd, F.ok S hl fun cdv A outer s H vs Q E hr h => ?_, b⟩, F.kp⟩
  obtain ⟨t, h1, h2⟩ := hb cdv A outer s H E hr vs Q h
  exact ⟨t, h1.nox, h2⟩
/-- o.m(e ..), m of the class Graph -/
theorem pe_km {X : Cx} {d : He.DefD} {ps : List Str} {k : Nat} {sp : Sp} {apos pos : Pos} {o e : Expr} {es : List Expr} {ta : TE} {t : TA} {m : Str} {pl : Sem Bool} {C f : Addr} (h : Keeps X.prog X.w X.K X.mg X.base d ps k sp) (hr : Room k X.A) (c : Cls X.K C) (hm : Meth X.K C m f) (ef : He.fAd X.K d.at_ = f)
    (ho : PE X o ta) (ha : PA X (e :: es) t)
    (hst : starEach (e :: es) X.env = (false, eval e X.env) :: starEach es X.env := by rfl) (hpl : (backTo pos (starEach es X.env)).any (·.1) = false := by rfl)
    (ht : eval (.Call (.Attribute o m apos) (e :: es) [] pos) X.env = (do
      let ov ← eval o X.env
      standAt apos.atName
      let (f, first) ← holding [ov] (getMethod ov m pl)
      callWith pos f first (backTo pos (starEach (e :: es) X.env)) (backToKw pos (keywordEach [] X.env))) := by rfl) :
    PE X (.Call (.Attribute o m apos) (e :: es) [] pos) (tMeth C m sp [] E0 ta t) := by
  obtain ⟨fd, F, b⟩ := h.ex
  rw [ef] at F
  exact pe_meth ho c hm F hr b .nil pass0 ha hst hpl ht
theorem pe_km0 {X : Cx} {d : He.DefD} {ps : List Str} {k : Nat} {sp : Sp} {apos pos : Pos} {o : Expr} {ta : TE} {m : Str} {pl : Sem Bool} {C f : Addr} (h : Keeps X.prog X.w X.K X.mg X.base d ps k sp) (hr : Room k X.A) (c : Cls X.K C) (hm : Meth X.K C m f) (ef : He.fAd X.K d.at_ = f)
    (ho : PE X o ta)
    (ht : eval (.Call (.Attribute o m apos) [] [] pos) X.env = (do
      let ov ← eval o X.env
      standAt apos.atName
      let (f, first) ← holding [ov] (getMethod ov m pl)
      callWith pos f first (backTo pos (starEach [] X.env)) (backToKw pos (keywordEach [] X.env))) := by rfl) :
    PE X (.Call (.Attribute o m apos) [] [] pos) (tMeth C m sp [] E0 ta tNil) := by
  obtain ⟨fd, F, b⟩ := h.ex
  rw [ef] at F
  exact pe_meth0 ho c hm F hr b .nil pass0 ht
theorem pe_kmk {X : Cx} {d : He.DefD} {ps : List Str} {k : Nat} {sp : Sp} {p pos : Pos} {e : Expr} {es : List Expr} {t : TA} {x : Str} {C f : Addr} (h : Keeps X.prog X.w X.K X.mg X.base d ps k sp) (hr : Room (k + 1) X.A) (M : Mk X.K C f) (ef : He.fAd X.K d.at_ = f) (hg : Gl X x) (hm : X.mg x = some (.ref C))
    (ha : PA X (e :: es) t) (hdb : (x == ("__debug__" : Str)) = false := by decide) (he : starEach (e :: es) X.env = (false, eval e X.env) :: starEach es X.env := by rfl) (hpl : (backTo pos (starEach es X.env)).any (·.1) = false := by rfl) :
    PE X (.Call (.Name x p) (e :: es) [] pos) (tMake C sp [] E0 t) := by
  obtain ⟨fd, F, b⟩ := h.ex
  rw [ef] at F
  exact pe_make M F hr hg hm b .nil pass0 ha hdb he hpl
end
end G
set_option Elab.async false
set_option linter.all false
set_option maxRecDepth 100000
set_option maxHeartbeats 1000000
/-! number_of -/
namespace G
open PySem PySem.Spec L2 LamX NdefX PyProof.Rows
def encN : Option Nat → D
  | none => .none
  | some n => .int (n : Nat)
def Num (fs : List Plan) (p : Plan) : Option Nat → Prop
  | none => p ∉ fs
  | some n => fs[n]? = some p
/-- the graph as it stands, nothing of it changes -/
structure GFz (K : PySem.W.Frag) (Hs : Hp) (g : Addr) (fs : List Plan) (A : GAd) : Prop where
  ob : Hs g = some (.ins (He.ga K "Graph") A.dx (gf A))
  hf : ∃ vs, Hs A.f = some (.lst vs) ∧ AtAll Hs vs (fs.map enc)
  hb : Hs A.b = some (.dK A.kvs)
  bn : ∀ s : Int, valV A.kvs (.inl s) = none → bucket fs s = []
  bs : ∀ (s : Int) (v : V), valV A.kvs (.inl s) = some v → ∃ q, v = .ref q ∧ Hs q = some (.lst ((bucket fs s).map fun i => V.int (i : Nat)))
theorem GFz.up {K : PySem.W.Frag} {Hs Hs' : Hp} {g : Addr} {fs : List Plan} {A : GAd} (h : GFz K Hs g fs A) (x : ExtN Hs Hs') : GFz K Hs' g fs A := by
  refine ⟨x _ _ h.ob (fun _ z => by cases z), ?_, x _ _ h.hb (fun _ z => by cases z), h.bn, fun s v e => ?_⟩
  · obtain ⟨vs, h1, h2⟩ := h.hf
    exact ⟨vs, x _ _ h1 nt_lst, h2.up x⟩
  · obtain ⟨q, e1, e2⟩ := h.bs s v e
    exact ⟨q, e1, x _ _ e2 nt_lst⟩
theorem GAt.fz {K : PySem.W.Frag} {R : Addr → Prop} {Hs H : Hp} {g : Addr} {G : Gr} {A : GAd} (h : GAt (He.ga K "Graph") R Hs H g G A) (x : ExtN Hs H) (ef : A.fb = G.forms) : GFz K H g G.forms A := by
  refine ⟨h.ob, ?_, h.hb, by rw [← ef]; exact h.bn, fun s v e => ?_⟩
  · obtain ⟨vs, h1, h2⟩ := h.hf
    exact ⟨vs, h1, h2.up x⟩
  · obtain ⟨q, e1, e2, _⟩ := h.bs s v e
    exact ⟨q, e1, by rw [← ef]; exact e2⟩
section
variable {T : List (Addr × Str)} {δ : List Sl} {te : TE} {K : PySem.W.Frag} {mg : Str → Option Value} {Φ : D → Prop} {i : Nat} {g : Addr} {fs : List Plan} {A : GAd}
theorem frz_get {Hs H : Hp} {σ : L2.St} (o : Ok T none δ Hs H σ) (e : δ[i]? = some (.f fun Hs _ a => a = g ∧ GFz K Hs g fs A)) : σ[i]? = some (some (.ref g)) ∧ GFz K Hs g fs A := by
  obtain ⟨w, h1, a, rfl, h2⟩ := o.at_ i _ e
  obtain ⟨rfl, h3⟩ := h2 Hs H (ExtN.refl _) (ExtE.refl _)
  exact ⟨h1, h3⟩
theorem ev_formsF (B : Bs K mg) (e : δ[i]? = some (.f fun Hs _ a => a = g ∧ GFz K Hs g fs A)) (h : Φ (.list (fs.map enc))) : Ev T none (tFld K (tVar i) "forms") δ Φ := fun Hs H σ Q o q => by
  obtain ⟨h1, h2⟩ := frz_get o e
  obtain ⟨vs, k1, k2⟩ := h2.hf
  exact ⟨_, h1, g, _, _, _, _, rfl, o.ext _ _ h2.ob (fun _ z => by cases z), B.gcls, B.g_forms, gf_forms A, q _ _ Hs H h o.refl (.lst k1 k2)⟩
theorem ev_bucketF (B : Bs K mg) (e : δ[i]? = some (.f fun Hs _ a => a = g ∧ GFz K Hs g fs A)) (h : Ev T none te δ fun d => ∃ s, d = .int s ∧ Φ (.list (encNs (bucket fs s)))) : Ev T none (tDGet2 (tFld K (tVar i) "by_size") te (tLst tNil)) δ Φ := fun Hs H σ Q o q => by
  obtain ⟨h1, h2⟩ := frz_get o e
  refine ⟨_, h1, g, _, _, _, _, rfl, o.ext _ _ h2.ob (fun _ z => by cases z), B.gcls, B.g_by_size, gf_by_size A, A.b, rfl, .inl ⟨_, .inl (o.ext _ _ h2.hb (fun _ z => by cases z))⟩, ?_⟩
  refine h Hs H σ _ o fun d v H1s H1 ⟨s, ed, hp⟩ s1 a1 => ?_
  subst ed
  cases a1
  have h3 := h2.up s1.s
  refine ⟨by show 0 ≤ sizeLine; exact Nat.zero_le _, fun p hp0 => ?_⟩
  have s2 := Stp.new (T := T) (ta := none) (o := .lst []) s1.x s1.t hp0
  have s12 := s1.trans s2
  have h4 := h3.up s2.s
  refine ⟨_, DGet.k (k := .inl s) (s2.x _ _ h4.hb (fun _ z => by cases z)), ?_⟩
  cases ev : valV A.kvs (.inl s) with
  | none =>
    rw [h2.bn s ev] at hp
    exact q _ _ _ _ hp s12 (.lst upd_same .nil)
  | some w =>
    obtain ⟨b, rfl, hb⟩ := h4.bs s w ev
    refine q _ _ _ _ hp s12 (.lst hb ?_)
    have := AtAll.of_ints (H := upd H1s p (.lst [])) ((bucket fs s).map fun n : Nat => (n : Int))
    rw [List.map_map, List.map_map] at this
    exact this
end
theorem run_sv {T : List (Addr × Str)} {ts : TS} {δ : List Sl} {rt : D → Prop} {σ : L2.St} {H : Hp} {Q : VK} (h : Sv T none ts δ { nx := fun _ => False, rt := rt }) (n : In T none H H δ H H σ)
    (hq : ∀ d v Hs' H', rt d → Stp T none H H Hs' H' → At Hs' v d → Q v H') : ts { nx := fun _ H' => Q .non H', rt := Q } σ H :=
  h H H H H σ _ n (fun _ _ _ _ z => z.elim) (fun _ _ _ _ z => z.elim) (fun _ _ _ _ z => z.elim) hq
section
variable {W : Wd} {k : Nat}
def spNum (W : Wd) : Sp := fun vs H Q _ => ∃ (Hs : Hp) (R : Addr → Prop) (g : Addr) (G : Gr) (A : GAd) (p : Plan) (v : V), vs = [.ref g, v] ∧ ExtN Hs H ∧ Tabs W.T H ∧ GAt (He.ga W.K "Graph") R Hs H g G A ∧ A.fb = G.forms ∧ At Hs v (enc p) ∧ SmL p ∧ nestL p ≤ 60 ∧
  ∀ (r : Option Nat) (u : V) (H' : Hp), Num G.forms p r → At Hs u (encN r) → Stp W.T none Hs H Hs H' → Q u H'
theorem k_number_of (B : Bs W.K W.mg) (h_size_of : Kp W d_size_of ["plan"] k (rSizeL 61)) : Keeps W.P W.w W.K W.mg W.base d_Graph_number_of ["self", "form"] (k + 1) (spNum W) :=
  def_raw B.t_Graph_number_of sc_Graph_number_of (fun vs H Q E ⟨_, _, _, _, _, _, _, h, _⟩ => by rw [h]; rfl) fun cdv An outer s H E hr vs Q ⟨Hs, R, g, G, A, p, v, ev, x, t, ga, ef, a1, sm, np, q⟩ => by
    subst ev
    refine ⟨_, (pss_cons (ps_for PassesOwn.never rfl (pi_list (pe_dget2 (Nat.lt_of_le_of_lt (Nat.add_le_add_left (by decide : 1 ≤ 200) _) (u200 hr)) (pe_fld (pv 0) rfl) (pe_k h_size_of hr rfl B.m_size_of (pa_cons (pv 1) pa_nil)) (pe_lst pa_nil) ⟨rfl, rfl, rfl, rfl⟩)) (pg_name (i := 2) sc_Graph_number_of.nd rfl (Or.inl rfl)) (pss_one (ps_if (pt_cmpR (op_eqK W.K (u200 hr)) (pe_ix (ix_listK W.K) (pe_fld (pv 0) rfl) (pv 2) (fun _ _ => rfl)) (pv 1) (nomark _)) (pss_one (ps_ret (pv 2))) pss_nil)))
    (pss_one (ps_ret pe_non))), ?_⟩
    have n0 : In W.T none H H [.f fun Hs _ a => a = g ∧ GFz W.K Hs g G.forms A, .d (enc p), .any] H H (L2.start n_Graph_number_of [.ref g, v]) := by
      refine ⟨⟨ExtN.refl _, t, fun _ e => (by cases e), rfl, fun i sl e => ?_, fun i j a xs ys e => ?_⟩, Stp.refl (ExtN.refl _) t, fun i xs a e => ?_⟩
      · match i, e with
        | 0, e =>
          cases e
          exact ⟨some (.ref g), rfl, g, rfl, fun Hs' H' x1 _ => ⟨rfl, (ga.fz x ef).up x1⟩⟩
        | 1, e =>
          cases e
          exact ⟨some v, rfl, v, rfl, a1.up x⟩
        | 2, e =>
          cases e
          exact ⟨none, rfl, trivial⟩
        | i + 3, e => simp at e
      · match i, e with
        | 0, e => cases e
        | 1, e => cases e
        | 2, e => cases e
        | i + 3, e => simp at e
      · match i, e with
        | 0, e => cases e
        | 1, e => cases e
        | 2, e => cases e
        | i + 3, e => simp at e
    refine run_sv (rt := fun y => ∃ r, y = encN r ∧ Num G.forms p r) ?_ n0 ?_
    · refine sv_seq (sv_for (js := [2]) (ei_list (ev_bucketF B rfl (ev_call (ea1 (ev_var rfl ⟨_, ⟨p, rfl, by omega, sm, rfl⟩, _, rfl, _, rfl, fun j δ => ∃ s2, δ = [.f fun Hs _ a => a = g ∧ GFz W.K Hs g G.forms A, .d (enc p), s2] ∧ ∀ n ∈ (bucket G.forms (sizeL p)).take j, G.forms[n]? ≠ some p, ⟨_, rfl, fun n hn => by cases hn⟩, ?_, ?_⟩))))))
      · rintro j y δ hy ⟨s2, rfl, no⟩
        obtain ⟨n, en, rfl⟩ := encNs_get hy
        obtain ⟨r, er, _⟩ := bucket_mem.mp (List.mem_of_getElem? en)
        have e1 : (G.forms.map enc)[n]? = some (enc r) := by rw [List.getElem?_map, er]; rfl
        refine gt_name ?_
        refine sv_ifP (r = p) (et_TE (ev_op (ev_op (ev_formsF B rfl (ev_var rfl (rv_ixL (atI_natD e1) (ev_var rfl (rv_eqL (.inr np) rfl)))))))) (fun z => ?_) fun z => ?_
        · exact sv_ret (ev_var rfl ⟨some n, rfl, by rw [← z]; exact er⟩)
        · refine sv_next ⟨_, rfl, fun n' hn' => ?_⟩
          rw [take_snoc en] at hn'
          rcases List.mem_append.mp hn' with c | c
          · exact no n' c
          · have : n' = n := by simpa using c
            rw [this, er]
            exact fun w => z (Option.some.inj w)
      · rintro δ ⟨s2, rfl, no⟩
        have l : (encNs (bucket G.forms (sizeL p))).length = (bucket G.forms (sizeL p)).length := by simp [encNs]
        rw [l, List.take_length] at no
        refine sv_ret (ev_non ⟨none, rfl, fun m => ?_⟩)
        obtain ⟨n, hn⟩ := List.getElem?_of_mem m
        exact no n (bucket_mem.mpr ⟨p, hn, rfl⟩) hn
    · intro d u H1s H1 ⟨r, ed, hn⟩ s1 a2
      subst ed
      refine q r u H1 hn ?_ ⟨ExtN.refl _, s1.e, s1.k, fun b o h z => s1.e b o (x b o h z) z (by simp), s1.t, fun _ _ _ _ z => z, fun _ z => (by cases z)⟩
      cases r with
      | none => cases a2; exact .non
      | some n => cases a2; exact .int _
end
end G
set_option Elab.async false
set_option linter.all false
set_option maxRecDepth 100000
set_option maxHeartbeats 1000000
/-! reach -/
namespace G
open PySem PySem.Spec L2 LamX NdefX PyProof.Rows
section
variable {W : Wd} {k : Nat}
def spReach (W : Wd) : Sp := fun vs H Q _ => ∃ (Hs : Hp) (R : Addr → Prop) (g : Addr) (G : Gr) (A : GAd) (p : Plan) (ch : List Nat) (v1 v2 : V), vs = [.ref g, v1, v2] ∧ ExtN Hs H ∧ Tabs W.T H ∧ GAt (He.ga W.K "Graph") R Hs H g G A ∧ A.fb = G.forms ∧ At Hs v1 (enc p) ∧ At Hs v2 (encWay ch) ∧ SmL p ∧ nestL p ≤ 60 ∧ G.forms.length < 500 ∧ G.ways.length = G.forms.length ∧
  ∀ (R' : Addr → Prop) (A' : GAd) (G' : Gr) (n : Nat) (Hs' H' : Hp), ReachG G p ch G' n → GAt (He.ga W.K "Graph") R' Hs' H' g G' A' → A'.fb = G'.forms → A'.gn = A.gn → Rg W.T R Hs H R' Hs' H' → Q (.int (n : Nat)) H'
theorem k_reach (B : Bs W.K W.mg) (h_size_of : Kp W d_size_of ["plan"] k (rSizeL 61)) (h_number_of : Keeps W.P W.w W.K W.mg W.base d_Graph_number_of ["self", "form"] k (spNum W)) : Keeps W.P W.w W.K W.mg W.base d_Graph_reach ["self", "form", "choices"] (k + 1) (spReach W) :=
  def_raw B.t_Graph_reach sc_Graph_reach (fun vs H Q E ⟨_, _, _, _, _, _, _, _, _, h, _⟩ => by rw [h]; rfl) fun cdv An outer s H E hr vs Q ⟨Hs, R, g, G, A, p, ch, v1, v2, ev, x, t, ga, ef, a1, a2, sm, np, lf, lw, q⟩ => by
    subst ev
    refine ⟨_, (pss_cons (ps_set (i := 3) sc_Graph_reach.nd rfl (Or.inl rfl) (pe_km h_number_of hr B.gcls B.gm_number_of rfl (pv 0) (pa_cons (pv 1) pa_nil)))
    (pss_cons (ps_if (pt_cmp (pc_isN (pv 3)) rfl) (pss_cons (ps_if (pt_cmpR (op_eqK W.K (u200 hr)) (pe_callB (call_lenK W.K) (by rfl) B.len PySem.boot_len (pa_cons (pe_fld (pv 0) rfl) pa_nil)) (pe_c B.mostStandings) (nomark _)) (pss_one ps_never) pss_nil)
    (pss_cons (ps_set (i := 3) sc_Graph_reach.nd rfl (Or.inl rfl) (pe_callB (call_lenK W.K) (by rfl) B.len PySem.boot_len (pa_cons (pe_fld (pv 0) rfl) pa_nil)))
    (pss_cons (ps_expr (pe_bm PySem.F.plainAttrs_list PySem.F.slot_list_append PySem.F.type_list_append mt_append (pe_dsetd (pe_fld (pv 0) rfl) (pe_k h_size_of hr rfl B.m_size_of (pa_cons (pv 1) pa_nil)) (pe_lst pa_nil) ⟨rfl, rfl, rfl, rfl⟩) (pa_cons (pv 3) pa_nil)))
    (pss_cons (ps_expr (pe_bm PySem.F.plainAttrs_list PySem.F.slot_list_append PySem.F.type_list_append mt_append (pe_fld (pv 0) rfl) (pa_cons (pv 1) pa_nil)))
    (pss_one (ps_expr (pe_bm PySem.F.plainAttrs_list PySem.F.slot_list_append PySem.F.type_list_append mt_append (pe_fld (pv 0) rfl) (pa_cons (pv 2) pa_nil)))))))) pss_nil)
    (pss_one (ps_ret (pv 3))))), ?_⟩
    refine ⟨_, rfl, g, A.dx, _, rfl, ga.ob, gf_number_of A, _, rfl, Hs, R, g, G, A, p, v1, rfl, x, t, ga, ef, a1, sm, np, fun r u H1 hn au s1 => ?_⟩
    have ga1 := ga.step s1
    have mk : ∀ {Hs' H' : Hp} {d : D} {w : V}, ExtN Hs Hs' → ExtN Hs' H' → Tabs W.T H' → At Hs' w d → Ok W.T none [.v (.ref g), .d (enc p), .d (encWay ch), .d d] Hs' H' [some (.ref g), some v1, some v2, some w] := fun {Hs' H' d w} e1 e2 e3 aw => by
      refine ⟨e2, e3, fun _ e => (by cases e), rfl, fun i sl e => ?_, fun i j a xs ys e => ?_⟩
      · match i, e with
        | 0, e => cases e; exact ⟨_, rfl, rfl⟩
        | 1, e => cases e; exact ⟨_, rfl, v1, rfl, a1.up e1⟩
        | 2, e => cases e; exact ⟨_, rfl, v2, rfl, a2.up e1⟩
        | 3, e => cases e; exact ⟨_, rfl, w, rfl, aw⟩
        | i + 4, e => simp at e
      · match i, e with
        | 0, e => cases e
        | 1, e => cases e
        | 2, e => cases e
        | 3, e => cases e
        | i + 4, e => simp at e
    have o1 := mk s1.s s1.x s1.t au
    have hc : EvT W.T none (tB (tIsN (tVar 3))) [.v (.ref g), .d (enc p), .d (encWay ch), .d (encN r)] (· = isNon (encN r)) := et_B (ev_isN (ev_var rfl ⟨_, rfl, rfl⟩))
    show tIfS (tB (tIsN (tVar 3))) _ _ _ [some (.ref g), some v1, some v2, some u] H1
    refine hc Hs H1 _ _ o1 fun b H2s H2 eb s2 => ?_
    subst eb
    have ga2 := ga1.step s2
    have g12 : Rg W.T R Hs H R H2s H2 := Rg.of (s1.trans s2)
    cases r with
    | some n =>
      cases au
      exact ⟨_, rfl, q R A G n H2s H2 (.inl ⟨hn, rfl⟩) ga2 ef rfl g12⟩
    | none =>
      obtain ⟨vs, hf, af⟩ := ga2.hf
      have lv : vs.length = G.forms.length := by rw [af.len, List.length_map]
      refine ⟨_, rfl, g, _, A.dx, _, _, rfl, ga2.ob, B.gcls, B.g_forms, gf_forms A, A.f, vs, rfl, .inl (SqL.of hf), .int (vs.length : Nat), .int 500, .int _, .int _, rfl, rfl, by simp [PyData.depth], _, rfl, ?_⟩
      have nb : PyData.eqv (.int (vs.length : Nat)) (.int 500) = false := by
        rw [eqv_int]
        exact decide_eq_false (by omega)
      rw [nb]
      refine ⟨_, rfl, g, _, A.dx, _, _, rfl, ga2.ob, B.gcls, B.g_forms, gf_forms A, A.f, vs, rfl, .inl (SqL.of hf), ?_⟩
      refine ⟨_, rfl, g, _, A.dx, _, _, rfl, ga2.ob, B.gcls, B.g_by_size, gf_by_size A, A.b, rfl, .inl ⟨_, .inl ga2.hb⟩, ?_⟩
      have o3 := mk (d := .int (vs.length : Nat)) (w := .int (vs.length : Nat)) (s1.s.trans s2.s) s2.x s2.t (.int _)
      have hs : Ev W.T none (tCall (spD W.T (rSizeL 61)) [] E0 (tCons (tVar 1) tNil)) [.v (.ref g), .d (enc p), .d (encWay ch), .d (.int (vs.length : Nat))] (· = .int (sizeL p)) := ev_call (ea1 (ev_var rfl ⟨_, ⟨p, rfl, by omega, sm, rfl⟩, rfl⟩))
      refine hs H2s H2 _ _ o3 fun d w H3s H3 ed s3 a3 => ?_
      subst ed
      cases a3
      refine ⟨Nat.zero_le _, fun b hb => ?_⟩
      have s4 := Stp.own (T := W.T) (ta := none) (o := .lst []) s3.x s3.t hb
      have ga3 := ga2.step s3
      have ga4 := ga3.step s4
      have g14 : Rg W.T R Hs H R H3s (upd H3 b (.lst [])) := g12.trans (Rg.of (s3.trans s4))
      have rest : ∀ (R5 : Addr → Prop) (A5 : GAd) (H5 : Hp), GAt (He.ga W.K "Graph") R5 H3s H5 g G A5 → Rg W.T R Hs H R5 H3s H5 → A5.fb = G.forms ++ [p] → A5.gn = A.gn →
          (tSeq (tDrop (tBM W.K "list" rAppend (tFld W.K (tVar 0) "forms") (tCons (tVar 1) tNil))) (tDrop (tBM W.K "list" rAppend (tFld W.K (tVar 0) "earliest") (tCons (tVar 2) tNil)))) { nx := fun σ H' => tRet (tVar 3) { nx := fun _ H' => Q .non H', rt := Q } σ H', rt := Q } [some (.ref g), some v1, some v2, some (.int (vs.length : Nat))] H5 := by
        intro R5 A5 H5 ga5 g5 e5 e6
        obtain ⟨us, hf5, lf5, ga6⟩ := ga5.forms1 (p := p) (y := v1) (a1.up g5.s)
        refine ⟨_, rfl, g, _, A5.dx, _, _, rfl, ga5.ob, B.gcls, B.g_forms, gf_forms A5, .inl ⟨rfl, _, SqL.of hf5⟩, _, rfl, _, _, _, rfl, rfl, hf5, Nat.lt_of_lt_of_le (by omega : us.length < 500) (by decide), ?_⟩
        have g6 := g5.trans (Rg.mut g5.x g5.t ga5 ga5.rg.2.1 hf5 (nt_lst (xs := us ++ [v1])))
        obtain ⟨ws, he6, le6, ga7⟩ := ga6.ways1 (w := ch) (y := v2) (a2.up g6.s)
        refine ⟨_, rfl, g, _, A5.dx, _, _, rfl, ga6.ob, B.gcls, B.g_earliest, gf_earliest A5, .inl ⟨rfl, _, SqL.of he6⟩, _, rfl, _, _, _, rfl, rfl, he6, Nat.lt_of_lt_of_le (by have : ws.length = G.ways.length := le6; omega : ws.length < 500) (by decide), ?_⟩
        have g7 := g6.trans (Rg.mut g6.x g6.t ga6 ga6.rg.2.2.2.2.2 he6 (nt_lst (xs := ws ++ [v2])))
        refine ⟨_, rfl, ?_⟩
        exact q R5 A5 _ vs.length H3s _ (.inr ⟨hn, lv, rfl⟩) ga7 e5 e6 g7
      have ln : (vs.length : Int) = (A.fb.length : Nat) := by rw [ef]; omega
      have hrq : ∀ x, R x → ∃ o, H2 x = some o ∧ NT o := fun x hx => let ⟨o, h1, h2, _⟩ := ga2.here x hx; ⟨o, h1, h2⟩
      refine ⟨A.kvs, .inl (sizeL p), ga4.hb, rfl, Nat.lt_of_le_of_lt ga4.bl (Nat.lt_of_lt_of_le (by rw [ef]; exact lf) (by decide)), fun v hv => ?_, fun hv => ?_⟩
      · obtain ⟨q0, rfl, rq, h0, ga5⟩ := ga4.old1 (p := p) hv
        have lb := bucket_len A.fb (sizeL p)
        refine ⟨.inl ⟨rfl, _, SqL.of h0⟩, _, rfl, q0, _, _, rfl, rfl, h0, Nat.lt_of_le_of_lt (by rw [List.length_map]; exact lb) (Nat.lt_of_lt_of_le (by rw [ef]; exact lf) (by decide)), ?_⟩
        rw [ln]
        rw [ln] at rest
        exact rest R _ _ ga5 (g14.trans (Rg.mut g14.x g14.t ga4 rq h0 nt_lst)) (by show A.fb ++ [p] = _; rw [ef]) rfl
      · have nq : ¬ R b := fun hx => by
          obtain ⟨o, h1, h2, _⟩ := ga3.here b hx
          rw [hb] at h1
          cases h1
        have hq : upd H3 b (.lst []) b = some (.lst []) := upd_same
        have fq : Fr H3s b := stable_free s3.x hb
        have ga5 := ga4.new1 (p := p) hv hq nq fq
        have g5 := g14.trans (Rg.mut g14.x g14.t ga4 ga4.rg.2.2.1 ga4.hb (o := .dK (putK A.kvs (.inl (sizeL p)) (.ref b))) (fun _ z => by cases z))
        have nb : b ≠ A.b := fun z => nq (by rw [z]; exact ga4.rg.2.2.1)
        have hq2 : upd (upd H3 b (.lst [])) A.b (.dK (putK A.kvs (.inl (sizeL p)) (.ref b))) b = some (.lst []) := by rw [upd_ne nb]; exact hq
        refine ⟨.inl ⟨rfl, _, SqL.of hq2⟩, _, rfl, b, _, _, rfl, rfl, hq2, by show 0 < sizeLine; decide, ?_⟩
        rw [ln]
        rw [ln] at rest
        refine rest _ _ _ ga5 ⟨g5.s, fun c o h1 h2 h3 => ?_, fun c o h1 h2 => ?_, fun c o h1 h2 => ?_, tabs_mut g5.t hq2, g5.n, fun c hc => ?_⟩ (by show A.fb ++ [p] = _; rw [ef]) rfl
        · have h4 := g5.e c o h1 h2 h3
          by_cases z : c = b
          · exfalso
            obtain ⟨o2, h5, h6⟩ := g12.k c o h1 h2
            obtain ⟨o3, h7, h8⟩ := s3.k c o2 h5 h6
            rw [z, hb] at h7
            cases h7
          · rw [upd_ne z]
            exact h4
        · by_cases z : c = b
          · rw [z, upd_same]
            exact ⟨_, rfl, nt_lst⟩
          · rw [upd_ne z]
            exact g5.k c o h1 h2
        · rw [upd_ne (fr_ne fq h1 h2)]
          exact g5.x c o h1 h2
        · rcases hc with hc | hc
          · exact .inl hc
          · refine .inr fun o h1 h2 => ?_
            rw [hc] at h1
            obtain ⟨o2, h5, h6⟩ := g12.k b o h1 h2
            obtain ⟨o3, h7, h8⟩ := s3.k b o2 h5 h6
            rw [hb] at h7
            cases h7
end
end G
set_option Elab.async false
set_option linter.all false
set_option maxRecDepth 100000
set_option maxHeartbeats 1000000
/-! grow -/
namespace G
open PySem PySem.Spec L2 LamX NdefX PyProof.Rows
/-- a set of good forms that nothing leaves -/
def Dom (s : Plan) : Prop := ∃ Sx : List Plan, s ∈ Sx ∧ Sx.length ≤ 16 ∧ ∀ p ∈ Sx, Good p ∧ ∀ m ∈ pairsOf p, RawOk p m ∧ metOf p m ∈ Sx
theorem Dom.good {s : Plan} (h : Dom s) : Good s := let ⟨_, h1, _, h3⟩ := h; (h3 s h1).1
theorem Dom.raw {s : Plan} (h : Dom s) {m : Part × Part} (hm : m ∈ pairsOf s) : RawOk s m := let ⟨_, h1, _, h3⟩ := h; ((h3 s h1).2 m hm).1
theorem Dom.next {s : Plan} (h : Dom s) {m : Part × Part} (hm : m ∈ pairsOf s) : Dom (metOf s m) := let ⟨Sx, h1, h2, h3⟩ := h; ⟨Sx, ((h3 s h1).2 m hm).2, h2, h3⟩
theorem Dom.walk {s : Plan} (h : Dom s) : ∀ {n : Nat} {q : Plan}, Wk Succ n s q → Dom q
  | 0, q, w => by
    have : s = q := w
    subst this
    exact h
  | n + 1, q, ⟨p, w, m, hm, e⟩ => by
    subst e
    exact (h.walk w).next hm
theorem BI.few16 {s : Plan} {G : Gr} (b : BI s G) (h : Dom s) : G.forms.length ≤ 16 := by
  obtain ⟨Sx, h1, h2, h3⟩ := h
  refine Nat.le_trans (b.few h1 fun p q hp e => ?_) h2
  obtain ⟨m, hm, rfl⟩ := e
  exact ((h3 p hp).2 m hm).2
def WB (G : Gr) : Prop := ∀ w ∈ G.ways, w.length < G.forms.length
theorem WB.reach {G G' : Gr} {q : Plan} {w : List Nat} {n : Nat} (h : WB G) (r : ReachG G q w G' n) (hw : w.length ≤ G.forms.length) : WB G' := by
  rcases r with ⟨_, rfl⟩ | ⟨_, _, rfl⟩
  · exact h
  · intro x hx
    have hx' : x ∈ G.ways ++ [w] := hx
    show x.length < (G.forms ++ [q]).length
    rw [List.length_append, List.length_singleton]
    rcases List.mem_append.mp hx' with c | c
    · have := h x c
      omega
    · have e : x = w := by simpa using c
      rw [e]
      omega
def labD : Part → D
  | .nest _ d _ => .str (chr d)
  | _ => .none
section
variable {T : List (Addr × Str)} {R R1 R2 : Addr → Prop} {Hs H Hs1 H1 : Hp} {C g : Addr} {G : Gr} {A : GAd}
theorem GAt.off (ga : GAt C R Hs H g G A) {p : Addr} {o : HO} (np : ¬ R p) : GAt C R Hs (upd H p o) g G A := by
  have ne : ∀ {x}, R x → x ≠ p := fun h z => np (by rw [← z]; exact h)
  obtain ⟨r0, r1, r2, r3, r4, r5⟩ := ga.rg
  refine ⟨by rw [upd_ne (ne r0)]; exact ga.ob, ?_, ?_, ?_, ?_, by rw [upd_ne (ne r2)]; exact ga.hb, ga.bn, fun s v hv => ?_, ga.bl, ga.inj, ga.nd, ga.rg, ga.fr, fun x hx => by rw [upd_ne (ne hx)]; exact ga.here x hx⟩
  · obtain ⟨us, k1, k2⟩ := ga.hf
    exact ⟨us, by rw [upd_ne (ne r1)]; exact k1, k2⟩
  · obtain ⟨us, k1, k2⟩ := ga.hl
    exact ⟨us, by rw [upd_ne (ne r3)]; exact k1, k2⟩
  · obtain ⟨us, es, k1, k2, k3⟩ := ga.ha
    exact ⟨us, es, by rw [upd_ne (ne r4)]; exact k1, k2, k3⟩
  · obtain ⟨us, k1, k2⟩ := ga.he
    exact ⟨us, by rw [upd_ne (ne r5)]; exact k1, k2⟩
  · obtain ⟨q, e, k1, k2, k3⟩ := ga.bs s v hv
    exact ⟨q, e, by rw [upd_ne (ne k2)]; exact k1, k2, k3⟩
/-- more is stable, none of it the graph's -/
theorem GAt.more (ga : GAt C R Hs H g G A) (x : ExtN Hs Hs1) (f : ∀ y, R y → Fr Hs1 y) : GAt C R Hs1 H g G A := by
  refine ⟨ga.ob, ?_, ?_, ?_, ?_, ga.hb, ga.bn, ga.bs, ga.bl, ga.inj, ga.nd, ga.rg, f, ga.here⟩
  · obtain ⟨us, k1, k2⟩ := ga.hf
    exact ⟨us, k1, k2.up x⟩
  · obtain ⟨us, k1, k2⟩ := ga.hl
    exact ⟨us, k1, k2.up x⟩
  · obtain ⟨us, es, k1, k2, k3⟩ := ga.ha
    exact ⟨us, es, k1, k2.up x, k3⟩
  · obtain ⟨us, k1, k2⟩ := ga.he
    exact ⟨us, k1, k2.up x⟩
theorem Rg.off (s : Rg T R Hs H R1 Hs1 H1) {p : Addr} {us ws : List V} (n : Fr H p) (n1 : Fr Hs1 p) (h : H1 p = some (.lst us)) : Rg T R Hs H R1 Hs1 (upd H1 p (.lst ws)) where
  s := s.s
  e := fun b o q r z => by
    rw [upd_ne (fr_ne n q r)]
    exact s.e b o q r z
  k := fun b o q r => by
    rw [upd_ne (fr_ne n q r)]
    exact s.k b o q r
  x := fun b o q r => by
    rw [upd_ne (fr_ne n1 q r)]
    exact s.x b o q r
  t := tabs_mut s.t h
  n := s.n
  r := s.r
theorem Rg.more (s : Rg T R Hs H R1 Hs1 H1) {p : Addr} {us : List V} (n : Fr H p) (n1 : Fr Hs1 p) (h : H1 p = some (.lst us)) : Rg T R Hs H R1 (upd Hs1 p (.lst us)) H1 where
  s := s.s.trans (ext_updF n1)
  e := s.e
  k := s.k
  x := fun b o q r => by
    by_cases z : b = p
    · rw [z, upd_same] at q
      rw [z, h]
      exact q
    · rw [upd_ne z] at q
      exact s.x b o q r
  t := s.t
  n := fun b o q r z => fr_upd (s.n b o q r z) (fr_ne n q r)
  r := s.r
end
/-! ### a frame beside a graph -/
structure Cf (T : List (Addr × Str)) (C g : Addr) (R0 : Addr → Prop) (H0s H0 : Hp) (δ : List Sl) (R : Addr → Prop) (Hs H : Hp) (σ : L2.St) (G : Gr) (A : GAd) : Prop where
  o : Ok T none δ Hs H σ
  ga : GAt C R Hs H g G A
  rg : Rg T R0 H0s H0 R Hs H
  no : ∀ (i : Nat) (xs : List D) (a : Addr), δ[i]? = some (.l xs) → σ[i]? = some (some (.ref a)) → ¬ R a ∧ Fr H0 a
  nf : ∀ (i : Nat) φ, δ[i]? ≠ some (.f φ)
theorem set_other {δ : List Sl} {i j : Nat} {s t : Sl} (ne : s ≠ t) (e : (δ.set i s)[j]? = some t) : i ≠ j ∧ δ[j]? = some t := by
  by_cases z : i = j
  · subst z
    have hi : i < δ.length := by
      have := (List.getElem?_eq_some_iff.mp e).1
      rwa [List.length_set] at this
    rw [List.getElem?_set_self hi] at e
    exact absurd (Option.some.inj e) ne
  · rw [List.getElem?_set_ne z] at e
    exact ⟨z, e⟩
section
variable {T : List (Addr × Str)} {C g : Addr} {R0 : Addr → Prop} {H0s H0 : Hp} {δ : List Sl} {R R' : Addr → Prop} {Hs H Hs1 H1 : Hp} {σ : L2.St} {G G' : Gr} {A A' : GAd} {K : PySem.W.Frag}
theorem Cf.step (c : Cf T C g R0 H0s H0 δ R Hs H σ G A) (s : Stp T none Hs H Hs1 H1) : Cf T C g R0 H0s H0 δ R Hs1 H1 σ G A := ⟨c.o.step s, c.ga.step s, c.rg.trans (Rg.of s), c.no, c.nf⟩
theorem Cf.set (c : Cf T C g R0 H0s H0 δ R Hs H σ G A) (i : Nat) {v : V} {x : D} (a : At Hs v x) : Cf T C g R0 H0s H0 (δ.set i (.d x)) R Hs H (σ.set i (some v)) G A :=
  ⟨c.o.set i a, c.ga, c.rg, fun j xs b e q => by
    obtain ⟨z, e⟩ := set_other (by intro w; cases w) e
    rw [List.getElem?_set_ne z] at q
    exact c.no j xs b e q, fun j φ e => c.nf j φ (set_other (by intro w; cases w) e).2⟩
theorem Cf.setL (c : Cf T C g R0 H0s H0 δ R Hs H σ G A) (s : Stp T none Hs H Hs1 H1) (i : Nat) {a : Addr} {vs : List V} {xs : List D} (f1 : Fr H a) (f2 : Fr Hs1 a) (e : H1 a = some (.lst vs)) (at_ : AtAll Hs1 vs xs) : Cf T C g R0 H0s H0 (δ.set i (.l xs)) R Hs1 H1 (σ.set i (some (.ref a))) G A := by
  have c1 := c.step s
  refine ⟨c1.o.setL i f2 (by simp) e at_ fun j ys ej qj => ?_, c1.ga, c1.rg, fun j ys b ej qj => ?_, fun j φ e => c.nf j φ (set_other (by intro w; cases w) e).2⟩
  · obtain ⟨w, e3, a', vs', e4, _, _, h3, _⟩ := c.o.at_ j _ ej
    rw [qj] at e3
    cases e3
    cases e4
    exact f1 _ h3 nt_lst
  · by_cases z : i = j
    · subst z
      have hi : i < σ.length := by
        have := (List.getElem?_eq_some_iff.mp qj).1
        rwa [List.length_set] at this
      rw [List.getElem?_set_self hi] at qj
      cases qj
      refine ⟨fun hr => ?_, fun o h q => ?_⟩
      · obtain ⟨o, h1, h2, _⟩ := c.ga.here a hr
        exact f1 o h1 h2
      · obtain ⟨o1, h1, q1⟩ := c.rg.k a o h q
        exact f1 o1 h1 q1
    · rw [List.getElem?_set_ne z] at ej qj
      exact c.no j ys b ej qj
theorem Cf.reg (c : Cf T C g R0 H0s H0 δ R Hs H σ G A) (ga : GAt C R' Hs1 H1 g G' A') (r : Rg T R Hs H R' Hs1 H1) : Cf T C g R0 H0s H0 δ R' Hs1 H1 σ G' A' :=
  ⟨c.o.reg r (fun i xs a e q => (c.no i xs a e q).1) c.nf, ga, c.rg.trans r, fun i xs a e q => ⟨fun hr => (r.r a hr).elim (c.no i xs a e q).1 fun f => by
    obtain ⟨w, e3, a', vs', e4, _, _, h3, _⟩ := c.o.at_ i _ e
    rw [q] at e3
    cases e3
    cases e4
    exact f _ h3 nt_lst, (c.no i xs a e q).2⟩, c.nf⟩
theorem Cf.app (c : Cf T C g R0 H0s H0 δ R Hs H σ G A) {i : Nat} {xs : List D} {v : V} {x : D} (e : δ[i]? = some (.l xs)) (a : At Hs v x) : ∃ l vs, σ[i]? = some (some (.ref l)) ∧ H l = some (.lst vs) ∧ vs.length = xs.length ∧ Cf T C g R0 H0s H0 (δ.set i (.l (xs ++ [x]))) R Hs (upd H l (.lst (vs ++ [v]))) σ G A := by
  obtain ⟨w, q, l, vs, rfl, h1, h2, h3, h4⟩ := c.o.at_ i _ e
  obtain ⟨n1, n2⟩ := c.no i xs l e q
  refine ⟨l, vs, q, h3, h4.len, c.o.mutL i e q h1 h2 h3 (h4.app (.one a)), c.ga.off n1, c.rg.off n2 h1 h3, fun j ys b ej qj => ?_, fun j φ e => c.nf j φ (set_other (by intro w; cases w) e).2⟩
  by_cases z : i = j
  · subst z
    exact c.no i xs b e qj
  · rw [List.getElem?_set_ne z] at ej
    exact c.no j ys b ej qj
theorem Cf.freeze (c : Cf T C g R0 H0s H0 δ R Hs H σ G A) {i : Nat} {xs : List D} (e : δ[i]? = some (.l xs)) : ∃ Hs', ExtN Hs Hs' ∧ Cf T C g R0 H0s H0 (δ.set i (.d (.list xs))) R Hs' H σ G A := by
  obtain ⟨a, vs, q, h3, h1, x, o⟩ := c.o.freeze e
  obtain ⟨n1, n2⟩ := c.no i xs a e q
  refine ⟨upd Hs a (.lst vs), x, o, c.ga.more x (fun y hy => fr_upd (c.ga.fr y hy) fun z => n1 (by rw [← z]; exact hy)), c.rg.more n2 h1 h3, fun j ys b ej qj => ?_, fun j φ e => c.nf j φ (set_other (by intro w; cases w) e).2⟩
  obtain ⟨z, ej⟩ := set_other (by intro w; cases w) ej
  exact c.no j ys b ej qj
theorem Cf.ev (c : Cf T C g R0 H0s H0 δ R Hs H σ G A) {te : TE} {Φ : D → Prop} {Q : VK} (h : Ev T none te δ Φ) (q : ∀ d v Hs1 H1, Φ d → Cf T C g R0 H0s H0 δ R Hs1 H1 σ G A → At Hs1 v d → ExtN Hs Hs1 → Q v H1) : te σ H Q :=
  h Hs H σ Q c.o fun d v Hs1 H1 p s a => q d v Hs1 H1 p (c.step s) a s.s
theorem Cf.seq (c : Cf T C g R0 H0s H0 δ R Hs H σ G A) {te : TE} {us : TS} {De : Ends} {i : Nat} {Φ : D → Prop} (h : Ev T none te δ Φ) (q : ∀ d v Hs1 H1, Φ d → Cf T C g R0 H0s H0 (δ.set i (.d d)) R Hs1 H1 (σ.set i (some v)) G A → ExtN Hs Hs1 → us De (σ.set i (some v)) H1) : tSeq (tAsg te (gName i)) us De σ H :=
  h Hs H σ _ c.o fun d v Hs1 H1 p s a => q d v Hs1 H1 p ((c.step s).set i a) s.s
theorem Cf.seqL (c : Cf T C g R0 H0s H0 δ R Hs H σ G A) {te : TE} {us : TS} {De : Ends} {i : Nat} {Φ : List D → Prop} (h : EvL T none te δ Φ) (q : ∀ xs v Hs1 H1, Φ xs → Cf T C g R0 H0s H0 (δ.set i (.l xs)) R Hs1 H1 (σ.set i (some v)) G A → ExtN Hs Hs1 → us De (σ.set i (some v)) H1) : tSeq (tAsg te (gName i)) us De σ H :=
  h Hs H σ _ c.o fun xs a vs Hs1 H1 p s f1 f2 e at_ => q xs (.ref a) Hs1 H1 p (c.setL s i f1 f2 e at_) s.s
theorem Cf.self (c : Cf T C g R0 H0s H0 δ R Hs H σ G A) {i : Nat} {x : V} (e : δ[i]? = some (.v x)) : σ[i]? = some (some x) := by
  obtain ⟨o, h, k⟩ := c.o.at_ i _ e
  rw [h, show o = some x from k]
theorem Cf.seqFor (c : Cf T C g R0 H0s H0 δ R Hs H σ G A) {wi : TI} {gt : TG} {tb us : TS} {De : Ends} {ds : List D} (h : EvI T none wi δ (· = ds)) (q : ∀ J Hs1 H1, Cf T C g R0 H0s H0 δ R Hs1 H1 σ G A → Walks T none J ds Hs1 → ExtN Hs Hs1 →
    ∃ W : Nat → Nat → L2.St → Hp → Prop, (∃ m, W 0 m σ H1) ∧ ∀ i m σ H, W i m σ H → (J.stop i H ∧ us De σ H) ∨ (J.go i H ∧ ∃ N : L2.St → Hp → Prop, (∀ σ' H', N σ' H' → ∃ m', m' < m ∧ W (i + 1) m' σ' H') ∧ ∀ x H', J.yld i H x H' → gt x σ H' fun σ2 H2 => tb { De with nx := N, ct := N, bk := us De } σ2 H2)) : tSeq (tFor wi gt tb) us De σ H :=
  h Hs H σ _ c.o fun ds J Hs1 H1 e s wk => by
    subst e
    exact q J Hs1 H1 (c.step s) wk s.s
/-- len(o.f), into a slot -/
theorem seq_len {f : Str} {i j : Nat} {us : TS} {De : Ends} {dx l : Addr} {fs : List (Str × V)} {vs : List V} (h0 : σ[i]? = some (some (.ref g))) (hob : H g = some (.ins C dx fs)) (hc : Cls K C) (hn : NoAttr K C f) (hl : fs.lookup f = some (.ref l)) (h : H l = some (.lst vs)) (q : us De (σ.set j (some (.int (vs.length : Nat)))) H) :
    tSeq (tAsg (tCB (rLenQ K) (tCons (tFld K (tVar i) f) tNil)) (gName j)) us De σ H := ⟨_, h0, g, C, dx, fs, _, rfl, hob, hc, hn, hl, l, vs, rfl, .inl (SqL.of h), q⟩
/-- o.f[n] -/
theorem fld_ix {f : Str} {i j n : Nat} {dx l : Addr} {fs : List (Str × V)} {vs : List V} {v : V} {Q : VK} (h0 : σ[i]? = some (some (.ref g))) (hob : H g = some (.ins C dx fs)) (hc : Cls K C) (hn : NoAttr K C f) (hl : fs.lookup f = some (.ref l)) (h : H l = some (.lst vs)) (hj : σ[j]? = some (some (.int (n : Nat)))) (hv : vs[n]? = some v) (q : Q v H) :
    tOp (rIxL K) (tFld K (tVar i) f) (tVar j) σ H Q := by
  refine ⟨_, h0, g, C, dx, fs, _, rfl, hob, hc, hn, hl, _, hj, l, vs, (n : Nat), v, rfl, rfl, SqL.of h, ?_, q⟩
  have := (List.getElem?_eq_some_iff.mp hv).1
  unfold L2.atI ixN
  have c : (n : Int) < vs.length := by omega
  simp [c, hv]
theorem seq_ix {f : Str} {i j k n : Nat} {us : TS} {De : Ends} {dx l : Addr} {fs : List (Str × V)} {vs : List V} {v : V} (h0 : σ[i]? = some (some (.ref g))) (hob : H g = some (.ins C dx fs)) (hc : Cls K C) (hn : NoAttr K C f) (hl : fs.lookup f = some (.ref l)) (h : H l = some (.lst vs)) (hj : σ[j]? = some (some (.int (n : Nat)))) (hv : vs[n]? = some v) (q : us De (σ.set k (some v)) H) :
    tSeq (tAsg (tOp (rIxL K) (tFld K (tVar i) f) (tVar j)) (gName k)) us De σ H := fld_ix (Q := fun v H' => us De (σ.set k (some v)) H') h0 hob hc hn hl h hj hv q
end
section
variable {W : Wd} {k : Nat}
def spGrow (W : Wd) : Sp := fun vs H Q _ => ∃ (Hs : Hp) (R : Addr → Prop) (g : Addr) (G : Gr) (A : GAd) (s : Plan), vs = [.ref g] ∧ ExtN Hs H ∧ Tabs W.T H ∧ GAt (He.ga W.K "Graph") R Hs H g G A ∧ A.fb = G.forms ∧ A.gn = G.links.length ∧ BI s G ∧ WB G ∧ Dom s ∧ G.links.length < G.forms.length ∧
  ∀ (R' : Addr → Prop) (A' : GAd) (G' : Gr) (Hs' H' : Hp), BI s G' → WB G' → G'.links.length = G.links.length + 1 → GAt (He.ga W.K "Graph") R' Hs' H' g G' A' → A'.fb = G'.forms → A'.gn = G'.links.length → Rg W.T R Hs H R' Hs' H' → Q .non H'
structure LI (W : Wd) (R0 : Addr → Prop) (H0s H0 : Hp) (g : Addr) (n : Nat) (s p : Plan) (Hw : Hp) (i : Nat) (σ : L2.St) (H : Hp) : Prop where
  ex : ∃ (Hs : Hp) (R : Addr → Prop) (G : Gr) (A : GAd) (row : List Nat) (s5 s6 : Sl), Cf W.T (He.ga W.K "Graph") g R0 H0s H0 [.v (.ref g), .d (.int (n : Nat)), .d (enc p), .d (.list ((pairsOf p).map encPair)), .l (encNs row), s5, s6] R Hs H σ G A ∧
    A.fb = G.forms ∧ A.gn = G.links.length ∧ BM s p G row i ∧ WB G ∧ G.links.length = n ∧ ExtN Hw Hs
theorem k_grow (B : Bs W.K W.mg) (h_meetings_of : Kp W d_meetings_of ["plan"] k rMeetOf) (h_met_of : Kp W d_met_of ["plan", "meeting"] k rMetOf) (h_reach : Keeps W.P W.w W.K W.mg W.base d_Graph_reach ["self", "form", "choices"] k (spReach W)) : Keeps W.P W.w W.K W.mg W.base d_Graph_grow ["self"] (k + 1) (spGrow W) :=
  def_raw B.t_Graph_grow sc_Graph_grow (fun vs H Q E ⟨_, _, _, _, _, _, h, _⟩ => by rw [h]; rfl) fun cdv An outer s H E hr vs Q ⟨Hs, R, g, G, A, s0, ev, x, t, ga, ef, eg, bi, wb, dm, lt, q⟩ => by
    subst ev
    refine ⟨_, (pss_cons (ps_set (i := 1) sc_Graph_grow.nd rfl (Or.inl rfl) (pe_callB (call_lenK W.K) (by rfl) B.len PySem.boot_len (pa_cons (pe_fld (pv 0) rfl) pa_nil)))
    (pss_cons (ps_set (i := 2) sc_Graph_grow.nd rfl (Or.inl rfl) (pe_ix (ix_listK W.K) (pe_fld (pv 0) rfl) (pv 1) (fun _ _ => rfl)))
    (pss_cons (ps_set (i := 3) sc_Graph_grow.nd rfl (Or.inl rfl) (pe_k h_meetings_of hr rfl B.m_meetings_of (pa_cons (pv 2) pa_nil)))
    (pss_cons (ps_set (i := 4) sc_Graph_grow.nd rfl (Or.inl rfl) (pe_lst pa_nil))
    (pss_cons (ps_for PassesOwn.never rfl (pi_enum (by rfl) B.enumerate (pa_cons (pv 3) pa_nil)) (pg_tupK W.K (n := 2) (by rfl) (pgs_cons (pg_name (i := 5) sc_Graph_grow.nd rfl (Or.inl rfl)) (pgs_cons (pg_name (i := 6) sc_Graph_grow.nd rfl (Or.inl rfl)) pgs_nil))) (pss_one (ps_expr (pe_bm PySem.F.plainAttrs_list PySem.F.slot_list_append PySem.F.type_list_append mt_append (pv 4) (pa_cons (pe_km h_reach hr B.gcls B.gm_reach rfl (pv 0) (pa_cons (pe_k h_met_of hr rfl B.m_met_of (pa_cons (pv 2) (pa_cons (pv 6) pa_nil))) (pa_cons (pe_op op_catA (pe_ix (ix_listK W.K) (pe_fld (pv 0) rfl) (pv 1) (fun _ _ => rfl)) (pe_tup (pa_cons (pv 5) pa_nil))) pa_nil))) pa_nil)))))
    (pss_cons (ps_expr (pe_bm PySem.F.plainAttrs_list PySem.F.slot_list_append PySem.F.type_list_append mt_append (pe_fld (pv 0) rfl) (pa_cons (pv 4) pa_nil)))
    (pss_one (ps_expr (pe_bm PySem.F.plainAttrs_list PySem.F.slot_list_append PySem.F.type_list_append mt_append (pe_fld (pv 0) rfl) (pa_cons (pe_lc (own := [("pair", 6)]) rfl sc_Graph_grow.nd (pi_list (pv 3)) (blkOk_by (own := [("pair", 6)]) (N := n_Graph_grow) (sc := defScope s_Graph_grow) (by decide +kernel)) (fun _ _ _ _ _ => (pg_name (i := 6) sc_Graph_grow.nd rfl (Or.inl rfl))) (fun _ _ _ _ _ => pts_nil) (fun _ _ _ _ _ => (pe_ix (ix_tupK W.K) (pe_ix (ix_tupK W.K) (pv 6) pe_int (fun _ _ => rfl)) pe_int (fun _ _ => rfl)))) pa_nil)))))))))), ?_⟩
    have c0 : Cf W.T (He.ga W.K "Graph") g R Hs H [.v (.ref g), .any, .any, .any, .any, .any, .any] R Hs H (L2.start n_Graph_grow [.ref g]) G A := by
      refine ⟨⟨x, t, fun _ e => (by cases e), rfl, fun i sl e => ?_, fun i j a xs ys e => ?_⟩, ga, Rg.refl x t, fun i xs a e => ?_, fun i φ e => ?_⟩
      · match i, e with
        | 0, e => cases e; exact ⟨_, rfl, rfl⟩
        | 1, e => cases e; exact ⟨_, rfl, trivial⟩
        | 2, e => cases e; exact ⟨_, rfl, trivial⟩
        | 3, e => cases e; exact ⟨_, rfl, trivial⟩
        | 4, e => cases e; exact ⟨_, rfl, trivial⟩
        | 5, e => cases e; exact ⟨_, rfl, trivial⟩
        | 6, e => cases e; exact ⟨_, rfl, trivial⟩
        | i + 7, e => simp at e
      all_goals
        match i, e with
        | 0, e => cases e
        | 1, e => cases e
        | 2, e => cases e
        | 3, e => cases e
        | 4, e => cases e
        | 5, e => cases e
        | 6, e => cases e
        | i + 7, e => simp at e
    obtain ⟨p, hp⟩ : ∃ p, G.forms[G.links.length]? = some p := ⟨_, List.getElem?_eq_getElem lt⟩
    have dp : Dom p := dm.walk (bi.wk _ p hp)
    have gp := dp.good
    obtain ⟨vl, hl, al⟩ := ga.hl
    have el : vl.length = G.links.length := by rw [al.len, List.length_map]
    refine seq_len rfl ga.ob B.gcls B.g_links (gf_links A) hl ?_
    rw [el]
    have c1 := c0.set 1 (v := .int (G.links.length : Nat)) (.int (G.links.length : Nat))
    obtain ⟨vf, hf, af⟩ := ga.hf
    obtain ⟨pv', epv, apv⟩ := af.get (i := G.links.length) (d := enc p) (by rw [List.getElem?_map, hp]; rfl)
    refine seq_ix (n := G.links.length) rfl ga.ob B.gcls B.g_forms (gf_forms A) hf rfl epv ?_
    have c2 := c1.set 2 apv
    refine c2.seq (i := 3) (Φ := (· = .list ((pairsOf p).map encPair))) (ev_call (ea1 (ev_var rfl ⟨_, ⟨p, rfl, gp.len, gp.ne, rfl⟩, rfl⟩))) fun d v3 Hs3 H3 ed c3 x3 => ?_
    subst ed
    refine c3.seqL (i := 4) (Φ := (· = [])) (evl_lst (ea_nil ⟨by simp, rfl⟩)) fun d v4 Hs4 H4 ed c4 x4 => ?_
    subst ed
    have hi : EvI W.T none (iEnum W.K (tCons (tVar 3) tNil)) [.v (.ref g), .d (.int (G.links.length : Nat)), .d (enc p), .d (.list ((pairsOf p).map encPair)), .l [], .any, .any] (· = pairs 0 ((pairsOf p).map encPair)) := ei_enumL (ev_var rfl ⟨_, rfl, rfl⟩)
    refine c4.seqFor hi fun J Hs5 H5 c5 wk x5 => ?_
    have ln : (pairs 0 ((pairsOf p).map encPair)).length = (pairsOf p).length := by rw [pairs_len, List.length_map]
    refine ⟨fun i m σ' H' => m = (pairsOf p).length - i ∧ i ≤ (pairsOf p).length ∧ LI W R Hs H g G.links.length s0 p Hs5 i σ' H', ⟨_, rfl, Nat.zero_le _, ⟨Hs5, R, G, A, [], .any, .any, c5, ef, eg, bm_0 bi lt hp, wb, rfl, ExtN.refl _⟩⟩, ?_⟩
    rintro i m σ' H' ⟨rfl, hi2, ⟨Hs6, R6, G6, A6, row, s5', s6', c6, ef6, eg6, bm6, wb6, el6, x6⟩⟩
    obtain ⟨w1, w2⟩ := wk Hs6 H' i x6 c6.o.ext c6.o.tab
    have few : G6.forms.length ≤ 16 := bm6.b.few16 dm
    have pl : (pairsOf p).length ≤ 810000 := by
      have h1 := pairsTo_len p p
      rw [← pairsOf_to] at h1
      have h2 := gp.len
      exact Nat.le_trans h1 (Nat.le_trans (Nat.mul_le_mul h2 h2) (by decide))
    have h60 : σ'[0]? = some (some (.ref g)) := c6.self rfl
    by_cases hlt : i < (pairsOf p).length
    · obtain ⟨m, hm⟩ : ∃ m, (pairsOf p)[i]? = some m := ⟨_, List.getElem?_eq_getElem hlt⟩
      have hmm : m ∈ pairsOf p := List.mem_of_getElem? hm
      have hd : (pairs 0 ((pairsOf p).map encPair))[i]? = some (.tuple [.int ((0 + i : Nat) : Int), encPair m]) := by
        obtain ⟨d, hd⟩ : ∃ d, (pairs 0 ((pairsOf p).map encPair))[i]? = some d := ⟨_, List.getElem?_eq_getElem (by rw [ln]; exact hlt)⟩
        obtain ⟨y, ey, rfl⟩ := pairs_get hd
        rw [List.getElem?_map, hm] at ey
        cases ey
        exact hd
      rw [Nat.zero_add] at hd
      obtain ⟨go, yl⟩ := w1 _ hd
      refine .inr ⟨go, fun σ2 H2 => LI W R Hs H g G.links.length s0 p Hs5 (i + 1) σ2 H2, fun σ2 H2 k => ⟨_, by omega, rfl, hlt, k⟩, fun y H7 hy => ?_⟩
      obtain ⟨Hs7, s7, ax⟩ := yl y H7 hy
      have c7 := c6.step s7
      cases ax with
      | @tup tp tvs _ k1 k2 =>
        cases k2 with
        | @cons v5 _ _ _ a5 k2 =>
          cases k2 with
          | @cons v6 _ _ _ a6 k2 =>
            cases k2
            refine ⟨tp, [v5, v6], rfl, SqT.of (c7.o.ext _ _ k1 nt_tup), rfl, v5, [v6], rfl, v6, [], rfl, rfl, ?_⟩
            have c8 := (c7.set 5 a5).set 6 a6
            have n8 : ∀ {v u : V}, ((σ'.set 5 (some v)).set 6 (some u))[0]? = some (some (.ref g)) := fun {v u} => by
              rw [List.getElem?_set_ne (by decide), List.getElem?_set_ne (by decide)]
              exact h60
            obtain ⟨w4, q4, l4, us4, rfl, f1, f2, hl4, a4⟩ := c8.o.at_ 4 _ rfl
            refine ⟨_, q4, .inl ⟨rfl, _, SqL.of hl4⟩, _, n8, g, A6.dx, _, rfl, c8.ga.ob, gf_reach A6, ?_⟩
            refine c8.ev (Φ := (· = enc (metOf p m))) (ev_call (ea2 (ev_var rfl (ev_var rfl ⟨_, ⟨p, m, rfl, hmm, gp, dp.raw hmm, rfl⟩, rfl⟩)))) fun d9 v9 Hs9 H9 ed c9 a9 x9 => ?_
            subst ed
            obtain ⟨ws, he, ae⟩ := c9.ga.he
            have hlw : G.links.length < G6.ways.length := by
              have h1 := bm6.b.wn
              have h2 := bm6.lt
              omega
            obtain ⟨w, hw⟩ : ∃ w, G6.ways[G.links.length]? = some w := ⟨_, List.getElem?_eq_getElem hlw⟩
            have hwl : w.length < G6.forms.length := wb6 w (List.mem_of_getElem? hw)
            obtain ⟨wv, ew, aw⟩ := ae.get (i := G.links.length) (d := encWay w) (by rw [List.getElem?_map, hw]; rfl)
            have hat : ((σ'.set 5 (some v5)).set 6 (some v6))[1]? = some (some (.int (G.links.length : Nat))) := by
              obtain ⟨u1, e1, e2⟩ := c8.o.get (i := 1) rfl
              rw [e1]
              cases e2
              rfl
            refine fld_ix (n := G.links.length) n8 c9.ga.ob B.gcls B.g_earliest (gf_earliest A6) he hat ew ?_
            refine c9.ev (Φ := (· = .tuple [.int (i : Nat)])) (ev_tup (ea1 (ev_var rfl ⟨by simp, rfl⟩))) fun d10 v10 Hs10 H10 ed c10 a10 x10 => ?_
            subst ed
            refine rv_catA (T := W.T) (ta := none) (K := W.K) (xs := encNs w) (ys := [.int (i : Nat)]) (Φ := (· = encWay (w ++ [i]))) (by simp [encNs]; omega) (by simp [encWay, encNs]) Hs10 H10 wv v10 _ c10.o.ext c10.o.tab (aw.up x10) a10 fun d11 v11 Hs11 H11 ed s11 a11 => ?_
            subst ed
            have c11 := c10.step s11
            have gm := (dp.next hmm).good
            have hwi : wl G6 G6.links.length = w.length := by
              unfold wl
              rw [el6, List.getD_eq_getElem?_getD, hw]
              rfl
            refine ⟨Hs11, R6, g, G6, A6, metOf p m, w ++ [i], v9, v11, rfl, c11.o.ext, c11.o.tab, c11.ga, ef6, a9.up (x10.trans s11.s), a11, gm.sm, gm.ne, by omega, bm6.b.wn, fun R12 A12 G12 n12 Hs12 H12 hr12 ga12 ef12 eg12 rg12 => ?_⟩
            have c12 := c11.reg ga12 rg12
            obtain ⟨l13, us13, q13, h13, len13, c13⟩ := c12.app (i := 4) (v := .int (n12 : Nat)) (x := .int (n12 : Nat)) rfl (.int _)
            have e13 : l13 = l4 := by
              rw [q4] at q13
              cases q13
              rfl
            subst e13
            obtain ⟨bm13, el13⟩ := bm_reach bm6 hm (by rw [List.length_append, hwi]; rfl) hr12
            have er : encNs (row ++ [n12]) = encNs row ++ [.int (n12 : Nat)] := by simp [encNs]
            refine ⟨l13, us13, _, rfl, rfl, h13, ?_, ?_⟩
            · rw [len13]
              have h1 : (encNs row).length = i := by simp [encNs, bm6.rl]
              rw [h1]
              exact Nat.lt_of_lt_of_le hlt (Nat.le_trans pl (by decide))
            · refine ⟨Hs12, R12, G12, A12, row ++ [n12], .d (.int (i : Nat)), .d (encPair m), ?_, ef12, by rw [eg12, eg6, el13], bm13, wb6.reach hr12 (by rw [List.length_append]; simp; omega), by rw [el13]; exact el6, ((((x6.trans s7.s).trans x9).trans x10).trans s11.s).trans rg12.s⟩
              rw [er]
              exact c13
    · have ei : i = (pairsOf p).length := by omega
      subst ei
      refine .inl ⟨w2 (by rw [ln]; exact Nat.le_refl _), ?_⟩
      obtain ⟨Hs7, x7, c7⟩ := c6.freeze (i := 4) rfl
      obtain ⟨v4', q4, a4⟩ := c7.o.get (i := 4) rfl
      obtain ⟨us, hl7, ll, ga8⟩ := c7.ga.links1 (r := row) a4
      have lfs : G6.links.length ≤ 16 := Nat.le_trans bm6.b.le few
      refine ⟨_, h60, g, _, A6.dx, _, _, rfl, c7.ga.ob, B.gcls, B.g_links, gf_links A6, .inl ⟨rfl, _, SqL.of hl7⟩, _, q4, _, us, _, rfl, rfl, hl7, Nat.lt_of_lt_of_le (by omega : us.length < 17) (by decide), ?_⟩
      have c8 := c7.reg ga8 (Rg.mut c7.o.ext c7.o.tab c7.ga c7.ga.rg.2.2.2.1 hl7 nt_lst)
      obtain ⟨gs, ds, hg, ag, lg⟩ := c8.ga.ha
      refine ⟨_, h60, g, _, A6.dx, _, _, rfl, c8.ga.ob, B.gcls, B.g_gates, gf_gates A6, .inl ⟨rfl, _, SqL.of hg⟩, ?_⟩
      refine c8.ev (Φ := fun _ => True) (ev_l (evl_lcM (js := [6]) (by simp) (ei_list (ev_var rfl ⟨_, rfl, pairsOf p, encPair, fun m => some (labD m.1), rfl, Nat.le_trans pl (by decide), fun m hm => ?_, trivial⟩)))) fun d9 v9 Hs9 H9 _ c9 a9 x9 => ?_
      · obtain ⟨dd, b1, b2, rfl, _⟩ := pairsOf_mem hm
        exact turn1 (ev_op (ev_op (ev_var rfl (ev_int (rv_ixT rfl (ev_int (rv_ixT rfl rfl)))))))
      obtain ⟨gs9, hg9, lg9, ga10⟩ := c9.ga.gates1 a9
      have eg9 : A6.gn = G6.links.length := eg6
      refine ⟨_, gs9, _, rfl, rfl, hg9, Nat.lt_of_lt_of_le (by omega : gs9.length < 17) (by decide), ?_⟩
      have c10 := c9.reg ga10 (Rg.mut c9.o.ext c9.o.tab c9.ga c9.ga.rg.2.2.2.2.1 hg9 nt_lst)
      exact q R6 _ _ Hs9 _ (bm_done bm6) wb6 (by simp [el6]) c10.ga ef6 (by simp [eg6]) c10.rg
end
end G
set_option Elab.async false
set_option linter.all false
set_option maxRecDepth 100000
set_option maxHeartbeats 1000000
/-! own layer: one of several answers; the tape -/
namespace G
open PySem PySem.Spec L2 LamX NdefX
theorem BI.dom {s : Plan} {G : Gr} (b : BI s G) (f : FI G) (full : G.links.length = G.forms.length) (few : G.forms.length ≤ 16) : Dom s := by
  refine ⟨G.forms, List.mem_of_getElem? b.st, few, fun p hp => ?_⟩
  obtain ⟨i, hi⟩ := List.getElem?_of_mem hp
  have hl := (List.getElem?_eq_some_iff.mp hi).1
  obtain ⟨h1, h2, h3⟩ := f i p hi
  refine ⟨h3.good (by omega), fun m hm => ⟨(h3.raw (by omega) hm).1, ?_⟩⟩
  obtain ⟨v, hv, _⟩ := b.succ full hi ⟨m, hm, rfl⟩
  exact List.mem_of_getElem? hv
/-- from data to one of several data -/
def spN (T : List (Addr × Str)) (pre : List D → Prop) (rel : List D → D → Prop) : Sp := fun vs H Q _ => ∃ (Hs : Hp) (ds : List D), ExtN Hs H ∧ Tabs T H ∧ AtAll Hs vs ds ∧ pre ds ∧ ∀ y v Hs' H', rel ds y → Stp T none Hs H Hs' H' → At Hs' v y → Q v H'
/-- the first argument is the tape -/
def spT (T : List (Addr × Str)) (pre : List D → Prop) (rel : List D → D → Prop) : Sp := fun vs H Q _ => ∃ (Hs : Hp) (a : Addr) (us : List V) (ds : List D), vs = .ref a :: us ∧ ExtN Hs H ∧ Tabs T H ∧ Fr Hs a ∧ TapeAt Hs H a ∧ AtAll Hs us ds ∧ pre ds ∧ ∀ y v Hs' H', rel ds y → Stp T (some a) Hs H Hs' H' → At Hs' v y → Q v H'
theorem start_tape {n0 : Str} {N : List Str} {v : V} {us : List V} : L2.start (n0 :: N) (v :: us) = some v :: L2.start N us := by
  simp [L2.start]
theorem start0_get {N : List Str} {ds : List D} {i : Nat} {sl : Sl} (e : (start0 N ds)[i]? = some sl) : (∃ d, sl = .d d) ∨ sl = .any := by
  unfold start0 at e
  have m := List.mem_of_getElem? e
  rcases List.mem_append.mp m with h | h
  · obtain ⟨d, _, rfl⟩ := List.mem_map.mp h
    exact .inl ⟨d, rfl⟩
  · exact .inr (List.eq_of_mem_replicate h)
theorem start_tape_ok {T : List (Addr × Str)} {Hs H : Hp} {n0 : Str} {N : List Str} {a : Addr} {us : List V} {ds : List D} (x : ExtN Hs H) (t : Tabs T H) (f : Fr Hs a) (ta : TapeAt Hs H a) (h : AtAll Hs us ds) : In T (some a) Hs H (.tape :: start0 N ds) Hs H (L2.start (n0 :: N) (.ref a :: us)) := by
  have n := start_ok (N := N) x t h
  rw [start_tape]
  refine ⟨⟨x, t, fun b e => ?_, ?_, fun i sl e => ?_, fun i j b xs ys e => ?_⟩, Stp.refl x t, fun i xs b e => ?_⟩
  · cases e
    exact ⟨f, ta⟩
  · rw [List.length_cons, List.length_cons, n.ok.len]
  · match i, e with
    | 0, e =>
      cases e
      exact ⟨some (.ref a), rfl, a, rfl, rfl⟩
    | i + 1, e =>
      have e' : (start0 N ds)[i]? = some sl := by simpa using e
      obtain ⟨o, h1, h2⟩ := n.ok.at_ i sl e'
      refine ⟨o, by simpa using h1, ?_⟩
      rcases start0_get e' with ⟨d, rfl⟩ | rfl
      · exact h2
      · trivial
  · match i, e with
    | 0, e => cases e
    | i + 1, e =>
      have e' : (start0 N ds)[i]? = some (.l xs) := by simpa using e
      rcases start0_get e' with ⟨d, z⟩ | z <;> cases z
  · match i, e with
    | 0, e => cases e
    | i + 1, e =>
      have e' : (start0 N ds)[i]? = some (.l xs) := by simpa using e
      rcases start0_get e' with ⟨d, z⟩ | z <;> cases z
section
variable {T : List (Addr × Str)} {ta : Option Addr} {δ : List Sl} {K : PySem.W.Frag} {te : TE} {tr : TA} {Φ : D → Prop} {pre : List D → Prop} {rel : List D → D → Prop}
theorem ev_callN {E : XK} (h : EvA T ta tr δ fun ds => pre ds ∧ ∀ y, rel ds y → Φ y) : Ev T ta (tCall (spN T pre rel) [] E tr) δ Φ := fun Hs H σ Q o q => by
  refine h Hs H σ _ o fun ds vs H1s H1 ⟨h1, h2⟩ s1 a1 => ?_
  show spN T pre rel (vs ++ []) H1 Q E
  rw [List.append_nil]
  exact ⟨H1s, ds, s1.x, s1.t, a1, h1, fun y v H2s H2 r s2 a2 => q y v H2s H2 (h2 y r) (s1.trans s2.weak) a2⟩
theorem ev_callT {a : Addr} {i : Nat} {E : XK} (e : δ[i]? = some .tape) (h : EvA T (some a) tr δ fun ds => pre ds ∧ ∀ y, rel ds y → Φ y) : Ev T (some a) (tCall (spT T pre rel) [] E (tCons (tVar i) tr)) δ Φ := fun Hs H σ Q o q => by
  obtain ⟨w, e1, b, rfl, e2⟩ := o.at_ i _ e
  cases e2
  refine ⟨_, e1, ?_⟩
  refine h Hs H σ _ o fun ds vs H1s H1 ⟨h1, h2⟩ s1 a1 => ?_
  show spT T pre rel ((V.ref a :: vs) ++ []) H1 Q E
  rw [List.append_nil]
  have o1 := o.step s1
  exact ⟨H1s, a, vs, ds, rfl, s1.x, s1.t, (o1.tp a rfl).1, (o1.tp a rfl).2, a1, h1, fun y v H2s H2 r s2 a2 => q y v H2s H2 (h2 y r) (s1.trans s2) a2⟩
end
section
variable {P : Program} {w : World} {K : PySem.W.Frag} {mg : Str → Option Value} {base : Heap} {T : List (Addr × Str)}
theorem def_okN {d : He.DefD} {N ps : List Str} {k : Nat} {pre : List D → Prop} {rel : List D → D → Prop} (F : There K d ps) (S : FnScope N ps d.scope) (hl : ∀ ds, pre ds → ds.length = ps.length)
    (hb : ∀ (cdv : Value) (A : Around) (outer : List PySem.Env) (s : Shared) (H : Hp) (E : XK), Room k (A.deeper (PyProof.Rows.envOfC d.qual d.scope s.heap.objs.size (He.fAd K d.at_) cdv)) → ∀ ds, pre ds →
      ∃ t, PSs (cxOf CX0 P w K mg base N d.qual d.scope (He.fAd K d.at_) cdv A outer s H E).nox d.body t ∧ Sv T none t (start0 N ds) { nx := fun _ => rel ds .none, rt := rel ds }) :
    Keeps P w K mg base d ps (k + 1) (spN T pre rel) :=
  def_raw F S (fun vs H Q E ⟨Hs, ds, _, _, a, p, _⟩ => by rw [a.len]; exact hl ds p) fun cdv A outer s H E hr vs Q ⟨Hs, ds, x1, t1, a, p, q⟩ => by
    obtain ⟨t, h1, h2⟩ := hb cdv A outer s H E hr ds p
    refine ⟨t, h1, ?_⟩
    exact h2 Hs H Hs H _ _ (start_ok x1 t1 a) (fun δ' a b c e n => q _ _ a b e n.st .non) (fun _ _ _ _ z => z.elim) (fun _ _ _ _ z => z.elim) fun y v a b e s1 at_ => q y v a b e s1 at_
theorem def_okT {d : He.DefD} {n0 : Str} {N : List Str} {ps : List Str} {k : Nat} {pre : List D → Prop} {rel : List D → D → Prop} (F : There K d ps) (S : FnScope (n0 :: N) ps d.scope) (hl : ∀ ds, pre ds → ds.length + 1 = ps.length)
    (hb : ∀ (cdv : Value) (A : Around) (outer : List PySem.Env) (s : Shared) (H : Hp) (E : XK), Room k (A.deeper (PyProof.Rows.envOfC d.qual d.scope s.heap.objs.size (He.fAd K d.at_) cdv)) → ∀ ds, pre ds →
      ∃ t, PSs (cxOf CX0 P w K mg base (n0 :: N) d.qual d.scope (He.fAd K d.at_) cdv A outer s H E).nox d.body t ∧ ∀ a, Sv T (some a) t (.tape :: start0 N ds) { nx := fun _ => rel ds .none, rt := rel ds }) :
    Keeps P w K mg base d ps (k + 1) (spT T pre rel) :=
  def_raw F S (fun vs H Q E ⟨Hs, b, us, ds, e, _, _, _, _, a, p, _⟩ => by rw [e, List.length_cons, a.len]; exact hl ds p) fun cdv A outer s H E hr vs Q ⟨Hs, b, us, ds, e, x1, t1, f, tp, a, p, q⟩ => by
    subst e
    obtain ⟨t, h1, h2⟩ := hb cdv A outer s H E hr ds p
    refine ⟨t, h1, ?_⟩
    exact h2 b Hs H Hs H _ _ (start_tape_ok x1 t1 f tp a) (fun δ' a b c e n => q _ _ a b e n.st .non) (fun _ _ _ _ z => z.elim) (fun _ _ _ _ z => z.elim) fun y v a b e s1 at_ => q y v a b e s1 at_
end
/-! ### the tape's items -/
section
variable {T : List (Addr × Str)} {δ : List Sl} {K : PySem.W.Frag} {te : TE} {Φ : D → Prop} {P : Po} {a : Addr} {Hs H : Hp} {σ : L2.St}
theorem Stp.tape (o : Ok T (some a) δ Hs H σ) {us : List V} (new : TapeAt Hs (upd H a (.lst us)) a) : Stp T (some a) Hs H Hs (upd H a (.lst us)) := by
  obtain ⟨f, l, ns, i, x, y, z, h1, h2, h3⟩ := o.tp a rfl
  refine ⟨ExtN.refl _, fun b u h q ne => ?_, fun b u h q => ?_, fun b u h q => ?_, tabs_mut o.tab h1, fun _ _ _ _ z => z, fun b e _ => ?_⟩
  · rw [upd_ne (fun z => ne (by rw [z]))]
    exact h
  · by_cases c : b = a
    · rw [c, upd_same]
      exact ⟨_, rfl, nt_lst⟩
    · rw [upd_ne c]
      exact ⟨u, h, q⟩
  · rw [upd_ne (fr_ne f h q)]
    exact o.ext b u h q
  · cases e
    exact new
theorem ev_tapeI {n : Nat} (e : δ[0]? = some .tape) (hn : 1 ≤ n ∧ n ≤ 4) (h : ∀ i : Int, (n = 1 → 0 ≤ i) → Φ (.int i)) : Ev T (some a) (tOp (rIxL K) (tVar 0) (tC (.int (n : Nat)))) δ Φ := fun Hs H σ Q o q => by
  obtain ⟨w, e1, b, rfl, e2⟩ := o.at_ 0 _ e
  cases e2
  obtain ⟨f, l, ns, i, x, y, z, h1, h2, h3⟩ := o.tp a rfl
  have key : ∀ j : Int, (n = 1 → 0 ≤ j) → L2.atI [V.ref l, .int i, .int x, .int y, .int z] (n : Nat) = some (.int j) → tOp (rIxL K) (tVar 0) (tC (.int (n : Nat))) σ H Q := fun j hj ej =>
    ⟨_, e1, a, _, _, _, rfl, rfl, SqL.of h1, ej, q _ _ Hs H (h j hj) o.refl (.int j)⟩
  have : n = 1 ∨ n = 2 ∨ n = 3 ∨ n = 4 := by omega
  rcases this with rfl | rfl | rfl | rfl
  · exact key i (fun _ => h3) rfl
  · exact key x (fun z => by omega) rfl
  · exact key y (fun z => by omega) rfl
  · exact key z (fun z => by omega) rfl
theorem sv_tapeSet {n : Nat} (e : δ[0]? = some .tape) (hn : 1 ≤ n ∧ n ≤ 4) (h : Ev T (some a) te δ fun d => ∃ i : Int, d = .int i ∧ (n = 1 → 0 ≤ i) ∧ P.nx δ) : Sv T (some a) (tAsg te (gSub (tVar 0) (tC (.int (n : Nat))) rSetL)) δ P := fun A B C E σ De nn q1 q2 q3 q4 => by
  refine h C E σ _ nn.ok fun d v a' b ⟨j, ed, hj, p⟩ s at_ => ?_
  subst ed
  cases at_
  have n1 := nn.step s
  obtain ⟨w, e1, b', rfl, e2⟩ := n1.ok.at_ 0 _ e
  cases e2
  obtain ⟨f, l, ns, i, x, y, z, h1, h2, h3⟩ := n1.ok.tp a rfl
  have key : ∀ us : List V, ixN [V.ref l, .int i, .int x, .int y, .int z].length (n : Nat) = some n → [V.ref l, .int i, .int x, .int y, .int z].set n (.int j) = us → (∃ i x y z : Int, us = [V.ref l, .int i, .int x, .int y, .int z] ∧ 0 ≤ i) → gSub (tVar 0) (tC (.int (n : Nat))) rSetL (.int j) σ b De.nx := fun us hi hu ⟨i', x', y', z', eu, hi'⟩ => by
    have st : Stp T (some a) a' b a' (upd b a (.lst us)) := Stp.tape n1.ok ⟨l, ns, i', x', y', z', by rw [upd_same, eu], h2, hi'⟩
    refine ⟨_, e1, a, _, _, _, rfl, rfl, h1, hi, ?_⟩
    rw [hu]
    exact q1 _ a' _ _ p (n1.step st)
  have : n = 1 ∨ n = 2 ∨ n = 3 ∨ n = 4 := by omega
  rcases this with rfl | rfl | rfl | rfl
  · exact key _ rfl rfl ⟨j, x, y, z, rfl, hj rfl⟩
  · exact key _ rfl rfl ⟨i, j, y, z, rfl, h3⟩
  · exact key _ rfl rfl ⟨i, x, j, z, rfl, h3⟩
  · exact key _ rfl rfl ⟨i, x, y, j, rfl, h3⟩
end
end G
set_option Elab.async false
set_option linter.all false
set_option maxRecDepth 100000
set_option maxHeartbeats 1000000
/-! a graph is made -/
namespace G
open PySem PySem.Spec L2 LamX NdefX PyProof.Rows
/-- objects of one's own, told one by one -/
structure Ow (T : List (Addr × Str)) (R0 : Addr → Prop) (H0s H0 : Hp) (L : List (Addr × HO)) (Hs H : Hp) : Prop where
  at_ : ∀ x ∈ L, H x.1 = some x.2 ∧ NT x.2 ∧ (∀ φ, x.2 ≠ .ext φ) ∧ Fr Hs x.1
  nd : (L.map (·.1)).Nodup
  rg : Rg T R0 H0s H0 (fun a => ∃ x ∈ L, x.1 = a) Hs H
section
variable {T : List (Addr × Str)} {R0 : Addr → Prop} {H0s H0 Hs H Hs1 H1 : Hp} {L M : List (Addr × HO)}
theorem Ow.step (w : Ow T R0 H0s H0 L Hs H) (s : Stp T none Hs H Hs1 H1) : Ow T R0 H0s H0 L Hs1 H1 :=
  ⟨fun x hx => by
    obtain ⟨h1, h2, h3, h4⟩ := w.at_ x hx
    exact ⟨s.e _ _ h1 h2 (by simp), h2, h3, s.n _ _ h1 h2 h4⟩, w.nd, w.rg.trans (Rg.of s)⟩
theorem Ow.new (w : Ow T R0 H0s H0 L Hs H) {p : Addr} {o : HO} (h : H p = none) (nt : NT o) (ne : ∀ φ, o ≠ .ext φ) : Ow T R0 H0s H0 ((p, o) :: L) Hs (upd H p o) := by
  have np : ∀ {b u}, H b = some u → b ≠ p := fun hb z => by
    rw [z, h] at hb
    cases hb
  refine ⟨fun x hx => ?_, ?_, ?_⟩
  · rcases List.mem_cons.mp hx with z | z
    · subst z
      exact ⟨upd_same, nt, ne, stable_free w.rg.x h⟩
    · obtain ⟨h1, h2, h3, h4⟩ := w.at_ x z
      exact ⟨by rw [upd_ne (np h1)]; exact h1, h2, h3, h4⟩
  · rw [List.map_cons, List.nodup_cons]
    refine ⟨fun hm => ?_, w.nd⟩
    obtain ⟨x, hx, e⟩ := List.mem_map.mp hm
    exact np (w.at_ x hx).1 e
  · refine ⟨w.rg.s, fun b u hb q z => ?_, fun b u hb q => ?_, fun b u hb q => ?_, tabs_new w.rg.t h, w.rg.n, fun b hb => ?_⟩
    · have := w.rg.e b u hb q z
      rw [upd_ne (np this)]
      exact this
    · obtain ⟨u1, h1, q1⟩ := w.rg.k b u hb q
      exact ⟨u1, by rw [upd_ne (np h1)]; exact h1, q1⟩
    · have := w.rg.x b u hb q
      rw [upd_ne (np this)]
      exact this
    · obtain ⟨x, hx, rfl⟩ := hb
      rcases List.mem_cons.mp hx with z | z
      · subst z
        refine .inr fun u hu q => ?_
        obtain ⟨u1, h1, q1⟩ := w.rg.k _ u hu q
        rw [h] at h1
        cases h1
      · exact w.rg.r _ ⟨x, z, rfl⟩
theorem Ow.put (w : Ow T R0 H0s H0 (L ++ M) Hs H) {p : Addr} {u o : HO} {M' : List (Addr × HO)} (e : M = (p, u) :: M') (nt : NT o) (ne : ∀ φ, o ≠ .ext φ) : Ow T R0 H0s H0 (L ++ (p, o) :: M') Hs (upd H p o) := by
  subst e
  obtain ⟨k1, k2, k3, k4⟩ := w.at_ (p, u) (by simp)
  have nd := w.nd
  rw [List.map_append, List.map_cons, List.nodup_append, List.nodup_cons] at nd
  have nin : ∀ x, x ∈ L ∨ x ∈ M' → x.1 ≠ p := fun x hx z => by
    rcases hx with hx | hx
    · exact nd.2.2 x.1 (List.mem_map_of_mem hx) p List.mem_cons_self z
    · have m := List.mem_map_of_mem (f := (·.1)) hx
      rw [z] at m
      exact nd.2.1.1 m
  refine ⟨fun x hx => ?_, ?_, ?_⟩
  · rcases List.mem_append.mp hx with z | z
    · obtain ⟨h1, h2, h3, h4⟩ := w.at_ x (List.mem_append_left _ z)
      exact ⟨by rw [upd_ne (nin x (.inl z))]; exact h1, h2, h3, h4⟩
    · rcases List.mem_cons.mp z with y | y
      · subst y
        exact ⟨upd_same, nt, ne, k4⟩
      · obtain ⟨h1, h2, h3, h4⟩ := w.at_ x (List.mem_append_right _ (List.mem_cons_of_mem _ y))
        exact ⟨by rw [upd_ne (nin x (.inr y))]; exact h1, h2, h3, h4⟩
  · have := w.nd
    rw [List.map_append, List.map_cons] at this ⊢
    exact this
  · refine ⟨w.rg.s, fun b v hb q z => ?_, fun b v hb q => ?_, fun b v hb q => ?_, tabs_ne w.rg.t fun v hv => ?_, w.rg.n, fun b hb => ?_⟩
    · have h1 := w.rg.e b v hb q z
      have : b ≠ p := fun y => by
        rcases w.rg.r p ⟨(p, u), by simp, rfl⟩ with r | r
        · exact z (by rw [y]; exact r)
        · exact r v (by rw [← y]; exact hb) q
      rw [upd_ne this]
      exact h1
    · obtain ⟨v1, h1, q1⟩ := w.rg.k b v hb q
      by_cases y : b = p
      · rw [y, upd_same]
        exact ⟨o, rfl, nt⟩
      · rw [upd_ne y]
        exact ⟨v1, h1, q1⟩
    · rw [upd_ne (fr_ne k4 hb q)]
      exact w.rg.x b v hb q
    · have k1' : H p = some u := k1
      rw [k1'] at hv
      cases hv
      exact ⟨k2, k3⟩
    · obtain ⟨x, hx, rfl⟩ := hb
      rcases List.mem_append.mp hx with z | z
      · exact w.rg.r _ ⟨x, by simp [z], rfl⟩
      · rcases List.mem_cons.mp z with y | y
        · subst y
          exact w.rg.r _ ⟨(p, u), by simp, rfl⟩
        · exact w.rg.r _ ⟨x, by simp [y], rfl⟩
end
theorem pairs_one {tk tv : TE} {σ : L2.St} {H : Hp} {Q : List (V × V) → Hp → Prop} (h : tk σ H fun x H1 => tv σ H1 fun y H2 => Q [(x, y)] H2) : tPairs [(tk, tv)] σ H Q := h
section
variable {W : Wd} {k : Nat}
def spInit (W : Wd) : Sp := fun vs H Q _ => ∃ (Hs : Hp) (g dx : Addr) (p : Plan) (v : V), vs = [.ref g, v] ∧ ExtN Hs H ∧ Tabs W.T H ∧ H g = some (.ins (He.ga W.K "Graph") dx []) ∧ Fr Hs g ∧ At Hs v (enc p) ∧ SmL p ∧ nestL p ≤ 60 ∧
  ∀ (R' : Addr → Prop) (A' : GAd) (Hs' H' : Hp), GAt (He.ga W.K "Graph") R' Hs' H' g ⟨[p], [[]], []⟩ A' → A'.fb = [p] → A'.gn = 0 → Rg W.T (· = g) Hs H R' Hs' H' → Q .non H'
theorem k_init (B : Bs W.K W.mg) (h_size_of : Kp W d_size_of ["plan"] k (rSizeL 61)) : Keeps W.P W.w W.K W.mg W.base d_Graph_init ["self", "start"] (k + 1) (spInit W) :=
  def_raw B.t_Graph_init sc_Graph_init (fun vs H Q E ⟨_, _, _, _, _, h, _⟩ => by rw [h]; rfl) fun cdv An outer s H E hr vs Q ⟨Hs, g, dx, p, v, ev, x, t, hg, fg, av, sm, np, q⟩ => by
    subst ev
    refine ⟨_, (pss_cons (ps_fld (pv 0) (pe_lst (pa_cons (pv 1) pa_nil)) rfl)
    (pss_cons (ps_fld (pv 0) (pe_disp (pps_cons (pe_k h_size_of hr rfl B.m_size_of (pa_cons (pv 1) pa_nil)) (pe_lst (pa_cons pe_int pa_nil)) pps_nil) rfl rfl (by simp) (by decide)) rfl)
    (pss_cons (ps_fld (pv 0) (pe_lst pa_nil) rfl)
    (pss_cons (ps_fld (pv 0) (pe_lst pa_nil) rfl)
    (pss_one (ps_fld (pv 0) (pe_lst (pa_cons (pe_tup pa_nil) pa_nil)) rfl)))))), ?_⟩
    have w0 : Ow W.T (· = g) Hs H [(g, .ins (He.ga W.K "Graph") dx [])] Hs H := by
      refine ⟨fun y hy => ?_, by simp, ExtN.refl _, fun _ _ h _ _ => h, fun _ o h q => ⟨o, h, q⟩, x, t, fun _ _ _ _ h => h, fun b hb => ?_⟩
      · have e : y = (g, .ins (He.ga W.K "Graph") dx []) := by simpa using hy
        subst e
        exact ⟨hg, (fun _ z => by cases z), (fun _ z => by cases z), fg⟩
      · obtain ⟨y, hy, rfl⟩ := hb
        have e : y = (g, .ins (He.ga W.K "Graph") dx []) := by simpa using hy
        subst e
        exact .inl rfl
    -- forms
    refine ⟨_, rfl, (by show 1 ≤ sizeLine; decide), fun f hf => ?_⟩
    have w1 := w0.new hf (o := .lst [v]) nt_lst (fun _ z => by cases z)
    refine ⟨_, rfl, g, _, dx, [], rfl, (w1.at_ (g, .ins (He.ga W.K "Graph") dx []) (by simp)).1, B.gcls, B.g_forms, (by show 0 < 1000; decide), ?_⟩
    have w2 := Ow.put (L := [(f, .lst [v])]) w1 rfl (o := .ins (He.ga W.K "Graph") dx (putF "forms" (.ref f) [])) (fun _ z => by cases z) (fun _ z => by cases z)
    -- by_size
    refine fun b hb => ?_
    have w3 := w2.new hb (o := .dK []) (fun _ z => by cases z) (fun _ z => by cases z)
    have o3 : ∀ {H3 : Hp}, ExtN Hs H3 → Tabs W.T H3 → Ok W.T none [.any, .d (enc p)] Hs H3 (L2.start n_Graph_init [.ref g, v]) := fun {H3} x3 t3 => by
      refine ⟨x3, t3, fun _ e => (by cases e), rfl, fun i sl e => ?_, fun i j a xs ys e => ?_⟩
      · match i, e with
        | 0, e => cases e; exact ⟨_, rfl, trivial⟩
        | 1, e => cases e; exact ⟨_, rfl, v, rfl, av⟩
        | i + 2, e => simp at e
      · match i, e with
        | 0, e => cases e
        | 1, e => cases e
        | i + 2, e => simp at e
    have hs : Ev W.T none (tCall (spD W.T (rSizeL 61)) [] E0 (tCons (tVar 1) tNil)) [.any, .d (enc p)] (· = .int (sizeL p)) := ev_call (ea1 (ev_var rfl ⟨_, ⟨p, rfl, by omega, sm, rfl⟩, rfl⟩))
    refine pairs_one (hs Hs _ _ _ (o3 w3.rg.x w3.rg.t) fun d u H4s H4 ed s4 a4 => ?_)
    subst ed
    cases a4
    have w4 := w3.step s4
    refine ⟨(by show 1 ≤ sizeLine; decide), fun c hc => ?_⟩
    have w5 := w4.new hc (o := .lst [.int 0]) nt_lst (fun _ z => by cases z)
    refine ⟨(w5.at_ (b, .dK []) (by simp)).1, [(.inl (sizeL p), .ref c)], rfl, (by show 1 ≤ 15; decide), ?_⟩
    have em : mergeK [] [((.inl (sizeL p) : Key), V.ref c)] = [(.inl (sizeL p), V.ref c)] := rfl
    rw [em]
    have w6 := Ow.put (L := [(c, .lst [.int 0])]) w5 rfl (o := .dK [(.inl (sizeL p), V.ref c)]) (fun _ z => by cases z) (fun _ z => by cases z)
    refine ⟨_, rfl, g, _, dx, (putF "forms" (V.ref f) []), rfl, (w6.at_ (g, .ins (He.ga W.K "Graph") dx (putF "forms" (V.ref f) [])) (by simp)).1, B.gcls, B.g_by_size, (by show 1 < 1000; decide), ?_⟩
    have w7 := Ow.put (L := [(c, .lst [.int 0]), (b, .dK [(.inl (sizeL p), V.ref c)]), (f, .lst [v])]) w6 rfl (o := .ins (He.ga W.K "Graph") dx (putF "by_size" (.ref b) (putF "forms" (.ref f) []))) (fun _ z => by cases z) (fun _ z => by cases z)
    -- links
    refine ⟨(by show 0 ≤ sizeLine; decide), fun l hl => ?_⟩
    have w8 := w7.new hl (o := .lst []) nt_lst (fun _ z => by cases z)
    refine ⟨_, rfl, g, _, dx, (putF "by_size" (V.ref b) (putF "forms" (V.ref f) [])), rfl, (w8.at_ (g, .ins (He.ga W.K "Graph") dx (putF "by_size" (V.ref b) (putF "forms" (V.ref f) []))) (by simp)).1, B.gcls, B.g_links, (by show 2 < 1000; decide), ?_⟩
    have w9 := Ow.put (L := [(l, .lst []), (c, .lst [.int 0]), (b, .dK [(.inl (sizeL p), V.ref c)]), (f, .lst [v])]) w8 rfl (o := .ins (He.ga W.K "Graph") dx (putF "links" (.ref l) (putF "by_size" (.ref b) (putF "forms" (.ref f) [])))) (fun _ z => by cases z) (fun _ z => by cases z)
    -- gates
    refine ⟨(by show 0 ≤ sizeLine; decide), fun a ha => ?_⟩
    have w10 := w9.new ha (o := .lst []) nt_lst (fun _ z => by cases z)
    refine ⟨_, rfl, g, _, dx, (putF "links" (V.ref l) (putF "by_size" (V.ref b) (putF "forms" (V.ref f) []))), rfl, (w10.at_ (g, .ins (He.ga W.K "Graph") dx (putF "links" (V.ref l) (putF "by_size" (V.ref b) (putF "forms" (V.ref f) [])))) (by simp)).1, B.gcls, B.g_gates, (by show 3 < 1000; decide), ?_⟩
    have w11 := Ow.put (L := [(a, .lst []), (l, .lst []), (c, .lst [.int 0]), (b, .dK [(.inl (sizeL p), V.ref c)]), (f, .lst [v])]) w10 rfl (o := .ins (He.ga W.K "Graph") dx (putF "gates" (.ref a) (putF "links" (.ref l) (putF "by_size" (.ref b) (putF "forms" (.ref f) []))))) (fun _ z => by cases z) (fun _ z => by cases z)
    -- earliest
    refine ⟨(by show 0 ≤ sizeLine; decide), fun tp htp => ?_⟩
    have s12 := Stp.new (T := W.T) (ta := none) (o := .tup []) w11.rg.x w11.rg.t htp
    have w12 := w11.step s12
    refine ⟨(by show 1 ≤ sizeLine; decide), fun e he => ?_⟩
    have w13 := w12.new he (o := .lst [.ref tp]) nt_lst (fun _ z => by cases z)
    refine ⟨_, rfl, g, _, dx, (putF "gates" (V.ref a) (putF "links" (V.ref l) (putF "by_size" (V.ref b) (putF "forms" (V.ref f) [])))), rfl, (w13.at_ (g, .ins (He.ga W.K "Graph") dx (putF "gates" (V.ref a) (putF "links" (V.ref l) (putF "by_size" (V.ref b) (putF "forms" (V.ref f) []))))) (by simp)).1, B.gcls, B.g_earliest, (by show 4 < 1000; decide), ?_⟩
    have w14 := Ow.put (L := [(e, .lst [.ref tp]), (a, .lst []), (l, .lst []), (c, .lst [.int 0]), (b, .dK [(.inl (sizeL p), V.ref c)]), (f, .lst [v])]) w13 rfl (o := .ins (He.ga W.K "Graph") dx (putF "earliest" (.ref e) (putF "gates" (.ref a) (putF "links" (.ref l) (putF "by_size" (.ref b) (putF "forms" (.ref f) [])))))) (fun _ z => by cases z) (fun _ z => by cases z)
    have get : ∀ {z : Addr} {o : HO}, (z, o) ∈ _ → _ := fun {z o} hz => (w14.at_ (z, o) hz).1
    have nd := w14.nd
    simp only [List.map_append, List.map_cons, List.map_nil, List.cons_append, List.nil_append, List.nodup_cons, List.mem_cons, List.not_mem_nil, or_false, not_or] at nd
    have egf : putF "earliest" (V.ref e) (putF "gates" (.ref a) (putF "links" (.ref l) (putF "by_size" (.ref b) (putF "forms" (.ref f) [])))) = gf ⟨f, b, l, a, e, dx, [(.inl (sizeL p), .ref c)], [p], 0⟩ := by rfl
    have avl := av.up w14.rg.s
    have vz : ∀ s : Int, valV [((.inl (sizeL p) : Key), V.ref c)] (.inl s) = if s = sizeL p then some (V.ref c) else none := fun s => by
      unfold valV
      by_cases z : s = sizeL p
      · rw [z]
        simp
      · have z' : ¬ sizeL p = s := fun y => z y.symm
        simp [z, z']
    have bk : ∀ s : Int, bucket [p] s = if s = sizeL p then [0] else [] := fun s => by
      have := bucket_snoc [] p s
      rw [List.nil_append] at this
      rw [this]
      by_cases z : s = sizeL p
      · simp [z, bucket]
      · have z' : ¬ sizeL p = s := fun y => z y.symm
        simp [z, z', bucket]
    refine q _ ⟨f, b, l, a, e, dx, [(.inl (sizeL p), .ref c)], [p], 0⟩ _ _ ⟨?_, ⟨[v], ?_, .one avl⟩, ⟨[], ?_, .nil⟩, ⟨[], [], ?_, .nil, rfl⟩, ⟨[.ref tp], ?_, .one ?_⟩, ?_, fun s hs => ?_, fun s v' hs => ?_, Nat.le_refl _, fun s t' q' h1 h2 => ?_, ?_, ?_, fun z hz => ?_, fun z hz => ?_⟩ rfl rfl w14.rg
    · rw [← egf]
      exact get (by simp)
    · exact get (by simp)
    · exact get (by simp)
    · exact get (by simp)
    · exact get (by simp)
    · exact .tup (xs := []) upd_same .nil
    · exact get (by simp)
    · have hs' : valV [((.inl (sizeL p) : Key), V.ref c)] (.inl s) = none := hs
      rw [vz] at hs'
      show bucket [p] s = []
      rw [bk]
      by_cases z : s = sizeL p
      · simp [z] at hs'
      · simp [z]
    · have hs' : valV [((.inl (sizeL p) : Key), V.ref c)] (.inl s) = some v' := hs
      rw [vz] at hs'
      by_cases z : s = sizeL p
      · rw [if_pos z] at hs'
        refine ⟨c, (Option.some.inj hs').symm, ?_, ⟨(c, .lst [.int 0]), by simp, rfl⟩, ?_, ?_, ?_, ?_⟩
        · show _ = some (HO.lst ((bucket [p] s).map fun i => V.int (i : Nat)))
          rw [bk, if_pos z]
          exact get (by simp)
        all_goals
          intro y
          simp [y] at nd
      · rw [if_neg z] at hs'
        cases hs'
    · have h1' : valV [((.inl (sizeL p) : Key), V.ref c)] (.inl s) = some (.ref q') := h1
      have h2' : valV [((.inl (sizeL p) : Key), V.ref c)] (.inl t') = some (.ref q') := h2
      rw [vz] at h1' h2'
      by_cases z1 : s = sizeL p
      · by_cases z2 : t' = sizeL p
        · rw [z1, z2]
        · rw [if_neg z2] at h2'
          cases h2'
      · rw [if_neg z1] at h1'
        cases h1'
    · show [f, l, a, e].Nodup
      simp only [List.nodup_cons, List.mem_cons, List.not_mem_nil, or_false, not_or]
      refine ⟨⟨?_, ?_, ?_⟩, ⟨?_, ?_⟩, ?_, ?_⟩
      all_goals
        first
          | exact not_false
          | (intro y; simp [y] at nd)
          | simp
    · exact ⟨⟨(g, .ins (He.ga W.K "Graph") dx (putF "earliest" (.ref e) (putF "gates" (.ref a) (putF "links" (.ref l) (putF "by_size" (.ref b) (putF "forms" (.ref f) [])))))), by simp, rfl⟩, ⟨(f, .lst [v]), by simp, rfl⟩, ⟨(b, .dK [(.inl (sizeL p), V.ref c)]), by simp, rfl⟩, ⟨(l, .lst []), by simp, rfl⟩, ⟨(a, .lst []), by simp, rfl⟩, ⟨(e, .lst [.ref tp]), by simp, rfl⟩⟩
    · obtain ⟨y, hy, rfl⟩ := hz
      exact (w14.at_ y hy).2.2.2
    · obtain ⟨y, hy, rfl⟩ := hz
      obtain ⟨h1, h2, h3, _⟩ := w14.at_ y hy
      exact ⟨_, h1, h2, h3⟩
end
end G
set_option Elab.async false
set_option linter.all false
set_option maxRecDepth 100000
set_option maxHeartbeats 1000000
/-! the law's own plans: sizes, raised, keys, joined -/
namespace G
open PySem PySem.Spec L2 LamX NdefX
section
variable {T : List (Addr × Str)} {ta : Option Addr} {δ : List Sl} {K : PySem.W.Frag} {te tx : TE} {Φ : D → Prop}
theorem inx_strs {xs : List Str} {j : Nat} {a : Str} (h : xs[j]? = some a) : (xs.map V.str)[j]? = some (.str a) := by rw [List.getElem?_map, h]; rfl
theorem eqV_str (a b : Str) : eqV (V.str a) (.str b) = decide (a = b) := by
  first
    | rfl
    | (unfold eqV; simp)
/-- [..].index(a): texts -/
theorem ev_index {xs : List Str} (h : EvL T ta te δ fun ds => ds = xs.map .str ∧ Ev T ta tx δ fun d => ∃ a j, d = .str a ∧ xs[j]? = some a ∧ (∀ m, m < j → xs[m]? ≠ some a) ∧ Φ (.int (j : Nat))) : Ev T ta (tBM K "list" (rIndex K) te (tCons tx tNil)) δ Φ := fun Hs H σ Q o q => by
  refine h Hs H σ _ o fun ds a vs H1s H1 ⟨e, h1⟩ s1 n1 n2 e1 a1 => ?_
  subst e
  refine ⟨.inl ⟨rfl, _, SqL.of e1⟩, ?_⟩
  refine h1 H1s H1 σ _ (o.step s1) fun d u H2s H2 ⟨b, j, ed, hj, hno, hp⟩ s2 a2 => ?_
  subst ed
  cases a2
  rw [a1.strs] at e1
  refine ⟨a, _, _, j, .str b, rfl, rfl, SqL.of (s2.e _ _ e1 nt_lst (o.nta n1)), rfl, flat_strs _, inx_strs hj, by rw [eqV_str]; exact decide_eq_true rfl, fun m z hm hz => ?_, q _ _ H2s H2 hp (s1.trans s2) (.int _)⟩
  rw [List.getElem?_map] at hz
  cases hx : xs[m]? with
  | none => rw [hx] at hz; cases hz
  | some b' =>
    rw [hx] at hz
    cases hz
    rw [eqV_str]
    exact decide_eq_false fun e => hno m hm (by rw [hx, e])
end
section
variable {W : Wd} {k : Nat}
theorem k_law_part_size (B : Bs W.K W.mg) {n : Nat} (h_law_size : Kp W d_law_size ["_law_plan_here"] k (rSizeL n)) : Kp W d_law_part_size ["_law_part_here"] (k + 1) (rSizeP (n + 1)) :=
  def_ok B.t_law_part_size sc_law_part_size (by rintro _ _ ⟨p, rfl, _, _, rfl⟩; rfl) fun cdv A outer s H E hr ds y ⟨p, e, hn, h, e2⟩ => by
    subst e e2
    refine ⟨_, (pss_cons (ps_if (pt_cmpR (op_eqK W.K (u200 hr)) (pe_callB (call_lenK W.K) (by rfl) B.len PySem.boot_len (pa_cons (pv 0) pa_nil)) pe_int (nomark _)) (pss_one (ps_ret (pe_op op_add pe_int (pe_k h_law_size hr rfl B.m_law_size (pa_cons (pe_ix (ix_tupK W.K) (pv 0) pe_int (fun _ _ => rfl)) pa_nil))))) pss_nil)
    (pss_one (ps_ret pe_int))), ?_⟩
    refine sv_seq (sv_if (et_len3 (p := p) rfl ?_))
    cases p with
    | name w => exact ⟨fun z => (by cases z), fun _ => sv_next (sv_ret (ev_int (by simp [sizeP])))⟩
    | got w => exact ⟨fun z => (by cases z), fun _ => sv_next (sv_ret (ev_int (by simp [sizeP])))⟩
    | nest kd d b =>
      simp only [nestP] at hn
      refine ⟨fun _ => ?_, fun z => (by cases z)⟩
      simp only [encP, sizeP]
      exact sv_ret (ev_op (ev_int (ev_call (ea1 (ev_ix rfl rfl ⟨_, ⟨b, rfl, by omega, h.body, rfl⟩, rv_i0 rfl⟩)))))
theorem k_law_size (B : Bs W.K W.mg) {n : Nat} (h_law_part_size : Kp W d_law_part_size ["_law_part_here"] k (rSizeP n)) : Kp W d_law_size ["_law_plan_here"] (k + 1) (rSizeL n) :=
  def_ok B.t_law_size sc_law_size (by rintro _ _ ⟨p, rfl, _, _, rfl⟩; rfl) fun cdv A outer s H E hr ds y ⟨p, e, hn, h, e2⟩ => by
    subst e e2
    refine ⟨_, (pss_one (ps_ret (pe_callB (cr_sum rfl) (by rfl) B.sum (by decide +kernel) (pa_cons (pe_lc (own := [("_law_count", 1), ("_law_part_here", 2)]) rfl sc_law_size.nd (pi_tup (pv 0)) (blkOk_by (own := [("_law_count", 1), ("_law_part_here", 2)]) (N := n_law_size) (sc := defScope s_law_size) (by decide +kernel)) (fun _ _ _ _ _ => (pg_tupK W.K (n := 2) (by rfl) (pgs_cons (pg_name (i := 1) sc_law_size.nd rfl (Or.inl rfl)) (pgs_cons (pg_name (i := 2) sc_law_size.nd rfl (Or.inl rfl)) pgs_nil)))) (fun _ _ _ _ _ => pts_nil) (fun _ _ _ _ _ => (pe_op op_mulB (pv 1) (pe_k h_law_part_size hr rfl B.m_law_part_size (pa_cons (pv 2) pa_nil))))) pa_nil)))), sv_ret (ev_sumS (evs_l (evl_lcM (js := [1] ++ [2]) (by simp) (ei_tup (ev_var rfl ⟨_, rfl, p, encI, fun x => some (.int (x.1 * sizeP x.2)), encL_map p, h.len, ?_, ?_⟩)))))⟩
    · rintro ⟨c, q⟩ hx
      have h1 := h.mem hx
      have h2 : nestP q ≤ nestL p := nestL_mem hx
      exact turn2 (ev_op (ev_var rfl (ev_call (ea1 (ev_var rfl ⟨_, ⟨q, rfl, by omega, h1.1, rfl⟩, rv_i h1.2.2 rfl⟩)))))
    · exact ⟨p.map fun x => x.1 * sizeP x.2, by simp [List.filterMap_eq_map, Function.comp_def], by rw [sizeL_sum]⟩
theorem k_law_items_in (B : Bs W.K W.mg) {n : Nat} (h_law_items_in : Kp W d_law_items_in ["_law_plan_here"] k (rItems n)) : Kp W d_law_items_in ["_law_plan_here"] (k + 1) (rItems (n + 1)) :=
  def_ok B.t_law_items_in sc_law_items_in (by rintro _ _ ⟨p, rfl, _, _, rfl⟩; rfl) fun cdv A outer s H E hr ds y ⟨p, e, hn, h, e2⟩ => by
    subst e e2
    refine ⟨_, (pss_cons (ps_set (i := 1) sc_law_items_in.nd rfl (Or.inl rfl) pe_int)
    (pss_cons (ps_for PassesOwn.never rfl (pi_tup (pv 0)) (pg_tupK W.K (n := 2) (by rfl) (pgs_cons (pg_name (i := 2) sc_law_items_in.nd rfl (Or.inl rfl)) (pgs_cons (pg_name (i := 3) sc_law_items_in.nd rfl (Or.inl rfl)) pgs_nil))) (pss_cons (ps_set (i := 1) sc_law_items_in.nd rfl (Or.inl rfl) (pe_op op_add (pv 1) pe_int))
    (pss_one (ps_if (pt_cmpR (op_eqK W.K (u200 hr)) (pe_callB (call_lenK W.K) (by rfl) B.len PySem.boot_len (pa_cons (pv 3) pa_nil)) pe_int (nomark _)) (pss_one (ps_set (i := 1) sc_law_items_in.nd rfl (Or.inl rfl) (pe_op op_add (pv 1) (pe_k h_law_items_in hr rfl B.m_law_items_in (pa_cons (pe_ix (ix_tupK W.K) (pv 3) pe_int (fun _ _ => rfl)) pa_nil))))) pss_nil))))
    (pss_one (ps_ret (pv 1))))), ?_⟩
    refine sv_seq (sv_set (ev_int ?_))
    refine sv_seq (sv_for (js := [2] ++ [3]) (ei_tup (ev_var rfl ⟨_, rfl, fun i δ => ∃ A s2 s3, δ = [.d (enc p), .d (.int A), s2, s3] ∧ A = (itemsL (p.take i) : Int), ⟨0, _, _, rfl, by simp [itemsL]⟩, ?_, ?_⟩)))
    · rintro i x δ hx ⟨A, s2, s3, rfl, eA⟩
      obtain ⟨⟨c, q⟩, e, rfl⟩ := encL_get hx
      have hm := List.mem_of_getElem? e
      have h2 : nestP q ≤ nestL p := nestL_mem hm
      have h5 : itemsP q + 1 ≤ itemsL p := itemsL_mem hm
      have et : (itemsL (p.take (i + 1)) : Int) = A + 1 + itemsP q := by
        rw [take_succ' e, itemsL_append, itemsL_cons, eA]
        simp only [itemsL]
        omega
      refine gt_pair (gt_name (gt_name ?_))
      refine sv_seq (sv_set (ev_op (ev_var rfl (ev_int (rv_i0 ?_)))))
      refine sv_if (et_len3 (p := q) rfl ?_)
      cases q with
      | name w => exact ⟨fun z => (by cases z), fun _ => sv_next ⟨A + 1, _, _, rfl, by rw [et]; simp [itemsP]⟩⟩
      | got w => exact ⟨fun z => (by cases z), fun _ => sv_next ⟨A + 1, _, _, rfl, by rw [et]; simp [itemsP]⟩⟩
      | nest kd d b =>
        simp only [nestP] at h2
        simp only [itemsP] at h5
        refine ⟨fun _ => ?_, fun z => (by cases z)⟩
        simp only [encP]
        exact sv_set (ev_op (ev_var rfl (ev_call (ea1 (ev_ix rfl rfl ⟨_, ⟨b, rfl, by omega, by omega, rfl⟩, rv_i0 ⟨_, _, _, rfl, by rw [et]; simp [itemsP]⟩⟩)))))
    · rintro δ ⟨A, s2, s3, rfl, rfl⟩
      rw [encL_len, List.take_length]
      exact sv_ret (ev_var rfl rfl)
theorem raiseL_cat (u l : Int) (p q : Plan) : raiseL u l (p ++ q) = raiseL u l p ++ raiseL u l q := by
  rw [raiseL_map, raiseL_map, raiseL_map, List.map_append]
theorem raiseL_take {u l : Int} {p : Plan} {i : Nat} {c : Int} {q : Part} (h : p[i]? = some (c, q)) : raiseL u l (p.take (i + 1)) = raiseL u l (p.take i) ++ [(c, raiseP u l q)] := by
  rw [take_succ' h, raiseL_cat]
  simp [raiseL]
def rLRaise (n : Nat) : List D → D → Prop := fun ds y => ∃ p u l, ds = [enc p, .int u, .int l] ∧ nestL p < n ∧ itemsL p ≤ 900000 ∧ y = enc (raiseL u l p)
theorem k_law_raise (B : Bs W.K W.mg) {n : Nat} (h_law_raise : Kp W d_law_raise ["_law_plan_here", "_law_by", "_law_least"] k (rLRaise n)) : Kp W d_law_raise ["_law_plan_here", "_law_by", "_law_least"] (k + 1) (rLRaise (n + 1)) :=
  def_ok B.t_law_raise sc_law_raise (by rintro _ _ ⟨p, u, l, rfl, _, _, rfl⟩; rfl) fun cdv A outer s H E hr ds y ⟨p, u, l, e, hn, it, e2⟩ => by
    subst e e2
    refine ⟨_, (pss_cons (ps_set (i := 3) sc_law_raise.nd rfl (Or.inl rfl) (pe_lst pa_nil))
    (pss_cons (ps_for PassesOwn.never rfl (pi_tup (pv 0)) (pg_tupK W.K (n := 2) (by rfl) (pgs_cons (pg_name (i := 4) sc_law_raise.nd rfl (Or.inl rfl)) (pgs_cons (pg_name (i := 5) sc_law_raise.nd rfl (Or.inl rfl)) pgs_nil))) (pss_cons (ps_if (PW.pt (pw_and (pt_cmpR (op_eqK W.K (u200 hr)) (pe_ix (ix_tupK W.K) (pv 5) pe_int (fun _ _ => rfl)) pe_str (nomark _)) (pw_and1 (pt_cmpR op_ge (pe_ix (ix_tupK W.K) (pv 5) pe_int (fun _ _ => rfl)) (pv 2) (nomark _))))) (pss_one (ps_set (i := 5) sc_law_raise.nd rfl (Or.inl rfl) (pe_tup (pa_cons pe_str (pa_cons (pe_op op_add (pe_ix (ix_tupK W.K) (pv 5) pe_int (fun _ _ => rfl)) (pv 1)) pa_nil))))) pss_nil)
    (pss_cons (ps_if (pt_cmpR (op_eqK W.K (u200 hr)) (pe_ix (ix_tupK W.K) (pv 5) pe_int (fun _ _ => rfl)) pe_str (nomark _)) (pss_one (ps_set (i := 5) sc_law_raise.nd rfl (Or.inl rfl) (pe_tup (pa_cons pe_str (pa_cons (pe_ix (ix_tupK W.K) (pv 5) pe_int (fun _ _ => rfl)) (pa_cons (pe_k h_law_raise hr rfl B.m_law_raise (pa_cons (pe_ix (ix_tupK W.K) (pv 5) pe_int (fun _ _ => rfl)) (pa_cons (pv 1) (pa_cons (pv 2) pa_nil)))) pa_nil)))))) pss_nil)
    (pss_cons (ps_if (pt_cmpR (op_eqK W.K (u200 hr)) (pe_ix (ix_tupK W.K) (pv 5) pe_int (fun _ _ => rfl)) pe_str (nomark _)) (pss_one (ps_set (i := 5) sc_law_raise.nd rfl (Or.inl rfl) (pe_tup (pa_cons pe_str (pa_cons (pe_ix (ix_tupK W.K) (pv 5) pe_int (fun _ _ => rfl)) (pa_cons (pe_k h_law_raise hr rfl B.m_law_raise (pa_cons (pe_ix (ix_tupK W.K) (pv 5) pe_int (fun _ _ => rfl)) (pa_cons (pv 1) (pa_cons (pe_op op_add (pv 2) pe_int) pa_nil)))) pa_nil)))))) pss_nil)
    (pss_one (ps_expr (pe_bm PySem.F.plainAttrs_list PySem.F.slot_list_append PySem.F.type_list_append mt_append (pv 3) (pa_cons (pe_tup (pa_cons (pv 4) (pa_cons (pv 5) pa_nil))) pa_nil))))))))
    (pss_one (ps_ret (pe_callTy call_tuple_of (by rfl) B.tuple (by decide +kernel) (pa_cons (pv 3) pa_nil)))))), ?_⟩
    have lp := len_le_items p
    refine sv_seq (sv_setL (evl_lst (ea_nil ⟨by decide, ?_⟩)))
    refine sv_seq (sv_for (js := [4] ++ [5]) (ei_tup (ev_var rfl ⟨_, rfl, fun i δ => ∃ A s4 s5, δ = [.d (enc p), .d (.int u), .d (.int l), .l (encL A), s4, s5] ∧ A = raiseL u l (p.take i), ⟨[], _, _, rfl, by simp [raiseL]⟩, ?_, ?_⟩)))
    · rintro i x δ hx ⟨A, s4, s5, rfl, eA⟩
      obtain ⟨⟨c, q⟩, e, rfl⟩ := encL_get hx
      have hm := List.mem_of_getElem? e
      have h2 : nestP q ≤ nestL p := nestL_mem hm
      have h5 : itemsP q + 1 ≤ itemsL p := itemsL_mem hm
      have et := raiseL_take (u := u) (l := l) e
      rw [← eA] at et
      have lA : A.length < 1000000 := by
        rw [eA, raiseL_map, List.length_map, List.length_take]
        omega
      have fin : ∀ {P : Po} {s4 : Sl} {r : Part}, raiseP u l q = r → P.nx [.d (enc p), .d (.int u), .d (.int l), .l (encL (A ++ [(c, r)])), .d (.int c), .d (encP r)] → Sv W.T none (tDrop (tBM W.K "list" rAppend (tVar 3) (tCons (tTup (tCons (tVar 4) (tCons (tVar 5) tNil))) tNil))) [.d (enc p), .d (.int u), .d (.int l), .l (encL A), .d (.int c), .d (encP r)] P := fun {P s4 r} er h => by
        refine sv_append rfl (by rw [encL_len]; exact lA) (ev_tup (ea2 (ev_var rfl (ev_var rfl ⟨(by show 2 ≤ 1000000; decide), ?_⟩))))
        rw [encL_snoc] at h
        exact h
      refine gt_pair (gt_name (gt_name ?_))
      cases q with
      | name w =>
        refine sv_seq (sv_ifF (et_and1 (et_kind (p := .name w) rfl (kf (a := "name") rfl (by decide)))) (sv_next ?_))
        refine sv_seq (sv_ifF (et_kind (p := .name w) rfl (kf (a := "name") rfl (by decide))) (sv_next ?_))
        refine sv_seq (sv_ifF (et_kind (p := .name w) rfl (kf (a := "name") rfl (by decide))) (sv_next ?_))
        exact fin (s4 := s4) (r := .name w) (by simp [raiseP]) ⟨_, _, _, rfl, by rw [et]; simp [raiseP]⟩
      | got w =>
        refine sv_seq (sv_ifP (l ≤ w) ((et_andB (a := true) (b := decide (l ≤ w)) (et_kind (p := .got w) rfl rfl) fun _ => et_TE ?_).imp fun b e => by rw [e]; rfl) (fun z => ?_) fun z => ?_)
        · simp only [encP]
          exact ev_op (ev_ix rfl rfl (ev_var rfl (rv_b0 rfl)))
        · simp only [encP]
          refine sv_set (ev_tup (ea2 (ev_str (ev_op (ev_ix rfl rfl (ev_var rfl (rv_i0 ⟨(by show 2 ≤ 1000000; decide), ?_⟩)))))))
          have ev : raiseP u l (.got w) = .got (w + u) := by simp [raiseP, z]
          rw [show PyData.tuple [.str "got", .int (w + u)] = encP (.got (w + u)) by simp [encP]]
          refine sv_seq (sv_ifF (et_kind (p := .got (w + u)) rfl (kf (a := "got") rfl (by decide))) (sv_next ?_))
          refine sv_seq (sv_ifF (et_kind (p := .got (w + u)) rfl (kf (a := "got") rfl (by decide))) (sv_next ?_))
          exact fin (s4 := s4) (r := .got (w + u)) ev ⟨_, _, _, rfl, by rw [et, ev]⟩
        · have ev : raiseP u l (.got w) = .got w := by simp [raiseP, z]
          refine sv_next ?_
          refine sv_seq (sv_ifF (et_kind (p := .got w) rfl (kf (a := "got") rfl (by decide))) (sv_next ?_))
          refine sv_seq (sv_ifF (et_kind (p := .got w) rfl (kf (a := "got") rfl (by decide))) (sv_next ?_))
          exact fin (s4 := s4) (r := .got w) ev ⟨_, _, _, rfl, by rw [et, ev]⟩
      | nest kd d b =>
        simp only [nestP] at h2
        simp only [itemsP] at h5
        refine sv_seq (sv_ifF (et_and1 (et_kind (p := .nest kd d b) rfl (by cases kd <;> first | exact kf (a := "letter") rfl (by decide) | exact kf (a := "wait") rfl (by decide)))) (sv_next ?_))
        cases kd with
        | false =>
          have er : raiseP u l (.nest false d b) = .nest false d (raiseL u l b) := by simp [raiseP]
          refine sv_seq (sv_ifT (et_kind (p := .nest false d b) rfl rfl) ?_)
          simp only [encP]
          refine sv_set (ev_tup (ea3 (ev_str (ev_ix rfl rfl (ev_call (ea3 (ev_ix rfl rfl (ev_var rfl (ev_var rfl ⟨_, ⟨b, u, l, rfl, by omega, by omega, rfl⟩, (by show 3 ≤ 1000000; decide), ?_⟩)))))))))
          rw [show PyData.tuple [.str "letter", .str (chr d), enc (raiseL u l b)] = encP (.nest false d (raiseL u l b)) by simp [encP, kindS]]
          refine sv_seq (sv_ifF (et_kind (p := .nest false d (raiseL u l b)) rfl (kf (a := "letter") rfl (by decide))) (sv_next ?_))
          exact fin (s4 := s4) (r := .nest false d (raiseL u l b)) er ⟨_, _, _, rfl, by rw [et, er]⟩
        | true =>
          have er : raiseP u l (.nest true d b) = .nest true d (raiseL u (l + 1) b) := by simp [raiseP]
          refine sv_seq (sv_ifF (et_kind (p := .nest true d b) rfl (kf (a := "wait") rfl (by decide))) (sv_next ?_))
          refine sv_seq (sv_ifT (et_kind (p := .nest true d b) rfl rfl) ?_)
          simp only [encP]
          refine sv_set (ev_tup (ea3 (ev_str (ev_ix rfl rfl (ev_call (ea3 (ev_ix rfl rfl (ev_var rfl (ev_op (ev_var rfl (ev_int (rv_i0 ⟨_, ⟨b, u, l + 1, rfl, by omega, by omega, rfl⟩, (by show 3 ≤ 1000000; decide), ?_⟩))))))))))))
          rw [show PyData.tuple [.str "wait", .str (chr d), enc (raiseL u (l + 1) b)] = encP (.nest true d (raiseL u (l + 1) b)) by simp [encP, kindS]]
          exact fin (s4 := s4) (r := .nest true d (raiseL u (l + 1) b)) er ⟨_, _, _, rfl, by rw [et, er]⟩
    · rintro δ ⟨A, s4, s5, rfl, eA⟩
      refine sv_ret (ev_tupleS (evs_own rfl ?_))
      rw [eA, encL_len, List.take_length]
end
end G
set_option Elab.async false
set_option linter.all false
set_option maxRecDepth 100000
set_option maxHeartbeats 1000000
/-! the law's keys, joining, forms -/
namespace G
open PySem PySem.Spec L2 LamX NdefX
section
variable {W : Wd} {k : Nat}
theorem k_law_key (B : Bs W.K W.mg) {n : Nat} (h_law_part_size : Kp W d_law_part_size ["_law_part_here"] k (rSizeP (n + 1))) (h_law_key : Kp W d_law_key ["_law_part_here"] k (rKeyP n)) : Kp W d_law_key ["_law_part_here"] (k + 1) (rKeyP (n + 1)) :=
  def_ok B.t_law_key sc_law_key (by rintro _ _ ⟨p, rfl, _, _, rfl⟩; rfl) fun cdv A outer s H E hr ds y ⟨p, e, hn, h, e2⟩ => by
    subst e e2
    refine ⟨_, (pss_cons (ps_set (i := 1) sc_law_key.nd rfl (Or.inl rfl) (pe_bm PySem.F.plainAttrs_list PySem.F.slot_list_index PySem.F.type_list_index mt_index (pe_lst (pa_cons pe_str (pa_cons pe_str (pa_cons pe_str (pa_cons pe_str (pa_cons pe_str pa_nil)))))) (pa_cons (pe_ix (ix_tupK W.K) (pv 0) pe_int (fun _ _ => rfl)) pa_nil)))
    (pss_cons (ps_set (i := 2) sc_law_key.nd rfl (Or.inl rfl) (pe_tup pa_nil))
    (pss_cons (ps_if (pt_cmpR (op_eqK W.K (u200 hr)) (pe_callB (call_lenK W.K) (by rfl) B.len PySem.boot_len (pa_cons (pv 0) pa_nil)) pe_int (nomark _)) (pss_one (ps_set (i := 2) sc_law_key.nd rfl (Or.inl rfl) (pe_callTy call_tuple_of (by rfl) B.tuple (by decide +kernel) (pa_cons (pe_lc (own := [("_law_count", 3), ("_law_one", 4)]) rfl sc_law_key.nd (pi_tup (pe_ix (ix_tupK W.K) (pv 0) pe_int (fun _ _ => rfl))) (blkOk_by (own := [("_law_count", 3), ("_law_one", 4)]) (N := n_law_key) (sc := defScope s_law_key) (by decide +kernel)) (fun _ _ _ _ _ => (pg_tupK W.K (n := 2) (by rfl) (pgs_cons (pg_name (i := 3) sc_law_key.nd rfl (Or.inl rfl)) (pgs_cons (pg_name (i := 4) sc_law_key.nd rfl (Or.inl rfl)) pgs_nil)))) (fun _ _ _ _ _ => pts_nil) (fun _ _ _ _ _ => (pe_tup (pa_cons (pe_k h_law_key hr rfl B.m_law_key (pa_cons (pv 4) pa_nil)) (pa_cons (pv 3) pa_nil))))) pa_nil)))) pss_nil)
    (pss_one (ps_ret (pe_tup (pa_cons (pe_k h_law_part_size hr rfl B.m_law_part_size (pa_cons (pv 0) pa_nil)) (pa_cons (pv 1) (pa_cons (pe_ix (ix_tupK W.K) (pv 0) pe_int (fun _ _ => rfl)) (pa_cons (pv 2) pa_nil)))))))))), ?_⟩
    have ranks : ∀ {j : Nat} {δ : List Sl} {P : D → Prop}, (["name", "mark", "got", "letter", "wait"] : List Str)[j]? = some (kindOf p) → (∀ m, m < j → (["name", "mark", "got", "letter", "wait"] : List Str)[m]? ≠ some (kindOf p)) → δ[0]? = some (.d (encP p)) → P (.int (j : Nat)) →
        Ev W.T none (tBM W.K "list" (rIndex W.K) (tLst (tCons (tC (.str "name")) (tCons (tC (.str "mark")) (tCons (tC (.str "got")) (tCons (tC (.str "letter")) (tCons (tC (.str "wait")) tNil)))))) (tCons (tOp (rIxT W.K) (tVar 0) (tC (.int 0))) tNil)) δ P := fun {j δ P} h1 h2 e hp => by
      refine ev_index (xs := ["name", "mark", "got", "letter", "wait"]) (evl_lst (ea_cons (ev_str (ea_cons (ev_str (ea_cons (ev_str (ea_cons (ev_str (ea_cons (ev_str (ea_nil ⟨(by show 5 ≤ 1000000; decide), rfl, ?_⟩))))))))))))
      cases p <;> (simp only [encP] at e; exact ev_ix e rfl ⟨_, j, rfl, h1, h2, hp⟩)
    have sz := h
    cases p with
    | name w =>
      refine sv_seq (sv_set (ranks (j := 0) rfl (fun m hm => absurd hm (Nat.not_lt_zero _)) rfl ?_))
      refine sv_seq (sv_set (ev_tup (ea_nil ⟨by decide, ?_⟩)))
      refine sv_seq (sv_ifF (et_len3 (p := .name w) rfl rfl) (sv_next ?_))
      refine sv_ret (ev_tup (ea_cons (ev_call (ea1 (ev_var rfl ⟨_, ⟨.name w, rfl, hn, h, rfl⟩, ea_cons (ev_var rfl (ea2 ?_))⟩)))))
      simp only [encP]
      exact ev_ix rfl rfl (ev_var rfl ⟨(by show 4 ≤ 1000000; decide), by simp [keyP, sizeP]⟩)
    | got i =>
      refine sv_seq (sv_set (ranks (j := 2) rfl (fun m hm => by
        rcases (by omega : m = 0 ∨ m = 1) with z | z <;> (subst z; exact fun e => absurd (show _ = ("got" : Str) from Option.some.inj e) (by decide))) rfl ?_))
      refine sv_seq (sv_set (ev_tup (ea_nil ⟨by decide, ?_⟩)))
      refine sv_seq (sv_ifF (et_len3 (p := .got i) rfl rfl) (sv_next ?_))
      refine sv_ret (ev_tup (ea_cons (ev_call (ea1 (ev_var rfl ⟨_, ⟨.got i, rfl, hn, h, rfl⟩, ea_cons (ev_var rfl (ea2 ?_))⟩)))))
      simp only [encP]
      exact ev_ix rfl rfl (ev_var rfl ⟨(by show 4 ≤ 1000000; decide), by simp [keyP, sizeP]⟩)
    | nest kd d b =>
      have hn' := hn
      simp only [nestP] at hn'
      have hb := h.body
      refine sv_seq (sv_set (ranks (j := if kd then 4 else 3) ?_ ?_ rfl ?_))
      · cases kd <;> rfl
      · intro m hm
        cases kd with
        | false => rcases (by simp at hm; omega : m = 0 ∨ m = 1 ∨ m = 2) with z | z | z <;> (subst z; exact fun e => absurd (show _ = ("letter" : Str) from Option.some.inj e) (by decide))
        | true => rcases (by simp at hm; omega : m = 0 ∨ m = 1 ∨ m = 2 ∨ m = 3) with z | z | z | z <;> (subst z; exact fun e => absurd (show _ = ("wait" : Str) from Option.some.inj e) (by decide))
      refine sv_seq (sv_set (ev_tup (ea_nil ⟨by decide, ?_⟩)))
      refine sv_seq (sv_ifT (et_len3 (p := .nest kd d b) rfl rfl) (sv_set (ev_known (d := .tuple (keyL b)) ?_ ?_)))
      · refine ev_tupleS (evs_l (evl_lcM (α := Int × Part) (js := [3] ++ [4]) (by simp) (ei_tup ?_)))
        simp only [encP]
        refine ev_ix rfl rfl ⟨_, rfl, b, encI, fun x => some (.tuple [keyP x.2, .int x.1]), encL_map b, hb.len, ?_, ?_⟩
        · rintro ⟨c, q⟩ hx
          have h1 := hb.mem hx
          have h2 : nestP q ≤ nestL b := nestL_mem hx
          exact turn2 (ev_tup (ea2 (ev_call (ea1 (ev_var rfl ⟨_, ⟨q, rfl, by omega, h1.1, rfl⟩, ev_var rfl ⟨(by show 2 ≤ 1000000; decide), rfl⟩⟩)))))
        · show PyData.tuple _ = _
          rw [keyL_map]
          simp [List.filterMap_eq_map, Function.comp_def]
      refine sv_ret (ev_tup (ea_cons (ev_call (ea1 (ev_var rfl ⟨_, ⟨.nest kd d b, rfl, hn, h, rfl⟩, ea_cons (ev_var rfl (ea2 ?_))⟩)))))
      simp only [encP]
      exact ev_ix rfl rfl (ev_var rfl ⟨(by show 4 ≤ 1000000; decide), by cases kd <;> simp [keyP, sizeP]⟩)
theorem k_law_joined (B : Bs W.K W.mg) (BT : Tb W) {n : Nat} (h_law_key : Kp W d_law_key ["_law_part_here"] k (rKeyP n)) : Kp W d_law_joined ["_law_items"] (k + 3 + 1) (rSorted n) :=
  def_okC B.t_law_joined sc_law_joined (by rintro _ _ ⟨p, rfl, _, _, _, _, rfl⟩; rfl) fun A outer s H E hr ds y ⟨p, e, hn, h60, h, lw, e2⟩ => by
    subst e e2
    have hT := BT.at_ 3 (p := d_law_joined.at_) (q := (("_law_joined" : Str) ++ ".<locals>.") ++ "<lambda>")
    refine ⟨_, (pss_cons (ps_set (i := 1) sc_law_joined.nd rfl (Or.inl rfl) (pe_lst pa_nil))
    (pss_cons (ps_for PassesOwn.never rfl (pi_list (pe_sortLam (T := W.T) (k := k) (by rfl) B.sorted (pa_cons (pv 0) pa_nil) hT.1 rfl hT.2.1 hT.2.2 hr (fun b hb => ⟨fun z => hb (z ▸ List.mem_cons_self), fun z => hb (List.mem_cons_of_mem _ z)⟩) rfl (by decide +kernel) rfl (nscope_by (by decide +kernel)) (fun _ _ _ _ _ => rfl) (fun _ _ _ _ _ _ hr2 => pe_k h_law_key hr2 rfl B.m_law_key (pa_cons (pe_ix (ix_tupK W.K) (pv 0) pe_int (fun _ _ => rfl)) pa_nil)))) (pg_tupK W.K (n := 2) (by rfl) (pgs_cons (pg_name (i := 2) sc_law_joined.nd rfl (Or.inl rfl)) (pgs_cons (pg_name (i := 3) sc_law_joined.nd rfl (Or.inl rfl)) pgs_nil))) (pss_one (ps_if (PW.pt (pw_and (pt_cmpR op_gt (pe_callB (call_lenK W.K) (by rfl) B.len PySem.boot_len (pa_cons (pv 1) pa_nil)) pe_int (nomark _)) (pw_and1 (pt_cmpR (op_eqK W.K (u200 hr)) (pe_ix (ix_tupK W.K) (pe_ix (ix_listK W.K) (pv 1) (pe_un un_neg pe_int) (fun _ _ => rfl)) pe_int (fun _ _ => rfl)) (pv 3) (nomark _))))) (pss_one (ps_asg (pe_tup (pa_cons (pe_op op_add (pe_ix (ix_tupK W.K) (pe_ix (ix_listK W.K) (pv 1) (pe_un un_neg pe_int) (fun _ _ => rfl)) pe_int (fun _ _ => rfl)) (pv 2)) (pa_cons (pv 3) pa_nil))) (pg_sub (pv 1) (pe_un un_neg pe_int) set_list))) (pss_one (ps_expr (pe_bm PySem.F.plainAttrs_list PySem.F.slot_list_append PySem.F.type_list_append mt_append (pv 1) (pa_cons (pe_tup (pa_cons (pv 2) (pa_cons (pv 3) pa_nil))) pa_nil)))))))
    (pss_one (ps_ret (pe_callTy call_tuple_of (by rfl) B.tuple (by decide +kernel) (pa_cons (pv 1) pa_nil)))))), ?_⟩
    have hz : p.length ≤ 1000000 := h.len
    refine sv_seq (sv_setL (evl_lst (ea_nil ⟨by decide, ?_⟩)))
    refine sv_seq (sv_for (js := [2] ++ [3]) (ei_list (ev_l (evl_sortLam (evs_ev (ev_var rfl ⟨_, rfl, p.map (fun x => keyP x.2), ?_, keys_of lw, ?_, ?_, _, rfl, fun i δ => ∃ A s2 s3, δ = [.d (.list (encL p)), .l (encL A), s2, s3] ∧ A = ((p.mergeSort leP).take i).foldl joinStep [], ⟨[], _, _, rfl, rfl⟩, ?_, ?_⟩))))))
    · rw [List.length_map, encL_len]
    · intro d hd
      obtain ⟨x, hx, rfl⟩ := List.mem_map.mp hd
      have h1 := keyP_depth x.2
      have h2 := nestL_mem hx
      omega
    · intro i x d hx hd
      obtain ⟨⟨c, q⟩, e, rfl⟩ := encL_get hx
      rw [List.getElem?_map, e] at hd
      cases hd
      have hm := List.mem_of_getElem? e
      have h1 := h.mem hm
      have h2 : nestP q ≤ nestL p := nestL_mem hm
      exact ev_call (ea1 (ev_ix rfl rfl ⟨_, ⟨q, rfl, by omega, h1.1, rfl⟩, rfl⟩))
    · rintro i x δ hx ⟨A, s2, s3, rfl, rfl⟩
      rw [sortBy_items] at hx
      obtain ⟨⟨c, q⟩, e, rfl⟩ := encL_get hx
      have hm : (c, q) ∈ p := (List.mergeSort_perm p leP).mem_iff.mp (List.mem_of_getElem? e)
      have h2 : nestP q ≤ nestL p := nestL_mem hm
      have hi : i < (p.mergeSort leP).length := (List.getElem?_eq_some_iff.mp e).1
      have hlen : (((p.mergeSort leP).take i).foldl joinStep []).length < 1000000 := by
        have z := foldl_join_len ((p.mergeSort leP).take i) []
        rw [List.length_take] at z
        rw [(List.mergeSort_perm p leP).length_eq] at hi z
        simp only [List.length_nil] at z
        omega
      refine gt_pair (gt_name (gt_name ?_))
      refine sv_join (show nestP q ≤ 60 by omega) hlen ⟨_, _, _, rfl, ?_⟩
      rw [List.take_add_one, e]
      simp
    · rintro δ ⟨A, s2, s3, rfl, rfl⟩
      refine sv_ret (ev_tupleS (evs_own rfl ?_))
      rw [sortBy_items, encL_len, List.take_length]
      rfl
end
end G
set_option Elab.async false
set_option linter.all false
set_option maxRecDepth 100000
set_option maxHeartbeats 1000000
/-! the law's forms, pairs, what comes of a pair -/
namespace G
open PySem PySem.Spec L2 LamX NdefX
section
variable {W : Wd} {k : Nat}
theorem k_law_form (B : Bs W.K W.mg) {n : Nat} (h_law_joined : Kp W d_law_joined ["_law_items"] k (rSorted (n + 1))) (h_law_raise : Kp W d_law_raise ["_law_plan_here", "_law_by", "_law_least"] k (rLRaise n)) (h_law_form : Kp W d_law_form ["_law_plan_here"] k (rPlain n)) : Kp W d_law_form ["_law_plan_here"] (k + 1) (rPlain (n + 1)) :=
  def_ok B.t_law_form sc_law_form (by rintro _ _ ⟨p, rfl, _, _, _, _, _, rfl⟩; rfl) fun cdv A outer s H E hr ds y ⟨p, e, hn, h60, sm, it, lw, e2⟩ => by
    subst e e2
    refine ⟨_, (pss_cons (ps_set (i := 1) sc_law_form.nd rfl (Or.inl rfl) (pe_lst pa_nil))
    (pss_cons (ps_for PassesOwn.never rfl (pi_tup (pv 0)) (pg_tupK W.K (n := 2) (by rfl) (pgs_cons (pg_name (i := 2) sc_law_form.nd rfl (Or.inl rfl)) (pgs_cons (pg_name (i := 3) sc_law_form.nd rfl (Or.inl rfl)) pgs_nil))) (pss_cons (ps_if (pt_cmpR (op_eqK W.K (u200 hr)) (pe_ix (ix_tupK W.K) (pv 3) pe_int (fun _ _ => rfl)) pe_str (nomark _)) (pss_one (ps_set (i := 3) sc_law_form.nd rfl (Or.inl rfl) (pe_tup (pa_cons pe_str (pa_cons (pe_ix (ix_tupK W.K) (pv 3) pe_int (fun _ _ => rfl)) (pa_cons (pe_k h_law_form hr rfl B.m_law_form (pa_cons (pe_ix (ix_tupK W.K) (pv 3) pe_int (fun _ _ => rfl)) pa_nil)) pa_nil)))))) pss_nil)
    (pss_cons (ps_if (pt_cmpR (op_eqK W.K (u200 hr)) (pe_ix (ix_tupK W.K) (pv 3) pe_int (fun _ _ => rfl)) pe_str (nomark _)) (pss_cons (ps_set (i := 4) sc_law_form.nd rfl (Or.inl rfl) (pe_k h_law_form hr rfl B.m_law_form (pa_cons (pe_ix (ix_tupK W.K) (pv 3) pe_int (fun _ _ => rfl)) pa_nil)))
    (pss_cons (ps_for PassesOwn.never rfl (pi_tup (pv 4)) (pg_tupK W.K (n := 2) (by rfl) (pgs_cons (pg_name (i := 5) sc_law_form.nd rfl (Or.inl rfl)) (pgs_cons (pg_name (i := 6) sc_law_form.nd rfl (Or.inr rfl)) pgs_nil))) (pss_cons (ps_set (i := 7) sc_law_form.nd rfl (Or.inl rfl) (pe_callTy call_tuple_of (by rfl) B.tuple (by decide +kernel) (pa_cons (pe_lc (own := [("_law_item", 8)]) rfl sc_law_form.nd (pi_tup (pv 4)) (blkOk_by (own := [("_law_item", 8)]) (N := n_law_form) (sc := defScope s_law_form) (by decide +kernel)) (fun _ _ _ _ _ => (pg_name (i := 8) sc_law_form.nd rfl (Or.inl rfl))) (fun _ _ _ _ _ => pts_one (pt_cmpR (op_neK W.K (u200 hr)) (pe_ix (ix_tupK W.K) (pv 8) pe_int (fun _ _ => rfl)) (pv 6) (nomark _))) (fun _ _ _ _ _ => (pv 8))) pa_nil)))
    (pss_one (ps_if (PW.pt (pw_and (pt_cmpR (op_eqK W.K (u200 hr)) (pe_ix (ix_tupK W.K) (pv 6) pe_int (fun _ _ => rfl)) pe_str (nomark _)) (pw_and (pt_cmpR (op_eqK W.K (u200 hr)) (pe_ix (ix_tupK W.K) (pv 6) pe_int (fun _ _ => rfl)) (pe_ix (ix_tupK W.K) (pv 3) pe_int (fun _ _ => rfl)) (nomark _)) (pw_and1 (pt_cmpR (op_eqK W.K (u200 hr)) (pe_ix (ix_tupK W.K) (pv 6) pe_int (fun _ _ => rfl)) (pe_k h_law_raise hr rfl B.m_law_raise (pa_cons (pv 7) (pa_cons pe_int (pa_cons pe_int pa_nil)))) (nomark _)))))) (pss_cons (ps_set (i := 4) sc_law_form.nd rfl (Or.inl rfl) (pv 7))
    (pss_cons (ps_set (i := 2) sc_law_form.nd rfl (Or.inl rfl) (pe_op op_mulB (pv 2) (pe_op op_add (pv 5) pe_int)))
    (pss_one ps_break))) pss_nil))))
    (pss_one (ps_set (i := 3) sc_law_form.nd rfl (Or.inl rfl) (pe_tup (pa_cons pe_str (pa_cons (pe_ix (ix_tupK W.K) (pv 3) pe_int (fun _ _ => rfl)) (pa_cons (pv 4) pa_nil)))))))) pss_nil)
    (pss_one (ps_expr (pe_bm PySem.F.plainAttrs_list PySem.F.slot_list_append PySem.F.type_list_append mt_append (pv 1) (pa_cons (pe_tup (pa_cons (pv 2) (pa_cons (pv 3) pa_nil))) pa_nil)))))))
    (pss_one (ps_ret (pe_k h_law_joined hr rfl B.m_law_joined (pa_cons (pv 1) pa_nil)))))), ?_⟩
    refine sv_seq (sv_setL (evl_lst (ea_nil ⟨by decide, ?_⟩)))
    refine sv_seq (sv_for (js := [2] ++ [3]) (ei_tup (ev_var rfl ⟨_, rfl, fun i δ => ∃ A s2 s3 s4 s5 s6 s7 s8, δ = [.d (enc p), .l (encL A), s2, s3, s4, s5, s6, s7, s8] ∧ A = plainI (p.take i), ⟨[], _, _, _, _, _, _, _, rfl, by simp [plainI]⟩, ?_, ?_⟩)))
    · rintro i x δ hx ⟨A, s2, s3, s4, s5, s6, s7, s8, rfl, eA⟩
      obtain ⟨⟨c, q⟩, e, rfl⟩ := encL_get hx
      have hm := List.mem_of_getElem? e
      have h2 : nestP q ≤ nestL p := nestL_mem hm
      have et := plainI_take e
      rw [← eA] at et
      have lA : A.length < 1000000 := by
        have := plainI_len (p.take i)
        rw [← eA, List.length_take] at this
        have := len_le_items p
        omega
      have sq := (sm.mem hm).1
      have lq : lowP q := lowL_mem lw hm
      have si : itemsP q + 1 ≤ itemsL p := itemsL_mem hm
      have fin : ∀ {P : Po} {c' : Int} {r : Part} {s4 s5 s6 s7 s8 : Sl}, P.nx [.d (enc p), .l (encL (A ++ [(c', r)])), .d (.int c'), .d (encP r), s4, s5, s6, s7, s8] → Sv W.T none (tDrop (tBM W.K "list" rAppend (tVar 1) (tCons (tTup (tCons (tVar 2) (tCons (tVar 3) tNil))) tNil))) [.d (enc p), .l (encL A), .d (.int c'), .d (encP r), s4, s5, s6, s7, s8] P := fun {P c' r s4 s5 s6 s7 s8} h => by
        refine sv_append rfl (by rw [encL_len]; exact lA) (ev_tup (ea2 (ev_var rfl (ev_var rfl ⟨(by show 2 ≤ 1000000; decide), ?_⟩))))
        rw [encL_snoc] at h
        exact h
      refine gt_pair (gt_name (gt_name ?_))
      cases q with
      | name w =>
        refine sv_seq (sv_ifF (et_kind (p := .name w) rfl (kf (a := "name") rfl (by decide))) (sv_next ?_))
        refine sv_seq (sv_ifF (et_kind (p := .name w) rfl (kf (a := "name") rfl (by decide))) (sv_next ?_))
        exact fin (c' := c) (r := .name w) ⟨_, _, _, _, _, _, _, _, rfl, by rw [et]; simp [plainP]⟩
      | got w =>
        refine sv_seq (sv_ifF (et_kind (p := .got w) rfl (kf (a := "got") rfl (by decide))) (sv_next ?_))
        refine sv_seq (sv_ifF (et_kind (p := .got w) rfl (kf (a := "got") rfl (by decide))) (sv_next ?_))
        exact fin (c' := c) (r := .got w) ⟨_, _, _, _, _, _, _, _, rfl, by rw [et]; simp [plainP]⟩
      | nest kd d b =>
        have sb := sq.body
        simp only [nestP] at h2
        simp only [itemsP] at si
        simp only [lowP] at lq
        cases kd with
        | false =>
          refine sv_seq (sv_ifT (et_kind (p := .nest false d b) rfl rfl) ?_)
          simp only [encP]
          refine sv_set (ev_tup (ea3 (ev_str (ev_ix rfl rfl (ev_call (ea1 (ev_ix rfl rfl ⟨_, ⟨b, rfl, by omega, by omega, sb, by omega, lq.2, rfl⟩, (by show 3 ≤ 1000000; decide), ?_⟩)))))))
          rw [show PyData.tuple [.str "letter", .str (chr d), enc (plain b)] = encP (.nest false d (plain b)) by simp [encP, kindS]]
          refine sv_seq (sv_ifF (et_kind (p := .nest false d (plain b)) rfl (kf (a := "letter") rfl (by decide))) (sv_next ?_))
          exact fin (c' := c) (r := .nest false d (plain b)) ⟨_, _, _, _, _, _, _, _, rfl, by rw [et]; simp [plainP, plain]⟩
        | true =>
          have mn := sq.many
          have cc := sm.cnt hm
          have nb := plain_nest b
          have ib := plain_items b
          have e6 : plainP (.nest true d b) = ((fold d (plain b)).1, .nest true d (fold d (plain b)).2) := by simp [plainP, plain]
          rw [e6] at mn et
          simp only at mn et
          have inc := plain_inc b
          have sp := sb.plain
          refine sv_seq (sv_ifF (et_kind (p := .nest true d b) rfl (kf (a := "wait") rfl (by decide))) (sv_next ?_))
          refine sv_seq (sv_ifT (et_kind (p := .nest true d b) rfl rfl) ?_)
          simp only [encP]
          refine sv_seq (sv_set (ev_call (ea1 (ev_ix rfl rfl ⟨_, ⟨b, rfl, by omega, by omega, sb, by omega, lq.2, rfl⟩, ?_⟩))))
          refine sv_seq (sv_for (js := [5] ++ [6]) (ei_tup (ev_var rfl ⟨_, rfl, fun i δ => ∃ s5 s6 s7 s8, δ = [.d (enc p), .l (encL A), .d (.int c), .d (.tuple [.str "wait", .str (chr d), .tuple (encL b)]), .d (enc (plain b)), s5, s6, s7, s8] ∧ foldAt d [] (plain b) = foldAt d ((plain b).take i) ((plain b).drop i), ⟨_, _, _, _, rfl, by simp⟩, ?_, ?_⟩)))
          · rintro j y δ hy ⟨t5, t6, t7, t8, rfl, ef⟩
            obtain ⟨⟨m, r⟩, e9, rfl⟩ := encL_get hy
            have hj : j < (plain b).length := (List.getElem?_eq_some_iff.mp e9).1
            have ed : (plain b).drop j = (m, r) :: (plain b).drop (j + 1) := by
              rw [List.drop_eq_getElem_cons hj]
              congr 1
              exact Option.some.inj ((List.getElem?_eq_getElem hj).symm.trans e9)
            have et2 := take_succ' e9
            have hm2 := List.mem_of_getElem? e9
            have h3 : nestP r ≤ nestL (plain b) := nestL_mem hm2
            have eo : others (plain b) r = (plain b).take j ++ (plain b).drop (j + 1) := others_inc inc e9
            have go : r ≠ .nest true d (raiseL 1 1 (others (plain b) r)) → foldAt d [] (plain b) = foldAt d ((plain b).take (j + 1)) ((plain b).drop (j + 1)) := fun z => by
              rw [eo] at z
              rw [ef, ed, et2]
              simp only [foldAt, if_neg z]
            have su := sub_out (plain b) j
            have sr := sp.sub su
            have hns : nestL (others (plain b) r) ≤ nestL (plain b) := by rw [eo]; exact nestL_sub fun x hx => su.subset hx
            have his : itemsL (others (plain b) r) ≤ itemsL (plain b) := by rw [eo]; exact itemsL_sub su
            refine gt_pair (gt_name (gt_name ?_))
            refine sv_seq (sv_set (ev_tupleS (evs_l (evl_lcM (js := [8]) (by simp) (ei_tup (ev_var rfl ⟨_, rfl, plain b, encI, (fun x => if x.2 ≠ r then some (encI x) else none), encL_map _, sp.len, ?_, ?_⟩))))))
            · rintro ⟨c2, q2⟩ h4
              have h5 : nestP q2 ≤ nestL (plain b) := nestL_mem h4
              refine gt_name ((?_ : EvT _ _ _ _ (· = decide (q2 ≠ r))).imp fun bb eb => ⟨fun z => ⟨encI (c2, q2), ?_, ev_var rfl rfl⟩, fun z => ?_⟩)
              · exact et_TE (ev_op (ev_ix rfl rfl (ev_var rfl (rv_neP (.inl (show nestP q2 ≤ 60 by omega)) (by simp)))))
              · rw [eb] at z
                have := of_decide_eq_true z
                simp [this]
              · rw [eb] at z
                have := of_decide_eq_false z
                simp at this
                simp [this]
            have eoth : (plain b).filterMap (fun x => if x.2 ≠ r then some (encI x) else none) = encL (others (plain b) r) := by
              rw [encL_map]
              unfold others
              induction plain b with
              | nil => rfl
              | cons x l ih =>
                rw [List.filterMap_cons, List.filter_cons]
                by_cases z : x.2 ≠ r
                · simp only [if_pos z, decide_eq_true z, List.map_cons, ih, if_true]
                · simp only [if_neg z, decide_eq_false z, ih]
                  rfl
            rw [eoth]
            have no : ∀ {P : Po} {us : TS} {δ : List Sl} {t : TT}, EvT W.T none t δ (· = false) → P.nx δ → Sv W.T none (tIfS t us tNext) δ P := fun h1 h2 => sv_ifF h1 (sv_next h2)
            cases r with
            | name w => exact no (et_and1 (et_kind (p := .name w) rfl (kf (a := "name") rfl (by decide)))) ⟨_, _, _, _, rfl, go (fun z => by cases z)⟩
            | got w => exact no (et_and1 (et_kind (p := .got w) rfl (kf (a := "got") rfl (by decide)))) ⟨_, _, _, _, rfl, go (fun z => by cases z)⟩
            | nest kd d' b' =>
              simp only [nestP] at h3
              cases kd with
              | false => exact no (et_and1 (et_kind (p := .nest false d' b') rfl (kf (a := "letter") rfl (by decide)))) ⟨_, _, _, _, rfl, go (fun z => by cases z)⟩
              | true =>
                generalize eoth' : others (plain b) (.nest true d' b') = oth at *
                refine sv_ifP (d' = d ∧ b' = raiseL 1 1 oth) ((et_andB (a := true) (b := decide (d' = d ∧ b' = raiseL 1 1 oth)) (et_kind (p := .nest true d' b') rfl rfl) fun _ => (et_andB (a := decide (d' = d)) (b := decide (b' = raiseL 1 1 oth)) (et_TE ?_) fun _ => et_TE ?_).imp fun b e => by rw [e]; simp).imp fun b e => by rw [e]; rfl) (fun z => ?_) fun z => ?_
                · simp only [encP]
                  exact ev_op (ev_ix rfl rfl (ev_ix rfl rfl (rv_eqS (by rw [chr_eq]))))
                · simp only [encP]
                  exact ev_op (ev_ix rfl rfl (ev_call (ea3 (ev_var rfl (ev_int (ev_int ⟨_, ⟨oth, 1, 1, rfl, by omega, by omega, rfl⟩, rv_eqL (.inl (by omega)) rfl⟩))))))
                · obtain ⟨z1, z2⟩ := z
                  subst z1
                  have e10 : fold d' (plain b) = (m + 1, oth) := by
                    unfold fold
                    rw [ef, ed]
                    simp only [foldAt]
                    rw [← eo, if_pos (by rw [z2])]
                    rfl
                  rw [e10] at mn et
                  refine sv_seq (sv_set (ev_var rfl ?_))
                  refine sv_seq (sv_set (ev_op (ev_var rfl (ev_op (ev_var rfl (ev_int (rv_i0 (rv_i (cc.mul mn) ?_))))))))
                  refine sv_brk ?_
                  refine sv_set (ev_tup (ea3 (ev_str (ev_ix rfl rfl (ev_var rfl ⟨(by show 3 ≤ 1000000; decide), ?_⟩)))))
                  rw [show PyData.tuple [.str "wait", .str (chr d'), enc oth] = encP (.nest true d' oth) by simp [encP, kindS]]
                  exact fin (c' := c * (m + 1)) (r := .nest true d' oth) ⟨_, _, _, _, _, _, _, _, rfl, by rw [et]⟩
                · exact sv_next ⟨_, _, _, _, rfl, go (fun y => by
                    injection y with y1 y2 y3
                    exact z ⟨y2, y3⟩)⟩
          · rintro δ ⟨t5, t6, t7, t8, rfl, ef⟩
            rw [encL_len, List.take_length, List.drop_length] at ef
            have e10 : fold d (plain b) = (1, plain b) := by
              unfold fold
              rw [ef]
              rfl
            rw [e10] at et
            refine sv_set (ev_tup (ea3 (ev_str (ev_ix rfl rfl (ev_var rfl ⟨(by show 3 ≤ 1000000; decide), ?_⟩)))))
            rw [show PyData.tuple [.str "wait", .str (chr d), enc (plain b)] = encP (.nest true d (plain b)) by simp [encP, kindS]]
            exact fin (c' := c) (r := .nest true d (plain b)) ⟨_, _, _, _, _, _, _, _, rfl, by rw [et]; simp⟩
    · rintro δ ⟨A, s2, s3, s4, s5, s6, s7, s8, rfl, eA⟩
      rw [encL_len, List.take_length] at eA
      subst eA
      have np := plainI_nest p
      exact sv_freeze 1 rfl (sv_ret (ev_call (ea1 (ev_var rfl ⟨_, ⟨plainI p, rfl, by omega, by omega, sm.plainI, plainI_low p lw, rfl⟩, rfl⟩))))
end
end G
set_option Elab.async false
set_option linter.all false
set_option maxRecDepth 100000
set_option maxHeartbeats 1000000
/-! pairs, what comes of a pair, by the law -/
namespace G
open PySem PySem.Spec L2 LamX NdefX
section
variable {W : Wd} {k : Nat}
theorem k_law_without (B : Bs W.K W.mg) : Kp W d_law_without ["_law_form_here", "_law_part_here"] (k + 1) rWithout :=
  def_ok B.t_law_without sc_law_without (by rintro _ _ ⟨p, q, rfl, _, _, rfl⟩; rfl) fun cdv A outer s H E hr ds y ⟨p, q, e, h60, it, e2⟩ => by
    subst e e2
    refine ⟨_, (pss_cons (ps_set (i := 2) sc_law_without.nd rfl (Or.inl rfl) (pe_lst pa_nil))
    (pss_cons (ps_for PassesOwn.never rfl (pi_tup (pv 0)) (pg_tupK W.K (n := 2) (by rfl) (pgs_cons (pg_name (i := 3) sc_law_without.nd rfl (Or.inl rfl)) (pgs_cons (pg_name (i := 4) sc_law_without.nd rfl (Or.inl rfl)) pgs_nil))) (pss_one (ps_if (pt_cmpR (op_neK W.K (u200 hr)) (pv 4) (pv 1) (nomark _)) (pss_one (ps_expr (pe_bm PySem.F.plainAttrs_list PySem.F.slot_list_append PySem.F.type_list_append mt_append (pv 2) (pa_cons (pe_tup (pa_cons (pv 3) (pa_cons (pv 4) pa_nil))) pa_nil)))) (pss_one (ps_if (pt_cmpR op_gt (pv 3) pe_int (nomark _)) (pss_one (ps_expr (pe_bm PySem.F.plainAttrs_list PySem.F.slot_list_append PySem.F.type_list_append mt_append (pv 2) (pa_cons (pe_tup (pa_cons (pe_op op_sub (pv 3) pe_int) (pa_cons (pv 4) pa_nil))) pa_nil)))) pss_nil)))))
    (pss_one (ps_ret (pe_callTy call_tuple_of (by rfl) B.tuple (by decide +kernel) (pa_cons (pv 2) pa_nil)))))), ?_⟩
    have lp := len_le_items p
    refine sv_seq (sv_setL (evl_lst (ea_nil ⟨by decide, ?_⟩)))
    refine sv_seq (sv_for (js := [3] ++ [4]) (ei_tup (ev_var rfl ⟨_, rfl, fun i δ => ∃ A s3 s4, δ = [.d (enc p), .d (encP q), .l (encL A), s3, s4] ∧ A = without (p.take i) q, ⟨[], _, _, rfl, rfl⟩, ?_, ?_⟩)))
    · rintro i x δ hx ⟨A, s3, s4, rfl, eA⟩
      obtain ⟨⟨c, r⟩, e, rfl⟩ := encL_get hx
      have hm := List.mem_of_getElem? e
      have h2 : nestP r ≤ nestL p := nestL_mem hm
      have et := take_succ' e
      have ew : without (p.take (i + 1)) q = A ++ (match wasO q (c, r) with | some y => [y] | none => []) := by
        rw [et, without_eq, List.filterMap_append, ← without_eq, eA]
        congr 1
        cases h : wasO q (c, r) <;> simp [h]
      have lA : A.length < 1000000 := by
        rw [eA]
        have := List.length_filterMap_le (wasO q) (p.take i)
        rw [← without_eq, List.length_take] at this
        omega
      refine gt_pair (gt_name (gt_name ?_))
      refine sv_ifP (r ≠ q) (et_TE (ev_op (ev_var rfl (ev_var rfl (rv_neP (.inl (show nestP r ≤ 60 by omega)) (by simp)))))) (fun z => ?_) fun z => ?_
      · refine sv_append rfl (by rw [encL_len]; exact lA) (ev_tup (ea2 (ev_var rfl (ev_var rfl ⟨(by show 2 ≤ 1000000; decide), ?_⟩))))
        have e3 : wasO q (c, r) = some (c, r) := by simp [wasO, z]
        rw [e3] at ew
        exact ⟨A ++ [(c, r)], _, _, by rw [encL_snoc]; rfl, ew.symm⟩
      · have z' : r = q := Classical.byContradiction z
        subst z'
        refine sv_ifP (1 < c) (et_TE (ev_op (ev_var rfl (ev_int (rv_b0 rfl))))) (fun y => ?_) fun y => ?_
        · refine sv_append rfl (by rw [encL_len]; exact lA) (ev_tup (ea2 (ev_op (ev_var rfl (ev_int (rv_i0 (ev_var rfl ⟨(by show 2 ≤ 1000000; decide), ?_⟩)))))))
          have e3 : wasO r (c, r) = some (c - 1, r) := by simp [wasO, y]
          rw [e3] at ew
          exact ⟨A ++ [(c - 1, r)], _, _, by rw [encL_snoc]; rfl, ew.symm⟩
        · have e3 : wasO r (c, r) = none := by simp [wasO, y]
          rw [e3] at ew
          simp only [List.append_nil] at ew
          exact sv_next ⟨A, _, _, rfl, ew.symm⟩
    · rintro δ ⟨A, s3, s4, rfl, eA⟩
      refine sv_ret (ev_tupleS (evs_own rfl ?_))
      rw [eA, encL_len, List.take_length]
theorem et_kindS {T : List (Addr × Str)} {ta : Option Addr} {δ : List Sl} {K : PySem.W.Frag} {i : Nat} {p : Part} {s : Str} (e : δ[i]? = some (.d (encP p))) (ok : PyData.strOk s = true := by decide +kernel) :
    EvT T ta (tTest (tOp (rEqA K) (tOp (rIxT K) (tVar i) (tC (.int 0))) (tC (.str s)))) δ (· = decide (kindOf p = s)) := et_kind e rfl ok
theorem meets_kinds (p q : Part) : meets p q = (decide (kindOf p = "letter") && (decide (kindOf q = "wait") && match p, q with | .nest _ d _, .nest _ e _ => decide (d = e) | _, _ => false)) := by
  have k1 : ∀ w, decide (kindOf (.name w) = "letter") = false := fun w => kf (a := "name") rfl (by decide)
  have k2 : ∀ w, decide (kindOf (.got w) = "letter") = false := fun w => kf (a := "got") rfl (by decide)
  have k3 : ∀ d b, decide (kindOf (.nest true d b) = "letter") = false := fun d b => kf (a := "wait") rfl (by decide)
  have k4 : ∀ d b, decide (kindOf (.nest false d b) = "letter") = true := fun d b => decide_eq_true rfl
  have k5 : ∀ w, decide (kindOf (.name w) = "wait") = false := fun w => kf (a := "name") rfl (by decide)
  have k6 : ∀ w, decide (kindOf (.got w) = "wait") = false := fun w => kf (a := "got") rfl (by decide)
  have k7 : ∀ d b, decide (kindOf (.nest true d b) = "wait") = true := fun d b => decide_eq_true rfl
  have k8 : ∀ d b, decide (kindOf (.nest false d b) = "wait") = false := fun d b => kf (a := "letter") rfl (by decide)
  cases p with
  | name w => rw [k1]; rfl
  | got w => rw [k2]; rfl
  | nest kd d b =>
    cases kd with
    | true => rw [k3]; rfl
    | false =>
      rw [k4]
      cases q with
      | name w => rw [k5]; rfl
      | got w => rw [k6]; rfl
      | nest k' d' b' =>
        cases k' with
        | true => rw [k7]; simp only [meets, Bool.true_and]; by_cases h : d = d' <;> simp [h]
        | false => rw [k8]; rfl
theorem k_law_pairs (B : Bs W.K W.mg) : Kp W d_law_pairs ["_law_form_here"] (k + 1) rMeetOf :=
  def_ok B.t_law_pairs sc_law_pairs (by rintro _ _ ⟨p, rfl, _, _, rfl⟩; rfl) fun cdv A outer s H E hr ds y ⟨p, e, lp, h60, e2⟩ => by
    subst e e2
    refine ⟨_, (pss_cons (ps_set (i := 1) sc_law_pairs.nd rfl (Or.inl rfl) (pe_lst pa_nil))
    (pss_cons (ps_for PassesOwn.never rfl (pi_tup (pv 0)) (pg_tupK W.K (n := 2) (by rfl) (pgs_cons (pg_name (i := 2) sc_law_pairs.nd rfl (Or.inl rfl)) (pgs_cons (pg_name (i := 3) sc_law_pairs.nd rfl (Or.inl rfl)) pgs_nil))) (pss_one (ps_for PassesOwn.never rfl (pi_tup (pv 0)) (pg_tupK W.K (n := 2) (by rfl) (pgs_cons (pg_name (i := 4) sc_law_pairs.nd rfl (Or.inl rfl)) (pgs_cons (pg_name (i := 5) sc_law_pairs.nd rfl (Or.inl rfl)) pgs_nil))) (pss_one (ps_if (PW.pt (pw_and (pt_cmpR (op_eqK W.K (u200 hr)) (pe_ix (ix_tupK W.K) (pv 3) pe_int (fun _ _ => rfl)) pe_str (nomark _)) (pw_and (pt_cmpR (op_eqK W.K (u200 hr)) (pe_ix (ix_tupK W.K) (pv 5) pe_int (fun _ _ => rfl)) pe_str (nomark _)) (pw_and1 (pt_cmpR (op_eqK W.K (u200 hr)) (pe_ix (ix_tupK W.K) (pv 3) pe_int (fun _ _ => rfl)) (pe_ix (ix_tupK W.K) (pv 5) pe_int (fun _ _ => rfl)) (nomark _)))))) (pss_one (ps_expr (pe_bm PySem.F.plainAttrs_list PySem.F.slot_list_append PySem.F.type_list_append mt_append (pv 1) (pa_cons (pe_tup (pa_cons (pv 3) (pa_cons (pv 5) pa_nil))) pa_nil)))) pss_nil)))))
    (pss_one (ps_ret (pv 1))))), ?_⟩
    refine sv_seq (sv_setL (evl_lst (ea_nil ⟨by decide, ?_⟩)))
    refine sv_seq (sv_for (js := [2] ++ [3]) (ei_tup (ev_var rfl ⟨_, rfl, fun i δ => ∃ A s2 s3 s4 s5, δ = [.d (enc p), .l (A.map encPair), s2, s3, s4, s5] ∧ A = pairsTo p (p.take i), ⟨[], _, _, _, _, rfl, rfl⟩, ?_, ?_⟩)))
    · rintro i x δ hx ⟨A, s2, s3, s4, s5, rfl, eA⟩
      obtain ⟨⟨c, r⟩, e, rfl⟩ := encL_get hx
      have ep : pairsTo p (p.take (i + 1)) = A ++ p.filterMap (waitsFor (c, r)) := by rw [take_succ' e, pairsTo_snoc, eA]
      have lA : A.length ≤ 900 * 900 := by
        rw [eA]
        refine Nat.le_trans (pairsTo_len _ _) (Nat.mul_le_mul ?_ lp)
        rw [List.length_take]
        omega
      refine gt_pair (gt_name (gt_name ?_))
      refine sv_for (js := [4] ++ [5]) (ei_tup (ev_var rfl ⟨_, rfl, fun j δ => ∃ A' s4 s5, δ = [.d (enc p), .l (A'.map encPair), .d (.int c), .d (encP r), s4, s5] ∧ A' = A ++ (p.take j).filterMap (waitsFor (c, r)), ⟨A, _, _, rfl, by simp⟩, ?_, ?_⟩))
      · rintro j y δ hy ⟨A', t4, t5, rfl, eA'⟩
        obtain ⟨⟨c2, r2⟩, e9, rfl⟩ := encL_get hy
        have ep2 : A ++ (p.take (j + 1)).filterMap (waitsFor (c, r)) = A' ++ (match waitsFor (c, r) (c2, r2) with | some z => [z] | none => []) := by
          rw [take_succ' e9, List.filterMap_append, eA', List.append_assoc]
          congr 2
          cases h : waitsFor (c, r) (c2, r2) <;> simp [h]
        have lA' : A'.length < 1000000 := by
          rw [eA', List.length_append]
          have := List.length_filterMap_le (waitsFor (c, r)) (p.take j)
          rw [List.length_take] at this
          omega
        refine gt_pair (gt_name (gt_name ?_))
        refine sv_ifP (meets r r2 = true) ((et_andB (et_kindS rfl) fun h1 => et_andB (b := match r, r2 with | .nest _ d _, .nest _ e _ => decide (d = e) | _, _ => false) (et_kindS rfl) fun h2 => et_TE ?_).imp fun b e => by rw [e, ← meets_kinds]; cases meets r r2 <;> rfl) (fun z => ?_) fun z => ?_
        · have g1 := of_decide_eq_true h1
          have g2 := of_decide_eq_true h2
          cases r with
          | name w => exact absurd g1 (by show ¬ ("name" : Str) = "letter"; decide)
          | got w => exact absurd g1 (by show ¬ ("got" : Str) = "letter"; decide)
          | nest k1 d1 b1 =>
            cases r2 with
            | name w => exact absurd g2 (by show ¬ ("name" : Str) = "wait"; decide)
            | got w => exact absurd g2 (by show ¬ ("got" : Str) = "wait"; decide)
            | nest k2 d2 b2 =>
              simp only [encP]
              exact ev_op (ev_ix rfl rfl (ev_ix rfl rfl (rv_eqS (by rw [chr_eq]))))
        · have e3 : waitsFor (c, r) (c2, r2) = some (r, r2) := by simp [waitsFor, z]
          rw [e3] at ep2
          refine sv_append rfl (by rw [List.length_map]; exact lA') (ev_tup (ea2 (ev_var rfl (ev_var rfl ⟨(by show 2 ≤ 1000000; decide), ?_⟩))))
          exact ⟨A' ++ [(r, r2)], _, _, by rw [List.map_append]; rfl, ep2.symm⟩
        · have e3 : waitsFor (c, r) (c2, r2) = none := by simp [waitsFor, z]
          rw [e3] at ep2
          simp only [List.append_nil] at ep2
          exact sv_next ⟨A', _, _, rfl, ep2.symm⟩
      · rintro δ ⟨A', t4, t5, rfl, eA'⟩
        rw [encL_len, List.take_length] at eA'
        exact ⟨A', _, _, _, _, rfl, by rw [ep, eA']⟩
    · rintro δ ⟨A, s2, s3, s4, s5, rfl, eA⟩
      rw [encL_len, List.take_length, ← pairsOf_to] at eA
      subst eA
      exact sv_freeze 1 rfl (sv_ret (ev_var rfl rfl))
def rLBrought (n : Nat) : List D → D → Prop := fun ds y => ∃ p m o, ds = [enc p, .int m, enc o] ∧ nestL p < n ∧ nestL p ≤ 60 ∧ SmL p ∧ SmL o ∧ itemsL (mapL (bring0 o) m p) ≤ 900000 ∧ y = enc (mapL (bring0 o) m p)
theorem k_law_brought (B : Bs W.K W.mg) {n : Nat} (h_law_brought : Kp W d_law_brought ["_law_plan_here", "_law_depth", "_law_other"] k (rLBrought n)) : Kp W d_law_brought ["_law_plan_here", "_law_depth", "_law_other"] (k + 1) (rLBrought (n + 1)) :=
  def_ok B.t_law_brought sc_law_brought (by rintro _ _ ⟨p, m, o, rfl, _⟩; rfl) fun cdv A outer s H E hr ds y ⟨p, m, o, e, hn, h60, sm, so, it, e2⟩ => by
    subst e e2
    refine ⟨_, (pss_cons (ps_set (i := 3) sc_law_brought.nd rfl (Or.inl rfl) (pe_lst pa_nil))
    (pss_cons (ps_for PassesOwn.never rfl (pi_tup (pv 0)) (pg_tupK W.K (n := 2) (by rfl) (pgs_cons (pg_name (i := 4) sc_law_brought.nd rfl (Or.inr rfl)) (pgs_cons (pg_name (i := 5) sc_law_brought.nd rfl (Or.inl rfl)) pgs_nil))) (pss_one (ps_if (pt_cmpR (op_eqK W.K (u200 hr)) (pv 5) (pe_tup (pa_cons pe_str (pa_cons (pv 1) pa_nil))) (nomark _)) (pss_one (ps_set (i := 3) sc_law_brought.nd rfl (Or.inl rfl) (pe_op op_cat (pv 3) (pe_lc (own := [("_law_many", 6), ("_law_one", 7)]) rfl sc_law_brought.nd (pi_tup (pv 2)) (blkOk_by (own := [("_law_many", 6), ("_law_one", 7)]) (N := n_law_brought) (sc := defScope s_law_brought) (by decide +kernel)) (fun _ _ _ _ _ => (pg_tupK W.K (n := 2) (by rfl) (pgs_cons (pg_name (i := 6) sc_law_brought.nd rfl (Or.inl rfl)) (pgs_cons (pg_name (i := 7) sc_law_brought.nd rfl (Or.inl rfl)) pgs_nil)))) (fun _ _ _ _ _ => pts_nil) (fun _ _ _ _ _ => (pe_tup (pa_cons (pe_op op_mulB (pv 4) (pv 6)) (pa_cons (pv 7) pa_nil)))))))) (pss_one (ps_if (PW.pt (pw_and (pt_cmpR (op_eqK W.K (u200 hr)) (pe_ix (ix_tupK W.K) (pv 5) pe_int (fun _ _ => rfl)) pe_str (nomark _)) (pw_and1 (pt_cmpR op_gt (pe_ix (ix_tupK W.K) (pv 5) pe_int (fun _ _ => rfl)) (pv 1) (nomark _))))) (pss_one (ps_expr (pe_bm PySem.F.plainAttrs_list PySem.F.slot_list_append PySem.F.type_list_append mt_append (pv 3) (pa_cons (pe_tup (pa_cons (pv 4) (pa_cons (pe_tup (pa_cons pe_str (pa_cons (pe_op op_sub (pe_ix (ix_tupK W.K) (pv 5) pe_int (fun _ _ => rfl)) pe_int) pa_nil))) pa_nil))) pa_nil)))) (pss_one (ps_if (pt_cmpR (op_eqK W.K (u200 hr)) (pe_ix (ix_tupK W.K) (pv 5) pe_int (fun _ _ => rfl)) pe_str (nomark _)) (pss_one (ps_expr (pe_bm PySem.F.plainAttrs_list PySem.F.slot_list_append PySem.F.type_list_append mt_append (pv 3) (pa_cons (pe_tup (pa_cons (pv 4) (pa_cons (pe_tup (pa_cons pe_str (pa_cons (pe_ix (ix_tupK W.K) (pv 5) pe_int (fun _ _ => rfl)) (pa_cons (pe_k h_law_brought hr rfl B.m_law_brought (pa_cons (pe_ix (ix_tupK W.K) (pv 5) pe_int (fun _ _ => rfl)) (pa_cons (pv 1) (pa_cons (pv 2) pa_nil)))) pa_nil)))) pa_nil))) pa_nil)))) (pss_one (ps_if (pt_cmpR (op_eqK W.K (u200 hr)) (pe_ix (ix_tupK W.K) (pv 5) pe_int (fun _ _ => rfl)) pe_str (nomark _)) (pss_one (ps_expr (pe_bm PySem.F.plainAttrs_list PySem.F.slot_list_append PySem.F.type_list_append mt_append (pv 3) (pa_cons (pe_tup (pa_cons (pv 4) (pa_cons (pe_tup (pa_cons pe_str (pa_cons (pe_ix (ix_tupK W.K) (pv 5) pe_int (fun _ _ => rfl)) (pa_cons (pe_k h_law_brought hr rfl B.m_law_brought (pa_cons (pe_ix (ix_tupK W.K) (pv 5) pe_int (fun _ _ => rfl)) (pa_cons (pe_op op_add (pv 1) pe_int) (pa_cons (pv 2) pa_nil)))) pa_nil)))) pa_nil))) pa_nil)))) (pss_one (ps_expr (pe_bm PySem.F.plainAttrs_list PySem.F.slot_list_append PySem.F.type_list_append mt_append (pv 3) (pa_cons (pe_tup (pa_cons (pv 4) (pa_cons (pv 5) pa_nil))) pa_nil)))))))))))))
    (pss_one (ps_ret (pe_callTy call_tuple_of (by rfl) B.tuple (by decide +kernel) (pa_cons (pv 3) pa_nil)))))), ?_⟩
    refine sv_seq (sv_setL (evl_lst (ea_nil ⟨by decide, ?_⟩)))
    refine sv_seq (sv_for (js := [4] ++ [5]) (ei_tup (ev_var rfl ⟨_, rfl, fun i δ => ∃ A s4 s5 s6 s7, δ = [.d (enc p), .d (.int m), .d (enc o), .l (encL A), s4, s5, s6, s7] ∧ A = mapL (bring0 o) m (p.take i), ⟨[], _, _, _, _, rfl, by simp [mapL]⟩, ?_, ?_⟩)))
    · rintro i x δ hx ⟨A, s4, s5, s6, s7, rfl, eA⟩
      obtain ⟨⟨c, q⟩, e, rfl⟩ := encL_get hx
      have hm := List.mem_of_getElem? e
      have h2 : nestP q ≤ nestL p := nestL_mem hm
      have et := mapL_take (act := bring0 o) (m := m) e
      have li := mapL_part (bring0 o) m p (i + 1)
      have lA : A.length ≤ itemsL A := len_le_items A
      rw [← eA] at et
      have li2 := li
      rw [et, itemsL_append, itemsL_scale] at li2
      have lA1 : A.length < 1000000 := by omega
      have fin : ∀ {P : Po} {te : TE} {r : Part} {s6 s7 : Sl}, scale c (mapP (bring0 o) m q) = [(c, r)] → Ev W.T none te [.d (enc p), .d (.int m), .d (enc o), .l (encL A), .d (.int c), .d (encP q), s6, s7] (· = encP r) → P.nx [.d (enc p), .d (.int m), .d (enc o), .l (encL (A ++ [(c, r)])), .d (.int c), .d (encP q), s6, s7] → Sv W.T none (tDrop (tBM W.K "list" rAppend (tVar 3) (tCons (tTup (tCons (tVar 4) (tCons te tNil))) tNil))) [.d (enc p), .d (.int m), .d (enc o), .l (encL A), .d (.int c), .d (encP q), s6, s7] P := fun {P te r s6 s7} _ he h => by
        refine sv_append rfl (by rw [encL_len]; exact lA1) (ev_tup (ea2 (ev_var rfl (he.imp fun d ed => ⟨(by show 2 ≤ 1000000; decide), ?_⟩))))
        subst ed
        rw [encL_snoc] at h
        exact h
      refine gt_pair (gt_name (gt_name ?_))
      refine sv_ifP (q = .got m) (et_TE (ev_op (ev_var rfl (ev_tup (ea2 (ev_str (ev_var rfl ⟨(by show 2 ≤ 1000000; decide), ?_⟩))))))) (fun z => ?_) fun z => ?_
      · have e7 : PyData.tuple [.str "got", .int m] = encP (.got m) := by simp [encP]
        rw [e7]
        exact rv_eqP (.inl (show nestP q ≤ 60 by omega)) rfl
      · subst z
        have em : mapP (bring0 o) m (.got m) = o := by simp [mapP, bring0]
        rw [em] at et li2
        have lo := len_le_items o
        have cc := sm.cnt hm
        refine sv_setL (evl_cat (evs_own rfl (evs_l (evl_lcM (js := [6] ++ [7]) (by simp) (ei_tup (ev_var rfl ⟨_, rfl, o, encI, fun x => some (.tuple [.int (c * x.1), encP x.2]), encL_map _, so.len, ?_, ?_, ?_⟩))))))
        · rintro ⟨c2, q2⟩ h3
          exact turn2 (ev_tup (ea2 (ev_op (ev_var rfl (ev_var rfl (rv_i (cc.mul (so.cnt h3)) (ev_var rfl ⟨(by show 2 ≤ 1000000; decide), rfl⟩)))))))
        · rw [← encL_scale, encL_len, encL_len]
          unfold scale
          rw [List.length_map]
          omega
        · rw [← encL_scale, ← encL_append, ← et]
          exact ⟨_, _, _, _, _, rfl, rfl⟩
      · cases q with
        | name w =>
          refine sv_ifF (et_and1 (et_kind (p := .name w) rfl (kf (a := "name") rfl (by decide)))) ?_
          refine sv_ifF (et_kind (p := .name w) rfl (kf (a := "name") rfl (by decide))) ?_
          refine sv_ifF (et_kind (p := .name w) rfl (kf (a := "name") rfl (by decide))) ?_
          have em : scale c (mapP (bring0 o) m (.name w)) = [(c, .name w)] := by simp [mapP, bring0, scale]
          exact fin em (ev_var rfl rfl) ⟨_, _, _, _, _, rfl, by rw [et, em]⟩
        | got w =>
          have wm : w ≠ m := fun y => z (by rw [y])
          refine sv_ifP (m < w) ((et_andB (a := true) (b := decide (m < w)) (et_kind (p := .got w) rfl rfl) fun _ => et_TE ?_).imp fun b e => by rw [e]; rfl) (fun y => ?_) fun y => ?_
          · simp only [encP]
            exact ev_op (ev_ix rfl rfl (ev_var rfl (rv_b0 rfl)))
          · have em : scale c (mapP (bring0 o) m (.got w)) = [(c, .got (w - 1))] := by simp [mapP, bring0, scale, wm, y]
            refine fin em ?_ ⟨_, _, _, _, _, rfl, by rw [et, em]⟩
            simp only [encP]
            exact ev_tup (ea2 (ev_str (ev_op (ev_ix rfl rfl (ev_int (rv_i0 ⟨(by show 2 ≤ 1000000; decide), rfl⟩))))))
          · have em : scale c (mapP (bring0 o) m (.got w)) = [(c, .got w)] := by simp [mapP, bring0, scale, wm, y]
            refine sv_ifF (et_kind (p := .got w) rfl (kf (a := "got") rfl (by decide))) ?_
            refine sv_ifF (et_kind (p := .got w) rfl (kf (a := "got") rfl (by decide))) ?_
            exact fin em (ev_var rfl rfl) ⟨_, _, _, _, _, rfl, by rw [et, em]⟩
        | nest kd d b =>
          have em : scale c (mapP (bring0 o) m (.nest kd d b)) = [(c, .nest kd d (mapL (bring0 o) (if kd then m + 1 else m) b))] := by simp [mapP, scale]
          have sb := (sm.mem hm).1.body
          simp only [nestP] at h2
          simp only [mapP, itemsL, itemsP] at li2
          refine sv_ifF (et_and1 (et_kind (p := .nest kd d b) rfl (by cases kd <;> first | exact kf (a := "letter") rfl (by decide) | exact kf (a := "wait") rfl (by decide)))) ?_
          cases kd with
          | false =>
            refine sv_ifT (et_kind (p := .nest false d b) rfl rfl) ?_
            refine fin em ?_ ⟨_, _, _, _, _, rfl, by rw [et, em]⟩
            simp only [encP]
            exact ev_tup (ea3 (ev_str (ev_ix rfl rfl (ev_call (ea3 (ev_ix rfl rfl (ev_var rfl (ev_var rfl ⟨_, ⟨b, m, o, rfl, by omega, by omega, sb, so, by simp only [Bool.false_eq_true, if_false] at li2; omega, rfl⟩, (by show 3 ≤ 1000000; decide), by simp [kindS]⟩))))))))
          | true =>
            refine sv_ifF (et_kind (p := .nest true d b) rfl (kf (a := "wait") rfl (by decide))) ?_
            refine sv_ifT (et_kind (p := .nest true d b) rfl rfl) ?_
            refine fin em ?_ ⟨_, _, _, _, _, rfl, by rw [et, em]⟩
            simp only [encP]
            exact ev_tup (ea3 (ev_str (ev_ix rfl rfl (ev_call (ea3 (ev_ix rfl rfl (ev_op (ev_var rfl (ev_int (rv_i0 (ev_var rfl ⟨_, ⟨b, m + 1, o, rfl, by omega, by omega, sb, so, by simp only [if_true] at li2; omega, rfl⟩, (by show 3 ≤ 1000000; decide), by simp [kindS]⟩)))))))))))
    · rintro δ ⟨A, s4, s5, s6, s7, rfl, eA⟩
      refine sv_ret (ev_tupleS (evs_own rfl ?_))
      rw [eA, encL_len, List.take_length]
def rLRaw : List D → D → Prop := fun ds y => ∃ p m, ds = [enc p, encPair m] ∧ m ∈ pairsOf p ∧ Good p ∧ itemsL (rawOf p m) ≤ 900000 ∧ y = enc (rawOf p m)
theorem k_law_raw (B : Bs W.K W.mg) (h_law_without : Kp W d_law_without ["_law_form_here", "_law_part_here"] k rWithout) (h_law_brought : Kp W d_law_brought ["_law_plan_here", "_law_depth", "_law_other"] k (rLBrought 61)) : Kp W d_law_raw ["_law_form_here", "_law_pair"] (k + 1) rLRaw :=
  def_ok B.t_law_raw sc_law_raw (by rintro _ _ ⟨p, m, rfl, _⟩; rfl) fun cdv A outer s H E hr ds y ⟨p, m, e, hm, g, it, e2⟩ => by
    subst e e2
    refine ⟨_, (pss_cons (ps_set (i := 2) sc_law_raw.nd rfl (Or.inl rfl) (pe_k h_law_without hr rfl B.m_law_without (pa_cons (pe_k h_law_without hr rfl B.m_law_without (pa_cons (pv 0) (pa_cons (pe_ix (ix_tupK W.K) (pv 1) pe_int (fun _ _ => rfl)) pa_nil))) (pa_cons (pe_ix (ix_tupK W.K) (pv 1) pe_int (fun _ _ => rfl)) pa_nil))))
    (pss_one (ps_ret (pe_op op_catA (pv 2) (pe_k h_law_brought hr rfl B.m_law_brought (pa_cons (pe_ix (ix_tupK W.K) (pe_ix (ix_tupK W.K) (pv 1) pe_int (fun _ _ => rfl)) pe_int (fun _ _ => rfl)) (pa_cons pe_int (pa_cons (pe_ix (ix_tupK W.K) (pe_ix (ix_tupK W.K) (pv 1) pe_int (fun _ _ => rfl)) pe_int (fun _ _ => rfl)) pa_nil)))))))), ?_⟩
    obtain ⟨d, b1, b2, rfl, ⟨c1, h1⟩, ⟨c2, h2⟩⟩ := pairsOf_mem hm
    have s1 := (g.sm.mem h1).1.body
    have s2 := (g.sm.mem h2).1.body
    have o1 := (okL_mem g.ok h1).2
    simp only [okP] at o1
    have o1' : okL 0 b1 := by simpa using o1.2
    have n2 : nestP (.nest true d b2) ≤ nestL p := nestL_mem h2
    simp only [nestP] at n2
    have gn := g.ne
    have gi := g.it
    have w1 := without_nest p (.nest false d b1)
    have w2 := without_nest (without p (.nest false d b1)) (.nest true d b2)
    have w3 := without_items p (.nest false d b1)
    have w4 := without_items (without p (.nest false d b1)) (.nest true d b2)
    have er : rawOf p (.nest false d b1, .nest true d b2) = without (without p (.nest false d b1)) (.nest true d b2) ++ mapL (bring0 b1) 0 b2 := by
      rw [bring0_eq o1']
      rfl
    rw [er, itemsL_append] at it
    have lw := len_le_items (without (without p (.nest false d b1)) (.nest true d b2))
    have lb := len_le_items (mapL (bring0 b1) 0 b2)
    refine sv_seq (sv_set (ev_call (ea2 (ev_call (ea2 (ev_var rfl (ev_ix rfl rfl ⟨_, ⟨p, .nest false d b1, rfl, gn, by omega, rfl⟩, ev_ix rfl rfl ⟨_, ⟨without p (.nest false d b1), .nest true d b2, rfl, by omega, by omega, rfl⟩, ?_⟩⟩)))))))
    simp only [encPair, encP]
    refine sv_ret (ev_op (ev_var rfl (ev_call (ea3 (ev_op (ev_ix rfl rfl (ev_int (rv_ixT rfl (ev_int (ev_op (ev_ix rfl rfl (ev_int (rv_ixT rfl ⟨_, ⟨b2, 0, b1, rfl, by omega, by omega, s2, s1, by omega, rfl⟩, rv_catA (by rw [encL_len, encL_len]; omega) ?_⟩)))))))))))))
    rw [← encL_append, er]
end
end G
set_option Elab.async false
set_option linter.all false
set_option maxRecDepth 100000
set_option maxHeartbeats 1000000
/-! the longest by rounds; counts -/
namespace G
open PySem PySem.Spec L2 LamX NdefX
def encR : Option Int → D
  | none => .none
  | some i => .int i
/-- m is the greatest of f below n -/
def MaxT (n : Nat) (f : Nat → Int) (m : Int) : Prop := (∃ v, v < n ∧ f v = m) ∧ ∀ v, v < n → f v ≤ m
theorem MaxT.uniq {n : Nat} {f : Nat → Int} {a b : Int} (h : MaxT n f a) (k : MaxT n f b) : a = b := by
  obtain ⟨⟨v, hv, e⟩, h2⟩ := h
  obtain ⟨⟨w, hw, e2⟩, k2⟩ := k
  have := h2 w hw
  have := k2 v hv
  omega
theorem maxT_of {n : Nat} {f : Nat → Int} {m : Int} (h : m ∈ (List.range n).map f) (k : ∀ y, y ∈ (List.range n).map f → y ≤ m) : MaxT n f m := by
  obtain ⟨v, hv, e⟩ := List.mem_map.mp h
  exact ⟨⟨v, by simpa using hv, e⟩, fun w hw => k _ (List.mem_map.mpr ⟨w, by simpa using hw, rfl⟩)⟩
theorem tabD_map (n : Nat) (f : Nat → Int) : tabD n f = ((List.range n).map f).map .int := by
  unfold tabD
  rw [List.map_map]
  rfl
theorem max_code (a b : Int) : (if b > a then b else a) = max a b := by
  rw [Int.max_def]
  by_cases h : b > a
  · rw [if_pos h, if_pos (by omega)]
  · rw [if_neg h]
    by_cases z : a ≤ b
    · rw [if_pos z]; omega
    · rw [if_neg z]
theorem range_get {n i : Nat} (h : i < n) : (List.range n)[i]? = some i := List.getElem?_range h
theorem ixN_nat {n j : Nat} (h : j < n) : ixN n (j : Int) = some j := by
  unfold ixN
  have c : (j : Int) < n := by omega
  simp [c]
  try omega
section
variable {T : List (Addr × Str)} {ta : Option Addr} {δ : List Sl} {te : TE} {K : PySem.W.Frag} {Φ : D → Prop}
theorem ev_maxTab {i n : Nat} {f : Nat → Int} (e : δ[i]? = some (.l (tabD n f))) (n0 : 0 < n) (h : ∀ m, MaxT n f m → Φ (.int m)) : Ev T ta (tCB (rMax K) (tCons (tVar i) tNil)) δ Φ :=
  ev_maxS (evs_own e ⟨(List.range n).map f, tabD_map n f, by simpa using n0, fun m h1 h2 => h m (maxT_of h1 h2)⟩)
end
section
variable {W : Wd} {k : Nat}
def rLawLongest : List D → D → Prop := fun ds y => ∃ rows m, ds = [encRows rows] ∧ RowsOk rows ∧ 0 < rows.length ∧ rows.length ≤ 1000 ∧ MaxT rows.length (bfN rows rows.length) m ∧ y = encR (if (rows.length : Int) ≤ m then none else some m)
theorem k_law_longest (B : Bs W.K W.mg) : Kp W d_law_longest ["_law_links"] (k + 1) rLawLongest :=
  def_ok B.t_law_longest sc_law_longest (by rintro _ _ ⟨p, _, rfl, _⟩; rfl) fun cdv A outer s H E hr ds y ⟨rows, m, e, ok, n0, lr, hm, e2⟩ => by
    subst e e2
    refine ⟨_, (pss_cons (ps_set (i := 1) sc_law_longest.nd rfl (Or.inl rfl) (pe_op op_cat (pe_lst (pa_cons pe_int pa_nil)) (pe_lc (own := [("_law_row", 5)]) rfl sc_law_longest.nd (pi_list (pe_slice sl_list (pv 0) (po_some pe_int) po_none)) (blkOk_by (own := [("_law_row", 5)]) (N := n_law_longest) (sc := defScope s_law_longest) (by decide +kernel)) (fun _ _ _ _ _ => (pg_name (i := 5) sc_law_longest.nd rfl (Or.inl rfl))) (fun _ _ _ _ _ => pts_nil) (fun _ _ _ _ _ => (pe_un un_neg pe_int)))))
    (pss_cons (ps_for PassesOwn.never rfl (pi_range1 (by rfl) B.range (pa_cons (pe_callB (call_lenK W.K) (by rfl) B.len PySem.boot_len (pa_cons (pv 0) pa_nil)) pa_nil)) (pg_name (i := 2) sc_law_longest.nd rfl (Or.inl rfl)) (pss_one (ps_for PassesOwn.never rfl (pi_range1 (by rfl) B.range (pa_cons (pe_callB (call_lenK W.K) (by rfl) B.len PySem.boot_len (pa_cons (pv 0) pa_nil)) pa_nil)) (pg_name (i := 3) sc_law_longest.nd rfl (Or.inl rfl)) (pss_one (ps_for PassesOwn.never rfl (pi_list (pe_ix (ix_listK W.K) (pv 0) (pv 3) (fun _ _ => rfl))) (pg_name (i := 4) sc_law_longest.nd rfl (Or.inl rfl)) (pss_one (ps_if (pt_cmpR op_ge (pe_ix (ix_listK W.K) (pv 1) (pv 3) (fun _ _ => rfl)) pe_int (nomark _)) (pss_one (ps_asg (pe_callB (call_max2 rfl) (by rfl) B.max (by decide +kernel) (pa_cons (pe_ix (ix_listK W.K) (pv 1) (pv 4) (fun _ _ => rfl)) (pa_cons (pe_op op_add (pe_ix (ix_listK W.K) (pv 1) (pv 3) (fun _ _ => rfl)) pe_int) pa_nil))) (pg_sub (pv 1) (pv 4) set_list))) pss_nil)))))))
    (pss_cons (ps_if (pt_cmpR op_ge (pe_callB (cr_max rfl) (by rfl) B.max (by decide +kernel) (pa_cons (pv 1) pa_nil)) (pe_callB (call_lenK W.K) (by rfl) B.len PySem.boot_len (pa_cons (pv 0) pa_nil)) (nomark _)) (pss_one (ps_ret pe_non)) pss_nil)
    (pss_one (ps_ret (pe_callB (cr_max rfl) (by rfl) B.max (by decide +kernel) (pa_cons (pv 1) pa_nil))))))), ?_⟩
    refine sv_seq (sv_setL (evl_cat (evs_l (evl_lst (ea1 (ev_int ⟨by show 1 ≤ 1000000; decide, evs_l (evl_lcM (js := [5]) (by simp) (ei_list (ev_l (evl_slFrom (ev_var rfl ⟨_, rfl, ev_int ⟨1, rfl, _, rfl, rows.drop 1, encRow, fun _ => some (.int (-1)), by rw [List.map_drop], by rw [List.length_drop]; omega, fun r _ => turn1 (ev_neg (ev_int ⟨_, rfl, rfl⟩)), ?_⟩⟩)))))⟩))))))
    have e0 : [PyData.int 0] ++ (rows.drop 1).filterMap (fun _ => some (PyData.int (-1))) = tabD rows.length bf0 := by
      rw [List.filterMap_eq_map', List.map_const', List.length_drop]
      obtain ⟨n, en⟩ : ∃ n, rows.length = n + 1 := ⟨rows.length - 1, by omega⟩
      rw [en]
      unfold tabD
      rw [List.range_succ_eq_map, List.map_cons, List.map_map]
      have e : (List.range n).map ((fun v => PyData.int (bf0 v)) ∘ Nat.succ) = List.replicate n (PyData.int (-1)) := by
        rw [← List.length_range (n := n), ← List.map_const', List.length_range]
        refine List.map_congr_left fun v _ => ?_
        simp [bf0]
      rw [e]
      simp [bf0]
    refine ⟨?_, ?_⟩
    · have := congrArg List.length e0
      rw [List.length_append, tabD_len] at this
      omega
    rw [e0]
    have en : lenD (encRows rows) = some rows.length := by simp [lenD, encRows]
    refine sv_seq (sv_for (js := [2]) (ei_range (ev_len (ev_var rfl ⟨rows.length, en, rows.length, rfl, by omega, fun t δ => ∃ s2 s3 s4 s5, δ = [.d (encRows rows), .l (tabD rows.length (bfN rows t)), s2, s3, s4, s5], ⟨_, _, _, _, rfl⟩, ?_, ?_⟩))))
    · rintro t x δ hx ⟨s2, s3, s4, s5, rfl⟩
      obtain ⟨ht, rfl⟩ := nums_get hx
      refine gt_name ?_
      refine sv_for (js := [3]) (ei_range (ev_len (ev_var rfl ⟨rows.length, en, rows.length, rfl, by omega, fun i δ => ∃ s2 s3 s4 s5, δ = [.d (encRows rows), .l (tabD rows.length (((List.range rows.length).take i).foldl (bfRow rows) (bfN rows t))), s2, s3, s4, s5], ⟨_, _, _, _, rfl⟩, ?_, ?_⟩)))
      · rintro i x δ hx ⟨s2, s3, s4, s5, rfl⟩
        obtain ⟨hi, rfl⟩ := nums_get hx
        have er := range_get hi
        generalize eG : ((List.range rows.length).take i).foldl (bfRow rows) (bfN rows t) = g0
        refine gt_name ?_
        refine sv_for (js := [4]) (ei_list (ev_op (ev_var rfl (ev_var rfl (rv_ixL (atI_natD (rows_at hi)) ⟨_, rfl, fun j δ => ∃ s2 s4 s5 g, δ = [.d (encRows rows), .l (tabD rows.length g), s2, .d (.int (i : Nat)), s4, s5] ∧ g = ((row rows i).take j).foldl (bfStep i) g0, ⟨_, _, _, _, rfl, rfl⟩, ?_, ?_⟩)))))
        · rintro j y δ hy ⟨s2, s4, s5, g, rfl, eg0⟩
          obtain ⟨v, ev, rfl⟩ := encNs_get hy
          have hv : v < rows.length := ok i v (List.mem_of_getElem? ev)
          have en2 : ((row rows i).take (j + 1)).foldl (bfStep i) g0 = bfStep i g v := by rw [take_snoc ev, List.foldl_append, ← eg0]; rfl
          refine gt_name ?_
          refine sv_ifP (0 ≤ g i) (et_TE (ev_op (ev_ixS (evs_own rfl (ev_var rfl ⟨i, _, rfl, atI_natD (tabD_get hi), ev_int (rv_b0 rfl)⟩))))) (fun q => ?_) fun q => ?_
          · refine sv_setitem rfl (ev_max2 (ev_ixS (evs_own rfl (ev_var rfl ⟨v, _, rfl, atI_natD (tabD_get hv), ev_op (ev_ixS (evs_own rfl (ev_var rfl ⟨i, _, rfl, atI_natD (tabD_get hi), ev_int (rv_i0 ⟨_, _, rfl, rfl, ev_var rfl ⟨v, v, rfl, ixN_nat (by rw [tabD_len]; exact hv), ?_⟩⟩)⟩)))⟩))))
            rw [max_code, tabD_set]
            exact ⟨_, _, _, _, rfl, by rw [en2]; unfold bfStep; rw [if_pos q]⟩
          · exact sv_next ⟨_, _, _, _, rfl, by rw [en2]; unfold bfStep; rw [if_neg q]⟩
        · rintro δ ⟨s2, s4, s5, g, rfl, eg0⟩
          have l : (encNs (row rows i)).length = (row rows i).length := by simp [encNs]
          rw [l, List.take_length] at eg0
          refine ⟨s2, .d (.int (i : Nat)), s4, s5, ?_⟩
          rw [take_snoc er, List.foldl_append, eG, eg0]
          rfl
      · rintro δ ⟨s2, s3, s4, s5, rfl⟩
        refine ⟨s2, s3, s4, s5, ?_⟩
        rw [nums_len, List.take_of_length_le (by rw [List.length_range]; exact Nat.le_refl _)]
        rfl
    rintro δ ⟨s2, s3, s4, s5, rfl⟩
    rw [nums_len]
    refine sv_seq (sv_ifP ((rows.length : Int) ≤ m) (et_TE (ev_op (ev_maxTab rfl n0 fun m' hm' => ev_len (ev_var rfl ⟨rows.length, en, rv_b0 (by rw [hm'.uniq hm])⟩)))) (fun q => ?_) fun q => ?_)
    · rw [if_pos q]
      exact sv_ret (ev_non rfl)
    · rw [if_neg q]
      exact sv_next (sv_ret (ev_maxTab rfl n0 fun m' hm' => by rw [hm'.uniq hm]; rfl))
def rIsCount : List D → D → Prop := fun ds y => ∃ a b : Option Int, ds = [encR a, encR b] ∧ y = .bool (decide (a = b))
theorem k_law_is_count (B : Bs W.K W.mg) : Kp W d_law_is_count ["_law_told", "_law_due"] (k + 1) rIsCount :=
  def_ok B.t_law_is_count sc_law_is_count (by rintro _ _ ⟨a, b, rfl, _⟩; rfl) fun cdv A outer s H E hr ds y ⟨a, b, e, e2⟩ => by
    subst e e2
    refine ⟨_, (pss_cons (ps_if (pt_cmp (pc_isN (pv 1)) rfl) (pss_one (ps_ret (pe_cmp (pc_isN (pv 0)) rfl))) pss_nil)
    (pss_one (ps_ret (pe_and (pe_callB call_isi (by rfl) B.isinstance (by decide +kernel) (pa_cons (pv 0) (pa_cons (pe_bltn (v := .ty "int") (by rfl) B.int (by decide +kernel) rfl) pa_nil))) (pe_and (pe_not (pe_callB call_isi (by rfl) B.isinstance (by decide +kernel) (pa_cons (pv 0) (pa_cons (pe_bltn (v := .ty "bool") (by rfl) B.bool (by decide +kernel) rfl) pa_nil)))) (pe_one (pe_cmpR (op_eqK W.K (u200 hr)) (pv 0) (pv 1) (nomark _)))))))), ?_⟩
    cases b with
    | none =>
      refine sv_seq (sv_ifT (et_B (ev_isN (ev_var rfl ⟨_, rfl, rfl⟩))) (sv_ret (ev_isN (ev_var rfl ?_))))
      cases a <;> rfl
    | some j =>
      refine sv_seq (sv_ifF (et_B (ev_isN (ev_var rfl ⟨_, rfl, rfl⟩))) (sv_next ?_))
      cases a with
      | none => exact sv_ret (ev_andB (a := false) (b := false) (ev_isi (ev_var rfl ⟨false, by decide +kernel, rfl⟩)) fun z => (by cases z))
      | some i =>
        rw [show decide (some i = some j) = (true && (true && decide (i = j))) by simp]
        exact sv_ret (ev_andB (a := true) (b := true && decide (i = j)) (ev_isi (ev_var rfl ⟨true, kit_ii, rfl⟩)) fun _ => ev_andB (a := true) (b := decide (i = j)) (ev_notB (a := false) (ev_isi (ev_var rfl ⟨false, kit_ib, rfl⟩))) fun _ => ev_op (ev_var rfl (ev_var rfl (rv_eqI rfl))))
end
end G
set_option Elab.async false
set_option linter.all false
set_option maxRecDepth 100000
set_option maxHeartbeats 1000000
/-! the whole graph, as it stands; longest, shortest -/
namespace G
open PySem PySem.Spec L2 LamX NdefX PyProof.Rows
/-- a graph that stands -/
def FrG (K : PySem.W.Frag) (G : Gr) : Hp → Hp → Addr → Prop := fun Hs _ g => ∃ A : GAd, Hs g = some (.ins (He.ga K "Graph") A.dx (gf A)) ∧ At Hs (.ref A.l) (encRows G.links) ∧ At Hs (.ref A.e) (.list (G.ways.map encWay))
theorem FrG.up {K : PySem.W.Frag} {G : Gr} {Hs Hs' H H' : Hp} {g : Addr} (h : FrG K G Hs H g) (x : ExtN Hs Hs') : FrG K G Hs' H' g := by
  obtain ⟨A, h1, h2, h3⟩ := h
  exact ⟨A, x _ _ h1 (fun _ z => by cases z), h2.up x, h3.up x⟩
open Classical in
theorem graph_stands {T : List (Addr × Str)} {K : PySem.W.Frag} {R : Addr → Prop} {H0s H0 Hs H : Hp} {g : Addr} {G : Gr} {A : GAd} (ga : GAt (He.ga K "Graph") R Hs H g G A) (r : Rg T (fun _ => False) H0s H0 R Hs H) : ∃ Hs', Stp T none H0s H0 Hs' H ∧ FrG K G Hs' H g := by
  have e1 : ∀ b, R b → (fun b => if R b then H b else Hs b : Hp) b = H b := fun b h => if_pos h
  have e2 : ∀ b, ¬ R b → (fun b => if R b then H b else Hs b : Hp) b = Hs b := fun b h => if_neg h
  generalize (fun b => if R b then H b else Hs b : Hp) = Hs' at e1 e2
  have x : ExtN Hs Hs' := fun b o h q => by
    rw [e2 b fun z => ga.fr b z o h q]
    exact h
  refine ⟨Hs', ⟨r.s.trans x, fun b o h q _ => r.e b o h q (fun z => z), r.k, fun b o h q => ?_, r.t, fun b o h q z => ?_, fun _ z => (by cases z)⟩, ?_⟩
  · by_cases z : R b
    · rw [e1 b z] at h
      exact h
    · rw [e2 b z] at h
      exact r.x b o h q
  · have nR : ¬ R b := fun y => (r.r b y).elim (fun w => w) fun f => f o h q
    have := r.n b o h q z
    intro u hu
    rw [e2 b nR] at hu
    exact this u hu
  · obtain ⟨r0, r1, r2, r3, r4, r5⟩ := ga.rg
    obtain ⟨vl, hl, al⟩ := ga.hl
    obtain ⟨ve, he, ae⟩ := ga.he
    exact ⟨A, by rw [e1 g r0]; exact ga.ob, .lst (by rw [e1 _ r3]; exact hl) (al.up x), .lst (by rw [e1 _ r5]; exact he) (ae.up x)⟩
def EvG (T : List (Addr × Str)) (K : PySem.W.Frag) (te : TE) (δ : List Sl) (Φ : Gr → Prop) : Prop := ∀ (Hs H : Hp) (σ : L2.St) (Q : VK), Ok T none δ Hs H σ → (∀ G g Hs' H', Φ G → Stp T none Hs H Hs' H' → FrG K G Hs' H' g → Q (.ref g) H') → te σ H Q
section
variable {T : List (Addr × Str)} {K : PySem.W.Frag} {mg : Str → Option Value} {δ : List Sl} {te tb : TE} {tr : TA} {Φ : D → Prop}
theorem ev_fldL (B : Bs K mg) (h : EvG T K te δ fun G => Φ (encRows G.links)) : Ev T none (tFld K te "links") δ Φ := fun Hs H σ Q o q =>
  h Hs H σ _ o fun G g H1s H1 h1 s1 ⟨A, f1, f2, f3⟩ => ⟨g, _, _, _, _, rfl, s1.x _ _ f1 (fun _ z => by cases z), B.gcls, B.g_links, gf_links A, q _ _ H1s H1 h1 s1 f2⟩
theorem ev_fldW (B : Bs K mg) (h : EvG T K te δ fun G => Φ (.list (G.ways.map encWay))) : Ev T none (tFld K te "earliest") δ Φ := fun Hs H σ Q o q =>
  h Hs H σ _ o fun G g H1s H1 h1 s1 ⟨A, f1, f2, f3⟩ => ⟨g, _, _, _, _, rfl, s1.x _ _ f1 (fun _ z => by cases z), B.gcls, B.g_earliest, gf_earliest A, q _ _ H1s H1 h1 s1 f3⟩
theorem evg_var {i : Nat} {G : Gr} {Φ : Gr → Prop} (e : δ[i]? = some (.f (FrG K G))) (h : Φ G) : EvG T K (tVar i) δ Φ := fun Hs H σ Q o q => by
  obtain ⟨w, h1, a, rfl, h2⟩ := o.at_ i _ e
  exact ⟨_, h1, q G a Hs H h o.refl (h2 Hs H (ExtN.refl _) (ExtE.refl _))⟩
theorem sv_setG {i : Nat} {P : Po} (h : EvG T K te δ fun G => P.nx (δ.set i (.f (FrG K G)))) : Sv T none (tAsg te (gName i)) δ P := fun A B C E σ De n q1 q2 q3 q4 =>
  h C E σ _ n.ok fun G g a b p s f => q1 _ a b _ p ((n.step s).put ⟨g, rfl, fun Hs' H' x _ => f.up x⟩ (fun _ z => by cases z))
end
section
variable {W : Wd} {k : Nat}
def spGraph (W : Wd) : Sp := fun vs H Q _ => ∃ (Hs : Hp) (p : Plan) (v : V), vs = [v] ∧ ExtN Hs H ∧ Tabs W.T H ∧ At Hs v (enc p) ∧ Good p ∧ Dom (plain p) ∧
  ∀ (G : Gr) (g : Addr) (Hs' H' : Hp), BI (plain p) G → G.links.length = G.forms.length → Stp W.T none Hs H Hs' H' → FrG W.K G Hs' H' g → Q (.ref g) H'
theorem evg_graph {δ : List Sl} {tr : TA} {E : XK} {Φ : Gr → Prop} (h : EvA W.T none tr δ fun ds => ∃ p, ds = [enc p] ∧ Good p ∧ Dom (plain p) ∧ ∀ G, BI (plain p) G → G.links.length = G.forms.length → Φ G) : EvG W.T W.K (tCall (spGraph W) [] E tr) δ Φ := fun Hs H σ Q o q => by
  refine h Hs H σ _ o fun ds vs H1s H1 ⟨p, e, gp, dp, h1⟩ s1 a1 => ?_
  subst e
  cases a1 with
  | @cons v _ _ _ a1 k2 =>
    cases k2
    exact ⟨H1s, p, v, rfl, s1.x, s1.t, a1, gp, dp, fun G g H2s H2 b full s2 f => q G g H2s H2 (h1 G b full) (s1.trans s2) f⟩
theorem k_graph_of (B : Bs W.K W.mg) (h_plain_of : Kp W d_plain_of ["plan"] k (rPlain 61)) (h_init : Keeps W.P W.w W.K W.mg W.base d_Graph_init ["self", "start"] k (spInit W)) (h_grow : Keeps W.P W.w W.K W.mg W.base d_Graph_grow ["self"] (k + 1) (spGrow W)) : Keeps W.P W.w W.K W.mg W.base d_graph_of ["plan"] (k + 1 + 1) (spGraph W) :=
  def_raw B.t_graph_of sc_graph_of (fun vs H Q E ⟨_, _, _, h, _⟩ => by rw [h]; rfl) fun cdv An outer s H E hr vs Q ⟨Hs, p, v, ev, x, t, av, gp, dp, q⟩ => by
    subst ev
    have h_plain_of := h_plain_of.mono (Nat.le_succ k)
    refine ⟨_, (pss_cons (ps_set (i := 1) sc_graph_of.nd rfl (Or.inl rfl) (pe_kmk h_init hr B.gmk rfl rfl B.graph (pa_cons (pe_k h_plain_of hr rfl B.m_plain_of (pa_cons (pv 0) pa_nil)) pa_nil)))
    (pss_cons (ps_while PassesOwn.never (pt_cmpR op_lt (pe_callB (call_lenK W.K) (by rfl) B.len PySem.boot_len (pa_cons (pe_fld (pv 1) rfl) pa_nil)) (pe_callB (call_lenK W.K) (by rfl) B.len PySem.boot_len (pa_cons (pe_fld (pv 1) rfl) pa_nil)) (nomark _)) (pss_one (ps_expr (pe_km0 h_grow hr B.gcls B.gm_grow rfl (pv 1)))))
    (pss_one (ps_ret (pv 1))))), ?_⟩
    have o0 : Ok W.T none [.d (enc p), .any] Hs H (L2.start n_graph_of [v]) := by
      refine ⟨x, t, fun _ e => (by cases e), rfl, fun i sl e => ?_, fun i j a xs ys e => ?_⟩
      · match i, e with
        | 0, e => cases e; exact ⟨_, rfl, v, rfl, av⟩
        | 1, e => cases e; exact ⟨_, rfl, trivial⟩
        | i + 2, e => simp at e
      · match i, e with
        | 0, e => cases e
        | 1, e => cases e
        | i + 2, e => simp at e
    have hpl : Ev W.T none (tCall (spD W.T (rPlain 61)) [] E0 (tCons (tVar 0) tNil)) [.d (enc p), .any] (· = enc (plain p)) := ev_call (ea1 (ev_var rfl ⟨_, ⟨p, rfl, by have := gp.ne; omega, gp.ne, gp.sm, by have := gp.it; omega, gp.low, rfl⟩, rfl⟩))
    refine hpl Hs H _ _ o0 fun d v1 H1s H1 ed s1 a1 => ?_
    subst ed
    refine fun g dx hg hdx ne => ?_
    have s2 := Stp.own (T := W.T) (ta := none) (o := .own g) s1.x s1.t hdx
    have s12 := s1.trans s2
    have w2 : Ow W.T (fun _ => False) Hs H [] H1s (upd H1 dx (.own g)) := ⟨fun _ h => (by cases h), List.nodup_nil, ⟨s12.s, fun b o h q _ => s12.e b o h q (by simp), s12.k, s12.x, s12.t, s12.n, fun b ⟨y, hy, _⟩ => (by cases hy)⟩⟩
    have hg2 : upd H1 dx (.own g) g = none := by rw [upd_ne (fun z => ne z.symm)]; exact hg
    have w3 := w2.new hg2 (o := .ins (He.ga W.K "Graph") dx []) (fun _ z => by cases z) (fun _ z => by cases z)
    obtain ⟨g1, _, _, g4⟩ := w3.at_ (g, .ins (He.ga W.K "Graph") dx []) (by simp)
    have gpl := gp.plain
    refine ⟨H1s, g, dx, plain p, v1, rfl, w3.rg.x, w3.rg.t, g1, g4, a1, gpl.sm, gpl.ne, fun R4 A4 H4s H4 ga4 ef4 eg4 rg4 => ⟨rfl, ?_⟩⟩
    have r4 : Rg W.T (fun _ => False) Hs H R4 H4s H4 := by
      have w3r : Rg W.T (fun _ => False) Hs H (· = g) H1s (upd (upd H1 dx (.own g)) g (.ins (He.ga W.K "Graph") dx [])) := ⟨w3.rg.s, w3.rg.e, w3.rg.k, w3.rg.x, w3.rg.t, w3.rg.n, fun b hb => w3.rg.r b ⟨(g, _), by simp; rfl, hb.symm⟩⟩
      exact w3r.trans rg4
    show (tSeq (tWhile _ _) _) _ [some v, some (.ref g)] H4
    refine ⟨fun m σ' H' => ∃ (Hs' : Hp) (R : Addr → Prop) (G : Gr) (A : GAd), σ' = [some v, some (.ref g)] ∧ GAt (He.ga W.K "Graph") R Hs' H' g G A ∧ A.fb = G.forms ∧ A.gn = G.links.length ∧ BI (plain p) G ∧ WB G ∧ Rg W.T (fun _ => False) Hs H R Hs' H' ∧ m = 17 - G.links.length, ⟨_, H4s, R4, _, A4, rfl, ga4, ef4, eg4, bi_start _, fun w hw => ?_, r4, rfl⟩, ?_⟩
    · have : w = [] := by simpa using hw
      rw [this]
      show 0 < 1
      decide
    rintro m σ' H' ⟨H5s, R5, G5, A5, rfl, ga5, ef5, eg5, bi5, wb5, r5, rfl⟩
    obtain ⟨vl, hl, al⟩ := ga5.hl
    obtain ⟨vf, hf, af⟩ := ga5.hf
    have ell : vl.length = G5.links.length := by rw [al.len, List.length_map]
    have elf : vf.length = G5.forms.length := by rw [af.len, List.length_map]
    have few := bi5.few16 dp
    have lle := bi5.le
    refine ⟨_, rfl, g, _, A5.dx, _, _, rfl, ga5.ob, B.gcls, B.g_links, gf_links A5, A5.l, vl, rfl, .inl (SqL.of hl), _, rfl, g, _, A5.dx, _, _, rfl, ga5.ob, B.gcls, B.g_forms, gf_forms A5, A5.f, vf, rfl, .inl (SqL.of hf), (vl.length : Nat), (vf.length : Nat), rfl, rfl, _, rfl, ?_⟩
    by_cases lt : G5.links.length < G5.forms.length
    · rw [decide_eq_true (p := ((vl.length : Nat) : Int) < ((vf.length : Nat) : Int)) (by omega)]
      show ∃ N : L2.St → Hp → Prop, _
      refine ⟨fun σ6 H6 => ∃ (Hs' : Hp) (R : Addr → Prop) (G : Gr) (A : GAd), σ6 = [some v, some (.ref g)] ∧ GAt (He.ga W.K "Graph") R Hs' H6 g G A ∧ A.fb = G.forms ∧ A.gn = G.links.length ∧ BI (plain p) G ∧ WB G ∧ Rg W.T (fun _ => False) Hs H R Hs' H6 ∧ G.links.length = G5.links.length + 1, ?_, ?_⟩
      · rintro σ6 H6 ⟨Hs', R, G, A, e1, e2, e3, e4, e5, e6, e7, e8⟩
        exact ⟨17 - G.links.length, by omega, Hs', R, G, A, e1, e2, e3, e4, e5, e6, e7, rfl⟩
      · refine ⟨_, rfl, g, A5.dx, _, rfl, ga5.ob, gf_grow A5, H5s, R5, g, G5, A5, plain p, rfl, r5.x, r5.t, ga5, ef5, eg5, bi5, wb5, dp, lt, fun R6 A6 G6 H6s H6 bi6 wb6 el6 ga6 ef6 eg6 r6 => ?_⟩
        exact ⟨H6s, R6, G6, A6, rfl, ga6, ef6, eg6, bi6, wb6, r5.trans r6, el6⟩
    · rw [decide_eq_false (p := ((vl.length : Nat) : Int) < ((vf.length : Nat) : Int)) (by omega)]
      show tRet (tVar 1) _ _ _
      obtain ⟨H6s, s6, f6⟩ := graph_stands ga5 r5
      exact ⟨_, rfl, q G5 g H6s H' bi5 (by omega) s6 f6⟩
/-! ### longest, shortest -/
def rLongest : List D → D → Prop := fun ds y => ∃ p r, ds = [enc p] ∧ Good p ∧ Dom (plain p) ∧ LongP (plain p) r ∧ y = encR r
theorem k_longest (B : Bs W.K W.mg) (h_check_plan : Kp W d_check_plan ["thing"] k (rCheck 61)) (h_graph_of : Keeps W.P W.w W.K W.mg W.base d_graph_of ["plan"] k (spGraph W)) (h_in_order : Kp W d_in_order ["links"] k rInOrder) : Kp W d_longest ["plan"] (k + 1) rLongest :=
  def_ok B.t_longest sc_longest (by rintro _ _ ⟨p, r, rfl, _⟩; rfl) fun cdv A outer s H E hr ds y ⟨p, r, e, gp, dm, hL, e2⟩ => by
    subst e e2
    refine ⟨_, (pss_cons (ps_expr (pe_k h_check_plan hr rfl B.m_check_plan (pa_cons (pv 0) pa_nil)))
    (pss_cons (ps_set (i := 1) sc_longest.nd rfl (Or.inl rfl) (pe_fld (pe_k h_graph_of hr rfl B.m_graph_of (pa_cons (pv 0) pa_nil)) rfl))
    (pss_cons (ps_set (i := 2) sc_longest.nd rfl (Or.inl rfl) (pe_k h_in_order hr rfl B.m_in_order (pa_cons (pv 1) pa_nil)))
    (pss_cons (ps_if (pt_cmpR op_lt (pe_callB (call_lenK W.K) (by rfl) B.len PySem.boot_len (pa_cons (pv 2) pa_nil)) (pe_callB (call_lenK W.K) (by rfl) B.len PySem.boot_len (pa_cons (pv 1) pa_nil)) (nomark _)) (pss_one (ps_ret pe_non)) pss_nil)
    (pss_cons (ps_setLc (i := 3) (own := [("row", 6)]) rfl sc_longest.nd rfl rfl (sw_true rfl rfl rfl (by decide +kernel)) (pi_list (pv 1)) (blkOk_by (own := [("row", 6)]) (N := n_longest) (sc := defScope s_longest) (by decide +kernel)) (fun _ _ _ _ _ => (pg_name (i := 6) sc_longest.nd rfl (Or.inl rfl))) (fun _ _ _ _ _ => pts_nil) (fun _ _ _ _ _ => pe_int))
    (pss_cons (ps_for PassesOwn.never rfl (pi_list (pv 2)) (pg_name (i := 4) sc_longest.nd rfl (Or.inl rfl)) (pss_one (ps_for PassesOwn.never rfl (pi_list (pe_ix (ix_listK W.K) (pv 1) (pv 4) (fun _ _ => rfl))) (pg_name (i := 5) sc_longest.nd rfl (Or.inl rfl)) (pss_one (ps_asg (pe_callB (call_max2 rfl) (by rfl) B.max (by decide +kernel) (pa_cons (pe_ix (ix_listK W.K) (pv 3) (pv 5) (fun _ _ => rfl)) (pa_cons (pe_op op_add (pe_ix (ix_listK W.K) (pv 3) (pv 4) (fun _ _ => rfl)) pe_int) pa_nil))) (pg_sub (pv 3) (pv 5) set_list))))))
    (pss_one (ps_ret (pe_callB (cr_max rfl) (by rfl) B.max (by decide +kernel) (pa_cons (pv 3) pa_nil)))))))))), ?_⟩
    refine sv_seq (sv_drop (ev_call (ea1 (ev_var rfl ⟨_, ⟨p, rfl, by have := gp.ne; omega, gp.ok, rfl⟩, ?_⟩))))
    refine sv_seq (sv_set (ev_fldL B (evg_graph (ea1 (ev_var rfl ⟨p, rfl, gp, dm, fun G bi full => ?_⟩)))))
    have few := bi.few16 dm
    have ok := bi.ok full
    have pos := bi.pos full
    have K := kahn_done ok
    generalize eR : G.links = rows at ok pos K
    rw [eR] at full
    have lr : rows.length ≤ 16 := by omega
    refine sv_seq (sv_set (ev_call (ea1 (ev_var rfl ⟨_, ⟨rows, rfl, ok, by omega, rfl⟩, ?_⟩))))
    have en : lenD (encRows rows) = some rows.length := by simp [lenD, encRows]
    have ek : lenD (encRow (kahn rows)) = some (kahn rows).length := by simp [lenD, encRow, encNs]
    refine sv_seq (sv_ifP ((kahn rows).length < rows.length) (et_TE (ev_op (ev_len (ev_var rfl ⟨_, ek, ev_len (ev_var rfl ⟨_, en, rv_b0 (congrArg PyData.bool (by rw [Bool.eq_iff_iff, decide_eq_true_eq, decide_eq_true_eq]; omega))⟩)⟩)))) (fun q => ?_) fun q => ?_)
    · have h : LongP (plain p) none := bi.cycle (by rw [eR]; exact full) (by rw [eR]; exact q)
      rw [hL.uniq h]
      exact sv_ret (ev_non rfl)
    refine sv_next ?_
    refine sv_seq (sv_setL (evl_lcM (js := [6]) (by simp) (ei_list (ev_var rfl ⟨_, rfl, rows, encRow, fun _ => some (.int 0), rfl, by omega, fun r _ => turn1 (ev_int rfl), ?_⟩))))
    have e0 : rows.filterMap (fun _ => some (PyData.int 0)) = tabD rows.length (fun _ => 0) := by
      rw [List.filterMap_eq_map', List.map_const']
      unfold tabD
      rw [List.map_const', List.length_range]
    rw [e0]
    refine sv_seq (sv_for (js := [4]) (ei_list (ev_var rfl ⟨_, rfl, fun i δ => ∃ s4 s5 s6, δ = [.d (enc p), .d (encRows rows), .d (encRow (kahn rows)), .l (tabD rows.length (dp rows ((kahn rows).take i))), s4, s5, s6], ⟨_, _, _, rfl⟩, ?_, ?_⟩)))
    · rintro i x δ hx ⟨s4, s5, s6, rfl⟩
      obtain ⟨u, eu, rfl⟩ := encNs_get hx
      have hu : u < rows.length := K.lt u (List.mem_of_getElem? eu)
      generalize eG : dp rows ((kahn rows).take i) = g0
      refine gt_name ?_
      refine sv_for (js := [5]) (ei_list (ev_op (ev_var rfl (ev_var rfl (rv_ixL (atI_natD (rows_at hu)) ⟨_, rfl, fun j δ => ∃ s5 s6 g, δ = [.d (enc p), .d (encRows rows), .d (encRow (kahn rows)), .l (tabD rows.length g), .d (.int (u : Nat)), s5, s6] ∧ g = ((row rows u).take j).foldl (dpStep u) g0, ⟨_, _, _, rfl, rfl⟩, ?_, ?_⟩)))))
      · rintro j y δ hy ⟨s5, s6, g, rfl, eg0⟩
        obtain ⟨v, ev, rfl⟩ := encNs_get hy
        have hv : v < rows.length := ok u v (List.mem_of_getElem? ev)
        have en2 : ((row rows u).take (j + 1)).foldl (dpStep u) g0 = dpStep u g v := by rw [take_snoc ev, List.foldl_append, ← eg0]; rfl
        refine gt_name ?_
        refine sv_setitem rfl (ev_max2 (ev_ixS (evs_own rfl (ev_var rfl ⟨v, _, rfl, atI_natD (tabD_get hv), ev_op (ev_ixS (evs_own rfl (ev_var rfl ⟨u, _, rfl, atI_natD (tabD_get hu), ev_int (rv_i0 ⟨_, _, rfl, rfl, ev_var rfl ⟨v, v, rfl, ixN_nat (by rw [tabD_len]; exact hv), ?_⟩⟩)⟩)))⟩))))
        rw [max_code, tabD_set]
        exact ⟨_, _, _, rfl, by rw [en2]; rfl⟩
      · rintro δ ⟨s5, s6, g, rfl, eg0⟩
        have l : (encNs (row rows u)).length = (row rows u).length := by simp [encNs]
        rw [l, List.take_length] at eg0
        refine ⟨.d (.int (u : Nat)), s5, s6, ?_⟩
        have e : dp rows ((kahn rows).take (i + 1)) = (row rows u).foldl (dpStep u) g0 := by
          rw [← eG]
          unfold dp
          rw [take_snoc eu, List.foldl_append]
          rfl
        rw [e, ← eg0]
    rintro δ ⟨s4, s5, s6, rfl⟩
    have l : (encNs (kahn rows)).length = (kahn rows).length := by simp [encNs]
    rw [l, List.take_length]
    refine sv_ret (ev_maxTab rfl pos fun m hm => ?_)
    have h : LongP (plain p) (some m) := bi.longAll (by rw [eR]; exact full) (by rw [eR]; exact dp_long ok K (by omega) hm.1 hm.2)
    rw [hL.uniq h]
    rfl
def rShortest : List D → D → Prop := fun ds y => ∃ p r, ds = [enc p] ∧ Good p ∧ Dom (plain p) ∧ ShortP (plain p) r ∧ y = encR r
theorem k_shortest (B : Bs W.K W.mg) (h_check_plan : Kp W d_check_plan ["thing"] k (rCheck 61)) (h_graph_of : Keeps W.P W.w W.K W.mg W.base d_graph_of ["plan"] k (spGraph W)) : Kp W d_shortest ["plan"] (k + 1) rShortest :=
  def_ok B.t_shortest sc_shortest (by rintro _ _ ⟨p, r, rfl, _⟩; rfl) fun cdv A outer s H E hr ds y ⟨p, r, e, gp, dp, hS, e2⟩ => by
    subst e e2
    refine ⟨_, (pss_cons (ps_expr (pe_k h_check_plan hr rfl B.m_check_plan (pa_cons (pv 0) pa_nil)))
    (pss_cons (ps_set (i := 1) sc_shortest.nd rfl (Or.inl rfl) (pe_k h_graph_of hr rfl B.m_graph_of (pa_cons (pv 0) pa_nil)))
    (pss_cons (ps_for PassesOwn.never rfl (pi_zip (by rfl) B.zip (pa_cons (pe_fld (pv 1) rfl) (pa_cons (pe_fld (pv 1) rfl) pa_nil))) (pg_tupK W.K (n := 2) (by rfl) (pgs_cons (pg_name (i := 2) sc_shortest.nd rfl (Or.inl rfl)) (pgs_cons (pg_name (i := 3) sc_shortest.nd rfl (Or.inl rfl)) pgs_nil))) (pss_one (ps_if (pt_cmpR (op_eqK W.K (u200 hr)) (pe_callB (call_lenK W.K) (by rfl) B.len PySem.boot_len (pa_cons (pv 2) pa_nil)) pe_int (nomark _)) (pss_one (ps_ret (pe_callB (call_lenK W.K) (by rfl) B.len PySem.boot_len (pa_cons (pv 3) pa_nil)))) pss_nil)))
    (pss_one (ps_ret pe_non))))), ?_⟩
    refine sv_seq (sv_drop (ev_call (ea1 (ev_var rfl ⟨_, ⟨p, rfl, by have := gp.ne; omega, gp.ok, rfl⟩, ?_⟩))))
    refine sv_seq (sv_setG (evg_graph (ea1 (ev_var rfl ⟨p, rfl, gp, dp, fun G bi full => ?_⟩))))
    have few := bi.few16 dp
    have ewl : G.ways.length = G.links.length := by rw [bi.wn, full]
    have zl : ∀ {a b : List D} {n : Nat}, a.length = n → b.length = n → (zips a b).length = n := by
      intro a
      induction a with
      | nil => intro b n h1 h2; simpa [zips] using h1
      | cons x xs ih =>
        intro b n h1 h2
        cases b with
        | nil => rw [← h1] at h2; simp at h2
        | cons y ys =>
          simp at h1 h2
          have := ih (b := ys) (n := n - 1) (by omega) (by omega)
          simp [zips, this]
          omega
    refine sv_seq (sv_for (js := [2] ++ [3]) (ei_zip (ev_fldL B (evg_var rfl (ev_fldW B (evg_var rfl ⟨_, _, rfl, rfl, fun i δ => ∃ s2 s3, δ = [.d (enc p), .f (FrG W.K G), s2, s3] ∧ ∀ (j : Nat), j < i → ∀ r : List Nat, G.links[j]? = some r → r ≠ [], ⟨_, _, rfl, fun j hj => absurd hj (Nat.not_lt_zero _)⟩, ?_, ?_⟩))))))
    · rintro i x δ hx ⟨s2, s3, rfl, no⟩
      obtain ⟨a, b, ea, eb, rfl⟩ := zips_get hx
      obtain ⟨rw', er, rfl⟩ := rows_get ea
      obtain ⟨w, ew, rfl⟩ : ∃ w, G.ways[i]? = some w ∧ b = encWay w := by
        rw [List.getElem?_map] at eb
        cases e : G.ways[i]? with
        | none => rw [e] at eb; cases eb
        | some w => rw [e] at eb; exact ⟨w, rfl, (Option.some.inj eb).symm⟩
      have en : lenD (encRow rw') = some rw'.length := by simp [lenD, encRow, encNs]
      have ee : lenD (encWay w) = some w.length := by simp [lenD, encWay, encNs]
      refine gt_pair (gt_name (gt_name ?_))
      refine sv_ifP (rw'.length = 0) (et_TE (ev_op (ev_len (ev_var rfl ⟨_, en, ev_int (rv_eqI (congrArg PyData.bool (by rw [Bool.eq_iff_iff, decide_eq_true_eq, decide_eq_true_eq]; omega)))⟩)))) (fun q => ?_) fun q => ?_
      · have ez : rw' = [] := List.length_eq_zero_iff.mp q
        subst ez
        have h := bi.short2 full er no
        have hw : wl G i = w.length := by
          unfold wl
          rw [List.getD_eq_getElem?_getD, ew]
          rfl
        rw [hw] at h
        refine sv_ret (ev_len (ev_var rfl ⟨_, ee, ?_⟩))
        rw [hS.uniq h]
        rfl
      · refine sv_next ⟨_, _, rfl, fun j hj r hr => ?_⟩
        by_cases z : j < i
        · exact no j z r hr
        · obtain rfl : j = i := by omega
          rw [er] at hr
          cases hr
          intro w
          rw [w] at q
          exact q rfl
    · rintro δ ⟨s2, s3, rfl, no⟩
      rw [zl (n := G.links.length) (by simp) (by simp [ewl])] at no
      have h : ShortP (plain p) none := bi.short0 full fun i r hr => no i (List.getElem?_eq_some_iff.mp hr).1 r hr
      rw [hS.uniq h]
      exact sv_ret (ev_non rfl)
end
end G
set_option Elab.async false
set_option linter.all false
set_option maxRecDepth 100000
set_option maxHeartbeats 1000000
/-! the law's graph -/
namespace G
open PySem PySem.Spec L2 LamX NdefX PyProof.Rows
/-- l.index(x), by what l and x are: j the first place of an equal datum -/
structure FirstAt (ds : List D) (d : D) (j : Nat) : Prop where
  here : ∃ z, ds[j]? = some z ∧ PyData.eqv z d = true
  no : ∀ (m : Nat) (z : D), m < j → ds[m]? = some z → PyData.eqv z d = false
def rIndexA (K : PySem.W.Frag) : V → List V → Hp → VK → Prop := fun l args H Q => ∃ (a : Addr) (y : V) (d : D) (ds : List D) (j : Nat), (l = .ref a ∧ args = [y]) ∧ (Dp K H (.ref a) (.list ds) ∧ PyData.canLayAll0 ds = true) ∧ (Dp K H y d ∧ d.canLay0 = true ∧ d.depth ≤ 195) ∧ FirstAt ds d j ∧ Q (.int (j : Nat)) H
theorem mt_indexA {X : Cx} (room : X.A.units + 200 < cLine) : MtR X "list.index" (rIndexA X.K) := by
  rintro pins s σ H _ _ lv args Q inv rl ra ⟨a, y, d, ds, j, ⟨rfl, rfl⟩, ⟨dl, layL⟩, ⟨dy, layD, deep⟩, ⟨⟨z, atj, eqj⟩, before⟩, fin⟩
  obtain ⟨u, rfl, ry⟩ : ∃ u, args = [u] ∧ RelV y u := by
    cases ra with
    | cons hd tl =>
      cases tl
      exact ⟨_, rfl, hd⟩
  obtain rfl : lv = Value.ref a := rl
  obtain ⟨ub, ur⟩ := Dp.reads inv d y u dy ry
  cases dl with
  | lst sq parts =>
    obtain ⟨items, rel, ⟨⟨oc, od, odt, osl⟩, ep, got, ty, _, dat⟩, short⟩ := inv.list sq
    obtain rfl : oc = Value.type "list" := ty
    obtain rfl : odt = Data.seq items.toArray ep := dat
    obtain ⟨bs, rs⟩ := Dp.readsAll inv ds _ items parts rel
    have told : ∀ m (hm : m < items.toArray.size), ds[m]? = some (SeqAt.readOf s.heap items.toArray[m]) := fun m hm => by
      have hm2 : m < items.length := by simpa using hm
      rw [← SeqAt.readsAll_map ds items bs layL rs, List.getElem?_map, List.getElem?_eq_getElem hm2]
      simp
    have size : items.toArray.size = ds.length := by rw [List.size_toArray, SeqAt.ReadsAll.length ds items bs rs]
    have jl : j < items.toArray.size := by
      rw [size]
      exact (List.getElem?_eq_some_iff.mp atj).1
    have e1 := rel.length
    have e2 := sizeLine_eq
    have e3 : j < items.length := by simpa using jl
    have units : X.A.units + 1 + min (PyData.depthAll ds) d.depth < cLine := Nat.lt_of_le_of_lt (Nat.add_le_add_left (Nat.min_le_right _ _) _) (by omega)
    have same := SeqAt.items_eqAt (vs := items.toArray) (show ReadsAll s.heap items.toArray.toList ds bs from rs) ur layL layD units
    refine call_meets PySem.F.slot_list_index ⟨_, got, rfl⟩ PySem.F.entry_list_index (PySem.F.args_list_index_2 _ _) (SeqAt.list_indexAt a items.toArray ep od osl u (fun v => PyData.eqv (SeqAt.readOf s.heap v) d) j jl (by omega) ?_ fun m hm lt => before m _ lt (told m hm)) ⟨got, same, .int (j : Nat), H, inv.tok _, ⟨_, rfl⟩, fin⟩
    have t := told j jl
    rw [atj] at t
    rw [← Option.some.inj t]
    exact eqj
section
variable {T : List (Addr × Str)} {ta : Option Addr} {δ : List Sl} {te tb : TE} {K : PySem.W.Frag} {Φ : D → Prop}
theorem ev_indexS {i : Nat} {xs : List D} (e : δ[i]? = some (.l xs)) (h : Ev T ta te δ fun d => d.depth ≤ 195 ∧ ∃ (j : Nat) (z : D), xs[j]? = some z ∧ PyData.eqv z d = true ∧ (∀ (m : Nat) (z' : D), m < j → xs[m]? = some z' → PyData.eqv z' d = false) ∧ Φ (.int (j : Nat))) :
    Ev T ta (tBM K "list" (rIndexA K) (tVar i) (tCons te tNil)) δ Φ := fun Hs H σ Q o q => by
  obtain ⟨w, e1, a, vs, rfl, h1, h2, h3, h4⟩ := o.at_ i _ e
  refine ⟨_, e1, .inl ⟨rfl, _, SqL.of h3⟩, ?_⟩
  refine h Hs H σ _ o fun d v H1s H1 ⟨hd, j, z, ez, eq, no, hp⟩ s1 a1 => ?_
  have h5 := s1.e _ _ h3 nt_lst h2
  have h6 := h4.up s1.s
  exact ⟨a, v, d, xs, j, ⟨rfl, rfl⟩, ⟨.lst (SqL.of h5) (AtAll.dp xs (h6.up s1.x)), h6.lay⟩, ⟨At.dp d (a1.up s1.x), At.lay d a1, hd⟩, ⟨⟨z, ez, eq⟩, no⟩, q _ _ H1s H1 hp s1 (.int _)⟩
/-- x not in l, l a list that may be read now -/
theorem ev_notInS (h : Ev T ta te δ fun d => EvS T ta tb δ fun xs => d.depth ≤ 195 ∧ Φ (.bool (!xs.any fun z => PyData.eqv z d))) : Ev T ta (tOp (rNotInA K) te tb) δ Φ := fun Hs H σ Q o q => by
  refine h Hs H σ _ o fun d v H1s H1 h1 s1 a1 => ?_
  refine h1 H1s H1 σ _ (o.step s1) fun xs a vs H2s H2 ⟨hd, hp⟩ s2 e2 n2 a2 => ?_
  have a1' := a1.up s2.s
  exact ⟨d, xs, At.dp d (a1'.up s2.x), .lst (SqL.of e2) (AtAll.dp xs (a2.up s2.x)), At.lay d a1', a2.lay, hd, q _ _ H2s H2 hp (s1.trans s2) (.bl _)⟩
end
theorem any_enc (q : Plan) : ∀ l : List Plan, (l.map enc).any (fun z => PyData.eqv z (enc q)) = decide (q ∈ l)
  | [] => by simp
  | x :: r => by
    rw [List.map_cons, List.any_cons, any_enc q r, eqv_enc]
    by_cases h : x = q
    · simp [h]
    · have h' : ¬ q = x := fun z => h z.symm
      simp [h, h']
def encG (G : Gr) : D := .list [.list (G.forms.map enc), .list (G.ways.map encWay), encRows G.links]
def preLG : List D → Prop := fun ds => ∃ p, ds = [enc p, .int 16] ∧ GB 0 p
def rLG : List D → D → Prop := fun ds y => ∃ p, ds = [enc p, .int 16] ∧ (y = .none ∨ ∃ G, BI (plain p) G ∧ FI G ∧ G.links.length = G.forms.length ∧ G.forms.length ≤ 16 ∧ y = encG G)
section
variable {W : Wd} {k : Nat}
theorem k_law_graph (B : Bs W.K W.mg) (h_law_form : Kp W d_law_form ["_law_plan_here"] k (rPlain 61)) (h_law_pairs : Kp W d_law_pairs ["_law_form_here"] k rMeetOf) (h_law_raw : Kp W d_law_raw ["_law_form_here", "_law_pair"] k rLRaw) (h_law_items_in : Kp W d_law_items_in ["_law_plan_here"] k (rItems 61)) :
    Keeps W.P W.w W.K W.mg W.base d_law_graph ["_law_plan_here", "_law_most"] (k + 1) (spN W.T preLG rLG) :=
  def_okN B.t_law_graph sc_law_graph (by rintro _ ⟨p, rfl, _⟩; rfl) fun cdv A outer s H E hr ds ⟨p, e, gb⟩ => by
    subst e
    refine ⟨_, (pss_cons (ps_set (i := 2) sc_law_graph.nd rfl (Or.inl rfl) (pe_lst (pa_cons (pe_k h_law_form hr rfl B.m_law_form (pa_cons (pv 0) pa_nil)) pa_nil)))
    (pss_cons (ps_set (i := 3) sc_law_graph.nd rfl (Or.inl rfl) (pe_lst (pa_cons (pe_tup pa_nil) pa_nil)))
    (pss_cons (ps_set (i := 4) sc_law_graph.nd rfl (Or.inl rfl) (pe_lst pa_nil))
    (pss_cons (ps_for PassesOwn.never rfl (pi_range1 (by rfl) B.range (pa_cons (pv 1) pa_nil)) (pg_name (i := 5) sc_law_graph.nd rfl (Or.inl rfl)) (pss_cons (ps_if (pt_cmpR (op_eqK W.K (u200 hr)) (pv 5) (pe_callB (call_lenK W.K) (by rfl) B.len PySem.boot_len (pa_cons (pv 2) pa_nil)) (nomark _)) (pss_one ps_break) pss_nil)
    (pss_cons (ps_set (i := 6) sc_law_graph.nd rfl (Or.inl rfl) (pe_lst pa_nil))
    (pss_cons (ps_set (i := 7) sc_law_graph.nd rfl (Or.inl rfl) (pe_k h_law_pairs hr rfl B.m_law_pairs (pa_cons (pe_ix (ix_listK W.K) (pv 2) (pv 5) (fun _ _ => rfl)) pa_nil)))
    (pss_cons (ps_for PassesOwn.never rfl (pi_range1 (by rfl) B.range (pa_cons (pe_callB (call_lenK W.K) (by rfl) B.len PySem.boot_len (pa_cons (pv 7) pa_nil)) pa_nil)) (pg_name (i := 8) sc_law_graph.nd rfl (Or.inl rfl)) (pss_cons (ps_set (i := 9) sc_law_graph.nd rfl (Or.inl rfl) (pe_k h_law_form hr rfl B.m_law_form (pa_cons (pe_k h_law_raw hr rfl B.m_law_raw (pa_cons (pe_ix (ix_listK W.K) (pv 2) (pv 5) (fun _ _ => rfl)) (pa_cons (pe_ix (ix_listK W.K) (pv 7) (pv 8) (fun _ _ => rfl)) pa_nil))) pa_nil)))
    (pss_cons (ps_if (pt_cmpR (op_notInK W.K (u200 hr)) (pv 9) (pv 2) rfl) (pss_cons (ps_if (pt_cmpR op_gt (pe_k h_law_items_in hr rfl B.m_law_items_in (pa_cons (pv 9) pa_nil)) pe_int (nomark _)) (pss_one (ps_ret pe_non)) pss_nil)
    (pss_cons (ps_expr (pe_bm PySem.F.plainAttrs_list PySem.F.slot_list_append PySem.F.type_list_append mt_append (pv 2) (pa_cons (pv 9) pa_nil)))
    (pss_one (ps_expr (pe_bm PySem.F.plainAttrs_list PySem.F.slot_list_append PySem.F.type_list_append mt_append (pv 3) (pa_cons (pe_op op_catA (pe_ix (ix_listK W.K) (pv 3) (pv 5) (fun _ _ => rfl)) (pe_tup (pa_cons (pv 8) pa_nil))) pa_nil)))))) pss_nil)
    (pss_one (ps_expr (pe_bm PySem.F.plainAttrs_list PySem.F.slot_list_append PySem.F.type_list_append mt_append (pv 6) (pa_cons (pe_bm PySem.F.plainAttrs_list PySem.F.slot_list_index PySem.F.type_list_index (mt_indexA (u200 hr)) (pv 2) (pa_cons (pv 9) pa_nil)) pa_nil)))))))
    (pss_one (ps_expr (pe_bm PySem.F.plainAttrs_list PySem.F.slot_list_append PySem.F.type_list_append mt_append (pv 4) (pa_cons (pv 6) pa_nil)))))))))
    (pss_cons (ps_if (pt_cmpR op_lt (pe_callB (call_lenK W.K) (by rfl) B.len PySem.boot_len (pa_cons (pv 4) pa_nil)) (pe_callB (call_lenK W.K) (by rfl) B.len PySem.boot_len (pa_cons (pv 2) pa_nil)) (nomark _)) (pss_one (ps_ret pe_non)) pss_nil)
    (pss_one (ps_ret (pe_lst (pa_cons (pv 2) (pa_cons (pv 3) (pa_cons (pv 4) pa_nil))))))))))), ?_⟩
    have gp := gb.good (by decide)
    refine sv_seq (sv_setL (evl_lst (ea1 (ev_call (ea1 (ev_var rfl ⟨_, ⟨p, rfl, by have := gp.ne; omega, gp.ne, gp.sm, by have := gp.it; omega, gp.low, rfl⟩, by simp, ?_⟩))))))
    refine sv_seq (sv_setL (evl_lst (ea1 (ev_tup (ea_nil ⟨by simp, by simp, ?_⟩)))))
    refine sv_seq (sv_setL (evl_lst (ea_nil ⟨by simp, ?_⟩)))
    refine sv_seq (sv_imp (P := { nx := fun δ => ∃ G s5 s6 s7 s8 s9, δ = [.d (enc p), .d (.int 16), .l (G.forms.map enc), .l (G.ways.map encWay), .l (G.links.map encRow), s5, s6, s7, s8, s9] ∧ BI (plain p) G ∧ FI G ∧ G.links.length ≤ 16 ∧ G.forms.length ≤ 100000, rt := rLG [enc p, .int 16] }) ?_ ?_ (fun _ h => h) (fun _ h => h) (fun _ h => h))
    · refine sv_for (js := [5]) (ei_range (ev_var rfl ⟨16, rfl, by decide, fun i δ => ∃ G s5 s6 s7 s8 s9, δ = [.d (enc p), .d (.int 16), .l (G.forms.map enc), .l (G.ways.map encWay), .l (G.links.map encRow), s5, s6, s7, s8, s9] ∧ BI (plain p) G ∧ FI G ∧ G.links.length = i ∧ G.forms.length ≤ 1 + 3600 * i, ⟨⟨[plain p], [[]], []⟩, _, _, _, _, _, rfl, bi_start _, fi_start gb.plain, rfl, Nat.le_refl _⟩, ?_, ?_⟩))
      · rintro i x δ hx ⟨G, s5, s6, s7, s8, s9, rfl, bi, fi, el, lf⟩
        obtain ⟨hi, rfl⟩ := nums_get hx
        refine gt_name ?_
        have lm : (G.forms.map enc).length = G.forms.length := List.length_map ..
        refine sv_seq (sv_ifP (i = G.forms.length) (et_TE (ev_op (ev_var rfl (ev_lenS (evs_own rfl (rv_eqI (congrArg PyData.bool (by rw [lm]; exact dlen i G.forms.length)))))))) (fun q => ?_) fun q => ?_)
        · exact sv_brk ⟨G, _, _, _, _, _, rfl, bi, fi, by omega, by omega⟩
        refine sv_next ?_
        have hlt : G.links.length < G.forms.length := by have := bi.le; omega
        obtain ⟨f, hf⟩ : ∃ f, G.forms[i]? = some f := ⟨_, List.getElem?_eq_getElem (by omega)⟩
        obtain ⟨wi, wi2, gf⟩ := fi i f hf
        have gd := gf.good (by omega)
        have f60 : f.length ≤ 60 := Nat.le_trans (len_le_items f) gf.it
        have pl : (pairsOf f).length ≤ 3600 := by
          have h1 := pairsTo_len f f
          rw [← pairsOf_to] at h1
          exact Nat.le_trans h1 (Nat.le_trans (Nat.mul_le_mul f60 f60) (by decide))
        have ef : (G.forms.map enc)[i]? = some (enc f) := by rw [List.getElem?_map, hf]; rfl
        refine sv_seq (sv_setL (evl_lst (ea_nil ⟨by simp, ?_⟩)))
        refine sv_seq (sv_set (ev_call (ea1 (ev_ixS (evs_own rfl (ev_var rfl ⟨i, _, rfl, atI_natD ef, _, ⟨f, rfl, by omega, gd.ne, rfl⟩, ?_⟩))))))
        have en : lenD (.list ((pairsOf f).map encPair)) = some (pairsOf f).length := by simp [lenD]
        refine sv_seq (sv_for (js := [8]) (ei_range (ev_len (ev_var rfl ⟨(pairsOf f).length, en, (pairsOf f).length, rfl, by omega, fun j δ => ∃ G2 row s8 s9, δ = [.d (enc p), .d (.int 16), .l (G2.forms.map enc), .l (G2.ways.map encWay), .l (G2.links.map encRow), .d (.int (i : Nat)), .l (encNs row), .d (.list ((pairsOf f).map encPair)), s8, s9] ∧ BM (plain p) f G2 row j ∧ FI G2 ∧ G2.links.length = i ∧ G2.forms.length ≤ 1 + 3600 * i + j, ⟨G, [], _, _, rfl, bm_0 bi hlt (by rw [el]; exact hf), fi, el, lf⟩, ?_, ?_⟩))))
        · rintro j x δ hx ⟨G2, row, s8, s9, rfl, bm, fi2, el2, lf2⟩
          obtain ⟨hj, rfl⟩ := nums_get hx
          obtain ⟨m, hm⟩ : ∃ m, (pairsOf f)[j]? = some m := ⟨_, List.getElem?_eq_getElem hj⟩
          have hmm := List.mem_of_getElem? hm
          have hf2 : G2.forms[i]? = some f := by
            have := bm.at_
            rw [el2] at this
            exact this
          have ef2 : (G2.forms.map enc)[i]? = some (enc f) := by rw [List.getElem?_map, hf2]; rfl
          have em : ((pairsOf f).map encPair)[j]? = some (encPair m) := by rw [List.getElem?_map, hm]; rfl
          obtain ⟨wj, wj2, gf2⟩ := fi2 i f hf2
          have wn := bm.b.wn
          have i2 := (List.getElem?_eq_some_iff.mp hf2).1
          obtain ⟨w, hw⟩ : ∃ w, G2.ways[i]? = some w := ⟨_, List.getElem?_eq_getElem (by omega)⟩
          have ew : wl G2 i = w.length := by
            unfold wl
            rw [List.getD_eq_getElem?_getD, hw]
            rfl
          have ewd : (G2.ways.map encWay)[i]? = some (encWay w) := by rw [List.getElem?_map, hw]; rfl
          obtain ⟨ro, rok, rsz⟩ := gf2.raw (by omega) hmm
          have gd2 := gf2.good (by omega)
          refine gt_name ?_
          refine sv_seq (sv_set (ev_call (ea1 (ev_call (ea2 (ev_ixS (evs_own rfl (ev_var rfl ⟨i, _, rfl, atI_natD ef2, ev_op (ev_var rfl (ev_var rfl (rv_ixL (atI_natD em) ⟨_, ⟨f, m, rfl, hmm, gd2, by have := ro.it; omega, rfl⟩, _, ⟨rawOf f m, rfl, by have := ro.ne; omega, ro.ne, ro.sm, by have := ro.it; omega, ro.low, rfl⟩, ?_⟩)))⟩))))))))
          have ndp : (enc (metOf f m)).depth ≤ 195 := by
            have h1 := enc_depth (metOf f m)
            have h2 : nestL (metOf f m) ≤ 60 := Nat.le_trans (plain_nest _) ro.ne
            omega
          have rest : ∀ (P : Po) (G3 : Gr) (n : Nat), ReachG G2 (metOf f m) (w ++ [j]) G3 n → FI G3 → G3.forms.length ≤ 1 + 3600 * i + (j + 1) → (∀ δ, (∃ G2 row s8 s9, δ = [.d (enc p), .d (.int 16), .l (G2.forms.map enc), .l (G2.ways.map encWay), .l (G2.links.map encRow), .d (.int (i : Nat)), .l (encNs row), .d (.list ((pairsOf f).map encPair)), s8, s9] ∧ BM (plain p) f G2 row (j + 1) ∧ FI G2 ∧ G2.links.length = i ∧ G2.forms.length ≤ 1 + 3600 * i + (j + 1)) → P.nx δ) →
              Sv W.T none (tDrop (tBM W.K "list" rAppend (tVar 6) (tCons (tBM W.K "list" (rIndexA W.K) (tVar 2) (tCons (tVar 9) tNil)) tNil))) [.d (enc p), .d (.int 16), .l (G3.forms.map enc), .l (G3.ways.map encWay), .l (G3.links.map encRow), .d (.int (i : Nat)), .l (encNs row), .d (.list ((pairsOf f).map encPair)), .d (.int (j : Nat)), .d (enc (metOf f m))] P := by
            intro P G3 n hR fi3 lf3 hP
            obtain ⟨bm3, el3⟩ := bm_reach bm hm (by rw [List.length_append, el2, ew]; rfl) hR
            have hn : G3.forms[n]? = some (metOf f m) := by
              rcases hR with ⟨h1, rfl⟩ | ⟨_, rfl, rfl⟩
              · exact h1
              · show (G2.forms ++ [metOf f m])[G2.forms.length]? = _
                rw [List.getElem?_append_right (Nat.le_refl _)]
                simp
            have lr : (encNs row).length = j := by simp [encNs, bm.rl]
            refine sv_append rfl (by rw [lr]; omega) (ev_indexS rfl (ev_var rfl ⟨ndp, n, enc (metOf f m), by rw [List.getElem?_map, hn]; rfl, by rw [eqv_enc]; simp, fun m' z' hm' hz' => ?_, ?_⟩))
            · rw [List.getElem?_map] at hz'
              cases e : G3.forms[m']? with
              | none => rw [e] at hz'; cases hz'
              | some g =>
                rw [e] at hz'
                cases hz'
                rw [eqv_enc]
                refine decide_eq_false fun z => ?_
                rw [z] at e
                have := nd_get bm3.b.nd e hn
                omega
            · have er : encNs row ++ [.int (n : Nat)] = encNs (row ++ [n]) := by simp [encNs]
              refine hP _ ⟨G3, row ++ [n], .d (.int (j : Nat)), .d (enc (metOf f m)), ?_, bm3, fi3, by rw [el3]; exact el2, lf3⟩
              rw [← er]
              rfl
          refine sv_seq (sv_ifP (metOf f m ∉ G2.forms) (et_TE (ev_notInS (ev_var rfl (evs_own rfl ⟨ndp, congrArg PyData.bool (by rw [any_enc]; show (!decide (metOf f m ∈ G2.forms)) = decide (metOf f m ∉ G2.forms); by_cases z : metOf f m ∈ G2.forms <;> simp [z])⟩)))) (fun q => ?_) fun q => ?_)
          · have nm : nestL (metOf f m) ≤ 60 := Nat.le_trans (plain_nest _) ro.ne
            have im : itemsL (metOf f m) ≤ 5000 := Nat.le_trans (plain_items _) ro.it
            refine sv_seq (sv_ifP (60 < itemsL (metOf f m)) (et_TE (ev_op (ev_call (ea1 (ev_var rfl ⟨_, ⟨metOf f m, rfl, by omega, by omega, rfl⟩, ev_int (rv_b0 (congrArg PyData.bool (by rw [Bool.eq_iff_iff, decide_eq_true_eq, decide_eq_true_eq]; omega)))⟩))))) (fun q2 => ?_) fun q2 => ?_)
            · exact sv_ret (ev_non ⟨p, rfl, .inl rfl⟩)
            refine sv_next ?_
            refine sv_seq (sv_append rfl (by rw [List.length_map]; omega) (ev_var rfl ?_))
            refine sv_append rfl (by rw [List.length_map]; omega) (ev_op (ev_ixS (evs_own rfl (ev_var rfl ⟨i, _, rfl, atI_natD ewd, ev_tup (ea1 (ev_var rfl ⟨by simp, rv_catA (by simp [encNs]; omega) ?_⟩))⟩))))
            have hR : ReachG G2 (metOf f m) (w ++ [j]) { G2 with forms := G2.forms ++ [metOf f m], ways := G2.ways ++ [w ++ [j]] } G2.forms.length := .inr ⟨q, rfl, rfl⟩
            have fi3 := fi2.reach hR wn (by rw [List.length_append, List.length_singleton]; omega) (by rw [List.length_append, List.length_singleton]; omega) fun _ => by
              rw [List.length_append, List.length_singleton, ← ew]
              exact gf2.met (by omega) hmm (by omega)
            have l3 : (G2.forms ++ [metOf f m]).length ≤ 1 + 3600 * i + (j + 1) := by rw [List.length_append, List.length_singleton]; omega
            have ea : List.map enc G2.forms ++ [enc (metOf f m)] = (G2.forms ++ [metOf f m]).map enc := by simp
            have eb : List.map encWay G2.ways ++ [.tuple (encNs w ++ [.int (j : Nat)])] = (G2.ways ++ [w ++ [j]]).map encWay := by simp [encWay, encNs]
            show Sv W.T none _ [.d (enc p), .d (.int 16), .l (List.map enc G2.forms ++ [enc (metOf f m)]), .l (List.map encWay G2.ways ++ [.tuple (encNs w ++ [.int (j : Nat)])]), .l (G2.links.map encRow), .d (.int (i : Nat)), .l (encNs row), .d (.list ((pairsOf f).map encPair)), .d (.int (j : Nat)), .d (enc (metOf f m))] _
            rw [ea, eb]
            exact rest _ _ _ hR fi3 l3 (fun δ h => h)
          · have q' : metOf f m ∈ G2.forms := Classical.not_not.mp q
            obtain ⟨n, hn⟩ := List.getElem?_of_mem q'
            exact sv_next (rest _ G2 n (.inl ⟨hn, rfl⟩) fi2 (by omega) (fun δ h => h))
        · rintro δ ⟨G2, row, s8, s9, rfl, bm, fi2, el2, lf2⟩
          rw [nums_len] at bm lf2
          refine sv_freeze 6 rfl (sv_append rfl (by rw [List.length_map]; omega) (ev_var rfl ⟨{ G2 with links := G2.links ++ [row] }, .d (.int (i : Nat)), .d (.list (encNs row)), .d (.list ((pairsOf f).map encPair)), s8, s9, ?_, bm_done bm, fi2, by simp [el2], by show G2.forms.length ≤ _; omega⟩))
          show _ = [_, _, _, _, Sl.l ((G2.links ++ [row]).map encRow), _, _, _, _, _]
          rw [List.map_append]
          rfl
      · rintro δ ⟨G, s5, s6, s7, s8, s9, rfl, bi, fi, el, lf⟩
        rw [nums_len] at el lf
        exact ⟨G, s5, s6, s7, s8, s9, rfl, bi, fi, by omega, by omega⟩
    · rintro δ ⟨G, s5, s6, s7, s8, s9, rfl, bi, fi, el, lf⟩
      have l1 : (G.links.map encRow).length = G.links.length := List.length_map ..
      have l2 : (G.forms.map enc).length = G.forms.length := List.length_map ..
      refine sv_seq (sv_ifP (G.links.length < G.forms.length) (et_TE (ev_op (ev_lenS (evs_own rfl (ev_lenS (evs_own rfl (rv_b0 (congrArg PyData.bool (by rw [l1, l2, Bool.eq_iff_iff, decide_eq_true_eq, decide_eq_true_eq]; omega))))))))) (fun q => ?_) fun q => ?_)
      · exact sv_ret (ev_non ⟨p, rfl, .inl rfl⟩)
      have le := bi.le
      refine sv_next (sv_freeze 2 rfl (sv_freeze 3 rfl (sv_freeze 4 rfl (sv_ret (ev_l (evl_lst (ea3 (ev_var rfl (ev_var rfl (ev_var rfl ⟨by simp, p, rfl, .inr ⟨G, bi, fi, by omega, by omega, rfl⟩⟩))))))))))
end
end G
set_option Elab.async false
set_option linter.all false
set_option maxRecDepth 100000
set_option maxHeartbeats 1000000
/-! the tape: pick, parts, plans -/
namespace G
open PySem PySem.Spec L2 LamX NdefX PyProof.Rows
theorem fmod_rng {x m : Int} (h : 0 < m) : 0 ≤ x.fmod m ∧ x.fmod m < m := by
  rw [Int.fmod_eq_emod_of_nonneg x (by omega)]
  exact ⟨Int.emod_nonneg x (by omega), Int.emod_lt_of_pos x h⟩
section
variable {T : List (Addr × Str)} {ta : Option Addr} {δ : List Sl} {t u : TT} {ts us : TS} {P : Po} {te : TE} {K : PySem.W.Frag} {Φ : D → Prop}
/-- a test that tells something when it holds -/
theorem sv_ifQ {Q : Prop} (h : EvT T ta t δ (fun b => b = true → Q)) (k1 : Q → Sv T ta ts δ P) (k2 : Sv T ta us δ P) : Sv T ta (tIfS t ts us) δ P := sv_if (h.imp fun b e => ⟨fun z => k1 (e z), fun _ => k2⟩)
/-- .. when it fails -/
theorem sv_ifR {Q : Prop} (h : EvT T ta t δ (fun b => b = false → Q)) (k1 : Sv T ta ts δ P) (k2 : Q → Sv T ta us δ P) : Sv T ta (tIfS t ts us) δ P := sv_if (h.imp fun b e => ⟨fun _ => k1, fun z => k2 (e z)⟩)
theorem et_andQ {Q : Prop} (h1 : EvT T ta t δ fun _ => True) (h2 : EvT T ta u δ fun b => b = true → Q) : EvT T ta (tAnd t u) δ fun b => b = true → Q := et_and (h1.imp fun a _ => ⟨fun _ => h2, fun _ z => by cases z⟩)
theorem et_orX (h1 : EvT T ta t δ fun _ => True) (h2 : EvT T ta u δ fun _ => True) : EvT T ta (tOr t u) δ fun b => b = true → True := et_or (h1.imp fun a _ => ⟨fun _ _ => trivial, fun _ => h2.imp fun _ _ _ => trivial⟩)
theorem rv_ixS {z : Str} {i : Int} {c : Nat} (e : L2.atI z.cps.toList i = some c) (hz : z.length ≤ 1000000) (ok : PyData.strOk (chr c) = true) (h : Φ (.str (chr c))) : RV T ta rIxS (.str z) (.int i) Φ := fun Hs H v u Q x t a1 a2 q => by
  cases a1
  cases a2
  exact ⟨z, i, c, rfl, rfl, Nat.le_trans hz (by decide), e, q _ _ Hs H h (Stp.refl x t) (.str _ ok)⟩
/-- the next number of the script -/
theorem sv_tapeCell {a : Addr} (e : δ[0]? = some .tape) (h1 : ∀ c : Int, P.nx (δ.set 3 (.d (.int c)))) (h2 : P.nx δ) :
    Sv T (some a) (tIfS (tTest (tOp (rI0 fun i j => .bl (decide (i < j))) (tOp (rIxL K) (tVar 0) (tC (.int 1))) (tCB (rLenQ K) (tCons (tOp (rIxL K) (tVar 0) (tC (.int 0))) tNil))))
      (tSeq (tAsg (tOp (rIxL K) (tOp (rIxL K) (tVar 0) (tC (.int 0))) (tOp (rIxL K) (tVar 0) (tC (.int 1)))) (gName 3)) (tAsg (tOp (rI0 fun i j => .int (i + j)) (tOp (rIxL K) (tVar 0) (tC (.int 1))) (tC (.int 1))) (gSub (tVar 0) (tC (.int 1)) rSetL))) tNext) δ P := fun A B C E σ De nn q1 q2 q3 q4 => by
  obtain ⟨w, e1, b', rfl, e2⟩ := nn.ok.at_ 0 _ e
  cases e2
  obtain ⟨f, l, ns, i, x, y, z, k1, k2, k3⟩ := nn.ok.tp a rfl
  have k2' : E l = some (.lst (ns.map V.int)) := nn.ok.ext _ _ k2 nt_lst
  refine ⟨_, e1, a, _, 1, _, rfl, rfl, SqL.of k1, rfl, _, e1, a, _, 0, _, rfl, rfl, SqL.of k1, rfl, l, ns.map V.int, rfl, .inl (SqL.of k2'), i, _, rfl, rfl, _, rfl, ?_⟩
  by_cases lt : i < (ns.map V.int).length
  · rw [decide_eq_true lt]
    show ite (true = true) _ _
    rw [if_pos rfl]
    have hj : i.toNat < ns.length := by rw [List.length_map] at lt; omega
    have ec : L2.atI (ns.map V.int) i = some (.int ns[i.toNat]) := by
      unfold L2.atI ixN
      rw [if_pos k3, if_pos lt]
      show (ns.map V.int)[i.toNat]? = _
      rw [List.getElem?_map, List.getElem?_eq_getElem hj]
      rfl
    refine ⟨_, e1, a, _, 0, _, rfl, rfl, SqL.of k1, rfl, _, e1, a, _, 1, _, rfl, rfl, SqL.of k1, rfl, l, ns.map V.int, i, _, rfl, rfl, SqL.of k2', ec, ?_⟩
    have n2 := nn.set 3 (v := .int ns[i.toNat]) (.int ns[i.toNat])
    have e0 : (δ.set 3 (.d (.int ns[i.toNat])))[0]? = some .tape := by
      rw [List.getElem?_set_ne (by decide)]
      exact e
    exact sv_tapeSet (n := 1) (P := P) e0 (by decide) (ev_op (ev_tapeI (n := 1) e0 (by decide) fun j hj => ev_int (rv_i0 ⟨_, rfl, fun z => by have := hj z; omega, h1 _⟩))) A B C E _ De n2 q1 q2 q3 q4
  · rw [decide_eq_false lt]
    show ite (false = true) _ _
    rw [if_neg (by decide)]
    exact q1 δ C E σ h2 nn
end
def prePick : List D → Prop := fun ds => ∃ n : Nat, ds = [.int n] ∧ 1 ≤ n ∧ n ≤ 100000
def relPick : List D → D → Prop := fun ds y => ∃ n r : Nat, ds = [.int n] ∧ r < n ∧ y = .int r
section
variable {W : Wd} {k : Nat}
theorem k_law_pick (B : Bs W.K W.mg) : Keeps W.P W.w W.K W.mg W.base d_law_pick ["_law_tape_here", "_law_many"] (k + 1) (spT W.T prePick relPick) :=
  def_okT B.t_law_pick sc_law_pick (by rintro _ ⟨n, rfl, _⟩; rfl) fun cdv A outer s H E hr ds ⟨n, e, n1, n2⟩ => by
    subst e
    refine ⟨_, (pss_cons (ps_if (pt_cmpR op_gt (pe_ix (ix_listK W.K) (pv 0) pe_int (fun _ _ => rfl)) pe_int (nomark _)) (pss_cons (ps_set (i := 2) sc_law_pick.nd rfl (Or.inl rfl) (pe_op op_modN (pe_callTy call_int1 (by rfl) B.int (by decide +kernel) (pa_cons (pe_ix (ix_listK W.K) (pv 0) pe_int (fun _ _ => rfl)) pa_nil)) (pv 1)))
    (pss_cons (ps_asg (pe_op op_fdivN (pe_ix (ix_listK W.K) (pv 0) pe_int (fun _ _ => rfl)) (pv 1)) (pg_sub (pv 0) pe_int set_list))
    (pss_one (ps_ret (pv 2))))) pss_nil)
    (pss_cons (ps_asg (pe_op op_add (pe_ix (ix_listK W.K) (pv 0) pe_int (fun _ _ => rfl)) pe_int) (pg_sub (pv 0) pe_int set_list))
    (pss_cons (ps_set (i := 3) sc_law_pick.nd rfl (Or.inl rfl) pe_int)
    (pss_cons (ps_if (pt_cmpR op_lt (pe_ix (ix_listK W.K) (pv 0) pe_int (fun _ _ => rfl)) (pe_callB (call_lenK W.K) (by rfl) B.len PySem.boot_len (pa_cons (pe_ix (ix_listK W.K) (pv 0) pe_int (fun _ _ => rfl)) pa_nil)) (nomark _)) (pss_cons (ps_set (i := 3) sc_law_pick.nd rfl (Or.inl rfl) (pe_ix (ix_listK W.K) (pe_ix (ix_listK W.K) (pv 0) pe_int (fun _ _ => rfl)) (pe_ix (ix_listK W.K) (pv 0) pe_int (fun _ _ => rfl)) (fun _ _ => rfl)))
    (pss_one (ps_asg (pe_op op_add (pe_ix (ix_listK W.K) (pv 0) pe_int (fun _ _ => rfl)) pe_int) (pg_sub (pv 0) pe_int set_list)))) pss_nil)
    (pss_cons (ps_if (pt_cmpR op_ge (pv 3) (pe_op op_pow pe_int pe_int) (nomark _)) (pss_cons (ps_asg (pe_op op_fdivN (pv 3) (pv 1)) (pg_sub (pv 0) pe_int set_list))
    (pss_one (ps_ret (pe_op op_modN (pe_callTy call_int1 (by rfl) B.int (by decide +kernel) (pa_cons (pv 3) pa_nil)) (pv 1))))) pss_nil)
    (pss_cons (ps_set (i := 4) sc_law_pick.nd rfl (Or.inl rfl) (pe_op op_modN (pe_callTy call_int1 (by rfl) B.int (by decide +kernel) (pa_cons (pe_op op_add (pe_op op_add (pe_op op_mul (pe_ix (ix_listK W.K) (pv 0) pe_int (fun _ _ => rfl)) pe_int) (pe_op op_modN (pe_callTy call_int1 (by rfl) B.int (by decide +kernel) (pa_cons (pv 3) pa_nil)) pe_int)) (pe_op op_mul (pe_ix (ix_listK W.K) (pv 0) pe_int (fun _ _ => rfl)) pe_int)) pa_nil)) pe_int))
    (pss_cons (ps_set (i := 4) sc_law_pick.nd rfl (Or.inl rfl) (pe_op op_modN (pe_callTy call_int1 (by rfl) B.int (by decide +kernel) (pa_cons (pe_op op_mul (pv 4) (pe_op op_add (pe_op op_fdivN (pv 4) pe_int) pe_int)) pa_nil)) pe_int))
    (pss_cons (ps_asg (pv 4) (pg_sub (pv 0) pe_int set_list))
    (pss_one (ps_ret (pe_op op_modN (pe_callTy call_int1 (by rfl) B.int (by decide +kernel) (pa_cons (pe_op op_fdivN (pv 4) pe_int) pa_nil)) (pv 1)))))))))))), fun a => ?_⟩
    have fin : ∀ x : Int, relPick [.int (n : Nat)] (.int (x.fmod (n : Nat))) := fun x => by
      obtain ⟨h1, h2⟩ := fmod_rng (x := x) (m := (n : Nat)) (by omega)
      refine ⟨n, (x.fmod (n : Nat)).toNat, rfl, by omega, ?_⟩
      rw [Int.toNat_of_nonneg h1]
    have nz : ((n : Nat) : Int) ≠ 0 := by omega
    have dn : CDivN (0 : Int) ((n : Nat) : Int) := ⟨nz, by omega⟩
    show Sv W.T (some a) _ [.tape, .d (.int (n : Nat)), .any, .any, .any] _
    refine sv_seq (sv_if (et_T (ev_op (ev_tapeI (n := 2) rfl (by decide) fun i _ => ev_int (rv_b0 ⟨_, rfl, fun _ => ?_, fun _ => ?_⟩)))))
    · refine sv_seq (sv_set (ev_op (ev_int1 (ev_tapeI (n := 2) rfl (by decide) fun i _ => ⟨i, rfl, ev_var rfl (rv_i nz ?_)⟩))))
      refine sv_seq (sv_tapeSet (n := 2) rfl (by decide) (ev_op (ev_tapeI (n := 2) rfl (by decide) fun j _ => ev_var rfl (rv_i (show CDivN j (n : Nat) from dn) ⟨_, rfl, fun z => (by cases z), ?_⟩))))
      exact sv_ret (ev_var rfl (fin i))
    refine sv_next ?_
    refine sv_seq (sv_tapeSet (n := 4) rfl (by decide) (ev_op (ev_tapeI (n := 4) rfl (by decide) fun j _ => ev_int (rv_i0 ⟨_, rfl, fun z => (by cases z), ?_⟩))))
    refine sv_seq (sv_set (ev_int ?_))
    refine sv_seq (sv_imp (P := { nx := fun δ => ∃ c : Int, δ = [.tape, .d (.int (n : Nat)), .any, .d (.int c), .any], rt := relPick [.int (n : Nat)] }) (sv_tapeCell rfl (fun c => ⟨c, rfl⟩) ⟨0, rfl⟩) ?_ (fun _ h => h) (fun _ h => h) (fun _ h => h))
    rintro δ ⟨c, rfl⟩
    refine sv_seq (sv_if (et_T (ev_op (ev_var rfl (ev_op (ev_int (ev_int (rv_i (show CPow 10 18 from ⟨by decide, by decide, by decide⟩) (rv_b0 ⟨_, rfl, fun _ => ?_, fun _ => ?_⟩)))))))))
    · refine sv_seq (sv_tapeSet (n := 2) rfl (by decide) (ev_op (ev_var rfl (ev_var rfl (rv_i (show CDivN c (n : Nat) from dn) ⟨_, rfl, fun z => (by cases z), ?_⟩)))))
      exact sv_ret (ev_op (ev_int1 (ev_var rfl ⟨c, rfl, ev_var rfl (rv_i nz (fin c))⟩)))
    refine sv_next ?_
    refine sv_seq (sv_set (ev_op (ev_int1 (ev_op (ev_op (ev_op (ev_tapeI (n := 3) rfl (by decide) fun y _ => ev_int (rv_i (show CMul y 48271 from .inr (by decide)) (ev_op (ev_int1 (ev_var rfl ⟨c, rfl, ev_int (rv_i (by decide) (rv_i0 (ev_op (ev_tapeI (n := 4) rfl (by decide) fun z _ => ev_int (rv_i (show CMul z 69621 from .inr (by decide)) (rv_i0 ⟨_, rfl, ev_int (rv_i (by decide) ?_)⟩))))))⟩)))))))))))
    generalize eM : Int.fmod _ 2147483647 = m
    have hm : 0 ≤ m ∧ m < 2147483647 := by
      rw [← eM]
      exact fmod_rng (by decide)
    clear eM
    refine sv_seq (sv_set (ev_op (ev_int1 (ev_op (ev_var rfl (ev_op (ev_op (ev_var rfl (ev_int (rv_i (show CDivN m 1009 from ⟨by decide, by decide⟩) (ev_int (rv_i0 (rv_i (show CMul m _ from .inl (by omega)) ⟨_, rfl, ev_int (rv_i (by decide) ?_)⟩)))))))))))))
    generalize Int.fmod _ 2147483399 = m2
    refine sv_seq (sv_tapeSet (n := 3) rfl (by decide) (ev_var rfl ⟨_, rfl, fun z => (by cases z), ?_⟩))
    exact sv_ret (ev_op (ev_int1 (ev_op (ev_var rfl (ev_int (rv_i (show CDivN m2 16 from ⟨by decide, by decide⟩) ⟨_, rfl, ev_var rfl (rv_i nz (fin _))⟩))))))
end
end G
set_option Elab.async false
set_option linter.all false
set_option maxRecDepth 100000
set_option maxHeartbeats 1000000
/-! drawn parts and plans -/
namespace G
open PySem PySem.Spec L2 LamX NdefX PyProof.Rows
mutual
theorem itemsP_size : ∀ p : Part, posP p → (itemsP p : Int) + 1 ≤ sizeP p
  | .name w, _ => by simp [itemsP, sizeP]
  | .got i, _ => by simp [itemsP, sizeP]
  | .nest k d b, h => by
    have := itemsL_size b (by simpa only [posP] using h)
    simp only [itemsP, sizeP]
    omega
theorem itemsL_size : ∀ p : Plan, posL p → (itemsL p : Int) ≤ sizeL p
  | [], _ => by simp [itemsL, sizeL]
  | (c, q) :: r, h => by
    simp only [posL] at h
    have h1 := itemsP_size q h.2.1
    have h2 := itemsL_size r h.2.2
    have h3 : 1 * sizeP q ≤ c * sizeP q := Int.mul_le_mul_of_nonneg_right h.1 (by omega)
    simp only [itemsL, sizeL]
    omega
end
theorem smP_of {q : Part} (pos : posP q) (h : sizeP q ≤ 1000) : SmP q := by
  have h1 := itemsP_size q pos
  exact ⟨pos, sm_small (by omega), by omega⟩
section
variable {T : List (Addr × Str)} {ta : Option Addr} {δ : List Sl} {te tx tb tc td : TE} {Φ : D → Prop}
theorem ea4 {Φ : List D → Prop} (h : Ev T ta tx δ fun d => Ev T ta tb δ fun e => Ev T ta tc δ fun f => Ev T ta td δ fun g => Φ [d, e, f, g]) : EvA T ta (tCons tx (tCons tb (tCons tc (tCons td tNil)))) δ Φ := ea_cons (h.imp fun _ q => ea3 q)
theorem ev_callP {a : Addr} {i : Nat} {E : XK} (e : δ[i]? = some .tape) (h : Ev T (some a) te δ fun d => ∃ n : Nat, d = .int n ∧ 1 ≤ n ∧ n ≤ 100000 ∧ ∀ r : Nat, r < n → Φ (.int r)) : Ev T (some a) (tCall (spT T prePick relPick) [] E (tCons (tVar i) (tCons te tNil))) δ Φ :=
  ev_callT e (ea1 (h.imp fun d ⟨n, ed, h1, h2, q⟩ => by
    subst ed
    refine ⟨⟨n, rfl, h1, h2⟩, fun y ⟨n', r, e1, hr, e2⟩ => ?_⟩
    subst e2
    have en : ((n : Nat) : Int) = (n' : Nat) := by
      have := List.head_eq_of_cons_eq e1
      exact PyData.int.inj this
    exact q r (by omega)))
end
def prePl (n : Int) : List D → Prop := fun ds => ∃ (left : Int) (depth : Nat) (ws : List D), ds = [.int left, .int (depth : Nat), .str "ab", .list ws] ∧ (ws = [] ∨ ws = [.str "x"]) ∧ 0 ≤ left ∧ left < n ∧ (depth : Int) + left ≤ 100
def relPl : List D → D → Prop := fun ds y => ∃ (left : Int) (depth : Nat) (ws : List D) (p : Plan), ds = [.int left, .int (depth : Nat), .str "ab", .list ws] ∧ y = enc p ∧ okL (depth : Nat) p ∧ sizeL p ≤ left
def prePt (n : Int) : List D → Prop := fun ds => ∃ (left : Int) (depth : Nat) (ws : List D), ds = [.int left, .int (depth : Nat), .str "ab", .list ws] ∧ (ws = [] ∨ ws = [.str "x"]) ∧ 1 ≤ left ∧ left < n ∧ (depth : Int) + left ≤ 100
def relPt : List D → D → Prop := fun ds y => ∃ (left : Int) (depth : Nat) (ws : List D) (q : Part), ds = [.int left, .int (depth : Nat), .str "ab", .list ws] ∧ y = encP q ∧ okP (depth : Nat) q ∧ sizeP q ≤ left
theorem relPl_of {left : Int} {depth : Nat} {ws : List D} {y : D} (h : relPl [.int left, .int (depth : Nat), .str "ab", .list ws] y) : ∃ p, y = enc p ∧ okL (depth : Nat) p ∧ sizeL p ≤ left := by
  obtain ⟨l', d', w', p, e, e2, h1, h2⟩ := h
  have e' := e
  simp only [List.cons.injEq, PyData.int.injEq] at e'
  have hd : d' = depth := by omega
  subst hd
  exact ⟨p, e2, h1, by omega⟩
theorem relPt_of {left : Int} {depth : Nat} {ws : List D} {y : D} (h : relPt [.int left, .int (depth : Nat), .str "ab", .list ws] y) : ∃ q, y = encP q ∧ okP (depth : Nat) q ∧ sizeP q ≤ left := by
  obtain ⟨l', d', w', p, e, e2, h1, h2⟩ := h
  have e' := e
  simp only [List.cons.injEq, PyData.int.injEq] at e'
  have hd : d' = depth := by omega
  subst hd
  exact ⟨p, e2, h1, by omega⟩
theorem ab_len : ("ab" : Str).length = 2 := by rfl
theorem ab_at {r : Nat} (h : r < 2) : ∃ c, L2.atI ("ab" : Str).cps.toList (r : Nat) = some c ∧ 97 ≤ c ∧ c ≤ 122 := by
  have e : r = 0 ∨ r = 1 := by omega
  rcases e with rfl | rfl
  · exact ⟨97, by decide +kernel, by decide, by decide⟩
  · exact ⟨98, by decide +kernel, by decide, by decide⟩
theorem x_chr : chr 120 = ("x" : Str) := by decide +kernel
section
variable {W : Wd} {k : Nat}
theorem k_law_part (B : Bs W.K W.mg) {n : Int} (h_law_pick : Keeps W.P W.w W.K W.mg W.base d_law_pick ["_law_tape_here", "_law_many"] k (spT W.T prePick relPick)) (h_law_plan : Keeps W.P W.w W.K W.mg W.base d_law_plan ["_law_tape_here", "_law_left", "_law_depth", "_law_letters", "_law_words"] k (spT W.T (prePl n) relPl)) :
    Keeps W.P W.w W.K W.mg W.base d_law_part ["_law_tape_here", "_law_left", "_law_depth", "_law_letters", "_law_words"] (k + 1) (spT W.T (prePt (n + 1)) relPt) :=
  def_okT B.t_law_part sc_law_part (by rintro _ ⟨left, depth, ws, rfl, _⟩; rfl) fun cdv A outer s H E hr ds ⟨left, depth, ws, e, hw, l1, l2, l3⟩ => by
    subst e
    refine ⟨_, (pss_cons (ps_set (i := 5) sc_law_part.nd rfl (Or.inl rfl) (pe_k h_law_pick hr rfl B.m_law_pick (pa_cons (pv 0) (pa_cons pe_int pa_nil))))
    (pss_cons (ps_if (PW.pt (pw_and (pt_cmpR op_lt (pv 1) pe_int (nomark _)) (pw_and1 (pt_cmpR op_gt (pv 5) pe_int (nomark _))))) (pss_one (ps_set (i := 5) sc_law_part.nd rfl (Or.inl rfl) (pe_k h_law_pick hr rfl B.m_law_pick (pa_cons (pv 0) (pa_cons pe_int pa_nil))))) pss_nil)
    (pss_cons (ps_set (i := 6) sc_law_part.nd rfl (Or.inl rfl) (pe_ix ix_str (pv 3) (pe_k h_law_pick hr rfl B.m_law_pick (pa_cons (pv 0) (pa_cons (pe_callB call_len_str (by rfl) B.len PySem.boot_len (pa_cons (pv 3) pa_nil)) pa_nil))) (fun _ _ => rfl)))
    (pss_cons (ps_if (PW.pt (pw_and (pt_cmpR (op_eqK W.K (u200 hr)) (pv 5) pe_int (nomark _)) (pw_and1 (pt_cmpR op_gt (pe_callB (call_lenK W.K) (by rfl) B.len PySem.boot_len (pa_cons (pv 4) pa_nil)) pe_int (nomark _))))) (pss_one (ps_ret (pe_tup (pa_cons pe_str (pa_cons (pe_ix (ix_listK W.K) (pv 4) (pe_k h_law_pick hr rfl B.m_law_pick (pa_cons (pv 0) (pa_cons (pe_callB (call_lenK W.K) (by rfl) B.len PySem.boot_len (pa_cons (pv 4) pa_nil)) pa_nil))) (fun _ _ => rfl)) pa_nil))))) pss_nil)
    (pss_cons (ps_if (PW.pt (pw_and (pt_cmpR op_lt (pv 5) pe_int (nomark _)) (pw_and1 (pt_cmpR op_gt (pv 2) pe_int (nomark _))))) (pss_one (ps_ret (pe_tup (pa_cons pe_str (pa_cons (pe_ix (ix_listK W.K) (pe_lst (pa_cons pe_int (pa_cons pe_int (pa_cons (pe_k h_law_pick hr rfl B.m_law_pick (pa_cons (pv 0) (pa_cons (pv 2) pa_nil))) pa_nil)))) (pe_k h_law_pick hr rfl B.m_law_pick (pa_cons (pv 0) (pa_cons pe_int pa_nil))) (fun _ _ => rfl)) pa_nil))))) pss_nil)
    (pss_cons (ps_if (PW.pt (pw_or (pt_cmpR (op_eqK W.K (u200 hr)) (pv 5) pe_int (nomark _)) (pw_or1 (pt_cmpR (op_eqK W.K (u200 hr)) (pv 5) pe_int (nomark _))))) (pss_one (ps_ret (pe_tup (pa_cons pe_str (pa_cons (pv 6) (pa_cons (pe_k h_law_plan hr rfl B.m_law_plan (pa_cons (pv 0) (pa_cons (pe_op op_sub (pv 1) pe_int) (pa_cons (pv 2) (pa_cons (pv 3) (pa_cons (pv 4) pa_nil)))))) pa_nil)))))) pss_nil)
    (pss_one (ps_ret (pe_tup (pa_cons pe_str (pa_cons (pv 6) (pa_cons (pe_k h_law_plan hr rfl B.m_law_plan (pa_cons (pv 0) (pa_cons (pe_op op_sub (pv 1) pe_int) (pa_cons (pe_op op_add (pv 2) pe_int) (pa_cons (pv 3) (pa_cons (pv 4) pa_nil)))))) pa_nil)))))))))))), fun a => ?_⟩
    show Sv W.T (some a) _ [.tape, .d (.int left), .d (.int (depth : Nat)), .d (.str "ab"), .d (.list ws), .any, .any] _
    refine sv_seq (sv_set (ev_callP rfl (ev_int ⟨6, rfl, by decide, by decide, fun r0 _ => ?_⟩)))
    refine sv_seq (sv_imp (P := { nx := fun δ => ∃ r : Nat, δ = [.tape, .d (.int left), .d (.int (depth : Nat)), .d (.str "ab"), .d (.list ws), .d (.int (r : Nat)), .any], rt := relPt [.int left, .int (depth : Nat), .str "ab", .list ws] }) ?_ ?_ (fun _ h => h) (fun _ h => h) (fun _ h => h))
    · refine sv_ifQ (Q := True) (et_andQ (et_T (ev_op (ev_var rfl (ev_int (rv_b0 ⟨_, rfl, trivial⟩))))) (et_T (ev_op (ev_var rfl (ev_int (rv_b0 ⟨_, rfl, fun _ => trivial⟩)))))) (fun _ => ?_) (sv_next ⟨r0, rfl⟩)
      exact sv_set (ev_callP rfl (ev_int ⟨4, rfl, by decide, by decide, fun r _ => ⟨r, rfl⟩⟩))
    rintro δ ⟨r, rfl⟩
    refine sv_seq (sv_set (ev_op (ev_var rfl (ev_callP rfl (ev_lenStr (ev_var rfl ⟨_, rfl, by decide, 2, by rw [ab_len], by decide, by decide, fun j hj => ?_⟩))))))
    obtain ⟨c, ec, c1, c2⟩ := ab_at hj
    refine rv_ixS ec (by decide) (chr_ok ⟨c1, c2⟩) ?_
    have ok97 : PyData.strOk (chr c) = true := chr_ok ⟨c1, c2⟩
    -- a name
    refine sv_seq (sv_ifQ (Q := ws ≠ []) (et_andQ (et_T (ev_op (ev_var rfl (ev_int (rv_eqI ⟨_, rfl, trivial⟩))))) (et_T (ev_op (ev_len (ev_var rfl ⟨ws.length, rfl, ev_int (rv_b0 ⟨_, rfl, fun z => ?_⟩)⟩))))) (fun q => ?_) (sv_next ?_))
    · have := of_decide_eq_true z
      intro y
      rw [y] at this
      simp at this
    · rcases hw with hw | hw
      · exact absurd hw q
      subst hw
      refine sv_ret (ev_tup (ea2 (ev_str (ev_op (ev_var rfl (ev_callP rfl (ev_len (ev_var rfl ⟨1, rfl, 1, rfl, by decide, by decide, fun j hj => ?_⟩))))))))
      obtain rfl : j = 0 := by omega
      refine rv_ixL (d := .str "x") rfl ⟨by simp, left, depth, _, .name 120, rfl, ?_, ?_, ?_⟩
      · simp only [encP]
        rw [x_chr]
      · simp only [okP]
        omega
      · simp only [sizeP]
        omega
    -- a got
    refine sv_seq (sv_ifQ (Q := 1 ≤ depth) (et_andQ (et_T (ev_op (ev_var rfl (ev_int (rv_b0 ⟨_, rfl, trivial⟩))))) (et_T (ev_op (ev_var rfl (ev_int (rv_b0 ⟨_, rfl, fun z => ?_⟩)))))) (fun q => ?_) (sv_next ?_))
    · have := of_decide_eq_true z
      omega
    · refine sv_ret (ev_tup (ea2 (ev_str (ev_ixS (evs_l (evl_lst (ea3 (ev_int (ev_int (ev_callP rfl (ev_var rfl ⟨depth, rfl, q, by omega, fun j hj => ⟨by simp, ev_callP rfl (ev_int ⟨3, rfl, by decide, by decide, fun j3 h3 => ?_⟩)⟩⟩)))))))))))
      have key : ∃ i : Int, ([.int 0, .int 0, .int (j : Nat)] : List D)[j3]? = some (.int i) ∧ 0 ≤ i ∧ i < depth := by
        have e3 : j3 = 0 ∨ j3 = 1 ∨ j3 = 2 := by omega
        rcases e3 with rfl | rfl | rfl
        · exact ⟨0, rfl, by omega, by omega⟩
        · exact ⟨0, rfl, by omega, by omega⟩
        · exact ⟨j, rfl, by omega, by omega⟩
      obtain ⟨i, ei, i1, i2⟩ := key
      refine ⟨j3, _, rfl, atI_natD ei, by simp, left, depth, _, .got i, rfl, ?_, ?_, ?_⟩
      · simp only [encP]
      · simp only [okP]
        omega
      · simp only [sizeP]
        omega
    -- a letter
    refine sv_seq (sv_ifQ (Q := True) (et_orX (et_T (ev_op (ev_var rfl (ev_int (rv_eqI ⟨_, rfl, trivial⟩))))) (et_T (ev_op (ev_var rfl (ev_int (rv_eqI ⟨_, rfl, trivial⟩)))))) (fun _ => ?_) (sv_next ?_))
    · refine sv_ret (ev_tup (ea3 (ev_str (ev_var rfl (ev_callT rfl (ea4 (ev_op (ev_var rfl (ev_int (rv_i0 (ev_var rfl (ev_var rfl (ev_var rfl ⟨⟨left - 1, depth, ws, rfl, hw, by omega, by omega, by omega⟩, fun y hy => ?_⟩)))))))))))))
      obtain ⟨p, rfl, h1, h2⟩ := relPl_of hy
      refine ⟨by simp, left, depth, ws, .nest false c p, rfl, ?_, ?_, ?_⟩
      · simp only [encP]
        rfl
      · simp only [okP]
        exact ⟨⟨c1, c2⟩, h1⟩
      · simp only [sizeP]
        omega
    · refine sv_ret (ev_tup (ea3 (ev_str (ev_var rfl (ev_callT rfl (ea4 (ev_op (ev_var rfl (ev_int (rv_i0 (ev_op (ev_var rfl (ev_int (rv_i0 (ev_var rfl (ev_var rfl ⟨⟨left - 1, depth + 1, ws, rfl, hw, by omega, by omega, by omega⟩, fun y hy => ?_⟩))))))))))))))))
      obtain ⟨p, rfl, h1, h2⟩ := relPl_of (depth := depth + 1) hy
      refine ⟨by simp, left, depth, ws, .nest true c p, rfl, ?_, ?_, ?_⟩
      · simp only [encP]
        rfl
      · simp only [okP]
        exact ⟨⟨c1, c2⟩, h1⟩
      · simp only [sizeP]
        omega
theorem k_law_plan (B : Bs W.K W.mg) {n : Int} (h_law_pick : Keeps W.P W.w W.K W.mg W.base d_law_pick ["_law_tape_here", "_law_many"] k (spT W.T prePick relPick)) (h_law_part_size : Kp W d_law_part_size ["_law_part_here"] k (rSizeP 61)) (h_law_part : Keeps W.P W.w W.K W.mg W.base d_law_part ["_law_tape_here", "_law_left", "_law_depth", "_law_letters", "_law_words"] k (spT W.T (prePt n) relPt)) (n10 : n ≤ 20) :
    Keeps W.P W.w W.K W.mg W.base d_law_plan ["_law_tape_here", "_law_left", "_law_depth", "_law_letters", "_law_words"] (k + 1) (spT W.T (prePl n) relPl) :=
  def_okT B.t_law_plan sc_law_plan (by rintro _ ⟨left, depth, ws, rfl, _⟩; rfl) fun cdv A outer s H E hr ds ⟨left, depth, ws, e, hw, l1, l2, l3⟩ => by
    subst e
    refine ⟨_, (pss_cons (ps_set (i := 5) sc_law_plan.nd rfl (Or.inl rfl) (pe_lst pa_nil))
    (pss_cons (ps_for PassesOwn.never rfl (pi_range1 (by rfl) B.range (pa_cons pe_int pa_nil)) (pg_name (i := 6) sc_law_plan.nd rfl (Or.inl rfl)) (pss_cons (ps_if (PW.pt (pw_or (pt_cmpR op_lt (pv 1) pe_int (nomark _)) (pw_or1 (pt_cmpR (op_eqK W.K (u200 hr)) (pe_k h_law_pick hr rfl B.m_law_pick (pa_cons (pv 0) (pa_cons pe_int pa_nil))) pe_int (nomark _))))) (pss_one ps_break) pss_nil)
    (pss_cons (ps_set (i := 7) sc_law_plan.nd rfl (Or.inl rfl) (pe_ix (ix_listK W.K) (pe_lst (pa_cons pe_int (pa_cons pe_int (pa_cons pe_int (pa_cons pe_int (pa_cons pe_int pa_nil)))))) (pe_k h_law_pick hr rfl B.m_law_pick (pa_cons (pv 0) (pa_cons pe_int pa_nil))) (fun _ _ => rfl)))
    (pss_cons (ps_if (pt_cmpR op_gt (pv 7) (pv 1) (nomark _)) (pss_one (ps_set (i := 7) sc_law_plan.nd rfl (Or.inl rfl) pe_int)) pss_nil)
    (pss_cons (ps_set (i := 8) sc_law_plan.nd rfl (Or.inl rfl) (pe_k h_law_part hr rfl B.m_law_part (pa_cons (pv 0) (pa_cons (pe_op op_fdivN (pv 1) (pv 7)) (pa_cons (pv 2) (pa_cons (pv 3) (pa_cons (pv 4) pa_nil)))))))
    (pss_cons (ps_expr (pe_bm PySem.F.plainAttrs_list PySem.F.slot_list_append PySem.F.type_list_append mt_append (pv 5) (pa_cons (pe_tup (pa_cons (pv 7) (pa_cons (pv 8) pa_nil))) pa_nil)))
    (pss_one (ps_set (i := 1) sc_law_plan.nd rfl (Or.inl rfl) (pe_op op_sub (pv 1) (pe_op op_mulB (pv 7) (pe_k h_law_part_size hr rfl B.m_law_part_size (pa_cons (pv 8) pa_nil))))))))))))
    (pss_one (ps_ret (pe_callTy call_tuple_of (by rfl) B.tuple (by decide +kernel) (pa_cons (pv 5) pa_nil)))))), fun a => ?_⟩
    show Sv W.T (some a) _ [.tape, .d (.int left), .d (.int (depth : Nat)), .d (.str "ab"), .d (.list ws), .any, .any, .any, .any] _
    refine sv_seq (sv_setL (evl_lst (ea_nil ⟨by simp, ?_⟩)))
    refine sv_seq (sv_imp (P := { nx := fun δ => ∃ (p : Plan) (lf : Int) (s6 s7 s8 : Sl), δ = [.tape, .d (.int lf), .d (.int (depth : Nat)), .d (.str "ab"), .d (.list ws), .l (encL p), s6, s7, s8] ∧ okL (depth : Nat) p ∧ sizeL p ≤ left, rt := relPl [.int left, .int (depth : Nat), .str "ab", .list ws] }) ?_ ?_ (fun _ h => h) (fun _ h => h) (fun _ h => h))
    · refine sv_for (js := [6]) (ei_range (ev_int ⟨6, rfl, by decide, fun i δ => ∃ (p : Plan) (lf : Int) (s6 s7 s8 : Sl), δ = [.tape, .d (.int lf), .d (.int (depth : Nat)), .d (.str "ab"), .d (.list ws), .l (encL p), s6, s7, s8] ∧ 0 ≤ lf ∧ okL (depth : Nat) p ∧ sizeL p + lf ≤ left ∧ p.length ≤ i, ⟨[], left, _, _, _, rfl, l1, by simp [okL], by simp [sizeL], by simp⟩, ?_, ?_⟩))
      · rintro i x δ hx ⟨p, lf, s6, s7, s8, rfl, lf0, ok, sz, pl⟩
        obtain ⟨hi, rfl⟩ := nums_get hx
        have snn := sizeL_nn p (okL_pos p _ ok)
        refine gt_name ?_
        refine sv_seq (sv_ifR (Q := 1 ≤ lf) (et_or (et_T (ev_op (ev_var rfl (ev_int (rv_b0 ⟨_, rfl, fun _ z => (by cases z), fun z => et_T (ev_op (ev_callP rfl (ev_int ⟨5, rfl, by decide, by decide, fun r _ => ev_int (rv_eqI ⟨_, rfl, fun _ => ?_⟩)⟩)))⟩)))))) (sv_brk ⟨p, lf, _, _, _, rfl, ok, by omega⟩) fun q => sv_next ?_)
        · have := of_decide_eq_false z
          omega
        refine sv_seq (sv_set (ev_ixS (evs_l (evl_lst (ea_cons (ev_int (ea_cons (ev_int (ea_cons (ev_int (ea_cons (ev_int (ea_cons (ev_int (ea_nil ⟨by simp, ev_callP rfl (ev_int ⟨5, rfl, by decide, by decide, fun j hj => ?_⟩)⟩)))))))))))))))
        have key : ∃ c : Int, ([.int 1, .int 1, .int 1, .int 2, .int 3] : List D)[j]? = some (.int c) ∧ 1 ≤ c ∧ c ≤ 3 := by
          have e5 : j = 0 ∨ j = 1 ∨ j = 2 ∨ j = 3 ∨ j = 4 := by omega
          rcases e5 with rfl | rfl | rfl | rfl | rfl
          · exact ⟨1, rfl, by omega, by omega⟩
          · exact ⟨1, rfl, by omega, by omega⟩
          · exact ⟨1, rfl, by omega, by omega⟩
          · exact ⟨2, rfl, by omega, by omega⟩
          · exact ⟨3, rfl, by omega, by omega⟩
        obtain ⟨c0, ec, c1, c3⟩ := key
        refine ⟨j, _, rfl, atI_natD ec, ?_⟩
        refine sv_seq (sv_imp (P := { nx := fun δ => ∃ c : Int, δ = [.tape, .d (.int lf), .d (.int (depth : Nat)), .d (.str "ab"), .d (.list ws), .l (encL p), .d (.int (i : Nat)), .d (.int c), s8] ∧ 1 ≤ c ∧ c ≤ 3 ∧ c ≤ lf, rt := relPl [.int left, .int (depth : Nat), .str "ab", .list ws] }) ?_ ?_ (fun _ h => h) (fun _ h => h.elim) (fun _ h => h.elim))
        · refine sv_ifR (Q := c0 ≤ lf) (et_T (ev_op (ev_var rfl (ev_var rfl (rv_b0 ⟨_, rfl, fun z => ?_⟩))))) (sv_set (ev_int ⟨1, rfl, by omega, by omega, by omega⟩)) fun z => sv_next ⟨c0, rfl, c1, c3, z⟩
          have := of_decide_eq_false z
          omega
        rintro δ ⟨c, rfl, d1, d3, dl⟩
        have hdv : lf.fdiv c = lf / c := Int.fdiv_eq_ediv_of_nonneg lf (by omega)
        have q1 : c * (lf / c) ≤ lf := Int.mul_ediv_self_le (by omega)
        have q2 : 1 ≤ lf / c := by
          rw [Int.le_ediv_iff_mul_le (by omega)]
          omega
        have q3 : lf / c ≤ lf := Int.ediv_le_self c lf0
        refine sv_seq (sv_set (ev_callT rfl (ea4 (ev_op (ev_var rfl (ev_var rfl (rv_i (show CDivN lf c from ⟨by omega, by omega⟩) (ev_var rfl (ev_var rfl (ev_var rfl ⟨⟨lf.fdiv c, depth, ws, rfl, hw, by omega, by omega, by omega⟩, fun y hy => ?_⟩))))))))))
        obtain ⟨u, rfl, ou, su⟩ := relPt_of hy
        rw [hdv] at su
        have pu := okP_pos u _ ou
        have p1 := sizeP_pos u pu
        have smu := smP_of pu (by omega)
        have iu := itemsP_size u pu
        have nu := nestP_items u
        have k1 : c * sizeP u ≤ c * (lf / c) := Int.mul_le_mul_of_nonneg_left su (by omega)
        have k0 : 0 ≤ c * sizeP u := Int.mul_nonneg (by omega) (by omega)
        refine sv_seq (sv_append rfl (by rw [encL_len]; omega) (ev_tup (ea2 (ev_var rfl (ev_var rfl ⟨by simp, ?_⟩)))))
        refine sv_set (ev_op (ev_var rfl (ev_op (ev_var rfl (ev_call (ea1 (ev_var rfl ⟨_, ⟨u, rfl, by omega, smu, rfl⟩, rv_i (Sm.mul (sm_small (by omega)) smu.sm) (rv_i0 ?_)⟩)))))))
        refine ⟨p ++ [(c, u)], lf - c * sizeP u, .d (.int (i : Nat)), .d (.int c), .d (encP u), ?_, by omega, okL_append ok (by simp only [okL]; exact ⟨d1, ou, trivial⟩), ?_, by simp; omega⟩
        · rw [encL_append]
          rfl
        · rw [sizeL_append]
          simp only [sizeL]
          omega
      · rintro δ ⟨p, lf, s6, s7, s8, rfl, lf0, ok, sz, pl⟩
        exact ⟨p, lf, _, _, _, rfl, ok, by omega⟩
    rintro δ ⟨p, lf, s6, s7, s8, rfl, ok, sz⟩
    exact sv_ret (ev_tupleS (evs_own rfl ⟨left, depth, ws, p, rfl, rfl, ok, sz⟩))
end
end G
set_option Elab.async false
set_option linter.all false
set_option maxRecDepth 100000
set_option maxHeartbeats 1000000
/-! the stage; the tape -/
namespace G
open PySem PySem.Spec L2 LamX NdefX PyProof.Rows
section
variable {T : List (Addr × Str)} {ta : Option Addr} {δ : List Sl} {te td : TE} {tr : TA} {Φ : D → Prop}
/-! displays with values told -/
theorem eE_nil : EvA T ta tNil δ (· = []) := ea_nil rfl
theorem eE_cons {d : D} {ds : List D} (h : Ev T ta te δ (· = d)) (k : EvA T ta tr δ (· = ds)) : EvA T ta (tCons te tr) δ (· = d :: ds) := ea_cons (h.imp fun _ e => by
  subst e
  exact fun Hs H σ Q o q => k Hs H σ Q o fun ds vs Hs' H' e s a => q ds vs Hs' H' (by rw [e]) s a)
theorem eE_tup {ds : List D} (h : EvA T ta tr δ (· = ds)) (hz : ds.length ≤ 1000000 := by simp) : Ev T ta (tTup tr) δ (· = .tuple ds) := ev_tup fun Hs H σ Q o q => h Hs H σ Q o fun ds vs Hs' H' e s a => q ds vs Hs' H' (by subst e; exact ⟨hz, rfl⟩) s a
theorem eE_str {x : Str} (ok : PyData.strOk x = true := by decide +kernel) : Ev T ta (tC (.str x)) δ (· = .str x) := ev_str rfl ok
theorem eE_int {i : Int} : Ev T ta (tC (.int i)) δ (· = .int i) := ev_int rfl
theorem eE_var {i : Nat} {x : D} (e : δ[i]? = some (.d x)) : Ev T ta (tVar i) δ (· = x) := ev_var e rfl
end
/-- what comes to itself -/
def src (c : Nat) : Part := .nest true c [(1, .got 0), (1, .nest false c [(1, .got 0)])]
theorem src_enc (c : Nat) : encP (src c) = .tuple [.str "wait", .str (chr c), .tuple [.tuple [.int 1, .tuple [.str "got", .int 0]], .tuple [.int 1, .tuple [.str "letter", .str (chr c), .tuple [.tuple [.int 1, .tuple [.str "got", .int 0]]]]]]] := by
  simp [src, encP, encL, kindS]
theorem src_enc2 (c : Nat) : encP (.nest false c [(1, src c)]) = .tuple [.str "letter", .str (chr c), .tuple [.tuple [.int 1, encP (src c)]]] := by
  simp [encP, encL, kindS]
theorem src_ok {c : Nat} (h : 97 ≤ c ∧ c ≤ 122) : okP 0 (src c) ∧ okP 0 (.nest false c [(1, src c)]) := by
  simp [src, okP, okL, h]
theorem src_size (c : Nat) : sizeP (src c) = 4 ∧ sizeP (.nest false c [(1, src c)]) = 5 ∧ itemsP (src c) = 3 ∧ itemsP (.nest false c [(1, src c)]) = 4 := by
  simp [src, sizeP, sizeL, itemsP, itemsL]
section
variable {T : List (Addr × Str)} {ta : Option Addr} {δ : List Sl} {td ts : TE} {Φ : D → Prop}
theorem ev_src {c : Nat} (h : Ev T ta td δ (· = .str (chr c))) (q : Φ (encP (src c))) :
    Ev T ta (tTup (tCons (tC (.str "wait")) (tCons td (tCons (tTup (tCons (tTup (tCons (tC (.int 1)) (tCons (tTup (tCons (tC (.str "got")) (tCons (tC (.int 0)) tNil))) tNil))) (tCons (tTup (tCons (tC (.int 1)) (tCons (tTup (tCons (tC (.str "letter")) (tCons td (tCons (tTup (tCons (tTup (tCons (tC (.int 1)) (tCons (tTup (tCons (tC (.str "got")) (tCons (tC (.int 0)) tNil))) tNil))) tNil)) tNil)))) tNil))) tNil))) tNil)))) δ Φ :=
  ev_known (d := encP (src c)) (by
    rw [src_enc]
    exact eE_tup (eE_cons eE_str (eE_cons h (eE_cons (eE_tup (eE_cons (eE_tup (eE_cons eE_int (eE_cons (eE_tup (eE_cons eE_str (eE_cons eE_int eE_nil))) eE_nil))) (eE_cons (eE_tup (eE_cons eE_int (eE_cons (eE_tup (eE_cons eE_str (eE_cons h (eE_cons (eE_tup (eE_cons (eE_tup (eE_cons eE_int (eE_cons (eE_tup (eE_cons eE_str (eE_cons eE_int eE_nil))) eE_nil))) eE_nil)) eE_nil)))) eE_nil))) eE_nil))) eE_nil)))) q
theorem eE_letter {c : Nat} (h : Ev T ta td δ (· = .str (chr c))) (k : Ev T ta ts δ (· = encP (src c))) :
    Ev T ta (tTup (tCons (tC (.int 1)) (tCons (tTup (tCons (tC (.str "letter")) (tCons td (tCons (tTup (tCons (tTup (tCons (tC (.int 1)) (tCons ts tNil))) tNil)) tNil)))) tNil))) δ (· = .tuple [.int 1, encP (.nest false c [(1, src c)])]) := by
  rw [src_enc2]
  exact eE_tup (eE_cons eE_int (eE_cons (eE_tup (eE_cons eE_str (eE_cons h (eE_cons (eE_tup (eE_cons (eE_tup (eE_cons eE_int (eE_cons k eE_nil))) eE_nil)) eE_nil)))) eE_nil))
end
def preSt : List D → Prop := fun ds => ds = [.str "ab", .int 4]
def relSt : List D → D → Prop := fun ds y => ∃ p : Plan, y = enc p ∧ okL 0 p ∧ itemsL p ≤ 36 ∧ sizeL p ≤ 60
structure St1 (p : Plan) (i : Nat) : Prop where
  ok : okL 0 p
  it : itemsL p ≤ 9 * i
  sz : sizeL p ≤ 15 * i
  len : p.length ≤ 2 * i
theorem St1.one {p : Plan} {i : Nat} (h : St1 p i) {c : Int} {q : Part} (c1 : 1 ≤ c) (c3 : c ≤ 3) (ok : okP 0 q) (it : itemsP q ≤ 4) (sz : sizeP q ≤ 5) : St1 (p ++ [(c, q)]) (i + 1) := by
  have p1 := sizeP_pos q (okP_pos q 0 ok)
  have k : c * sizeP q ≤ 3 * 5 := Int.mul_le_mul c3 sz (by omega) (by omega)
  have h1 := h.it
  have h2 := h.sz
  have h3 := h.len
  refine ⟨okL_append h.ok (by simp only [okL]; exact ⟨c1, ok, trivial⟩), ?_, ?_, by rw [List.length_append, List.length_singleton]; omega⟩
  · rw [itemsL_append]
    simp only [itemsL]
    omega
  · rw [sizeL_append]
    simp only [sizeL]
    omega
theorem St1.two {p : Plan} {i c : Nat} (h : St1 p i) (hc : 97 ≤ c ∧ c ≤ 122) : St1 (p ++ [(1, src c)] ++ [(1, .nest false c [(1, src c)])]) (i + 1) := by
  obtain ⟨o1, o2⟩ := src_ok hc
  obtain ⟨s1, s2, i1, i2⟩ := src_size c
  have h1 := h.it
  have h2 := h.sz
  have h3 := h.len
  refine ⟨okL_append (okL_append h.ok (by simp only [okL]; exact ⟨by omega, o1, trivial⟩)) (by simp only [okL]; exact ⟨by omega, o2, trivial⟩), ?_, ?_, by simp only [List.length_append, List.length_singleton]; omega⟩
  · rw [itemsL_append, itemsL_append]
    simp only [itemsL]
    omega
  · rw [sizeL_append, sizeL_append]
    simp only [sizeL]
    omega
section
variable {W : Wd} {k : Nat}
theorem k_law_stage (B : Bs W.K W.mg) (h_law_pick : Keeps W.P W.w W.K W.mg W.base d_law_pick ["_law_tape_here", "_law_many"] k (spT W.T prePick relPick)) (h_law_plan : Keeps W.P W.w W.K W.mg W.base d_law_plan ["_law_tape_here", "_law_left", "_law_depth", "_law_letters", "_law_words"] k (spT W.T (prePl 5) relPl)) :
    Keeps W.P W.w W.K W.mg W.base d_law_stage ["_law_tape_here", "_law_letters", "_law_most"] (k + 1) (spT W.T preSt relSt) :=
  def_okT B.t_law_stage sc_law_stage (by rintro _ rfl; rfl) fun cdv A outer s H E hr ds e => by
    have e : ds = [.str "ab", .int 4] := e
    subst e
    refine ⟨_, (pss_cons (ps_set (i := 3) sc_law_stage.nd rfl (Or.inl rfl) (pe_lst pa_nil))
    (pss_cons (ps_for PassesOwn.never rfl (pi_range1 (by rfl) B.range (pa_cons (pe_op op_add pe_int (pe_k h_law_pick hr rfl B.m_law_pick (pa_cons (pv 0) (pa_cons (pv 2) pa_nil)))) pa_nil)) (pg_name (i := 4) sc_law_stage.nd rfl (Or.inl rfl)) (pss_cons (ps_set (i := 5) sc_law_stage.nd rfl (Or.inl rfl) (pe_ix ix_str (pv 1) (pe_k h_law_pick hr rfl B.m_law_pick (pa_cons (pv 0) (pa_cons (pe_callB call_len_str (by rfl) B.len PySem.boot_len (pa_cons (pv 1) pa_nil)) pa_nil))) (fun _ _ => rfl)))
    (pss_cons (ps_set (i := 6) sc_law_stage.nd rfl (Or.inl rfl) (pe_ix (ix_listK W.K) (pe_lst (pa_cons (pe_lst pa_nil) (pa_cons (pe_lst (pa_cons pe_str pa_nil)) pa_nil))) (pe_k h_law_pick hr rfl B.m_law_pick (pa_cons (pv 0) (pa_cons pe_int pa_nil))) (fun _ _ => rfl)))
    (pss_cons (ps_set (i := 7) sc_law_stage.nd rfl (Or.inl rfl) (pe_ix (ix_listK W.K) (pe_lst (pa_cons pe_int (pa_cons pe_int (pa_cons pe_int (pa_cons pe_int (pa_cons pe_int (pa_cons pe_int pa_nil))))))) (pe_k h_law_pick hr rfl B.m_law_pick (pa_cons (pv 0) (pa_cons pe_int pa_nil))) (fun _ _ => rfl)))
    (pss_cons (ps_set (i := 8) sc_law_stage.nd rfl (Or.inl rfl) (pe_k h_law_pick hr rfl B.m_law_pick (pa_cons (pv 0) (pa_cons pe_int pa_nil))))
    (pss_one (ps_if (pt_cmpR op_lt (pv 8) pe_int (nomark _)) (pss_one (ps_expr (pe_bm PySem.F.plainAttrs_list PySem.F.slot_list_append PySem.F.type_list_append mt_append (pv 3) (pa_cons (pe_tup (pa_cons (pv 7) (pa_cons (pe_tup (pa_cons pe_str (pa_cons (pv 5) (pa_cons (pe_k h_law_plan hr rfl B.m_law_plan (pa_cons (pv 0) (pa_cons (pe_k h_law_pick hr rfl B.m_law_pick (pa_cons (pv 0) (pa_cons pe_int pa_nil))) (pa_cons pe_int (pa_cons (pv 1) (pa_cons (pv 6) pa_nil)))))) pa_nil)))) pa_nil))) pa_nil)))) (pss_one (ps_if (pt_cmpR op_lt (pv 8) pe_int (nomark _)) (pss_one (ps_expr (pe_bm PySem.F.plainAttrs_list PySem.F.slot_list_append PySem.F.type_list_append mt_append (pv 3) (pa_cons (pe_tup (pa_cons (pv 7) (pa_cons (pe_tup (pa_cons pe_str (pa_cons (pv 5) (pa_cons (pe_k h_law_plan hr rfl B.m_law_plan (pa_cons (pv 0) (pa_cons (pe_op op_add pe_int (pe_k h_law_pick hr rfl B.m_law_pick (pa_cons (pv 0) (pa_cons pe_int pa_nil)))) (pa_cons pe_int (pa_cons (pv 1) (pa_cons (pv 6) pa_nil)))))) pa_nil)))) pa_nil))) pa_nil)))) (pss_cons (ps_set (i := 9) sc_law_stage.nd rfl (Or.inl rfl) (pe_tup (pa_cons pe_str (pa_cons (pv 5) (pa_cons (pe_tup (pa_cons (pe_tup (pa_cons pe_int (pa_cons (pe_tup (pa_cons pe_str (pa_cons pe_int pa_nil))) pa_nil))) (pa_cons (pe_tup (pa_cons pe_int (pa_cons (pe_tup (pa_cons pe_str (pa_cons (pv 5) (pa_cons (pe_tup (pa_cons (pe_tup (pa_cons pe_int (pa_cons (pe_tup (pa_cons pe_str (pa_cons pe_int pa_nil))) pa_nil))) pa_nil)) pa_nil)))) pa_nil))) pa_nil))) pa_nil)))))
    (pss_cons (ps_expr (pe_bm PySem.F.plainAttrs_list PySem.F.slot_list_append PySem.F.type_list_append mt_append (pv 3) (pa_cons (pe_tup (pa_cons pe_int (pa_cons (pv 9) pa_nil))) pa_nil)))
    (pss_one (ps_expr (pe_bm PySem.F.plainAttrs_list PySem.F.slot_list_append PySem.F.type_list_append mt_append (pv 3) (pa_cons (pe_tup (pa_cons pe_int (pa_cons (pe_tup (pa_cons pe_str (pa_cons (pv 5) (pa_cons (pe_tup (pa_cons (pe_tup (pa_cons pe_int (pa_cons (pv 9) pa_nil))) pa_nil)) pa_nil)))) pa_nil))) pa_nil)))))))))))))))
    (pss_one (ps_ret (pe_callTy call_tuple_of (by rfl) B.tuple (by decide +kernel) (pa_cons (pv 3) pa_nil)))))), fun a => ?_⟩
    show Sv W.T (some a) _ [.tape, .d (.str "ab"), .d (.int 4), .any, .any, .any, .any, .any, .any, .any] _
    refine sv_seq (sv_setL (evl_lst (ea_nil ⟨by simp, ?_⟩)))
    refine sv_seq (sv_for (js := [4]) (ei_range (ev_op (ev_int (ev_callP rfl (ev_var rfl ⟨4, rfl, by decide, by decide, fun r hr => rv_i0 ⟨1 + r, congrArg PyData.int (by omega), by omega, fun i δ => ∃ (p : Plan) (s4 s5 s6 s7 s8 s9 : Sl), δ = [.tape, .d (.str "ab"), .d (.int 4), .l (encL p), s4, s5, s6, s7, s8, s9] ∧ St1 p i ∧ i ≤ 4, ⟨[], _, _, _, _, _, _, rfl, ⟨by simp [okL], by simp [itemsL], by simp [sizeL], by simp⟩, by omega⟩, ?_, ?_⟩⟩))))))
    · rintro i x δ hx ⟨p, s4, s5, s6, s7, s8, s9, rfl, st, i4⟩
      obtain ⟨hi, rfl⟩ := nums_get hx
      refine gt_name ?_
      refine sv_seq (sv_set (ev_op (ev_var rfl (ev_callP rfl (ev_lenStr (ev_var rfl ⟨_, rfl, by decide, 2, by rw [ab_len], by decide, by decide, fun j hj => ?_⟩))))))
      obtain ⟨c, ec, c1, c2⟩ := ab_at hj
      refine rv_ixS ec (by decide) (chr_ok ⟨c1, c2⟩) ?_
      refine sv_seq (sv_set (ev_ixS (evs_l (evl_lst (ea2 (ev_l (evl_lst (ea_nil ⟨by simp, ev_l (evl_lst (ea1 (ev_str ⟨by simp, ⟨by simp, ev_callP rfl (ev_int ⟨2, rfl, by decide, by decide, fun j2 hj2 => ?_⟩)⟩⟩)))⟩))))))))
      have kw : ∃ ws : List D, ([.list [], .list [.str "x"]] : List D)[j2]? = some (.list ws) ∧ (ws = [] ∨ ws = [.str "x"]) := by
        have e2 : j2 = 0 ∨ j2 = 1 := by omega
        rcases e2 with rfl | rfl
        · exact ⟨_, rfl, .inl rfl⟩
        · exact ⟨_, rfl, .inr rfl⟩
      obtain ⟨ws, ew, hw⟩ := kw
      refine ⟨j2, _, rfl, atI_natD ew, ?_⟩
      refine sv_seq (sv_set (ev_ixS (evs_l (evl_lst (ea_cons (ev_int (ea_cons (ev_int (ea_cons (ev_int (ea_cons (ev_int (ea_cons (ev_int (ea_cons (ev_int (ea_nil ⟨by simp, ev_callP rfl (ev_int ⟨6, rfl, by decide, by decide, fun j6 hj6 => ?_⟩)⟩)))))))))))))))))
      have key : ∃ c : Int, ([.int 1, .int 1, .int 1, .int 1, .int 2, .int 3] : List D)[j6]? = some (.int c) ∧ 1 ≤ c ∧ c ≤ 3 := by
        have e5 : j6 = 0 ∨ j6 = 1 ∨ j6 = 2 ∨ j6 = 3 ∨ j6 = 4 ∨ j6 = 5 := by omega
        rcases e5 with rfl | rfl | rfl | rfl | rfl | rfl
        · exact ⟨1, rfl, by omega, by omega⟩
        · exact ⟨1, rfl, by omega, by omega⟩
        · exact ⟨1, rfl, by omega, by omega⟩
        · exact ⟨1, rfl, by omega, by omega⟩
        · exact ⟨2, rfl, by omega, by omega⟩
        · exact ⟨3, rfl, by omega, by omega⟩
      obtain ⟨n, en, n1, n3⟩ := key
      refine ⟨j6, _, rfl, atI_natD en, ?_⟩
      refine sv_seq (sv_set (ev_callP rfl (ev_int ⟨9, rfl, by decide, by decide, fun j9 _ => ?_⟩)))
      have pl := st.len
      have hl : (encL p).length < 1000000 := by rw [encL_len]; omega
      refine sv_ifQ (Q := True) (et_T (ev_op (ev_var rfl (ev_int (rv_b0 ⟨_, rfl, fun _ => trivial⟩))))) (fun _ => ?_) (sv_ifQ (Q := True) (et_T (ev_op (ev_var rfl (ev_int (rv_b0 ⟨_, rfl, fun _ => trivial⟩))))) (fun _ => ?_) ?_)
      · refine sv_append rfl hl (ev_tup (ea2 (ev_var rfl (ev_tup (ea3 (ev_str (ev_var rfl (ev_callT rfl (ea4 (ev_callP rfl (ev_int ⟨4, rfl, by decide, by decide, fun r4 hr4 => ev_int (ev_var rfl (ev_var rfl ⟨⟨r4, 0, ws, rfl, hw, by omega, by omega, by omega⟩, fun y hy => ?_⟩))⟩)))))))))))
        obtain ⟨b, rfl, ob, sb⟩ := relPl_of (depth := 0) hy
        have ib := itemsL_size b (okL_pos b _ ob)
        refine ⟨by simp, by simp, p ++ [(n, .nest false c b)], .d (.int (i : Nat)), .d (.str (chr c)), .d (.list ws), .d (.int n), .d (.int (j9 : Nat)), s9, ?_, st.one n1 n3 (by simp only [okP]; exact ⟨⟨c1, c2⟩, ob⟩) (by simp only [itemsP]; omega) (by simp only [sizeP]; omega), by omega⟩
        rw [encL_append]
        rfl
      · refine sv_append rfl hl (ev_tup (ea2 (ev_var rfl (ev_tup (ea3 (ev_str (ev_var rfl (ev_callT rfl (ea4 (ev_op (ev_int (ev_callP rfl (ev_int ⟨4, rfl, by decide, by decide, fun r4 hr4 => rv_i0 (ev_int (ev_var rfl (ev_var rfl ⟨⟨1 + r4, 1, ws, rfl, hw, by omega, by omega, by omega⟩, fun y hy => ?_⟩)))⟩)))))))))))))
        obtain ⟨b, rfl, ob, sb⟩ := relPl_of (depth := 1) hy
        have ib := itemsL_size b (okL_pos b _ ob)
        refine ⟨by simp, by simp, p ++ [(n, .nest true c b)], .d (.int (i : Nat)), .d (.str (chr c)), .d (.list ws), .d (.int n), .d (.int (j9 : Nat)), s9, ?_, st.one n1 n3 (by simp only [okP]; exact ⟨⟨c1, c2⟩, ob⟩) (by simp only [itemsP]; omega) (by simp only [sizeP]; omega), by omega⟩
        rw [encL_append]
        rfl
      · refine sv_seq (sv_set (ev_src (eE_var rfl) ?_))
        refine sv_seq (sv_append rfl hl (ev_known (eE_tup (eE_cons eE_int (eE_cons (eE_var rfl) eE_nil))) ?_))
        refine sv_append rfl (by rw [List.length_append, List.length_singleton, encL_len]; omega) (ev_known (eE_letter (c := c) (eE_var rfl) (eE_var rfl)) ?_)
        refine ⟨p ++ [(1, src c)] ++ [(1, .nest false c [(1, src c)])], .d (.int (i : Nat)), .d (.str (chr c)), .d (.list ws), .d (.int n), .d (.int (j9 : Nat)), .d (encP (src c)), ?_, st.two ⟨c1, c2⟩, by omega⟩
        rw [encL_append, encL_append]
        rfl
    · rintro δ ⟨p, s4, s5, s6, s7, s8, s9, rfl, st, i4⟩
      have h1 := st.it
      have h2 := st.sz
      rw [nums_len] at i4 h1 h2
      exact sv_ret (ev_tupleS (evs_own rfl ⟨p, rfl, st.ok, by omega, by omega⟩))
/-- the tape is made -/
def spMk (W : Wd) : Sp := fun vs H Q _ => ∃ (Hs : Hp) (ns : List Int) (b : Addr), vs = [.ref b] ∧ ExtN Hs H ∧ Tabs W.T H ∧ SqL W.K H b (ns.map V.int) ∧ ∀ (a : Addr) (Hs' H' : Hp), Stp W.T none Hs H Hs' H' → Fr Hs' a → TapeAt Hs' H' a → Q (.ref a) H'
theorem k_law_tape (B : Bs W.K W.mg) : Keeps W.P W.w W.K W.mg W.base d_law_tape ["_law_script"] (k + 1) (spMk W) :=
  def_raw B.t_law_tape sc_law_tape (fun vs H Q E ⟨_, _, _, h, _⟩ => by rw [h]; rfl) fun cdv An outer s H E hr vs Q ⟨Hs, ns, b, ev, x, t, hs, q⟩ => by
    subst ev
    refine ⟨_, (pss_one (ps_ret (pe_lst (pa_cons (pe_callTy call_list_of (by rfl) B.list (by decide +kernel) (pa_cons (pv 0) pa_nil)) (pa_cons pe_int (pa_cons pe_int (pa_cons pe_int (pa_cons pe_int pa_nil)))))))), ?_⟩
    refine ⟨_, rfl, b, _, rfl, .inl hs, fun l hl => ?_⟩
    have s1 := Stp.new (T := W.T) (ta := none) (o := .lst (ns.map V.int)) x t hl
    refine ⟨(by show 5 ≤ sizeLine; decide), fun a ha => ?_⟩
    have s2 := Stp.own (T := W.T) (ta := none) (o := .lst [.ref l, .int 0, .int 0, .int 1, .int 0]) s1.x s1.t ha
    exact q a _ _ (s1.trans s2) (stable_free s1.x ha) ⟨l, ns, 0, 0, 1, 0, upd_same, upd_same, by omega⟩
end
end G
set_option Elab.async false
set_option linter.all false
set_option maxRecDepth 100000
set_option maxHeartbeats 1000000
/-! fits -/
namespace G
open PySem PySem.Spec L2 LamX NdefX PyProof.Rows
theorem long_ex (s : Plan) : ∃ r, LongP s r := by
  by_cases h : ∀ n, ∃ q, Wk Succ n s q
  · exact ⟨none, h⟩
  · obtain ⟨n0, hn⟩ := Classical.not_forall.mp h
    have key : ∀ n0 : Nat, (¬ ∃ q, Wk Succ n0 s q) → ∃ n, (∃ q, Wk Succ n s q) ∧ ∀ m q, Wk Succ m s q → m ≤ n := by
      intro n0
      induction n0 with
      | zero => intro z; exact absurd ⟨s, rfl⟩ z
      | succ n ih =>
        intro z
        by_cases y : ∃ q, Wk Succ n s q
        · refine ⟨n, y, fun m q w => ?_⟩
          apply Classical.byContradiction
          intro c
          have e : m = (n + 1) + (m - (n + 1)) := by omega
          rw [e] at w
          obtain ⟨x, wx⟩ := w.cut
          exact z ⟨x, wx⟩
        · exact ih y
    obtain ⟨n, ⟨q, w⟩, k⟩ := key n0 hn
    exact ⟨some n, ⟨n, q, rfl, w⟩, fun m q w => by have := k m q w; omega⟩
theorem short_ex (s : Plan) : ∃ r, ShortP s r := by
  by_cases h : ∃ n q, Wk Succ n s q ∧ pairsOf q = []
  · obtain ⟨n, q, w, z⟩ := h
    have key : ∀ N n : Nat, n ≤ N → (∃ q, Wk Succ n s q ∧ pairsOf q = []) → ∃ m, (∃ q, Wk Succ m s q ∧ pairsOf q = []) ∧ ∀ k q, Wk Succ k s q → pairsOf q = [] → m ≤ k := by
      intro N
      induction N with
      | zero =>
        intro n hn h
        obtain rfl : n = 0 := by omega
        exact ⟨0, h, fun _ _ _ _ => Nat.zero_le _⟩
      | succ N ih =>
        intro n hn h
        by_cases y : ∃ k, k < n ∧ ∃ q, Wk Succ k s q ∧ pairsOf q = []
        · obtain ⟨k, hk, hq⟩ := y
          exact ih k (by omega) hq
        · refine ⟨n, h, fun k q w z => ?_⟩
          apply Classical.byContradiction
          intro c
          exact y ⟨k, by omega, q, w, z⟩
    obtain ⟨m, ⟨q', w', z'⟩, k⟩ := key n n (Nat.le_refl _) ⟨q, w, z⟩
    exact ⟨some m, ⟨m, q', rfl, w', z'⟩, fun j r wj zj => by have := k j r wj zj; omega⟩
  · exact ⟨none, fun n q w z => h ⟨n, q, w, z⟩⟩
noncomputable def longV (s : Plan) : Option Int := (long_ex s).choose
theorem longV_ok (s : Plan) : LongP s (longV s) := (long_ex s).choose_spec
noncomputable def shortV (s : Plan) : Option Int := (short_ex s).choose
theorem shortV_ok (s : Plan) : ShortP s (shortV s) := (short_ex s).choose_spec
def intsO (L : List (Option Int)) : List Int := L.filterMap id
theorem ints_mem {L : List (Option Int)} {i : Int} : i ∈ intsO L ↔ some i ∈ L := by
  unfold intsO
  rw [List.mem_filterMap]
  constructor
  · rintro ⟨o, h, e⟩
    have e' : o = some i := e
    rw [← e']
    exact h
  · intro h
    exact ⟨some i, h, rfl⟩
theorem ints_map : ∀ {L : List (Option Int)}, none ∉ L → L.map encR = (intsO L).map .int
  | [], _ => rfl
  | none :: r, h => absurd List.mem_cons_self h
  | some i :: r, h => by
    have := ints_map (L := r) fun z => h (List.mem_cons_of_mem _ z)
    unfold intsO at this ⊢
    rw [List.map_cons, this]
    rfl
theorem ints_pick : ∀ L : List (Option Int), L.filterMap (fun o => o.map PyData.int) = (intsO L).map .int
  | [] => rfl
  | none :: r => by
    have := ints_pick r
    unfold intsO at this ⊢
    simpa using this
  | some i :: r => by
    have := ints_pick r
    unfold intsO at this ⊢
    simpa using this
theorem eqv_none (o : Option Int) : PyData.eqv (encR o) .none = decide (o = none) := by
  rw [Bool.eq_iff_iff, eqv_eq _ _ (by cases o <;> rfl) rfl, decide_eq_true_eq]
  cases o with
  | none => simp [encR]
  | some i => simp [encR]
theorem any_none : ∀ L : List (Option Int), (L.map encR).any (fun z => PyData.eqv z .none) = decide (none ∈ L)
  | [] => rfl
  | x :: r => by
    rw [List.map_cons, List.any_cons, any_none r, eqv_none]
    cases x <;> simp
section
variable {W : Wd} {k : Nat}
def rFits : List D → D → Prop := fun ds y => ∃ f, ds = [enc f] ∧ Good f ∧ plain f = f ∧ Dom f ∧ y = .bool true
theorem k_law_fits (B : Bs W.K W.mg) (h_meetings : Kp W d_meetings ["plan"] k rMeetings) (h_met : Kp W d_met ["plan", "meeting"] k rMet) (h_longest : Kp W d_longest ["plan"] k rLongest) (h_shortest : Kp W d_shortest ["plan"] k rShortest) (h_law_is_count : Kp W d_law_is_count ["_law_told", "_law_due"] k rIsCount) :
    Kp W d_law_fits ["_law_form_here"] (k + 1) rFits :=
  def_ok B.t_law_fits sc_law_fits (by rintro _ _ ⟨p, rfl, _⟩; rfl) fun cdv A outer s H E hr ds y ⟨f, e, gd, hf, dm, e2⟩ => by
    subst e e2
    refine ⟨_, (pss_cons (ps_set (i := 1) sc_law_fits.nd rfl (Or.inl rfl) (pe_k h_meetings hr rfl B.m_meetings (pa_cons (pv 0) pa_nil)))
    (pss_cons (ps_setLc (i := 2) (own := [("_law_pair", 6)]) rfl sc_law_fits.nd rfl rfl (sw_true rfl rfl rfl (by decide +kernel)) (pi_list (pv 1)) (blkOk_by (own := [("_law_pair", 6)]) (N := n_law_fits) (sc := defScope s_law_fits) (by decide +kernel)) (fun _ _ _ _ _ => (pg_name (i := 6) sc_law_fits.nd rfl (Or.inl rfl))) (fun _ _ _ _ _ => pts_nil) (fun _ _ _ _ _ => (pe_k h_met hr rfl B.m_met (pa_cons (pv 0) (pa_cons (pv 6) pa_nil)))))
    (pss_cons (ps_setLc (i := 3) (own := [("_law_one", 7)]) rfl sc_law_fits.nd rfl rfl (sw_true rfl rfl rfl (by decide +kernel)) (pi_list (pv 2)) (blkOk_by (own := [("_law_one", 7)]) (N := n_law_fits) (sc := defScope s_law_fits) (by decide +kernel)) (fun _ _ _ _ _ => (pg_name (i := 7) sc_law_fits.nd rfl (Or.inl rfl))) (fun _ _ _ _ _ => pts_nil) (fun _ _ _ _ _ => (pe_k h_longest hr rfl B.m_longest (pa_cons (pv 7) pa_nil))))
    (pss_cons (ps_setLc (i := 4) (own := [("_law_one", 7)]) rfl sc_law_fits.nd rfl rfl (sw_true rfl rfl rfl (by decide +kernel)) (pi_list (pv 2)) (blkOk_by (own := [("_law_one", 7)]) (N := n_law_fits) (sc := defScope s_law_fits) (by decide +kernel)) (fun _ _ _ _ _ => (pg_name (i := 7) sc_law_fits.nd rfl (Or.inl rfl))) (fun _ _ _ _ _ => pts_nil) (fun _ _ _ _ _ => (pe_k h_shortest hr rfl B.m_shortest (pa_cons (pv 7) pa_nil))))
    (pss_cons (ps_setLc (i := 4) (own := [("_law_number", 8)]) rfl sc_law_fits.nd rfl rfl (sw_true rfl rfl rfl (by decide +kernel)) (pi_list (pv 4)) (blkOk_by (own := [("_law_number", 8)]) (N := n_law_fits) (sc := defScope s_law_fits) (by decide +kernel)) (fun _ _ _ _ _ => (pg_name (i := 8) sc_law_fits.nd rfl (Or.inl rfl))) (fun _ _ _ _ _ => pts_one (pt_cmp (pc_notN (pv 8)) rfl)) (fun _ _ _ _ _ => (pv 8)))
    (pss_cons (ps_set (i := 5) sc_law_fits.nd rfl (Or.inl rfl) pe_int)
    (pss_cons (ps_if (pt_cmpR op_gt (pe_callB (call_lenK W.K) (by rfl) B.len PySem.boot_len (pa_cons (pv 1) pa_nil)) pe_int (nomark _)) (pss_cons (ps_set (i := 5) sc_law_fits.nd rfl (Or.inl rfl) pe_non)
    (pss_one (ps_if (pt_cmpR (op_notInK W.K (u200 hr)) pe_non (pv 3) rfl) (pss_one (ps_set (i := 5) sc_law_fits.nd rfl (Or.inl rfl) (pe_op op_add pe_int (pe_callB (cr_max rfl) (by rfl) B.max (by decide +kernel) (pa_cons (pv 3) pa_nil))))) pss_nil))) pss_nil)
    (pss_cons (ps_if (pt_not (pt_val (pe_k h_law_is_count hr rfl B.m_law_is_count (pa_cons (pe_k h_longest hr rfl B.m_longest (pa_cons (pv 0) pa_nil)) (pa_cons (pv 5) pa_nil))))) (pss_one (ps_ret pe_bl)) pss_nil)
    (pss_cons (ps_set (i := 5) sc_law_fits.nd rfl (Or.inl rfl) pe_int)
    (pss_cons (ps_if (pt_cmpR op_gt (pe_callB (call_lenK W.K) (by rfl) B.len PySem.boot_len (pa_cons (pv 1) pa_nil)) pe_int (nomark _)) (pss_cons (ps_set (i := 5) sc_law_fits.nd rfl (Or.inl rfl) pe_non)
    (pss_one (ps_if (pt_cmpR op_gt (pe_callB (call_lenK W.K) (by rfl) B.len PySem.boot_len (pa_cons (pv 4) pa_nil)) pe_int (nomark _)) (pss_one (ps_set (i := 5) sc_law_fits.nd rfl (Or.inl rfl) (pe_op op_add pe_int (pe_callB (cr_min rfl) (by rfl) B.min (by decide +kernel) (pa_cons (pv 4) pa_nil))))) pss_nil))) pss_nil)
    (pss_one (ps_ret (pe_k h_law_is_count hr rfl B.m_law_is_count (pa_cons (pe_k h_shortest hr rfl B.m_shortest (pa_cons (pv 0) pa_nil)) (pa_cons (pv 5) pa_nil))))))))))))))), ?_⟩
    have f60 := gd.len
    have pl : (pairsOf f).length ≤ 810000 := by
      have h1 := pairsTo_len f f
      rw [← pairsOf_to] at h1
      exact Nat.le_trans h1 (Nat.le_trans (Nat.mul_le_mul f60 f60) (by decide))
    have hmeet : rMeetings [enc f] (.list ((pairsOf f).map encPair)) := ⟨f, rfl, gd, by rw [hf]⟩
    have hmet : ∀ m ∈ pairsOf f, rMet [enc f, encPair m] (enc (metOf f m)) := fun m hm => ⟨f, m, rfl, by rw [hf]; exact hm, gd, by rw [hf]; exact dm.raw hm, by rw [hf]⟩
    have hl : ∀ g, Dom g → plain g = g → rLongest [enc g] (encR (longV g)) := fun g dg hg => ⟨g, longV g, rfl, dg.good, by rw [hg]; exact dg, by rw [hg]; exact longV_ok g, rfl⟩
    have hs : ∀ g, Dom g → plain g = g → rShortest [enc g] (encR (shortV g)) := fun g dg hg => ⟨g, shortV g, rfl, dg.good, by rw [hg]; exact dg, by rw [hg]; exact shortV_ok g, rfl⟩
    generalize eL : (pairsOf f).map (fun m => longV (metOf f m)) = L
    generalize eM : (pairsOf f).map (fun m => shortV (metOf f m)) = M
    have lM : M.length ≤ 810000 := by rw [← eM, List.length_map]; exact pl
    refine sv_seq (sv_set (ev_call (ea1 (ev_var rfl ⟨_, hmeet, ?_⟩))))
    refine sv_seq (sv_setL (evl_lcM (js := [6]) (by simp) (ei_list (ev_var rfl ⟨_, rfl, pairsOf f, encPair, fun m => some (enc (metOf f m)), rfl, by omega, fun m hm => turn1 (ev_call (ea2 (ev_var rfl (ev_var rfl ⟨_, hmet m hm, rfl⟩)))), ?_⟩))))
    have e1 : (pairsOf f).filterMap (fun m => some (enc (metOf f m))) = (pairsOf f).map (fun m => enc (metOf f m)) := by rw [List.filterMap_eq_map']
    rw [e1]
    refine sv_freeze 2 rfl ?_
    refine sv_seq (sv_setL (evl_lcM (js := [7]) (by simp) (ei_list (ev_var rfl ⟨_, rfl, pairsOf f, (fun m => enc (metOf f m)), fun m => some (encR (longV (metOf f m))), rfl, by omega, fun m hm => turn1 (ev_call (ea1 (ev_var rfl ⟨_, hl _ (dm.next hm) (plain_met f m), rfl⟩))), ?_⟩))))
    have e2 : (pairsOf f).filterMap (fun m => some (encR (longV (metOf f m)))) = L.map encR := by rw [List.filterMap_eq_map', ← eL, List.map_map]; rfl
    rw [e2]
    refine sv_freeze 3 rfl ?_
    refine sv_seq (sv_setL (evl_lcM (js := [7]) (by simp) (ei_list (ev_var rfl ⟨_, rfl, pairsOf f, (fun m => enc (metOf f m)), fun m => some (encR (shortV (metOf f m))), rfl, by omega, fun m hm => turn1 (ev_call (ea1 (ev_var rfl ⟨_, hs _ (dm.next hm) (plain_met f m), rfl⟩))), ?_⟩))))
    have e3 : (pairsOf f).filterMap (fun m => some (encR (shortV (metOf f m)))) = M.map encR := by rw [List.filterMap_eq_map', ← eM, List.map_map]; rfl
    rw [e3]
    refine sv_freeze 4 rfl ?_
    refine sv_seq (sv_setL (evl_lcM (js := [8]) (by simp) (ei_list (ev_var rfl ⟨_, rfl, M, encR, fun o => o.map .int, rfl, by omega, fun o _ => turn1F (b := !isNon (encR o)) (et_B (ev_notN (ev_var rfl ⟨_, rfl, rfl⟩))) (fun z => ?_) (fun z => ?_), ?_⟩))))
    · cases o with
      | none => cases z
      | some i => exact ⟨_, rfl, ev_var rfl rfl⟩
    · cases o with
      | none => rfl
      | some i => cases z
    rw [ints_pick]
    refine sv_freeze 4 rfl ?_
    have en : lenD (.list ((pairsOf f).map encPair)) = some (pairsOf f).length := by simp [lenD]
    have em : lenD (.list ((intsO M).map .int)) = some (intsO M).length := by simp [lenD]
    have gt : ∀ n : Nat, decide ((n : Int) > 0) = decide (0 < n) := fun n => by
      rw [Bool.eq_iff_iff, decide_eq_true_eq, decide_eq_true_eq]
      omega
    refine sv_seq (sv_set (ev_int ?_))
    refine sv_seq (sv_imp (P := { nx := fun δ => ∃ due s6 s7 s8, δ = [.d (enc f), .d (.list ((pairsOf f).map encPair)), .d (.list ((pairsOf f).map fun m => enc (metOf f m))), .d (.list (L.map encR)), .d (.list ((intsO M).map .int)), .d (encR due), s6, s7, s8] ∧ LongP f due, rt := fun y => y = .bool true }) ?_ ?_ (fun _ h => h) (fun _ h => h) (fun _ h => h))
    · refine sv_ifP (0 < (pairsOf f).length) (et_TE (ev_op (ev_len (ev_var rfl ⟨_, en, ev_int (rv_b0 (congrArg PyData.bool (gt _)))⟩)))) (fun q => ?_) fun q => ?_
      · refine sv_seq (sv_set (ev_non ?_))
        refine sv_ifP (none ∉ L) (et_TE (ev_notInS (ev_non (evs_ev (ev_var rfl ⟨_, rfl, by simp [PyData.depth], congrArg PyData.bool (by rw [any_none]; by_cases z : none ∈ L <;> simp [z])⟩))))) (fun q2 => ?_) fun q2 => ?_
        · refine sv_set (ev_op (ev_int (ev_maxS (evs_ev (ev_var rfl ⟨_, rfl, intsO L, ints_map q2, ?_, fun x hx hm => rv_i0 ⟨some (1 + x), _, _, _, rfl, ?_⟩⟩)))))
          · have h1 := congrArg List.length (ints_map q2)
            have h2 : L.length = (pairsOf f).length := by rw [← eL, List.length_map]
            rw [List.length_map, List.length_map] at h1
            omega
          · rw [ints_mem, ← eL] at hx
            obtain ⟨m, hmm, em⟩ := List.mem_map.mp hx
            refine long_some ⟨m, hmm, by rw [← em]; exact longV_ok _⟩ fun m' hm' => ?_
            cases e : longV (metOf f m') with
            | none => exact absurd (by rw [← eL, ← e]; exact List.mem_map.mpr ⟨m', hm', rfl⟩) q2
            | some y =>
              refine ⟨y, hm y (by rw [ints_mem, ← eL, ← e]; exact List.mem_map.mpr ⟨m', hm', rfl⟩), ?_⟩
              rw [← e]
              exact longV_ok _
        · have q3 : none ∈ L := Classical.not_not.mp q2
          rw [← eL] at q3
          obtain ⟨m, hmm, em⟩ := List.mem_map.mp q3
          exact sv_next ⟨none, _, _, _, rfl, long_none hmm (by rw [← em]; exact longV_ok _)⟩
      · exact sv_next ⟨some 0, _, _, _, rfl, long_stop (List.length_eq_zero_iff.mp (by omega))⟩
    rintro δ ⟨due, s6, s7, s8, rfl, hd⟩
    refine sv_seq (sv_ifF (et_notF (et_BE (ev_call (ea2 (ev_call (ea1 (ev_var rfl ⟨_, hl f dm hf, ev_var rfl ⟨_, ⟨longV f, due, rfl, rfl⟩, by rw [(longV_ok f).uniq hd]; simp⟩⟩))))))) (sv_next ?_))
    refine sv_seq (sv_set (ev_int ?_))
    refine sv_seq (sv_imp (P := { nx := fun δ => ∃ due s6 s7 s8, δ = [.d (enc f), .d (.list ((pairsOf f).map encPair)), .d (.list ((pairsOf f).map fun m => enc (metOf f m))), .d (.list (L.map encR)), .d (.list ((intsO M).map .int)), .d (encR due), s6, s7, s8] ∧ ShortP f due, rt := fun y => y = .bool true }) ?_ ?_ (fun _ h => h) (fun _ h => h) (fun _ h => h))
    · refine sv_ifP (0 < (pairsOf f).length) (et_TE (ev_op (ev_len (ev_var rfl ⟨_, en, ev_int (rv_b0 (congrArg PyData.bool (gt _)))⟩)))) (fun q => ?_) fun q => ?_
      · refine sv_seq (sv_set (ev_non ?_))
        have all : ∀ m, m ∈ pairsOf f → shortV (metOf f m) ∈ M := fun m hm => by rw [← eM]; exact List.mem_map.mpr ⟨m, hm, rfl⟩
        refine sv_ifP (0 < (intsO M).length) (et_TE (ev_op (ev_len (ev_var rfl ⟨_, em, ev_int (rv_b0 (congrArg PyData.bool (gt _)))⟩)))) (fun q2 => ?_) fun q2 => ?_
        · refine sv_set (ev_op (ev_int (ev_minS (evs_ev (ev_var rfl ⟨_, rfl, intsO M, rfl, q2, fun x hx hm => rv_i0 ⟨some (1 + x), _, _, _, rfl, ?_⟩⟩)))))
          rw [ints_mem, ← eM] at hx
          obtain ⟨m, hmm, em⟩ := List.mem_map.mp hx
          refine short_some ⟨m, hmm, by rw [← em]; exact shortV_ok _⟩ fun m' hm' => ?_
          cases e : shortV (metOf f m') with
          | none => exact .inl (by rw [← e]; exact shortV_ok _)
          | some y => exact .inr ⟨y, hm y (by rw [ints_mem, ← e]; exact all m' hm'), by rw [← e]; exact shortV_ok _⟩
        · have h0 : intsO M = [] := List.length_eq_zero_iff.mp (by omega)
          refine sv_next ⟨none, _, _, _, rfl, short_none (fun z => by rw [z] at q; exact absurd q (by decide)) fun m hm => ?_⟩
          cases e : shortV (metOf f m) with
          | none => rw [← e]; exact shortV_ok _
          | some y =>
            have : y ∈ intsO M := by rw [ints_mem, ← e]; exact all m hm
            rw [h0] at this
            cases this
      · exact sv_next ⟨some 0, _, _, _, rfl, short_stop (List.length_eq_zero_iff.mp (by omega))⟩
    rintro δ ⟨due, s6, s7, s8, rfl, hd⟩
    exact sv_ret (ev_call (ea2 (ev_call (ea1 (ev_var rfl ⟨_, hs f dm hf, ev_var rfl ⟨_, ⟨shortV f, due, rfl, rfl⟩, by rw [(shortV_ok f).uniq hd]; simp⟩⟩)))))
end
end G
set_option Elab.async false
set_option linter.all false
set_option maxRecDepth 100000
set_option maxHeartbeats 1000000
/-! the law -/
namespace G
open PySem PySem.Spec L2 LamX NdefX PyProof.Rows
theorem enc_inj {p q : Plan} (h : enc p = enc q) : p = q := by
  have e := eqv_enc p q
  rw [h, eqv_enc] at e
  exact of_decide_eq_true (by rw [← e]; simp)
theorem pg_unlK {X : Cx} (K : PySem.W.Frag) {es : List Expr} {k : Nat} {t : TGs} {n : Nat} {pos : Pos} (hc : X.calm = true) (h : PGs X es t) (hn : (assignEach es X.env).length = n := by rfl) (hst : (assignEach es X.env).findIdx? (·.1) = none := by rfl) (hK : X.K = K := by rfl) : PG X (.Tuple es k pos) (gUnl K n t) := hK ▸ pg_unl hc h hn hst
section
variable {T : List (Addr × Str)} {ta : Option Addr} {δ : List Sl} {K : PySem.W.Frag} {Ψ : List Sl → Prop}
theorem gt_unl3 {i j k : Nat} {x y z : D} (h : Ψ (((δ.set i (.d x)).set j (.d y)).set k (.d z))) : Gt T ta (gUnl K 3 (gCons (gName i) (gCons (gName j) (gCons (gName k) gNil)))) [i, j, k] (.list [x, y, z]) δ Ψ := fun Hs H σ v Q o a q => by
  cases a with
  | @lst p vs _ k1 k2 =>
    cases k2 with
    | @cons v1 _ _ _ a1 k2 =>
      cases k2 with
      | @cons v2 _ _ _ a2 k2 =>
        cases k2 with
        | @cons v3 _ _ _ a3 k2 =>
          cases k2
          refine ⟨p, [v1, v2, v3], rfl, SqL.of (o.ext _ _ k1 nt_lst), rfl, v1, [v2, v3], rfl, v2, [v3], rfl, v3, [], rfl, rfl, ?_⟩
          refine q _ _ h (((o.set i a1).set j a2).set k a3) (fun n xs e => ?_) fun vs hv => ?_
          · obtain ⟨n3, e⟩ := set_l e
            obtain ⟨n2, e⟩ := set_l e
            obtain ⟨n1, e⟩ := set_l e
            exact ⟨e, by rw [List.getElem?_set_ne n3, List.getElem?_set_ne n2, List.getElem?_set_ne n1]⟩
          · rw [wipe_set (hv k (by simp)), wipe_set (hv j (by simp)), wipe_set (hv i (by simp))]
end
theorem maxT_ex (f : Nat → Int) : ∀ n : Nat, 0 < n → ∃ m, MaxT n f m
  | 0, h => absurd h (by decide)
  | 1, _ => ⟨f 0, ⟨0, by omega, rfl⟩, fun v hv => by
    obtain rfl : v = 0 := by omega
    exact Int.le_refl _⟩
  | n + 2, _ => by
    obtain ⟨m, ⟨v, hv, e⟩, h⟩ := maxT_ex f (n + 1) (by omega)
    by_cases c : f (n + 1) ≤ m
    · refine ⟨m, ⟨v, by omega, e⟩, fun u hu => ?_⟩
      by_cases z : u = n + 1
      · rw [z]
        exact c
      · exact h u (by omega)
    · refine ⟨f (n + 1), ⟨n + 1, by omega, rfl⟩, fun u hu => ?_⟩
      by_cases z : u = n + 1
      · rw [z]
        exact Int.le_refl _
      · have := h u (by omega)
        omega
theorem pick_lens (c : Nat → Prop) [DecidablePred c] (g : Nat → Int) : ∀ L : List Nat, L.filterMap (fun v => if c v then some (PyData.int (g v)) else none) = ((L.filter fun v => decide (c v)).map g).map .int
  | [] => rfl
  | v :: r => by
    have h := pick_lens c g r
    by_cases z : c v
    · simp [z, h]
    · simp [z, h]
theorem c_chr : chr 99 = ("c" : Str) := by decide +kernel
theorem def_rawF {P : Program} {w : World} {K : PySem.W.Frag} {mg : Str → Option Value} {base : Heap} {d : He.DefD} {N ps : List Str} {k : Nat} {sp : Sp} {fd : FuncData} (F : FunD K d.name d.qual d.params d.body d.scope [] [] (He.fAd K d.at_) fd) (S : FnScope N ps d.scope) (hl : ∀ vs H Q E, sp vs H Q E → vs.length = ps.length)
    (hb : ∀ (cdv : Value) (A : Around) (outer : List PySem.Env) (s : Shared) (H : Hp) (E : XK), Room k (A.deeper (PyProof.Rows.envOfC d.qual d.scope s.heap.objs.size (He.fAd K d.at_) cdv)) → ∀ vs Q, sp vs H Q E →
      ∃ t, PSs (cxOf CX0 P w K mg base N d.qual d.scope (He.fAd K d.at_) cdv A outer s H E).nox d.body t ∧ t { nx := fun _ H' => Q .non H', rt := Q } (L2.start N vs) H) :
    FnOk P w K mg base CX0 (k + 1) (He.fAd K d.at_) fd ps sp :=
  F.ok S hl fun cdv A outer s H vs Q E hr h => by
    obtain ⟨t, h1, h2⟩ := hb cdv A outer s H E hr vs Q h
    exact ⟨t, h1.nox, h2⟩
section
variable {W : Wd} {k : Nat}
theorem seq_mk {us : TS} {De : Ends} {σ : L2.St} {Hs H : Hp} {E : XK} {ns : List Int} {b : Addr} (h0 : σ[0]? = some (some (.ref b))) (x : ExtN Hs H) (t : Tabs W.T H) (hs : SqL W.K H b (ns.map V.int)) (h : ∀ (a : Addr) (Hs1 H1 : Hp), Stp W.T none Hs H Hs1 H1 → Fr Hs1 a → TapeAt Hs1 H1 a → us De (σ.set 1 (some (.ref a))) H1) :
    tSeq (tAsg (tCall (spMk W) [] E (tCons (tVar 0) tNil)) (gName 1)) us De σ H := ⟨_, h0, Hs, ns, b, rfl, x, t, hs, h⟩
def spLaw (W : Wd) : Sp := fun vs H Q _ => ∃ (Hs : Hp) (ns : List Int) (b : Addr), vs = [.ref b] ∧ ExtN Hs H ∧ Tabs W.T H ∧ SqL W.K H b (ns.map V.int) ∧ ∀ (v : V) (H' : Hp), v = .bl true → Q v H'
theorem k_law (B : Bs W.K W.mg) {fd : FuncData} (F : FunD W.K d_law.name d_law.qual d_law.params d_law.body d_law.scope [] [] (He.fAd W.K d_law.at_) fd) (h_law_tape : Keeps W.P W.w W.K W.mg W.base d_law_tape ["_law_script"] k (spMk W)) (h_law_pick : Keeps W.P W.w W.K W.mg W.base d_law_pick ["_law_tape_here", "_law_many"] k (spT W.T prePick relPick)) (h_law_stage : Keeps W.P W.w W.K W.mg W.base d_law_stage ["_law_tape_here", "_law_letters", "_law_most"] k (spT W.T preSt relSt))
    (h_law_graph : Keeps W.P W.w W.K W.mg W.base d_law_graph ["_law_plan_here", "_law_most"] k (spN W.T preLG rLG)) (h_longest : Kp W d_longest ["plan"] k rLongest) (h_shortest : Kp W d_shortest ["plan"] k rShortest) (h_law_longest : Kp W d_law_longest ["_law_links"] k rLawLongest) (h_law_is_count : Kp W d_law_is_count ["_law_told", "_law_due"] k rIsCount) (h_law_fits : Kp W d_law_fits ["_law_form_here"] k rFits) :
    FnOk W.P W.w W.K W.mg W.base CX0 (k + 1) (He.fAd W.K d_law.at_) fd ["_law_script"] (spLaw W) :=
  def_rawF F sc_law (fun vs H Q E ⟨_, _, _, h, _⟩ => by rw [h]; rfl) fun cdv An outer s H E hr vs Q ⟨Hs, ns, b, ev, x, t, hs, q⟩ => by
    subst ev
    refine ⟨_, (pss_cons (ps_set (i := 1) sc_law.nd rfl (Or.inl rfl) (pe_k h_law_tape hr rfl B.m_law_tape (pa_cons (pv 0) pa_nil)))
    (pss_cons (ps_set (i := 2) sc_law.nd rfl (Or.inl rfl) (pe_k h_law_stage hr rfl B.m_law_stage (pa_cons (pv 1) (pa_cons pe_str (pa_cons pe_int pa_nil)))))
    (pss_cons (ps_set (i := 3) sc_law.nd rfl (Or.inl rfl) (pe_k h_law_pick hr rfl B.m_law_pick (pa_cons (pv 1) (pa_cons pe_int pa_nil))))
    (pss_cons (ps_set (i := 4) sc_law.nd rfl (Or.inl rfl) (pe_tup (pa_cons pe_str (pa_cons pe_str (pa_cons (pe_tup (pa_cons (pe_tup (pa_cons pe_int (pa_cons (pe_tup (pa_cons pe_str (pa_cons pe_int pa_nil))) pa_nil))) (pa_cons (pe_tup (pa_cons pe_int (pa_cons (pe_tup (pa_cons pe_str (pa_cons pe_str (pa_cons (pe_tup (pa_cons (pe_tup (pa_cons pe_int (pa_cons (pe_tup (pa_cons pe_str (pa_cons pe_int pa_nil))) pa_nil))) pa_nil)) pa_nil)))) pa_nil))) pa_nil))) pa_nil)))))
    (pss_cons (ps_if (pt_cmpR (op_eqK W.K (u200 hr)) (pv 3) pe_int (nomark _)) (pss_one (ps_set (i := 2) sc_law.nd rfl (Or.inl rfl) (pe_op op_catA (pv 2) (pe_tup (pa_cons (pe_tup (pa_cons pe_int (pa_cons (pv 4) pa_nil))) (pa_cons (pe_tup (pa_cons pe_int (pa_cons (pe_tup (pa_cons pe_str (pa_cons pe_str (pa_cons (pe_tup (pa_cons (pe_tup (pa_cons pe_int (pa_cons (pv 4) pa_nil))) pa_nil)) pa_nil)))) pa_nil))) pa_nil)))))) pss_nil)
    (pss_cons (ps_if (pt_cmpR (op_eqK W.K (u200 hr)) (pv 3) pe_int (nomark _)) (pss_one (ps_set (i := 2) sc_law.nd rfl (Or.inl rfl) (pe_op op_catA (pv 2) (pe_tup (pa_cons (pe_tup (pa_cons pe_int (pa_cons (pe_tup (pa_cons pe_str (pa_cons pe_str (pa_cons (pe_tup pa_nil) pa_nil)))) pa_nil))) (pa_cons (pe_tup (pa_cons pe_int (pa_cons (pe_tup (pa_cons pe_str (pa_cons pe_str (pa_cons (pe_tup pa_nil) pa_nil)))) pa_nil))) pa_nil)))))) pss_nil)
    (pss_cons (ps_set (i := 5) sc_law.nd rfl (Or.inl rfl) (pe_k h_law_graph hr rfl B.m_law_graph (pa_cons (pv 2) (pa_cons pe_int pa_nil))))
    (pss_cons (ps_if (pt_cmp (pc_isN (pv 5)) rfl) (pss_one (ps_ret pe_bl)) pss_nil)
    (pss_cons (ps_asg (pv 5) (pg_unlK W.K (n := 3) (by rfl) (pgs_cons (pg_name (i := 6) sc_law.nd rfl (Or.inl rfl)) (pgs_cons (pg_name (i := 7) sc_law.nd rfl (Or.inr rfl)) (pgs_cons (pg_name (i := 8) sc_law.nd rfl (Or.inr rfl)) pgs_nil)))))
    (pss_cons (ps_setLc (i := 9) (own := [("_law_k", 11)]) rfl sc_law.nd rfl rfl (sw_true rfl rfl rfl (by decide +kernel)) (pi_range1 (by rfl) B.range (pa_cons (pe_callB (call_lenK W.K) (by rfl) B.len PySem.boot_len (pa_cons (pv 6) pa_nil)) pa_nil)) (blkOk_by (own := [("_law_k", 11)]) (N := n_law) (sc := defScope s_law) (by decide +kernel)) (fun _ _ _ _ _ => (pg_name (i := 11) sc_law.nd rfl (Or.inl rfl))) (fun _ _ _ _ _ => pts_one (pt_cmpR (op_eqK W.K (u200 hr)) (pe_callB (call_lenK W.K) (by rfl) B.len PySem.boot_len (pa_cons (pe_ix (ix_listK W.K) (pv 8) (pv 11) (fun _ _ => rfl)) pa_nil)) pe_int (nomark _))) (fun _ _ _ _ _ => (pe_callB (call_lenK W.K) (by rfl) B.len PySem.boot_len (pa_cons (pe_ix (ix_listK W.K) (pv 7) (pv 11) (fun _ _ => rfl)) pa_nil))))
    (pss_cons (ps_set (i := 10) sc_law.nd rfl (Or.inl rfl) pe_non)
    (pss_cons (ps_if (pt_cmpR op_gt (pe_callB (call_lenK W.K) (by rfl) B.len PySem.boot_len (pa_cons (pv 9) pa_nil)) pe_int (nomark _)) (pss_one (ps_set (i := 10) sc_law.nd rfl (Or.inl rfl) (pe_callB (cr_min rfl) (by rfl) B.min (by decide +kernel) (pa_cons (pv 9) pa_nil)))) pss_nil)
    (pss_cons (ps_if (PW.pt (pw_or (pt_not (pt_val (pe_k h_law_is_count hr rfl B.m_law_is_count (pa_cons (pe_k h_longest hr rfl B.m_longest (pa_cons (pv 2) pa_nil)) (pa_cons (pe_k h_law_longest hr rfl B.m_law_longest (pa_cons (pv 8) pa_nil)) pa_nil))))) (pw_or1 (pt_not (pt_val (pe_k h_law_is_count hr rfl B.m_law_is_count (pa_cons (pe_k h_shortest hr rfl B.m_shortest (pa_cons (pv 2) pa_nil)) (pa_cons (pv 10) pa_nil)))))))) (pss_one (ps_ret pe_bl)) pss_nil)
    (pss_one (ps_ret (pe_and (pe_k h_law_fits hr rfl B.m_law_fits (pa_cons (pe_ix (ix_listK W.K) (pv 6) pe_int (fun _ _ => rfl)) pa_nil)) (pe_one (pe_k h_law_fits hr rfl B.m_law_fits (pa_cons (pe_ix (ix_listK W.K) (pv 6) (pe_k h_law_pick hr rfl B.m_law_pick (pa_cons (pv 1) (pa_cons (pe_callB (call_lenK W.K) (by rfl) B.len PySem.boot_len (pa_cons (pv 6) pa_nil)) pa_nil))) (fun _ _ => rfl)) pa_nil))))))))))))))))))), ?_⟩
    refine seq_mk rfl x t hs fun a Hs1 H1 s1 f2 tp => ?_
    have n0 : In W.T (some a) Hs1 H1 [.v (.ref b), .tape, .any, .any, .any, .any, .any, .any, .any, .any, .any, .any] Hs1 H1 ((L2.start n_law [.ref b]).set 1 (some (.ref a))) := by
      refine ⟨⟨s1.x, s1.t, fun c e => (by cases e; exact ⟨f2, tp⟩), rfl, fun i sl e => ?_, fun i j c xs ys e => ?_⟩, Stp.refl s1.x s1.t, fun i xs c e => ?_⟩
      · match i, e with
        | 0, e => cases e; exact ⟨_, rfl, rfl⟩
        | 1, e => cases e; exact ⟨some (.ref a), rfl, a, rfl, rfl⟩
        | 2, e => cases e; exact ⟨_, rfl, trivial⟩
        | 3, e => cases e; exact ⟨_, rfl, trivial⟩
        | 4, e => cases e; exact ⟨_, rfl, trivial⟩
        | 5, e => cases e; exact ⟨_, rfl, trivial⟩
        | 6, e => cases e; exact ⟨_, rfl, trivial⟩
        | 7, e => cases e; exact ⟨_, rfl, trivial⟩
        | 8, e => cases e; exact ⟨_, rfl, trivial⟩
        | 9, e => cases e; exact ⟨_, rfl, trivial⟩
        | 10, e => cases e; exact ⟨_, rfl, trivial⟩
        | 11, e => cases e; exact ⟨_, rfl, trivial⟩
        | i + 12, e => simp at e
      all_goals
        match i, e with
        | 0, e => cases e
        | 1, e => cases e
        | 2, e => cases e
        | 3, e => cases e
        | 4, e => cases e
        | 5, e => cases e
        | 6, e => cases e
        | 7, e => cases e
        | 8, e => cases e
        | 9, e => cases e
        | 10, e => cases e
        | 11, e => cases e
        | i + 12, e => simp at e
    have go : ∀ {ts : TS} {De : Ends}, De.rt = Q → Sv W.T (some a) ts [.v (.ref b), .tape, .any, .any, .any, .any, .any, .any, .any, .any, .any, .any] { nx := fun _ => False, rt := fun y => y = .bool true } → ts De ((L2.start n_law [.ref b]).set 1 (some (.ref a))) H1 := fun {ts De} er h => by
      refine h Hs1 H1 Hs1 H1 _ _ n0 (fun _ _ _ _ z => z.elim) (fun _ _ _ _ z => z.elim) (fun _ _ _ _ z => z.elim) fun d v Hs' H' ed _ at_ => ?_
      subst ed
      cases at_
      rw [er]
      exact q _ _ rfl
    refine go (De := { nx := fun _ H' => Q .non H', rt := Q }) rfl ?_
    refine sv_seq (sv_set (ev_callT (i := 1) rfl (ea2 (ev_str (ev_int ⟨rfl, fun y ⟨p, ey, ok, it, sz⟩ => ?_⟩)))))
    subst ey
    refine sv_seq (sv_set (ev_callP (i := 1) rfl (ev_int ⟨3, rfl, by decide, by decide, fun r _ => ?_⟩)))
    have hc : ∀ {δ : List Sl}, Ev W.T (some a) (tC (.str "c")) δ (· = .str (chr 99)) := fun {δ} => by
      rw [c_chr]
      exact eE_str
    refine sv_seq (sv_set (ev_src (c := 99) hc ?_))
    obtain ⟨so1, so2⟩ := src_ok (c := 99) (by decide)
    obtain ⟨ss1, ss2, si1, si2⟩ := src_size 99
    have lp := len_le_items p
    refine sv_seq (sv_imp (P := { nx := fun δ => ∃ p : Plan, δ = [.v (.ref b), .tape, .d (enc p), .d (.int (r : Nat)), .d (encP (src 99)), .any, .any, .any, .any, .any, .any, .any] ∧ okL 0 p ∧ itemsL p ≤ 45 ∧ sizeL p ≤ 69, rt := fun y => y = .bool true }) ?_ ?_ (fun _ h => h) (fun _ h => h) (fun _ h => h))
    · refine sv_ifQ (Q := True) (et_T (ev_op (ev_var rfl (ev_int (rv_eqI ⟨_, rfl, fun _ => trivial⟩))))) (fun _ => ?_) (sv_next ⟨p, rfl, ok, by omega, by omega⟩)
      refine sv_set (ev_op (ev_var rfl (ev_known (eE_tup (eE_cons (eE_tup (eE_cons eE_int (eE_cons (eE_var rfl) eE_nil))) (eE_cons (eE_letter (c := 99) hc (eE_var rfl)) eE_nil))) (rv_catA (by rw [encL_len]; simp; omega) ⟨p ++ [(1, src 99), (1, .nest false 99 [(1, src 99)])], ?_, okL_append ok ?_, ?_, ?_⟩))))
      · have e : encL (p ++ [(1, src 99), (1, .nest false 99 [(1, src 99)])]) = encL p ++ [.tuple [.int 1, encP (src 99)], .tuple [.int 1, encP (.nest false 99 [(1, src 99)])]] := by
          rw [encL_append]
          simp only [encL]
        show _ = [_, _, Sl.d (.tuple (encL (p ++ [(1, src 99), (1, .nest false 99 [(1, src 99)])]))), _, _, _, _, _, _, _, _, _]
        rw [e]
        rfl
      · simp only [okL]
        exact ⟨by omega, so1, by omega, so2, trivial⟩
      · rw [itemsL_append]
        simp only [itemsL]
        omega
      · rw [sizeL_append]
        simp only [sizeL]
        omega
    rintro δ ⟨p, rfl, ok, it, sz⟩
    have lp := len_le_items p
    refine sv_seq (sv_imp (P := { nx := fun δ => ∃ p : Plan, δ = [.v (.ref b), .tape, .d (enc p), .d (.int (r : Nat)), .d (encP (src 99)), .any, .any, .any, .any, .any, .any, .any] ∧ okL 0 p ∧ itemsL p ≤ 47 ∧ sizeL p ≤ 71, rt := fun y => y = .bool true }) ?_ ?_ (fun _ h => h) (fun _ h => h) (fun _ h => h))
    · refine sv_ifQ (Q := True) (et_T (ev_op (ev_var rfl (ev_int (rv_eqI ⟨_, rfl, fun _ => trivial⟩))))) (fun _ => ?_) (sv_next ⟨p, rfl, ok, by omega, by omega⟩)
      refine sv_set (ev_op (ev_var rfl (ev_known (eE_tup (eE_cons (eE_tup (eE_cons eE_int (eE_cons (eE_tup (eE_cons eE_str (eE_cons hc (eE_cons (eE_tup eE_nil) eE_nil)))) eE_nil))) (eE_cons (eE_tup (eE_cons eE_int (eE_cons (eE_tup (eE_cons eE_str (eE_cons hc (eE_cons (eE_tup eE_nil) eE_nil)))) eE_nil))) eE_nil))) (rv_catA (by rw [encL_len]; simp; omega) ⟨p ++ [(1, .nest false 99 []), (1, .nest true 99 [])], ?_, okL_append ok ?_, ?_, ?_⟩))))
      · have e : encL (p ++ [(1, .nest false 99 []), (1, .nest true 99 [])]) = encL p ++ [.tuple [.int 1, .tuple [.str "letter", .str (chr 99), .tuple []]], .tuple [.int 1, .tuple [.str "wait", .str (chr 99), .tuple []]]] := by
          rw [encL_append]
          simp only [encL, encP]
          rfl
        show _ = [_, _, Sl.d (.tuple (encL (p ++ [(1, .nest false 99 []), (1, .nest true 99 [])]))), _, _, _, _, _, _, _, _, _]
        rw [e]
        rfl
      · simp [okL, okP]
      · rw [itemsL_append]
        simp only [itemsL, itemsP]
        omega
      · rw [sizeL_append]
        simp only [sizeL, sizeP]
        omega
    rintro δ ⟨p, rfl, ok, it, sz⟩
    have gb : GB 0 p := ⟨ok, by omega, by
      have e : (2 : Nat) ^ (8 * 2 ^ 0) = 256 := by decide
      rw [e]
      omega⟩
    have gp := gb.good (by decide)
    refine sv_seq (sv_set (ev_callN (ea2 (ev_var rfl (ev_int ⟨⟨p, rfl, gb⟩, fun y hy => ?_⟩)))))
    obtain ⟨p', e, hy⟩ := hy
    have ep : p' = p := by
      simp only [List.cons.injEq] at e
      exact (enc_inj e.1).symm
    subst ep
    rcases hy with rfl | ⟨G, bi, fi, full, few, rfl⟩
    · exact sv_seq (sv_ifT (et_B (ev_isN (ev_var rfl ⟨_, rfl, rfl⟩))) (sv_ret (ev_bl rfl)))
    refine sv_seq (sv_ifF (et_B (ev_isN (ev_var rfl ⟨_, rfl, rfl⟩))) (sv_next ?_))
    refine sv_seq (sv_asg (ev_var rfl (gt_unl3 ?_)))
    have dm : Dom (plain p') := bi.dom fi full few
    have pos := bi.pos full
    have rok := bi.ok full
    have ewl := bi.wn
    have enf : lenD (.list (G.forms.map enc)) = some G.forms.length := by simp [lenD]
    refine sv_seq (sv_setL (evl_lcM (js := [11]) (by simp) (ei_range (ev_len (ev_var rfl ⟨G.forms.length, enf, G.forms.length, rfl, by omega, List.range G.forms.length, (fun v => .int (v : Nat)), (fun v => if row G.links v = [] then some (.int (wl G v : Nat)) else none), rfl, by rw [List.length_range]; omega, fun v hv => ?_, ?_⟩)))))
    · have hv' : v < G.forms.length := by simpa using hv
      have hr : (G.links.map encRow)[v]? = some (encRow (row G.links v)) := rows_at (by omega)
      obtain ⟨w, hw⟩ : ∃ w, G.ways[v]? = some w := ⟨_, List.getElem?_eq_getElem (by omega)⟩
      have hww : (G.ways.map encWay)[v]? = some (encWay w) := by rw [List.getElem?_map, hw]; rfl
      have ew : wl G v = w.length := by
        unfold wl
        rw [List.getD_eq_getElem?_getD, hw]
        rfl
      refine turn1F (b := decide (row G.links v = [])) (et_TE (ev_op (ev_len (ev_op (ev_var rfl (ev_var rfl (rv_ixL (atI_natD hr) ⟨(row G.links v).length, by simp [lenD, encRow, encNs], ev_int (rv_eqI (congrArg PyData.bool ?_))⟩)))))) ) (fun z => ?_) (fun z => ?_)
      · rw [Bool.eq_iff_iff, decide_eq_true_eq, decide_eq_true_eq, ← List.length_eq_zero_iff]
        omega
      · refine ⟨_, if_pos (of_decide_eq_true z), ev_len (ev_op (ev_var rfl (ev_var rfl (rv_ixL (atI_natD hww) ⟨w.length, by simp [lenD, encWay, encNs], ?_⟩))))⟩
        rw [ew]
      · exact if_neg (of_decide_eq_false z)
    rw [pick_lens (fun v => row G.links v = []) (fun v => ((wl G v : Nat) : Int))]
    generalize eS : (List.range G.forms.length).filter (fun v => decide (row G.links v = [])) = S
    have memS : ∀ v, v ∈ S ↔ G.links[v]? = some [] := fun v => by
      rw [← eS, List.mem_filter, List.mem_range, decide_eq_true_eq]
      constructor
      · rintro ⟨h1, h2⟩
        rw [← h2]
        exact row_get (by omega)
      · intro h
        have h1 := (List.getElem?_eq_some_iff.mp h).1
        exact ⟨by omega, row_of h⟩
    have lenS : (S.map fun v => ((wl G v : Nat) : Int)).length = S.length := List.length_map ..
    refine sv_seq (sv_set (ev_non ?_))
    refine sv_seq (sv_imp (P := { nx := fun δ => ∃ (due : Option Int) (s9 s11 : Sl), δ = [.v (.ref b), .tape, .d (enc p'), .d (.int (r : Nat)), .d (encP (src 99)), .d (encG G), .d (.list (G.forms.map enc)), .d (.list (G.ways.map encWay)), .d (encRows G.links), s9, .d (encR due), s11] ∧ ShortP (plain p') due, rt := fun y => y = .bool true }) ?_ ?_ (fun _ h => h) (fun _ h => h) (fun _ h => h))
    · refine sv_ifP (0 < S.length) (et_TE (ev_op (ev_lenS (evs_own rfl (ev_int (rv_b0 (congrArg PyData.bool ?_))))))) (fun q => ?_) fun q => ?_
      · rw [List.length_map, lenS, Bool.eq_iff_iff, decide_eq_true_eq, decide_eq_true_eq]
        omega
      · refine sv_set (ev_minS (evs_own rfl ⟨_, rfl, by rw [lenS]; exact q, fun m hm hx => ?_⟩))
        obtain ⟨v, hv, rfl⟩ := List.mem_map.mp hm
        refine ⟨some ((wl G v : Nat) : Int), _, _, rfl, bi.short1 full ⟨v, (memS v).mp hv, rfl⟩ fun u hu => ?_⟩
        have := hx ((wl G u : Nat) : Int) (List.mem_map.mpr ⟨u, (memS u).mpr hu, rfl⟩)
        omega
      · refine sv_next ⟨none, _, _, rfl, bi.short0 full fun u r' hr e => ?_⟩
        rw [e] at hr
        have h1 := (memS u).mpr hr
        have : S = [] := List.length_eq_zero_iff.mp (by omega)
        rw [this] at h1
        cases h1
    rintro δ ⟨due, s9, s11, rfl, hd⟩
    obtain ⟨m, hm⟩ := maxT_ex (bfN G.links G.links.length) G.links.length pos
    have hL := bi.bf full hm
    refine sv_seq (sv_ifF (et_orF (et_notF (et_BE (ev_call (ea2 (ev_call (ea1 (ev_var rfl ⟨_, ⟨p', _, rfl, gp, dm, hL, rfl⟩, ev_call (ea1 (ev_var rfl ⟨_, ⟨G.links, m, rfl, rok, pos, by omega, hm, rfl⟩, _, ⟨_, _, rfl, rfl⟩, by simp⟩))⟩))))))) (et_notF (et_BE (ev_call (ea2 (ev_call (ea1 (ev_var rfl ⟨_, ⟨p', due, rfl, gp, dm, hd, rfl⟩, ev_var rfl ⟨_, ⟨due, due, rfl, rfl⟩, by simp⟩⟩)))))))) (sv_next ?_))
    have fit : ∀ (i : Nat) (f : Plan), G.forms[i]? = some f → rFits [enc f] (.bool true) := fun i f hf => by
      have df : Dom f := dm.walk (bi.wk i f hf)
      exact ⟨f, rfl, df.good, bi.plain_of (plain_plain p') hf, df, rfl⟩
    have f0 : (G.forms.map enc)[0]? = some (enc (plain p')) := by rw [List.getElem?_map, bi.st]; rfl
    refine sv_ret (ev_andB (a := true) (b := true) (ev_call (ea1 (ev_op (ev_var rfl (ev_int (rv_ixL (atI_natD f0) ⟨_, fit 0 _ bi.st, rfl⟩)))))) fun _ => ev_call (ea1 (ev_op (ev_var rfl (ev_callP (i := 1) rfl (ev_len (ev_var rfl ⟨G.forms.length, enf, G.forms.length, rfl, by omega, by omega, fun j hj => ?_⟩)))))))
    have hf := List.getElem?_eq_getElem hj
    have hfe : (G.forms.map enc)[j]? = some (enc G.forms[j]) := by rw [List.getElem?_map, hf]; rfl
    exact rv_ixL (atI_natD hfe) ⟨_, fit j _ hf, rfl⟩
end
end G
set_option Elab.async false
set_option linter.all false
set_option maxRecDepth 100000
set_option maxHeartbeats 0
namespace G
open PySem PySem.Spec PyProof.Rows L2
abbrev R : PySem.W.OpenRow := PySem.W.OpenLaw.row PySem.Challenge.rw_sealedplans_k74_whole_lengths_of_runs
def loose : List PySem.Str := (["PlanError", "NoPlan", "NoMeeting", "TooMany", "SMALL", "MOST_WORD", "is_integer", "is_within", "is_pair", "is_triple"] : List PySem.Str) ++ (["is_word", "is_door", "is_part", "is_plan_in", "check_plan", "RANKS", "part_key", "plan_key", "sorted_items", "MOST_ITEMS"] : List PySem.Str) ++ (["MOST_NESTED", "part_size", "size_of", "parts_within", "items_in", "nesting", "check_room", "roomy", "gots_at", "mapped"] : List PySem.Str) ++ (["raised", "brought", "roomy_brought", "folded", "plain_of", "meetings_of", "without", "met_of", "is_meeting_of", "meetings"] : List PySem.Str) ++ (["met", "MOST_STANDINGS", "Graph", "graph_of", "in_order", "longest", "shortest", "_law_tape", "_law_pick", "_law_plan"] : List PySem.Str) ++ (["_law_part", "_law_part_size", "_law_size", "_law_raise", "_law_key", "_law_joined", "_law_form", "_law_pairs", "_law_without", "_law_raw"] : List PySem.Str) ++ (["_law_brought", "_law_items_in", "_law_stage", "_law_graph", "_law_longest", "_law_is_count", "_law_fits"] : List PySem.Str)
def lv : Nat := 5
abbrev hk : PySem.W.Hook := He.hookX lv fa fn ts tf ex
def ob (s : PySem.W.SharedT) : He.AlX := He.obsX lv fa fn ts tf ex (HandSHeadRun.getT s)
theorem ob_eq (s : PySem.W.SharedT) : ob s = hk.obs s.abs := He.obsX_eq (HandSHeadRun.getT_eq s)
theorem run0 (w : World) : HandSHeadRun.RunEq R (PySem.W.view R.prog [75]) hk ob 4000 loose (w.withFollow "special-get-raises" false) := by
  intro os
  kernel_rfl
theorem run1 (w : World) : HandSHeadRun.RunEq R (PySem.W.view R.prog [75]) hk ob 4000 loose (w.withFollow "special-get-raises" true) := by
  intro os
  kernel_rfl
theorem run (w : World) : HandSHeadRun.RunEq R (PySem.W.view R.prog [75]) hk ob 4000 loose w := PySem.W.byRow2 "special-get-raises" run0 run1 w
end G
set_option Elab.async false
set_option linter.all false
set_option maxRecDepth 100000
set_option maxHeartbeats 1000000
/-! what the top has; all levels -/
namespace G
open PySem PySem.Spec L2 LamX NdefX PyProof.Rows
section
variable {K : PySem.W.Frag} {h : Heap} {mg : Str → Option Value} {w : World}
theorem there_of {d : He.DefD} {ps : List Str} (F : ∃ fd, FunD K d.name d.qual d.params d.body d.scope [] [] (He.fAd K d.at_) fd) (b : ∀ (kV doc pm : Value) (an : Option Addr) (cdv ct : Value) (us : List Value), us.length = ps.length → bindArgs (PySem.W.fnOf d.name d.qual d.params d.body d.scope .none kV doc pm an cdv ct) ⟨us, []⟩ = pure (ps.zip us)) : There K d ps :=
  let ⟨fd, F⟩ := F
  ⟨fd, F, F.bindsN b⟩
theorem bs_of (X : K.In h) (G : h.Ns mainGlobals mg) (c : He.SaysX fa fn ts tf ex w h K) : Bs K mg where
  t_is_integer := there_of (c.t.d.def_ 0 (d := d_is_integer) rfl) fun _ _ _ _ _ _ us hl => match us, hl with | [_], _ => rfl
  m_is_integer := He.glo_ok X G (c.t.d.fact 0 (f := .glo "is_integer") rfl)
  t_is_within := there_of (c.t.d.def_ 1 (d := d_is_within) rfl) fun _ _ _ _ _ _ us hl => match us, hl with | [_, _, _], _ => rfl
  m_is_within := He.glo_ok X G (c.t.d.fact 1 (f := .glo "is_within") rfl)
  t_is_pair := there_of (c.t.d.def_ 2 (d := d_is_pair) rfl) fun _ _ _ _ _ _ us hl => match us, hl with | [_], _ => rfl
  m_is_pair := He.glo_ok X G (c.t.d.fact 2 (f := .glo "is_pair") rfl)
  t_is_triple := there_of (c.t.d.def_ 3 (d := d_is_triple) rfl) fun _ _ _ _ _ _ us hl => match us, hl with | [_], _ => rfl
  m_is_triple := He.glo_ok X G (c.t.d.fact 3 (f := .glo "is_triple") rfl)
  t_is_word := there_of (c.t.d.def_ 4 (d := d_is_word) rfl) fun _ _ _ _ _ _ us hl => match us, hl with | [_], _ => rfl
  m_is_word := He.glo_ok X G (c.t.d.fact 4 (f := .glo "is_word") rfl)
  t_is_door := there_of (c.t.d.def_ 5 (d := d_is_door) rfl) fun _ _ _ _ _ _ us hl => match us, hl with | [_], _ => rfl
  m_is_door := He.glo_ok X G (c.t.d.fact 5 (f := .glo "is_door") rfl)
  t_is_part := there_of (c.t.d.def_ 6 (d := d_is_part) rfl) fun _ _ _ _ _ _ us hl => match us, hl with | [_, _], _ => rfl
  m_is_part := He.glo_ok X G (c.t.d.fact 6 (f := .glo "is_part") rfl)
  t_is_plan_in := there_of (c.t.d.def_ 7 (d := d_is_plan_in) rfl) fun _ _ _ _ _ _ us hl => match us, hl with | [_, _], _ => rfl
  m_is_plan_in := He.glo_ok X G (c.t.d.fact 7 (f := .glo "is_plan_in") rfl)
  t_check_plan := there_of (c.t.d.def_ 8 (d := d_check_plan) rfl) fun _ _ _ _ _ _ us hl => match us, hl with | [_], _ => rfl
  m_check_plan := He.glo_ok X G (c.t.d.fact 8 (f := .glo "check_plan") rfl)
  t_part_key := there_of (c.t.d.def_ 9 (d := d_part_key) rfl) fun _ _ _ _ _ _ us hl => match us, hl with | [_], _ => rfl
  m_part_key := He.glo_ok X G (c.t.d.fact 9 (f := .glo "part_key") rfl)
  t_plan_key := there_of (c.t.d.def_ 10 (d := d_plan_key) rfl) fun _ _ _ _ _ _ us hl => match us, hl with | [_], _ => rfl
  m_plan_key := He.glo_ok X G (c.t.d.fact 10 (f := .glo "plan_key") rfl)
  t_sorted_items := there_of (c.t.d.def_ 11 (d := d_sorted_items) rfl) fun _ _ _ _ _ _ us hl => match us, hl with | [_], _ => rfl
  m_sorted_items := He.glo_ok X G (c.t.d.fact 11 (f := .glo "sorted_items") rfl)
  t_part_size := there_of (c.t.d.def_ 12 (d := d_part_size) rfl) fun _ _ _ _ _ _ us hl => match us, hl with | [_], _ => rfl
  m_part_size := He.glo_ok X G (c.t.d.fact 12 (f := .glo "part_size") rfl)
  t_size_of := there_of (c.t.d.def_ 13 (d := d_size_of) rfl) fun _ _ _ _ _ _ us hl => match us, hl with | [_], _ => rfl
  m_size_of := He.glo_ok X G (c.t.d.fact 13 (f := .glo "size_of") rfl)
  t_parts_within := there_of (c.t.d.def_ 14 (d := d_parts_within) rfl) fun _ _ _ _ _ _ us hl => match us, hl with | [_], _ => rfl
  m_parts_within := He.glo_ok X G (c.t.d.fact 14 (f := .glo "parts_within") rfl)
  t_items_in := there_of (c.t.d.def_ 15 (d := d_items_in) rfl) fun _ _ _ _ _ _ us hl => match us, hl with | [_], _ => rfl
  m_items_in := He.glo_ok X G (c.t.d.fact 15 (f := .glo "items_in") rfl)
  t_nesting := there_of (c.t.d.def_ 16 (d := d_nesting) rfl) fun _ _ _ _ _ _ us hl => match us, hl with | [_], _ => rfl
  m_nesting := He.glo_ok X G (c.t.d.fact 16 (f := .glo "nesting") rfl)
  t_check_room := there_of (c.t.d.def_ 17 (d := d_check_room) rfl) fun _ _ _ _ _ _ us hl => match us, hl with | [_], _ => rfl
  m_check_room := He.glo_ok X G (c.t.d.fact 17 (f := .glo "check_room") rfl)
  t_roomy := there_of (c.t.d.def_ 18 (d := d_roomy) rfl) fun _ _ _ _ _ _ us hl => match us, hl with | [_], _ => rfl
  m_roomy := He.glo_ok X G (c.t.d.fact 18 (f := .glo "roomy") rfl)
  t_gots_at := there_of (c.t.d.def_ 19 (d := d_gots_at) rfl) fun _ _ _ _ _ _ us hl => match us, hl with | [_, _], _ => rfl
  m_gots_at := He.glo_ok X G (c.t.d.fact 19 (f := .glo "gots_at") rfl)
  t_mapped := there_of (c.t.d.def_ 20 (d := d_mapped) rfl) fun _ _ _ _ _ _ us hl => match us, hl with | [_, _, _], _ => rfl
  m_mapped := He.glo_ok X G (c.t.d.fact 20 (f := .glo "mapped") rfl)
  t_raised := there_of (c.t.d.def_ 21 (d := d_raised) rfl) fun _ _ _ _ _ _ us hl => match us, hl with | [_, _, _], _ => rfl
  m_raised := He.glo_ok X G (c.t.d.fact 21 (f := .glo "raised") rfl)
  t_brought := there_of (c.t.d.def_ 22 (d := d_brought) rfl) fun _ _ _ _ _ _ us hl => match us, hl with | [_, _], _ => rfl
  m_brought := He.glo_ok X G (c.t.d.fact 22 (f := .glo "brought") rfl)
  t_roomy_brought := there_of (c.t.d.def_ 23 (d := d_roomy_brought) rfl) fun _ _ _ _ _ _ us hl => match us, hl with | [_, _, _], _ => rfl
  m_roomy_brought := He.glo_ok X G (c.t.d.fact 23 (f := .glo "roomy_brought") rfl)
  t_folded := there_of (c.t.d.def_ 24 (d := d_folded) rfl) fun _ _ _ _ _ _ us hl => match us, hl with | [_, _], _ => rfl
  m_folded := He.glo_ok X G (c.t.d.fact 24 (f := .glo "folded") rfl)
  t_plain_of := there_of (c.t.d.def_ 25 (d := d_plain_of) rfl) fun _ _ _ _ _ _ us hl => match us, hl with | [_], _ => rfl
  m_plain_of := He.glo_ok X G (c.t.d.fact 25 (f := .glo "plain_of") rfl)
  t_meetings_of := there_of (c.t.d.def_ 26 (d := d_meetings_of) rfl) fun _ _ _ _ _ _ us hl => match us, hl with | [_], _ => rfl
  m_meetings_of := He.glo_ok X G (c.t.d.fact 26 (f := .glo "meetings_of") rfl)
  t_without := there_of (c.t.d.def_ 27 (d := d_without) rfl) fun _ _ _ _ _ _ us hl => match us, hl with | [_, _], _ => rfl
  m_without := He.glo_ok X G (c.t.d.fact 27 (f := .glo "without") rfl)
  t_met_of := there_of (c.t.d.def_ 28 (d := d_met_of) rfl) fun _ _ _ _ _ _ us hl => match us, hl with | [_, _], _ => rfl
  m_met_of := He.glo_ok X G (c.t.d.fact 28 (f := .glo "met_of") rfl)
  t_is_meeting_of := there_of (c.t.d.def_ 29 (d := d_is_meeting_of) rfl) fun _ _ _ _ _ _ us hl => match us, hl with | [_, _], _ => rfl
  m_is_meeting_of := He.glo_ok X G (c.t.d.fact 29 (f := .glo "is_meeting_of") rfl)
  t_meetings := there_of (c.t.d.def_ 30 (d := d_meetings) rfl) fun _ _ _ _ _ _ us hl => match us, hl with | [_], _ => rfl
  m_meetings := He.glo_ok X G (c.t.d.fact 30 (f := .glo "meetings") rfl)
  t_met := there_of (c.t.d.def_ 31 (d := d_met) rfl) fun _ _ _ _ _ _ us hl => match us, hl with | [_, _], _ => rfl
  m_met := He.glo_ok X G (c.t.d.fact 31 (f := .glo "met") rfl)
  t_Graph_init := there_of (c.t.d.def_ 32 (d := d_Graph_init) rfl) fun _ _ _ _ _ _ us hl => match us, hl with | [_, _], _ => rfl
  t_Graph_number_of := there_of (c.t.d.def_ 33 (d := d_Graph_number_of) rfl) fun _ _ _ _ _ _ us hl => match us, hl with | [_, _], _ => rfl
  t_Graph_reach := there_of (c.t.d.def_ 34 (d := d_Graph_reach) rfl) fun _ _ _ _ _ _ us hl => match us, hl with | [_, _, _], _ => rfl
  t_Graph_grow := there_of (c.t.d.def_ 35 (d := d_Graph_grow) rfl) fun _ _ _ _ _ _ us hl => match us, hl with | [_], _ => rfl
  t_graph_of := there_of (c.t.d.def_ 36 (d := d_graph_of) rfl) fun _ _ _ _ _ _ us hl => match us, hl with | [_], _ => rfl
  m_graph_of := He.glo_ok X G (c.t.d.fact 32 (f := .glo "graph_of") rfl)
  t_in_order := there_of (c.t.d.def_ 37 (d := d_in_order) rfl) fun _ _ _ _ _ _ us hl => match us, hl with | [_], _ => rfl
  m_in_order := He.glo_ok X G (c.t.d.fact 33 (f := .glo "in_order") rfl)
  t_longest := there_of (c.t.d.def_ 38 (d := d_longest) rfl) fun _ _ _ _ _ _ us hl => match us, hl with | [_], _ => rfl
  m_longest := He.glo_ok X G (c.t.d.fact 34 (f := .glo "longest") rfl)
  t_shortest := there_of (c.t.d.def_ 39 (d := d_shortest) rfl) fun _ _ _ _ _ _ us hl => match us, hl with | [_], _ => rfl
  m_shortest := He.glo_ok X G (c.t.d.fact 35 (f := .glo "shortest") rfl)
  t_law_tape := there_of (c.t.d.def_ 40 (d := d_law_tape) rfl) fun _ _ _ _ _ _ us hl => match us, hl with | [_], _ => rfl
  m_law_tape := He.glo_ok X G (c.t.d.fact 36 (f := .glo "_law_tape") rfl)
  t_law_pick := there_of (c.t.d.def_ 41 (d := d_law_pick) rfl) fun _ _ _ _ _ _ us hl => match us, hl with | [_, _], _ => rfl
  m_law_pick := He.glo_ok X G (c.t.d.fact 37 (f := .glo "_law_pick") rfl)
  t_law_plan := there_of (c.t.d.def_ 42 (d := d_law_plan) rfl) fun _ _ _ _ _ _ us hl => match us, hl with | [_, _, _, _, _], _ => rfl
  m_law_plan := He.glo_ok X G (c.t.d.fact 38 (f := .glo "_law_plan") rfl)
  t_law_part := there_of (c.t.d.def_ 43 (d := d_law_part) rfl) fun _ _ _ _ _ _ us hl => match us, hl with | [_, _, _, _, _], _ => rfl
  m_law_part := He.glo_ok X G (c.t.d.fact 39 (f := .glo "_law_part") rfl)
  t_law_part_size := there_of (c.t.d.def_ 44 (d := d_law_part_size) rfl) fun _ _ _ _ _ _ us hl => match us, hl with | [_], _ => rfl
  m_law_part_size := He.glo_ok X G (c.t.d.fact 40 (f := .glo "_law_part_size") rfl)
  t_law_size := there_of (c.t.d.def_ 45 (d := d_law_size) rfl) fun _ _ _ _ _ _ us hl => match us, hl with | [_], _ => rfl
  m_law_size := He.glo_ok X G (c.t.d.fact 41 (f := .glo "_law_size") rfl)
  t_law_raise := there_of (c.t.d.def_ 46 (d := d_law_raise) rfl) fun _ _ _ _ _ _ us hl => match us, hl with | [_, _, _], _ => rfl
  m_law_raise := He.glo_ok X G (c.t.d.fact 42 (f := .glo "_law_raise") rfl)
  t_law_key := there_of (c.t.d.def_ 47 (d := d_law_key) rfl) fun _ _ _ _ _ _ us hl => match us, hl with | [_], _ => rfl
  m_law_key := He.glo_ok X G (c.t.d.fact 43 (f := .glo "_law_key") rfl)
  t_law_joined := there_of (c.t.d.def_ 48 (d := d_law_joined) rfl) fun _ _ _ _ _ _ us hl => match us, hl with | [_], _ => rfl
  m_law_joined := He.glo_ok X G (c.t.d.fact 44 (f := .glo "_law_joined") rfl)
  t_law_form := there_of (c.t.d.def_ 49 (d := d_law_form) rfl) fun _ _ _ _ _ _ us hl => match us, hl with | [_], _ => rfl
  m_law_form := He.glo_ok X G (c.t.d.fact 45 (f := .glo "_law_form") rfl)
  t_law_pairs := there_of (c.t.d.def_ 50 (d := d_law_pairs) rfl) fun _ _ _ _ _ _ us hl => match us, hl with | [_], _ => rfl
  m_law_pairs := He.glo_ok X G (c.t.d.fact 46 (f := .glo "_law_pairs") rfl)
  t_law_without := there_of (c.t.d.def_ 51 (d := d_law_without) rfl) fun _ _ _ _ _ _ us hl => match us, hl with | [_, _], _ => rfl
  m_law_without := He.glo_ok X G (c.t.d.fact 47 (f := .glo "_law_without") rfl)
  t_law_raw := there_of (c.t.d.def_ 52 (d := d_law_raw) rfl) fun _ _ _ _ _ _ us hl => match us, hl with | [_, _], _ => rfl
  m_law_raw := He.glo_ok X G (c.t.d.fact 48 (f := .glo "_law_raw") rfl)
  t_law_brought := there_of (c.t.d.def_ 53 (d := d_law_brought) rfl) fun _ _ _ _ _ _ us hl => match us, hl with | [_, _, _], _ => rfl
  m_law_brought := He.glo_ok X G (c.t.d.fact 49 (f := .glo "_law_brought") rfl)
  t_law_items_in := there_of (c.t.d.def_ 54 (d := d_law_items_in) rfl) fun _ _ _ _ _ _ us hl => match us, hl with | [_], _ => rfl
  m_law_items_in := He.glo_ok X G (c.t.d.fact 50 (f := .glo "_law_items_in") rfl)
  t_law_stage := there_of (c.t.d.def_ 55 (d := d_law_stage) rfl) fun _ _ _ _ _ _ us hl => match us, hl with | [_, _, _], _ => rfl
  m_law_stage := He.glo_ok X G (c.t.d.fact 51 (f := .glo "_law_stage") rfl)
  t_law_graph := there_of (c.t.d.def_ 56 (d := d_law_graph) rfl) fun _ _ _ _ _ _ us hl => match us, hl with | [_, _], _ => rfl
  m_law_graph := He.glo_ok X G (c.t.d.fact 52 (f := .glo "_law_graph") rfl)
  t_law_longest := there_of (c.t.d.def_ 57 (d := d_law_longest) rfl) fun _ _ _ _ _ _ us hl => match us, hl with | [_], _ => rfl
  m_law_longest := He.glo_ok X G (c.t.d.fact 53 (f := .glo "_law_longest") rfl)
  t_law_is_count := there_of (c.t.d.def_ 58 (d := d_law_is_count) rfl) fun _ _ _ _ _ _ us hl => match us, hl with | [_, _], _ => rfl
  m_law_is_count := He.glo_ok X G (c.t.d.fact 54 (f := .glo "_law_is_count") rfl)
  t_law_fits := there_of (c.t.d.def_ 59 (d := d_law_fits) rfl) fun _ _ _ _ _ _ us hl => match us, hl with | [_], _ => rfl
  m_law_fits := He.glo_ok X G (c.t.d.fact 55 (f := .glo "_law_fits") rfl)
  t_law := there_of (c.t.d.def_ 60 (d := d_law) rfl) fun _ _ _ _ _ _ us hl => match us, hl with | [_], _ => rfl
  m_law := He.glo_ok X G (c.t.d.fact 56 (f := .glo "law") rfl)
  isinstance := He.free_ok X G (c.t.d.fact 59 (f := .free "isinstance") rfl)
  int := He.free_ok X G (c.t.d.fact 60 (f := .free "int") rfl)
  bool := He.free_ok X G (c.t.d.fact 61 (f := .free "bool") rfl)
  tuple := He.free_ok X G (c.t.d.fact 62 (f := .free "tuple") rfl)
  len := He.free_ok X G (c.t.d.fact 63 (f := .free "len") rfl)
  str := He.free_ok X G (c.t.d.fact 64 (f := .free "str") rfl)
  all := He.free_ok X G (c.t.d.fact 65 (f := .free "all") rfl)
  sum := He.free_ok X G (c.t.d.fact 66 (f := .free "sum") rfl)
  list := He.free_ok X G (c.t.d.fact 67 (f := .free "list") rfl)
  sorted := He.free_ok X G (c.t.d.fact 68 (f := .free "sorted") rfl)
  max := He.free_ok X G (c.t.d.fact 69 (f := .free "max") rfl)
  min := He.free_ok X G (c.t.d.fact 70 (f := .free "min") rfl)
  range := He.free_ok X G (c.t.d.fact 71 (f := .free "range") rfl)
  enumerate := He.free_ok X G (c.t.d.fact 72 (f := .free "enumerate") rfl)
  zip := He.free_ok X G (c.t.d.fact 73 (f := .free "zip") rfl)
  mostWord := He.int_ok X G (c.t.d.fact 74 (f := .int "MOST_WORD" 8) rfl)
  mostItems := He.int_ok X G (c.t.d.fact 75 (f := .int "MOST_ITEMS" 5000) rfl)
  mostNested := He.int_ok X G (c.t.d.fact 76 (f := .int "MOST_NESTED" 120) rfl)
  mostStandings := He.int_ok X G (c.t.d.fact 77 (f := .int "MOST_STANDINGS" 500) rfl)
  small := He.str_ok X G (c.t.d.fact 78 (f := .str "SMALL" "abcdefghijklmnopqrstuvwxyz") rfl)
  ranks := He.glo_ok X G (c.t.d.fact 58 (f := .glo "RANKS") rfl)
  rankv := (He.ba c.more).1
  graph := He.glo_ok X G (c.t.d.fact 57 (f := .glo "Graph") rfl)
  gcls := He.cls_ok (c.t.d.fact 79 (f := .cls "Graph") rfl)
  g_forms := He.noat_ok (c.t.d.fact 80 (f := .noat "Graph" "forms") rfl)
  g_by_size := He.noat_ok (c.t.d.fact 81 (f := .noat "Graph" "by_size") rfl)
  g_links := He.noat_ok (c.t.d.fact 82 (f := .noat "Graph" "links") rfl)
  g_gates := He.noat_ok (c.t.d.fact 83 (f := .noat "Graph" "gates") rfl)
  g_earliest := He.noat_ok (c.t.d.fact 84 (f := .noat "Graph" "earliest") rfl)
  gm_number_of := He.meth_ok (c.t.d.fact 85 (f := .meth "Graph" "number_of") rfl)
  gm_reach := He.meth_ok (c.t.d.fact 86 (f := .meth "Graph" "reach") rfl)
  gm_grow := He.meth_ok (c.t.d.fact 87 (f := .meth "Graph" "grow") rfl)
  gmk := He.mkr_ok (c.t.d.fact 88 (f := .mkr "Graph") rfl)
end
section
variable {W : Wd}
theorem vac_raw {d : He.DefD} {N ps : List Str} {k : Nat} {sp : Sp} (F : There W.K d ps) (S : FnScope N ps d.scope) (no : ∀ vs H Q E, ¬ sp vs H Q E) : Keeps W.P W.w W.K W.mg W.base d ps (k + 1) sp :=
  def_raw F S (fun vs H Q E z => (no vs H Q E z).elim) fun _ _ _ _ _ _ _ vs Q z => (no vs _ Q _ z).elim
theorem vac_kp {d : He.DefD} {N ps : List Str} {k : Nat} {rel : List D → D → Prop} (F : There W.K d ps) (S : FnScope N ps d.scope) (no : ∀ ds y, ¬ rel ds y) : Kp W d ps (k + 1) rel := (kp_vac F S).sub fun ds y z => (no ds y z).elim
variable (B : Bs W.K W.mg) (BT : Tb W)
include B
theorem a_integer : Kp W d_is_integer ["thing"] 1 fun ds y => ∃ i, ds = [.int i] ∧ y = .bool true := k_is_integer B
theorem a_within : Kp W d_is_within ["thing", "least", "most"] 2 fun ds y => ∃ i a b, ds = [.int i, .int a, .int b] ∧ (a ≤ i ∧ i ≤ b) ∧ y = .bool true := k_is_within B (a_integer B)
theorem a_pair : Kp W d_is_pair ["thing"] 1 fun ds y => ∃ xs, ds = [.tuple xs] ∧ y = .bool (decide (xs.length = 2)) := k_is_pair B
theorem a_triple : Kp W d_is_triple ["thing"] 1 fun ds y => ∃ xs, ds = [.tuple xs] ∧ y = .bool (decide (xs.length = 3)) := k_is_triple B
theorem a_word : Kp W d_is_word ["thing"] 1 rWord := k_is_word B
theorem a_door : Kp W d_is_door ["thing"] 2 rWord := k_is_door B (a_word B)
theorem a_part_of {n : Nat} (h : Kp W d_is_plan_in ["thing", "depth"] (3 + 2 * n) (rPlanIn n)) : Kp W d_is_part ["thing", "depth"] (3 + 2 * n + 1) (rPart (n + 1)) :=
  k_is_part B ((a_integer B).mono (by omega)) ((a_within B).mono (by omega)) ((a_pair B).mono (by omega)) ((a_triple B).mono (by omega)) ((a_word B).mono (by omega)) ((a_door B).mono (by omega)) h
theorem a_plan_in : ∀ n : Nat, Kp W d_is_plan_in ["thing", "depth"] (3 + 2 * n) (rPlanIn n)
  | 0 => vac_kp B.t_is_plan_in sc_is_plan_in fun ds y ⟨p, m, _, z, _⟩ => absurd z (Nat.not_lt_zero _)
  | n + 1 => k_is_plan_in B (k := 3 + 2 * n + 1) ((a_integer B).mono (by omega)) ((a_pair B).mono (by omega)) (a_part_of B (a_plan_in n))
theorem a_check : Kp W d_check_plan ["thing"] 126 (rCheck 61) := k_check_plan B (a_plan_in B 61)
theorem a_part : Kp W d_is_part ["thing", "depth"] 124 (rPart 61) := a_part_of B (a_plan_in B 60)
theorem a_size : ∀ n : Nat, Kp W d_size_of ["plan"] (1 + 2 * n) (rSizeL n)
  | 0 => vac_kp B.t_size_of sc_size_of fun ds y ⟨p, _, z, _⟩ => absurd z (Nat.not_lt_zero _)
  | n + 1 => k_size_of B (k_part_size B (a_size n))
theorem a_parts : ∀ n : Nat, Kp W d_parts_within ["plan"] (1 + n) (rParts n)
  | 0 => vac_kp B.t_parts_within sc_parts_within fun ds y ⟨p, _, z, _⟩ => absurd z (Nat.not_lt_zero _)
  | n + 1 => k_parts_within B (a_parts n)
theorem a_items : Kp W d_items_in ["plan"] 63 (rItems 61) := k_items_in B (a_parts B 61)
theorem a_nest : ∀ n : Nat, Kp W d_nesting ["plan"] (1 + n) (rNest n)
  | 0 => vac_kp B.t_nesting sc_nesting fun ds y ⟨p, _, z, _⟩ => absurd z (Nat.not_lt_zero _)
  | n + 1 => k_nesting B (a_nest n)
theorem a_room : Kp W d_check_room ["items"] 1 fun ds y => ∃ i, ds = [.int i] ∧ i ≤ 5000 ∧ y = .none := k_check_room B
theorem a_roomy : Kp W d_roomy ["plan"] 64 (rRoomy 61) := k_roomy B ((a_room B).mono (by decide)) (a_items B) ((a_nest B 61).mono (by decide))
theorem a_gots : ∀ n : Nat, Kp W d_gots_at ["plan", "depth"] (1 + n) (rGots n)
  | 0 => vac_kp B.t_gots_at sc_gots_at fun ds y ⟨p, _, _, z, _⟩ => absurd z (Nat.not_lt_zero _)
  | n + 1 => k_gots_at B (a_gots n)
theorem a_mapped {ka : Nat} : ∀ n : Nat, Keeps W.P W.w W.K W.mg W.base d_mapped ["plan", "depth", "action"] (ka + 1 + n) (spM W ka n)
  | 0 => vac_raw B.t_mapped sc_mapped fun vs H Q E ⟨_, _, _, _, _, _, _, _, _, _, _, z, _⟩ => absurd z (Nat.not_lt_zero _)
  | n + 1 => k_mapped B (k := ka + 1 + n) (by omega) (a_mapped n)
theorem a_without : Kp W d_without ["plan", "part"] 1 rWithout := k_without B
theorem a_meetOf : Kp W d_meetings_of ["plan"] 1 rMeetOf := k_meetings_of B
theorem a_order : Kp W d_in_order ["links"] 1 rInOrder := k_in_order B
theorem b_size : ∀ n : Nat, Kp W d_law_size ["_law_plan_here"] (1 + 2 * n) (rSizeL n)
  | 0 => vac_kp B.t_law_size sc_law_size fun ds y ⟨p, _, z, _⟩ => absurd z (Nat.not_lt_zero _)
  | n + 1 => k_law_size B (k_law_part_size B (b_size n))
theorem b_partSize (n : Nat) : Kp W d_law_part_size ["_law_part_here"] (1 + 2 * n + 1) (rSizeP (n + 1)) := k_law_part_size B (b_size B n)
theorem b_key : ∀ n : Nat, Kp W d_law_key ["_law_part_here"] (1 + 2 * n) (rKeyP n)
  | 0 => vac_kp B.t_law_key sc_law_key fun ds y ⟨p, _, z, _⟩ => absurd z (Nat.not_lt_zero _)
  | n + 1 => k_law_key B (k := 1 + 2 * n + 1) (b_partSize B n) ((b_key n).mono (by omega))
theorem b_items : ∀ n : Nat, Kp W d_law_items_in ["_law_plan_here"] (1 + n) (rItems n)
  | 0 => vac_kp B.t_law_items_in sc_law_items_in fun ds y ⟨p, _, z, _⟩ => absurd z (Nat.not_lt_zero _)
  | n + 1 => k_law_items_in B (b_items n)
theorem b_raise : ∀ n : Nat, Kp W d_law_raise ["_law_plan_here", "_law_by", "_law_least"] (1 + n) (rLRaise n)
  | 0 => vac_kp B.t_law_raise sc_law_raise fun ds y ⟨p, _, _, _, z, _⟩ => absurd z (Nat.not_lt_zero _)
  | n + 1 => k_law_raise B (b_raise n)
theorem b_brought : ∀ n : Nat, Kp W d_law_brought ["_law_plan_here", "_law_depth", "_law_other"] (1 + n) (rLBrought n)
  | 0 => vac_kp B.t_law_brought sc_law_brought fun ds y ⟨p, _, _, _, z, _⟩ => absurd z (Nat.not_lt_zero _)
  | n + 1 => k_law_brought B (b_brought n)
theorem b_pairs : Kp W d_law_pairs ["_law_form_here"] 1 rMeetOf := k_law_pairs B
theorem b_raw : Kp W d_law_raw ["_law_form_here", "_law_pair"] 63 rLRaw := k_law_raw B ((k_law_without (k := 0) B).mono (by decide)) (b_brought B 61)
theorem b_pick : Keeps W.P W.w W.K W.mg W.base d_law_pick ["_law_tape_here", "_law_many"] 1 (spT W.T prePick relPick) := k_law_pick B
theorem b_plan : ∀ n : Nat, n ≤ 20 → Keeps W.P W.w W.K W.mg W.base d_law_plan ["_law_tape_here", "_law_left", "_law_depth", "_law_letters", "_law_words"] (125 + 2 * n) (spT W.T (prePl (n : Nat)) relPl)
  | 0, _ => vac_raw B.t_law_plan sc_law_plan fun vs H Q E ⟨_, _, _, _, _, _, _, _, _, _, ⟨_, _, _, _, _, z1, z2, _⟩, _⟩ => by omega
  | n + 1, hn => by
    have h := k_law_part B (n := (n : Nat)) ((b_pick B).mono (by omega)) (b_plan n (by omega))
    exact k_law_plan B (k := 125 + 2 * n + 1) (n := ((n + 1 : Nat) : Int)) ((b_pick B).mono (by omega)) ((b_partSize B 60).mono (by omega)) h (by omega)
theorem b_stage : Keeps W.P W.w W.K W.mg W.base d_law_stage ["_law_tape_here", "_law_letters", "_law_most"] 136 (spT W.T preSt relSt) := k_law_stage B ((b_pick B).mono (by decide)) (b_plan B 5 (by decide))
theorem b_tape : Keeps W.P W.w W.K W.mg W.base d_law_tape ["_law_script"] 1 (spMk W) := k_law_tape B
theorem b_longest : Kp W d_law_longest ["_law_links"] 1 rLawLongest := k_law_longest B
theorem b_count : Kp W d_law_is_count ["_law_told", "_law_due"] 1 rIsCount := k_law_is_count B
include BT
theorem a_key : ∀ n : Nat, Kp W d_part_key ["part"] (1 + 2 * n) (rKeyP n)
  | 0 => vac_kp B.t_part_key sc_part_key fun ds y ⟨p, _, z, _⟩ => absurd z (Nat.not_lt_zero _)
  | n + 1 => k_part_key B BT.rk (k_plan_key B (a_key n))
theorem a_sorted (n : Nat) : Kp W d_sorted_items ["items"] (1 + 2 * n + 3 + 1) (rSorted n) := k_sorted_items B BT (a_key B BT n)
theorem a_raised : Kp W d_raised ["plan", "by", "least"] 64 (rRaised 61) := k_raised B BT (a_mapped B (ka := 1) 61)
theorem a_brought : Kp W d_brought ["body", "other"] 128 (rBrought 61) := k_brought B BT (j := 64) (a_raised B BT) (a_mapped B (ka := 65) 61)
theorem a_folded : Kp W d_folded ["door", "body"] 65 (rFolded 61) := k_folded B (a_raised B BT)
theorem a_plain : ∀ n : Nat, n ≤ 61 → Kp W d_plain_of ["plan"] (66 + 2 * n) (rPlain n)
  | 0, _ => vac_kp B.t_plain_of sc_plain_of fun ds y ⟨p, _, z, _⟩ => absurd z (Nat.not_lt_zero _)
  | n + 1, hn => k_plain_of B (k := 66 + 2 * n + 1) ((Kp.sub (a_folded B BT) (rel' := rFolded n) fun ds y ⟨d, b, h1, h2, h3⟩ => ⟨d, b, h1, by omega, h3⟩).up (by omega)) ((a_sorted B BT (n + 1)).mono (by omega)) ((a_plain n (by omega)).mono (by omega))
theorem a_rb : Kp W d_roomy_brought ["rest", "body", "other"] 129 rRB := k_roomy_brought B ((a_room B).mono (by decide)) ((a_items B).mono (by decide)) ((a_gots B 61).mono (by decide)) ((a_roomy B).mono (by decide)) (a_brought B BT)
theorem a_metOf : Kp W d_met_of ["plan", "meeting"] 189 rMetOf := k_met_of B ((a_without B).mono (by decide)) (a_plain B BT 61 (by decide)) ((a_rb B BT).mono (by decide))
theorem a_isMeeting : Kp W d_is_meeting_of ["plan", "thing"] 125 rIsMeeting := k_is_meeting_of B ((a_pair B).mono (by decide)) (a_part B) ((a_meetOf B).mono (by decide))
theorem a_meetings : Kp W d_meetings ["plan"] 189 rMeetings := k_meetings B ((a_check B).mono (by decide)) (a_plain B BT 61 (by decide)) ((a_meetOf B).mono (by decide))
theorem a_met : Kp W d_met ["plan", "meeting"] 190 rMet := k_met B ((a_check B).mono (by decide)) ((a_plain B BT 61 (by decide)).mono (by decide)) ((a_isMeeting B BT).mono (by decide)) (a_metOf B BT)
theorem a_number : Keeps W.P W.w W.K W.mg W.base d_Graph_number_of ["self", "form"] 124 (spNum W) := k_number_of B (a_size B 61)
theorem a_reach : Keeps W.P W.w W.K W.mg W.base d_Graph_reach ["self", "form", "choices"] 125 (spReach W) := k_reach B ((a_size B 61).mono (by decide)) (a_number B BT)
theorem a_init : Keeps W.P W.w W.K W.mg W.base d_Graph_init ["self", "start"] 124 (spInit W) := k_init B (a_size B 61)
theorem a_grow : Keeps W.P W.w W.K W.mg W.base d_Graph_grow ["self"] 190 (spGrow W) := k_grow B ((a_meetOf B).mono (by decide)) (a_metOf B BT) ((a_reach B BT).mono (by decide))
theorem a_graph : Keeps W.P W.w W.K W.mg W.base d_graph_of ["plan"] 191 (spGraph W) := k_graph_of B ((a_plain B BT 61 (by decide)).mono (by decide)) ((a_init B BT).mono (by decide)) (a_grow B BT)
theorem a_longest : Kp W d_longest ["plan"] 192 rLongest := k_longest B ((a_check B).mono (by decide)) (a_graph B BT) ((a_order B).mono (by decide))
theorem a_shortest : Kp W d_shortest ["plan"] 192 rShortest := k_shortest B ((a_check B).mono (by decide)) (a_graph B BT)
theorem b_joined (n : Nat) : Kp W d_law_joined ["_law_items"] (1 + 2 * n + 3 + 1) (rSorted n) := k_law_joined B BT (b_key B n)
theorem b_form : ∀ n : Nat, n ≤ 61 → Kp W d_law_form ["_law_plan_here"] (66 + 2 * n) (rPlain n)
  | 0, _ => vac_kp B.t_law_form sc_law_form fun ds y ⟨p, _, z, _⟩ => absurd z (Nat.not_lt_zero _)
  | n + 1, hn => k_law_form B (k := 66 + 2 * n + 1) ((b_joined B BT (n + 1)).mono (by omega)) ((b_raise B n).mono (by omega)) ((b_form n (by omega)).mono (by omega))
theorem b_graph : Keeps W.P W.w W.K W.mg W.base d_law_graph ["_law_plan_here", "_law_most"] 189 (spN W.T preLG rLG) := k_law_graph B (b_form B BT 61 (by decide)) ((b_pairs B).mono (by decide)) ((b_raw B).mono (by decide)) ((b_items B 61).mono (by decide))
theorem b_fits : Kp W d_law_fits ["_law_form_here"] 193 rFits := k_law_fits B ((a_meetings B BT).mono (by decide)) ((a_met B BT).mono (by decide)) (a_longest B BT) (a_shortest B BT) ((b_count B).mono (by decide))
theorem b_law {fd : FuncData} (F : FunD W.K d_law.name d_law.qual d_law.params d_law.body d_law.scope [] [] (He.fAd W.K d_law.at_) fd) : FnOk W.P W.w W.K W.mg W.base CX0 194 (He.fAd W.K d_law.at_) fd ["_law_script"] (spLaw W) := k_law B F ((b_tape B).mono (by decide)) ((b_pick B).mono (by decide)) ((b_stage B).mono (by decide)) ((b_graph B BT).mono (by decide)) ((a_longest B BT).mono (by decide)) ((a_shortest B BT).mono (by decide)) ((b_longest B).mono (by decide)) ((b_count B).mono (by decide)) (b_fits B BT)
end
/-! ### the end -/
theorem law_at {l : PySem.W.OpenLaw} {w : World} {K : PySem.W.Frag} {h : Heap} {mg : Str → Option Value} {f : Addr} (X : K.In h) (G : h.Ns mainGlobals mg) (hfa : mg ("law" : Str) = some (.ref f)) (c : He.SaysX fa fn ts tf ex w h K) : LawAtS l w K CX0 194 63 "_law_script" mg f h := by
  have B := bs_of X G c
  obtain ⟨fd, F⟩ := c.t.d.def_ 60 (d := d_law) rfl
  have F : FunD K d_law.name d_law.qual d_law.params d_law.body d_law.scope [] [] (He.fAd K d_law.at_) fd := F
  have e := hfa.symm.trans B.m_law
  cases e
  let W0 : Wd := ⟨l.prog, w, K, mg, h, (tf.map fun p => (He.cT K p).2).zip lamN⟩
  refine ⟨fd, tf.map (He.cT K), spLaw W0, fun p hp => ?_, fun p hp => ?_, fun p hp => ?_, fun s u => ?_, fun H a ns _ _ hT hS => ?_, fun base hb hns hTab => ?_⟩
  · obtain ⟨q, hq, rfl⟩ := List.mem_map.mp hp
    exact c.empty q hq
  · obtain ⟨q, hq, rfl⟩ := List.mem_map.mp hp
    exact c.out q hq
  · obtain ⟨q, hq, rfl⟩ := List.mem_map.mp hp
    exact PySem.W.codeHd_of_K X (c.hd q hq)
  · exact FunD.bindsA (ps := ["_law_script"]) F (fun _ _ _ _ _ _ us hl => match us, hl with | [_], _ => rfl) s [u] rfl
  · refine ⟨fun _ => none, ns, a, rfl, fun b o z => (by cases z), fun p hp => ?_, hS, fun v H' e => e⟩
    have h1 := (List.of_mem_zip hp).1
    obtain ⟨q, hq, e⟩ := List.mem_map.mp h1
    have h2 := hT (He.cT K q) (List.mem_map.mpr ⟨q, hq, rfl⟩)
    rw [e] at h2
    exact ⟨#[], h2, trivial, fun pos cv z => (by cases z)⟩
  · have BT : Tb ⟨l.prog, w, K, mg, base, (tf.map fun p => (He.cT K p).2).zip lamN⟩ :=
      ⟨fun p hp => hTab _ (List.mem_map.mpr ⟨p, hp, rfl⟩), rfl, of_decide_eq_true (He.ba c.more).2, c.t.tab 0 rfl⟩
    exact b_law (W := ⟨l.prog, w, K, mg, base, (tf.map fun p => (He.cT K p).2).zip lamN⟩) B BT F
end G
set_option Elab.async false
set_option linter.all false
open PySem PySem.W PySem.Calls PyProof.Rows
set_option maxRecDepth 100000 in
set_option maxHeartbeats 0 in
theorem PySem.Challenge.cw_sealedplans_k74_whole_lengths_of_runs_holds : PySem.Challenge.rw_sealedplans_k74_whole_lengths_of_runs.Holds := by
  w_on; o_law
  refine HandSHeadRun.head_any (r := OpenLaw.row PySem.Challenge.rw_sealedplans_k74_whole_lengths_of_runs) (q := view (OpenLaw.row PySem.Challenge.rw_sealedplans_k74_whole_lengths_of_runs).prog [75]) (H := G.hk) (ob := G.ob) (M := 4000) (loose := G.loose) (d := HandSHeadRun.topDef (OpenLaw.row PySem.Challenge.rw_sealedplans_k74_whole_lengths_of_runs).prog 75) (kwd := []) G.ob_eq
    (by kernel_rfl) (fun s => by kernel_rfl) G.run (by kernel_rfl) (by kernel_rfl) (by kernel_rfl) (by rfl) (by first | assumption | decide +kernel) (by decide +kernel) ⟨rfl, rfl, rfl, rfl, rfl, by decide +kernel⟩ ?hw ?hc
  case hw => w_witness2
  case hc =>
    refine LamX.walk_ofTsE (l := PySem.Challenge.rw_sealedplans_k74_whole_lengths_of_runs) (n := 63) (k := 194) (x := "_law_script") (CX := fun _ => L2.CX0) rfl (by decide) (by kernel_rfl) ⟨rfl, by decide, by decide⟩ ?F (fun _ _ _ _ _ z => z)
    intro w mg fa h Y G0 hmg0
    obtain ⟨K, KX, c⟩ := Y
    have hmg : mg ("law" : PySem.Str) = some (.ref fa) := by
      have e : (HandSHeadRun.topDef (OpenLaw.row PySem.Challenge.rw_sealedplans_k74_whole_lengths_of_runs).prog 75).name = ("law" : PySem.Str) := by kernel_rfl
      rw [← e]
      exact hmg0
    exact ⟨K, KX, G.law_at KX G0 hmg c⟩
