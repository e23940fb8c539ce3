import PyProof.Rows.All
import Wide.All
import OpenK.AllK
import Wide.FinOn
import HandS.ForMost
import HandS.Defaults
import HandS.Codes
import HandS.IsInst
import HandS.HeadHook4
import HandS.HeadWalk
import HandS.Head0
import HandS.Head1
import HandS.Head2
import HandS.TupSets
import KE.KeyNested
import HandS.SetBool
import HandS.DictComp
import HandS.Strs
import HandS.SetFor
import HandS.TupLen
import HandS.Conv
import HandS.Deep
import KE.KDictDisplayH
import KE.GoesEnum
import HandS.TupAny
import HandS.Style
import HandS.Wide
import HandS.NoneIn
import HandS.Walk
import HandS.Lambda
import KE.SortKeyHeap
import HandS.HeadEnd
import PySem.Challenge.RW_surelydone_k39_whole_the_future_of_a_run
set_option Elab.async false
set_option linter.all false
set_option maxRecDepth 100000
set_option maxHeartbeats 4000000
/-! X1: the text of the program by places, what its top leaves. Written by wip/gen/mk_x1.py. -/
namespace NS
open PySem PySem.Spec PyProof.Rows L2
abbrev TopS (i : Nat) : Stmt := PySem.Challenge.pw_surelydone_k39_whole_the_future_of_a_run.main.body.getD i (.Pass ⟨0, 0, 0, 0⟩)

abbrev s_is_integer : Stmt := TopS 3
abbrev s_is_state : Stmt := TopS 4
abbrev s_is_name : Stmt := TopS 5
abbrev s_is_row : Stmt := TopS 6
abbrev s_is_step : Stmt := TopS 7
abbrev s_words_of_row : Stmt := TopS 20
abbrev s_leaving : Stmt := TopS 27
abbrev s_checked_steps : Stmt := TopS 28
abbrev s_reached_states : Stmt := TopS 29
abbrev s_checked_hands : Stmt := TopS 34
abbrev s_checked_diligent : Stmt := TopS 35
abbrev s_check_standing : Stmt := TopS 36
abbrev s_step_numbers : Stmt := TopS 37
abbrev s_is_move : Stmt := TopS 38
abbrev s_led_to : Stmt := TopS 39
abbrev s_takes : Stmt := TopS 45
abbrev s_reached_from : Stmt := TopS 46
abbrev s_leaving_order : Stmt := TopS 47
abbrev s_parts_of : Stmt := TopS 48
abbrev s_inside : Stmt := TopS 49
abbrev s_moved_in : Stmt := TopS 50
abbrev s_idle_hand : Stmt := TopS 51
abbrev s_walked : Stmt := TopS 53
abbrev s_end_of : Stmt := TopS 54
abbrev s_words_of : Stmt := TopS 55
abbrev s_done_in : Stmt := TopS 56
abbrev s_with_word : Stmt := TopS 59
abbrev s_pair_graph : Stmt := TopS 60
abbrev s_quiet_graph : Stmt := TopS 61
abbrev s_fair_nodes : Stmt := TopS 62
abbrev s_in_order : Stmt := TopS 63
abbrev s_family_of : Stmt := TopS 64
abbrev s_done_sets : Stmt := TopS 65
abbrev s_words_of_all : Stmt := TopS 66
abbrev s_words_of_some : Stmt := TopS 67
abbrev s_always : Stmt := TopS 68
abbrev s_possible : Stmt := TopS 69
abbrev s_future : Stmt := TopS 70
abbrev s__law_cell : Stmt := TopS 72
abbrev s__law_pool : Stmt := TopS 73
abbrev s__law_draw : Stmt := TopS 74
abbrev s__law_name : Stmt := TopS 75
abbrev s__law_names : Stmt := TopS 76
abbrev s__law_steps : Stmt := TopS 77
abbrev s__law_hand : Stmt := TopS 78
abbrev s__law_rows : Stmt := TopS 79
abbrev s__law_system : Stmt := TopS 80
abbrev s__law_words : Stmt := TopS 81
abbrev s__law_numbers : Stmt := TopS 82
abbrev s__law_moves : Stmt := TopS 83
abbrev s__law_behind : Stmt := TopS 84
abbrev s__law_start : Stmt := TopS 85
abbrev s__law_walk : Stmt := TopS 86
abbrev s__law_same : Stmt := TopS 87
abbrev s__law_within : Stmt := TopS 88
abbrev s_law : Stmt := TopS 89
abbrev s_Deeds_init : Stmt := inClass (TopS 21) 0
abbrev s_Deeds_names : Stmt := inClass (TopS 21) 1
abbrev s_Hand_init : Stmt := inClass (TopS 30) 0
abbrev s_System_init : Stmt := inClass (TopS 42) 0
abbrev s_System_moves : Stmt := inClass (TopS 42) 4
abbrev s_System_able : Stmt := inClass (TopS 42) 6
abbrev s_System_started_at : Stmt := inClass (TopS 42) 8
abbrev s_Ground_init : Stmt := inClass (TopS 44) 0
abbrev s_Ground_ways : Stmt := inClass (TopS 44) 1
abbrev s_Ground_able : Stmt := inClass (TopS 44) 2
abbrev n_is_integer : List Str := ["thing"]
theorem sc_is_integer : FnScope n_is_integer ["thing"] (defScope s_is_integer) := C8.fnScope_by (by decide +kernel)
abbrev n_is_state : List Str := ["thing"]
theorem sc_is_state : FnScope n_is_state ["thing"] (defScope s_is_state) := C8.fnScope_by (by decide +kernel)
abbrev n_is_name : List Str := ["thing", "letter"]
theorem sc_is_name : FnScope n_is_name ["thing"] (defScope s_is_name) := C8.fnScope_by (by decide +kernel)
abbrev n_is_row : List Str := ["thing"]
theorem sc_is_row : FnScope n_is_row ["thing"] (defScope s_is_row) := C8.fnScope_by (by decide +kernel)
abbrev n_is_step : List Str := ["thing"]
theorem sc_is_step : FnScope n_is_step ["thing"] (defScope s_is_step) := C8.fnScope_by (by decide +kernel)
abbrev n_words_of_row : List Str := ["thing", "word"]
theorem sc_words_of_row : FnScope n_words_of_row ["thing"] (defScope s_words_of_row) := C8.fnScope_by (by decide +kernel)
abbrev n_leaving : List Str := ["steps", "state", "step"]
theorem sc_leaving : FnScope n_leaving ["steps", "state"] (defScope s_leaving) := C8.fnScope_by (by decide +kernel)
abbrev n_checked_steps : List Str := ["steps", "kept", "at", "step"]
theorem sc_checked_steps : FnScope n_checked_steps ["steps"] (defScope s_checked_steps) := C8.fnScope_by (by decide +kernel)
abbrev n_reached_states : List Str := ["start", "steps", "found", "at", "step"]
theorem sc_reached_states : FnScope n_reached_states ["start", "steps"] (defScope s_reached_states) := C8.fnScope_by (by decide +kernel)
abbrev n_checked_hands : List Str := ["hands", "at", "hand"]
theorem sc_checked_hands : FnScope n_checked_hands ["hands"] (defScope s_checked_hands) := C8.fnScope_by (by decide +kernel)
abbrev n_checked_diligent : List Str := ["row", "many", "kept", "item"]
theorem sc_checked_diligent : FnScope n_checked_diligent ["row", "many"] (defScope s_checked_diligent) := C8.fnScope_by (by decide +kernel)
abbrev n_check_standing : List Str := ["system", "states", "at", "hand"]
theorem sc_check_standing : FnScope n_check_standing ["system", "states"] (defScope s_check_standing) := C8.fnScope_by (by decide +kernel)
abbrev n_step_numbers : List Str := ["hand", "state", "word", "at", "step"]
theorem sc_step_numbers : FnScope n_step_numbers ["hand", "state", "word"] (defScope s_step_numbers) := C8.fnScope_by (by decide +kernel)
abbrev n_is_move : List Str := ["system", "states", "move", "word", "numbers", "at", "hand", "number"]
theorem sc_is_move : FnScope n_is_move ["system", "states", "move"] (defScope s_is_move) := C8.fnScope_by (by decide +kernel)
abbrev n_led_to : List Str := ["system", "states", "move", "found", "at", "hand", "number"]
theorem sc_led_to : FnScope n_led_to ["system", "states", "move"] (defScope s_led_to) := C8.fnScope_by (by decide +kernel)
abbrev n_takes : List Str := ["move", "hand"]
theorem sc_takes : FnScope n_takes ["move", "hand"] (defScope s_takes) := C8.fnScope_by (by decide +kernel)
abbrev n_reached_from : List Str := ["graph", "first", "found", "waiting", "at", "move", "ahead"]
theorem sc_reached_from : FnScope n_reached_from ["graph", "first"] (defScope s_reached_from) := C8.fnScope_by (by decide +kernel)
abbrev n_leaving_order : List Str := ["graph", "entered", "order", "root", "path", "node", "at", "ahead"]
theorem sc_leaving_order : FnScope n_leaving_order ["graph"] (defScope s_leaving_order) := C8.fnScope_by (by decide +kernel)
abbrev n_parts_of : List Str := ["graph", "node", "behind", "move", "ahead", "order", "placed", "parts", "root", "part", "at"]
theorem sc_parts_of : FnScope n_parts_of ["graph"] (defScope s_parts_of) := C8.fnScope_by (by decide +kernel)
abbrev n_inside : List Str := ["graph", "part", "node", "members", "inner", "move", "ahead"]
theorem sc_inside : FnScope n_inside ["graph", "part"] (defScope s_inside) := C8.fnScope_by (by decide +kernel)
abbrev n_moved_in : List Str := ["inner", "hand", "node", "move", "ahead"]
theorem sc_moved_in : FnScope n_moved_in ["inner", "hand"] (defScope s_moved_in) := C8.fnScope_by (by decide +kernel)
abbrev n_idle_hand : List Str := ["ground", "diligent", "inner", "hand", "ready", "node"]
theorem sc_idle_hand : FnScope n_idle_hand ["ground", "diligent", "inner"] (defScope s_idle_hand) := C8.fnScope_by (by decide +kernel)
abbrev n_walked : List Str := ["system", "run", "found", "at", "move"]
theorem sc_walked : FnScope n_walked ["system", "run"] (defScope s_walked) := C8.fnScope_by (by decide +kernel)
abbrev n_end_of : List Str := ["system", "run"]
theorem sc_end_of : FnScope n_end_of ["system", "run"] (defScope s_end_of) := C8.fnScope_by (by decide +kernel)
abbrev n_words_of : List Str := ["system", "run", "move"]
theorem sc_words_of : FnScope n_words_of ["system", "run"] (defScope s_words_of) := C8.fnScope_by (by decide +kernel)
abbrev n_done_in : List Str := ["system", "run"]
theorem sc_done_in : FnScope n_done_in ["system", "run"] (defScope s_done_in) := C8.fnScope_by (by decide +kernel)
abbrev n_with_word : List Str := ["done", "word"]
theorem sc_with_word : FnScope n_with_word ["done", "word"] (defScope s_with_word) := C8.fnScope_by (by decide +kernel)
abbrev n_pair_graph : List Str := ["ground", "system", "start", "graph", "waiting", "at", "states", "done", "rows", "move", "behind", "ahead"]
theorem sc_pair_graph : FnScope n_pair_graph ["ground", "system"] (defScope s_pair_graph) := C8.fnScope_by (by decide +kernel)
abbrev n_quiet_graph : List Str := ["graph", "quiet", "node", "move", "ahead"]
theorem sc_quiet_graph : FnScope n_quiet_graph ["graph"] (defScope s_quiet_graph) := C8.fnScope_by (by decide +kernel)
abbrev n_fair_nodes : List Str := ["ground", "diligent", "graph", "quiet", "found", "part", "node"]
theorem sc_fair_nodes : FnScope n_fair_nodes ["ground", "diligent", "graph"] (defScope s_fair_nodes) := C8.fnScope_by (by decide +kernel)
abbrev n_in_order : List Str := ["rows", "row"]
theorem sc_in_order : FnScope n_in_order ["rows"] (defScope s_in_order) := C8.fnScope_by (by decide +kernel)
abbrev n_family_of : List Str := ["ground", "diligent", "graph", "found", "node"]
theorem sc_family_of : FnScope n_family_of ["ground", "diligent", "graph"] (defScope s_family_of) := C8.fnScope_by (by decide +kernel)
abbrev n_done_sets : List Str := ["system", "ground"]
theorem sc_done_sets : FnScope n_done_sets ["system"] (defScope s_done_sets) := C8.fnScope_by (by decide +kernel)
abbrev n_words_of_all : List Str := ["words", "family", "word", "row"]
theorem sc_words_of_all : FnScope n_words_of_all ["words", "family"] (defScope s_words_of_all) := C8.fnScope_by (by decide +kernel)
abbrev n_words_of_some : List Str := ["words", "family", "word", "row"]
theorem sc_words_of_some : FnScope n_words_of_some ["words", "family"] (defScope s_words_of_some) := C8.fnScope_by (by decide +kernel)
abbrev n_always : List Str := ["system"]
theorem sc_always : FnScope n_always ["system"] (defScope s_always) := C8.fnScope_by (by decide +kernel)
abbrev n_possible : List Str := ["system"]
theorem sc_possible : FnScope n_possible ["system"] (defScope s_possible) := C8.fnScope_by (by decide +kernel)
abbrev n_future : List Str := ["system", "run", "first", "ground", "graph", "fair", "family", "sure", "some", "free", "out", "node", "word"]
theorem sc_future : FnScope n_future ["system", "run"] (defScope s_future) := C8.fnScope_by (by decide +kernel)
abbrev n__law_cell : List Str := ["_law_script", "_law_k"]
theorem sc__law_cell : FnScope n__law_cell ["_law_script", "_law_k"] (defScope s__law_cell) := C8.fnScope_by (by decide +kernel)
abbrev n__law_pool : List Str := ["_law_cell_here", "_law_rest"]
theorem sc__law_pool : FnScope n__law_pool ["_law_cell_here"] (defScope s__law_pool) := C8.fnScope_by (by decide +kernel)
abbrev n__law_draw : List Str := ["_law_pool_here", "_law_many", "_law_digit", "_law_number"]
theorem sc__law_draw : FnScope n__law_draw ["_law_pool_here", "_law_many"] (defScope s__law_draw) := C8.fnScope_by (by decide +kernel)
abbrev n__law_name : List Str := ["_law_number", "_law_letters", "_law_left"]
theorem sc__law_name : FnScope n__law_name ["_law_number"] (defScope s__law_name) := C8.fnScope_by (by decide +kernel)
abbrev n__law_names : List Str := ["_law_pool_here", "_law_many", "_law_numbers_here", "_law_k", "_law_number", "_law_again"]
theorem sc__law_names : FnScope n__law_names ["_law_pool_here", "_law_many"] (defScope s__law_names) := C8.fnScope_by (by decide +kernel)
abbrev n__law_steps : List Str := ["_law_pool_here", "_law_names_here", "_law_states", "_law_many", "_law_steps_here", "_law_k", "_law_leaves", "_law_word", "_law_step", "_law_one"]
theorem sc__law_steps : FnScope n__law_steps ["_law_pool_here", "_law_names_here", "_law_states", "_law_many"] (defScope s__law_steps) := C8.fnScope_by (by decide +kernel)
abbrev n__law_hand : List Str := ["_law_pool_here", "_law_names_here", "_law_most_states", "_law_most_steps", "_law_shape", "_law_first", "_law_gap", "_law_k", "_law_states", "_law_start_here", "_law_steps_here", "_law_word", "_law_step", "_law_count", "_law_one"]
theorem sc__law_hand : FnScope n__law_hand ["_law_pool_here", "_law_names_here", "_law_most_states", "_law_most_steps"] (defScope s__law_hand) := C8.fnScope_by (by decide +kernel)
abbrev n__law_rows : List Str := ["_law_script", "_law_most_hands", "_law_most_words", "_law_most_states", "_law_most_steps", "_law_pool_here", "_law_many", "_law_k", "_law_eager", "_law_names_here", "_law_rows_here"]
theorem sc__law_rows : FnScope n__law_rows ["_law_script", "_law_most_hands", "_law_most_words", "_law_most_states", "_law_most_steps"] (defScope s__law_rows) := C8.fnScope_by (by decide +kernel)
abbrev n__law_system : List Str := ["_law_rows_here", "_law_chosen", "_law_row"]
theorem sc__law_system : FnScope n__law_system ["_law_rows_here", "_law_chosen"] (defScope s__law_system) := C8.fnScope_by (by decide +kernel)
abbrev n__law_words : List Str := ["_law_rows_here", "_law_words_here", "_law_row", "_law_step"]
theorem sc__law_words : FnScope n__law_words ["_law_rows_here"] (defScope s__law_words) := C8.fnScope_by (by decide +kernel)
abbrev n__law_numbers : List Str := ["_law_row", "_law_state", "_law_word", "_law_step", "_law_k"]
theorem sc__law_numbers : FnScope n__law_numbers ["_law_row", "_law_state", "_law_word"] (defScope s__law_numbers) := C8.fnScope_by (by decide +kernel)
abbrev n__law_moves : List Str := ["_law_rows_here", "_law_states", "_law_found", "_law_word", "_law_lines", "_law_at", "_law_longer", "_law_line", "_law_k"]
theorem sc__law_moves : FnScope n__law_moves ["_law_rows_here", "_law_states"] (defScope s__law_moves) := C8.fnScope_by (by decide +kernel)
abbrev n__law_behind : List Str := ["_law_rows_here", "_law_states", "_law_move", "_law_after", "_law_at"]
theorem sc__law_behind : FnScope n__law_behind ["_law_rows_here", "_law_states", "_law_move"] (defScope s__law_behind) := C8.fnScope_by (by decide +kernel)
abbrev n__law_start : List Str := ["_law_rows_here", "_law_row"]
theorem sc__law_start : FnScope n__law_start ["_law_rows_here"] (defScope s__law_start) := C8.fnScope_by (by decide +kernel)
abbrev n__law_walk : List Str := ["_law_rows_here", "_law_cells", "_law_states", "_law_run", "_law_places", "_law_cell_here", "_law_pool_here", "_law_k", "_law_moves_here", "_law_move"]
theorem sc__law_walk : FnScope n__law_walk ["_law_rows_here", "_law_cells"] (defScope s__law_walk) := C8.fnScope_by (by decide +kernel)
abbrev n__law_same : List Str := ["_law_told", "_law_due", "_law_k"]
theorem sc__law_same : FnScope n__law_same ["_law_told", "_law_due"] (defScope s__law_same) := C8.fnScope_by (by decide +kernel)
abbrev n__law_within : List Str := ["_law_row", "_law_other", "_law_word"]
theorem sc__law_within : FnScope n__law_within ["_law_row", "_law_other"] (defScope s__law_within) := C8.fnScope_by (by decide +kernel)
abbrev n_law : List Str := ["_law_script", "_law_pair", "_law_system_here", "_law_walk_here", "_law_words_here", "_law_pool_here", "_law_many", "_law_middle", "_law_sure_before", "_law_out_before", "_law_size", "_law_run", "_law_later", "_law_sure", "_law_some", "_law_free", "_law_out", "_law_told", "_law_move", "_law_word"]
theorem sc_law : FnScope n_law ["_law_script"] (defScope s_law) := C8.fnScope_by (by decide +kernel)
abbrev n_Deeds_init : List Str := ["self", "words"]
theorem sc_Deeds_init : FnScope n_Deeds_init ["self", "words"] (defScope s_Deeds_init) := C8.fnScope_by (by decide +kernel)
abbrev n_Deeds_names : List Str := ["self"]
theorem sc_Deeds_names : FnScope n_Deeds_names ["self"] (defScope s_Deeds_names) := C8.fnScope_by (by decide +kernel)
abbrev n_Hand_init : List Str := ["self", "start", "steps", "kept", "words", "states", "step"]
theorem sc_Hand_init : FnScope n_Hand_init ["self", "start", "steps"] (defScope s_Hand_init) := C8.fnScope_by (by decide +kernel)
abbrev n_System_init : List Str := ["self", "hands", "diligent", "kept", "chosen", "words", "hand", "word"]
theorem sc_System_init : FnScope n_System_init ["self", "hands", "diligent"] (defScope s_System_init) := C8.fnScope_by (by decide +kernel)
abbrev n_System_moves : List Str := ["self", "states", "found", "word", "rows", "at", "hand", "numbers", "row", "number"]
theorem sc_System_moves : FnScope n_System_moves ["self", "states"] (defScope s_System_moves) := C8.fnScope_by (by decide +kernel)
abbrev n_System_able : List Str := ["self", "states", "free", "word", "holders", "stuck", "at", "hand"]
theorem sc_System_able : FnScope n_System_able ["self", "states"] (defScope s_System_able) := C8.fnScope_by (by decide +kernel)
abbrev n_System_started_at : List Str := ["self", "states", "hands", "at", "hand"]
theorem sc_System_started_at : FnScope n_System_started_at ["self", "states"] (defScope s_System_started_at) := C8.fnScope_by (by decide +kernel)
abbrev n_Ground_init : List Str := ["self", "system"]
theorem sc_Ground_init : FnScope n_Ground_init ["self", "system"] (defScope s_Ground_init) := C8.fnScope_by (by decide +kernel)
abbrev n_Ground_ways : List Str := ["self", "states", "rows", "move"]
theorem sc_Ground_ways : FnScope n_Ground_ways ["self", "states"] (defScope s_Ground_ways) := C8.fnScope_by (by decide +kernel)
abbrev n_Ground_able : List Str := ["self", "states"]
theorem sc_Ground_able : FnScope n_Ground_able ["self", "states"] (defScope s_Ground_able) := C8.fnScope_by (by decide +kernel)
def dd_is_integer : He.DefD := ⟨("is_integer", none), "is_integer", "is_integer", defArgs s_is_integer, defBody s_is_integer, defScope s_is_integer, [], []⟩
def dd_is_state : He.DefD := ⟨("is_state", none), "is_state", "is_state", defArgs s_is_state, defBody s_is_state, defScope s_is_state, [], []⟩
def dd_is_name : He.DefD := ⟨("is_name", none), "is_name", "is_name", defArgs s_is_name, defBody s_is_name, defScope s_is_name, [], []⟩
def dd_is_row : He.DefD := ⟨("is_row", none), "is_row", "is_row", defArgs s_is_row, defBody s_is_row, defScope s_is_row, [], []⟩
def dd_is_step : He.DefD := ⟨("is_step", none), "is_step", "is_step", defArgs s_is_step, defBody s_is_step, defScope s_is_step, [], []⟩
def dd_words_of_row : He.DefD := ⟨("words_of_row", none), "words_of_row", "words_of_row", defArgs s_words_of_row, defBody s_words_of_row, defScope s_words_of_row, [], []⟩
def dd_leaving : He.DefD := ⟨("leaving", none), "leaving", "leaving", defArgs s_leaving, defBody s_leaving, defScope s_leaving, [], []⟩
def dd_checked_steps : He.DefD := ⟨("checked_steps", none), "checked_steps", "checked_steps", defArgs s_checked_steps, defBody s_checked_steps, defScope s_checked_steps, [], []⟩
def dd_reached_states : He.DefD := ⟨("reached_states", none), "reached_states", "reached_states", defArgs s_reached_states, defBody s_reached_states, defScope s_reached_states, [], []⟩
def dd_checked_hands : He.DefD := ⟨("checked_hands", none), "checked_hands", "checked_hands", defArgs s_checked_hands, defBody s_checked_hands, defScope s_checked_hands, [], []⟩
def dd_checked_diligent : He.DefD := ⟨("checked_diligent", none), "checked_diligent", "checked_diligent", defArgs s_checked_diligent, defBody s_checked_diligent, defScope s_checked_diligent, [], []⟩
def dd_check_standing : He.DefD := ⟨("check_standing", none), "check_standing", "check_standing", defArgs s_check_standing, defBody s_check_standing, defScope s_check_standing, [], []⟩
def dd_step_numbers : He.DefD := ⟨("step_numbers", none), "step_numbers", "step_numbers", defArgs s_step_numbers, defBody s_step_numbers, defScope s_step_numbers, [], []⟩
def dd_is_move : He.DefD := ⟨("is_move", none), "is_move", "is_move", defArgs s_is_move, defBody s_is_move, defScope s_is_move, [], []⟩
def dd_led_to : He.DefD := ⟨("led_to", none), "led_to", "led_to", defArgs s_led_to, defBody s_led_to, defScope s_led_to, [], []⟩
def dd_takes : He.DefD := ⟨("takes", none), "takes", "takes", defArgs s_takes, defBody s_takes, defScope s_takes, [], []⟩
def dd_reached_from : He.DefD := ⟨("reached_from", none), "reached_from", "reached_from", defArgs s_reached_from, defBody s_reached_from, defScope s_reached_from, [], []⟩
def dd_leaving_order : He.DefD := ⟨("leaving_order", none), "leaving_order", "leaving_order", defArgs s_leaving_order, defBody s_leaving_order, defScope s_leaving_order, [], []⟩
def dd_parts_of : He.DefD := ⟨("parts_of", none), "parts_of", "parts_of", defArgs s_parts_of, defBody s_parts_of, defScope s_parts_of, [], []⟩
def dd_inside : He.DefD := ⟨("inside", none), "inside", "inside", defArgs s_inside, defBody s_inside, defScope s_inside, [], []⟩
def dd_moved_in : He.DefD := ⟨("moved_in", none), "moved_in", "moved_in", defArgs s_moved_in, defBody s_moved_in, defScope s_moved_in, [], []⟩
def dd_idle_hand : He.DefD := ⟨("idle_hand", none), "idle_hand", "idle_hand", defArgs s_idle_hand, defBody s_idle_hand, defScope s_idle_hand, [], []⟩
def dd_walked : He.DefD := ⟨("walked", none), "walked", "walked", defArgs s_walked, defBody s_walked, defScope s_walked, [], []⟩
def dd_end_of : He.DefD := ⟨("end_of", none), "end_of", "end_of", defArgs s_end_of, defBody s_end_of, defScope s_end_of, [], []⟩
def dd_words_of : He.DefD := ⟨("words_of", none), "words_of", "words_of", defArgs s_words_of, defBody s_words_of, defScope s_words_of, [], []⟩
def dd_done_in : He.DefD := ⟨("done_in", none), "done_in", "done_in", defArgs s_done_in, defBody s_done_in, defScope s_done_in, [], []⟩
def dd_with_word : He.DefD := ⟨("with_word", none), "with_word", "with_word", defArgs s_with_word, defBody s_with_word, defScope s_with_word, [], []⟩
def dd_pair_graph : He.DefD := ⟨("pair_graph", none), "pair_graph", "pair_graph", defArgs s_pair_graph, defBody s_pair_graph, defScope s_pair_graph, [], []⟩
def dd_quiet_graph : He.DefD := ⟨("quiet_graph", none), "quiet_graph", "quiet_graph", defArgs s_quiet_graph, defBody s_quiet_graph, defScope s_quiet_graph, [], []⟩
def dd_fair_nodes : He.DefD := ⟨("fair_nodes", none), "fair_nodes", "fair_nodes", defArgs s_fair_nodes, defBody s_fair_nodes, defScope s_fair_nodes, [], []⟩
def dd_in_order : He.DefD := ⟨("in_order", none), "in_order", "in_order", defArgs s_in_order, defBody s_in_order, defScope s_in_order, [], []⟩
def dd_family_of : He.DefD := ⟨("family_of", none), "family_of", "family_of", defArgs s_family_of, defBody s_family_of, defScope s_family_of, [], []⟩
def dd_done_sets : He.DefD := ⟨("done_sets", none), "done_sets", "done_sets", defArgs s_done_sets, defBody s_done_sets, defScope s_done_sets, [], []⟩
def dd_words_of_all : He.DefD := ⟨("words_of_all", none), "words_of_all", "words_of_all", defArgs s_words_of_all, defBody s_words_of_all, defScope s_words_of_all, [], []⟩
def dd_words_of_some : He.DefD := ⟨("words_of_some", none), "words_of_some", "words_of_some", defArgs s_words_of_some, defBody s_words_of_some, defScope s_words_of_some, [], []⟩
def dd_always : He.DefD := ⟨("always", none), "always", "always", defArgs s_always, defBody s_always, defScope s_always, [], []⟩
def dd_possible : He.DefD := ⟨("possible", none), "possible", "possible", defArgs s_possible, defBody s_possible, defScope s_possible, [], []⟩
def dd_future : He.DefD := ⟨("future", none), "future", "future", defArgs s_future, defBody s_future, defScope s_future, [], []⟩
def dd__law_cell : He.DefD := ⟨("_law_cell", none), "_law_cell", "_law_cell", defArgs s__law_cell, defBody s__law_cell, defScope s__law_cell, [], []⟩
def dd__law_pool : He.DefD := ⟨("_law_pool", none), "_law_pool", "_law_pool", defArgs s__law_pool, defBody s__law_pool, defScope s__law_pool, [], []⟩
def dd__law_draw : He.DefD := ⟨("_law_draw", none), "_law_draw", "_law_draw", defArgs s__law_draw, defBody s__law_draw, defScope s__law_draw, [], []⟩
def dd__law_name : He.DefD := ⟨("_law_name", none), "_law_name", "_law_name", defArgs s__law_name, defBody s__law_name, defScope s__law_name, [], []⟩
def dd__law_names : He.DefD := ⟨("_law_names", none), "_law_names", "_law_names", defArgs s__law_names, defBody s__law_names, defScope s__law_names, [], []⟩
def dd__law_steps : He.DefD := ⟨("_law_steps", none), "_law_steps", "_law_steps", defArgs s__law_steps, defBody s__law_steps, defScope s__law_steps, [], []⟩
def dd__law_hand : He.DefD := ⟨("_law_hand", none), "_law_hand", "_law_hand", defArgs s__law_hand, defBody s__law_hand, defScope s__law_hand, [], []⟩
def dd__law_rows : He.DefD := ⟨("_law_rows", none), "_law_rows", "_law_rows", defArgs s__law_rows, defBody s__law_rows, defScope s__law_rows, [], []⟩
def dd__law_system : He.DefD := ⟨("_law_system", none), "_law_system", "_law_system", defArgs s__law_system, defBody s__law_system, defScope s__law_system, [], []⟩
def dd__law_words : He.DefD := ⟨("_law_words", none), "_law_words", "_law_words", defArgs s__law_words, defBody s__law_words, defScope s__law_words, [], []⟩
def dd__law_numbers : He.DefD := ⟨("_law_numbers", none), "_law_numbers", "_law_numbers", defArgs s__law_numbers, defBody s__law_numbers, defScope s__law_numbers, [], []⟩
def dd__law_moves : He.DefD := ⟨("_law_moves", none), "_law_moves", "_law_moves", defArgs s__law_moves, defBody s__law_moves, defScope s__law_moves, [], []⟩
def dd__law_behind : He.DefD := ⟨("_law_behind", none), "_law_behind", "_law_behind", defArgs s__law_behind, defBody s__law_behind, defScope s__law_behind, [], []⟩
def dd__law_start : He.DefD := ⟨("_law_start", none), "_law_start", "_law_start", defArgs s__law_start, defBody s__law_start, defScope s__law_start, [], []⟩
def dd__law_walk : He.DefD := ⟨("_law_walk", none), "_law_walk", "_law_walk", defArgs s__law_walk, defBody s__law_walk, defScope s__law_walk, [], []⟩
def dd__law_same : He.DefD := ⟨("_law_same", none), "_law_same", "_law_same", defArgs s__law_same, defBody s__law_same, defScope s__law_same, [], []⟩
def dd__law_within : He.DefD := ⟨("_law_within", none), "_law_within", "_law_within", defArgs s__law_within, defBody s__law_within, defScope s__law_within, [], []⟩
def dd_law : He.DefD := ⟨("law", none), "law", "law", defArgs s_law, defBody s_law, defScope s_law, [], []⟩
def dd_Deeds_init : He.DefD := ⟨("Deeds", some "__init__"), "__init__", "Deeds.__init__", defArgs s_Deeds_init, defBody s_Deeds_init, defScope s_Deeds_init, [.adr (He.dflAt ("Deeds", some "__init__") 0)], []⟩
def dd_Deeds_names : He.DefD := ⟨("Deeds", some "names"), "names", "Deeds.names", defArgs s_Deeds_names, defBody s_Deeds_names, defScope s_Deeds_names, [], []⟩
def dd_Hand_init : He.DefD := ⟨("Hand", some "__init__"), "__init__", "Hand.__init__", defArgs s_Hand_init, defBody s_Hand_init, defScope s_Hand_init, [], []⟩
def dd_System_init : He.DefD := ⟨("System", some "__init__"), "__init__", "System.__init__", defArgs s_System_init, defBody s_System_init, defScope s_System_init, [.non], []⟩
def dd_System_moves : He.DefD := ⟨("System", some "moves"), "moves", "System.moves", defArgs s_System_moves, defBody s_System_moves, defScope s_System_moves, [], []⟩
def dd_System_able : He.DefD := ⟨("System", some "able"), "able", "System.able", defArgs s_System_able, defBody s_System_able, defScope s_System_able, [], []⟩
def dd_System_started_at : He.DefD := ⟨("System", some "started_at"), "started_at", "System.started_at", defArgs s_System_started_at, defBody s_System_started_at, defScope s_System_started_at, [], []⟩
def dd_Ground_init : He.DefD := ⟨("Ground", some "__init__"), "__init__", "Ground.__init__", defArgs s_Ground_init, defBody s_Ground_init, defScope s_Ground_init, [], []⟩
def dd_Ground_ways : He.DefD := ⟨("Ground", some "ways"), "ways", "Ground.ways", defArgs s_Ground_ways, defBody s_Ground_ways, defScope s_Ground_ways, [], []⟩
def dd_Ground_able : He.DefD := ⟨("Ground", some "able"), "able", "Ground.able", defArgs s_Ground_able, defBody s_Ground_able, defScope s_Ground_able, [], []⟩
def fnL : List He.DefD := [dd_is_integer, dd_is_state, dd_is_name, dd_is_row, dd_is_step, dd_words_of_row, dd_leaving, dd_checked_steps, dd_reached_states, dd_checked_hands, dd_checked_diligent, dd_check_standing, dd_step_numbers, dd_is_move, dd_led_to, dd_takes, dd_reached_from, dd_leaving_order, dd_parts_of, dd_inside, dd_moved_in, dd_idle_hand, dd_walked, dd_end_of, dd_words_of, dd_done_in, dd_with_word, dd_pair_graph, dd_quiet_graph, dd_fair_nodes, dd_in_order, dd_family_of, dd_done_sets, dd_words_of_all, dd_words_of_some, dd_always, dd_possible, dd_future, dd__law_cell, dd__law_pool, dd__law_draw, dd__law_name, dd__law_names, dd__law_steps, dd__law_hand, dd__law_rows, dd__law_system, dd__law_words, dd__law_numbers, dd__law_moves, dd__law_behind, dd__law_start, dd__law_walk, dd__law_same, dd__law_within, dd_law, dd_Deeds_init, dd_Deeds_names, dd_Hand_init, dd_System_init, dd_System_moves, dd_System_able, dd_System_started_at, dd_Ground_init, dd_Ground_ways, dd_Ground_able]
def faL : List He.Fa := [.glo "is_integer", .glo "is_state", .glo "is_name", .glo "is_row", .glo "is_step", .glo "words_of_row", .glo "leaving", .glo "checked_steps", .glo "reached_states", .glo "checked_hands", .glo "checked_diligent", .glo "check_standing", .glo "step_numbers", .glo "is_move", .glo "led_to", .glo "takes", .glo "reached_from", .glo "leaving_order", .glo "parts_of", .glo "inside", .glo "moved_in", .glo "idle_hand", .glo "walked", .glo "end_of", .glo "words_of", .glo "done_in", .glo "with_word", .glo "pair_graph", .glo "quiet_graph", .glo "fair_nodes", .glo "in_order", .glo "family_of", .glo "done_sets", .glo "words_of_all", .glo "words_of_some", .glo "always", .glo "possible", .glo "future", .glo "_law_cell", .glo "_law_pool", .glo "_law_draw", .glo "_law_name", .glo "_law_names", .glo "_law_steps", .glo "_law_hand", .glo "_law_rows", .glo "_law_system", .glo "_law_words", .glo "_law_numbers", .glo "_law_moves", .glo "_law_behind", .glo "_law_start", .glo "_law_walk", .glo "_law_same", .glo "_law_within", .glo "law", .glo "Deeds", .glo "Hand", .glo "System", .glo "Ground", .free "isinstance", .free "int", .free "bool", .free "str", .free "len", .free "list", .free "tuple", .free "sorted", .free "set", .free "enumerate", .free "range", .free "all", .free "any", .free "dict", .int "MOST_STEPS" 24, .int "MOST_LEAVING" 4, .int "MOST_WORDS_hands" 8, .int "MOST_STATES" 8, .int "MOST_HANDS" 4, .int "MOST_WORDS_systems" 12, .int "LIMIT" 1000, .str "LETTERS" "abcdefghijklmnopqrstuvwxyz", .cls "Deeds", .noat "Deeds" "kept", .mkr "Deeds", .cls "Hand", .noat "Hand" "start", .noat "Hand" "steps", .noat "Hand" "words", .noat "Hand" "states", .mkr "Hand", .cls "System", .noat "System" "hands", .noat "System" "diligent", .noat "System" "words", .noat "System" "start", .mkr "System", .cls "Ground", .noat "Ground" "asked", .noat "Ground" "known_ways", .noat "Ground" "known_able", .mkr "Ground", .meth "Deeds" "names", .meth "System" "moves", .meth "System" "able", .meth "System" "started_at", .meth "Ground" "ways", .meth "Ground" "able"]
/-- facts of own classes for isinstance -/
def exL (K : PySem.W.Frag) : Bool := He.eqO (PySem.W.findIn K (.ref (He.ga K "Hand")) "__class__") (some (some (.builtin "object.__class__"))) && (He.eqO (PySem.W.specialIn K (.builtin "object.__class__") "__get__") (some (some (.builtin "getset_descriptor.__get__"))) &&
  (decide (PySem.W.takesIn K (.builtin "object.__class__") = some true) && (decide (PySem.W.mroIn K (He.ga K "Hand") (.type "object") = some true) && (decide (PySem.W.kitOne K (.ref (He.ga K "Hand")) (.ref (He.ga K "Hand")) = some true) &&
  decide (PySem.W.kitOne K (.type "tuple") (.ref (He.ga K "Deeds")) = some false)))))
end NS
set_option maxHeartbeats 0
/-! H1: the run of the program's top. -/
namespace NS
open PySem PySem.Spec PyProof.Rows L2
abbrev lawR : PySem.W.OpenRow := PySem.W.OpenLaw.row PySem.Challenge.rw_surelydone_k39_whole_the_future_of_a_run
def loose1 : List Str := [("_wall" : Str), ("LETTERS" : Str), ("is_integer" : Str), ("is_state" : Str), ("is_name" : Str), ("is_row" : Str), ("is_step" : Str), ("DoneError" : Str), ("BadState" : Str), ("BadSteps" : Str), ("BadHands" : Str), ("BadDiligent" : Str), ("BadWords" : Str), ("BadStates" : Str), ("BadMove" : Str), ("BadRun" : Str)]
def loose2 : List Str := [("TooMany" : Str), ("words_of_row" : Str), ("Deeds" : Str), ("MOST_STEPS" : Str), ("MOST_LEAVING" : Str), ("MOST_WORDS_hands" : Str), ("MOST_STATES" : Str), ("leaving" : Str), ("checked_steps" : Str), ("reached_states" : Str), ("Hand" : Str), ("MOST_HANDS" : Str), ("MOST_WORDS_systems" : Str), ("checked_hands" : Str), ("checked_diligent" : Str), ("check_standing" : Str)]
def loose3 : List Str := [("step_numbers" : Str), ("is_move" : Str), ("led_to" : Str), ("as_system" : Str), ("joined" : Str), ("System" : Str), ("Ground" : Str), ("takes" : Str), ("reached_from" : Str), ("leaving_order" : Str), ("parts_of" : Str), ("inside" : Str), ("moved_in" : Str), ("idle_hand" : Str), ("walked" : Str), ("end_of" : Str)]
def loose4 : List Str := [("words_of" : Str), ("done_in" : Str), ("LIMIT" : Str), ("with_word" : Str), ("pair_graph" : Str), ("quiet_graph" : Str), ("fair_nodes" : Str), ("in_order" : Str), ("family_of" : Str), ("done_sets" : Str), ("words_of_all" : Str), ("words_of_some" : Str), ("always" : Str), ("possible" : Str), ("future" : Str), ("_law_cell" : Str)]
def loose5 : List Str := [("_law_pool" : Str), ("_law_draw" : Str), ("_law_name" : Str), ("_law_names" : Str), ("_law_steps" : Str), ("_law_hand" : Str), ("_law_rows" : Str), ("_law_system" : Str), ("_law_words" : Str), ("_law_numbers" : Str), ("_law_moves" : Str), ("_law_behind" : Str), ("_law_start" : Str), ("_law_walk" : Str), ("_law_same" : Str), ("_law_within" : Str)]
def looseL : List Str := loose1 ++ (loose2 ++ (loose3 ++ (loose4 ++ (loose5))))
abbrev tfL : List He.Defn := [("in_order", none)]
/-! ### what is read of the heap behind the top: the module's names, their code and defaults, the classes' own names -/
def fnA (g : Addr → Option Obj) (a : Addr) : List Addr := match g a with
  | some ⟨_, _, .func fd, _⟩ => a :: (He.refV fd.code ++ He.refV fd.defaults)
  | _ => [a]
def namesA (g : Addr → Option Obj) (a : Addr) : List Addr := match g a with
  | some ⟨_, _, .dict es _, _⟩ => es.toList.flatMap fun e => He.refV e.val
  | _ => []
def topA (g : Addr → Option Obj) (a : Addr) : List Addr := match g a with
  | some ⟨_, _, .cls cd, _⟩ => a :: cd.ns :: (namesA g cd.ns).flatMap (fnA g)
  | _ => fnA g a
def asY (g : Addr → Option Obj) : List Addr := mainGlobals :: (namesA g mainGlobals).flatMap (topA g)
/-- the part of the heap, made once -/
def frK {α : Type} (g : Addr → Option Obj) : List Addr → (PySem.W.Frag → α) → α
  | [], k => k []
  | a :: l, k => HandSHeadRun.frNat a fun a => match g a with
    | some ⟨c, d, dt, sl⟩ => frK g l fun K => k ((a, ⟨c, d, dt, sl⟩) :: K)
    | none => frK g l k
theorem frK_eq {α : Type} (g : Addr → Option Obj) : ∀ (l : List Addr) (k : PySem.W.Frag → α), frK g l k = k (He.frG g l)
  | [], _ => rfl
  | a :: l, k => by
    show (HandSHeadRun.frNat a fun a => match g a with
      | some ⟨c, d, dt, sl⟩ => frK g l fun K => k ((a, ⟨c, d, dt, sl⟩) :: K)
      | none => frK g l k) = _
    rw [HandSHeadRun.frNat_eq]
    unfold He.frG
    rw [List.filterMap_cons]
    cases e : g a with
    | none => exact frK_eq g l k
    | some o =>
      obtain ⟨c, d, dt, sl⟩ := o
      exact frK_eq g l _
def tabsY (g : Addr → Option Obj) (K : PySem.W.Frag) : Bool := tfL.all fun p => PySem.W.codeHdIn K (He.cT K p).1 (He.cT K p).2 && ((K.lookup (He.cT K p).2).isNone && (match g (He.cT K p).2 with
  | some o => He.emptyTab o
  | none => false))
def obsY (g : Addr → Option Obj) : He.AlX := frK g (asY g) fun K => (He.obsT faL fnL [] K, exL K && tabsY g K)
theorem says_of {w : World} {h : Heap} {as : List Addr} (e : ((He.obsT faL fnL [] (He.frG h.get? as), exL (He.frG h.get? as) && tabsY h.get? (He.frG h.get? as)) : He.AlX) = He.valX fnL [] w) : He.SaysX faL fnL [] tfL exL w h (He.frG h.get? as) := by
  generalize He.frG h.get? as = K at e
  have e1 : He.obsT faL fnL [] K = He.valT fnL [] w := congrArg Prod.fst e
  have e2 : (exL K && tabsY h.get? K) = true := congrArg Prod.snd e
  obtain ⟨x1, x2⟩ := Bool.and_eq_true_iff.mp e2
  have at_ : ∀ p ∈ tfL, PySem.W.codeHdIn K (He.cT K p).1 (He.cT K p).2 = true ∧ K.lookup (He.cT K p).2 = none ∧ ∃ o, h.get? (He.cT K p).2 = some o ∧ He.emptyTab o = true := fun p hp => by
    obtain ⟨y1, y2⟩ := Bool.and_eq_true_iff.mp (List.all_eq_true.mp x2 p hp)
    obtain ⟨y3, y4⟩ := Bool.and_eq_true_iff.mp y2
    refine ⟨y1, Option.isNone_iff_eq_none.mp y3, ?_⟩
    revert y4
    cases h.get? (He.cT K p).2 with
    | none => exact fun z => by cases z
    | some o => exact fun z => ⟨o, rfl, z⟩
  refine ⟨e1, x1, fun p hp => (at_ p hp).1, fun p hp => (at_ p hp).2.1, fun p hp => ?_⟩
  obtain ⟨o, z1, z2⟩ := (at_ p hp).2.2
  rw [z1, He.emptyTab_eq z2]
def hkX : PySem.W.Hook where
  α := He.AlX
  obs := fun s => obsY s.heap.get?
  val := fun w => He.valX fnL [] w
  says := fun w h => ∃ K : PySem.W.Frag, K.In h ∧ He.SaysX faL fnL [] tfL exL w h K
  of := fun _ s e => ⟨He.frG s.heap.get? (asY s.heap.get?), He.frG_in, says_of ((frK_eq _ _ _).symm.trans e)⟩
  keeps := fun _ _ _ ⟨K, hK, c⟩ k => ⟨K, hK.keeps k, c.t, c.more, c.hd, c.out, fun p hp => k _ _ (c.empty p hp)⟩
def obX (s : PySem.W.SharedT) : He.AlX := obsY (HandSHeadRun.getT s)
theorem obX_eq (s : PySem.W.SharedT) : obX s = hkX.obs s.abs := congrArg obsY (funext (HandSHeadRun.getT_eq s))
theorem runX (w : World) : HandSHeadRun.RunEq lawR (PySem.W.view lawR.prog [89]) hkX obX 7000 looseL w := by
  intro os
  kernel_rfl
end NS
namespace NS
open PySem PySem.Spec PyProof.Rows L2
/-- what the proofs lean on -/
structure Tx (K : PySem.W.Frag) (mg : Str → Option Value) : Prop where
  says : He.SaysD faL fnL K
  more : exL K = true
  at_ : ∃ h : Heap, K.In h ∧ h.Ns mainGlobals mg
section
variable {K : PySem.W.Frag} {mg : Str → Option Value}
theorem Tx.glo (T : Tx K mg) (i : Nat) {x : Str} (h : faL[i]? = some (.glo x)) : mg x = some (.ref (He.ga K x)) := by
  obtain ⟨h0, X, G⟩ := T.at_
  exact He.glo_ok X G (T.says.fact i h)
theorem Tx.free (T : Tx K mg) (i : Nat) {x : Str} (h : faL[i]? = some (.free x)) : mg x = none := by
  obtain ⟨h0, X, G⟩ := T.at_
  exact He.free_ok X G (T.says.fact i h)
theorem Tx.int (T : Tx K mg) (i : Nat) {x : Str} {n : Int} (h : faL[i]? = some (.int x n)) : ∃ t, mg x = some (.int n t) := by
  obtain ⟨h0, X, G⟩ := T.at_
  exact He.int_ok X G (T.says.fact i h)
theorem Tx.str (T : Tx K mg) (i : Nat) {x z : Str} (h : faL[i]? = some (.str x z)) : ∃ t, mg x = some (.str z t) := by
  obtain ⟨h0, X, G⟩ := T.at_
  exact He.str_ok X G (T.says.fact i h)
theorem Tx.g_is_integer (T : Tx K mg) : mg "is_integer" = some (.ref (He.ga K "is_integer")) := T.glo 0 rfl
theorem Tx.g_is_state (T : Tx K mg) : mg "is_state" = some (.ref (He.ga K "is_state")) := T.glo 1 rfl
theorem Tx.g_is_name (T : Tx K mg) : mg "is_name" = some (.ref (He.ga K "is_name")) := T.glo 2 rfl
theorem Tx.g_is_row (T : Tx K mg) : mg "is_row" = some (.ref (He.ga K "is_row")) := T.glo 3 rfl
theorem Tx.g_is_step (T : Tx K mg) : mg "is_step" = some (.ref (He.ga K "is_step")) := T.glo 4 rfl
theorem Tx.g_words_of_row (T : Tx K mg) : mg "words_of_row" = some (.ref (He.ga K "words_of_row")) := T.glo 5 rfl
theorem Tx.g_leaving (T : Tx K mg) : mg "leaving" = some (.ref (He.ga K "leaving")) := T.glo 6 rfl
theorem Tx.g_checked_steps (T : Tx K mg) : mg "checked_steps" = some (.ref (He.ga K "checked_steps")) := T.glo 7 rfl
theorem Tx.g_reached_states (T : Tx K mg) : mg "reached_states" = some (.ref (He.ga K "reached_states")) := T.glo 8 rfl
theorem Tx.g_checked_hands (T : Tx K mg) : mg "checked_hands" = some (.ref (He.ga K "checked_hands")) := T.glo 9 rfl
theorem Tx.g_checked_diligent (T : Tx K mg) : mg "checked_diligent" = some (.ref (He.ga K "checked_diligent")) := T.glo 10 rfl
theorem Tx.g_check_standing (T : Tx K mg) : mg "check_standing" = some (.ref (He.ga K "check_standing")) := T.glo 11 rfl
theorem Tx.g_step_numbers (T : Tx K mg) : mg "step_numbers" = some (.ref (He.ga K "step_numbers")) := T.glo 12 rfl
theorem Tx.g_is_move (T : Tx K mg) : mg "is_move" = some (.ref (He.ga K "is_move")) := T.glo 13 rfl
theorem Tx.g_led_to (T : Tx K mg) : mg "led_to" = some (.ref (He.ga K "led_to")) := T.glo 14 rfl
theorem Tx.g_takes (T : Tx K mg) : mg "takes" = some (.ref (He.ga K "takes")) := T.glo 15 rfl
theorem Tx.g_reached_from (T : Tx K mg) : mg "reached_from" = some (.ref (He.ga K "reached_from")) := T.glo 16 rfl
theorem Tx.g_leaving_order (T : Tx K mg) : mg "leaving_order" = some (.ref (He.ga K "leaving_order")) := T.glo 17 rfl
theorem Tx.g_parts_of (T : Tx K mg) : mg "parts_of" = some (.ref (He.ga K "parts_of")) := T.glo 18 rfl
theorem Tx.g_inside (T : Tx K mg) : mg "inside" = some (.ref (He.ga K "inside")) := T.glo 19 rfl
theorem Tx.g_moved_in (T : Tx K mg) : mg "moved_in" = some (.ref (He.ga K "moved_in")) := T.glo 20 rfl
theorem Tx.g_idle_hand (T : Tx K mg) : mg "idle_hand" = some (.ref (He.ga K "idle_hand")) := T.glo 21 rfl
theorem Tx.g_walked (T : Tx K mg) : mg "walked" = some (.ref (He.ga K "walked")) := T.glo 22 rfl
theorem Tx.g_end_of (T : Tx K mg) : mg "end_of" = some (.ref (He.ga K "end_of")) := T.glo 23 rfl
theorem Tx.g_words_of (T : Tx K mg) : mg "words_of" = some (.ref (He.ga K "words_of")) := T.glo 24 rfl
theorem Tx.g_done_in (T : Tx K mg) : mg "done_in" = some (.ref (He.ga K "done_in")) := T.glo 25 rfl
theorem Tx.g_with_word (T : Tx K mg) : mg "with_word" = some (.ref (He.ga K "with_word")) := T.glo 26 rfl
theorem Tx.g_pair_graph (T : Tx K mg) : mg "pair_graph" = some (.ref (He.ga K "pair_graph")) := T.glo 27 rfl
theorem Tx.g_quiet_graph (T : Tx K mg) : mg "quiet_graph" = some (.ref (He.ga K "quiet_graph")) := T.glo 28 rfl
theorem Tx.g_fair_nodes (T : Tx K mg) : mg "fair_nodes" = some (.ref (He.ga K "fair_nodes")) := T.glo 29 rfl
theorem Tx.g_in_order (T : Tx K mg) : mg "in_order" = some (.ref (He.ga K "in_order")) := T.glo 30 rfl
theorem Tx.g_family_of (T : Tx K mg) : mg "family_of" = some (.ref (He.ga K "family_of")) := T.glo 31 rfl
theorem Tx.g_done_sets (T : Tx K mg) : mg "done_sets" = some (.ref (He.ga K "done_sets")) := T.glo 32 rfl
theorem Tx.g_words_of_all (T : Tx K mg) : mg "words_of_all" = some (.ref (He.ga K "words_of_all")) := T.glo 33 rfl
theorem Tx.g_words_of_some (T : Tx K mg) : mg "words_of_some" = some (.ref (He.ga K "words_of_some")) := T.glo 34 rfl
theorem Tx.g_always (T : Tx K mg) : mg "always" = some (.ref (He.ga K "always")) := T.glo 35 rfl
theorem Tx.g_possible (T : Tx K mg) : mg "possible" = some (.ref (He.ga K "possible")) := T.glo 36 rfl
theorem Tx.g_future (T : Tx K mg) : mg "future" = some (.ref (He.ga K "future")) := T.glo 37 rfl
theorem Tx.g__law_cell (T : Tx K mg) : mg "_law_cell" = some (.ref (He.ga K "_law_cell")) := T.glo 38 rfl
theorem Tx.g__law_pool (T : Tx K mg) : mg "_law_pool" = some (.ref (He.ga K "_law_pool")) := T.glo 39 rfl
theorem Tx.g__law_draw (T : Tx K mg) : mg "_law_draw" = some (.ref (He.ga K "_law_draw")) := T.glo 40 rfl
theorem Tx.g__law_name (T : Tx K mg) : mg "_law_name" = some (.ref (He.ga K "_law_name")) := T.glo 41 rfl
theorem Tx.g__law_names (T : Tx K mg) : mg "_law_names" = some (.ref (He.ga K "_law_names")) := T.glo 42 rfl
theorem Tx.g__law_steps (T : Tx K mg) : mg "_law_steps" = some (.ref (He.ga K "_law_steps")) := T.glo 43 rfl
theorem Tx.g__law_hand (T : Tx K mg) : mg "_law_hand" = some (.ref (He.ga K "_law_hand")) := T.glo 44 rfl
theorem Tx.g__law_rows (T : Tx K mg) : mg "_law_rows" = some (.ref (He.ga K "_law_rows")) := T.glo 45 rfl
theorem Tx.g__law_system (T : Tx K mg) : mg "_law_system" = some (.ref (He.ga K "_law_system")) := T.glo 46 rfl
theorem Tx.g__law_words (T : Tx K mg) : mg "_law_words" = some (.ref (He.ga K "_law_words")) := T.glo 47 rfl
theorem Tx.g__law_numbers (T : Tx K mg) : mg "_law_numbers" = some (.ref (He.ga K "_law_numbers")) := T.glo 48 rfl
theorem Tx.g__law_moves (T : Tx K mg) : mg "_law_moves" = some (.ref (He.ga K "_law_moves")) := T.glo 49 rfl
theorem Tx.g__law_behind (T : Tx K mg) : mg "_law_behind" = some (.ref (He.ga K "_law_behind")) := T.glo 50 rfl
theorem Tx.g__law_start (T : Tx K mg) : mg "_law_start" = some (.ref (He.ga K "_law_start")) := T.glo 51 rfl
theorem Tx.g__law_walk (T : Tx K mg) : mg "_law_walk" = some (.ref (He.ga K "_law_walk")) := T.glo 52 rfl
theorem Tx.g__law_same (T : Tx K mg) : mg "_law_same" = some (.ref (He.ga K "_law_same")) := T.glo 53 rfl
theorem Tx.g__law_within (T : Tx K mg) : mg "_law_within" = some (.ref (He.ga K "_law_within")) := T.glo 54 rfl
theorem Tx.g_law (T : Tx K mg) : mg "law" = some (.ref (He.ga K "law")) := T.glo 55 rfl
theorem Tx.g_Deeds (T : Tx K mg) : mg "Deeds" = some (.ref (He.ga K "Deeds")) := T.glo 56 rfl
theorem Tx.g_Hand (T : Tx K mg) : mg "Hand" = some (.ref (He.ga K "Hand")) := T.glo 57 rfl
theorem Tx.g_System (T : Tx K mg) : mg "System" = some (.ref (He.ga K "System")) := T.glo 58 rfl
theorem Tx.g_Ground (T : Tx K mg) : mg "Ground" = some (.ref (He.ga K "Ground")) := T.glo 59 rfl
theorem Tx.f_isinstance (T : Tx K mg) : mg "isinstance" = none := T.free 60 rfl
theorem Tx.f_int (T : Tx K mg) : mg "int" = none := T.free 61 rfl
theorem Tx.f_bool (T : Tx K mg) : mg "bool" = none := T.free 62 rfl
theorem Tx.f_str (T : Tx K mg) : mg "str" = none := T.free 63 rfl
theorem Tx.f_len (T : Tx K mg) : mg "len" = none := T.free 64 rfl
theorem Tx.f_list (T : Tx K mg) : mg "list" = none := T.free 65 rfl
theorem Tx.f_tuple (T : Tx K mg) : mg "tuple" = none := T.free 66 rfl
theorem Tx.f_sorted (T : Tx K mg) : mg "sorted" = none := T.free 67 rfl
theorem Tx.f_set (T : Tx K mg) : mg "set" = none := T.free 68 rfl
theorem Tx.f_enumerate (T : Tx K mg) : mg "enumerate" = none := T.free 69 rfl
theorem Tx.f_range (T : Tx K mg) : mg "range" = none := T.free 70 rfl
theorem Tx.f_all (T : Tx K mg) : mg "all" = none := T.free 71 rfl
theorem Tx.f_any (T : Tx K mg) : mg "any" = none := T.free 72 rfl
theorem Tx.f_dict (T : Tx K mg) : mg "dict" = none := T.free 73 rfl
theorem Tx.i_MOST_STEPS (T : Tx K mg) : ∃ t, mg "MOST_STEPS" = some (.int 24 t) := T.int 74 rfl
theorem Tx.i_MOST_LEAVING (T : Tx K mg) : ∃ t, mg "MOST_LEAVING" = some (.int 4 t) := T.int 75 rfl
theorem Tx.i_MOST_WORDS_hands (T : Tx K mg) : ∃ t, mg "MOST_WORDS_hands" = some (.int 8 t) := T.int 76 rfl
theorem Tx.i_MOST_STATES (T : Tx K mg) : ∃ t, mg "MOST_STATES" = some (.int 8 t) := T.int 77 rfl
theorem Tx.i_MOST_HANDS (T : Tx K mg) : ∃ t, mg "MOST_HANDS" = some (.int 4 t) := T.int 78 rfl
theorem Tx.i_MOST_WORDS_systems (T : Tx K mg) : ∃ t, mg "MOST_WORDS_systems" = some (.int 12 t) := T.int 79 rfl
theorem Tx.i_LIMIT (T : Tx K mg) : ∃ t, mg "LIMIT" = some (.int 1000 t) := T.int 80 rfl
theorem Tx.z_LETTERS (T : Tx K mg) : ∃ t, mg "LETTERS" = some (.str "abcdefghijklmnopqrstuvwxyz" t) := T.str 81 rfl
theorem Tx.c_Deeds (T : Tx K mg) : Cls K (He.ga K "Deeds") := He.cls_ok (T.says.fact 82 (f := .cls "Deeds") rfl)
theorem Tx.a_Deeds_kept (T : Tx K mg) : NoAttr K (He.ga K "Deeds") "kept" := He.noat_ok (T.says.fact 83 (f := .noat "Deeds" "kept") rfl)
theorem Tx.m_Deeds (T : Tx K mg) : Mk K (He.ga K "Deeds") (He.ma K (He.ga K "Deeds") "__init__") := He.mkr_ok (T.says.fact 84 (f := .mkr "Deeds") rfl)
theorem Tx.c_Hand (T : Tx K mg) : Cls K (He.ga K "Hand") := He.cls_ok (T.says.fact 85 (f := .cls "Hand") rfl)
theorem Tx.a_Hand_start (T : Tx K mg) : NoAttr K (He.ga K "Hand") "start" := He.noat_ok (T.says.fact 86 (f := .noat "Hand" "start") rfl)
theorem Tx.a_Hand_steps (T : Tx K mg) : NoAttr K (He.ga K "Hand") "steps" := He.noat_ok (T.says.fact 87 (f := .noat "Hand" "steps") rfl)
theorem Tx.a_Hand_words (T : Tx K mg) : NoAttr K (He.ga K "Hand") "words" := He.noat_ok (T.says.fact 88 (f := .noat "Hand" "words") rfl)
theorem Tx.a_Hand_states (T : Tx K mg) : NoAttr K (He.ga K "Hand") "states" := He.noat_ok (T.says.fact 89 (f := .noat "Hand" "states") rfl)
theorem Tx.m_Hand (T : Tx K mg) : Mk K (He.ga K "Hand") (He.ma K (He.ga K "Hand") "__init__") := He.mkr_ok (T.says.fact 90 (f := .mkr "Hand") rfl)
theorem Tx.c_System (T : Tx K mg) : Cls K (He.ga K "System") := He.cls_ok (T.says.fact 91 (f := .cls "System") rfl)
theorem Tx.a_System_hands (T : Tx K mg) : NoAttr K (He.ga K "System") "hands" := He.noat_ok (T.says.fact 92 (f := .noat "System" "hands") rfl)
theorem Tx.a_System_diligent (T : Tx K mg) : NoAttr K (He.ga K "System") "diligent" := He.noat_ok (T.says.fact 93 (f := .noat "System" "diligent") rfl)
theorem Tx.a_System_words (T : Tx K mg) : NoAttr K (He.ga K "System") "words" := He.noat_ok (T.says.fact 94 (f := .noat "System" "words") rfl)
theorem Tx.a_System_start (T : Tx K mg) : NoAttr K (He.ga K "System") "start" := He.noat_ok (T.says.fact 95 (f := .noat "System" "start") rfl)
theorem Tx.m_System (T : Tx K mg) : Mk K (He.ga K "System") (He.ma K (He.ga K "System") "__init__") := He.mkr_ok (T.says.fact 96 (f := .mkr "System") rfl)
theorem Tx.c_Ground (T : Tx K mg) : Cls K (He.ga K "Ground") := He.cls_ok (T.says.fact 97 (f := .cls "Ground") rfl)
theorem Tx.a_Ground_asked (T : Tx K mg) : NoAttr K (He.ga K "Ground") "asked" := He.noat_ok (T.says.fact 98 (f := .noat "Ground" "asked") rfl)
theorem Tx.a_Ground_known_ways (T : Tx K mg) : NoAttr K (He.ga K "Ground") "known_ways" := He.noat_ok (T.says.fact 99 (f := .noat "Ground" "known_ways") rfl)
theorem Tx.a_Ground_known_able (T : Tx K mg) : NoAttr K (He.ga K "Ground") "known_able" := He.noat_ok (T.says.fact 100 (f := .noat "Ground" "known_able") rfl)
theorem Tx.m_Ground (T : Tx K mg) : Mk K (He.ga K "Ground") (He.ma K (He.ga K "Ground") "__init__") := He.mkr_ok (T.says.fact 101 (f := .mkr "Ground") rfl)
theorem Tx.t_Deeds_names (T : Tx K mg) : Meth K (He.ga K "Deeds") "names" (He.ma K (He.ga K "Deeds") "names") := He.meth_ok (T.says.fact 102 (f := .meth "Deeds" "names") rfl)
theorem Tx.t_System_moves (T : Tx K mg) : Meth K (He.ga K "System") "moves" (He.ma K (He.ga K "System") "moves") := He.meth_ok (T.says.fact 103 (f := .meth "System" "moves") rfl)
theorem Tx.t_System_able (T : Tx K mg) : Meth K (He.ga K "System") "able" (He.ma K (He.ga K "System") "able") := He.meth_ok (T.says.fact 104 (f := .meth "System" "able") rfl)
theorem Tx.t_System_started_at (T : Tx K mg) : Meth K (He.ga K "System") "started_at" (He.ma K (He.ga K "System") "started_at") := He.meth_ok (T.says.fact 105 (f := .meth "System" "started_at") rfl)
theorem Tx.t_Ground_ways (T : Tx K mg) : Meth K (He.ga K "Ground") "ways" (He.ma K (He.ga K "Ground") "ways") := He.meth_ok (T.says.fact 106 (f := .meth "Ground" "ways") rfl)
theorem Tx.t_Ground_able (T : Tx K mg) : Meth K (He.ga K "Ground") "able" (He.ma K (He.ga K "Ground") "able") := He.meth_ok (T.says.fact 107 (f := .meth "Ground" "able") rfl)
theorem Tx.isHand (T : Tx K mg) : C8.InsC K (He.ga K "Hand") := by
  obtain ⟨h1, h⟩ := He.ba (show (_ && _) = true from T.more)
  obtain ⟨h2, h⟩ := He.ba h
  obtain ⟨h3, h⟩ := He.ba h
  obtain ⟨h4, h⟩ := He.ba h
  obtain ⟨h5, h⟩ := He.ba h
  exact ⟨T.c_Hand, He.eqO_ok h1, He.eqO_ok h2, of_decide_eq_true h3, of_decide_eq_true h4, of_decide_eq_true h5⟩
theorem Tx.noDeeds (T : Tx K mg) : PySem.W.kitOne K (.type "tuple") (.ref (He.ga K "Deeds")) = some false := by
  obtain ⟨h1, h⟩ := He.ba (show (_ && _) = true from T.more)
  obtain ⟨h2, h⟩ := He.ba h
  obtain ⟨h3, h⟩ := He.ba h
  obtain ⟨h4, h⟩ := He.ba h
  obtain ⟨h5, h⟩ := He.ba h
  exact of_decide_eq_true h
end
section
variable {P : Program} {w : World} {K : PySem.W.Frag} {mg : Str → Option Value} {base : Heap}
/-- the walk of a def's body -/
abbrev Walk (P : Program) (w : World) (K : PySem.W.Frag) (mg : Str → Option Value) (base : Heap) (k : Nat) (N : List Str) (qual : Str) (st : Stmt) (f : Addr) (sp : Sp) : Prop :=
  ∀ (cdv : Value) (A : Around) (outer : List Env) (s : Shared) (H : Hp) (vs : List V) (Q : VK) (E : XK), Room k (A.deeper (envOfC qual (defScope st) s.heap.objs.size f cdv)) → sp vs H Q E →
    ∃ t, PSs (cxOf CX0 P w K mg base N qual (defScope st) f cdv A outer s H E).nox (defBody st) t ∧ t { nx := fun _ H' => Q .non H', rt := Q } (start N vs) H
abbrev Len (sp : Sp) (n : Nat) : Prop := ∀ vs H Q E, sp vs H Q E → vs.length = n
theorem funOk {x qual : Str} {st : Stmt} {dvs : List V} {kws : List (Str × V)} {f : Addr} {fd : FuncData} {N ps : List Str} {k : Nat} {sp : Sp} (F : FunD K x qual (defArgs st) (defBody st) (defScope st) dvs kws f fd) (S : FnScope N ps (defScope st)) (len : Len sp ps.length)
    (walk : Walk P w K mg base k N qual st f sp) : FnOk P w K mg base CX0 (k + 1) f fd ps sp :=
  F.ok S len fun cdv A outer s H vs Q E hr hsp => by
    obtain ⟨t, h, q⟩ := walk cdv A outer s H vs Q E hr hsp
    exact ⟨t, h.nox, q⟩
theorem cal_is_integer (T : Tx K mg) {k : Nat} {sp : Sp} (len : Len sp 1) (walk : Walk P w K mg base k n_is_integer "is_integer" s_is_integer (He.ga K "is_integer") sp) : C8.Cal P w K mg base (k + 1) "is_integer" sp [] := by
  obtain ⟨fd, F⟩ := T.says.def_ 0 (d := dd_is_integer) rfl
  exact ⟨_, fd, _, [], funOk F sc_is_integer len walk, T.g_is_integer, F.kp, FunD.bindsN F (ps := ["thing"]) fun _ _ _ _ _ _ us hl => match us, hl with | [_], _ => rfl, .nil⟩
theorem cal_is_state (T : Tx K mg) {k : Nat} {sp : Sp} (len : Len sp 1) (walk : Walk P w K mg base k n_is_state "is_state" s_is_state (He.ga K "is_state") sp) : C8.Cal P w K mg base (k + 1) "is_state" sp [] := by
  obtain ⟨fd, F⟩ := T.says.def_ 1 (d := dd_is_state) rfl
  exact ⟨_, fd, _, [], funOk F sc_is_state len walk, T.g_is_state, F.kp, FunD.bindsN F (ps := ["thing"]) fun _ _ _ _ _ _ us hl => match us, hl with | [_], _ => rfl, .nil⟩
theorem cal_is_name (T : Tx K mg) {k : Nat} {sp : Sp} (len : Len sp 1) (walk : Walk P w K mg base k n_is_name "is_name" s_is_name (He.ga K "is_name") sp) : C8.Cal P w K mg base (k + 1) "is_name" sp [] := by
  obtain ⟨fd, F⟩ := T.says.def_ 2 (d := dd_is_name) rfl
  exact ⟨_, fd, _, [], funOk F sc_is_name len walk, T.g_is_name, F.kp, FunD.bindsN F (ps := ["thing"]) fun _ _ _ _ _ _ us hl => match us, hl with | [_], _ => rfl, .nil⟩
theorem cal_is_row (T : Tx K mg) {k : Nat} {sp : Sp} (len : Len sp 1) (walk : Walk P w K mg base k n_is_row "is_row" s_is_row (He.ga K "is_row") sp) : C8.Cal P w K mg base (k + 1) "is_row" sp [] := by
  obtain ⟨fd, F⟩ := T.says.def_ 3 (d := dd_is_row) rfl
  exact ⟨_, fd, _, [], funOk F sc_is_row len walk, T.g_is_row, F.kp, FunD.bindsN F (ps := ["thing"]) fun _ _ _ _ _ _ us hl => match us, hl with | [_], _ => rfl, .nil⟩
theorem cal_is_step (T : Tx K mg) {k : Nat} {sp : Sp} (len : Len sp 1) (walk : Walk P w K mg base k n_is_step "is_step" s_is_step (He.ga K "is_step") sp) : C8.Cal P w K mg base (k + 1) "is_step" sp [] := by
  obtain ⟨fd, F⟩ := T.says.def_ 4 (d := dd_is_step) rfl
  exact ⟨_, fd, _, [], funOk F sc_is_step len walk, T.g_is_step, F.kp, FunD.bindsN F (ps := ["thing"]) fun _ _ _ _ _ _ us hl => match us, hl with | [_], _ => rfl, .nil⟩
theorem cal_words_of_row (T : Tx K mg) {k : Nat} {sp : Sp} (len : Len sp 1) (walk : Walk P w K mg base k n_words_of_row "words_of_row" s_words_of_row (He.ga K "words_of_row") sp) : C8.Cal P w K mg base (k + 1) "words_of_row" sp [] := by
  obtain ⟨fd, F⟩ := T.says.def_ 5 (d := dd_words_of_row) rfl
  exact ⟨_, fd, _, [], funOk F sc_words_of_row len walk, T.g_words_of_row, F.kp, FunD.bindsN F (ps := ["thing"]) fun _ _ _ _ _ _ us hl => match us, hl with | [_], _ => rfl, .nil⟩
theorem cal_leaving (T : Tx K mg) {k : Nat} {sp : Sp} (len : Len sp 2) (walk : Walk P w K mg base k n_leaving "leaving" s_leaving (He.ga K "leaving") sp) : C8.Cal P w K mg base (k + 1) "leaving" sp [] := by
  obtain ⟨fd, F⟩ := T.says.def_ 6 (d := dd_leaving) rfl
  exact ⟨_, fd, _, [], funOk F sc_leaving len walk, T.g_leaving, F.kp, FunD.bindsN F (ps := ["steps", "state"]) fun _ _ _ _ _ _ us hl => match us, hl with | [_, _], _ => rfl, .nil⟩
theorem cal_checked_steps (T : Tx K mg) {k : Nat} {sp : Sp} (len : Len sp 1) (walk : Walk P w K mg base k n_checked_steps "checked_steps" s_checked_steps (He.ga K "checked_steps") sp) : C8.Cal P w K mg base (k + 1) "checked_steps" sp [] := by
  obtain ⟨fd, F⟩ := T.says.def_ 7 (d := dd_checked_steps) rfl
  exact ⟨_, fd, _, [], funOk F sc_checked_steps len walk, T.g_checked_steps, F.kp, FunD.bindsN F (ps := ["steps"]) fun _ _ _ _ _ _ us hl => match us, hl with | [_], _ => rfl, .nil⟩
theorem cal_reached_states (T : Tx K mg) {k : Nat} {sp : Sp} (len : Len sp 2) (walk : Walk P w K mg base k n_reached_states "reached_states" s_reached_states (He.ga K "reached_states") sp) : C8.Cal P w K mg base (k + 1) "reached_states" sp [] := by
  obtain ⟨fd, F⟩ := T.says.def_ 8 (d := dd_reached_states) rfl
  exact ⟨_, fd, _, [], funOk F sc_reached_states len walk, T.g_reached_states, F.kp, FunD.bindsN F (ps := ["start", "steps"]) fun _ _ _ _ _ _ us hl => match us, hl with | [_, _], _ => rfl, .nil⟩
theorem cal_checked_hands (T : Tx K mg) {k : Nat} {sp : Sp} (len : Len sp 1) (walk : Walk P w K mg base k n_checked_hands "checked_hands" s_checked_hands (He.ga K "checked_hands") sp) : C8.Cal P w K mg base (k + 1) "checked_hands" sp [] := by
  obtain ⟨fd, F⟩ := T.says.def_ 9 (d := dd_checked_hands) rfl
  exact ⟨_, fd, _, [], funOk F sc_checked_hands len walk, T.g_checked_hands, F.kp, FunD.bindsN F (ps := ["hands"]) fun _ _ _ _ _ _ us hl => match us, hl with | [_], _ => rfl, .nil⟩
theorem cal_checked_diligent (T : Tx K mg) {k : Nat} {sp : Sp} (len : Len sp 2) (walk : Walk P w K mg base k n_checked_diligent "checked_diligent" s_checked_diligent (He.ga K "checked_diligent") sp) : C8.Cal P w K mg base (k + 1) "checked_diligent" sp [] := by
  obtain ⟨fd, F⟩ := T.says.def_ 10 (d := dd_checked_diligent) rfl
  exact ⟨_, fd, _, [], funOk F sc_checked_diligent len walk, T.g_checked_diligent, F.kp, FunD.bindsN F (ps := ["row", "many"]) fun _ _ _ _ _ _ us hl => match us, hl with | [_, _], _ => rfl, .nil⟩
theorem cal_check_standing (T : Tx K mg) {k : Nat} {sp : Sp} (len : Len sp 2) (walk : Walk P w K mg base k n_check_standing "check_standing" s_check_standing (He.ga K "check_standing") sp) : C8.Cal P w K mg base (k + 1) "check_standing" sp [] := by
  obtain ⟨fd, F⟩ := T.says.def_ 11 (d := dd_check_standing) rfl
  exact ⟨_, fd, _, [], funOk F sc_check_standing len walk, T.g_check_standing, F.kp, FunD.bindsN F (ps := ["system", "states"]) fun _ _ _ _ _ _ us hl => match us, hl with | [_, _], _ => rfl, .nil⟩
theorem cal_step_numbers (T : Tx K mg) {k : Nat} {sp : Sp} (len : Len sp 3) (walk : Walk P w K mg base k n_step_numbers "step_numbers" s_step_numbers (He.ga K "step_numbers") sp) : C8.Cal P w K mg base (k + 1) "step_numbers" sp [] := by
  obtain ⟨fd, F⟩ := T.says.def_ 12 (d := dd_step_numbers) rfl
  exact ⟨_, fd, _, [], funOk F sc_step_numbers len walk, T.g_step_numbers, F.kp, FunD.bindsN F (ps := ["hand", "state", "word"]) fun _ _ _ _ _ _ us hl => match us, hl with | [_, _, _], _ => rfl, .nil⟩
theorem cal_is_move (T : Tx K mg) {k : Nat} {sp : Sp} (len : Len sp 3) (walk : Walk P w K mg base k n_is_move "is_move" s_is_move (He.ga K "is_move") sp) : C8.Cal P w K mg base (k + 1) "is_move" sp [] := by
  obtain ⟨fd, F⟩ := T.says.def_ 13 (d := dd_is_move) rfl
  exact ⟨_, fd, _, [], funOk F sc_is_move len walk, T.g_is_move, F.kp, FunD.bindsN F (ps := ["system", "states", "move"]) fun _ _ _ _ _ _ us hl => match us, hl with | [_, _, _], _ => rfl, .nil⟩
theorem cal_led_to (T : Tx K mg) {k : Nat} {sp : Sp} (len : Len sp 3) (walk : Walk P w K mg base k n_led_to "led_to" s_led_to (He.ga K "led_to") sp) : C8.Cal P w K mg base (k + 1) "led_to" sp [] := by
  obtain ⟨fd, F⟩ := T.says.def_ 14 (d := dd_led_to) rfl
  exact ⟨_, fd, _, [], funOk F sc_led_to len walk, T.g_led_to, F.kp, FunD.bindsN F (ps := ["system", "states", "move"]) fun _ _ _ _ _ _ us hl => match us, hl with | [_, _, _], _ => rfl, .nil⟩
theorem cal_takes (T : Tx K mg) {k : Nat} {sp : Sp} (len : Len sp 2) (walk : Walk P w K mg base k n_takes "takes" s_takes (He.ga K "takes") sp) : C8.Cal P w K mg base (k + 1) "takes" sp [] := by
  obtain ⟨fd, F⟩ := T.says.def_ 15 (d := dd_takes) rfl
  exact ⟨_, fd, _, [], funOk F sc_takes len walk, T.g_takes, F.kp, FunD.bindsN F (ps := ["move", "hand"]) fun _ _ _ _ _ _ us hl => match us, hl with | [_, _], _ => rfl, .nil⟩
theorem cal_reached_from (T : Tx K mg) {k : Nat} {sp : Sp} (len : Len sp 2) (walk : Walk P w K mg base k n_reached_from "reached_from" s_reached_from (He.ga K "reached_from") sp) : C8.Cal P w K mg base (k + 1) "reached_from" sp [] := by
  obtain ⟨fd, F⟩ := T.says.def_ 16 (d := dd_reached_from) rfl
  exact ⟨_, fd, _, [], funOk F sc_reached_from len walk, T.g_reached_from, F.kp, FunD.bindsN F (ps := ["graph", "first"]) fun _ _ _ _ _ _ us hl => match us, hl with | [_, _], _ => rfl, .nil⟩
theorem cal_leaving_order (T : Tx K mg) {k : Nat} {sp : Sp} (len : Len sp 1) (walk : Walk P w K mg base k n_leaving_order "leaving_order" s_leaving_order (He.ga K "leaving_order") sp) : C8.Cal P w K mg base (k + 1) "leaving_order" sp [] := by
  obtain ⟨fd, F⟩ := T.says.def_ 17 (d := dd_leaving_order) rfl
  exact ⟨_, fd, _, [], funOk F sc_leaving_order len walk, T.g_leaving_order, F.kp, FunD.bindsN F (ps := ["graph"]) fun _ _ _ _ _ _ us hl => match us, hl with | [_], _ => rfl, .nil⟩
theorem cal_parts_of (T : Tx K mg) {k : Nat} {sp : Sp} (len : Len sp 1) (walk : Walk P w K mg base k n_parts_of "parts_of" s_parts_of (He.ga K "parts_of") sp) : C8.Cal P w K mg base (k + 1) "parts_of" sp [] := by
  obtain ⟨fd, F⟩ := T.says.def_ 18 (d := dd_parts_of) rfl
  exact ⟨_, fd, _, [], funOk F sc_parts_of len walk, T.g_parts_of, F.kp, FunD.bindsN F (ps := ["graph"]) fun _ _ _ _ _ _ us hl => match us, hl with | [_], _ => rfl, .nil⟩
theorem cal_inside (T : Tx K mg) {k : Nat} {sp : Sp} (len : Len sp 2) (walk : Walk P w K mg base k n_inside "inside" s_inside (He.ga K "inside") sp) : C8.Cal P w K mg base (k + 1) "inside" sp [] := by
  obtain ⟨fd, F⟩ := T.says.def_ 19 (d := dd_inside) rfl
  exact ⟨_, fd, _, [], funOk F sc_inside len walk, T.g_inside, F.kp, FunD.bindsN F (ps := ["graph", "part"]) fun _ _ _ _ _ _ us hl => match us, hl with | [_, _], _ => rfl, .nil⟩
theorem cal_moved_in (T : Tx K mg) {k : Nat} {sp : Sp} (len : Len sp 2) (walk : Walk P w K mg base k n_moved_in "moved_in" s_moved_in (He.ga K "moved_in") sp) : C8.Cal P w K mg base (k + 1) "moved_in" sp [] := by
  obtain ⟨fd, F⟩ := T.says.def_ 20 (d := dd_moved_in) rfl
  exact ⟨_, fd, _, [], funOk F sc_moved_in len walk, T.g_moved_in, F.kp, FunD.bindsN F (ps := ["inner", "hand"]) fun _ _ _ _ _ _ us hl => match us, hl with | [_, _], _ => rfl, .nil⟩
theorem cal_idle_hand (T : Tx K mg) {k : Nat} {sp : Sp} (len : Len sp 3) (walk : Walk P w K mg base k n_idle_hand "idle_hand" s_idle_hand (He.ga K "idle_hand") sp) : C8.Cal P w K mg base (k + 1) "idle_hand" sp [] := by
  obtain ⟨fd, F⟩ := T.says.def_ 21 (d := dd_idle_hand) rfl
  exact ⟨_, fd, _, [], funOk F sc_idle_hand len walk, T.g_idle_hand, F.kp, FunD.bindsN F (ps := ["ground", "diligent", "inner"]) fun _ _ _ _ _ _ us hl => match us, hl with | [_, _, _], _ => rfl, .nil⟩
theorem cal_walked (T : Tx K mg) {k : Nat} {sp : Sp} (len : Len sp 2) (walk : Walk P w K mg base k n_walked "walked" s_walked (He.ga K "walked") sp) : C8.Cal P w K mg base (k + 1) "walked" sp [] := by
  obtain ⟨fd, F⟩ := T.says.def_ 22 (d := dd_walked) rfl
  exact ⟨_, fd, _, [], funOk F sc_walked len walk, T.g_walked, F.kp, FunD.bindsN F (ps := ["system", "run"]) fun _ _ _ _ _ _ us hl => match us, hl with | [_, _], _ => rfl, .nil⟩
theorem cal_end_of (T : Tx K mg) {k : Nat} {sp : Sp} (len : Len sp 2) (walk : Walk P w K mg base k n_end_of "end_of" s_end_of (He.ga K "end_of") sp) : C8.Cal P w K mg base (k + 1) "end_of" sp [] := by
  obtain ⟨fd, F⟩ := T.says.def_ 23 (d := dd_end_of) rfl
  exact ⟨_, fd, _, [], funOk F sc_end_of len walk, T.g_end_of, F.kp, FunD.bindsN F (ps := ["system", "run"]) fun _ _ _ _ _ _ us hl => match us, hl with | [_, _], _ => rfl, .nil⟩
theorem cal_words_of (T : Tx K mg) {k : Nat} {sp : Sp} (len : Len sp 2) (walk : Walk P w K mg base k n_words_of "words_of" s_words_of (He.ga K "words_of") sp) : C8.Cal P w K mg base (k + 1) "words_of" sp [] := by
  obtain ⟨fd, F⟩ := T.says.def_ 24 (d := dd_words_of) rfl
  exact ⟨_, fd, _, [], funOk F sc_words_of len walk, T.g_words_of, F.kp, FunD.bindsN F (ps := ["system", "run"]) fun _ _ _ _ _ _ us hl => match us, hl with | [_, _], _ => rfl, .nil⟩
theorem cal_done_in (T : Tx K mg) {k : Nat} {sp : Sp} (len : Len sp 2) (walk : Walk P w K mg base k n_done_in "done_in" s_done_in (He.ga K "done_in") sp) : C8.Cal P w K mg base (k + 1) "done_in" sp [] := by
  obtain ⟨fd, F⟩ := T.says.def_ 25 (d := dd_done_in) rfl
  exact ⟨_, fd, _, [], funOk F sc_done_in len walk, T.g_done_in, F.kp, FunD.bindsN F (ps := ["system", "run"]) fun _ _ _ _ _ _ us hl => match us, hl with | [_, _], _ => rfl, .nil⟩
theorem cal_with_word (T : Tx K mg) {k : Nat} {sp : Sp} (len : Len sp 2) (walk : Walk P w K mg base k n_with_word "with_word" s_with_word (He.ga K "with_word") sp) : C8.Cal P w K mg base (k + 1) "with_word" sp [] := by
  obtain ⟨fd, F⟩ := T.says.def_ 26 (d := dd_with_word) rfl
  exact ⟨_, fd, _, [], funOk F sc_with_word len walk, T.g_with_word, F.kp, FunD.bindsN F (ps := ["done", "word"]) fun _ _ _ _ _ _ us hl => match us, hl with | [_, _], _ => rfl, .nil⟩
theorem cal_pair_graph (T : Tx K mg) {k : Nat} {sp : Sp} (len : Len sp 2) (walk : Walk P w K mg base k n_pair_graph "pair_graph" s_pair_graph (He.ga K "pair_graph") sp) : C8.Cal P w K mg base (k + 1) "pair_graph" sp [] := by
  obtain ⟨fd, F⟩ := T.says.def_ 27 (d := dd_pair_graph) rfl
  exact ⟨_, fd, _, [], funOk F sc_pair_graph len walk, T.g_pair_graph, F.kp, FunD.bindsN F (ps := ["ground", "system"]) fun _ _ _ _ _ _ us hl => match us, hl with | [_, _], _ => rfl, .nil⟩
theorem cal_quiet_graph (T : Tx K mg) {k : Nat} {sp : Sp} (len : Len sp 1) (walk : Walk P w K mg base k n_quiet_graph "quiet_graph" s_quiet_graph (He.ga K "quiet_graph") sp) : C8.Cal P w K mg base (k + 1) "quiet_graph" sp [] := by
  obtain ⟨fd, F⟩ := T.says.def_ 28 (d := dd_quiet_graph) rfl
  exact ⟨_, fd, _, [], funOk F sc_quiet_graph len walk, T.g_quiet_graph, F.kp, FunD.bindsN F (ps := ["graph"]) fun _ _ _ _ _ _ us hl => match us, hl with | [_], _ => rfl, .nil⟩
theorem cal_fair_nodes (T : Tx K mg) {k : Nat} {sp : Sp} (len : Len sp 3) (walk : Walk P w K mg base k n_fair_nodes "fair_nodes" s_fair_nodes (He.ga K "fair_nodes") sp) : C8.Cal P w K mg base (k + 1) "fair_nodes" sp [] := by
  obtain ⟨fd, F⟩ := T.says.def_ 29 (d := dd_fair_nodes) rfl
  exact ⟨_, fd, _, [], funOk F sc_fair_nodes len walk, T.g_fair_nodes, F.kp, FunD.bindsN F (ps := ["ground", "diligent", "graph"]) fun _ _ _ _ _ _ us hl => match us, hl with | [_, _, _], _ => rfl, .nil⟩
theorem cal_in_order (T : Tx K mg) {k : Nat} {sp : Sp} (len : Len sp 1) (walk : Walk P w K mg base k n_in_order "in_order" s_in_order (He.ga K "in_order") sp) : C8.Cal P w K mg base (k + 1) "in_order" sp [] := by
  obtain ⟨fd, F⟩ := T.says.def_ 30 (d := dd_in_order) rfl
  exact ⟨_, fd, _, [], funOk F sc_in_order len walk, T.g_in_order, F.kp, FunD.bindsN F (ps := ["rows"]) fun _ _ _ _ _ _ us hl => match us, hl with | [_], _ => rfl, .nil⟩
theorem cal_family_of (T : Tx K mg) {k : Nat} {sp : Sp} (len : Len sp 3) (walk : Walk P w K mg base k n_family_of "family_of" s_family_of (He.ga K "family_of") sp) : C8.Cal P w K mg base (k + 1) "family_of" sp [] := by
  obtain ⟨fd, F⟩ := T.says.def_ 31 (d := dd_family_of) rfl
  exact ⟨_, fd, _, [], funOk F sc_family_of len walk, T.g_family_of, F.kp, FunD.bindsN F (ps := ["ground", "diligent", "graph"]) fun _ _ _ _ _ _ us hl => match us, hl with | [_, _, _], _ => rfl, .nil⟩
theorem cal_done_sets (T : Tx K mg) {k : Nat} {sp : Sp} (len : Len sp 1) (walk : Walk P w K mg base k n_done_sets "done_sets" s_done_sets (He.ga K "done_sets") sp) : C8.Cal P w K mg base (k + 1) "done_sets" sp [] := by
  obtain ⟨fd, F⟩ := T.says.def_ 32 (d := dd_done_sets) rfl
  exact ⟨_, fd, _, [], funOk F sc_done_sets len walk, T.g_done_sets, F.kp, FunD.bindsN F (ps := ["system"]) fun _ _ _ _ _ _ us hl => match us, hl with | [_], _ => rfl, .nil⟩
theorem cal_words_of_all (T : Tx K mg) {k : Nat} {sp : Sp} (len : Len sp 2) (walk : Walk P w K mg base k n_words_of_all "words_of_all" s_words_of_all (He.ga K "words_of_all") sp) : C8.Cal P w K mg base (k + 1) "words_of_all" sp [] := by
  obtain ⟨fd, F⟩ := T.says.def_ 33 (d := dd_words_of_all) rfl
  exact ⟨_, fd, _, [], funOk F sc_words_of_all len walk, T.g_words_of_all, F.kp, FunD.bindsN F (ps := ["words", "family"]) fun _ _ _ _ _ _ us hl => match us, hl with | [_, _], _ => rfl, .nil⟩
theorem cal_words_of_some (T : Tx K mg) {k : Nat} {sp : Sp} (len : Len sp 2) (walk : Walk P w K mg base k n_words_of_some "words_of_some" s_words_of_some (He.ga K "words_of_some") sp) : C8.Cal P w K mg base (k + 1) "words_of_some" sp [] := by
  obtain ⟨fd, F⟩ := T.says.def_ 34 (d := dd_words_of_some) rfl
  exact ⟨_, fd, _, [], funOk F sc_words_of_some len walk, T.g_words_of_some, F.kp, FunD.bindsN F (ps := ["words", "family"]) fun _ _ _ _ _ _ us hl => match us, hl with | [_, _], _ => rfl, .nil⟩
theorem cal_always (T : Tx K mg) {k : Nat} {sp : Sp} (len : Len sp 1) (walk : Walk P w K mg base k n_always "always" s_always (He.ga K "always") sp) : C8.Cal P w K mg base (k + 1) "always" sp [] := by
  obtain ⟨fd, F⟩ := T.says.def_ 35 (d := dd_always) rfl
  exact ⟨_, fd, _, [], funOk F sc_always len walk, T.g_always, F.kp, FunD.bindsN F (ps := ["system"]) fun _ _ _ _ _ _ us hl => match us, hl with | [_], _ => rfl, .nil⟩
theorem cal_possible (T : Tx K mg) {k : Nat} {sp : Sp} (len : Len sp 1) (walk : Walk P w K mg base k n_possible "possible" s_possible (He.ga K "possible") sp) : C8.Cal P w K mg base (k + 1) "possible" sp [] := by
  obtain ⟨fd, F⟩ := T.says.def_ 36 (d := dd_possible) rfl
  exact ⟨_, fd, _, [], funOk F sc_possible len walk, T.g_possible, F.kp, FunD.bindsN F (ps := ["system"]) fun _ _ _ _ _ _ us hl => match us, hl with | [_], _ => rfl, .nil⟩
theorem cal_future (T : Tx K mg) {k : Nat} {sp : Sp} (len : Len sp 2) (walk : Walk P w K mg base k n_future "future" s_future (He.ga K "future") sp) : C8.Cal P w K mg base (k + 1) "future" sp [] := by
  obtain ⟨fd, F⟩ := T.says.def_ 37 (d := dd_future) rfl
  exact ⟨_, fd, _, [], funOk F sc_future len walk, T.g_future, F.kp, FunD.bindsN F (ps := ["system", "run"]) fun _ _ _ _ _ _ us hl => match us, hl with | [_, _], _ => rfl, .nil⟩
theorem cal__law_cell (T : Tx K mg) {k : Nat} {sp : Sp} (len : Len sp 2) (walk : Walk P w K mg base k n__law_cell "_law_cell" s__law_cell (He.ga K "_law_cell") sp) : C8.Cal P w K mg base (k + 1) "_law_cell" sp [] := by
  obtain ⟨fd, F⟩ := T.says.def_ 38 (d := dd__law_cell) rfl
  exact ⟨_, fd, _, [], funOk F sc__law_cell len walk, T.g__law_cell, F.kp, FunD.bindsN F (ps := ["_law_script", "_law_k"]) fun _ _ _ _ _ _ us hl => match us, hl with | [_, _], _ => rfl, .nil⟩
theorem cal__law_pool (T : Tx K mg) {k : Nat} {sp : Sp} (len : Len sp 1) (walk : Walk P w K mg base k n__law_pool "_law_pool" s__law_pool (He.ga K "_law_pool") sp) : C8.Cal P w K mg base (k + 1) "_law_pool" sp [] := by
  obtain ⟨fd, F⟩ := T.says.def_ 39 (d := dd__law_pool) rfl
  exact ⟨_, fd, _, [], funOk F sc__law_pool len walk, T.g__law_pool, F.kp, FunD.bindsN F (ps := ["_law_cell_here"]) fun _ _ _ _ _ _ us hl => match us, hl with | [_], _ => rfl, .nil⟩
theorem cal__law_draw (T : Tx K mg) {k : Nat} {sp : Sp} (len : Len sp 2) (walk : Walk P w K mg base k n__law_draw "_law_draw" s__law_draw (He.ga K "_law_draw") sp) : C8.Cal P w K mg base (k + 1) "_law_draw" sp [] := by
  obtain ⟨fd, F⟩ := T.says.def_ 40 (d := dd__law_draw) rfl
  exact ⟨_, fd, _, [], funOk F sc__law_draw len walk, T.g__law_draw, F.kp, FunD.bindsN F (ps := ["_law_pool_here", "_law_many"]) fun _ _ _ _ _ _ us hl => match us, hl with | [_, _], _ => rfl, .nil⟩
theorem cal__law_name (T : Tx K mg) {k : Nat} {sp : Sp} (len : Len sp 1) (walk : Walk P w K mg base k n__law_name "_law_name" s__law_name (He.ga K "_law_name") sp) : C8.Cal P w K mg base (k + 1) "_law_name" sp [] := by
  obtain ⟨fd, F⟩ := T.says.def_ 41 (d := dd__law_name) rfl
  exact ⟨_, fd, _, [], funOk F sc__law_name len walk, T.g__law_name, F.kp, FunD.bindsN F (ps := ["_law_number"]) fun _ _ _ _ _ _ us hl => match us, hl with | [_], _ => rfl, .nil⟩
theorem cal__law_names (T : Tx K mg) {k : Nat} {sp : Sp} (len : Len sp 2) (walk : Walk P w K mg base k n__law_names "_law_names" s__law_names (He.ga K "_law_names") sp) : C8.Cal P w K mg base (k + 1) "_law_names" sp [] := by
  obtain ⟨fd, F⟩ := T.says.def_ 42 (d := dd__law_names) rfl
  exact ⟨_, fd, _, [], funOk F sc__law_names len walk, T.g__law_names, F.kp, FunD.bindsN F (ps := ["_law_pool_here", "_law_many"]) fun _ _ _ _ _ _ us hl => match us, hl with | [_, _], _ => rfl, .nil⟩
theorem cal__law_steps (T : Tx K mg) {k : Nat} {sp : Sp} (len : Len sp 4) (walk : Walk P w K mg base k n__law_steps "_law_steps" s__law_steps (He.ga K "_law_steps") sp) : C8.Cal P w K mg base (k + 1) "_law_steps" sp [] := by
  obtain ⟨fd, F⟩ := T.says.def_ 43 (d := dd__law_steps) rfl
  exact ⟨_, fd, _, [], funOk F sc__law_steps len walk, T.g__law_steps, F.kp, FunD.bindsN F (ps := ["_law_pool_here", "_law_names_here", "_law_states", "_law_many"]) fun _ _ _ _ _ _ us hl => match us, hl with | [_, _, _, _], _ => rfl, .nil⟩
theorem cal__law_hand (T : Tx K mg) {k : Nat} {sp : Sp} (len : Len sp 4) (walk : Walk P w K mg base k n__law_hand "_law_hand" s__law_hand (He.ga K "_law_hand") sp) : C8.Cal P w K mg base (k + 1) "_law_hand" sp [] := by
  obtain ⟨fd, F⟩ := T.says.def_ 44 (d := dd__law_hand) rfl
  exact ⟨_, fd, _, [], funOk F sc__law_hand len walk, T.g__law_hand, F.kp, FunD.bindsN F (ps := ["_law_pool_here", "_law_names_here", "_law_most_states", "_law_most_steps"]) fun _ _ _ _ _ _ us hl => match us, hl with | [_, _, _, _], _ => rfl, .nil⟩
theorem cal__law_rows (T : Tx K mg) {k : Nat} {sp : Sp} (len : Len sp 5) (walk : Walk P w K mg base k n__law_rows "_law_rows" s__law_rows (He.ga K "_law_rows") sp) : C8.Cal P w K mg base (k + 1) "_law_rows" sp [] := by
  obtain ⟨fd, F⟩ := T.says.def_ 45 (d := dd__law_rows) rfl
  exact ⟨_, fd, _, [], funOk F sc__law_rows len walk, T.g__law_rows, F.kp, FunD.bindsN F (ps := ["_law_script", "_law_most_hands", "_law_most_words", "_law_most_states", "_law_most_steps"]) fun _ _ _ _ _ _ us hl => match us, hl with | [_, _, _, _, _], _ => rfl, .nil⟩
theorem cal__law_system (T : Tx K mg) {k : Nat} {sp : Sp} (len : Len sp 2) (walk : Walk P w K mg base k n__law_system "_law_system" s__law_system (He.ga K "_law_system") sp) : C8.Cal P w K mg base (k + 1) "_law_system" sp [] := by
  obtain ⟨fd, F⟩ := T.says.def_ 46 (d := dd__law_system) rfl
  exact ⟨_, fd, _, [], funOk F sc__law_system len walk, T.g__law_system, F.kp, FunD.bindsN F (ps := ["_law_rows_here", "_law_chosen"]) fun _ _ _ _ _ _ us hl => match us, hl with | [_, _], _ => rfl, .nil⟩
theorem cal__law_words (T : Tx K mg) {k : Nat} {sp : Sp} (len : Len sp 1) (walk : Walk P w K mg base k n__law_words "_law_words" s__law_words (He.ga K "_law_words") sp) : C8.Cal P w K mg base (k + 1) "_law_words" sp [] := by
  obtain ⟨fd, F⟩ := T.says.def_ 47 (d := dd__law_words) rfl
  exact ⟨_, fd, _, [], funOk F sc__law_words len walk, T.g__law_words, F.kp, FunD.bindsN F (ps := ["_law_rows_here"]) fun _ _ _ _ _ _ us hl => match us, hl with | [_], _ => rfl, .nil⟩
theorem cal__law_numbers (T : Tx K mg) {k : Nat} {sp : Sp} (len : Len sp 3) (walk : Walk P w K mg base k n__law_numbers "_law_numbers" s__law_numbers (He.ga K "_law_numbers") sp) : C8.Cal P w K mg base (k + 1) "_law_numbers" sp [] := by
  obtain ⟨fd, F⟩ := T.says.def_ 48 (d := dd__law_numbers) rfl
  exact ⟨_, fd, _, [], funOk F sc__law_numbers len walk, T.g__law_numbers, F.kp, FunD.bindsN F (ps := ["_law_row", "_law_state", "_law_word"]) fun _ _ _ _ _ _ us hl => match us, hl with | [_, _, _], _ => rfl, .nil⟩
theorem cal__law_moves (T : Tx K mg) {k : Nat} {sp : Sp} (len : Len sp 2) (walk : Walk P w K mg base k n__law_moves "_law_moves" s__law_moves (He.ga K "_law_moves") sp) : C8.Cal P w K mg base (k + 1) "_law_moves" sp [] := by
  obtain ⟨fd, F⟩ := T.says.def_ 49 (d := dd__law_moves) rfl
  exact ⟨_, fd, _, [], funOk F sc__law_moves len walk, T.g__law_moves, F.kp, FunD.bindsN F (ps := ["_law_rows_here", "_law_states"]) fun _ _ _ _ _ _ us hl => match us, hl with | [_, _], _ => rfl, .nil⟩
theorem cal__law_behind (T : Tx K mg) {k : Nat} {sp : Sp} (len : Len sp 3) (walk : Walk P w K mg base k n__law_behind "_law_behind" s__law_behind (He.ga K "_law_behind") sp) : C8.Cal P w K mg base (k + 1) "_law_behind" sp [] := by
  obtain ⟨fd, F⟩ := T.says.def_ 50 (d := dd__law_behind) rfl
  exact ⟨_, fd, _, [], funOk F sc__law_behind len walk, T.g__law_behind, F.kp, FunD.bindsN F (ps := ["_law_rows_here", "_law_states", "_law_move"]) fun _ _ _ _ _ _ us hl => match us, hl with | [_, _, _], _ => rfl, .nil⟩
theorem cal__law_start (T : Tx K mg) {k : Nat} {sp : Sp} (len : Len sp 1) (walk : Walk P w K mg base k n__law_start "_law_start" s__law_start (He.ga K "_law_start") sp) : C8.Cal P w K mg base (k + 1) "_law_start" sp [] := by
  obtain ⟨fd, F⟩ := T.says.def_ 51 (d := dd__law_start) rfl
  exact ⟨_, fd, _, [], funOk F sc__law_start len walk, T.g__law_start, F.kp, FunD.bindsN F (ps := ["_law_rows_here"]) fun _ _ _ _ _ _ us hl => match us, hl with | [_], _ => rfl, .nil⟩
theorem cal__law_walk (T : Tx K mg) {k : Nat} {sp : Sp} (len : Len sp 2) (walk : Walk P w K mg base k n__law_walk "_law_walk" s__law_walk (He.ga K "_law_walk") sp) : C8.Cal P w K mg base (k + 1) "_law_walk" sp [] := by
  obtain ⟨fd, F⟩ := T.says.def_ 52 (d := dd__law_walk) rfl
  exact ⟨_, fd, _, [], funOk F sc__law_walk len walk, T.g__law_walk, F.kp, FunD.bindsN F (ps := ["_law_rows_here", "_law_cells"]) fun _ _ _ _ _ _ us hl => match us, hl with | [_, _], _ => rfl, .nil⟩
theorem cal__law_same (T : Tx K mg) {k : Nat} {sp : Sp} (len : Len sp 2) (walk : Walk P w K mg base k n__law_same "_law_same" s__law_same (He.ga K "_law_same") sp) : C8.Cal P w K mg base (k + 1) "_law_same" sp [] := by
  obtain ⟨fd, F⟩ := T.says.def_ 53 (d := dd__law_same) rfl
  exact ⟨_, fd, _, [], funOk F sc__law_same len walk, T.g__law_same, F.kp, FunD.bindsN F (ps := ["_law_told", "_law_due"]) fun _ _ _ _ _ _ us hl => match us, hl with | [_, _], _ => rfl, .nil⟩
theorem cal__law_within (T : Tx K mg) {k : Nat} {sp : Sp} (len : Len sp 2) (walk : Walk P w K mg base k n__law_within "_law_within" s__law_within (He.ga K "_law_within") sp) : C8.Cal P w K mg base (k + 1) "_law_within" sp [] := by
  obtain ⟨fd, F⟩ := T.says.def_ 54 (d := dd__law_within) rfl
  exact ⟨_, fd, _, [], funOk F sc__law_within len walk, T.g__law_within, F.kp, FunD.bindsN F (ps := ["_law_row", "_law_other"]) fun _ _ _ _ _ _ us hl => match us, hl with | [_, _], _ => rfl, .nil⟩
theorem cal_law (T : Tx K mg) {k : Nat} {sp : Sp} (len : Len sp 1) (walk : Walk P w K mg base k n_law "law" s_law (He.ga K "law") sp) : C8.Cal P w K mg base (k + 1) "law" sp [] := by
  obtain ⟨fd, F⟩ := T.says.def_ 55 (d := dd_law) rfl
  exact ⟨_, fd, _, [], funOk F sc_law len walk, T.g_law, F.kp, FunD.bindsN F (ps := ["_law_script"]) fun _ _ _ _ _ _ us hl => match us, hl with | [_], _ => rfl, .nil⟩
theorem mak_Deeds (T : Tx K mg) {k : Nat} {sp : Sp} (len : Len sp 2) (walk : Walk P w K mg base k n_Deeds_init "Deeds.__init__" s_Deeds_init (He.ma K (He.ga K "Deeds") "__init__") sp) : C8.Mak P w K mg base (k + 1) "Deeds" (He.ga K "Deeds") sp [] := by
  obtain ⟨fd, F⟩ := T.says.def_ 56 (d := dd_Deeds_init) rfl
  obtain ⟨ds, r, b⟩ := FunD.binds1 (ps := ["self", "words"]) F 2 1 (by simp [He.DefD.dvs, dd_Deeds_init]) rfl fun _ _ _ _ _ _ _ us its hl hi => match us, its, hl, hi with | [_, _], [_], _, _ => ⟨_, rfl, rfl⟩
  have e : ds = [] := by
    have h0 := r.length
    simp only [List.length_drop] at h0
    exact List.eq_nil_of_length_eq_zero (h0.symm.trans rfl)
  subst e
  exact ⟨_, fd, _, [], T.m_Deeds, funOk F sc_Deeds_init len walk, T.g_Deeds, b, .nil⟩
theorem met_Deeds_names (T : Tx K mg) {k : Nat} {sp : Sp} (len : Len sp 1) (walk : Walk P w K mg base k n_Deeds_names "Deeds.names" s_Deeds_names (He.ma K (He.ga K "Deeds") "names") sp) : C8.Met P w K mg base (k + 1) (He.ga K "Deeds") "names" sp [] := by
  obtain ⟨fd, F⟩ := T.says.def_ 57 (d := dd_Deeds_names) rfl
  exact ⟨_, fd, _, [], T.c_Deeds, T.t_Deeds_names, funOk F sc_Deeds_names len walk, FunD.bindsN F (ps := ["self"]) fun _ _ _ _ _ _ us hl => match us, hl with | [_], _ => rfl, .nil⟩
theorem mak_Hand (T : Tx K mg) {k : Nat} {sp : Sp} (len : Len sp 3) (walk : Walk P w K mg base k n_Hand_init "Hand.__init__" s_Hand_init (He.ma K (He.ga K "Hand") "__init__") sp) : C8.Mak P w K mg base (k + 1) "Hand" (He.ga K "Hand") sp [] := by
  obtain ⟨fd, F⟩ := T.says.def_ 58 (d := dd_Hand_init) rfl
  exact ⟨_, fd, _, [], T.m_Hand, funOk F sc_Hand_init len walk, T.g_Hand, FunD.bindsN F (ps := ["self", "start", "steps"]) fun _ _ _ _ _ _ us hl => match us, hl with | [_, _, _], _ => rfl, .nil⟩
theorem mak_System (T : Tx K mg) {k : Nat} {sp : Sp} (len : Len sp 3) (walk : Walk P w K mg base k n_System_init "System.__init__" s_System_init (He.ma K (He.ga K "System") "__init__") sp) : C8.Mak P w K mg base (k + 1) "System" (He.ga K "System") sp [] := by
  obtain ⟨fd, F⟩ := T.says.def_ 59 (d := dd_System_init) rfl
  obtain ⟨ds, r, b⟩ := FunD.binds1 (ps := ["self", "hands", "diligent"]) F 3 1 (by simp [He.DefD.dvs, dd_System_init]) rfl fun _ _ _ _ _ _ _ us its hl hi => match us, its, hl, hi with | [_, _, _], [_], _, _ => ⟨_, rfl, rfl⟩
  have e : ds = [] := by
    have h0 := r.length
    simp only [List.length_drop] at h0
    exact List.eq_nil_of_length_eq_zero (h0.symm.trans rfl)
  subst e
  exact ⟨_, fd, _, [], T.m_System, funOk F sc_System_init len walk, T.g_System, b, .nil⟩
theorem met_System_moves (T : Tx K mg) {k : Nat} {sp : Sp} (len : Len sp 2) (walk : Walk P w K mg base k n_System_moves "System.moves" s_System_moves (He.ma K (He.ga K "System") "moves") sp) : C8.Met P w K mg base (k + 1) (He.ga K "System") "moves" sp [] := by
  obtain ⟨fd, F⟩ := T.says.def_ 60 (d := dd_System_moves) rfl
  exact ⟨_, fd, _, [], T.c_System, T.t_System_moves, funOk F sc_System_moves len walk, FunD.bindsN F (ps := ["self", "states"]) fun _ _ _ _ _ _ us hl => match us, hl with | [_, _], _ => rfl, .nil⟩
theorem met_System_able (T : Tx K mg) {k : Nat} {sp : Sp} (len : Len sp 2) (walk : Walk P w K mg base k n_System_able "System.able" s_System_able (He.ma K (He.ga K "System") "able") sp) : C8.Met P w K mg base (k + 1) (He.ga K "System") "able" sp [] := by
  obtain ⟨fd, F⟩ := T.says.def_ 61 (d := dd_System_able) rfl
  exact ⟨_, fd, _, [], T.c_System, T.t_System_able, funOk F sc_System_able len walk, FunD.bindsN F (ps := ["self", "states"]) fun _ _ _ _ _ _ us hl => match us, hl with | [_, _], _ => rfl, .nil⟩
theorem met_System_started_at (T : Tx K mg) {k : Nat} {sp : Sp} (len : Len sp 2) (walk : Walk P w K mg base k n_System_started_at "System.started_at" s_System_started_at (He.ma K (He.ga K "System") "started_at") sp) : C8.Met P w K mg base (k + 1) (He.ga K "System") "started_at" sp [] := by
  obtain ⟨fd, F⟩ := T.says.def_ 62 (d := dd_System_started_at) rfl
  exact ⟨_, fd, _, [], T.c_System, T.t_System_started_at, funOk F sc_System_started_at len walk, FunD.bindsN F (ps := ["self", "states"]) fun _ _ _ _ _ _ us hl => match us, hl with | [_, _], _ => rfl, .nil⟩
theorem mak_Ground (T : Tx K mg) {k : Nat} {sp : Sp} (len : Len sp 2) (walk : Walk P w K mg base k n_Ground_init "Ground.__init__" s_Ground_init (He.ma K (He.ga K "Ground") "__init__") sp) : C8.Mak P w K mg base (k + 1) "Ground" (He.ga K "Ground") sp [] := by
  obtain ⟨fd, F⟩ := T.says.def_ 63 (d := dd_Ground_init) rfl
  exact ⟨_, fd, _, [], T.m_Ground, funOk F sc_Ground_init len walk, T.g_Ground, FunD.bindsN F (ps := ["self", "system"]) fun _ _ _ _ _ _ us hl => match us, hl with | [_, _], _ => rfl, .nil⟩
theorem met_Ground_ways (T : Tx K mg) {k : Nat} {sp : Sp} (len : Len sp 2) (walk : Walk P w K mg base k n_Ground_ways "Ground.ways" s_Ground_ways (He.ma K (He.ga K "Ground") "ways") sp) : C8.Met P w K mg base (k + 1) (He.ga K "Ground") "ways" sp [] := by
  obtain ⟨fd, F⟩ := T.says.def_ 64 (d := dd_Ground_ways) rfl
  exact ⟨_, fd, _, [], T.c_Ground, T.t_Ground_ways, funOk F sc_Ground_ways len walk, FunD.bindsN F (ps := ["self", "states"]) fun _ _ _ _ _ _ us hl => match us, hl with | [_, _], _ => rfl, .nil⟩
theorem met_Ground_able (T : Tx K mg) {k : Nat} {sp : Sp} (len : Len sp 2) (walk : Walk P w K mg base k n_Ground_able "Ground.able" s_Ground_able (He.ma K (He.ga K "Ground") "able") sp) : C8.Met P w K mg base (k + 1) (He.ga K "Ground") "able" sp [] := by
  obtain ⟨fd, F⟩ := T.says.def_ 65 (d := dd_Ground_able) rfl
  exact ⟨_, fd, _, [], T.c_Ground, T.t_Ground_able, funOk F sc_Ground_able len walk, FunD.bindsN F (ps := ["self", "states"]) fun _ _ _ _ _ _ us hl => match us, hl with | [_, _], _ => rfl, .nil⟩
end
end NS
/-! N1: hash tables of sets whose masks are 2^e - 1: every slot is met; tables that are found again; laying anew. -/
namespace NS
open PySem PySem.Spec PyProof.Rows L2

/-! ### x -> 5 x + 1 modulo a power of two runs through everything -/
def It (x : Nat) : Nat → Nat
  | 0 => x
  | k + 1 => It x k * 5 + 1
theorem It_add (x a : Nat) : ∀ b, It x (a + b) = It (It x a) b
  | 0 => rfl
  | b + 1 => by
    show It x (a + b) * 5 + 1 = It (It x a) b * 5 + 1
    rw [It_add x a b]
/-- the constant part -/
def Yc (k : Nat) : Nat := It 0 k
theorem It_eq (x : Nat) : ∀ k, It x k = 5 ^ k * x + Yc k
  | 0 => by simp [It, Yc]
  | k + 1 => by
    show It x k * 5 + 1 = 5 ^ (k + 1) * x + (Yc k * 5 + 1)
    rw [It_eq x k, Nat.pow_succ]
    have : 5 ^ k * 5 * x = (5 ^ k * x) * 5 := by rw [Nat.mul_right_comm]
    omega
theorem Y_pow : ∀ e : Nat, ∃ a b, 5 ^ (2 ^ e) = 1 + 4 * 2 ^ e * a ∧ Yc (2 ^ e) = 2 ^ e * (2 * b + 1)
  | 0 => ⟨1, 0, by decide, by decide⟩
  | e + 1 => by
    obtain ⟨a, b, h1, h2⟩ := Y_pow e
    have d : 2 ^ (e + 1) = 2 ^ e + 2 ^ e := by rw [Nat.pow_succ]; omega
    refine ⟨a + 2 * 2 ^ e * a * a, b + (2 * b + 1) * 2 ^ e * a, ?_, ?_⟩
    · rw [d, Nat.pow_add, h1]
      generalize 2 ^ e = N
      have : (1 + 4 * N * a) * (1 + 4 * N * a) = 1 + 8 * (N * a) + 16 * (N * a * (N * a)) := by
        rw [show 4 * N * a = 4 * (N * a) by rw [Nat.mul_assoc]]
        generalize N * a = u
        have : 4 * u * (4 * u) = 16 * (u * u) := by
          rw [Nat.mul_mul_mul_comm]
        rw [Nat.mul_add, Nat.mul_one, Nat.add_mul, Nat.one_mul]
        omega
      rw [this]
      have e3 : 4 * (N + N) * (a + 2 * N * a * a) = 8 * (N * a) + 16 * (N * a * (N * a)) := by
        rw [Nat.mul_add]
        have e4 : 4 * (N + N) * a = 8 * (N * a) := by
          rw [show 4 * (N + N) = 8 * N by omega, Nat.mul_assoc]
        have e5 : 4 * (N + N) * (2 * N * a * a) = 16 * (N * a * (N * a)) := by
          rw [show 4 * (N + N) = 8 * N by omega]
          have : 2 * N * a * a = 2 * (N * a * a) := by rw [Nat.mul_assoc 2 N a, Nat.mul_assoc 2 (N * a) a]
          rw [this, Nat.mul_mul_mul_comm, show N * (N * a * a) = N * a * (N * a) by
            rw [Nat.mul_assoc N a (N * a), Nat.mul_assoc N a a, ← Nat.mul_assoc a N a, Nat.mul_comm a N, Nat.mul_assoc N a a]]
        omega
      omega
    · rw [d]
      show It 0 (2 ^ e + 2 ^ e) = _
      rw [It_add, It_eq]
      show 5 ^ (2 ^ e) * Yc (2 ^ e) + Yc (2 ^ e) = _
      rw [h1, h2]
      generalize 2 ^ e = N
      generalize hu : 2 * b + 1 = u
      have e1 : (1 + 4 * N * a) * (N * u) = N * u + 4 * (N * a * (N * u)) := by
        rw [Nat.add_mul, Nat.one_mul, show 4 * N * a = 4 * (N * a) by rw [Nat.mul_assoc], Nat.mul_assoc]
      have e2 : (N + N) * (2 * (b + u * N * a) + 1) = (N + N) * u + 4 * (N * (u * N * a)) := by
        rw [show 2 * (b + u * N * a) + 1 = u + 2 * (u * N * a) by omega, Nat.mul_add, show N + N = 2 * N by omega, Nat.mul_mul_mul_comm]
      have e3 : N * (u * N * a) = N * a * (N * u) := by
        rw [Nat.mul_assoc N a (N * u)]
        congr 1
        rw [Nat.mul_assoc u N a, Nat.mul_comm u (N * a), ← Nat.mul_assoc a N u, Nat.mul_comm a N]
      rw [e1, e2, e3, Nat.add_mul]
      omega
/-- all remainders are met within a round -/
theorem It_all : ∀ (e i j : Nat), ∃ k, k < 2 ^ e ∧ ∃ t : Int, (It i k : Int) = (j : Int) + (2 ^ e : Nat) * t
  | 0, i, j => ⟨0, by decide, (It i 0 : Int) - j, by simp; omega⟩
  | e + 1, i, j => by
    obtain ⟨k, hk, t, ht⟩ := It_all e i j
    have d : 2 ^ (e + 1) = 2 ^ e + 2 ^ e := by rw [Nat.pow_succ]; omega
    rcases (show t % 2 = 0 ∨ t % 2 = 1 by omega) with c | c
    · refine ⟨k, by omega, t / 2, ?_⟩
      rw [ht, d]
      have : t = 2 * (t / 2) := by omega
      conv => lhs; rw [this]
      rw [Int.natCast_add, ← Int.two_mul, Int.mul_assoc, Int.mul_left_comm]
    · obtain ⟨a, b, h1, h2⟩ := Y_pow e
      refine ⟨k + 2 ^ e, by omega, (t + 1) / 2 + 2 * (a * It i k : Nat) + b, ?_⟩
      rw [It_add, It_eq, h1, h2, d]
      generalize It i k = z at ht ⊢
      generalize 2 ^ e = N at ht ⊢
      have q : ((t + 1) / 2) * 2 = t + 1 := by omega
      have e1 : (1 + 4 * N * a) * z + N * (2 * b + 1) = z + 4 * (N * (a * z)) + (2 * (N * b) + N) := by
        rw [Nat.add_mul, Nat.one_mul, Nat.mul_add, Nat.mul_one, Nat.mul_assoc (4 * N) a z, Nat.mul_assoc 4 N, ← Nat.mul_assoc N 2 b, Nat.mul_comm N 2, Nat.mul_assoc 2 N b]
      rw [e1]
      generalize hS : (t + 1) / 2 = S at q ⊢
      have e2 : ((N + N : Nat) : Int) * (S + 2 * ((a * z : Nat) : Int) + (b : Int)) = (N : Int) * (S * 2) + 4 * ((N * (a * z) : Nat) : Int) + 2 * ((N * b : Nat) : Int) := by
        simp only [Int.natCast_add, Int.natCast_mul, Int.mul_add, Int.add_mul]
        generalize (a : Int) * (z : Int) = u
        generalize hw : (N : Int) * (b : Int) = w
        have e3 : (N : Int) * (2 * u) = 2 * ((N : Int) * u) := by rw [← Int.mul_assoc, Int.mul_comm (N : Int) 2, Int.mul_assoc]
        have e4 : (N : Int) * (S * 2) = 2 * ((N : Int) * S) := by rw [← Int.mul_assoc, Int.mul_comm]
        rw [e3]
        generalize (N : Int) * u = u2
        rw [e4]
        omega
      rw [e2, q, Int.mul_add, Int.mul_one]
      simp only [Int.natCast_add]
      generalize (N * (a * z) : Nat) = u1
      generalize (N * b : Nat) = u2
      rw [ht]
      simp only [Int.natCast_mul]
      omega
theorem lcg_It (m i : Nat) (hi : i ≤ m) : ∀ k, lcgI m i k = It i k % (m + 1)
  | 0 => (Nat.mod_eq_of_lt (Nat.lt_succ_of_le hi)).symm
  | k + 1 => by
    show (lcgI m i k * 5 + 1) % (m + 1) = (It i k * 5 + 1) % (m + 1)
    rw [lcg_It m i hi k]
    simp [Nat.add_mod, Nat.mul_mod]
/-- the masks: 7 to 4095 -/
def Mk2 (m : Nat) : Prop := ∃ e, 3 ≤ e ∧ e ≤ 12 ∧ m + 1 = 2 ^ e
theorem Mk2.big {m : Nat} (h : Mk2 m) : 7 ≤ m ∧ m ≤ 4095 ∧ m % 2 = 1 := by
  obtain ⟨e, h1, h2, h3⟩ := h
  have a : 2 ^ 3 ≤ 2 ^ e := Nat.pow_le_pow_right (by decide) h1
  have b : 2 ^ e ≤ 2 ^ 12 := Nat.pow_le_pow_right (by decide) h2
  have c : 2 ^ e % 2 = 0 := by
    obtain ⟨f, rfl⟩ : ∃ f, e = f + 1 := ⟨e - 1, by omega⟩
    rw [Nat.pow_succ]
    omega
  omega
theorem Mk2.all {m : Nat} (h : Mk2 m) {i j : Nat} (hi : i ≤ m) (hj : j ≤ m) : ∃ k, k ≤ m ∧ lcgI m i k = j := by
  obtain ⟨e, _, _, h3⟩ := h
  obtain ⟨k, hk, t, ht⟩ := It_all e i j
  refine ⟨k, by omega, ?_⟩
  rw [lcg_It m i hi, h3]
  have hlt : j < 2 ^ e := by omega
  have : ((It i k % 2 ^ e : Nat) : Int) = (j : Int) := by
    rw [Int.natCast_emod, ht, Int.add_mul_emod_self_left]
    exact Int.emod_eq_of_lt (by omega) (by omega)
  omega
theorem run_hits {m : Nat} (hm : Mk2 m) (h : Int) {j : Nat} (hj : j ≤ m) : ∃ n, n ≤ m + 12 ∧ runI m (SetTable.bits h) n = j := by
  obtain ⟨k, hk, e⟩ := hm.all (runI_le m (SetTable.bits h) 12) hj
  exact ⟨12 + k, by omega, (runI_tail (bits_lt h) k).trans e⟩
theorem way_hits {m : Nat} (hm : Mk2 m) (h : Int) {j : Nat} (hj : j ≤ m) : ∃ k, k < 10 * SetTable.turns m ∧ way m h k = j := by
  obtain ⟨n, hn, e⟩ := run_hits hm h hj
  obtain ⟨k, hk, e2⟩ := run_nth m (SetTable.bits h) n
  refine ⟨k, by unfold SetTable.turns; omega, ?_⟩
  show (nth m (runAt m (SetTable.bits h % (m + 1)) (SetTable.bits h)) k).j = j
  rw [e2]
  exact e
theorem way_in {m : Nat} (h : Int) (k : Nat) : way m h k ≤ m := by
  have hi : SetTable.bits h % (m + 1) ≤ m := Nat.le_of_lt_succ (Nat.mod_lt _ (Nat.succ_pos _))
  have r := runEnd_bd hi
  have q := nth_in (m := m) k (runAt m (SetTable.bits h % (m + 1)) (SetTable.bits h)) (by
    show SetTable.bits h % (m + 1) + (SetTable.runEnd m (SetTable.bits h % (m + 1)) - SetTable.bits h % (m + 1)) ≤ m
    omega)
  exact Nat.le_trans (Nat.le_add_right _ _) q
end NS
/-! N2: tables of any size up to 4096 slots whose entries are all found again from their hashes. -/
namespace NS
open PySem PySem.Spec PyProof.Rows L2

structure Tb (t : SetTable) (hs : List Int) : Prop where
  up : Ris t.place.toList
  nodum : t.dummies = #[]
  len : t.place.size = hs.length
  msk : Mk2 t.mask
  low : ∀ y ∈ t.place.toList, y ≤ t.mask
  back : ∀ (n : Nat) (g : Int) (y : Nat), hs[n]? = some g → t.place.toList[n]? = some y →
    ∃ c, way t.mask g c = y ∧ ∀ d, d < c → way t.mask g d ∈ t.place.toList
section
variable {t : SetTable} {hs : List Int}
theorem Tb.len' (T : Tb t hs) : t.place.toList.length = hs.length := by
  rw [Array.length_toList, T.len]
theorem Tb.gap (T : Tb t hs) (few : hs.length ≤ t.mask) (g : Int) :
    ∃ c, c < 10 * SetTable.turns t.mask ∧ way t.mask g c ∉ t.place.toList ∧ ∀ d, d < c → way t.mask g d ∈ t.place.toList := by
  obtain ⟨y, hy, no⟩ := st_missing t.place.toList (t.mask + 1) (by rw [T.len']; omega)
  obtain ⟨c0, b0, e0⟩ := way_hits T.msk g (Nat.le_of_lt_succ hy)
  obtain ⟨c, h1, h2, h3⟩ := st_least (p := fun c => way t.mask g c ∉ t.place.toList) c0 (by rw [e0]; exact no)
  exact ⟨c, Nat.lt_of_le_of_lt h1 b0, h2, fun d hd => Classical.byContradiction fun z => h3 d hd z⟩
theorem Tb.ahead (T : Tb t hs) {g : Int} {c n y : Nat} (no : way t.mask g c ∉ t.place.toList) (hn : hs[n]? = some g) (hy : t.place.toList[n]? = some y) :
    ∃ d, d < c ∧ way t.mask g d = y := by
  obtain ⟨d, e, b⟩ := T.back n g y hn hy
  refine ⟨d, Nat.lt_of_not_le fun z => ?_, e⟩
  rcases Nat.lt_or_eq_of_le z with z | z
  · exact no (b c z)
  · subst z
    rw [e] at no
    exact no (List.mem_of_getElem? hy)
/-- one more at the first gap of its way -/
theorem Tb.add (T : Tb t hs) {g : Int} {c : Nat} (no : way t.mask g c ∉ t.place.toList) (yes : ∀ d, d < c → way t.mask g d ∈ t.place.toList) {y p : Nat}
    (hy : y = way t.mask g c) (hp : p = SetTable.below t.place y) :
    p ≤ hs.length ∧ Tb (t.put y).1 (hs.take p ++ g :: hs.drop p) ∧ (t.put y).1.fill = hs.length + 1 := by
  have pt := put_place t y
  rw [← hp] at pt
  obtain ⟨c1, _, _⟩ := below_cut T.up y
  rw [← hp] at c1
  have p1 : p ≤ t.place.toList.length := by rw [Array.length_toList]; exact c1
  have p2 : p ≤ hs.length := by rw [← T.len]; exact c1
  have keep : ∀ {z : Nat}, z ∈ t.place.toList → z ∈ (t.put y).1.place.toList := fun hz => by
    rw [pt]; exact mem_ins.2 (.inr hz)
  have sz : (t.put y).1.place.size = hs.length + 1 := by
    rw [← Array.length_toList, pt, len_ins _ p1, T.len']
  rw [← hy] at no
  refine ⟨p2, ⟨ris_insert T.up fun e => no (List.mem_of_getElem? (by rw [Array.getElem?_toList]; exact e)), put_dm T.nodum y, ?_, T.msk, fun z hz => ?_, fun n g' y' h1 h2 => ?_⟩, ?_⟩
  · rw [len_ins _ p2]
    exact sz
  · rw [pt] at hz
    rcases mem_ins.1 hz with z | z
    · subst z
      rw [hy]
      exact way_in g c
    · exact T.low _ z
  · show ∃ c, way t.mask g' c = y' ∧ ∀ d, d < c → way t.mask g' d ∈ (t.put y).1.place.toList
    rw [tins_get hs p2] at h1
    rw [pt, tins_get _ p1] at h2
    split at h1
    · rename_i lt
      rw [if_pos lt] at h2
      obtain ⟨d, e, b⟩ := T.back n g' y' h1 h2
      exact ⟨d, e, fun d' hd => keep (b d' hd)⟩
    · rename_i lt
      rw [if_neg lt] at h2
      split at h1
      · rename_i eq
        rw [if_pos eq] at h2
        cases h1
        cases h2
        exact ⟨c, hy.symm, fun d hd => keep (yes d hd)⟩
      · rename_i eq
        rw [if_neg eq] at h2
        obtain ⟨d, e, b⟩ := T.back (n - 1) g' y' h1 h2
        exact ⟨d, e, fun d' hd => keep (b d' hd)⟩
  · show (t.put y).1.place.size + (t.put y).1.dummies.size = hs.length + 1
    rw [sz, put_dm T.nodum y]
    rfl
end

/-! ### laying anew -/
theorem free_at {m : Nat} (hm : Mk2 m) (ow : Array (Option Nat)) (g : Int) {y : Nat} (hy : y ≤ m) (hf : oAt ow y = none) :
    ∃ c, SetTable.layClean.free m ow (SetTable.turns m) (SetTable.bits g % (m + 1)) (SetTable.bits g) = some (way m g c) ∧
      oAt ow (way m g c) = none ∧ ∀ d, d < c → oAt ow (way m g d) ≠ none := by
  obtain ⟨n, hn, e⟩ := run_hits hm g hy
  have w0 : way m g (off m (SetTable.bits g % (m + 1)) (SetTable.bits g) n) = y := by
    show (nth m (runAt m (SetTable.bits g % (m + 1)) (SetTable.bits g)) (off m _ _ n)).j = y
    rw [nth_off, itL_run]
    exact e
  obtain ⟨c, c1, c2, c3⟩ := st_least (p := fun c => oAt ow (way m g c) = none) _ (show oAt ow (way m g (off m (SetTable.bits g % (m + 1)) (SetTable.bits g) n)) = none by rw [w0]; exact hf)
  refine ⟨c, free_spec m ow _ n _ _ c (by unfold SetTable.turns; omega) c1 (fun d hd => ?_) ?_, c2, c3⟩
  · have q := c3 d hd
    cases z : oAt ow (nth m (runAt m (SetTable.bits g % (m + 1)) (SetTable.bits g)) d).j with
    | none => exact absurd z q
    | some _ => rfl
  · show (oAt ow (way m g c)).isNone = true
    rw [c2]
    rfl
/-- the owners of the slots, when the hashes done are laid -/
structure Ows (m : Nat) (done : List Int) (ow : Array (Option Nat)) : Prop where
  sz : ow.size = m + 1
  whose : ∀ y n, y ≤ m → oAt ow y = some n → ∃ g c, done[n]? = some g ∧ way m g c = y ∧ ∀ d, d < c → oAt ow (way m g d) ≠ none
  each : ∀ n, n < done.length → ∃ y, y ≤ m ∧ oAt ow y = some n
  used : ∃ us : List Nat, us.length = done.length ∧ ∀ y, y ≤ m → oAt ow y ≠ none → y ∈ us
theorem Ows.none (m : Nat) : Ows m [] (Array.replicate (m + 1) .none) :=
  ⟨by simp, fun y n hy e => (nomatch ((oAt_init hy).symm.trans e)), fun n hn => absurd hn (Nat.not_lt_zero _), [], rfl, fun y hy e => absurd (oAt_init hy) e⟩
theorem Ows.next {m : Nat} (hm : Mk2 m) {done : List Int} {ow : Array (Option Nat)} (W : Ows m done ow) (few : done.length ≤ m) (g : Int) :
    ∃ y, SetTable.layClean.free m ow (SetTable.turns m) (SetTable.bits g % (m + 1)) (SetTable.bits g) = some y ∧ Ows m (done ++ [g]) (ow.setIfInBounds y (some done.length)) := by
  obtain ⟨us, u1, u2⟩ := W.used
  obtain ⟨y0, b0, n0⟩ := st_missing us (m + 1) (by omega)
  have f0 : oAt ow y0 = .none := Classical.byContradiction fun z => n0 (u2 y0 (Nat.le_of_lt_succ b0) z)
  obtain ⟨c, e1, e2, e3⟩ := free_at hm ow g (Nat.le_of_lt_succ b0) f0
  have inb : way m g c < ow.size := by
    rw [W.sz]
    exact Nat.lt_succ_of_le (way_in g c)
  have me := oAt_set_self (some done.length) inb
  have other : ∀ {y : Nat}, y ≠ way m g c → oAt (ow.setIfInBounds (way m g c) (some done.length)) y = oAt ow y := fun h => oAt_set_ne _ h
  have still : ∀ {y : Nat}, oAt ow y ≠ .none → oAt (ow.setIfInBounds (way m g c) (some done.length)) y ≠ .none := fun {y} hy => by
    rcases Classical.em (y = way m g c) with z | z
    · rw [z, me]; exact fun e => nomatch e
    · rw [other z]; exact hy
  refine ⟨_, e1, by rw [Array.size_setIfInBounds]; exact W.sz, fun y n hy e => ?_, fun n hn => ?_, way m g c :: us, by simp [u1], fun y hy e => ?_⟩
  · rcases Classical.em (y = way m g c) with z | z
    · rw [z, me] at e
      cases e
      exact ⟨g, c, by simp, z.symm, fun d hd => still (e3 d hd)⟩
    · rw [other z] at e
      obtain ⟨g', c', a1, a2, a3⟩ := W.whose y n hy e
      refine ⟨g', c', ?_, a2, fun d hd => still (a3 d hd)⟩
      rw [List.getElem?_append_left (List.getElem?_eq_some_iff.mp a1).1, a1]
  · rcases Nat.lt_or_ge n done.length with z | z
    · obtain ⟨y, hy, e⟩ := W.each n z
      refine ⟨y, hy, (other fun q => ?_).trans e⟩
      rw [q, e2] at e
      cases e
    · have : n = done.length := by
        rw [List.length_append, List.length_singleton] at hn
        omega
      rw [this]
      exact ⟨_, way_in g c, me⟩
  · rcases Classical.em (y = way m g c) with z | z
    · rw [z]; exact List.mem_cons_self
    · rw [other z] at e
      exact List.mem_cons_of_mem _ (u2 y hy e)
theorem lay_fold {m : Nat} (hm : Mk2 m) : ∀ (todo done : List Int) (ow : Array (Option Nat)), Ows m done ow → done.length + todo.length ≤ m →
    ∃ ow', todo.foldl (stepF m) (some (ow, done.length)) = some (ow', (done ++ todo).length) ∧ Ows m (done ++ todo) ow'
  | [], done, ow, W, _ => ⟨ow, by simp, by simpa using W⟩
  | g :: todo, done, ow, W, few => by
    rw [List.length_cons] at few
    obtain ⟨y, e, W1⟩ := W.next hm (by omega) g
    have l1 : (done ++ [g]).length = done.length + 1 := by simp
    obtain ⟨ow', f, W2⟩ := lay_fold hm todo (done ++ [g]) _ W1 (by omega)
    rw [List.append_assoc, List.singleton_append] at f W2
    rw [l1] at f
    refine ⟨ow', ?_, W2⟩
    rw [List.foldl_cons, stepF_some e, f]
theorem lay_ok {m : Nat} (hm : Mk2 m) {hs : Array Int} (few : hs.size ≤ m) : ∃ ow, SetTable.layClean m hs = some ow ∧ Ows m hs.toList ow := by
  obtain ⟨ow, f, W⟩ := lay_fold hm hs.toList [] _ (Ows.none m) (by simpa using few)
  refine ⟨ow, ?_, by simpa using W⟩
  rw [layClean_eq]
  exact congrArg (Option.map _) f
theorem relay_ok (t : SetTable) {hs : Array Int} {big M : Nat} (hb : SetTable.sizeAbove big - 1 = M) (hM : Mk2 M) (few : hs.size ≤ M) :
    ∃ t' ord, t.relaid hs big = some (t', ord) ∧ ord.toList.Perm (List.range hs.size) ∧ Tb t' (ord.toList.map fun i => hs.getD i 0) ∧ t'.mask = M := by
  obtain ⟨ow, e, W⟩ := lay_ok hM few
  obtain ⟨r1, r2⟩ := ris_live (fun y => ow.getD y none) (List.range (M + 1)) (by unfold Ris; exact List.pairwise_lt_range)
  have r1 : Ris ((liveOf M ow).map (·.1)) := r1
  have r2 : ∀ y ∈ (liveOf M ow).map (·.1), y ∈ List.range (M + 1) := r2
  have count : (liveOf M ow).length = hs.size := by
    obtain ⟨us, u1, u2⟩ := W.used
    have nd : ((liveOf M ow).map (·.1)).Nodup := List.Pairwise.imp (fun h => Nat.ne_of_lt h) r1
    have a := nat_nodup_len ((liveOf M ow).map (·.1)) us nd fun y hy => by
      obtain ⟨⟨y', n⟩, hq, rfl⟩ := List.mem_map.mp hy
      obtain ⟨b1, b2⟩ := (mem_live W.sz).1 hq
      exact u2 _ b1 (by rw [b2]; exact fun z => nomatch z)
    have b := nat_nodup_len (List.range hs.size) ((liveOf M ow).map (·.2)) List.nodup_range fun n hn => by
      obtain ⟨y, b1, b2⟩ := W.each n (by simpa using hn)
      exact List.mem_map.mpr ⟨(y, n), (mem_live W.sz).2 ⟨b1, b2⟩, rfl⟩
    simp only [List.length_map, List.length_range, Array.length_toList] at a b u1
    omega
  refine ⟨tabOf t M ow, ((liveOf M ow).map (·.2)).toArray, by rw [relaid_eq, hb, e]; rfl, ?_, ⟨r1, rfl, ?_, hM, fun y hy => Nat.le_of_lt_succ (List.mem_range.mp (r2 y hy)), fun i g y h1 h2 => ?_⟩, rfl⟩
  · refine perm_range hs.size _ (by simpa using count) fun n hn => ?_
    obtain ⟨y, b1, b2⟩ := W.each n (by simpa using hn)
    exact List.mem_map.mpr ⟨(y, n), (mem_live W.sz).2 ⟨b1, b2⟩, rfl⟩
  · show ((liveOf M ow).map (·.1)).toArray.size = _
    simp
  · have h2 : ((liveOf M ow).map (·.1))[i]? = some y := h2
    have h1 : (((liveOf M ow).map (·.2)).map fun i => hs.getD i 0)[i]? = some g := h1
    rw [List.getElem?_map] at h2
    rw [List.getElem?_map, List.getElem?_map] at h1
    obtain ⟨⟨y', n⟩, hq, rfl⟩ := Option.map_eq_some_iff.mp h2
    rw [hq] at h1
    have h1 : hs.getD n 0 = g := Option.some.inj h1
    obtain ⟨b1, b2⟩ := (mem_live W.sz).1 (List.mem_of_getElem? hq)
    obtain ⟨g', c, a1, a2, a3⟩ := W.whose _ n b1 b2
    have : g' = g := by
      rw [← h1, Array.getD_eq_getD_getElem?, ← Array.getElem?_toList, a1]
      rfl
    subst this
    refine ⟨c, a2, fun d hd => ?_⟩
    show way M g' d ∈ (liveOf M ow).map (·.1)
    obtain ⟨n2, z⟩ := Option.ne_none_iff_exists'.mp (a3 d hd)
    exact List.mem_map.mpr ⟨(way M g' d, n2), (mem_live W.sz).2 ⟨way_in g' d, z⟩, rfl⟩
/-- the next power of two -/
theorem above_go : ∀ (f e n : Nat), n < 2 ^ (e + f) → 3 ≤ e → ∃ e', e ≤ e' ∧ e' ≤ e + f ∧ SetTable.sizeAbove.go n (f + 1) (2 ^ e) = 2 ^ e' ∧ n < 2 ^ e'
  | f, e, n, h, h3 => by
    unfold SetTable.sizeAbove.go
    by_cases c : 2 ^ e ≤ n
    · rw [if_pos c]
      cases f with
      | zero => exact absurd h (by rw [Nat.add_zero]; omega)
      | succ f =>
        obtain ⟨e', a1, a2, a3, a4⟩ := above_go f (e + 1) n (by rw [show e + 1 + f = e + (f + 1) by omega]; exact h) (by omega)
        exact ⟨e', by omega, by omega, a3, a4⟩
    · rw [if_neg c]
      exact ⟨e, Nat.le_refl _, Nat.le_add_right _ _, rfl, by omega⟩
theorem above_go_more : ∀ (f k n s : Nat), n < SetTable.sizeAbove.go n f s → SetTable.sizeAbove.go n (f + k) s = SetTable.sizeAbove.go n f s
  | 0, k, n, s, h => by
    have h : n < s := h
    cases k with
    | zero => rfl
    | succ k =>
      show (if s ≤ n then _ else s) = s
      rw [if_neg (by omega)]
  | f + 1, k, n, s, h => by
    have e : f + 1 + k = (f + k) + 1 := by omega
    rw [e]
    unfold SetTable.sizeAbove.go
    unfold SetTable.sizeAbove.go at h
    by_cases c : s ≤ n
    · rw [if_pos c, if_pos c]
      rw [if_pos c] at h
      exact above_go_more f k n (s * 2) h
    · rw [if_neg c, if_neg c]
theorem above_ok {n : Nat} (h : n < 4096) : ∃ e, 3 ≤ e ∧ e ≤ 12 ∧ SetTable.sizeAbove n = 2 ^ e ∧ n < 2 ^ e := by
  obtain ⟨e, a1, a2, a3, a4⟩ := above_go 9 3 n h (Nat.le_refl _)
  refine ⟨e, a1, a2, ?_, a4⟩
  show SetTable.sizeAbove.go n (10 + 54) 8 = 2 ^ e
  have a3 : SetTable.sizeAbove.go n 10 8 = 2 ^ e := a3
  rw [above_go_more 10 54 n 8 (by rw [a3]; exact a4), a3]
end NS
/-! N3: sets whose members are nested tuples: the search, add, in, over the library's heap. -/
namespace NS
open PySem PySem.Spec PyProof.Rows L2
section
variable {P : Program} {w : World} {A : Around} {E : Value → Shared → Prop} {s : Shared}

/-! ### what the search asks of nested tuples -/
def NoCls (P : Program) (w : World) (n : Nat) (s : Shared) (v : Value) : Prop :=
  ∀ (A : Around) (E : Value → Shared → Prop) (Q : Bool → Shared → Prop), Q false s → wpAny (model P w) A (ofAClassStatement n v) Q E s
theorem NoCls.tup {n : Nat} {b : Addr} {o : Obj} {vs : Array Value} {m : Nat} (ho : s.heap.get? b = some o) (hc : o.cls = .type "tuple") (hd : o.data = .seq vs m)
    (all : ∀ v ∈ vs.toList, NoCls P w n s v) : NoCls P w (n + 1) s (.ref b) := fun A E Q q => by
  have hT : s.TypeIs (.ref b) "tuple" := ⟨o, ho, hc⟩
  unfold ofAClassStatement
  refine wpAny_bind (wpAny_typeOf hT ?_)
  have e : (("tuple" : String) == "tuple") = true := by decide
  simp only [e, if_true]
  refine wpAny_bind (wpAny_pure ?_)
  simp only [Bool.not_true, Bool.false_eq_true, if_false]
  show wpAny _ _ (seqItems? (.ref b) >>= _) _ _ s
  refine wpAny_bind (wpAny_seqItems ho hd ?_)
  refine wpAny_bind ?_
  show wpAny _ _ (forIn vs _ _) _ _ s
  rw [← Array.forIn_toList]
  refine wpAny_forIn_list _ (fun left r s' => r.1 = none ∧ s' = s ∧ ∀ v ∈ left, NoCls P w n s v) _ ?_ ?_ _ _ ⟨rfl, rfl, all⟩
  · rintro v left r s' ⟨hr, rfl, h⟩
    refine wpAny_bind (h v (by simp) _ _ _ ?_)
    simp only [Bool.false_eq_true, if_false]
    exact wpAny_pure ⟨rfl, rfl, fun u hu => h u (List.mem_cons_of_mem _ hu)⟩
  · rintro ⟨r1, r2⟩ s' ⟨hr, rfl, _⟩
    cases hr
    exact wpAny_pure q
mutual
theorem noCls_key : ∀ (k : NestedKey) (v : Value) (n : Nat) (s : Shared), NestedIs s.heap k v → k.depth ≤ n → NoCls P w n s v
  | .none, _, n, s, x, _ => by
    cases x
    intro A E Q q
    have e : ofAClassStatement n .none = pure false := by cases n <;> rfl
    rw [e]; exact wpAny_pure q
  | .num i, _, n, s, x, _ => by
    cases x with
    | bool _ =>
      intro A E Q q
      rename_i b _
      have e : ofAClassStatement n (.bool b) = pure false := by cases n <;> rfl
      rw [e]; exact wpAny_pure q
    | int _ t =>
      intro A E Q q
      have e : ofAClassStatement n (.int i t) = pure false := by cases n <;> rfl
      rw [e]; exact wpAny_pure q
  | .text y, _, n, s, x, _ => by
    cases x with
    | text _ t =>
      intro A E Q q
      have e : ofAClassStatement n (.str y t) = pure false := by cases n <;> rfl
      rw [e]; exact wpAny_pure q
  | .tup ks, _, n, s, x, hn => by
    cases x with
    | tup hg hc hd hk =>
      simp only [NestedKey.depth] at hn
      cases n with
      | zero => omega
      | succ n => exact .tup hg hc hd (noCls_keys ks _ n s hk (by omega))
theorem noCls_keys : ∀ (ks : List NestedKey) (vs : List Value) (n : Nat) (s : Shared), NestedAll s.heap ks vs → NestedKey.depthAll ks ≤ n → ∀ v ∈ vs, NoCls P w n s v
  | [], _, n, s, x, _, v, hv => by cases x; cases hv
  | k :: ks, _, n, s, x, hn, v, hv => by
    cases x with
    | cons x1 x2 =>
      simp only [NestedKey.depthAll] at hn
      rcases List.mem_cons.mp hv with e | hv
      · rw [e]; exact noCls_key k _ n s x1 (by omega)
      · exact noCls_keys ks _ n s x2 (by omega) v hv
end
/-- hashed by value or not: some answer, nothing else -/
def HashBy (P : Program) (w : World) (n : Nat) (s : Shared) (v : Value) : Prop :=
  ∀ (A : Around) (E : Value → Shared → Prop) (Q : Bool → Shared → Prop), (∀ b, Q b s) → wpAny (model P w) A (hashByValue n v) Q E s
theorem HashBy.tup {n : Nat} {b : Addr} {o : Obj} {vs : Array Value} {m : Nat} (ho : s.heap.get? b = some o) (hc : o.cls = .type "tuple") (hd : o.data = .seq vs m)
    (all : ∀ v ∈ vs.toList, HashBy P w n s v) : HashBy P w (n + 1) s (.ref b) := fun A E Q q => by
  have hT : s.TypeIs (.ref b) "tuple" := ⟨o, ho, hc⟩
  unfold hashByValue
  refine wpAny_bind (wpAny_specialOf hT F.slot_tuple_hash.lookup ?_)
  show wpAny _ _ (seqItems? (.ref b) >>= _) _ _ s
  refine wpAny_bind (wpAny_seqItems ho hd ?_)
  refine wpAny_bind ?_
  show wpAny _ _ (forIn vs _ _) _ _ s
  rw [← Array.forIn_toList]
  refine wpAny_forIn_list _ (fun left r s' => r.1 = none ∧ s' = s ∧ ∀ v ∈ left, HashBy P w n s v) _ ?_ ?_ _ _ ⟨rfl, rfl, all⟩
  · rintro v left r s' ⟨hr, rfl, h⟩
    refine wpAny_bind (h v (by simp) _ _ _ fun b => ?_)
    have rest : ∀ u ∈ left, HashBy P w n s' u := fun u hu => h u (List.mem_cons_of_mem _ hu)
    cases b with
    | true =>
      simp only [Bool.not_true, Bool.false_eq_true, if_false]
      exact wpAny_pure ⟨rfl, rfl, rest⟩
    | false =>
      simp only [Bool.not_false, if_true]
      refine wpAny_pure ?_
      exact wpAny_pure (q false)
  · rintro ⟨r1, r2⟩ s' ⟨hr, rfl, _⟩
    cases hr
    exact wpAny_pure (q true)
mutual
theorem hashBy_key : ∀ (k : NestedKey) (v : Value) (n : Nat) (s : Shared), NestedIs s.heap k v → k.depth ≤ n → HashBy P w n s v
  | .none, _, n, s, x, _ => by
    cases x
    intro A E Q q
    have e : hashByValue n .none = pure true := by cases n <;> rfl
    rw [e]; exact wpAny_pure (q _)
  | .num i, _, n, s, x, _ => by
    cases x with
    | bool _ =>
      intro A E Q q
      rename_i b _
      have e : hashByValue n (.bool b) = pure true := by cases n <;> rfl
      rw [e]; exact wpAny_pure (q _)
    | int _ t =>
      intro A E Q q
      have e : hashByValue n (.int i t) = pure true := by cases n <;> rfl
      rw [e]; exact wpAny_pure (q _)
  | .text y, _, n, s, x, _ => by
    cases x with
    | text _ t =>
      intro A E Q q
      have e : hashByValue n (.str y t) = pure false := by cases n <;> rfl
      rw [e]; exact wpAny_pure (q _)
  | .tup ks, _, n, s, x, hn => by
    cases x with
    | tup hg hc hd hk =>
      simp only [NestedKey.depth] at hn
      cases n with
      | zero => omega
      | succ n => exact .tup hg hc hd (hashBy_keys ks _ n s hk (by omega))
theorem hashBy_keys : ∀ (ks : List NestedKey) (vs : List Value) (n : Nat) (s : Shared), NestedAll s.heap ks vs → NestedKey.depthAll ks ≤ n → ∀ v ∈ vs, HashBy P w n s v
  | [], _, n, s, x, _, v, hv => by cases x; cases hv
  | k :: ks, _, n, s, x, hn, v, hv => by
    cases x with
    | cons x1 x2 =>
      simp only [NestedKey.depthAll] at hn
      rcases List.mem_cons.mp hv with e | hv
      · rw [e]; exact hashBy_key k _ n s x1 (by omega)
      · exact hashBy_keys ks _ n s x2 (by omega) v hv
end

/-! ### a set of nested tuples -/
/-- the tuple at b is the key k -/
abbrev Nk (P : Program) (w : World) (h : Heap) (k : NestedKey) (b : Addr) : Prop := (nestedKind P w).is h k b
abbrev nh (P : Program) (w : World) (k : NestedKey) : Int := (nestedKind P w).hash k
theorem unseen {k : NestedKey} {b : Addr} {Q : Bool → Shared → Prop} (hk : Nk P w s.heap k b) {ys : List Value} (hy : ∀ y ∈ ys, ∃ k' c, y = Value.ref c ∧ Nk P w s.heap k' c)
    (q : Q false s) : wpAny (model P w) A (searchCouldBeSeen (.ref b) ys) Q E s := by
  unfold searchCouldBeSeen
  refine wpAny_bind ?_
  refine wpAny_forIn_list _ (fun left r s' => r.1 = none ∧ s' = s ∧ ∀ y ∈ left, ∃ k' c, y = Value.ref c ∧ Nk P w s.heap k' c) _ ?_ ?_ _ _ ⟨rfl, rfl, hy⟩
  · rintro v left r s' ⟨hr, rfl, h⟩
    obtain ⟨k', c, rfl, hc⟩ := h v (by simp)
    have go : ∀ y ∈ left, ∃ k' c, y = Value.ref c ∧ Nk P w s'.heap k' c := fun u hu => h u (List.mem_cons_of_mem _ hu)
    dsimp only
    by_cases hv : (b == c || (carriedByValue (.ref b) && carriedByValue (.ref c))) = true
    · exact wp_if_pos hv (wpAny_pure ⟨rfl, rfl, go⟩)
    · refine wp_if_neg hv ?_
      refine wpAny_bind ((nestedKind P w).quiet hk ?_)
      simp only [Bool.not_true, Bool.false_eq_true, if_false]
      refine wpAny_bind ((nestedKind P w).quiet hc ?_)
      simp only [Bool.not_true, Bool.false_eq_true, if_false]
      refine wpAny_bind (noCls_key k _ 8 _ hk.1 hk.2 _ _ _ ?_)
      simp only [Bool.false_eq_true, if_false]
      refine wpAny_bind (noCls_key k' _ 8 _ hc.1 hc.2 _ _ _ ?_)
      simp only [Bool.false_eq_true, if_false]
      exact wpAny_pure ⟨rfl, rfl, go⟩
  · rintro ⟨r1, r2⟩ s' ⟨hr, rfl, _⟩
    cases hr
    exact wpAny_pure q

def rowsN (P : Program) (w : World) (L : List (Addr × NestedKey)) : List (Int × Value) := L.map fun m => (nh P w m.2, Value.ref m.1)
/-- what is true of the set's own object -/
structure SetN (P : Program) (w : World) (h : Heap) (a : Addr) (L : List (Addr × NestedKey)) (es : Array (Int × Value)) (ep : Nat) (t : SetTable) : Prop where
  ob : ∃ o, h.get? a = some o ∧ o.ExactSet ∧ o.data = .set es ep t
  rws : es.toList = rowsN P w L
  tab : Tb t (L.map fun m => nh P w m.2)
  ndp : (L.map (·.2)).Nodup
  room : L.length * 5 < t.mask * 3
  lim : L.length < 1000
variable {a : Addr} {L : List (Addr × NestedKey)} {es : Array (Int × Value)} {ep : Nat} {t : SetTable}
theorem rowsN_len {L : List (Addr × NestedKey)} {es : Array (Int × Value)} (h : es.toList = rowsN P w L) : es.size = L.length := by
  have q := congrArg List.length h
  simpa [rowsN] using q
theorem SetN.fit (R : SetN P w s.heap a L es ep t) : t.fits es.size = true := by
  have h1 := R.tab.len
  rw [List.length_map] at h1
  have h2 := rowsN_len R.rws
  have h3 := R.room
  unfold SetTable.fits SetTable.fill
  rw [R.tab.nodum, Bool.and_eq_true, beq_iff_eq, decide_eq_true_eq]
  show t.place.size = es.size ∧ t.place.size + 0 ≤ t.mask
  omega
theorem SetN.row (R : SetN P w s.heap a L es ep t) {i : Nat} {m : Addr × NestedKey} (h : L[i]? = some m) : es[i]? = some (nh P w m.2, Value.ref m.1) := by
  rw [← Array.getElem?_toList, R.rws]
  unfold rowsN
  rw [List.getElem?_map, h]
  rfl
theorem SetN.kept (R : SetN P w s.heap a L es ep t) : ¬ t.gaveWay = true := by
  unfold SetTable.gaveWay
  rw [(R.tab.msk.big).2.2]
  decide

/-- the search from the c-th step of the way on -/
theorem seek_from (R : SetN P w s.heap a L es ep t) (own : ∀ m ∈ L, Nk P w s.heap m.2 m.1) {adding : Bool} {x : Addr} {k : NestedKey} (hx : Nk P w s.heap k x) (hu : A.units + 8 < cLine) {C : Nat} (hC : C < 10 * SetTable.turns t.mask)
    (no : way t.mask (nh P w k) C ∉ t.place.toList) (yes : ∀ c, c < C → way t.mask (nh P w k) c ∈ t.place.toList) {Q : SetFound → Shared → Prop}
    (hin : k ∈ L.map (·.2) → ∀ r : Option Nat, (adding = false → r.isSome = true) → Q (.there r) s) (hout : k ∉ L.map (·.2) → Q (.free (way t.mask (nh P w k) C) false) s) :
    ∀ (f c : Nat) (at_ : Option SetTable.Probe), at_.getD (t.probeStart (nh P w k)) = nth t.mask (runAt t.mask (SetTable.bits (nh P w k) % (t.mask + 1)) (SetTable.bits (nh P w k))) c → c ≤ C → C - c < f →
      (∀ (i : Nat) m, L[i]? = some m → m.2 = k → ∃ c', c ≤ c' ∧ c' < C ∧ t.place.toList[i]? = some (way t.mask (nh P w k) c')) →
      wpAny (model P w) A (setSearchFrom a (.ref x) (nh P w k) adding f at_) Q E s
  | 0, _, _, _, _, hf, _ => absurd hf (Nat.not_lt_zero _)
  | f + 1, c, at_, e0, hc, hf, ahead => by
    obtain ⟨o, ho, hex, hd⟩ := R.ob
    generalize hP0 : runAt t.mask (SetTable.bits (nh P w k) % (t.mask + 1)) (SetTable.bits (nh P w k)) = p0 at e0
    have wy : ∀ q, (nth t.mask (nth t.mask p0 c) q).j = way t.mask (nh P w k) (c + q) := fun q => by
      rw [← nth_add, ← hP0]
    have nodummy : ∀ (n : Nat) (p : SetTable.Probe), p.dummy = none → (nth t.mask p n).dummy = none := by
      intro n
      induction n with
      | zero => exact fun p h => h
      | succ n ih =>
        intro p h
        refine ih (adv t.mask p) ?_
        unfold adv
        split <;> exact h
    have hash0 : ∀ (i : Nat) m, L[i]? = some m → (es[i]?.map (·.1)).getD 0 = nh P w m.2 := fun i m hm => by
      rw [R.row hm]; rfl
    rw [setSearchFrom_succ]
    refine wpAny_bind (wpAny_setState_of ho hd R.fit ?_)
    refine wp_if_neg R.kept ?_
    refine wpAny_bind (wpAny_pure ?_)
    rcases go_spec t R.tab.up R.tab.nodum (fun i => (es[i]?.map (·.1)).getD 0) (nh P w k) (10 * SetTable.turns t.mask) (C - c) (nth t.mask p0 c) (nodummy c p0 (by rw [← hP0]; rfl)) (by omega)
      (fun q hq => by rw [wy]; exact yes _ (by omega)) (by rw [wy, show c + (C - c) = C by omega]; exact no) with ⟨q, i, hq, hi, hh, before, pr⟩ | ⟨before, pr⟩
    · have pr : t.probe (fun i => (es[i]?.map (·.1)).getD 0) (nh P w k) (at_.getD (t.probeStart (nh P w k))) = some (.candidate (nth t.mask (nth t.mask p0 c) q).j i (nth t.mask (nth t.mask p0 c) (q + 1))) := by
        rw [e0]; exact pr
      rw [pr]
      dsimp only
      rw [wy] at hi ⊢
      have hil : i < L.length := by
        have h1 := (List.getElem?_eq_some_iff.mp hi).1
        rw [R.tab.len', List.length_map] at h1
        exact h1
      obtain ⟨m, hm⟩ : ∃ m, L[i]? = some m := ⟨_, List.getElem?_eq_getElem hil⟩
      have hmem : m ∈ L := List.mem_of_getElem? hm
      have live : t.slot (way t.mask (nh P w k) (c + q)) = .live i := slot_live R.tab.up hi
      have rest : wpAny (model P w) A (searchRest a (.ref x) (nh P w k) adding f es t (way t.mask (nh P w k) (c + q)) i (nth t.mask (nth t.mask p0 c) (q + 1))) Q E s := by
        unfold searchRest
        rw [R.row hm]
        dsimp only
        refine wpAny_bind (wpAny_holding ((nestedKind P w).eqBool hu (own m hmem) hx ?_))
        refine wpAny_bind (wpAny_setState_of ho hd R.fit ?_)
        dsimp only
        have goOn : m.2 ≠ k → wpAny (model P w) A (setSearchFrom a (.ref x) (nh P w k) adding f (some (nth t.mask (nth t.mask p0 c) (q + 1)))) Q E s := fun ne => by
          refine seek_from R own hx hu hC no yes hin hout f (c + (q + 1)) _ (by rw [hP0]; exact (nth_add t.mask c p0 (q + 1)).symm) (by omega) (by omega) fun i2 m2 h2 k2 => ?_
          obtain ⟨c', a1, a2, a3⟩ := ahead i2 m2 h2 k2
          refine ⟨c', ?_, a2, a3⟩
          rcases Nat.lt_trichotomy c' (c + q) with z | z | z
          · exact absurd ((hash0 i2 m2 h2).trans (congrArg _ k2)) (before (c' - c) i2 (by omega) (by rw [wy, show c + (c' - c) = c' by omega]; exact a3))
          · exfalso
            rw [z] at a3
            have l2 := slot_live R.tab.up a3
            rw [live] at l2
            cases l2
            rw [hm] at h2
            cases h2
            exact ne k2
          · omega
        by_cases hk : m.2 = k
        · have there : k ∈ L.map (·.2) := List.mem_map.mpr ⟨m, hmem, hk⟩
          cases adding with
          | true =>
            refine wp_if_pos (by simp [hk]) (wpAny_pure (hin there none fun e => nomatch e))
          | false =>
            refine wp_if_neg (by simp) ?_
            refine wpAny_bind (wpAny_pure ?_)
            rw [sameMem]
            dsimp only
            simp only [if_true, live, R.row hm]
            refine wpAny_bind (wpAny_isSame_ref_self (wpAny_bind (wpAny_pure ?_)))
            simp only [if_true]
            refine wp_if_pos (by simp [hk]) (wpAny_pure (hin there (some i) fun _ => rfl))
        · refine wp_if_neg (by simp [hk]) ?_
          refine wpAny_bind (wpAny_pure ?_)
          rw [sameMem]
          dsimp only
          simp only [if_true, live, R.row hm]
          refine wpAny_bind (wpAny_isSame_ref_self (wpAny_bind (wpAny_pure ?_)))
          simp only [if_true]
          exact wp_if_neg (by simp [hk]) (goOn hk)
      by_cases hl : t.led = true
      · refine wp_if_neg (by simp [hl]) ?_
        exact wpAny_bind (wpAny_pure rest)
      · refine wp_if_pos (by simp [hl]) ?_
        refine wpAny_bind (unseen hx (fun y hy => ?_) ?_)
        · obtain ⟨e, he, rfl⟩ := List.mem_map.mp hy
          have he1 : e ∈ es.toList := by
            have z : e ∈ es ∧ e.1 = nh P w k := by simpa using he
            simpa using z.1
          rw [R.rws] at he1
          obtain ⟨m2, hm2, rfl⟩ := List.mem_map.mp he1
          exact ⟨m2.2, m2.1, rfl, own m2 hm2⟩
        · refine wp_if_neg (by decide) ?_
          exact wpAny_bind (wpAny_pure rest)
    · have pr : t.probe (fun i => (es[i]?.map (·.1)).getD 0) (nh P w k) (at_.getD (t.probeStart (nh P w k))) = some (.empty (nth t.mask (nth t.mask p0 c) (C - c)).j none) := by
        rw [e0]; exact pr
      rw [pr]
      dsimp only
      rw [wy, show c + (C - c) = C by omega]
      refine wpAny_pure (hout fun hm => ?_)
      obtain ⟨m, h1, h2⟩ := List.mem_map.mp hm
      obtain ⟨i, hi, e⟩ := List.getElem_of_mem h1
      have h3 : L[i]? = some m := by rw [List.getElem?_eq_getElem hi, e]
      obtain ⟨c', a1, a2, a3⟩ := ahead i m h3 h2
      exact before (c' - c) i (by omega) (by rw [wy, show c + (c' - c) = c' by omega]; exact a3) ((hash0 i m h3).trans (congrArg _ h2))
theorem seek (R : SetN P w s.heap a L es ep t) (own : ∀ m ∈ L, Nk P w s.heap m.2 m.1) {adding : Bool} {x : Addr} {k : NestedKey} (hx : Nk P w s.heap k x) (hu : A.units + 8 < cLine) {Q : SetFound → Shared → Prop}
    (hin : k ∈ L.map (·.2) → ∀ r : Option Nat, (adding = false → r.isSome = true) → Q (.there r) s)
    (hout : ∀ C, k ∉ L.map (·.2) → way t.mask (nh P w k) C ∉ t.place.toList → (∀ c, c < C → way t.mask (nh P w k) c ∈ t.place.toList) → Q (.free (way t.mask (nh P w k) C) false) s) :
    wpAny (model P w) A (setSearch a (.ref x) (nh P w k) adding) Q E s := by
  obtain ⟨b1, b2, _⟩ := R.tab.msk.big
  have rm := R.room
  obtain ⟨C, c1, c2, c3⟩ := R.tab.gap (by rw [List.length_map]; omega) (nh P w k)
  unfold SetTable.turns at c1
  refine seek_from R own hx hu (by unfold SetTable.turns; exact c1) c2 c3 hin (fun n => hout C n c2 c3) 100000 0 none rfl (Nat.zero_le _) (by omega) fun i m hm hk => ?_
  have h1 : (L.map fun m => nh P w m.2)[i]? = some (nh P w k) := by rw [List.getElem?_map, hm, ← hk]; rfl
  have h2 : i < t.place.toList.length := by
    rw [R.tab.len', List.length_map]
    exact (List.getElem?_eq_some_iff.mp hm).1
  have h3 := List.getElem?_eq_getElem h2
  obtain ⟨d, d1, d2⟩ := R.tab.ahead c2 h1 h3
  exact ⟨d, Nat.zero_le _, d1, by rw [h3, d2]⟩
/-- is it in -/
theorem find_key (R : SetN P w s.heap a L es ep t) (own : ∀ m ∈ L, Nk P w s.heap m.2 m.1) {x : Addr} {k : NestedKey} (hx : Nk P w s.heap k x) (hu : A.units + 8 < cLine) {Q : Option Nat → Shared → Prop}
    (h : ∀ r : Option Nat, r.isSome = decide (k ∈ L.map (·.2)) → Q r s) : wpAny (model P w) A (setFind a (.ref x) (nh P w k)) Q E s := by
  obtain ⟨o, ho, hex, hd⟩ := R.ob
  unfold setFind setFindIn
  refine wpAny_bind (wpAny_setState_of ho hd R.fit ?_)
  refine wp_if_neg (by simp [byScan, Value.scannable]) ?_
  refine wpAny_bind (seek R own hx hu (fun there r hr => ?_) fun C no _ _ => ?_)
  · exact wpAny_pure (h r (by rw [hr rfl]; simpa using there))
  · exact wpAny_pure (h none (by simpa using no))
end
end NS
/-! N4: a nested tuple is put into a set. -/
namespace NS
open PySem PySem.Spec PyProof.Rows L2
section
variable {P : Program} {w : World} {A : Around} {E : Value → Shared → Prop} {s : Shared}
theorem nk_but {h h' : Heap} {k : NestedKey} {a b : Addr} {o : Obj} {es : Array (Int × Value)} {ep : Nat} {t : SetTable} (hb : Nk P w h k b) (ho : h.get? a = some o) (hd : o.data = .set es ep t) (hs : Heap.SameBut a h h') : Nk P w h' k b :=
  ⟨NestedIs.at (fun c oc vs n hc hv => by
    refine (hs.2 c fun e => ?_).trans hc
    subst e
    rw [ho] at hc
    cases hc
    rw [hd] at hv
    cases hv) k _ hb.1, hb.2⟩
theorem perm_put {α : Type} (L : List α) (p : Nat) (x : α) : (L.take p ++ x :: L.drop p).Perm (x :: L) := by
  have h : (L.take p ++ x :: L.drop p).Perm (x :: (L.take p ++ L.drop p)) := List.perm_middle
  rwa [List.take_append_drop] at h
theorem ord_rows (L : List (Addr × NestedKey)) (es : Array (Int × Value)) (ord : Array Nat) (hr : es.toList = rowsN P w L) (hp : ord.toList.Perm (List.range L.length)) :
    ∃ L2, (ord.filterMap (es[·]?)).toList = rowsN P w L2 ∧ L2.Perm L ∧ (L2.map fun m => nh P w m.2) = ord.toList.map fun i => (es.map (·.1)).getD i 0 := by
  have ent : ∀ (i : Nat) (m : Addr × NestedKey), L[i]? = some m → es[i]? = some (nh P w m.2, Value.ref m.1) := fun i m h => by
    rw [← Array.getElem?_toList, hr, rowsN, List.getElem?_map, h]; rfl
  have go : ∀ l : List Nat, (∀ i ∈ l, i < L.length) → l.filterMap (fun i => es[i]?) = rowsN P w (l.filterMap (fun i => L[i]?)) ∧
      ((l.filterMap (fun i => L[i]?)).map fun m => nh P w m.2) = l.map fun i => (es.map (·.1)).getD i 0 := by
    intro l
    induction l with
    | nil => exact fun _ => ⟨rfl, rfl⟩
    | cons i l ih =>
      intro hl
      obtain ⟨m, hm⟩ : ∃ m, L[i]? = some m := ⟨_, List.getElem?_eq_getElem (hl i (by simp))⟩
      obtain ⟨e1, e2⟩ := ih fun j hj => hl j (List.mem_cons_of_mem _ hj)
      have e3 : (es.map (·.1)).getD i 0 = nh P w m.2 := by
        have : (es.map (·.1))[i]? = some (nh P w m.2) := by rw [Array.getElem?_map, ent i m hm]; rfl
        simp [Array.getD_eq_getD_getElem?, this]
      rw [List.filterMap_cons_some (ent i m hm), List.filterMap_cons_some hm, e1, List.map_cons, List.map_cons, e2, e3]
      exact ⟨rfl, rfl⟩
  obtain ⟨e1, e2⟩ := go ord.toList fun i hi => List.mem_range.mp (hp.mem_iff.mp hi)
  refine ⟨_, by rw [Array.toList_filterMap]; exact e1, ?_, e2⟩
  have all : ∀ l : List (Addr × NestedKey), (List.range l.length).filterMap (fun i => l[i]?) = l := PySem.List.filterMap_getElem?_range_length
  have := hp.filterMap fun i => L[i]?
  rwa [all L] at this

variable {a : Addr} {L : List (Addr × NestedKey)} {es : Array (Int × Value)} {ep : Nat} {t : SetTable}
theorem relay_to {o : Obj} (ho : s.heap.get? a = some o) (hex : o.ExactSet) (hd : o.data = .set es ep t) (rws : es.toList = rowsN P w L) (sz : t.place.size = es.size) (dm : t.dummies = #[]) (fl : es.size ≤ t.mask)
    (ndp : (L.map (·.2)).Nodup) (lim : L.length < 1000) {Q : Unit → Shared → Prop}
    (hQ : ∀ h' L' es' ep' t', Heap.SameBut a s.heap h' → SetN P w h' a L' es' ep' t' → L'.Perm L → Q () { s with heap := h' }) :
    wpAny (model P w) A (setRelay a (SetTable.grown L.length)) Q E s := by
  have hsl := rowsN_len rws
  have hfit : t.fits es.size = true := by
    unfold SetTable.fits SetTable.fill
    rw [dm, Bool.and_eq_true, beq_iff_eq, decide_eq_true_eq]
    show t.place.size = es.size ∧ t.place.size + 0 ≤ t.mask
    omega
  have gr : SetTable.grown L.length = L.length * 4 := by
    unfold SetTable.grown
    rw [if_neg (by omega)]
  obtain ⟨e, e1, e2, e3, e4⟩ := above_ok (n := SetTable.grown L.length) (by omega)
  have p1 : 0 < 2 ^ e := Nat.pow_pos (by decide)
  have p2 : 2 ^ e ≤ 2 ^ 12 := Nat.pow_le_pow_right (by decide) e2
  have p3 : 2 ^ 3 ≤ 2 ^ e := Nat.pow_le_pow_right (by decide) e1
  obtain ⟨t', ord, r1, r2, r3, r4⟩ := relay_ok t (hs := es.map (·.1)) (big := SetTable.grown L.length) (M := 2 ^ e - 1) (by rw [e3]) ⟨e, e1, e2, by omega⟩ (by rw [Array.size_map, hsl]; omega)
  rw [Array.size_map, hsl] at r2
  obtain ⟨L2, q1, q2, q3⟩ := ord_rows L es ord rws r2
  rw [← q3] at r3
  have hs2 : (ord.filterMap (es[·]?)).size = es.size := by
    rw [rowsN_len q1, q2.length_eq, hsl]
  rw [setRelay_eq]
  refine wpAny_bind (wpAny_setState_of ho hd hfit ?_)
  refine wp_if_neg (by rw [e3, sizeLine_eq]; omega) ?_
  rw [r1]
  dsimp only
  refine wpAny_bind ?_
  refine wp_if_neg (by rw [hs2]; simp) ?_
  refine wpAny_pure ?_
  have sb : Heap.SameBut a s.heap (s.heap.update a (Obj.putSet (ord.filterMap (es[·]?)) t')) := Heap.SameBut.update ..
  refine wpAny_storeSet_of ho hd (hQ _ L2 (ord.filterMap (es[·]?)) (ep + 1) t' sb ⟨⟨_, store_at ho hd, ⟨hex.1, hex.2.1, hex.2.2⟩, rfl⟩, q1, r3, (q2.map (·.2)).nodup_iff.mpr ndp, ?_, by rw [q2.length_eq]; exact lim⟩ q2) (by rw [hs2, hsl, sizeLine_eq]; omega)
  rw [q2.length_eq, r4]
  omega
theorem add_key (R : SetN P w s.heap a L es ep t) (own : ∀ m ∈ L, Nk P w s.heap m.2 m.1) {x : Addr} {k : NestedKey} (hx : Nk P w s.heap k x) (hu : A.units + 8 < cLine) (few : L.length + 1 < 1000) {Q : Bool → Shared → Prop}
    (hQ : ∀ b h' L' es' ep' t', Heap.SameBut a s.heap h' → SetN P w h' a L' es' ep' t' → (k ∈ L.map (·.2) → L' = L) → (k ∉ L.map (·.2) → L'.Perm ((x, k) :: L)) → Q b { s with heap := h' }) :
    wpAny (model P w) A (setAddHashed a (.ref x) (nh P w k)) Q E s := by
  obtain ⟨o, ho, hex, hd⟩ := R.ob
  have hsl := rowsN_len R.rws
  have rm := R.room
  unfold setAddHashed
  refine wpAny_holding ?_
  rw [show (100000 : Nat) = 99999 + 1 from rfl, setAddHashedIn_succ]
  refine wpAny_bind (wpAny_setState_of ho hd R.fit ?_)
  refine wp_if_neg (by simp [byScan, Value.scannable]) ?_
  refine wpAny_bind (seek R own hx hu (fun hm r _ => ?_) fun C hm no yes => ?_)
  · exact wpAny_pure (hQ false s.heap L es ep t (Heap.SameBut.refl a s.heap) R (fun _ => rfl) fun z => absurd hm z)
  · dsimp only
    refine wpAny_bind (wpAny_setState_of ho hd R.fit ?_)
    dsimp only
    generalize hy : way t.mask (nh P w k) C = y at no
    generalize hp : SetTable.below t.place y = p
    obtain ⟨q1, q2, q3⟩ := R.tab.add (by rw [hy]; exact no) yes hy.symm hp.symm
    have q4 : (t.put y).1.mask = t.mask := rfl
    have q5 : (t.put y).2 = p := hp
    rw [List.length_map] at q1 q3
    generalize t.put y = pt at q2 q3 q4 q5 ⊢
    obtain ⟨t1, p'⟩ := pt
    dsimp only at q2 q3 q4 q5 ⊢
    subst q5
    have pm := perm_put L p' (x, k)
    have hin : (SetTable.insertAt es p' (nh P w k, Value.ref x)).toList = rowsN P w (L.take p' ++ (x, k) :: L.drop p') := by
      rw [SetTable.toList_insertAt, R.rws]
      simp [rowsN]
    have hhs : (L.take p' ++ (x, k) :: L.drop p').map (fun m => nh P w m.2) = (L.map fun m => nh P w m.2).take p' ++ nh P w k :: (L.map fun m => nh P w m.2).drop p' := by
      simp
    rw [← hhs] at q2
    have nd1 : ((L.take p' ++ (x, k) :: L.drop p').map (·.2)).Nodup := by
      refine (pm.map (·.2)).nodup_iff.mpr ?_
      rw [List.map_cons]
      exact List.nodup_cons.mpr ⟨hm, R.ndp⟩
    have hlen := pm.length_eq
    rw [List.length_cons] at hlen
    have hes := rowsN_len hin
    generalize SetTable.insertAt es p' (nh P w k, Value.ref x) = es1 at hin hes ⊢
    generalize L.take p' ++ (x, k) :: L.drop p' = L1 at pm hlen q2 nd1 hin hes
    -- whatever 'plain' becomes
    have tail : ∀ t2 : SetTable, t2.place = t1.place → t2.dummies = t1.dummies → t2.mask = t1.mask → wpAny (model P w) A (do
        storeSet a es1 t2
        if (!false && t2.tooFull) = true then setRelay a (SetTable.grown (es.size + 1))
        return true) Q E s := fun t2 z1 z2 z3 => by
      have tb : Tb t2 (L1.map fun m => nh P w m.2) := ⟨by rw [z1]; exact q2.up, by rw [z2]; exact q2.nodum, by rw [z1]; exact q2.len, by rw [z3]; exact q2.msk, by rw [z1, z3]; exact q2.low, by rw [z1, z3]; exact q2.back⟩
      have fl : t2.fill = L.length + 1 := by
        have : t2.fill = t1.fill := by unfold SetTable.fill; rw [z1, z2]
        rw [this, q3]
      refine wpAny_bind (wpAny_storeSet_of ho hd ?_ (by rw [hes, hlen, sizeLine_eq]; omega))
      have sb : Heap.SameBut a s.heap (s.heap.update a (Obj.putSet es1 t2)) := Heap.SameBut.update ..
      have ho1 := store_at (es' := es1) (t' := t2) ho hd
      generalize s.heap.update a (Obj.putSet es1 t2) = h1 at sb ho1 ⊢
      have m2 : t2.mask = t.mask := z3.trans q4
      by_cases hf : t2.tooFull = true
      · refine wp_if_pos (by simp [hf]) ?_
        have sz1 : t2.place.size = es1.size := by
          have h := tb.len
          rw [List.length_map] at h
          rw [h, hes]
        rw [hsl, ← hlen]
        refine wpAny_bind (relay_to (s := { s with heap := h1 }) ho1 ⟨hex.1, hex.2.1, hex.2.2⟩ rfl hin sz1 tb.nodum (by rw [hes, hlen, m2]; have := R.tab.msk.big; omega) nd1 (by omega) fun h2 L2 es2 ep2 t3 sb2 R2 pm2 => ?_)
        exact wpAny_pure (hQ true h2 L2 es2 ep2 t3 (sb.trans sb2) R2 (fun z => absurd z hm) fun _ => pm2.trans pm)
      · refine wp_if_neg (by simp [hf]) ?_
        refine wpAny_bind (wpAny_pure ?_)
        refine wpAny_pure (hQ true h1 L1 es1 (ep + 1) t2 sb ⟨⟨_, ho1, ⟨hex.1, hex.2.1, hex.2.2⟩, rfl⟩, hin, tb, nd1, ?_, by omega⟩ (fun z => absurd z hm) fun _ => pm)
        unfold SetTable.tooFull at hf
        rw [decide_eq_true_eq, fl] at hf
        omega
    have both : ∀ b : Bool, wpAny (model P w) A (do
        storeSet a es1 (if b = true then t1 else { t1 with plain := false })
        if (!false && (if b = true then t1 else { t1 with plain := false }).tooFull) = true then setRelay a (SetTable.grown (es.size + 1))
        return true) Q E s := fun b => by
      cases b with
      | true => exact tail t1 rfl rfl rfl
      | false => exact tail { t1 with plain := false } rfl rfl rfl
    by_cases hpl : t1.plain = true
    · refine wp_if_pos hpl ?_
      exact wpAny_bind (hashBy_key k _ 8 _ hx.1 hx.2 _ _ _ both)
    · refine wp_if_neg hpl ?_
      exact wpAny_bind (wpAny_pure (both true))
end
end NS
set_option maxHeartbeats 1000000
/-! C1: comprehensions of one clause whatever a turn does with its item: the core for sets of texts, dicts with nested keys. -/
namespace NS
open PySem PySem.Spec PyProof.Rows L2 PpSet

/-- the deed of a turn: the block's frame, the object that is made, what is wanted behind, of an exception -/
abbrev Deed := Env → Value → (Shared → Prop) → (Value → Shared → Prop) → Shared → Prop
abbrev Wish (P : Program) (w : World) (A : Around) (env : Env) (R : Result → Shared → Prop) : Value → Shared → Prop := notedBy (model P w) A env fun x s' => R (.error x) s'
/-- the tests of a clause -/
abbrev testsOn (ifs : List Expr) (env : Env) : Sem Bool := forIn ifs true fun c r => if r = true then do let ok ← isTrue c env (eval c env); pure (ForInStep.yield ok) else pure (ForInStep.yield r)
/-- the loop at level lvl of the comprehension e goes by turns of the deed -/
def Loops (P : Program) (w : World) (A : Around) (e tg : Expr) (ifs : List Expr) (act : Deed) (lvl : Nat) (fit : Env → Prop) : Prop :=
  ∀ (R : Result → Shared → Prop) (env : Env) (it : Value) (D : Addr) (J : Nat → Shared → Prop), fit env →
    (∀ n s, J n s → wpAny (model P w) A (pyNext it) (fun r s1 => match r with
      | none => R (.ok .next) s1
      | some v => wpAny (model P w) A (letOwnedTupleGo tg it v) (fun _ s2 => wpAny (model P w) A (assign tg env v) (fun _ s3 => wpAny (model P w) A (testsOn ifs env) (fun b s4 =>
          if b = true then act env (.ref D) (fun s' => ∃ m, m < n ∧ J m s') (Wish P w A env R) s4 else ∃ m, m < n ∧ J m s4)
          (Wish P w A env R) s3) (Wish P w A env R) s2) (Wish P w A env R) s1) (Wish P w A env R) s) →
    ∀ n s, J n s → codeAny (model P w) A (.compLoop e lvl it (.ref D) env) R s
def Starts (P : Program) (w : World) (A : Around) (e : Expr) (lvl : Nat) : Prop :=
  ∀ (R : Result → Shared → Prop) (env : Env) (it acc : Value) (s : Shared), codeAny (model P w) A (.compLoop e lvl it acc env) R s →
    wpAny (model P w) A (pyIter it) (fun it' s' => codeAny (model P w) A (.compLoop e lvl it' acc env) R s') (Wish P w A env R) s → codeAny (model P w) A (.compStart e lvl it acc env) R s
/-- the object that the comprehension makes -/
structure Makes (P : Program) (w : World) (new : Sem Value) (ob : Obj) (o0 : Addr → HO) : Prop where
  run : ∀ (A : Around) (E : Value → Shared → Prop) (s : Shared) (Q : Value → Shared → Prop), Q (.ref s.heap.objs.size) { s with heap := s.heap.push ob } → wpAny (model P w) A new Q E s
  ok : ∀ (H : Hp) (h : Heap), sysModules < h.objs.size → ObjOk P w H (h.push ob) h.objs.size (o0 h.objs.size)
/-- the block's frame -/
abbrev blkEnv (X : Cx) (scope : Scope) (s : Shared) : Env := compEnvC scope (cellsFrom (s.heap.objs.size + 1) scope.names (cloFrom X.env.cells scope.names [])) s.heap.objs.size X.env
/-- the deed keeps a reading: within the block it reaches Nx, the slots of vs1 forgotten -/
def Keeps1 (X : Cx) (scope : Scope) (act : Deed) (D : Addr) (ta : L2.St → Hp → (Hp → Prop) → Prop) (vs1 : List Nat) : Prop :=
  ∀ (s0 : Shared) (H0 : Hp) (fp : List Addr) (pins : List (Addr × Obj)) (s : Shared) (σ : L2.St) (H : Hp) (Nx : Hp → Prop) (N : Shared → Prop) (E : Value → Shared → Prop),
    L2.Inv (X.blk s0 H0 scope (blkEnv X scope s0) fp) pins σ H s → ta σ H Nx → (∀ s' H', L2.Inv (X.blk s0 H0 scope (blkEnv X scope s0) fp) pins (wipe σ vs1) H' s' → Nx H' → N s') →
    act (blkEnv X scope s0) (.ref D) N E s
/-- the reading: W by the turn and a measure -/
def tGc (o0 : Addr → HO) (wi : TI) (g : TG) (tt : TT) (ta : Addr → L2.St → Hp → (Hp → Prop) → Prop) (vs : List Nat) : TE := fun σ H Q => wi σ H fun J H1 => ∀ D, H1 D = none →
  ∃ W : Nat → Nat → Hp → Prop, (∃ m, W 0 m (upd H1 D (o0 D))) ∧ ∀ i m H, W i m H →
    (J.stop i H ∧ Q (.ref D) H) ∨ (J.go i H ∧ ∃ Nx : Hp → Prop, (∀ H', Nx H' → ∃ m', m' < m ∧ W (i + 1) m' H') ∧
      ∀ x H', J.yld i H x H' → g x (wipe σ vs) H' fun σ2 H2 => wipe σ2 vs = wipe σ vs ∧ tt σ2 H2 fun b H3 => if b = true then ta D σ2 H3 Nx else Nx H3)
section
variable {X : Cx}
theorem wipe_mem {σ : L2.St} {vs vs1 : List Nat} (sub : ∀ i ∈ vs1, i ∈ vs) {σ2 : L2.St} (e : wipe σ2 vs = wipe σ vs) :
    (wipe σ vs).length = (wipe σ2 vs1).length ∧ ∀ (j : Nat) v, (wipe σ vs)[j]? = some (some v) → (wipe σ2 vs1)[j]? = some (some v) := by
  refine ⟨by rw [← e, wipe_length, wipe_length], fun j v q => ?_⟩
  rw [← e] at q
  obtain ⟨q1, q2⟩ := wipe_some q
  rw [wipe_out fun z => q2 (sub j z)]
  exact q1
theorem gc_coreU {e tg iter : Expr} {ifs : List Expr} {gs : List Comprehension} {new : Sem Value} {ob : Obj} {o0 : Addr → HO} {act : Deed} {fit : Env → Prop} {scope : Scope} {own : List (Str × Nat)} {vs1 : List Nat}
    {wi : TI} {g : TG} {tt : TT} {ta : Addr → L2.St → Hp → (Hp → Prop) → Prop} (mk : Makes X.prog X.w new ob o0) (lp : Loops X.prog X.w X.A e tg ifs act 0 fit) (sta : Starts X.prog X.w X.A e 0)
    (hcl : clausesOf e = ⟨tg, iter, ifs, 0⟩ :: gs) (hfit : ∀ s, fit (blkEnv X scope s)) (sub : ∀ i ∈ vs1, i ∈ own.map (·.2)) (hact : ∀ D, Keeps1 X scope act D (ta D) vs1)
    (calm : X.calm = true) (nd : X.N.Nodup) (hi : PI X tg iter wi) (ok : BlkOk X.N X.env.scope scope own)
    (hg : ∀ s H fp, PG (X.blk s H scope (blkEnv X scope s) fp) tg g) (ht : ∀ s H fp, PTs (X.blk s H scope (blkEnv X scope s) fp) ifs tt)
    (hs : ∀ x, foldedSetIterable iter X.env x = pure x) {pins : List (Addr × Obj)} {s : Shared} {σ : L2.St} {H : Hp} {Q : VK} {pos : Pos} {use : Option (Value → Sem Unit)} {Qf : Value → Shared → Prop} (I : L2.Inv X pins σ H s) (h : tGc o0 wi g tt ta (own.map (·.2)) σ H Q)
    (fin : ∀ D C s' m H', L2.Inv X pins σ H' s' → Q (.ref D) H' → s'.heap.Ns C m → FpOk X pins H' C → compPost (model X.prog X.w) X.A X.xe use Qf (.ref D) C (.ok .next) s') :
    wpAny (model X.prog X.w) X.A (comprehension e scope X.env pos new false (eval iter X.env) use) Qf X.xe s := by
  have caught : ∀ y ∈ scope.names, y.2 = .free → ∃ c, X.env.cells.lookup y.1 = some c := fun y hy z => by
    rcases ok.free y hy z with k | k
    · exact I.ok.has _ (.inl k)
    · exact I.ok.has _ (.inr k)
  refine wpAny_comprehension_free (use := use) hcl hs (closure_ok caught) ok.kind (fun y hy z => by rw [ok.uniq y hy, z]) (thn (hi.run pins s σ H _ I h) fun xv s1 hx => thn hx fun itv s2 h2 => ?_)
  obtain ⟨it, fp, tn, J, H2, rfl, I2, T, st2, f2, q⟩ := h2
  refine mk.run _ _ _ _ (newEnv_comp ?_)
  have hDn : H2 s2.heap.objs.size = none := I2.hok.fresh (Nat.le_refl _)
  obtain ⟨W, ⟨m0, w0⟩, turn⟩ := q _ hDn
  have fpl : ∀ b ∈ fp, b < s2.heap.objs.size := fun b hb => by
    obtain ⟨ob, z, _⟩ := T.obj _ _ st2 b hb
    exact Heap.lt_size z
  have I3 : L2.Inv X pins σ (upd H2 s2.heap.objs.size (o0 s2.heap.objs.size)) { s2 with heap := s2.heap.push ob } :=
    I2.laid (t' := s2.toks) (fun b u z => Heap.get?_push_of_some _ z) (Nat.le_refl _) (mk.ok _ _ I2.big)
  have f3 : ∀ b ∈ fp, FpOk X pins (upd H2 s2.heap.objs.size (o0 s2.heap.objs.size)) b ∧ b < (s2.heap.push ob).objs.size := fun b hb =>
    ⟨⟨by rw [upd_ne (Nat.ne_of_lt (fpl b hb))]; exact (f2 b hb).1, (f2 b hb).2⟩, by rw [Heap.size_push]; exact Nat.lt_succ_of_lt (fpl b hb)⟩
  have st3 : tn 0 (s2.heap.push ob) := T.keep _ _ _ st2 fun b _ u z => Heap.get?_push_of_some _ z
  generalize hD : s2.heap.objs.size = D at w0 turn I3 f3 ⊢
  generalize hH3 : upd H2 D (o0 D) = H3 at I3 f3 w0
  generalize hs3 : ({ s2 with heap := s2.heap.push ob } : Shared) = s3 at I3
  have e3 : s3.heap = s2.heap.push ob := by rw [← hs3]
  rw [← e3] at st3 f3
  have I4 := block_start I3 ok nd f3
  have st4 : tn 0 (pushCells (s3.heap.push { cls := .type "dict", data := .dict #[] }) scope.names) :=
    T.keep _ _ _ st3 fun b _ u z => pushCells_keeps _ _ _ _ (Heap.get?_push_of_some _ z)
  have pg := hg s3 H3 fp
  have pt := ht s3 H3 fp
  have pa := hact D s3 H3 fp
  have ft := hfit s3
  show codeAny _ _ (.compStart e 0 (.ref it) (.ref D) (blkEnv X scope s3)) (compPost (model X.prog X.w) X.A X.xe use Qf (.ref D) s3.heap.objs.size) { s3 with heap := pushCells (s3.heap.push { cls := .type "dict", data := .dict #[] }) scope.names }
  have I4 : L2.Inv (X.blk s3 H3 scope (blkEnv X scope s3) fp) [] (wipe σ (own.map (·.2))) H3 { s3 with heap := pushCells (s3.heap.push { cls := .type "dict", data := .dict #[] }) scope.names } := I4
  have cL : (blkEnv X scope s3).locals = s3.heap.objs.size := rfl
  generalize blkEnv X scope s3 = ce at I4 pg pt pa ft cL ⊢
  generalize hs4 : ({ s3 with heap := pushCells (s3.heap.push { cls := .type "dict", data := .dict #[] }) scope.names } : Shared) = s4 at I4 ⊢
  have stat : ∀ {σ' : L2.St} {H' : Hp} {s' : Shared}, L2.Inv (X.blk s3 H3 scope ce fp) [] σ' H' s' → (∀ b ∈ fp, H' b = none) → ∀ b ∈ fp, FpOk (X.blk s3 H3 scope ce fp) [] H' b := fun {_ _ _} I' hn b hb =>
    ⟨hn b hb, (I'.ok.exf b hb).1, I'.ok.exfs b hb, .inl hb, fun x c z => (I'.ok.exf b hb).2 x c z, fun p hp => absurd hp (by simp)⟩
  have st4 : tn 0 s4.heap := by rw [← hs4]; exact st4
  have loop : codeAny (model X.prog X.w) X.A (.compLoop e 0 (.ref it) (.ref D) ce) (compPost (model X.prog X.w) X.A X.xe use Qf (.ref D) s3.heap.objs.size) s4 := by
    refine lp _ ce _ _ (fun n s' => ∃ i H', L2.Inv (X.blk s3 H3 scope ce fp) [] (wipe σ (own.map (·.2))) H' s' ∧ tn i s'.heap ∧ (∀ b ∈ fp, H' b = none) ∧ W i n H') ft ?_ m0 s4 ⟨0, H3, I4, st4, fun b hb => (f3 b hb).1.1, w0⟩
    rintro n s5 ⟨i, H5, I5, st5, n5, w5⟩
    rcases turn i n H5 w5 with ⟨stop, fine⟩ | ⟨go, Nx, hNx, step⟩
    · refine thnF (T.done (X.blk s3 H3 scope ce fp) rfl rfl rfl calm i [] s5 _ H5 (fun _ _ => False) I5 (stat I5 n5) st5 stop) fun r s6 ⟨hr, I6⟩ => ?_
      subst hr
      have I7 : L2.Inv X pins σ H5 s6 := I3.call' (ch := fp) I6.os I6.base I6.hok I6.bare fun b hb => by
        obtain ⟨_, a1, a2, a3, a4, a5⟩ := (f3 b hb).1
        exact ⟨a3, a1, a4, a5⟩
      have free : H5 s3.heap.objs.size = none := by
        have z := I6.free
        rw [show (X.blk s3 H3 scope ce fp).env.locals = s3.heap.objs.size from cL] at z
        exact z
      obtain ⟨m, hn, _⟩ := I6.loc
      rw [show (X.blk s3 H3 scope ce fp).env.locals = s3.heap.objs.size from cL] at hn
      exact fin D s3.heap.objs.size s6 m H5 I7 fine hn (I3.fpOk (Nat.le_refl _) free)
    · refine thnF (T.item (X.blk s3 H3 scope ce fp) rfl rfl rfl calm i [] s5 _ H5 (fun _ _ => False) I5 (stat I5 n5) st5 go) fun r s6 ⟨u, hr, h6⟩ => ?_
      subst hr
      refine thnF h6 fun _ s7 ⟨x, H7, I7, r7, y7, st7, n7⟩ => ?_
      refine thnF (pg.run _ s7 _ H7 x u _ (I7.pinned (stat I7 n7) (T.obj _ _ st7)) r7 (step x H7 y7)) fun _ s8 ⟨σ8, H8, I8, hw8, q8⟩ => ?_
      refine thnF (pt.run _ s8 σ8 H8 _ I8 q8) fun b s9 ⟨H9, I9, q9⟩ => ?_
      have fin : ∀ {ws : List Nat} {s' : Shared} {H' : Hp}, (∀ i ∈ ws, i ∈ own.map (·.2)) → L2.Inv (X.blk s3 H3 scope ce fp) ([] ++ pinsAt fp s7.heap) (wipe σ8 ws) H' s' → Nx H' →
          ∃ m, m < n ∧ ∃ i H', L2.Inv (X.blk s3 H3 scope ce fp) [] (wipe σ (own.map (·.2))) H' s' ∧ tn i s'.heap ∧ (∀ b ∈ fp, H' b = none) ∧ W i m H' := fun {ws s' H'} hws I' nx => by
        obtain ⟨m', hm, w'⟩ := hNx H' nx
        obtain ⟨l1, l2⟩ := wipe_mem hws hw8
        have still : ∀ b ∈ fp, ∀ u, s7.heap.get? b = some u → s'.heap.get? b = some u ∧ H' b = none := fun b hb u z =>
          let y := I'.pin (b, u) (by simp [mem_pinsAt hb z])
          ⟨y.1, y.2.1⟩
        refine ⟨m', hm, i + 1, H', (I'.unpinned (pins := [])).weak l1 l2, T.keep _ _ _ st7 fun b hb u z => (still b hb u z).1, fun b hb => ?_, w'⟩
        obtain ⟨u, z, _⟩ := T.obj _ _ st7 b hb
        exact (still b hb u z).2
      cases b with
      | false => exact fin (ws := []) (fun _ z => nomatch z) I9 q9
      | true => exact pa _ s9 σ8 H9 Nx _ _ I9 q9 fun s' H' I' nx => fin sub I' nx
  exact sta _ _ _ _ _ loop (T.self X.A 0 _ _ _ st4 loop)
theorem gc_core {e tg iter : Expr} {ifs : List Expr} {gs : List Comprehension} {new : Sem Value} {ob : Obj} {o0 : Addr → HO} {act : Deed} {fit : Env → Prop} {scope : Scope} {own : List (Str × Nat)} {vs1 : List Nat}
    {wi : TI} {g : TG} {tt : TT} {ta : Addr → L2.St → Hp → (Hp → Prop) → Prop} (mk : Makes X.prog X.w new ob o0) (lp : Loops X.prog X.w X.A e tg ifs act 0 fit) (sta : Starts X.prog X.w X.A e 0)
    (hcl : clausesOf e = ⟨tg, iter, ifs, 0⟩ :: gs) (hfit : ∀ s, fit (blkEnv X scope s)) (sub : ∀ i ∈ vs1, i ∈ own.map (·.2)) (hact : ∀ D, Keeps1 X scope act D (ta D) vs1)
    (calm : X.calm = true) (nd : X.N.Nodup) (hi : PI X tg iter wi) (ok : BlkOk X.N X.env.scope scope own)
    (hg : ∀ s H fp, PG (X.blk s H scope (blkEnv X scope s) fp) tg g) (ht : ∀ s H fp, PTs (X.blk s H scope (blkEnv X scope s) fp) ifs tt)
    (hs : ∀ x, foldedSetIterable iter X.env x = pure x) {pins : List (Addr × Obj)} {s : Shared} {σ : L2.St} {H : Hp} {Q : VK} {pos : Pos} (I : L2.Inv X pins σ H s) (h : tGc o0 wi g tt ta (own.map (·.2)) σ H Q) :
    wpAny (model X.prog X.w) X.A (comprehension e scope X.env pos new false (eval iter X.env)) (EP X pins σ Q) X.xe s :=
  gc_coreU mk lp sta hcl hfit sub hact calm nd hi ok hg ht hs I h fun D C s' m H' I' q hn f => ⟨m, hn, fun h'' sb => by
    obtain ⟨a0, a1, a2, a3, a4, a5⟩ := f
    exact ⟨.ref D, H', I'.turned (t' := s'.toks) (fun b u hb z => (sb.2 b hb).trans z) a0 a1 a3 a4 a5, rfl, q⟩⟩
end
end NS
/-! C2: sets of ints, sets of texts: put in, made of a list or tuple; sorted. -/
namespace NS
open PySem PySem.Spec PyProof.Rows L2
theorem nodup_le {α : Type} [DecidableEq α] : ∀ (l D : List α), l.Nodup → (∀ x ∈ l, x ∈ D) → l.length ≤ D.length
  | [], _, _, _ => Nat.zero_le _
  | x :: l, D, hn, hs => by
    obtain ⟨h1, h2⟩ := List.nodup_cons.mp hn
    have hx : x ∈ D := hs x (by simp)
    have ih := nodup_le l (D.erase x) h2 fun y hy => (List.mem_erase_of_ne fun e => h1 (by rw [← e]; exact hy)).2 (hs y (by simp [hy]))
    have e := List.length_erase_of_mem hx
    have p := List.length_pos_of_mem hx
    simp only [List.length_cons]
    omega
section
variable {P : Program} {w : World} {K : Type} [DecidableEq K] {knd : PySem.KeyKind P w K} {A : Around} {E : Value → Shared → Prop} {s : Shared} {a : Addr} {S : List K}
/-- the keys of the entries -/
def KeysOf (knd : PySem.KeyKind P w K) (L : List K) (l : List (Int × Value)) : Prop := Paired (fun k e => knd.is k e.2 = true) L l
/-- the set at a: its members are those of S; it can be walked -/
def SetG (knd : PySem.KeyKind P w K) (h : Heap) (a : Addr) (S : List K) : Prop :=
  ∃ o es ep t L, h.get? a = some o ∧ o.ExactSet ∧ o.data = .set es ep t ∧ ElemsOf knd es.toList ∧ KeysOf knd L es.toList ∧ L.Nodup ∧ (∀ k, k ∈ L ↔ k ∈ S) ∧ es.size < scanBound ∧ t.fits es.size = true ∧ Ris t.place.toList ∧
    (w.params.followText "set-order" = true ∨ t.led = true)
theorem KeysOf.perm {l l' : List (Int × Value)} (p : l'.Perm l) : ∀ {L : List K}, KeysOf knd L l → ∃ L', KeysOf knd L' l' ∧ L'.Perm L := by
  induction p with
  | nil => intro L h; exact ⟨L, h, .refl _⟩
  | @cons e l1 l2 _ ih =>
    intro L h
    cases h with
    | @cons k _ ks _ h1 h2 =>
      obtain ⟨L', g1, g2⟩ := ih h2
      exact ⟨k :: L', .cons h1 g1, g2.cons k⟩
  | swap e f l =>
    intro L h
    cases h with
    | @cons k _ ks _ h1 h2 =>
      cases h2 with
      | @cons k' _ ks' _ h3 h4 => exact ⟨k' :: k :: ks', .cons h3 (.cons h1 h4), .swap k k' ks'⟩
  | trans _ _ ih1 ih2 =>
    intro L h
    obtain ⟨L1, g1, g2⟩ := ih2 h
    obtain ⟨L2, g3, g4⟩ := ih1 g1
    exact ⟨L2, g3, g4.trans g2⟩
theorem KeysOf.mem {L : List K} {l : List (Int × Value)} (h : KeysOf knd L l) {k : K} : k ∈ L ↔ ∃ e ∈ l, knd.is k e.2 = true := by
  induction h with
  | nil => simp
  | @cons k0 e ks es h1 _ ih =>
    constructor
    · intro m
      rcases List.mem_cons.mp m with rfl | m
      · exact ⟨e, by simp, h1⟩
      · obtain ⟨e', m', q⟩ := ih.mp m
        exact ⟨e', by simp [m'], q⟩
    · rintro ⟨e', m', q⟩
      rcases List.mem_cons.mp m' with rfl | m'
      · rw [knd.inj _ _ _ q h1]; simp
      · exact List.mem_cons_of_mem _ (ih.mpr ⟨e', m', q⟩)
theorem SetG.at {h h' : Heap} (R : SetG knd h a S) (k : ∀ o, h.get? a = some o → h'.get? a = some o) : SetG knd h' a S := by
  obtain ⟨o, es, ep, t, L, ho, r⟩ := R
  exact ⟨o, es, ep, t, L, k o ho, r⟩
theorem SetG.congr {S' : List K} {h : Heap} (R : SetG knd h a S) (e : ∀ k, k ∈ S ↔ k ∈ S') : SetG knd h a S' := by
  obtain ⟨o, es, ep, t, L, h1, h2, h3, h4, h5, h6, h7, r⟩ := R
  exact ⟨o, es, ep, t, L, h1, h2, h3, h4, h5, h6, fun k => (h7 k).trans (e k), r⟩
/-- an empty one -/
abbrev setOb (w : World) : Obj := { cls := .type "set", dict := none, data := .set #[] 0 (.fresh 0 0 (!w.params.followText "set-order")) }
theorem setG_new {h : Heap} (ho : h.get? a = some (setOb w)) : SetG knd h a [] := by
  refine ⟨_, #[], 0, _, [], ho, ⟨rfl, rfl, rfl⟩, rfl, (fun e he => by simp at he), .nil, List.nodup_nil, (fun k => by simp), (by decide), (by rfl), List.Pairwise.nil, ?_⟩
  show _ ∨ (!w.params.followText "set-order") = true
  cases w.params.followText "set-order"
  · exact .inr rfl
  · exact .inl rfl
theorem setG_store {o : Obj} {es : Array (Int × Value)} {ep : Nat} {t : SetTable} {h : Heap} (ho : h.get? a = some o) (hex : o.ExactSet) (hd : o.data = .set es ep t) {es1 : Array (Int × Value)} {t1 : SetTable} {L : List K}
    (el : ElemsOf knd es1.toList) (ks : KeysOf knd L es1.toList) (nd : L.Nodup) (mm : ∀ k, k ∈ L ↔ k ∈ S) (hb : es1.size < scanBound) (hf : t1.fits es1.size = true) (hr : Ris t1.place.toList) (hl : w.params.followText "set-order" = true ∨ t1.led = true) :
    (h.update a (Obj.putSet es1 t1)).get? a = some { o with data := .set es1 (ep + 1) t1 } ∧ SetG knd (h.update a (Obj.putSet es1 t1)) a S :=
  ⟨store_at ho hd, _, es1, ep + 1, t1, L, store_at ho hd, ⟨hex.1, hex.2.1, hex.2.2⟩, rfl, el, ks, nd, mm, hb, hf, hr, hl⟩
theorem setG_add_hashed {k : K} {x : Value} {Q : Bool → Shared → Prop} (R : SetG knd s.heap a S) (hk : knd.is k x = true) (hx : x.scannable = true) (few : S.length + 1 < scanBound)
    (hQ : ∀ b h', Heap.SameBut a s.heap h' → SetG knd h' a (S ++ [k]) → Q b { s with heap := h' }) : wpAny (model P w) A (setAddHashed a x (knd.hash k)) Q E s := by
  obtain ⟨o, es, ep, t, L, ho, hex, hd, el, ks, nd, mm, hb, hf, hr, hl⟩ := R
  have len : es.size ≤ S.length := by
    have h1 := nodup_le L S nd fun k hk => (mm k).mp hk
    have h2 := Paired.length ks
    simp only [Array.length_toList] at h2
    omega
  unfold setAddHashed setAddHashedIn
  refine wpAny_holding (wpAny_bind (wpAny_setState_of ho hd hf ?_))
  dsimp only
  rw [byScan_of hx hb el]
  simp only [↓reduceIte]
  unfold setAddByScan
  refine wpAny_bind (wpAny_bind (wpAny_rule (wpAny_bind (wpAny_setScan_of hk ho hd hf el ?_))))
  cases hfi : List.findIdx? (fun e => knd.is k e.2) es.toList with
  | some j =>
    obtain ⟨hj, pj, _⟩ := List.findIdx?_eq_some_iff_getElem.mp hfi
    have inL : k ∈ L := ks.mem.mpr ⟨es.toList[j], List.getElem_mem hj, pj⟩
    refine wpAny_pure (wpAny_pure ?_)
    refine hQ false s.heap (Heap.SameBut.refl a s.heap) ⟨o, es, ep, t, L, ho, hex, hd, el, ks, nd, fun k' => ?_, hb, hf, hr, hl⟩
    rw [mm k', List.mem_append, List.mem_singleton]
    exact ⟨.inl, fun z => z.elim id fun e => by rw [e]; exact (mm k).mp inL⟩
  | none =>
    have notL : k ∉ L := fun z => by
      obtain ⟨e, he, q⟩ := ks.mem.mp z
      have c := List.findIdx?_eq_none_iff.mp hfi e he
      rw [q] at c
      cases c
    dsimp only
    have said : ∀ (b : Bool) {s₁ : Shared} {Q' : Unit → Shared → Prop}, Q' () s₁ → wpAny (model P w) A (match b with | true => rule "set.scan.the-table-gave-way" | false => pure ()) Q' E s₁ :=
      fun b s₁ Q' q => by cases b <;> first | exact wpAny_pure q | exact wpAny_rule q
    have pm := layNew_perm t es (knd.hash k) x
    have f1 := layNew_fits t es (knd.hash k) x
    have r1 := layNew_ris t es (knd.hash k) x hr
    have l1 := layNew_led t es (knd.hash k) x
    generalize layNew t es (knd.hash k) x = Z at pm f1 r1 l1 ⊢
    obtain ⟨es1, t1, dum, gave⟩ := Z
    dsimp only at pm f1 r1 l1 ⊢
    rw [Array.toList_push] at pm
    have el1 : ElemsOf knd es1.toList := (el.push hk hx).perm pm
    obtain ⟨L1, ks1, pL⟩ := KeysOf.perm (knd := knd) (pm.trans (List.perm_append_singleton _ _)) (L := k :: L) (.cons hk ks)
    have nd1 : L1.Nodup := pL.nodup_iff.mpr (List.nodup_cons.mpr ⟨notL, nd⟩)
    have mm1 : ∀ k', k' ∈ L1 ↔ k' ∈ S ++ [k] := fun k' => by
      rw [pL.mem_iff, List.mem_cons, mm k', List.mem_append, List.mem_singleton]
      exact Or.comm
    have sz1 : es1.size = es.size + 1 := by
      have := pm.length_eq
      simpa using this
    have hb1 : es1.size < scanBound := by omega
    have led1 : ∀ t2 : SetTable, t2.led = t1.led → w.params.followText "set-order" = true ∨ t2.led = true := fun t2 e => hl.imp id fun z => by rw [e, l1]; exact z
    have tail : ∀ t2 : SetTable, t2.fits es1.size = true → Ris t2.place.toList → t2.led = t1.led → wpAny (model P w) A (do
        storeSet a es1 t2
        if (!dum && t2.tooFull) = true then do
            (match (relayAll t2 es1 (SetTable.grown es1.size)).2.2 with | true => rule "set.scan.the-table-gave-way" | false => pure ())
            storeSet a (relayAll t2 es1 (SetTable.grown es1.size)).1 (relayAll t2 es1 (SetTable.grown es1.size)).2.1
            pure (some true)
          else pure (some true)) (fun r s' => r = some true ∧ Q true s') E s := fun t2 g1 g2 g3 => by
      refine wpAny_bind (wpAny_storeSet_of ho hd ?_ (fits_of_scanBound hb1))
      obtain ⟨ho1, G1⟩ := setG_store (S := S ++ [k]) ho hex hd el1 ks1 nd1 mm1 hb1 g1 g2 (led1 t2 g3)
      have sb1 := Heap.SameBut.update s.heap a (Obj.putSet es1 t2)
      split
      · have pm2 := relayAll_perm t2 es1 (SetTable.grown es1.size)
        have f2 := relayAll_fits t2 es1 (SetTable.grown es1.size)
        have r2 := relayAll_ris t2 es1 (SetTable.grown es1.size)
        have l2 := relayAll_led t2 es1 (SetTable.grown es1.size)
        generalize relayAll t2 es1 (SetTable.grown es1.size) = Y at pm2 f2 r2 l2 ⊢
        obtain ⟨es2, t3, gave2⟩ := Y
        dsimp only at pm2 f2 r2 l2 ⊢
        have sz2 : es2.size = es1.size := by simpa using pm2.length_eq
        obtain ⟨L2, ks2, pL2⟩ := KeysOf.perm (knd := knd) pm2 ks1
        refine wpAny_bind (said _ ?_)
        refine wpAny_bind (wpAny_storeSet_of ho1 rfl ?_ (fits_of_scanBound (by rw [sz2]; exact hb1)))
        obtain ⟨_, G2⟩ := setG_store (S := S ++ [k]) ho1 ⟨hex.1, hex.2.1, hex.2.2⟩ rfl (el1.perm pm2) ks2 (pL2.nodup_iff.mpr nd1) (fun k' => pL2.mem_iff.trans (mm1 k')) (by rw [sz2]; exact hb1) f2 r2 (led1 t3 (l2.trans g3))
        exact wpAny_pure ⟨rfl, hQ true _ (sb1.trans (Heap.SameBut.update _ a _)) G2⟩
      · exact wpAny_pure ⟨rfl, hQ true _ sb1 G1⟩
    have fin : ∀ r s', (r = some true ∧ Q true s') → wpAny (model P w) A (match r with | some added => pure added | none => setAddHashedIn a x (knd.hash k) 99999) Q E s' := fun r s' h => by
      obtain ⟨rfl, q⟩ := h
      exact wpAny_pure q
    refine wpAny_bind (said _ ?_)
    split
    · refine wpAny_bind ?_
      rw [hashByValue_scannable 8 hx]
      refine wpAny_pure ?_
      refine wpAny_mono (tail (if plainKind x = true then t1 else { t1 with plain := false }) ?_ ?_ ?_) (fun r s' h => fin r s' h) fun _ _ z => z
      · split
        · exact f1
        · exact SetTable.fits_plain_off f1
      · split <;> exact r1
      · split <;> rfl
    · refine wpAny_bind (wpAny_pure ?_)
      exact wpAny_mono (tail t1 f1 r1 rfl) (fun r s' h => fin r s' h) fun _ _ z => z
end
end NS
/-! C3: sorted(set) of texts, of ints; set(list), set(tuple). -/
namespace NS
open PySem PySem.Spec PyProof.Rows L2
section
variable {P : Program} {w : World} {A : Around} {E : Value → Shared → Prop} {s : Shared} {a : Addr}
theorem keys_strs : ∀ {L : List Str} {l : List (Int × Value)}, NS.KeysOf (strKind P w) L l → StrsAre (l.map (·.2)) L
  | [], _, .nil => .nil
  | k :: L, _, .cons h t => by
    obtain ⟨tk, e⟩ := Value.isStrOf_shape h
    rw [List.map_cons, e]
    exact .cons k tk (keys_strs t)
theorem keys_ints : ∀ {L : List Int} {l : List (Int × Value)}, NS.KeysOf (intKind P w) L l → IntsAre (l.map (·.2)) L
  | [], _, .nil => .nil
  | k :: L, _, .cons h t => by
    obtain ⟨tk, e⟩ := Value.isInt_shape h
    rw [List.map_cons, e]
    exact .cons k tk (keys_ints t)
/-- values in another order are other keys in that order -/
theorem strs_perm {us vs : List Value} (p : us.Perm vs) : ∀ {L : List Str}, StrsAre vs L → ∃ L', StrsAre us L' ∧ L'.Perm L := by
  induction p with
  | nil => intro L h; exact ⟨L, h, .refl _⟩
  | cons v _ ih =>
    intro L h
    cases h with
    | cons n t h =>
      obtain ⟨L', g1, g2⟩ := ih h
      exact ⟨n :: L', .cons n t g1, g2.cons n⟩
  | swap v u l =>
    intro L h
    cases h with
    | cons n t h => cases h with
      | cons n' t' h => exact ⟨n' :: n :: _, .cons n' t' (.cons n t h), .swap _ _ _⟩
  | trans _ _ ih1 ih2 =>
    intro L h
    obtain ⟨L1, g1, g2⟩ := ih2 h
    obtain ⟨L2, g3, g4⟩ := ih1 g1
    exact ⟨L2, g3, g4.trans g2⟩
theorem ints_perm {us vs : List Value} (p : us.Perm vs) : ∀ {L : List Int}, IntsAre vs L → ∃ L', IntsAre us L' ∧ L'.Perm L := by
  induction p with
  | nil => intro L h; exact ⟨L, h, .refl _⟩
  | cons v _ ih =>
    intro L h
    cases h with
    | cons n t h =>
      obtain ⟨L', g1, g2⟩ := ih h
      exact ⟨n :: L', .cons n t g1, g2.cons n⟩
  | swap v u l =>
    intro L h
    cases h with
    | cons n t h => cases h with
      | cons n' t' h => exact ⟨n' :: n :: _, .cons n' t' (.cons n t h), .swap _ _ _⟩
  | trans _ _ ih1 ih2 =>
    intro L h
    obtain ⟨L1, g1, g2⟩ := ih2 h
    obtain ⟨L2, g3, g4⟩ := ih1 g1
    exact ⟨L2, g3, g4.trans g2⟩
theorem sorted_setS {S : List Str} {Q : Value → Shared → Prop} (R : SetG (strKind P w) s.heap a S) (hh : A.handled = none) (few : S.length < 64)
    (hQ : ∀ s' p (out : Array Value) (c : Nat) (ys : List Str), (∀ b o, s.heap.get? b = some o → s'.heap.get? b = some o) → s'.gens = s.gens → s'.os = s.os → s.heap.objs.size ≤ p →
      s'.heap.get? p = some (seqObj "list" out c) → StrsAre out.toList ys → sortedS ys = true → ys.Nodup → (∀ k, k ∈ ys ↔ k ∈ S) → Q (.ref p) s') : wpAny (model P w) A (call (.builtin "sorted") [.ref a]) Q E s := by
  obtain ⟨o, es, ep, t, L, ho, hex, hd, el, ks, nd, mm, hb, hf, hr, hl⟩ := R
  have lenL : L.length ≤ S.length := nodup_le L S nd fun k hk => (mm k).mp hk
  refine Calls.call_function_entry kind_sorted plain_sorted entry_sorted (args_sorted1 _) ?_
  unfold Builtin.«sorted»
  refine wpAny_bind (m := checkCount "sorted" 1 1 _) (wpAny_pure ?_)
  refine wpAny_bind (collect_set (A := A.in1) hh ⟨o, ho, hex.1, hd⟩ hf hb hr hl fun s1 vs k1 hz g1 o1 pm => ?_)
  obtain ⟨L1, hS, pL⟩ := strs_perm pm (keys_strs ks)
  have hvl : vs.length < 64 := by
    have h1 := hS.length
    have h2 := pL.length_eq
    omega
  refine wpAny_bind (wpAny_newList ?_ (by rw [sizeLine_eq]; omega))
  have hoL : (s1.heap.push (seqObj "list" vs.toArray 0)).get? s1.heap.objs.size = some (seqObj "list" vs.toArray 0) := Heap.get?_push_size _ rfl
  refine wpAny_bind (wpAny_holding (wpAny_call_entry slot_list_sort ⟨_, hoL, rfl⟩ entry_list_sort
    (list_sort_treeK strKind_oneLt hoL hS.keysOf (fun v₁ v₂ rest e => keyKind_strs (by rw [← e]; exact hS)) hvl fun st' hp hs => ⟨_, rfl, ?_⟩) (args_list_sort _)))
  obtain ⟨ys, a1, a2, a3⟩ := sorted_out_str hS hp hs
  obtain ⟨c, hc⟩ := sortedHeap_at (vs := vs) (out := (arrOf st').map (·.2)) hoL
  have pn := a2.trans pL
  refine wpAny_pure ⟨_, rfl, hQ _ s1.heap.objs.size _ c ys (fun b u e => ?_) g1 o1 hz hc a1 a3 (pn.nodup_iff.mpr nd) fun k => by rw [pn.mem_iff, mm k]⟩
  have q := k1 b u e
  have hlt := Heap.lt_size q
  show (sortedHeap (s1.heap.push (seqObj "list" vs.toArray 0)) s1.heap.objs.size vs _).get? b = some u
  rw [sortedHeap_old (Nat.ne_of_lt hlt) (by rw [size_push']; exact Nat.lt_succ_of_lt hlt)]
  exact Heap.get?_push_of_some _ q
theorem sorted_setI {S : List Int} {Q : Value → Shared → Prop} (R : SetG (intKind P w) s.heap a S) (hh : A.handled = none) (few : S.length < 64)
    (hQ : ∀ s' p (out : Array Value) (c : Nat) (ns : List Int), (∀ b o, s.heap.get? b = some o → s'.heap.get? b = some o) → s'.gens = s.gens → s'.os = s.os → s.heap.objs.size ≤ p →
      s'.heap.get? p = some (seqObj "list" out c) → IntsAre out.toList ns → ns.Pairwise (· < ·) → (∀ k, k ∈ ns ↔ k ∈ S) → Q (.ref p) s') : wpAny (model P w) A (call (.builtin "sorted") [.ref a]) Q E s := by
  obtain ⟨o, es, ep, t, L, ho, hex, hd, el, ks, nd, mm, hb, hf, hr, hl⟩ := R
  have lenL : L.length ≤ S.length := nodup_le L S nd fun k hk => (mm k).mp hk
  refine Calls.call_function_entry kind_sorted plain_sorted entry_sorted (args_sorted1 _) ?_
  unfold Builtin.«sorted»
  refine wpAny_bind (m := checkCount "sorted" 1 1 _) (wpAny_pure ?_)
  refine wpAny_bind (collect_set (A := A.in1) hh ⟨o, ho, hex.1, hd⟩ hf hb hr hl fun s1 vs k1 hz g1 o1 pm => ?_)
  obtain ⟨L1, hI, pL⟩ := ints_perm pm (keys_ints ks)
  have hvl : vs.length < 64 := by
    have h1 := hI.length
    have h2 := pL.length_eq
    omega
  refine wpAny_bind (wpAny_newList ?_ (by rw [sizeLine_eq]; omega))
  have hoL : (s1.heap.push (seqObj "list" vs.toArray 0)).get? s1.heap.objs.size = some (seqObj "list" vs.toArray 0) := Heap.get?_push_size _ rfl
  refine wpAny_bind (wpAny_holding (wpAny_call_entry slot_list_sort ⟨_, hoL, rfl⟩ entry_list_sort (list_sort_tree hoL hI hvl fun out ns a1 a2 a3 => ⟨_, rfl, ?_⟩) (args_list_sort _)))
  obtain ⟨c, hc⟩ := sortedHeap_at (vs := vs) (out := out) hoL
  have pn := a2.trans pL
  refine wpAny_pure ⟨_, rfl, hQ _ s1.heap.objs.size out c ns (fun b u e => ?_) g1 o1 hz hc a1 (lt_of_le_nodup ns a3 (pn.nodup_iff.mpr nd)) fun k => by rw [pn.mem_iff, mm k]⟩
  have q := k1 b u e
  have hlt := Heap.lt_size q
  show (sortedHeap (s1.heap.push (seqObj "list" vs.toArray 0)) s1.heap.objs.size vs out).get? b = some u
  rw [sortedHeap_old (Nat.ne_of_lt hlt) (by rw [size_push']; exact Nat.lt_succ_of_lt hlt)]
  exact Heap.get?_push_of_some _ q
end
/-! ### set(xs) -/
section
variable {P : Program} {w : World} {K : Type} [DecidableEq K] {knd : PySem.KeyKind P w K} {A : Around} {E : Value → Shared → Prop} {s : Shared}
theorem update_G {I : Addr} {fp wr : List Addr} {G : Array GenState → Array GenState → Prop} {n : Nat} {Pv : Nat → Value → Prop} {St : Nat → Shared → Prop} {R : Result → Shared → Prop}
    (W : WalksS P w A.in1 I fp wr G n Pv St) (D : Addr) (out : D ∉ fp) (xs : List K) (hn : n = xs.length) (few : xs.length + 1 < scanBound)
    (hv : ∀ i v, Pv i v → ∃ k, xs[i]? = some k ∧ knd.is k v = true ∧ v.scannable = true) :
    ∀ (k i : Nat) (s : Shared), n - i = k → i ≤ n → St i s → SetG knd s.heap D (xs.take i) →
      (∀ s', Moved (D :: wr) G s s' → SetG knd s'.heap D xs → R (.ok (.ret .none)) s') →
      codeAny (model P w) A (.builtin "set.update.loop" ⟨[.ref D, .ref I], []⟩) R s := by
  have nw : D ∉ wr := fun h => out (W.sub _ h)
  have more : ∀ b ∈ wr, b ∈ D :: wr := fun b hb => List.mem_cons_of_mem _ hb
  intro k
  induction k with
  | zero =>
    intro i s hk hi st R0 hR
    refine codeAny_builtin F.entry_set_update_loop ?_
    rw [Around.under_plainId F.plain_set_update_loop _]
    show wpAny _ A.in1 (pyNext (.ref I) >>= _) _ _ s
    have e : i = n := by omega
    subst e
    refine wpAny_bind (W.done s _ _ st fun s' hm => ?_)
    rw [List.take_of_length_le (by omega)] at R0
    exact wpAny_pure (hR s' (hm.mono more) (R0.at fun o e => hm.heap D o nw e))
  | succ k ih =>
    intro i s hk hi st R0 hR
    have lt : i < n := by omega
    refine codeAny_builtin F.entry_set_update_loop ?_
    rw [Around.under_plainId F.plain_set_update_loop _]
    show wpAny _ A.in1 (pyNext (.ref I) >>= _) _ _ s
    refine wpAny_bind (W.item i s _ _ lt st fun v s' hP st' hm => ?_)
    obtain ⟨z, hz, hzk, hzs⟩ := hv i v hP
    have R1 : SetG knd s'.heap D (xs.take i) := R0.at fun o e => hm.heap D o nw e
    show wpAny _ A.in1 (holding [v] (setAdd D v) >>= _) _ _ s'
    refine wpAny_bind (wpAny_holding ?_)
    unfold setAdd
    refine wpAny_holding (wpAny_bind (knd.pyHash hzk ?_))
    refine setG_add_hashed (s := { s' with toks := s'.toks + 1 }) R1 hzk hzs (by rw [List.length_take]; omega) fun _ h' sb R2 => ?_
    have R3 : SetG knd h' D (xs.take (i + 1)) := by
      rw [List.take_add_one, hz]
      exact R2
    refine wpAny_pure ⟨plainId_quiet F.plain_set_update_loop _, ih (i + 1) _ (by omega) lt (W.frame _ s' _ _ st' (Nat.le_succ _) fun b hb o e => ?_) R3 fun s'' hm2 R4 => ?_⟩
    · exact (sb.2 b fun z => out (z ▸ hb)).trans e
    · exact hR s'' (Moved.trans W.gtrans ((hm.mono more).then_heap (Nat.le_succ _) fun b o hb e => (sb.2 b fun z => hb (by simp [z])).trans e) hm2) R4
set_option maxRecDepth 100000 in
set_option maxHeartbeats 3200000 in
theorem call_setG_tup {l : Addr} {items : Array Value} (xs : List K) {Q : Value → Shared → Prop} (hh : A.handled = none) (hl : s.heap.IsTuple l items) (sz : items.size = xs.length) (few : xs.length + 1 < scanBound)
    (hv : ∀ (i : Nat) v, items[i]? = some v → ∃ k, xs[i]? = some k ∧ knd.is k v = true ∧ v.scannable = true)
    (h : ∀ (h' : Heap) (tk : Nat), SetG knd h' s.heap.objs.size xs → (∀ b o, s.heap.get? b = some o → h'.get? b = some o) → Q (.ref s.heap.objs.size) { s with heap := h', toks := tk }) :
    wpAny (model P w) A (call (.type "set") [.ref l]) Q E s := by
  obtain ⟨c, tl, hmro⟩ := F.called_set.mro
  have hmade := F.called_set.made
  have hsub := F.called_set.sub
  refine wpAny_call (codeAny_of_tree ?_)
  show wpAny _ _ (callAny (.type "set") _) _ _ _
  refine wpAny_pure ⟨Code.quiet_builtin _ (by decide +kernel), codeAny_builtin F.entry_type_call ?_⟩
  rw [Around.under_plain (weight_type_call_type "set" [.ref l] []) rfl]
  have h1 := F.called_set.notType
  have h2 := F.called_set.canCreate
  have hct := F.typeCall_set_1 (.ref l)
  repeat (any_goals (first | assumption | wp_step))
  refine codeAny_mono (code_set_led1 (.ref l) (E := E) (Q₁ := fun obj s₁ => obj = .ref s.heap.objs.size ∧ s₁ = { s with heap := s.heap.push (setOb w) }) ⟨rfl, rfl⟩) fun r s₁ hr => ?_
  cases r with
  | error e => exact hr
  | ok fl =>
    cases fl with
    | ret obj =>
      obtain ⟨rfl, rfl⟩ := hr
      have hS : (s.heap.push (setOb w)).get? s.heap.objs.size = some (setOb w) := Heap.get?_push_size _ rfl
      have hT : Shared.TypeIs { s with heap := s.heap.push (setOb w) } (.ref s.heap.objs.size) "set" := ⟨_, hS, rfl⟩
      have hli := F.called_set.init.lookup
      have hbi := F.called_set.init.bind (.ref s.heap.objs.size)
      repeat (any_goals (first | assumption | wp_step))
      refine codeAny_mono (codeAny_call_builtin (R := wants (fun r s₂ => r = .none ∧ ∃ h' tk, s₂ = { s with heap := h', toks := tk } ∧ SetG knd h' s.heap.objs.size xs ∧
          (∀ b o, s.heap.get? b = some o → h'.get? b = some o)) E) F.called_set.init.plain F.entry_set_init (check_set_init_1 hT ?_)) fun r₂ s₂ hr₂ => ?_
      · obtain ⟨⟨ocls, odict, odata, oslots⟩, hol, hcl, nl, hdl⟩ := hl
        simp only at hcl hdl
        subst hcl; subst hdl
        have hol' : (s.heap.push (setOb w)).get? l = some { cls := .type "tuple", dict := odict, data := .seq items nl, slots := oslots } := Heap.get?_push_of_some _ hol
        have hsls := F.sub_tuple_set
        have hslf := F.sub_tuple_frozenset
        have hne : (Value.type "tuple" == Value.type "dict") = false := by decide
        have hl1 : (s.heap.push (setOb w)).IsTuple l items := ⟨_, hol', rfl, nl, rfl⟩
        unfold Builtin.«set.__init__» noKeywords Builtin.Frozenset.updateFrom
        generalize hPI : pyIter = PI
        wp_walk
        subst hPI
        refine wpAny_pyIter_tuple hl1 ?_
        refine wpAny_bind (wpAny_runValue ?_)
        have hlS : l < s.heap.objs.size := Heap.lt_size hol
        have hh3 : A.in1.in1.in1.handled = none := by simp [hh]
        have hz1 : (s.heap.push (setOb w)).objs.size = s.heap.objs.size + 1 := Heap.size_push ..
        have hneI : l ≠ (s.heap.push (setOb w)).objs.size := by rw [hz1]; exact Nat.ne_of_lt (Nat.lt_succ_of_lt hlS)
        have hSf : s.heap.objs.size ∉ [(s.heap.push (setOb w)).objs.size, l] := by
          rw [hz1]
          intro z
          rcases List.mem_cons.mp z with z | z
          · exact absurd z (Nat.ne_of_lt (Nat.lt_succ_self _))
          · exact absurd (List.mem_singleton.mp z) (Nat.ne_of_gt hlS)
        refine update_G (knd := knd) ((Walks.tuple hh3 _ l hneI items).toS) s.heap.objs.size hSf xs sz few hv (items.size - 0) 0 _ (by omega) (Nat.zero_le _)
          ⟨⟨_, Heap.get?_push_size _ rfl, rfl, rfl⟩, (hl1.push _)⟩ (setG_new (Heap.get?_push_of_some _ hS)) fun s' hm R' => ?_
        obtain ⟨h', g2, d', tk', os'⟩ := s'
        have eg : g2 = s.gens := hm.gens
        have ed : d' = s.drawn := hm.drawn
        have eo : os' = s.os := hm.os
        subst eg; subst ed; subst eo
        show wpAny _ _ _ _ _ _
        refine wpAny_pure ?_
        show wpAny _ _ (ret Value.none) _ _ _
        refine wpAny_pure ⟨rfl, h', tk', rfl, R', fun b o e => ?_⟩
        have hb0 : b < s.heap.objs.size := Heap.lt_size e
        refine hm.heap b o (fun z => ?_) (Heap.get?_push_of_some _ (Heap.get?_push_of_some _ e))
        rcases List.mem_cons.mp z with z | z
        · exact absurd z (Nat.ne_of_lt hb0)
        · have z := List.mem_singleton.mp z
          rw [hz1] at z
          exact absurd z (Nat.ne_of_lt (Nat.lt_succ_of_lt hb0))
      · cases r₂ with
        | error e => exact hr₂
        | ok fl₂ =>
          cases fl₂ with
          | ret r =>
            obtain ⟨rfl, h', tk, rfl, R', hk'⟩ := hr₂
            repeat (any_goals (first | assumption | wp_step))
            exact h _ _ R' hk'
          | _ => exact hr₂.elim
    | _ => exact hr.elim
set_option maxRecDepth 100000 in
set_option maxHeartbeats 3200000 in
theorem call_setG_list {l : Addr} {items : Array Value} (xs : List K) {Q : Value → Shared → Prop} (hh : A.handled = none) (hl : s.heap.IsList l items) (sz : items.size = xs.length) (few : xs.length + 1 < scanBound)
    (hv : ∀ (i : Nat) v, items[i]? = some v → ∃ k, xs[i]? = some k ∧ knd.is k v = true ∧ v.scannable = true)
    (h : ∀ (h' : Heap) (tk : Nat), SetG knd h' s.heap.objs.size xs → (∀ b o, s.heap.get? b = some o → h'.get? b = some o) → Q (.ref s.heap.objs.size) { s with heap := h', toks := tk }) :
    wpAny (model P w) A (call (.type "set") [.ref l]) Q E s := by
  obtain ⟨c, tl, hmro⟩ := F.called_set.mro
  have hmade := F.called_set.made
  have hsub := F.called_set.sub
  refine wpAny_call (codeAny_of_tree ?_)
  show wpAny _ _ (callAny (.type "set") _) _ _ _
  refine wpAny_pure ⟨Code.quiet_builtin _ (by decide +kernel), codeAny_builtin F.entry_type_call ?_⟩
  rw [Around.under_plain (weight_type_call_type "set" [.ref l] []) rfl]
  have h1 := F.called_set.notType
  have h2 := F.called_set.canCreate
  have hct := F.typeCall_set_1 (.ref l)
  repeat (any_goals (first | assumption | wp_step))
  refine codeAny_mono (code_set_led1 (.ref l) (E := E) (Q₁ := fun obj s₁ => obj = .ref s.heap.objs.size ∧ s₁ = { s with heap := s.heap.push (setOb w) }) ⟨rfl, rfl⟩) fun r s₁ hr => ?_
  cases r with
  | error e => exact hr
  | ok fl =>
    cases fl with
    | ret obj =>
      obtain ⟨rfl, rfl⟩ := hr
      have hS : (s.heap.push (setOb w)).get? s.heap.objs.size = some (setOb w) := Heap.get?_push_size _ rfl
      have hT : Shared.TypeIs { s with heap := s.heap.push (setOb w) } (.ref s.heap.objs.size) "set" := ⟨_, hS, rfl⟩
      have hli := F.called_set.init.lookup
      have hbi := F.called_set.init.bind (.ref s.heap.objs.size)
      repeat (any_goals (first | assumption | wp_step))
      refine codeAny_mono (codeAny_call_builtin (R := wants (fun r s₂ => r = .none ∧ ∃ h' tk, s₂ = { s with heap := h', toks := tk } ∧ SetG knd h' s.heap.objs.size xs ∧
          (∀ b o, s.heap.get? b = some o → h'.get? b = some o)) E) F.called_set.init.plain F.entry_set_init (check_set_init_1 hT ?_)) fun r₂ s₂ hr₂ => ?_
      · have hl0 := hl
        obtain ⟨⟨ocls, odict, odata, oslots⟩, hol, hcl, nl, hdl⟩ := hl
        simp only at hcl hdl
        have hl1 : (s.heap.push (setOb w)).IsList l items := hl0.push _
        subst hcl hdl
        have hol' : (s.heap.push (setOb w)).get? l = some { cls := .type "list", dict := odict, data := .seq items nl, slots := oslots } := Heap.get?_push_of_some _ hol
        have hsls := PySem.F.sub_list_set
        have hslf := PySem.F.sub_list_frozenset
        have hne : (Value.type "list" == Value.type "dict") = false := by decide
        unfold Builtin.«set.__init__» noKeywords Builtin.Frozenset.updateFrom
        generalize hPI : pyIter = PI
        wp_walk
        subst hPI
        refine wpAny_pyIter_list hl1 ?_
        refine wpAny_bind (wpAny_runValue ?_)
        have hlS : l < s.heap.objs.size := Heap.lt_size hol
        have hh3 : A.in1.in1.in1.handled = none := by simp [hh]
        have hz1 : (s.heap.push (setOb w)).objs.size = s.heap.objs.size + 1 := Heap.size_push ..
        have hneI : l ≠ (s.heap.push (setOb w)).objs.size := by rw [hz1]; exact Nat.ne_of_lt (Nat.lt_succ_of_lt hlS)
        have hSf : s.heap.objs.size ∉ [(s.heap.push (setOb w)).objs.size, l] := by
          rw [hz1]
          intro z
          rcases List.mem_cons.mp z with z | z
          · exact absurd z (Nat.ne_of_lt (Nat.lt_succ_self _))
          · exact absurd (List.mem_singleton.mp z) (Nat.ne_of_gt hlS)
        refine update_G (knd := knd) ((Walks.list hh3 _ l hneI items).toS) s.heap.objs.size hSf xs sz few hv (items.size - 0) 0 _ (by omega) (Nat.zero_le _)
          ⟨⟨_, Heap.get?_push_size _ rfl, rfl, rfl⟩, (hl1.push _)⟩ (setG_new (Heap.get?_push_of_some _ hS)) fun s' hm R' => ?_
        obtain ⟨h', g2, d', tk', os'⟩ := s'
        have eg : g2 = s.gens := hm.gens
        have ed : d' = s.drawn := hm.drawn
        have eo : os' = s.os := hm.os
        subst eg; subst ed; subst eo
        show wpAny _ _ _ _ _ _
        refine wpAny_pure ?_
        show wpAny _ _ (ret Value.none) _ _ _
        refine wpAny_pure ⟨rfl, h', tk', rfl, R', fun b o e => ?_⟩
        have hb0 : b < s.heap.objs.size := Heap.lt_size e
        refine hm.heap b o (fun z => ?_) (Heap.get?_push_of_some _ (Heap.get?_push_of_some _ e))
        rcases List.mem_cons.mp z with z | z
        · exact absurd z (Nat.ne_of_lt hb0)
        · have z := List.mem_singleton.mp z
          rw [hz1] at z
          exact absurd z (Nat.ne_of_lt (Nat.lt_succ_of_lt hb0))
      · cases r₂ with
        | error e => exact hr₂
        | ok fl₂ =>
          cases fl₂ with
          | ret r =>
            obtain ⟨rfl, h', tk, rfl, R', hk'⟩ := hr₂
            repeat (any_goals (first | assumption | wp_step))
            exact h _ _ R' hk'
          | _ => exact hr₂.elim
    | _ => exact hr.elim
end
end NS
/-! D1: data (ints, texts, None, tuples of such) over the tracked heap; dicts and sets with such keys. -/
namespace NS
open PySem PySem.Spec PyProof.Rows L2
abbrev Dat := NestedKey
mutual
/-- the value is this datum: its tuples are tracked -/
inductive Rk (H : Hp) : Dat → V → Prop
  | none : Rk H .none .non
  | num (i : Int) : Rk H (.num i) (.int i)
  | text (x : Str) : Rk H (.text x) (.str x)
  | tup {b : Addr} {xs : List V} {ks : List Dat} : H b = some (.tup xs) → Rks H ks xs → Rk H (.tup ks) (.ref b)
inductive Rks (H : Hp) : List Dat → List V → Prop
  | nil : Rks H [] []
  | cons {k : Dat} {ks : List Dat} {x : V} {xs : List V} : Rk H k x → Rks H ks xs → Rks H (k :: ks) (x :: xs)
end
/-- the tuples stay -/
def Tups (H H' : Hp) : Prop := ∀ b xs, H b = some (.tup xs) → H' b = some (.tup xs)
theorem Tups.refl {H : Hp} : Tups H H := fun _ _ e => e
theorem Tups.trans {H1 H2 H3 : Hp} (a : Tups H1 H2) (b : Tups H2 H3) : Tups H1 H3 := fun c xs e => b c xs (a c xs e)
theorem Tups.new {H : Hp} {a : Addr} {o : HO} (h : H a = none) : Tups H (upd H a o) := fun b xs e => by rw [upd_ne (ne_of_none e h)]; exact e
theorem Tups.put {H : Hp} {a : Addr} {o u : HO} (h : H a = some u) (ne : ∀ xs, u ≠ .tup xs) : Tups H (upd H a o) := fun b xs e => by
  rw [upd_ne (ne_of e h fun z => ne xs z.symm)]; exact e
mutual
theorem Rk.at {H H' : Hp} (t : Tups H H') : ∀ {k : Dat} {v : V}, Rk H k v → Rk H' k v
  | _, _, .none => .none
  | _, _, .num i => .num i
  | _, _, .text x => .text x
  | _, _, .tup h r => .tup (t _ _ h) (Rks.at t r)
theorem Rks.at {H H' : Hp} (t : Tups H H') : ∀ {ks : List Dat} {vs : List V}, Rks H ks vs → Rks H' ks vs
  | _, _, .nil => .nil
  | _, _, .cons h r => .cons (Rk.at t h) (Rks.at t r)
end
mutual
theorem Rk.uniq {H : Hp} : ∀ {k j : Dat} {v : V}, Rk H k v → Rk H j v → k = j
  | _, _, _, .none, .none => rfl
  | _, _, _, .num _, .num _ => rfl
  | _, _, _, .text _, .text _ => rfl
  | _, _, _, .tup h r, .tup h' r' => by rw [h] at h'; cases h'; rw [Rks.uniq r r']
theorem Rks.uniq {H : Hp} : ∀ {ks js : List Dat} {vs : List V}, Rks H ks vs → Rks H js vs → ks = js
  | _, _, _, .nil, .nil => rfl
  | _, _, _, .cons h r, .cons h' r' => by rw [Rk.uniq h h', Rks.uniq r r']
end
theorem Rks.length {H : Hp} : ∀ {ks : List Dat} {vs : List V}, Rks H ks vs → ks.length = vs.length
  | _, _, .nil => rfl
  | _, _, .cons _ r => by rw [List.length_cons, List.length_cons, Rks.length r]
theorem Rks.get {H : Hp} : ∀ {ks : List Dat} {vs : List V} {i : Nat} {k : Dat}, Rks H ks vs → ks[i]? = some k → ∃ v, vs[i]? = some v ∧ Rk H k v
  | _, _, _, _, .nil, e => by simp at e
  | _, _, 0, _, .cons h _, e => by simp at e; subst e; exact ⟨_, rfl, h⟩
  | _, _, i + 1, k, .cons _ r, e => by
    obtain ⟨v, h1, h2⟩ := Rks.get (i := i) (k := k) r (by simpa using e)
    exact ⟨v, by simpa using h1, h2⟩
theorem Rks.getV {H : Hp} : ∀ {ks : List Dat} {vs : List V} {i : Nat} {v : V}, Rks H ks vs → vs[i]? = some v → ∃ k, ks[i]? = some k ∧ Rk H k v
  | _, _, _, _, .nil, e => by simp at e
  | _, _, 0, _, .cons h _, e => by simp at e; subst e; exact ⟨_, rfl, h⟩
  | _, _, i + 1, k, .cons _ r, e => by
    obtain ⟨v, h1, h2⟩ := Rks.getV (i := i) (v := k) r (by simpa using e)
    exact ⟨v, by simpa using h1, h2⟩
theorem Rks.append {H : Hp} : ∀ {ks js : List Dat} {vs ws : List V}, Rks H ks vs → Rks H js ws → Rks H (ks ++ js) (vs ++ ws)
  | _, _, _, _, .nil, r => r
  | _, _, _, _, .cons h t, r => .cons h (Rks.append t r)
theorem Rks.take {H : Hp} : ∀ {ks : List Dat} {vs : List V} (n : Nat), Rks H ks vs → Rks H (ks.take n) (vs.take n)
  | _, _, 0, _ => .nil
  | _, _, _ + 1, .nil => .nil
  | _, _, n + 1, .cons h t => .cons h (Rks.take n t)
theorem Rks.reverse {H : Hp} : ∀ {ks : List Dat} {vs : List V}, Rks H ks vs → Rks H ks.reverse vs.reverse
  | _, _, .nil => .nil
  | _, _, .cons h t => by rw [List.reverse_cons, List.reverse_cons]; exact (Rks.reverse t).append (.cons h .nil)
theorem Rks.ints {H : Hp} : ∀ (ns : List Int), Rks H (ns.map .num) (ns.map .int)
  | [] => .nil
  | n :: ns => .cons (.num n) (Rks.ints ns)
theorem Rks.strs {H : Hp} : ∀ (ns : List Str), Rks H (ns.map .text) (ns.map .str)
  | [] => .nil
  | n :: ns => .cons (.text n) (Rks.strs ns)
theorem Rks.intsV {H : Hp} : ∀ {ns : List Int} {vs : List V}, Rks H (ns.map .num) vs → vs = ns.map .int
  | [], _, .nil => rfl
  | n :: ns, _, .cons (.num _) r => by rw [Rks.intsV r]; rfl
theorem Rks.strsV {H : Hp} : ∀ {ns : List Str} {vs : List V}, Rks H (ns.map .text) vs → vs = ns.map .str
  | [], _, .nil => rfl
  | n :: ns, _, .cons (.text _) r => by rw [Rks.strsV r]; rfl
theorem Rk.num_eq {H : Hp} {i : Int} {v : V} (h : Rk H (.num i) v) : v = .int i := by cases h; rfl
theorem Rk.text_eq {H : Hp} {x : Str} {v : V} (h : Rk H (.text x) v) : v = .str x := by cases h; rfl
theorem Rk.none_eq {H : Hp} {v : V} (h : Rk H .none v) : v = .non := by cases h; rfl
theorem Rk.tup_eq {H : Hp} {ks : List Dat} {v : V} (h : Rk H (.tup ks) v) : ∃ b xs, v = .ref b ∧ H b = some (.tup xs) ∧ Rks H ks xs := by cases h with | tup h r => exact ⟨_, _, rfl, h, r⟩

section
variable {P : Program} {w : World} {H : Hp} {h : Heap}
mutual
/-- .. as the library's keys -/
theorem Rk.is (ok : HOk P w H h) : ∀ {k : Dat} {v : V} {u : Value}, Rk H k v → RelV v u → NestedIs h k u
  | _, _, _, .none, r => by cases r; exact .none
  | _, _, _, .num i, r => by obtain ⟨t, rfl⟩ := r; exact .int _ _
  | _, _, _, .text x, r => by obtain ⟨t, rfl⟩ := r; exact .text _ _
  | _, _, _, .tup e q, r => by
    cases r
    obtain ⟨_, its, rv, o, ho, hc, n, hd⟩ := ok _ _ e
    exact .tup ho hc hd (Rks.is ok q (by simpa using rv))
theorem Rks.is (ok : HOk P w H h) : ∀ {ks : List Dat} {vs : List V} {us : List Value}, Rks H ks vs → Vals vs us → NestedAll h ks us
  | _, _, _, .nil, r => by cases r; exact .nil
  | _, _, _, .cons e q, r => by
    cases r with
    | cons r1 r2 => exact .cons (Rk.is ok e r1) (Rks.is ok q r2)
end
end
mutual
/-- .. as data -/
theorem Rk.dp {K : PySem.W.Frag} {H : Hp} : ∀ {k : Dat} {v : V}, Rk H k v → Dp K H v k.data
  | _, _, .none => by rw [NestedKey.data]; exact .non
  | _, _, .num i => by rw [NestedKey.data]; exact .int i
  | _, _, .text x => by rw [NestedKey.data]; exact .str x
  | _, _, .tup e q => by rw [NestedKey.data]; exact .tup (SqT.of e) (Rks.dp q)
theorem Rks.dp {K : PySem.W.Frag} {H : Hp} : ∀ {ks : List Dat} {vs : List V}, Rks H ks vs → DpAll K H vs (NestedKey.datas ks)
  | _, _, .nil => by rw [NestedKey.datas]; exact .nil
  | _, _, .cons e q => by rw [NestedKey.datas]; exact .cons (Rk.dp e) (Rks.dp q)
end
mutual
theorem data_depth : ∀ k : Dat, PyData.depth k.data = k.depth
  | .none => by simp [NestedKey.data, PyData.depth, NestedKey.depth]
  | .num i => by simp [NestedKey.data, PyData.depth, NestedKey.depth]
  | .text x => by simp [NestedKey.data, PyData.depth, NestedKey.depth]
  | .tup ks => by rw [NestedKey.data, PyData.depth, NestedKey.depth, datas_depth ks]
theorem datas_depth : ∀ ks : List Dat, PyData.depthAll (NestedKey.datas ks) = NestedKey.depthAll ks
  | [] => by simp [NestedKey.datas, PyData.depthAll, NestedKey.depthAll]
  | k :: ks => by rw [NestedKey.datas, PyData.depthAll, NestedKey.depthAll, data_depth k, datas_depth ks]
end
theorem datas_map : ∀ ks : List Dat, NestedKey.datas ks = ks.map NestedKey.data
  | [] => by rw [NestedKey.datas]; rfl
  | k :: ks => by rw [NestedKey.datas, datas_map ks]; rfl
mutual
theorem data_eqv : ∀ k j : Dat, PyData.eqv k.data j.data = NestedKey.beq k j
  | .none, .none => by simp [NestedKey.data, PyData.eqv, NestedKey.beq]
  | .num a, .num b => by simp [NestedKey.data, PyData.eqv, NestedKey.beq]; exact Bool.beq_eq_decide_eq a b
  | .text a, .text b => by simp [NestedKey.data, PyData.eqv, NestedKey.beq]; exact Bool.beq_eq_decide_eq a b
  | .tup a, .tup b => by rw [NestedKey.data, NestedKey.data, PyData.eqv, NestedKey.beq]; exact datas_eqv a b
  | .none, .num _ | .none, .text _ | .none, .tup _ => by simp [NestedKey.data, PyData.eqv, NestedKey.beq]
  | .num _, .none | .num _, .text _ | .num _, .tup _ => by simp [NestedKey.data, PyData.eqv, NestedKey.beq]
  | .text _, .none | .text _, .num _ | .text _, .tup _ => by simp [NestedKey.data, PyData.eqv, NestedKey.beq]
  | .tup _, .none | .tup _, .num _ | .tup _, .text _ => by simp [NestedKey.data, PyData.eqv, NestedKey.beq]
theorem datas_eqv : ∀ ks js : List Dat, PyData.eqvAll (NestedKey.datas ks) (NestedKey.datas js) = NestedKey.beqAll ks js
  | [], [] => by simp [NestedKey.datas, PyData.eqvAll, NestedKey.beqAll]
  | k :: ks, j :: js => by rw [NestedKey.datas, NestedKey.datas, PyData.eqvAll, NestedKey.beqAll, data_eqv k j, datas_eqv ks js]
  | [], _ :: _ => by simp [NestedKey.datas, PyData.eqvAll, NestedKey.beqAll]
  | _ :: _, [] => by simp [NestedKey.datas, PyData.eqvAll, NestedKey.beqAll]
end
theorem data_eq (k j : Dat) : PyData.eqv k.data j.data = decide (k = j) := by rw [data_eqv, NestedKey.decide_eq]
/-- a datum that == may be asked of: flat enough, its texts of real signs -/
def Fine (k : Dat) : Prop := PyData.canLay0 k.data = true ∧ k.depth ≤ 8
theorem Fine.shaped {k : Dat} (h : Fine k) : SeqAt.shaped k.data = true := by
  show (PyData.canLay0 k.data && decide (PyData.depth k.data ≤ 64)) = true
  rw [h.1, data_depth, Bool.true_and]
  exact decide_eq_true (by have := h.2; omega)
theorem fine_all : ∀ {ks : List Dat}, (∀ k ∈ ks, Fine k) → PyData.canLayAll0 (NestedKey.datas ks) = true ∧ NestedKey.depthAll ks ≤ 8
  | [], _ => by simp [NestedKey.datas, PyData.canLayAll0, NestedKey.depthAll]
  | k :: ks, h => by
    obtain ⟨h1, h2⟩ := fine_all (ks := ks) fun j hj => h j (List.mem_cons_of_mem _ hj)
    have h3 := h k (by simp)
    rw [NestedKey.datas, PyData.canLayAll0, NestedKey.depthAll, h3.1, h1]
    exact ⟨rfl, Nat.max_le.mpr ⟨h3.2, h2⟩⟩
theorem fines_shaped {ks : List Dat} (h : ∀ k ∈ ks, Fine k) : SeqAt.shaped (.list (NestedKey.datas ks)) = true := by
  obtain ⟨h1, h2⟩ := fine_all h
  show (PyData.canLay0 (.list (NestedKey.datas ks)) && decide (PyData.depth (.list (NestedKey.datas ks)) ≤ 64)) = true
  rw [PyData.canLay0, PyData.depth, h1, datas_depth, Bool.true_and]
  exact decide_eq_true (by omega)
theorem Fine.num (i : Int) : Fine (.num i) := ⟨by simp [NestedKey.data, PyData.canLay0], by simp [NestedKey.depth]⟩
theorem Fine.none : Fine .none := ⟨by simp [NestedKey.data, PyData.canLay0], by simp [NestedKey.depth]⟩
theorem Fine.text {x : Str} (h : PyData.strOk x = true) : Fine (.text x) := ⟨by simpa [NestedKey.data, PyData.canLay0] using h, by simp [NestedKey.depth]⟩
theorem depthAll_lt : ∀ {ks : List Dat} {n : Nat}, (∀ k ∈ ks, k.depth ≤ n) → NestedKey.depthAll ks ≤ n
  | [], _, _ => by simp [NestedKey.depthAll]
  | k :: ks, n, h => by rw [NestedKey.depthAll]; exact Nat.max_le.mpr ⟨h k (by simp), depthAll_lt fun j hj => h j (List.mem_cons_of_mem _ hj)⟩
theorem Fine.tup {ks : List Dat} (h : ∀ k ∈ ks, Fine k) (d : ∀ k ∈ ks, k.depth ≤ 7) : Fine (.tup ks) := by
  refine ⟨?_, ?_⟩
  · rw [NestedKey.data, PyData.canLay0]; exact (fine_all h).1
  · rw [NestedKey.depth]; have := depthAll_lt d; omega
theorem any_datas (k : Dat) (ks : List Dat) : ((NestedKey.datas ks).any fun z => PyData.eqv z k.data) = decide (k ∈ ks) := by
  rw [datas_map, List.any_map, Bool.eq_iff_iff, List.any_eq_true, decide_eq_true_eq]
  constructor
  · rintro ⟨j, hj, e⟩
    have e : PyData.eqv j.data k.data = true := e
    rw [data_eq, decide_eq_true_eq] at e
    rw [← e]; exact hj
  · intro h
    refine ⟨k, h, ?_⟩
    show PyData.eqv k.data k.data = true
    rw [data_eq]
    exact decide_eq_true rfl
section
variable {X : Cx}
/-- k in l, k not in l: a datum in a tracked list of data -/
def rInL (K : PySem.W.Frag) (neg : Bool) : R2 := fun x y H Q => ∃ k ks a vs, Rk H k x ∧ y = .ref a ∧ SqL K H a vs ∧ Rks H ks vs ∧ Fine k ∧ (∀ j ∈ ks, Fine j) ∧ Q (.bl (if neg = true then !decide (k ∈ ks) else decide (k ∈ ks))) H
theorem op_inL (hu : X.A.units + 65 < cLine) : OpR X (compareOp .In) (rInL X.K false) := by
  intro pins s σ H x y v u Q I rx ry h
  obtain ⟨k, ks, a, vs, h1, rfl, h2, h3, d1, d2, q⟩ := h
  refine op_inD hu pins s σ H x (.ref a) v u Q I rx ry ⟨k.data, NestedKey.datas ks, h1.dp, .lst h2 h3.dp, d1.shaped, fines_shaped d2, ?_⟩
  rw [any_datas]; exact q
theorem op_ninL (hu : X.A.units + 65 < cLine) : OpR X (compareOp .NotIn) (rInL X.K true) := by
  intro pins s σ H x y v u Q I rx ry h
  obtain ⟨k, ks, a, vs, h1, rfl, h2, h3, d1, d2, q⟩ := h
  refine op_notInD hu pins s σ H x (.ref a) v u Q I rx ry ⟨k.data, NestedKey.datas ks, h1.dp, .lst h2 h3.dp, d1.shaped, fines_shaped d2, ?_⟩
  rw [any_datas]; exact q
end
end NS
/-! D2: dicts whose keys are data: get, in, store, len, list, walk, {}, {k: v}. -/
namespace NS
open PySem PySem.Spec PyProof.Rows L2
abbrev Ent := Dat × Addr × V
abbrev EntR : List Ent → List (Dat × Addr × Value) → Prop := Paired fun p q => p.1 = q.1 ∧ p.2.1 = q.2.1 ∧ RelV p.2.2 q.2.2
def lkN (ks : List Ent) (k : Dat) : Option V := (ks.find? fun p => decide (p.1 = k)).map (·.2.2)
def putN (ks : List Ent) (k : Dat) (b : Addr) (v : V) : List Ent := if (lkN ks k).isSome = true then ks.map (fun p => if p.1 = k then (p.1, p.2.1, v) else p) else ks ++ [(k, b, v)]
section
variable {P : Program} {w : World}
def dRaw (P : Program) (w : World) (a : Addr) (ks : List Ent) (h : Heap) : Prop := (a == sysModules) = false ∧ ks.length ≤ sizeLine ∧ ∃ xs, EntR ks xs ∧
  ∃ o es ep, h.get? a = some o ∧ o.ExactDict ∧ o.data = .dict es ep ∧ es.toList = xs.map (entryOfKey (nestedKind P w)) ∧ (xs.map (·.1)).Nodup
/-- a dict with these keys (the tuples at these places) and values -/
def dNO (P : Program) (w : World) (a : Addr) (ks : List Ent) : HO := .ext (dRaw P w a ks)
theorem dNO_ok {H : Hp} {h : Heap} {a : Addr} {ks : List Ent} (x : dRaw P w a ks h) : ObjOk P w H h a (dNO P w a ks) := by
  obtain ⟨x1, x2, xs, x3, o, es, ep, ho, r⟩ := x
  refine ⟨⟨x1, x2, xs, x3, o, es, ep, ho, r⟩, ⟨o, ho⟩, ?_⟩
  rintro h1 h2 ⟨y1, y2, ys, y3, o', es', ep', ho', r'⟩ k
  exact ⟨y1, y2, ys, y3, o', es', ep', k _ ho', r'⟩
/-- k stands at b and may be a key -/
abbrev Ky (H : Hp) (k : Dat) (b : Addr) : Prop := Rk H k (.ref b) ∧ k.depth ≤ 8
structure Dn (P : Program) (w : World) (H : Hp) (a : Addr) (ks : List Ent) : Prop where
  rd : Rd H a (dNO P w a ks)
  kys : ∀ p ∈ ks, Ky H p.1 p.2.1
theorem Ky.at {H H' : Hp} {k : Dat} {b : Addr} (t : Tups H H') (x : Ky H k b) : Ky H' k b := ⟨x.1.at t, x.2⟩
theorem Ky.is {H : Hp} {h : Heap} {k : Dat} {b : Addr} (x : Ky H k b) (ok : HOk P w H h) : (nestedKind P w).is h k b := ⟨x.1.is ok (show RelV (.ref b) (.ref b) from rfl), x.2⟩
theorem Dn.move {H H' : Hp} {a : Addr} {ks : List Ent} (x : Dn P w H a ks) (t : Tups H H') (e : Rd H' a (dNO P w a ks)) : Dn P w H' a ks := ⟨e, fun p hp => (x.kys p hp).at t⟩
theorem Dn.raw {H : Hp} {h : Heap} {a : Addr} {ks : List Ent} (x : Dn P w H a ks) (ok : HOk P w H h) : dRaw P w a ks h := (x.rd.ok ok).1
theorem Dn.of {H : Hp} {h : Heap} {a : Addr} {ks : List Ent} (x : Dn P w H a ks) (ok : HOk P w H h) :
    (a == sysModules) = false ∧ ks.length ≤ sizeLine ∧ ∃ xs, EntR ks xs ∧ h.DictOfH (nestedKind P w) a xs := by
  obtain ⟨h1, h2, xs, h3, o, es, ep, h4, h5, h6, h7, h8⟩ := x.raw ok
  refine ⟨h1, h2, xs, h3, o, es, ep, h4, h5, h6, h7, fun q hq => ?_, h8⟩
  obtain ⟨i, hi⟩ := List.mem_iff_getElem?.mp hq
  have all : ∀ {ks : List Ent} {xs : List (Dat × Addr × Value)}, EntR ks xs → (∀ p ∈ ks, Ky H p.1 p.2.1) → ∀ q ∈ xs, (nestedKind P w).is h q.1 q.2.1 := by
    intro ks xs r
    induction r with
    | nil => intro _ q hq; cases hq
    | @cons p q ps qs e t ih =>
      intro hk q' hq'
      rcases List.mem_cons.mp hq' with rfl | hq'
      · have := (hk p (by simp)).is ok
        rwa [e.1, e.2.1] at this
      · exact ih (fun p hp => hk p (List.mem_cons_of_mem _ hp)) q' hq'
  exact all h3 x.kys q hq
theorem EntR.val {ks : List Ent} {xs : List (Dat × Addr × Value)} (r : EntR ks xs) (k : Dat) : RelO (lkN ks k) ((atKey xs k).map (·.2)) := by
  induction r with
  | nil => exact True.intro
  | @cons p q ps qs h t ih =>
    obtain ⟨h1, _, h2⟩ := h
    by_cases e : p.1 = k
    · have a : lkN (p :: ps) k = some p.2.2 := by simp [lkN, e]
      have b : atKey (q :: qs) k = some q.2 := by simp [atKey, h1.symm.trans e]
      rw [a, b]; exact h2
    · have a : lkN (p :: ps) k = lkN ps k := by simp [lkN, e]
      have b : atKey (q :: qs) k = atKey qs k := by simp [atKey, show ¬ q.1 = k from fun z => e (h1.trans z)]
      rw [a, b]; exact ih
theorem EntR.put {ks : List Ent} {xs : List (Dat × Addr × Value)} (r : EntR ks xs) (k : Dat) (b : Addr) {v : V} {u : Value} (rv : RelV v u) : EntR (putN ks k b v) (storedH xs k b u) := by
  have e : (lkN ks k).isSome = (atKey xs k).isSome := by rw [(r.val k).isSome_eq, Option.isSome_map]
  unfold putN storedH
  rw [e]
  split
  · rename_i hh
    clear hh e
    induction r with
    | nil => exact .nil
    | @cons p q ps qs h t ih =>
      rw [List.map_cons, List.map_cons]
      refine .cons ?_ ih
      obtain ⟨h1, h2, h3⟩ := h
      unfold putAt
      by_cases z : p.1 = k
      · rw [if_pos z, if_pos (h1.symm.trans z)]; exact ⟨h1, h2, rv⟩
      · rw [if_neg z, if_neg (fun y => z (h1.trans y))]; exact ⟨h1, h2, h3⟩
  · exact Paired.snoc r ⟨rfl, rfl, rv⟩
end
/-! ### the table -/
theorem lkN_mem {ks : List Ent} {k : Dat} : (lkN ks k).isSome = true ↔ k ∈ ks.map (·.1) := by
  unfold lkN
  rw [Option.isSome_map, List.find?_isSome, List.mem_map]
  exact ⟨fun ⟨p, h1, h2⟩ => ⟨p, h1, of_decide_eq_true h2⟩, fun ⟨p, h1, h2⟩ => ⟨p, h1, decide_eq_true h2⟩⟩
theorem lkN_some {ks : List Ent} {k : Dat} {v : V} (h : lkN ks k = some v) : ∃ b, (k, b, v) ∈ ks := by
  unfold lkN at h
  obtain ⟨⟨k', b, v'⟩, h1, h2⟩ := Option.map_eq_some_iff.mp h
  have h3 := List.find?_some h1
  have h4 := List.mem_of_find?_eq_some h1
  have h3 : k' = k := of_decide_eq_true h3
  subst h3
  have h2 : v' = v := h2
  subst h2
  exact ⟨b, h4⟩
theorem lkN_of {ks : List Ent} (nd : (ks.map (·.1)).Nodup) {k : Dat} {b : Addr} {v : V} (h : (k, b, v) ∈ ks) : lkN ks k = some v := by
  induction ks with
  | nil => cases h
  | cons p ps ih =>
    rw [List.map_cons, List.nodup_cons] at nd
    rcases List.mem_cons.mp h with rfl | h
    · simp [lkN]
    · have ne : ¬ p.1 = k := fun e => nd.1 (e ▸ List.mem_map.mpr ⟨_, h, rfl⟩)
      have := ih nd.2 h
      simpa [lkN, ne] using this
theorem lkN_nil {k : Dat} : lkN [] k = none := rfl
theorem lkN_snoc {ks : List Ent} {k j : Dat} {b : Addr} {v : V} (h : lkN ks k = none) : lkN (ks ++ [(k, b, v)]) j = if j = k then some v else lkN ks j := by
  induction ks with
  | nil =>
    by_cases e : k = j
    · subst e; simp [lkN]
    · simp [lkN, e, Ne.symm e, show ¬ j = k from fun z => e z.symm]
  | cons p ps ih =>
    have hk : ¬ p.1 = k := fun e => by simp [lkN, e] at h
    have h' : lkN ps k = none := by simpa [lkN, hk] using h
    by_cases e : p.1 = j
    · have ne : ¬ j = k := fun z => hk (e.trans z)
      simp [lkN, e, ne]
    · have := ih h'
      simpa [lkN, e] using this
theorem putN_new {ks : List Ent} {k : Dat} (b : Addr) (v : V) (h : lkN ks k = none) : putN ks k b v = ks ++ [(k, b, v)] := by
  unfold putN; rw [h]; rfl
theorem putN_old {ks : List Ent} {k : Dat} (b : Addr) (v : V) (h : (lkN ks k).isSome = true) : putN ks k b v = ks.map (fun p => if p.1 = k then (p.1, p.2.1, v) else p) := by
  unfold putN; rw [if_pos h]
theorem lkN_put (ks : List Ent) (k j : Dat) (b : Addr) (v : V) : lkN (putN ks k b v) j = if j = k then some v else lkN ks j := by
  cases h : lkN ks k with
  | none => rw [putN_new b v h]; exact lkN_snoc h
  | some u =>
    rw [putN_old b v (by rw [h]; rfl)]
    have go : ∀ ks : List Ent, lkN (ks.map fun p => if p.1 = k then (p.1, p.2.1, v) else p) j = if j = k then (lkN ks j).map fun _ => v else lkN ks j := by
      intro ks
      induction ks with
      | nil => simp [lkN]
      | cons p ps ih =>
        rw [List.map_cons]
        by_cases e : p.1 = k
        · rw [if_pos e]
          by_cases z : k = j
          · subst z; simp [lkN, e]
          · have z' : ¬ j = k := fun y => z y.symm
            rw [if_neg z'] at ih ⊢
            simpa [lkN, e, z] using ih
        · rw [if_neg e]
          by_cases z : p.1 = j
          · have z' : ¬ j = k := fun y => e (z.trans y)
            simp [lkN, z, z']
          · have a1 : lkN (p :: List.map (fun p => if p.1 = k then (p.1, p.2.1, v) else p) ps) j = lkN (List.map (fun p => if p.1 = k then (p.1, p.2.1, v) else p) ps) j := by simp [lkN, z]
            have a2 : lkN (p :: ps) j = lkN ps j := by simp [lkN, z]
            rw [a1, a2]; exact ih
    rw [go]
    by_cases e : j = k
    · subst e; rw [if_pos rfl, if_pos rfl, h]; rfl
    · rw [if_neg e, if_neg e]
theorem keys_put (ks : List Ent) (k : Dat) (b : Addr) (v : V) : (putN ks k b v).map (·.1) = if k ∈ ks.map (·.1) then ks.map (·.1) else ks.map (·.1) ++ [k] := by
  by_cases h : k ∈ ks.map (·.1)
  · rw [if_pos h, putN_old b v (lkN_mem.mpr h), List.map_map]
    refine List.map_congr_left fun p _ => ?_
    show (if p.1 = k then (p.1, p.2.1, v) else p).1 = p.1
    split <;> rfl
  · have : lkN ks k = none := by
      cases q : lkN ks k with
      | none => rfl
      | some u => exact absurd (lkN_mem.mp (by rw [q]; rfl)) h
    rw [if_neg h, putN_new b v this, List.map_append]
    rfl
theorem nodup_put {ks : List Ent} (nd : (ks.map (·.1)).Nodup) (k : Dat) (b : Addr) (v : V) : ((putN ks k b v).map (·.1)).Nodup := by
  rw [keys_put]
  split
  · exact nd
  · rename_i h
    rw [List.nodup_append]
    exact ⟨nd, by simp, fun a ha c hc e => h (by rw [List.mem_singleton] at hc; rw [← hc, ← e]; exact ha)⟩
theorem length_putN (ks : List Ent) (k : Dat) (b : Addr) (v : V) : (putN ks k b v).length ≤ ks.length + 1 := by
  unfold putN; split
  · rw [List.length_map]; omega
  · simp
theorem kys_put {H H' : Hp} {ks : List Ent} (t : Tups H H') (h : ∀ p ∈ ks, Ky H p.1 p.2.1) {k : Dat} {b : Addr} (hk : Ky H' k b) (v : V) : ∀ p ∈ putN ks k b v, Ky H' p.1 p.2.1 := by
  unfold putN
  split
  · intro p hp
    obtain ⟨q, hq, rfl⟩ := List.mem_map.mp hp
    have := (h q hq).at t
    split <;> exact this
  · intro p hp
    rcases List.mem_append.mp hp with hp | hp
    · exact (h p hp).at t
    · rw [List.mem_singleton] at hp; subst hp; exact hk
/-! ### the rules -/
section
variable {X : Cx} {pins : List (Addr × Obj)} {σ : L2.St} {H : Hp} {s : Shared} {A : Around} {E : Value → Shared → Prop} {a b : Addr} {ks : List Ent} {k : Dat} {v : V}
theorem dn_get {Q : Value → Shared → Prop} (hu : A.units + 9 < cLine) (I : L2.Inv X pins σ H s) (d : Dn X.prog X.w H a ks) (hk : Ky H k b) (l : lkN ks k = some v) (h : ∀ w' s', L2.Inv X pins σ H s' → RelV v w' → Q w' s') :
    wpAny (model X.prog X.w) A (getItem (.ref a) (.ref b)) Q E s := by
  obtain ⟨h1, h2, xs, rel, dd⟩ := d.of I.hok
  obtain ⟨w', hw, rw'⟩ := RelO.some_of (v := v) (o := (atKey xs k).map (·.2)) (by rw [← l]; exact rel.val k)
  obtain ⟨p, hp, hp2⟩ := Option.map_eq_some_iff.mp hw
  refine wpAny_getItem_heap (show A.in1.units + 8 < cLine from (show A.units + 1 + 8 < cLine by omega)) (hk.is I.hok) dd hp ?_
  rw [hp2]
  exact h w' _ (I.tok _) rw'
theorem dn_in {Q : Value → Shared → Prop} (hu : A.units + 9 < cLine) (I : L2.Inv X pins σ H s) (d : Dn X.prog X.w H a ks) (hk : Ky H k b) (h : ∀ s', L2.Inv X pins σ H s' → Q (.bool (lkN ks k).isSome) s') :
    wpAny (model X.prog X.w) A (compareOp .In (.ref b) (.ref a)) Q E s := by
  obtain ⟨h1, h2, xs, rel, dd⟩ := d.of I.hok
  refine wpAny_in_heap (show A.in1.units + 8 < cLine from (show A.units + 1 + 8 < cLine by omega)) (hk.is I.hok) h1 dd ?_
  have q := (rel.val k).isSome_eq
  rw [Option.isSome_map] at q
  rw [← q]
  exact h _ (I.tok _)
theorem dn_notIn {Q : Value → Shared → Prop} (hu : A.units + 9 < cLine) (I : L2.Inv X pins σ H s) (d : Dn X.prog X.w H a ks) (hk : Ky H k b) (h : ∀ s', L2.Inv X pins σ H s' → Q (.bool (!(lkN ks k).isSome)) s') :
    wpAny (model X.prog X.w) A (compareOp .NotIn (.ref b) (.ref a)) Q E s := by
  obtain ⟨h1, h2, xs, rel, dd⟩ := d.of I.hok
  refine wpAny_notIn_heap (show A.in1.units + 8 < cLine from (show A.units + 1 + 8 < cLine by omega)) (hk.is I.hok) h1 dd ?_
  have q := (rel.val k).isSome_eq
  rw [Option.isSome_map] at q
  rw [← q]
  exact h _ (I.tok _)
theorem dn_raw {h' : Heap} {xs : List (Dat × Addr × Value)} (h1 : (a == sysModules) = false) (h2 : ks.length ≤ sizeLine) (rel : EntR ks xs) (dd : h'.DictOfH (nestedKind X.prog X.w) a xs) : dRaw X.prog X.w a ks h' := by
  obtain ⟨o, es, ep, h3, h4, h5, h6, _, h7⟩ := dd
  exact ⟨h1, h2, xs, rel, o, es, ep, h3, h4, h5, h6, h7⟩
theorem dn_set {Q : Unit → Shared → Prop} (hu : A.units + 9 < cLine) (I : L2.Inv X pins σ H s) (e : H a = some (dNO X.prog X.w a ks)) (kys : ∀ p ∈ ks, Ky H p.1 p.2.1) (hk : Ky H k b) (hl : ks.length < sizeLine) {u : Value} (rv : RelV v u)
    (h : ∀ s', L2.Inv X pins σ (upd H a (dNO X.prog X.w a (putN ks k b v))) s' → Q () s') : wpAny (model X.prog X.w) A (dictSet a (.ref b) u) Q E s := by
  obtain ⟨h1, h2, xs, rel, dd⟩ := (Dn.mk (.inl e) kys).of I.hok
  have hz : xs.length ≤ sizeLine := by rw [← Paired.length rel]; exact h2
  refine wpAny_dictSet_heap (hsz := hz) (show A.units + 8 < cLine by omega) (hk.is I.hok) dd fun h' dd' hs => h _ ?_
  have := length_putN ks k b v
  have he : ∃ q, h'.get? a = some q := let ⟨q, _, _, hq, _⟩ := dd'; ⟨q, hq⟩
  exact d_write I (by rw [e]; exact True.intro) hs he (dNO_ok (dn_raw h1 (by omega) (rel.put k b rv) dd'))
theorem dn_setItem {Q : Unit → Shared → Prop} (hu : A.units + 9 < cLine) (I : L2.Inv X pins σ H s) (e : H a = some (dNO X.prog X.w a ks)) (kys : ∀ p ∈ ks, Ky H p.1 p.2.1) (hk : Ky H k b) (hl : ks.length < sizeLine) {u : Value} (rv : RelV v u)
    (h : ∀ s', L2.Inv X pins σ (upd H a (dNO X.prog X.w a (putN ks k b v))) s' → Q () s') : wpAny (model X.prog X.w) A (setItem (.ref a) (.ref b) u) Q E s := by
  obtain ⟨h1, h2, xs, rel, dd⟩ := (Dn.mk (.inl e) kys).of I.hok
  have hz : xs.length ≤ sizeLine := by rw [← Paired.length rel]; exact h2
  refine wpAny_setItem_heap (hsz := hz) (show A.in1.units + 8 < cLine from (show A.units + 1 + 8 < cLine by omega)) (hk.is I.hok) dd fun h' dd' hs => h _ ?_
  have := length_putN ks k b v
  have he : ∃ q, h'.get? a = some q := let ⟨q, _, _, hq, _⟩ := dd'; ⟨q, hq⟩
  exact d_write I (by rw [e]; exact True.intro) hs he (dNO_ok (dn_raw h1 (by omega) (rel.put k b rv) dd'))
end
section
variable {X : Cx}
/-- k in d -/
def rInN (P : Program) (w : World) (neg : Bool) : R2 := fun x y H Q => ∃ k b a ks, x = .ref b ∧ y = .ref a ∧ Ky H k b ∧ Dn P w H a ks ∧ Q (.bl (if neg = true then !(lkN ks k).isSome else (lkN ks k).isSome)) H
theorem op_inN (hu : X.A.units + 9 < cLine) : OpR X (compareOp .In) (rInN X.prog X.w false) := by
  intro pins s σ H x y v u Q I rx ry h
  obtain ⟨k, b, a, ks, rfl, rfl, hk, d, q⟩ := h
  cases rx
  cases ry
  exact dn_in hu I d hk fun s' I' => ⟨.bl (lkN ks k).isSome, H, I', rfl, q⟩
theorem op_ninN (hu : X.A.units + 9 < cLine) : OpR X (compareOp .NotIn) (rInN X.prog X.w true) := by
  intro pins s σ H x y v u Q I rx ry h
  obtain ⟨k, b, a, ks, rfl, rfl, hk, d, q⟩ := h
  cases rx
  cases ry
  exact dn_notIn hu I d hk fun s' I' => ⟨.bl (!(lkN ks k).isSome), H, I', rfl, q⟩
/-- d[k] -/
def rGetN (P : Program) (w : World) : R2 := fun x y H Q => ∃ a b ks k v, x = .ref a ∧ y = .ref b ∧ Dn P w H a ks ∧ Ky H k b ∧ lkN ks k = some v ∧ Q v H
theorem ix_dN (hu : X.A.units + 9 < cLine) : IxR X (rGetN X.prog X.w) := by
  intro value slice pins s σ H x y v u Q I rx ry h hs
  obtain ⟨a, b, ks, k, z, rfl, rfl, d, hk, l, q⟩ := h
  cases rx
  cases ry
  obtain ⟨h1, h2, xs, rel, dd⟩ := d.of I.hok
  exact tail_any dd.typeIs PySem.F.slot_dict_getitem.lookup (dn_get hu I d hk l fun w' s' I' r => ⟨z, H, I', r, q⟩) hs
/-- d[k] = v -/
def rSetN (P : Program) (w : World) : TSet := fun o i v H Q => ∃ a b ks k, o = .ref a ∧ i = .ref b ∧ H a = some (dNO P w a ks) ∧ (∀ p ∈ ks, Ky H p.1 p.2.1) ∧ Ky H k b ∧ ks.length < sizeLine ∧ Q (upd H a (dNO P w a (putN ks k b v)))
theorem set_dN (hu : X.A.units + 9 < cLine) : PSet X (rSetN X.prog X.w) := by
  intro pins s σ H o i v ov iv u Q I ro ri rv h
  obtain ⟨a, b, ks, k, rfl, rfl, e, kys, hk, hl, q⟩ := h
  cases ro
  cases ri
  exact dn_setItem hu I e kys hk hl rv fun s' I' => ⟨_, I', q⟩
/-- len(d) -/
def rLenN (P : Program) (w : World) : List V → Hp → VK → Prop := fun xs H Q => ∃ a ks, xs = [.ref a] ∧ Dn P w H a ks ∧ Q (.int ((ks.length : Nat) : Int)) H
theorem call_lenN : CallR X (.builtin "len") (rLenN X.prog X.w) := by
  intro pins s σ H xs us Q I r h
  obtain ⟨a, ks, rfl, d, q⟩ := h
  obtain ⟨u, rfl, rx⟩ := vals1 r
  obtain rfl : u = .ref a := rx
  obtain ⟨h1, h2, ys, rel, dd⟩ := d.of I.hok
  have hl : ks.length = ys.length := Paired.length rel
  refine call_len_dictH h1 dd (by rw [← hl]; rw [sizeLine_eq] at h2; omega) ?_
  rw [← hl]
  exact ⟨.int ((ks.length : Nat) : Int), H, I.tok _, ⟨_, rfl⟩, q⟩
/-- {} -/
def tNewN (P : Program) (w : World) : TE := fun _ H Q => ∀ p, H p = none → Q (.ref p) (upd H p (dNO P w p []))
theorem dN_empty {P : Program} {w : World} (h : Heap) (hb : sysModules < h.objs.size) : dRaw P w h.objs.size [] (h.push { cls := .type "dict", data := .dict #[] }) :=
  ⟨beq_eq_false_iff_ne.mpr (Ne.symm (Nat.ne_of_lt hb)), Nat.zero_le _, [], .nil, _, #[], 0, Heap.get?_push_size _ rfl, ⟨rfl, rfl, rfl⟩, rfl, rfl, List.nodup_nil⟩
theorem pe_newN {pos : Pos} : PE X (.Dict [] [] pos) (tNewN X.prog X.w) := ⟨fun pins s σ H Q I h =>
  wpAny_Dict_empty ⟨.ref s.heap.objs.size, _, I.laid (a := s.heap.objs.size) (o := dNO X.prog X.w s.heap.objs.size []) (t' := s.toks) (fun _ _ q => Heap.get?_push_of_some _ q) (Nat.le_refl _) (dNO_ok (dN_empty s.heap I.big)), rfl, h _ (I.hok.fresh (Nat.le_refl _))⟩⟩
/-- {k: v} -/
def tDisN (P : Program) (w : World) (tk tv : TE) : TE := fun σ H Q => ∀ p, H p = none → tk σ (upd H p (dNO P w p [])) fun x H1 => tv σ H1 fun y H2 => H2 p = some (dNO P w p []) ∧ ∃ k b, x = .ref b ∧ Ky H2 k b ∧ Q (.ref p) (upd H2 p (dNO P w p [(k, b, y)]))
theorem pe_disN {pos : Pos} {ke ve : Expr} {tk tv : TE} (hu : X.A.units + 9 < cLine) (hk : PE X ke tk) (hv : PE X ve tv)
    (hshape : (evalEachOpt [some ke] X.env).zip ((evalEach [ve] X.env).map fun v => do let x ← v; standAt pos; pure x) = ([(eval ke X.env, (do let x ← eval ve X.env; standAt pos; pure x))] : List (Sem Value × Sem Value)).map (fun p => (some p.1, p.2)) := by rfl) :
    PE X (.Dict [some ke] [ve] pos) (tDisN X.prog X.w tk tv) := by
  refine ⟨fun pins s σ H Q I q => ?_⟩
  have hn := I.hok.fresh (Nat.le_refl s.heap.objs.size)
  have I1 := I.laid (a := s.heap.objs.size) (o := dNO X.prog X.w s.heap.objs.size []) (h' := s.heap.push { cls := .type "dict", data := .dict #[] }) (t' := s.toks) (fun _ _ q => Heap.get?_push_of_some _ q) (Nat.le_refl _) (dNO_ok (dN_empty s.heap I.big))
  rw [arm_eval_Dict, hshape, dictDisplay_pairs _ (by simp) (by simp)]
  refine wpAny_bind (wpAny_standAt (wpAny_bind (wpAny_subDictH (knd := nestedKind X.prog X.w) (Q := fun d s' => wpAny (model X.prog X.w) X.A (pure (Value.ref d)) (EP X pins σ Q) X.xe s') (show X.A.units + 8 < cLine by omega) (by simp) ?_)))
  have run := (pps_cons hk hv (pps_nil (pos := pos))).run pins _ σ _ (fun ps H' => H' s.heap.objs.size = some (dNO X.prog X.w s.heap.objs.size []) ∧
    match ps with
    | [(x, y)] => ∃ k b, x = .ref b ∧ Ky H' k b ∧ Q (.ref s.heap.objs.size) (upd H' s.heap.objs.size (dNO X.prog X.w s.heap.objs.size [(k, b, y)]))
    | _ => False) I1 (q _ hn)
  refine thn run fun ws s2 ⟨ps, H2, I2, rel, e, q2⟩ => ?_
  match ps, q2, rel with
  | [(_, y)], ⟨k, b, rfl, hky, q2⟩, .cons (b := (_, u)) ⟨r1, r2⟩ .nil =>
    cases r1
    have kys0 : ∀ p ∈ ([] : List Ent), Ky H2 p.1 p.2.1 := fun _ z => nomatch z
    obtain ⟨h1, h2, xs, rel0, dd⟩ := (Dn.mk (.inl e) kys0).of I2.hok
    cases rel0
    refine ⟨[(k, b, u)], ⟨rfl, rfl, hky.is I2.hok, True.intro⟩, dd, fun h' tk dd' hs => ?_⟩
    have he : ∃ q, h'.get? s.heap.objs.size = some q := let ⟨q, _, _, hq, _⟩ := dd'; ⟨q, hq⟩
    exact wpAny_pure ⟨.ref s.heap.objs.size, _, d_write I2 (by rw [e]; exact True.intro) hs he (dNO_ok (dn_raw h1 (by show 1 ≤ sizeLine; decide) (.cons ⟨rfl, rfl, r2⟩ .nil) dd')), rfl, q2⟩
end
end NS
/-! D3: walks over the keys of such dicts; list(d); dict comprehensions. -/
namespace NS
open PySem PySem.Spec PyProof.Rows L2
section
variable {X : Cx} {pins : List (Addr × Obj)} {σ : L2.St} {H : Hp} {s : Shared} {d : Addr} {o : Obj} {ks : List Ent}
theorem frzN (I : L2.Inv X pins σ H s) (h : H d = some (.frz o (dNO X.prog X.w d ks))) :
    (d == sysModules) = false ∧ s.heap.get? d = some o ∧ o.ExactDict ∧ ∃ (es : Array DictEntry) (ep : Nat), o.data = .dict es ep ∧ es.size = ks.length ∧
      ∀ (i : Nat) (e : Ent), ks[i]? = some e → ∃ en : DictEntry, es[i]? = some en ∧ en.key = .ref e.2.1 := by
  obtain ⟨hd, ⟨hs, hz, xs, pr, o', es, ep, ho, hx, hdt, he, _⟩, _⟩ := I.hok d _ h
  rw [hd] at ho
  cases ho
  refine ⟨hs, hd, hx, es, ep, hdt, ?_, fun i e hi => ?_⟩
  · have l1 : es.size = xs.length := size_of_entries he
    have l2 : ks.length = xs.length := Paired.length pr
    omega
  · obtain ⟨b, hb, e1, e2, _⟩ := paired_get pr hi
    have q := entry_at he i
    rw [hb] at q
    refine ⟨_, q, ?_⟩
    show Value.ref b.2.1 = _
    rw [e2]
end
/-- the keys of the locked dict at d, in their order -/
def ItK (P : Program) (w : World) (d : Addr) (o : Obj) (ks : List Ent) : L2.It :=
  ⟨fun i H => H d = some (.frz o (dNO P w d ks)) ∧ i < ks.length, fun i H x H' => H' = H ∧ ∃ e : Ent, ks[i]? = some e ∧ x = .ref e.2.1, fun i H => H d = some (.frz o (dNO P w d ks)) ∧ ks.length ≤ i⟩
theorem turn_keysN {P : Program} {w : World} {K : PySem.W.Frag} {tg : Expr} {d : Addr} {o : Obj} {es : Array DictEntry} {ep : Nat} {ks : List Ent} (it : Addr) (hod : o.data = .dict es ep) : Turn P w K tg (ItK P w d o ks) [it] it (fun i h => h.IsKeyIter it d i ks.length ep) where
  mem := by simp
  obj := fun i h st b hb => by
    have e : b = it := by simpa using hb
    subst e
    obtain ⟨oi, e, c, dd⟩ := st
    exact ⟨oi, e, fun v z => by rw [dd] at z; cases z⟩
  keep := fun i h h' st k => st.at fun oi e => k it (by simp) oi e
  item := by
    intro X hP hw hK hc i pins s σ H E I hf st hg
    subst hP hw hK
    obtain ⟨hd, hi⟩ := hg
    obtain ⟨f0, f1, f2, f3, f4, f5⟩ := hf it (by simp)
    obtain ⟨hs, hgd, hx, es', ep', hdt, hsz, ent⟩ := frzN I hd
    obtain ⟨rfl, rfl⟩ := dict_ep hod hdt
    obtain ⟨e, he⟩ : ∃ p, ks[i]? = some p := ⟨ks[i], List.getElem?_eq_getElem hi⟩
    obtain ⟨en, hen, hkey⟩ := ent i e he
    refine next_key_item st hgd hdt hsz hen fun h' st' sb => ?_
    have I1 : L2.Inv X pins σ H { s with heap := h' } := I.turned (t' := s.toks) (fun b ob hb e => (sb.2 b hb).trans e) f0 f1 f3 f4 f5
    obtain ⟨oi, e', c, dd⟩ := id st'
    exact ⟨en.key, rfl, go_of (s := { s with heap := h' }) e' c dd (by decide) ⟨.ref e.2.1, H, I1, hkey, ⟨rfl, e, he, rfl⟩, st', fun b hb => (hf b hb).1⟩⟩
  done := by
    intro X hP hw hK hc i pins s σ H E I hf st hg
    subst hP hw hK
    obtain ⟨hd, hi⟩ := hg
    obtain ⟨f0, f1, f2, f3, f4, f5⟩ := hf it (by simp)
    obtain ⟨hs, hgd, hx, es', ep', hdt, hsz, ent⟩ := frzN I hd
    obtain ⟨rfl, rfl⟩ := dict_ep hod hdt
    exact next_key_end (I.ok.hd hc) st hgd hdt hsz hi fun h' eb => ⟨rfl, I.turned (t' := s.toks) (fun b ob hb e => eb b ob hb e) f0 f1 f3 f4 f5⟩
  self := fun A i s Q E st h => by
    refine wpAny_pyIter_slot st.typeIs F.slot_dict_keyiterator_iter (wpAny_call_entry F.slot_dict_keyiterator_iter st.typeIs F.entry_dict_keyiterator_iter ?_ (F.args_dict_keyiterator_iter_1 _))
    show wpAny _ _ (ret (.ref it)) _ _ s
    exact wpAny_pure ⟨_, rfl, "dict_keyiterator", _, st.typeIs, F.slot_dict_keyiterator_next.lookup, h⟩
/-- for k in d: d locked -/
def iKeysN (P : Program) (w : World) (td : TE) : TI := fun σ H R => td σ H fun x H1 => ∃ d o ks, x = .ref d ∧ H1 d = some (.frz o (dNO P w d ks)) ∧ R (ItK P w d o ks) H1
theorem pi_keysN {X : Cx} {tg e : Expr} {td : TE} (he : PE X e td) : PI X tg e (iKeysN X.prog X.w td) := by
  refine ⟨fun pins s σ H R I h => ?_⟩
  refine thn (he.run pins s σ H _ I h) fun u s1 ⟨x, H1, I1, rx, d, o, ks, ex, hd, q⟩ => ?_
  subst ex
  obtain rfl : u = Value.ref d := rx
  obtain ⟨hs, hgd, hx, es, ep, hdt, hsz, ent⟩ := frzN I1 hd
  refine iter_keys hs hgd hx hdt (pi_one (tk := s1.toks) I1 _ (turn_keysN _ hdt) ⟨_, Heap.get?_push_size _ rfl, rfl, ?_⟩ q)
  rw [hsz] <;> rfl
/-- its turns in a for loop: the dict stays locked within -/
theorem for_keysN {P : Program} {w : World} {d : Addr} {o : Obj} {ks : List Ent} {g : TG} {tb : TS} {D : Ends} {σ : L2.St} {H : Hp} (Pv : Nat → L2.St → Hp → Prop) (h0 : Pv 0 σ H) (hl : ∀ i σ H, i ≤ ks.length → Pv i σ H → H d = some (.frz o (dNO P w d ks)))
    (hs : ∀ i (e : Ent) σ H, ks[i]? = some e → Pv i σ H → g (.ref e.2.1) σ H fun σ2 H2 => tb { D with nx := Pv (i + 1), ct := Pv (i + 1), bk := D.nx } σ2 H2) (hd : ∀ σ H, Pv ks.length σ H → D.nx σ H) :
    ∃ W : Nat → Nat → L2.St → Hp → Prop, (∃ m, W 0 m σ H) ∧ ∀ i m σ H, W i m σ H →
      ((ItK P w d o ks).stop i H ∧ D.nx σ H) ∨ ((ItK P w d o ks).go i H ∧ ∃ N : L2.St → Hp → Prop, (∀ σ' H', N σ' H' → ∃ m', m' < m ∧ W (i + 1) m' σ' H') ∧ ∀ x H', (ItK P w d o ks).yld i H x H' → g x σ H' fun σ2 H2 => tb { D with nx := N, ct := N, bk := D.nx } σ2 H2) := by
  refine ⟨fun i m σ H => m = ks.length - i ∧ i ≤ ks.length ∧ Pv i σ H, ⟨ks.length, by simp, Nat.zero_le _, h0⟩, ?_⟩
  rintro i m σ H ⟨rfl, hi, p⟩
  have q := hl i σ H hi p
  by_cases hlt : i < ks.length
  · refine .inr ⟨⟨q, hlt⟩, Pv (i + 1), fun σ' H' p' => ⟨ks.length - (i + 1), by omega, rfl, hlt, p'⟩, fun x H' y => ?_⟩
    obtain ⟨e, en, hen, y⟩ := y
    subst e y
    exact hs i en σ _ hen p
  · have e : i = ks.length := by omega
    subst e
    exact .inl ⟨⟨q, Nat.le_refl _⟩, hd σ H p⟩
/-- .. in a comprehension -/
theorem lc_keysN {P : Program} {w : World} {d : Addr} {o : Obj} {ks : List Ent} {H0 : Hp} {Qd : Hp → Prop} {body : V → Hp → (Hp → Prop) → Prop} (Pv : Nat → Hp → Prop) (h0 : Pv 0 H0) (hl : ∀ i H, i ≤ ks.length → Pv i H → H d = some (.frz o (dNO P w d ks)))
    (hs : ∀ i (e : Ent) H, ks[i]? = some e → Pv i H → body (.ref e.2.1) H (Pv (i + 1))) (hd : ∀ H, Pv ks.length H → Qd H) :
    ∃ W : Nat → Nat → Hp → Prop, (∃ m, W 0 m H0) ∧ ∀ i m H, W i m H →
      ((ItK P w d o ks).stop i H ∧ Qd H) ∨ ((ItK P w d o ks).go i H ∧ ∃ Nx : Hp → Prop, (∀ H', Nx H' → ∃ m', m' < m ∧ W (i + 1) m' H') ∧ ∀ x H', (ItK P w d o ks).yld i H x H' → body x H' Nx) := by
  refine ⟨fun i m H => m = ks.length - i ∧ i ≤ ks.length ∧ Pv i H, ⟨ks.length, by simp, Nat.zero_le _, h0⟩, ?_⟩
  rintro i m H ⟨rfl, hi, p⟩
  have q := hl i H hi p
  by_cases hlt : i < ks.length
  · refine .inr ⟨⟨q, hlt⟩, Pv (i + 1), fun H' p' => ⟨ks.length - (i + 1), by omega, rfl, hlt, p'⟩, fun x H' y => ?_⟩
    obtain ⟨e, en, hen, y⟩ := y
    subst e y
    exact hs i en _ hen p
  · have e : i = ks.length := by omega
    subst e
    exact .inl ⟨⟨q, Nat.le_refl _⟩, hd H p⟩
/-- the turns over a list that stays, whatever a turn does -/
theorem lc_listB {K : PySem.W.Frag} {a : Addr} {xs : List V} {H0 : Hp} {Qd : Hp → Prop} {body : V → Hp → (Hp → Prop) → Prop} (Pv : Nat → Hp → Prop) (h0 : Pv 0 H0) (hl : ∀ i H, i ≤ xs.length → Pv i H → SqL K H a xs)
    (hs : ∀ i x H, xs[i]? = some x → Pv i H → body x H (Pv (i + 1))) (hd : ∀ H, Pv xs.length H → Qd H) :
    ∃ W : Nat → Nat → Hp → Prop, (∃ m, W 0 m H0) ∧ ∀ i m H, W i m H →
      ((Itl K a).stop i H ∧ Qd H) ∨ ((Itl K a).go i H ∧ ∃ Nx : Hp → Prop, (∀ H', Nx H' → ∃ m', m' < m ∧ W (i + 1) m' H') ∧ ∀ x H', (Itl K a).yld i H x H' → body x H' Nx) := by
  refine ⟨fun i m H => m = xs.length - i ∧ i ≤ xs.length ∧ Pv i H, ⟨xs.length, by simp, Nat.zero_le _, h0⟩, ?_⟩
  rintro i m H ⟨rfl, hi, p⟩
  have q := hl i H hi p
  by_cases hlt : i < xs.length
  · refine .inr ⟨⟨xs, xs[i], q, by simp [hlt]⟩, Pv (i + 1), fun H' p' => ⟨xs.length - (i + 1), by omega, rfl, hlt, p'⟩, fun x H' y => ?_⟩
    obtain ⟨e, y⟩ := y
    subst e
    exact hs i x _ (y xs q) p
  · have e : i = xs.length := by omega
    subst e
    exact .inl ⟨⟨xs, q, Nat.le_refl _⟩, hd H p⟩
theorem lc_tupB {K : PySem.W.Frag} {a : Addr} {xs : List V} {H0 : Hp} {Qd : Hp → Prop} {body : V → Hp → (Hp → Prop) → Prop} (Pv : Nat → Hp → Prop) (h0 : Pv 0 H0) (hl : ∀ i H, i ≤ xs.length → Pv i H → SqT K H a xs)
    (hs : ∀ i x H, xs[i]? = some x → Pv i H → body x H (Pv (i + 1))) (hd : ∀ H, Pv xs.length H → Qd H) :
    ∃ W : Nat → Nat → Hp → Prop, (∃ m, W 0 m H0) ∧ ∀ i m H, W i m H →
      ((Itt K a).stop i H ∧ Qd H) ∨ ((Itt K a).go i H ∧ ∃ Nx : Hp → Prop, (∀ H', Nx H' → ∃ m', m' < m ∧ W (i + 1) m' H') ∧ ∀ x H', (Itt K a).yld i H x H' → body x H' Nx) := by
  refine ⟨fun i m H => m = xs.length - i ∧ i ≤ xs.length ∧ Pv i H, ⟨xs.length, by simp, Nat.zero_le _, h0⟩, ?_⟩
  rintro i m H ⟨rfl, hi, p⟩
  have q := hl i H hi p
  by_cases hlt : i < xs.length
  · refine .inr ⟨⟨xs, xs[i], q, by simp [hlt]⟩, Pv (i + 1), fun H' p' => ⟨xs.length - (i + 1), by omega, rfl, hlt, p'⟩, fun x H' y => ?_⟩
    obtain ⟨e, y⟩ := y
    subst e
    exact hs i x _ (y xs q) p
  · have e : i = xs.length := by omega
    subst e
    exact .inl ⟨⟨xs, q, Nat.le_refl _⟩, hd H p⟩
section
variable {X : Cx}
/-- list(d) -/
theorem call_listN (hc : X.calm = true) : CallR X (.type "list") (fun xs H Q => ∃ d ks, xs = [V.ref d] ∧ Dn X.prog X.w H d ks ∧ ∀ p, H p = none → Q (.ref p) (upd H p (.lst (ks.map fun e => V.ref e.2.1)))) := by
  intro pins s σ H xs us Q I r h
  obtain ⟨d, ks, rfl, hd, q⟩ := h
  obtain ⟨u, rfl, rx⟩ := r.one
  cases rx
  obtain ⟨hs, z, xs, pr, o, es, ep, ho, hx, hdt, he, hn⟩ := hd.raw I.hok
  have l1 : es.size = xs.length := size_of_entries he
  have l2 : ks.length = xs.length := Paired.length pr
  refine PySem.W.kdl_call (kdl_raw hs hx hdt) (I.ok.hd hc) ho (by omega) fun h' tk acc' c' kp e it => ?_
  have eb : acc'.toList = (ks.map fun e => V.ref e.2.1).map fun v => match v with | .ref b => Value.ref b | _ => .none := by
    have hl : acc'.toList.length = ks.length := by rw [Array.length_toList, it.1]; omega
    apply List.ext_getElem?
    intro j
    rw [List.getElem?_map, List.getElem?_map]
    cases hj : acc'.toList[j]? with
    | none =>
      have h1 := List.getElem?_eq_none_iff.mp hj
      rw [List.getElem?_eq_none (by omega)]
      all_goals rfl
    | some v =>
      obtain ⟨en, hen, hv⟩ := it.2 j v (by rw [← Array.getElem?_toList]; exact hj)
      have qe := entry_at he j
      rw [hen] at qe
      cases hb : ks[j]? with
      | none =>
        have h1 := List.getElem?_eq_none_iff.mp hb
        rw [List.getElem?_eq_none (by omega)] at qe
        exact nomatch (show some en = none from qe)
      | some b =>
        obtain ⟨b', hb', e1, e2, _⟩ := paired_get pr hb
        rw [hb'] at qe
        have e3 : en = entryOfKey (nestedKind X.prog X.w) b' := Option.some.inj qe
        rw [hv, e3]
        show some (Value.ref b'.2.1) = some (Value.ref b.2.1)
        rw [e2]
  have rv : Vals (ks.map fun e => V.ref e.2.1) acc'.toList := by
    rw [eb]
    generalize ks = ks
    induction ks with
    | nil => exact .nil
    | cons e es ih => exact .cons rfl ih
  have hz : (ks.map fun e => V.ref e.2.1).length ≤ sizeLine := by rw [List.length_map]; exact z
  refine ⟨.ref s.heap.objs.size, _, I.laid (t' := tk) (o := .lst (ks.map fun e => V.ref e.2.1)) kp (Nat.le_refl _) ?_, rfl, q _ (I.hok.fresh (Nat.le_refl _))⟩
  exact ⟨hz, acc'.toList, c', rv, by rw [Array.toArray_toList]; exact e⟩
/-! ### {k: v for ..} -/
def actD (kx vx : Expr) (P : Program) (w : World) (A : Around) : Deed := fun env acc N E s => match acc with
  | .ref D => wpAny (model P w) A (eval kx env) (fun kv s4 => wpAny (model P w) A (eval vx env) (fun vv s5 => wpAny (model P w) A (dictSet D kv vv) (fun _ s6 => N s6) E s5) E s4) E s
  | _ => True
def taD (P : Program) (w : World) (tk tv : TE) (D : Addr) : L2.St → Hp → (Hp → Prop) → Prop := fun σ H Nx => tk σ H fun y H1 => tv σ H1 fun z H2 => ∃ ks k b, y = .ref b ∧ H2 D = some (dNO P w D ks) ∧ (∀ p ∈ ks, Ky H2 p.1 p.2.1) ∧ Ky H2 k b ∧ ks.length < sizeLine ∧ Nx (upd H2 D (dNO P w D (putN ks k b z)))
theorem keeps_D {kx vx : Expr} {tk tv : TE} {scope : Scope} (hu : X.A.units + 9 < cLine) (hk : ∀ s H fp, PE (X.blk s H scope (blkEnv X scope s) fp) kx tk) (hv : ∀ s H fp, PE (X.blk s H scope (blkEnv X scope s) fp) vx tv) (D : Addr) :
    Keeps1 X scope (actD kx vx X.prog X.w X.A) D (taD X.prog X.w tk tv D) [] := by
  intro s0 H0 fp pins s σ H Nx N E I q fin
  refine thnF ((hk s0 H0 fp).run pins s σ H _ I q) fun u s1 ⟨y, H1, I1, r1, q1⟩ => ?_
  refine thnF ((hv s0 H0 fp).run pins s1 σ H1 _ I1 q1) fun u2 s2 ⟨z, H2, I2, r2, ks, k, b, ey, hD, kys, hky, hl, nx⟩ => ?_
  subst ey
  cases r1
  exact dn_set (X := X.blk s0 H0 scope (blkEnv X scope s0) fp) (pins := pins) (σ := σ) hu I2 hD kys hky hl r2 fun s' I' => fin s' _ I' nx
theorem pe_dcN {kx vx tg iter : Expr} {ifs : List Expr} {scope : Scope} {own : List (Str × Nat)} {pos : Pos} {wi : TI} {g : TG} {tt : TT} {tk tv : TE} (hu : X.A.units + 9 < cLine) (calm : X.calm = true) (nd : X.N.Nodup) (hi : PI X tg iter wi) (ok : BlkOk X.N X.env.scope scope own)
    (hg : ∀ s H fp, PG (X.blk s H scope (blkEnv X scope s) fp) tg g) (ht : ∀ s H fp, PTs (X.blk s H scope (blkEnv X scope s) fp) ifs tt)
    (hk : ∀ s H fp, PE (X.blk s H scope (blkEnv X scope s) fp) kx tk) (hv : ∀ s H fp, PE (X.blk s H scope (blkEnv X scope s) fp) vx tv)
    (hs : ∀ x, foldedSetIterable iter X.env x = pure x := by intro _; rfl) :
    PE X (.DictComp kx vx [⟨tg, iter, ifs, 0⟩] scope pos) (tGc (fun D => dNO X.prog X.w D []) wi g tt (taD X.prog X.w tk tv) (own.map (·.2))) := by
  refine ⟨fun pins s σ H Q I h => ?_⟩
  rw [arm_eval_DictComp]
  refine gc_core (ob := { cls := .type "dict", data := .dict #[] }) (act := actD kx vx X.prog X.w X.A) (fit := fun _ => True) (vs1 := []) ?_ ?_ ?_ rfl (fun _ => True.intro) (fun _ z => nomatch z) ?_ calm nd hi ok hg ht hs I h
  · exact ⟨fun A E s Q q => wpAny_newObj_type q, fun H h hb => dNO_ok (dN_empty h hb)⟩
  · exact fun R env it D J _ turn n s j => compLoop_anyD J turn n j
  · exact fun R env it acc s h1 h2 => codeAny_compStart_dict h1 h2
  · exact keeps_D hu hk hv
/-- name = {k: v for ..} on one line, the name a local -/
theorem ps_setDcN {i : Nat} {y : Str} {py : Pos} {kx vx tg iter : Expr} {ifs : List Expr} {scope : Scope} {own : List (Str × Nat)} {pos spos : Pos} {wi : TI} {g : TG} {tt : TT} {tk tv : TE} (hu : X.A.units + 9 < cLine) (calm : X.calm = true) (nd : X.N.Nodup) (hy : X.N[i]? = some y) (hyl : X.env.scope.names.lookup y = some .local)
    (hsw : swapsWith (.DictComp kx vx [⟨tg, iter, ifs, 0⟩] scope pos) (some (.Name y py)) spos.line X.env = pure true) (hi : PI X tg iter wi) (ok : BlkOk X.N X.env.scope scope own)
    (hg : ∀ s H fp, PG (X.blk s H scope (blkEnv X scope s) fp) tg g) (ht : ∀ s H fp, PTs (X.blk s H scope (blkEnv X scope s) fp) ifs tt)
    (hk : ∀ s H fp, PE (X.blk s H scope (blkEnv X scope s) fp) kx tk) (hv : ∀ s H fp, PE (X.blk s H scope (blkEnv X scope s) fp) vx tv)
    (hs : ∀ x, foldedSetIterable iter X.env x = pure x := by intro _; rfl) :
    PS X (.Assign [.Name y py] (.DictComp kx vx [⟨tg, iter, ifs, 0⟩] scope pos) spos) (tAsg (tGc (fun D => dNO X.prog X.w D []) wi g tt (taD X.prog X.w tk tv) (own.map (·.2))) (gName i)) := by
  refine ⟨fun pins s σ H D I h => ?_⟩
  rw [exec_Assign_Name_used _ _ _ _ hsw]
  refine wpAny_bind (wpAny_standAt (wpAny_bind ?_))
  show wpAny _ X.A (do let _ ← comprehension (.DictComp kx vx [⟨tg, iter, ifs, 0⟩] scope pos) scope X.env (firstIterPos [⟨tg, iter, ifs, 0⟩] pos) newDict false (eval iter X.env) (some (assign (.Name y py) X.env))) _ _ s
  have h : tGc (fun D => dNO X.prog X.w D []) wi g tt (taD X.prog X.w tk tv) (own.map (·.2)) σ H (fun x H1 => gName i x σ H1 D.nx) := h
  refine wpAny_bind (thn (gc_coreU (Qf := fun _ s' => SP X pins D .next s') (ob := { cls := .type "dict", data := .dict #[] }) (act := actD kx vx X.prog X.w X.A) (fit := fun _ => True) (vs1 := [])
    ⟨fun A E s Q q => wpAny_newObj_type q, fun H h hb => dNO_ok (dN_empty h hb)⟩ (fun R env it D J _ turn n s j => compLoop_anyD J turn n j) (fun R env it acc s h1 h2 => codeAny_compStart_dict h1 h2) rfl (fun _ => True.intro) (fun _ z => nomatch z)
    (keeps_D hu hk hv) calm nd hi ok hg ht hs I h fun L C s' m H' I' q hn f => ?_) fun _ s' hq => wpAny_pure (wpAny_pure hq))
  show wpAny _ _ (assign (.Name y py) X.env (.ref L)) _ _ _
  refine wpAny_assign_Name (store_ok2 (v := V.ref L) I' nd hy (.inl hyl) rfl (fun s2 I2 ⟨a, sb, ha⟩ => ?_) (.inr hyl))
  obtain ⟨f0, f1, f2, f3, f4, f5⟩ := f
  have haC : C ≠ a := by
    rcases ha with z | z
    · rw [z]; exact f1
    · exact fun e => f4 y a z e.symm
  exact ⟨m, hn.sameBut sb haC, fun h3 sb3 => ⟨_, H', I2.turned (t' := s2.toks) (fun b o hb e => (sb3.2 b hb).trans e) f0 f1 f3 f4 f5, q⟩⟩
theorem sw_dict {kx vx : Expr} {gs : List Comprehension} {scope : Scope} {pos py : Pos} {y : Str} {l : Nat} {env : Env} (hk : env.scope.kind = .function) (hy : env.scope.names.lookup y = some .local) (hl : (py.line == pos.line) = true)
    (ha : (scope.names.any fun (n, k) => n == y && (k == .local || k == .cell)) = false) : swapsWith (.DictComp kx vx gs scope pos) (some (.Name y py)) l env = pure true := by
  have ky : env.kindOf y = some .local := hy
  have hb : env.blockKind = .function := by unfold Env.blockKind; rw [hk]; rfl
  unfold swapsWith
  simp only [hb, ky, ha, Expr.pos, hl]
  rfl
end
end NS
/-! D4: sets of data, sets of texts and of ints over the tracked heap. -/
namespace NS
open PySem PySem.Spec PyProof.Rows L2
abbrev Ky' (H : Hp) (k : Dat) (b : Addr) : Prop := Rk H k (.ref b) ∧ k.depth ≤ 8
/-- a set of data at a: its members, where their tuples stand -/
def sNO (P : Program) (w : World) (a : Addr) (L : List (Addr × Dat)) : HO := .ext fun h => ∃ es ep t, SetN P w h a L es ep t
theorem sNO_ok {P : Program} {w : World} {H : Hp} {h : Heap} {a : Addr} {L : List (Addr × Dat)} {es : Array (Int × Value)} {ep : Nat} {t : SetTable} (x : SetN P w h a L es ep t) : ObjOk P w H h a (sNO P w a L) := by
  obtain ⟨o, ho, hx, hd⟩ := x.ob
  refine ⟨⟨es, ep, t, x⟩, ⟨o, ho⟩, ?_⟩
  rintro h1 h2 ⟨es', ep', t', y⟩ k
  obtain ⟨o', ho', r⟩ := y.ob
  exact ⟨es', ep', t', ⟨o', k _ ho', r⟩, y.rws, y.tab, y.ndp, y.room, y.lim⟩
/-- .. of these members in any order -/
structure Sn (P : Program) (w : World) (H : Hp) (a : Addr) (S : List Dat) : Prop where
  ex : ∃ L, H a = some (sNO P w a L) ∧ (∀ m ∈ L, Ky' H m.2 m.1) ∧ (L.map (·.2)).Perm S
theorem Sn.move {P : Program} {w : World} {H H' : Hp} {a : Addr} {S : List Dat} (x : Sn P w H a S) (t : Tups H H') (e : H' a = H a) : Sn P w H' a S := by
  obtain ⟨L, h1, h2, h3⟩ := x.ex
  exact ⟨⟨L, e.trans h1, (fun m hm => ⟨(h2 m hm).1.at t, (h2 m hm).2⟩), h3⟩⟩
theorem Sn.perm {P : Program} {w : World} {H : Hp} {a : Addr} {S S' : List Dat} (x : Sn P w H a S) (p : S.Perm S') : Sn P w H a S' := by
  obtain ⟨L, h1, h2, h3⟩ := x.ex
  exact ⟨⟨L, h1, h2, h3.trans p⟩⟩
section
variable {P : Program} {w : World} {A : Around} {E : Value → Shared → Prop} {s : Shared} {a : Addr} {L : List (Addr × Dat)} {es : Array (Int × Value)} {ep : Nat} {t : SetTable} {x : Addr} {k : Dat}
theorem setN_typeIs (R : SetN P w s.heap a L es ep t) : s.TypeIs (.ref a) "set" := let ⟨o, ho, hc, _⟩ := R.ob; ⟨o, ho, hc.1⟩
theorem setN_noDict (R : SetN P w s.heap a L es ep t) : ∀ b, Value.ref a = .ref b → ∃ ob, s.heap.get? b = some ob ∧ ob.dict = none := fun b e => by
  cases e
  obtain ⟨o, ho, hc, _⟩ := R.ob
  exact ⟨o, ho, hc.2.1⟩
theorem contains_N {Q : Bool → Shared → Prop} (R : SetN P w s.heap a L es ep t) (own : ∀ m ∈ L, Nk P w s.heap m.2 m.1) (hx : Nk P w s.heap k x) (hu : A.units + 9 < cLine)
    (h : Q (decide (k ∈ L.map (·.2))) { s with toks := s.toks + k.draws }) : wpAny (model P w) A (contains (.ref a) (.ref x)) Q E s := by
  have hT := setN_typeIs R
  unfold contains
  try with_reducible refine wpAny_holding ?_
  refine wpAny_bind (wpAny_specialOf hT F.slot_set_contains.lookup ?_)
  show wpAny _ _ (if (some (Value.builtin "set.__contains__") == some Value.none) = true then _ else _) _ E s
  rw [if_neg (by rw [beq_builtin_none]; exact Bool.false_ne_true)]
  refine wpAny_bind (wpAny_callSpecialUnlessNone?_slot (name := Str.ofString "__contains__") hT F.slot_set_contains
    (wpAny_call_entry F.slot_set_contains hT entry_set_contains ?_ (F.args_set_contains_2 _ _)))
  unfold Builtin.«frozenset.__contains__» Builtin.Frozenset.oneOther
  simp only [List.isEmpty_nil, bind_assoc]
  unfold Builtin.Frozenset.addrOf Builtin.Frozenset.withSetAsKey setContains
  refine wpAny_bind (wpAny_pure ?_)
  try dsimp only
  refine wpAny_bind (wpAny_pure ?_)
  try dsimp only
  refine wpAny_bind (wpAny_tryCatch ?_)
  refine wpAny_holding ?_
  refine wpAny_bind ((nestedKind P w).pyHash (show A.in1.units + 8 < cLine from (show A.units + 1 + 8 < cLine by omega)) hx ?_)
  refine wpAny_bind (find_key (s := { s with toks := s.toks + k.draws }) R own hx (show A.units + 1 + 8 < cLine by omega) fun r hr => ?_)
  refine wpAny_pure ?_
  show wpAny _ _ (ret (Value.bool r.isSome)) _ _ _
  rw [hr]
  exact wpAny_pure ⟨_, rfl, wpAny_truthy_bool h⟩
theorem setAdd_N {Q : Value → Shared → Prop} (R : SetN P w s.heap a L es ep t) (own : ∀ m ∈ L, Nk P w s.heap m.2 m.1) (hx : Nk P w s.heap k x) (hu : A.units + 9 < cLine) (few : L.length + 1 < 1000)
    (hQ : ∀ h' L' es' ep' t', Heap.SameBut a s.heap h' → SetN P w h' a L' es' ep' t' → (k ∈ L.map (·.2) → L' = L) → (k ∉ L.map (·.2) → L'.Perm ((x, k) :: L)) → Q .none { s with heap := h', toks := s.toks + k.draws }) :
    wpAny (model P w) A (call (.builtin "set.add") [.ref a, .ref x]) Q E s := by
  refine wpAny_call_entry F.slot_set_add (setN_typeIs R) F.entry_set_add ?_ (F.args_set_add_2 _ _)
  unfold Builtin.«set.add» Builtin.Frozenset.oneOther
  simp only [List.isEmpty_nil, bind_assoc]
  unfold Builtin.Frozenset.addrOf setAdd
  refine wpAny_bind (wpAny_pure ?_)
  try dsimp only
  refine wpAny_bind (wpAny_pure ?_)
  try dsimp only
  refine wpAny_bind ?_
  refine wpAny_holding ?_
  refine wpAny_bind ((nestedKind P w).pyHash (show A.in1.units + 8 < cLine from (show A.units + 1 + 8 < cLine by omega)) hx ?_)
  refine add_key (s := { s with toks := s.toks + k.draws }) R own hx (show A.units + 1 + 8 < cLine by omega) few fun b h' L' es' ep' t' sb r c1 c2 => ?_
  show wpAny _ _ (ret Value.none) _ _ _
  exact wpAny_pure ⟨_, rfl, hQ h' L' es' ep' t' sb r c1 c2⟩
theorem setN_fresh {h : Heap} (ho : h.get? a = some (setOb w)) : SetN P w h a [] #[] 0 (.fresh 0 0 (!w.params.followText "set-order")) := by
  refine ⟨⟨_, ho, ⟨rfl, rfl, rfl⟩, rfl⟩, rfl, ?_, List.nodup_nil, ?_, by decide⟩
  · exact ⟨List.Pairwise.nil, rfl, rfl, ⟨3, by decide, by decide, by rfl⟩, (fun y hy => by simp [SetTable.fresh] at hy), fun n g y h => by simp at h⟩
  · show 0 * 5 < 7 * 3
    decide
end
/-! ### rules: sets of data -/
section
variable {X : Cx}
/-- set() -/
def rSetN0 (P : Program) (w : World) : List V → Hp → VK → Prop := fun xs H Q => xs = [] ∧ ∀ p, H p = none → (∀ o, o = sNO P w p [] → Q (.ref p) (upd H p o))
theorem cr_setN0 : CallR X (.type "set") (rSetN0 X.prog X.w) := by
  intro pins s σ H xs us Q I r h
  obtain ⟨rfl, q⟩ := h
  cases r
  refine setR_new fun new => ?_
  exact ⟨.ref _, upd H s.heap.objs.size (sNO X.prog X.w s.heap.objs.size []), I.laid (t' := s.toks) (fun b u e => Heap.get?_push_of_some _ e) (Nat.le_refl _) (sNO_ok (setN_fresh (Heap.get?_push_size _ rfl))), rfl, q _ (I.hok.fresh (Nat.le_refl _)) _ rfl⟩
theorem Sn.new {P : Program} {w : World} {H : Hp} {p : Addr} : Sn P w (upd H p (sNO P w p [])) p [] := ⟨⟨[], upd_same, (fun _ z => by cases z), List.Perm.refl _⟩⟩
theorem own_of {P : Program} {w : World} {H : Hp} {h : Heap} {L : List (Addr × Dat)} (ok : HOk P w H h) (ky : ∀ m ∈ L, Ky' H m.2 m.1) : ∀ m ∈ L, Nk P w h m.2 m.1 :=
  fun m hm => ⟨(ky m hm).1.is ok (show RelV (.ref m.1) (.ref m.1) from rfl), (ky m hm).2⟩
/-- k in S -/
def rInSN (P : Program) (w : World) (neg : Bool) : R2 := fun x y H Q => ∃ k b a S, x = .ref b ∧ y = .ref a ∧ Ky' H k b ∧ Sn P w H a S ∧ Q (.bl (if neg = true then !decide (k ∈ S) else decide (k ∈ S))) H
theorem op_inSN (hu : X.A.units + 9 < cLine) : OpR X (compareOp .In) (rInSN X.prog X.w false) := by
  intro pins s σ H x y v u Q I rx ry h
  obtain ⟨k, b, a, S, rfl, rfl, hk, ⟨L, hL, ky, pm⟩, q⟩ := h
  cases rx
  cases ry
  obtain ⟨⟨es, ep, t, R⟩, _⟩ := I.hok a _ hL
  show wpAny _ _ (do return Value.bool (← contains (.ref a) (.ref b))) _ _ s
  refine wpAny_bind (contains_N R (own_of I.hok ky) ⟨hk.1.is I.hok (show RelV (.ref b) (.ref b) from rfl), hk.2⟩ hu (wpAny_pure ⟨.bl (decide (k ∈ S)), H, I.tok _, ?_, q⟩))
  have e : decide (k ∈ L.map (·.2)) = decide (k ∈ S) := decide_eq_decide.mpr pm.mem_iff
  rw [e]
  rfl
theorem op_ninSN (hu : X.A.units + 9 < cLine) : OpR X (compareOp .NotIn) (rInSN X.prog X.w true) := by
  intro pins s σ H x y v u Q I rx ry h
  obtain ⟨k, b, a, S, rfl, rfl, hk, ⟨L, hL, ky, pm⟩, q⟩ := h
  cases rx
  cases ry
  obtain ⟨⟨es, ep, t, R⟩, _⟩ := I.hok a _ hL
  show wpAny _ _ (do return Value.bool (!(← contains (.ref a) (.ref b)))) _ _ s
  refine wpAny_bind (contains_N R (own_of I.hok ky) ⟨hk.1.is I.hok (show RelV (.ref b) (.ref b) from rfl), hk.2⟩ hu (wpAny_pure ⟨.bl (!decide (k ∈ S)), H, I.tok _, ?_, q⟩))
  have e : decide (k ∈ L.map (·.2)) = decide (k ∈ S) := decide_eq_decide.mpr pm.mem_iff
  rw [e]
  rfl
/-- S.add(k) -/
def rAddN (P : Program) (w : World) : V → List V → Hp → VK → Prop := fun x xs H Q => ∃ a b k S, x = V.ref a ∧ xs = [V.ref b] ∧ Ky' H k b ∧ Sn P w H a S ∧ S.length + 1 < 1000 ∧
  ∀ o, Sn P w (upd H a o) a (if k ∈ S then S else k :: S) → Tups H (upd H a o) → Q .non (upd H a o)
theorem mt_addN (hu : X.A.units + 9 < cLine) : MtR X "set.add" (rAddN X.prog X.w) := by
  intro pins s σ H x xs v us Q I rx rxs h
  obtain ⟨a, b, k, S, rfl, rfl, hk, ⟨L, hL, ky, pm⟩, few, q⟩ := h
  cases rx
  obtain ⟨u, rfl, ru⟩ := vals1 rxs
  cases ru
  obtain ⟨⟨es, ep, t, R⟩, _⟩ := I.hok a _ hL
  refine setAdd_N R (own_of I.hok ky) ⟨hk.1.is I.hok (show RelV (.ref b) (.ref b) from rfl), hk.2⟩ hu (by rw [← List.length_map (f := (·.2)), pm.length_eq]; exact few) fun h' L' es' ep' t' sb R' c1 c2 => ?_
  have he : ∃ u, h'.get? a = some u := let ⟨o, ho, _⟩ := R'.ob; ⟨o, ho⟩
  have tp : Tups H (upd H a (sNO X.prog X.w a L')) := Tups.put hL fun xs z => nomatch z
  refine ⟨.non, upd H a (sNO X.prog X.w a L'), I.write (e := a) (t' := s.toks + k.draws) (by rw [hL]; trivial) (.inl rfl) (fun c u hb hu => (sb.2 c hb).trans hu) he (sNO_ok R'), rfl, q _ ⟨⟨L', upd_same, ?_, ?_⟩⟩ tp⟩
  · intro m hm
    by_cases hin : k ∈ L.map (·.2)
    · rw [c1 hin] at hm
      exact ⟨(ky m hm).1.at tp, (ky m hm).2⟩
    · have := (c2 hin).mem_iff.mp hm
      rcases List.mem_cons.mp this with rfl | hm
      · exact ⟨hk.1.at tp, hk.2⟩
      · exact ⟨(ky m hm).1.at tp, (ky m hm).2⟩
  · by_cases hin : k ∈ L.map (·.2)
    · rw [c1 hin, if_pos (pm.mem_iff.mp hin)]; exact pm
    · rw [if_neg fun z => hin (pm.mem_iff.mpr z)]
      exact (show (L'.map (·.2)).Perm (k :: L.map (·.2)) from (c2 hin).map (·.2)).trans (pm.cons k)
def tAddN (P : Program) (w : World) (to : TE) (t : TA) : TE := fun σ H Q => to σ H fun x H1 => (∃ a S, x = V.ref a ∧ Sn P w H1 a S) ∧ t σ H1 fun xs H2 => rAddN P w x xs H2 Q
theorem pe_addN {o e : Expr} {es : List Expr} {to : TE} {t : TA} {apos cpos : Pos} (hu : X.A.units + 9 < cLine) (ho : PE X o to) (ha : PA X (e :: es) t)
    (hbase : attributeBase o "add" X.env (eval o X.env) = eval o X.env := by rfl)
    (hfew : ((backTo cpos (starEach (e :: es) X.env)).all (fun x => !x.1) && (backToKw cpos (keywordEach [] X.env)).all (fun x => x.1.isSome)
      && decide ((e :: es).length + ([] : List Keyword).length + (if ([] : List Keyword).isEmpty then 0 else 1) < 30)) = true := by rfl)
    (hline : (apos.endLine == cpos.line) = true := by rfl) (hs : starEach (e :: es) X.env = (false, eval e X.env) :: starEach es X.env := by rfl) (hplain : (backTo cpos (starEach es X.env)).any (·.1) = false := by rfl) :
    PE X (.Call (.Attribute o "add" apos) (e :: es) [] cpos) (tAddN X.prog X.w to t) := by
  refine ⟨fun pins s σ H Q I h => ?_⟩
  refine wpAny_Call_method_late hbase hfew hline rfl (thn (ho.run pins s σ H _ I h) fun v s1 ⟨x, H1, I1, r1, ty, q1⟩ => ?_)
  obtain ⟨a, S, rfl, L, hL, ky, pm⟩ := ty
  obtain ⟨⟨es1, ep1, t1, R⟩, _⟩ := I1.hok a _ hL
  cases r1
  refine ⟨"set", "set.add", F.plainAttrs_set, F.slot_set_add, F.type_set_add, setN_typeIs R, setN_noDict R, ?_⟩
  have hA := ha.run cpos pins s1 σ H1 _ I1 q1
  rw [hs] at hA ⊢
  refine Calls.callWith_builtin (by show (false || (backTo cpos (starEach es X.env)).any (·.1)) = false; rw [hplain] <;> rfl) (Calls.evalArgs_plain ?_)
  exact thn hA fun us s2 ⟨vs, H2, I2, r2, q2⟩ => mt_addN hu pins s2 σ H2 (.ref a) vs (.ref a) us Q I2 rfl r2 q2
end
/-! ### sets of texts, of ints -/
def gNO {P : Program} {w : World} {K : Type} [DecidableEq K] (knd : PySem.KeyKind P w K) (a : Addr) (S : List K) : HO := .ext fun h => SetG knd h a S
section
variable {P : Program} {w : World} {K : Type} [DecidableEq K] {knd : PySem.KeyKind P w K}
theorem gNO_ok {H : Hp} {h : Heap} {a : Addr} {S : List K} (R : SetG knd h a S) : ObjOk P w H h a (gNO knd a S) := by
  have ⟨o, _, _, _, _, ho, _⟩ := R
  exact ⟨R, ⟨o, ho⟩, fun h1 h2 p k => SetG.at p k⟩
theorem setG_typeIs {s : Shared} {a : Addr} {S : List K} (R : SetG knd s.heap a S) : s.TypeIs (.ref a) "set" := let ⟨o, _, _, _, _, ho, hx, _⟩ := R; ⟨o, ho, hx.1⟩
theorem setG_add {A : Around} {E : Value → Shared → Prop} {s : Shared} {a : Addr} {S : List K} {k : K} {x : Value} {Q : Value → Shared → Prop} (R : SetG knd s.heap a S) (hk : knd.is k x = true) (hx : x.scannable = true) (few : S.length + 1 < scanBound)
    (hQ : ∀ h', Heap.SameBut a s.heap h' → SetG knd h' a (S ++ [k]) → Q .none { s with heap := h', toks := s.toks + 1 }) : wpAny (model P w) A (call (.builtin "set.add") [.ref a, x]) Q E s := by
  refine wpAny_call_entry F.slot_set_add (setG_typeIs R) F.entry_set_add ?_ (F.args_set_add_2 _ _)
  unfold Builtin.«set.add» Builtin.Frozenset.oneOther
  simp only [List.isEmpty_nil, bind_assoc]
  unfold Builtin.Frozenset.addrOf setAdd
  refine wpAny_bind (wpAny_pure ?_)
  try dsimp only
  refine wpAny_bind (wpAny_pure ?_)
  try dsimp only
  refine wpAny_bind ?_
  refine wpAny_holding ?_
  refine wpAny_bind (knd.pyHash hk ?_)
  refine setG_add_hashed (s := { s with toks := s.toks + 1 }) R hk hx few fun b h' sb r => ?_
  show wpAny _ _ (ret Value.none) _ _ _
  exact wpAny_pure ⟨_, rfl, hQ h' sb r⟩
end
section
variable {X : Cx}
/-- what the values of a kind are -/
structure Emb {P : Program} {w : World} {K : Type} [DecidableEq K] (knd : PySem.KeyKind P w K) (emb : K → V) : Prop where
  is : ∀ k u, RelV (emb k) u → knd.is k u = true ∧ u.scannable = true
theorem emb_str {P : Program} {w : World} : Emb (strKind P w) V.str := ⟨fun k u r => by
  obtain ⟨t, rfl⟩ := (show ∃ t, u = Value.str k t from r)
  exact ⟨by show Value.isStrOf k (.str k t) = true; simp [Value.isStrOf], rfl⟩⟩
theorem emb_int {P : Program} {w : World} : Emb (intKind P w) V.int := ⟨fun k u r => by
  obtain ⟨t, rfl⟩ := (show ∃ t, u = Value.int k t from r)
  exact ⟨intKind_is P w k t, rfl⟩⟩
/-- set(xs) -/
def rSetOf {K : Type} [DecidableEq K] (Kf : PySem.W.Frag) {P : Program} {w : World} (knd : PySem.KeyKind P w K) (emb : K → V) : List V → Hp → VK → Prop := fun vs H Q => ∃ l, ∃ ks : List K, vs = [.ref l] ∧ (SqL Kf H l (ks.map emb) ∨ SqT Kf H l (ks.map emb)) ∧ ks.length + 1 < scanBound ∧
  ∀ p, H p = none → Q (.ref p) (upd H p (gNO knd p ks))
theorem cr_setOf {K : Type} [DecidableEq K] {knd : PySem.KeyKind X.prog X.w K} {emb : K → V} (hc : X.calm = true) (em : Emb knd emb) : CallR X (.type "set") (rSetOf X.K knd emb) := by
  intro pins s σ H vs us Q I r h
  obtain ⟨l, ks, rfl, hl, few, q⟩ := h
  obtain ⟨u, rfl, ru⟩ := vals1 r
  cases ru
  have fin : ∀ (h' : Heap) (tk : Nat), SetG knd h' s.heap.objs.size ks → (∀ b o, s.heap.get? b = some o → h'.get? b = some o) → EP X pins σ Q (.ref s.heap.objs.size) { s with heap := h', toks := tk } := fun h' tk R k =>
    ⟨.ref s.heap.objs.size, _, I.laid (t' := tk) (o := gNO knd s.heap.objs.size ks) k (Nat.le_refl _) (gNO_ok R), rfl, q _ (I.hok.fresh (Nat.le_refl _))⟩
  have hv : ∀ its : List Value, Vals (ks.map emb) its → ∀ (i : Nat) v, its.toArray[i]? = some v → ∃ k, ks[i]? = some k ∧ knd.is k v = true ∧ v.scannable = true := fun its rv i v hi => by
    have hi' : its[i]? = some v := by simpa using hi
    have hlt : i < (ks.map emb).length := by rw [rv.length]; exact (List.getElem?_eq_some_iff.mp hi').1
    rw [List.length_map] at hlt
    obtain ⟨u, hu, ru⟩ := rv.get (i := i) (x := emb ks[i]) (by rw [List.getElem?_map, List.getElem?_eq_getElem hlt]; rfl)
    rw [hi'] at hu
    cases hu
    exact ⟨ks[i], List.getElem?_eq_getElem hlt, em.is _ _ ru⟩
  rcases hl with hl | hl
  · obtain ⟨its, rv, pl, hz⟩ := I.list hl
    exact call_setG_list ks (I.ok.hd hc) pl.isList (by simp [← rv.length]) few (hv its rv) fin
  · obtain ⟨its, rv, pl, hz⟩ := I.tuple hl
    exact call_setG_tup ks (I.ok.hd hc) pl (by simp [← rv.length]) few (hv its rv) fin
/-- sorted of a set of texts -/
def rSortS {P : Program} {w : World} (knd : PySem.KeyKind P w Str) : List V → Hp → VK → Prop := fun vs H Q => ∃ (a : Addr) (S D : List Str), vs = [V.ref a] ∧ H a = some (gNO knd a S) ∧ (∀ k : Str, k ∈ S ↔ k ∈ D) ∧ D.length < 64 ∧
  ∀ (ys : List Str) (p : Addr), sortedS ys = true → ys.Nodup → (∀ k, k ∈ ys ↔ k ∈ D) → H p = none → Q (.ref p) (upd H p (.lst (ys.map V.str)))
theorem cr_sortS (hc : X.calm = true) : CallR X (.builtin "sorted") (rSortS (strKind X.prog X.w)) := by
  intro pins s σ H vs us Q I r h
  obtain ⟨a, S, D, rfl, ha, eq, few, q⟩ := h
  obtain ⟨u, rfl, ru⟩ := vals1 r
  cases ru
  have R : SetG (strKind X.prog X.w) s.heap a D := ((I.hok a _ ha).1 : SetG (strKind X.prog X.w) s.heap a S).congr eq
  refine sorted_setS R (I.ok.hd hc) few fun s' p out c ys k g o hp hg hi hs hn hm => ?_
  have hlen : (ys.map V.str).length ≤ sizeLine := by
    have := nodup_le ys D hn fun k hk => (hm k).mp hk
    rw [List.length_map, sizeLine_eq]; omega
  have hn' : H p = none := I.hok.fresh hp
  have J : L2.Inv X pins σ (upd H p (.lst (ys.map V.str))) { s with heap := s'.heap, gens := s'.gens, drawn := s'.drawn, toks := s'.toks } :=
    I.call (ch := []) (Un.laid k hp hn') (I.hok.laid k hp ⟨hlen, out.toList, c, vals_of_strs hi, hg⟩) (by rw [g]; exact I.bare) (fun _ z => nomatch z)
  have e : s' = { s with heap := s'.heap, gens := s'.gens, drawn := s'.drawn, toks := s'.toks } := by
    cases s'
    cases s
    cases o
    rfl
  rw [e]
  exact ⟨.ref p, _, J, rfl, q ys p hs hn hm hn'⟩
/-- .. of ints -/
def rSortI {P : Program} {w : World} (knd : PySem.KeyKind P w Int) : List V → Hp → VK → Prop := fun vs H Q => ∃ (a : Addr) (S D : List Int), vs = [V.ref a] ∧ H a = some (gNO knd a S) ∧ (∀ k : Int, k ∈ S ↔ k ∈ D) ∧ D.length < 64 ∧
  ∀ (ys : List Int) (p : Addr), ys.Pairwise (· < ·) → (∀ k, k ∈ ys ↔ k ∈ D) → H p = none → Q (.ref p) (upd H p (.lst (ys.map V.int)))
theorem cr_sortI (hc : X.calm = true) : CallR X (.builtin "sorted") (rSortI (intKind X.prog X.w)) := by
  intro pins s σ H vs us Q I r h
  obtain ⟨a, S, D, rfl, ha, eq, few, q⟩ := h
  obtain ⟨u, rfl, ru⟩ := vals1 r
  cases ru
  have R : SetG (intKind X.prog X.w) s.heap a D := ((I.hok a _ ha).1 : SetG (intKind X.prog X.w) s.heap a S).congr eq
  refine sorted_setI R (I.ok.hd hc) few fun s' p out c ys k g o hp hg hi hs hm => ?_
  have hnd : ys.Nodup := hs.imp fun {a b} h => by omega
  have hlen : (ys.map V.int).length ≤ sizeLine := by
    have := nodup_le ys D hnd fun k hk => (hm k).mp hk
    rw [List.length_map, sizeLine_eq]; omega
  have hn' : H p = none := I.hok.fresh hp
  have J : L2.Inv X pins σ (upd H p (.lst (ys.map V.int))) { s with heap := s'.heap, gens := s'.gens, drawn := s'.drawn, toks := s'.toks } :=
    I.call (ch := []) (Un.laid k hp hn') (I.hok.laid k hp ⟨hlen, out.toList, c, vals_of_ints hi, hg⟩) (by rw [g]; exact I.bare) (fun _ z => nomatch z)
  have e : s' = { s with heap := s'.heap, gens := s'.gens, drawn := s'.drawn, toks := s'.toks } := by
    cases s'
    cases s
    cases o
    rfl
  rw [e]
  exact ⟨.ref p, _, J, rfl, q ys p hs hm hn'⟩
end
end NS
/-! D5: set comprehensions of texts, one clause and two. -/
namespace NS
open PySem PySem.Spec PyProof.Rows L2 PpSet
/-- the member is made and put in -/
def actS (ex : Expr) (P : Program) (w : World) (A : Around) : Deed := fun env acc N E s =>
  wpAny (model P w) A (eval ex env) (fun x s4 => wpAny (model P w) A (call (.builtin "set.add") [acc, x]) (fun _ s5 => N s5) E s4) E s
def taS (P : Program) (w : World) (te : TE) (D : Addr) : L2.St → Hp → (Hp → Prop) → Prop := fun σ H Nx => te σ H fun y H1 => ∃ (S : List Str) (x : Str), y = .str x ∧ H1 D = some (gNO (strKind P w) D S) ∧ S.length + 1 < scanBound ∧ Nx (upd H1 D (gNO (strKind P w) D (S ++ [x])))
section
variable {X : Cx}
theorem keeps_S {ex : Expr} {te : TE} {scope : Scope} (he : ∀ s H fp, PE (X.blk s H scope (blkEnv X scope s) fp) ex te) (D : Addr) : Keeps1 X scope (actS ex X.prog X.w X.A) D (taS X.prog X.w te D) [] := by
  intro s0 H0 fp pins s σ H Nx N E I q fin
  refine thnF ((he s0 H0 fp).run pins s σ H _ I q) fun u s1 ⟨y, H1, I1, r1, S, x, ey, hD, few, nx⟩ => ?_
  subst ey
  have R : SetG (strKind X.prog X.w) s1.heap D S := (I1.hok D _ hD).1
  obtain ⟨k1, k2⟩ := (emb_str (P := X.prog) (w := X.w)).is x u r1
  refine setG_add R k1 k2 few fun h' sb R' => fin _ (upd H1 D (gNO (strKind X.prog X.w) D (S ++ [x]))) ?_ nx
  have he' : ∃ u, h'.get? D = some u := let ⟨o, _, _, _, _, ho, _⟩ := R'; ⟨o, ho⟩
  exact I1.write (e := D) (t' := s1.toks + 1) (by rw [hD]; trivial) (.inl rfl) (fun b u hb hu => (sb.2 b hb).trans hu) he' (gNO_ok R')
theorem makes_S : Makes X.prog X.w (newSet (.type "set")) (setOb X.w) (fun D => gNO (strKind X.prog X.w) D []) :=
  ⟨fun A E s Q q => newSet_ok q, fun H h hb => gNO_ok (setG_new (Heap.get?_push_size _ rfl))⟩
/-- {ex for tg in iter if ..} -/
theorem pe_scS {ex tg iter : Expr} {ifs : List Expr} {scope : Scope} {own : List (Str × Nat)} {pos : Pos} {wi : TI} {g : TG} {tt : TT} {te : TE} (calm : X.calm = true) (nd : X.N.Nodup) (hi : PI X tg iter wi) (ok : BlkOk X.N X.env.scope scope own)
    (hg : ∀ s H fp, PG (X.blk s H scope (blkEnv X scope s) fp) tg g) (ht : ∀ s H fp, PTs (X.blk s H scope (blkEnv X scope s) fp) ifs tt)
    (he : ∀ s H fp, PE (X.blk s H scope (blkEnv X scope s) fp) ex te) (hs : ∀ x, foldedSetIterable iter X.env x = pure x := by intro _; rfl)
    (harm : eval (.SetComp ex [⟨tg, iter, ifs, 0⟩] scope pos) X.env = comprehension (.SetComp ex [⟨tg, iter, ifs, 0⟩] scope pos) scope X.env (firstIterPos [⟨tg, iter, ifs, 0⟩] pos) (newSet (.type "set")) false (eval iter X.env) := by rfl) :
    PE X (.SetComp ex [⟨tg, iter, ifs, 0⟩] scope pos) (tGc (fun D => gNO (strKind X.prog X.w) D []) wi g tt (taS X.prog X.w te) (own.map (·.2))) := by
  refine ⟨fun pins s σ H Q I h => ?_⟩
  rw [harm]
  exact gc_core (act := actS ex X.prog X.w X.A) (fit := fun _ => True) (vs1 := []) makes_S (fun R env it D J _ turn n s j => compLoopS_any J turn n j) (fun R env it acc s h1 h2 => codeAny_compStart_set h1 h2) rfl
    (fun _ => True.intro) (fun _ z => nomatch z) (keeps_S he) calm nd hi ok hg ht hs I h
end
/-! ### two clauses -/
theorem turnS2_out (elt t0 i0 t1 i1 : Expr) (ifs0 ifs1 : List Expr) (scope : Scope) (pos : Pos) (it acc : Value) (env : Env) :
    compTurn (.SetComp elt [⟨t0, i0, ifs0, 0⟩, ⟨t1, i1, ifs1, 0⟩] scope pos) 0 it acc env = (do
      standAt i0.pos
      match ← pyNext it with
      | none => pure (.done .next)
      | some v =>
        letOwnedTupleGo t0 it v
        assign t0 env v
        let mut ok := true
        for c in ifs0 do
          if ok then ok ← isTrue c env (eval c env)
        if ok then
          let x ← eval i1 env
          standAt i1.pos
          let x ← foldedSetIterable i1 env x
          let _ ← runOwn (.compStart (.SetComp elt [⟨t0, i0, ifs0, 0⟩, ⟨t1, i1, ifs1, 0⟩] scope pos) 1 (← holding [x] (pyIter x)) acc env) env
        again (.compLoop (.SetComp elt [⟨t0, i0, ifs0, 0⟩, ⟨t1, i1, ifs1, 0⟩] scope pos) 0 it acc env)) := by rfl
theorem turnS2_in (elt t0 i0 t1 i1 : Expr) (ifs0 ifs1 : List Expr) (scope : Scope) (pos : Pos) (it acc : Value) (env : Env) :
    compTurn (.SetComp elt [⟨t0, i0, ifs0, 0⟩, ⟨t1, i1, ifs1, 0⟩] scope pos) 1 it acc env = (do
      standAt i1.pos
      match ← pyNext it with
      | none => pure (.done .next)
      | some v =>
        letOwnedTupleGo t1 it v
        assign t1 env v
        let mut ok := true
        for c in ifs1 do
          if ok then ok ← isTrue c env (eval c env)
        if ok then
          (do let v ← eval elt env; standAt elt.pos; let _ ← call (.builtin "set.add") [acc, v])
        again (.compLoop (.SetComp elt [⟨t0, i0, ifs0, 0⟩, ⟨t1, i1, ifs1, 0⟩] scope pos) 1 it acc env)) := by rfl
/-- the inner loop as the outer one's deed -/
def actS2 (e i1 : Expr) (P : Program) (w : World) (A : Around) : Deed := fun env acc N E s =>
  wpAny (model P w) A (eval i1 env) (fun x s4 => wpAny (model P w) A (pyIter x) (fun it1 s5 => codeAny (model P w) A (.compStart e 1 it1 acc env) (fun r s' => match r with
    | .ok _ => N s'
    | .error _ => False) s5) E s4) E s
section
variable {P : Program} {w : World} {A : Around} {elt t0 i0 t1 i1 : Expr} {ifs0 ifs1 : List Expr} {scope : Scope} {pos : Pos}
theorem loopsS2_out : Loops P w A (.SetComp elt [⟨t0, i0, ifs0, 0⟩, ⟨t1, i1, ifs1, 0⟩] scope pos) t0 ifs0 (actS2 (.SetComp elt [⟨t0, i0, ifs0, 0⟩, ⟨t1, i1, ifs1, 0⟩] scope pos) i1 P w A) 0 (fun env => ∀ x, foldedSetIterable i1 env x = pure x) := by
  intro R env it D J hs turn n s j
  refine codeAny_loop rfl J (fun n s hI => ?_) n j
  show wpAny _ A ((compTurn _ 0 it (.ref D) env).onRaise (fun x => do noteFrame x env; theTreesLotGoes x)) _ _ s
  refine wpAny_noted ?_
  rw [turnS2_out]
  refine wpAny_bind (wpAny_standAt (wpAny_bind (wpAny_mono (turn n s hI) (fun r s1 h1 => ?_) fun _ _ z => z)))
  cases r with
  | none => exact wpAny_pure h1
  | some v =>
    refine wpAny_bind (wpAny_mono h1 (fun _ s2 h2 => ?_) fun _ _ z => z)
    refine wpAny_bind (wpAny_mono h2 (fun _ s3 h3 => wpAny_bind (wpAny_mono h3 (fun ok s4 h4 => ?_) fun _ _ z => z)) fun _ _ z => z)
    cases ok with
    | false => exact wpAny_pure ⟨rfl, h4⟩
    | true =>
      have h4 : actS2 (.SetComp elt [⟨t0, i0, ifs0, 0⟩, ⟨t1, i1, ifs1, 0⟩] scope pos) i1 P w A env (.ref D) (fun s' => ∃ m, m < n ∧ J m s') (Wish P w A env R) s4 := h4
      refine wpAny_bind (wpAny_mono h4 (fun x s5 h5 => ?_) fun _ _ z => z)
      refine wpAny_bind (wpAny_standAt (wpAny_bind (wpAny_of_eq (hs x) (wpAny_bind (wpAny_holding (wpAny_mono h5 (fun it1 s6 h6 => ?_) fun _ _ z => z))))))
      refine wpAny_bind (wpAny_runOwn ?_)
      rw [Around.mark_none]
      refine codeAny_mono h6 fun r s' hr => ?_
      cases r with
      | ok f =>
        first
          | exact wpAny_pure ⟨rfl, hr⟩
          | exact wpAny_bind (wpAny_pure (wpAny_pure ⟨rfl, hr⟩))
      | error e => exact hr.elim
theorem loopsS2_in : Loops P w A (.SetComp elt [⟨t0, i0, ifs0, 0⟩, ⟨t1, i1, ifs1, 0⟩] scope pos) t1 ifs1 (actS elt P w A) 1 (fun _ => True) := by
  intro R env it D J _ turn n s j
  refine codeAny_loop rfl J (fun n s hI => ?_) n j
  show wpAny _ A ((compTurn _ 1 it (.ref D) env).onRaise (fun x => do noteFrame x env; theTreesLotGoes x)) _ _ s
  refine wpAny_noted ?_
  rw [turnS2_in]
  refine wpAny_bind (wpAny_standAt (wpAny_bind (wpAny_mono (turn n s hI) (fun r s1 h1 => ?_) fun _ _ z => z)))
  cases r with
  | none => exact wpAny_pure h1
  | some v =>
    refine wpAny_bind (wpAny_mono h1 (fun _ s2 h2 => ?_) fun _ _ z => z)
    refine wpAny_bind (wpAny_mono h2 (fun _ s3 h3 => wpAny_bind (wpAny_mono h3 (fun ok s4 h4 => ?_) fun _ _ z => z)) fun _ _ z => z)
    cases ok with
    | false => exact wpAny_pure ⟨rfl, h4⟩
    | true =>
      have h4 : actS elt P w A env (.ref D) (fun s' => ∃ m, m < n ∧ J m s') (Wish P w A env R) s4 := h4
      exact wpAny_bind (wpAny_bind (wpAny_mono h4 (fun x s5 h5 => wpAny_bind (wpAny_standAt (wpAny_bind (wpAny_mono h5 (fun _ s6 h6 => wpAny_pure (wpAny_pure ⟨rfl, h6⟩)) fun _ _ z => z)))) fun _ _ z => z))
theorem startS1 {R : Result → Shared → Prop} {s : Shared} {it acc : Value} {env : Env} (h0 : codeAny (model P w) A (.compLoop (.SetComp elt [⟨t0, i0, ifs0, 0⟩, ⟨t1, i1, ifs1, 0⟩] scope pos) 1 it acc env) R s)
    (h : wpAny (model P w) A (pyIter it) (fun it' s' => codeAny (model P w) A (.compLoop (.SetComp elt [⟨t0, i0, ifs0, 0⟩, ⟨t1, i1, ifs1, 0⟩] scope pos) 1 it' acc env) R s') (Wish P w A env R) s) :
    codeAny (model P w) A (.compStart (.SetComp elt [⟨t0, i0, ifs0, 0⟩, ⟨t1, i1, ifs1, 0⟩] scope pos) 1 it acc env) R s := by
  refine codeAny_of_tree ?_
  show wpAny _ _ ((compStart (.SetComp elt [⟨t0, i0, ifs0, 0⟩, ⟨t1, i1, ifs1, 0⟩] scope pos) 1 it acc env).onRaise (fun x => do noteFrame x env; standAt theWindowsPlace)) _ _ s
  refine wpAny_notedAt ?_
  unfold compStart
  show wpAny _ _ (ask >>= _) _ _ s
  refine wpAny_bind (wpAny_askSetting (wpAny_ite ?_))
  split
  · first
      | exact wpAny_bind (wpAny_pure (wpAny_pure (And.intro rfl h0)))
      | exact wpAny_pure (And.intro rfl h0)
  · first
      | exact wpAny_bind (wpAny_rule (wpAny_bind (wpAny_standAt (wpAny_bind (wpAny_mono h (fun it' s' h' => wpAny_pure (And.intro rfl h')) fun _ _ x => x)))))
      | (refine wpAny_bind (wpAny_rule ?_); show wpAny _ _ (standAt i1.pos >>= _) _ _ s; exact wpAny_bind (wpAny_standAt (wpAny_bind (wpAny_mono h (fun it' s' h' => wpAny_pure (And.intro rfl h')) fun _ _ x => x))))
end
/-- the inner loop's reading -/
def taS2 (P : Program) (w : World) (wi1 : TI) (g1 : TG) (tt1 : TT) (te : TE) (vs1 : List Nat) (D : Addr) : L2.St → Hp → (Hp → Prop) → Prop := fun σ H Nx => wi1 σ H fun J1 H4 => ∃ W1 : Nat → Nat → Hp → Prop, (∃ m, W1 0 m H4) ∧ ∀ j k H, W1 j k H →
  (J1.stop j H ∧ Nx H) ∨ (J1.go j H ∧ ∃ Nx1 : Hp → Prop, (∀ H', Nx1 H' → ∃ k', k' < k ∧ W1 (j + 1) k' H') ∧ ∀ x H', J1.yld j H x H' → g1 x (wipe σ vs1) H' fun σ3 H5 => wipe σ3 vs1 = wipe σ vs1 ∧ tt1 σ3 H5 fun b H6 =>
    if b = true then taS P w te D σ3 H6 Nx1 else Nx1 H6)
section
variable {X : Cx}
theorem keeps_S2 {elt t0 i0 t1 i1 : Expr} {ifs0 ifs1 : List Expr} {scope : Scope} {pos : Pos} {wi1 : TI} {g1 : TG} {tt1 : TT} {te : TE} {vs1 : List Nat} (calm : X.calm = true)
    (hi1 : ∀ s H fp, PI (X.blk s H scope (blkEnv X scope s) fp) t1 i1 wi1) (hg1 : ∀ s H fp, PG (X.blk s H scope (blkEnv X scope s) fp) t1 g1) (ht1 : ∀ s H fp, PTs (X.blk s H scope (blkEnv X scope s) fp) ifs1 tt1)
    (he : ∀ s H fp, PE (X.blk s H scope (blkEnv X scope s) fp) elt te) (D : Addr) :
    Keeps1 X scope (actS2 (.SetComp elt [⟨t0, i0, ifs0, 0⟩, ⟨t1, i1, ifs1, 0⟩] scope pos) i1 X.prog X.w X.A) D (taS2 X.prog X.w wi1 g1 tt1 te vs1 D) vs1 := by
  intro s0 H0 fp pins s σ H Nx N E I q fin
  refine thnF ((hi1 s0 H0 fp).run pins s σ H _ I q) fun xv s1 hx => thnF hx fun itv s2 h2 => ?_
  obtain ⟨it, fp1, tn, J, H2, rfl, I2, T, st2, f2, W, ⟨m0, w0⟩, turn⟩ := h2
  have stat : ∀ {H' : Hp}, (∀ b ∈ fp1, H' b = none) → ∀ b ∈ fp1, FpOk (X.blk s0 H0 scope (blkEnv X scope s0) fp) pins H' b := fun hn b hb => ⟨hn b hb, (f2 b hb).2⟩
  have loop : codeAny (model X.prog X.w) X.A (.compLoop (.SetComp elt [⟨t0, i0, ifs0, 0⟩, ⟨t1, i1, ifs1, 0⟩] scope pos) 1 (.ref it) (.ref D) (blkEnv X scope s0)) (fun r s' => match r with
      | .ok _ => N s'
      | .error _ => False) s2 := by
    refine loopsS2_in _ (blkEnv X scope s0) _ D (fun n s' => ∃ i H', L2.Inv (X.blk s0 H0 scope (blkEnv X scope s0) fp) pins (wipe σ vs1) H' s' ∧ tn i s'.heap ∧ (∀ b ∈ fp1, H' b = none) ∧ W i n H') True.intro ?_ m0 s2
      ⟨0, H2, I2.weak (wipe_length _ _) (fun j v e => (wipe_some e).1), st2, fun b hb => (f2 b hb).1, w0⟩
    rintro n s5 ⟨i, H5, I5, st5, n5, w5⟩
    rcases turn i n H5 w5 with ⟨stop, nx⟩ | ⟨go, Nx1, hNx, step⟩
    · refine thnF (T.done (X.blk s0 H0 scope (blkEnv X scope s0) fp) rfl rfl rfl calm i pins s5 _ H5 (fun _ _ => False) I5 (stat n5) st5 stop) fun r s6 ⟨hr, I6⟩ => ?_
      subst hr
      exact fin s6 H5 I6 nx
    · refine thnF (T.item (X.blk s0 H0 scope (blkEnv X scope s0) fp) rfl rfl rfl calm i pins s5 _ H5 (fun _ _ => False) I5 (stat n5) st5 go) fun r s6 ⟨u, hr, h6⟩ => ?_
      subst hr
      refine thnF h6 fun _ s7 ⟨x, H7, I7, r7, y7, st7, n7⟩ => ?_
      refine thnF ((hg1 s0 H0 fp).run _ s7 _ H7 x u _ (I7.pinned (stat n7) (T.obj _ _ st7)) r7 (step x H7 y7)) fun _ s8 ⟨σ8, H8, I8, hw8, q8⟩ => ?_
      refine thnF ((ht1 s0 H0 fp).run _ s8 σ8 H8 _ I8 q8) fun b s9 ⟨H9, I9, q9⟩ => ?_
      have more : ∀ {s' : Shared} {H' : Hp}, L2.Inv (X.blk s0 H0 scope (blkEnv X scope s0) fp) (pins ++ pinsAt fp1 s7.heap) σ8 H' s' → Nx1 H' →
          ∃ m, m < n ∧ ∃ i H', L2.Inv (X.blk s0 H0 scope (blkEnv X scope s0) fp) pins (wipe σ vs1) H' s' ∧ tn i s'.heap ∧ (∀ b ∈ fp1, H' b = none) ∧ W i m H' := fun {s' H'} I' nx => by
        obtain ⟨m', hm, w'⟩ := hNx H' nx
        have still : ∀ b ∈ fp1, ∀ u, s7.heap.get? b = some u → s'.heap.get? b = some u ∧ H' b = none := fun b hb u z =>
          let y := I'.pin (b, u) (by simp [mem_pinsAt hb z])
          ⟨y.1, y.2.1⟩
        refine ⟨m', hm, i + 1, H', I'.unpinned.weak (by rw [← hw8, wipe_length]) (fun j v e => by rw [← hw8] at e; exact (wipe_some e).1), T.keep _ _ _ st7 fun b hb u z => (still b hb u z).1, fun b hb => ?_, w'⟩
        obtain ⟨u, z, _⟩ := T.obj _ _ st7 b hb
        exact (still b hb u z).2
      cases b with
      | false => exact more I9 q9
      | true => exact keeps_S he D s0 H0 fp _ s9 σ8 H9 Nx1 _ _ I9 q9 fun s' H' I' nx => more I' nx
  exact startS1 loop (T.self X.A 0 _ _ _ st2 loop)
/-- {elt for t0 in i0 for t1 in i1} -/
theorem pe_scS2 {elt t0 i0 t1 i1 : Expr} {ifs0 ifs1 : List Expr} {scope : Scope} {own : List (Str × Nat)} {pos : Pos} {wi wi1 : TI} {g g1 : TG} {tt tt1 : TT} {te : TE} {vs1 : List Nat} (calm : X.calm = true) (nd : X.N.Nodup) (hi : PI X t0 i0 wi) (ok : BlkOk X.N X.env.scope scope own)
    (sub : ∀ i ∈ vs1, i ∈ own.map (·.2))
    (hg : ∀ s H fp, PG (X.blk s H scope (blkEnv X scope s) fp) t0 g) (ht : ∀ s H fp, PTs (X.blk s H scope (blkEnv X scope s) fp) ifs0 tt)
    (hi1 : ∀ s H fp, PI (X.blk s H scope (blkEnv X scope s) fp) t1 i1 wi1) (hg1 : ∀ s H fp, PG (X.blk s H scope (blkEnv X scope s) fp) t1 g1) (ht1 : ∀ s H fp, PTs (X.blk s H scope (blkEnv X scope s) fp) ifs1 tt1)
    (he : ∀ s H fp, PE (X.blk s H scope (blkEnv X scope s) fp) elt te) (hs : ∀ x, foldedSetIterable i0 X.env x = pure x := by intro _; rfl) (hs1 : ∀ env x, foldedSetIterable i1 env x = pure x := by intro _ _; rfl)
    (harm : eval (.SetComp elt [⟨t0, i0, ifs0, 0⟩, ⟨t1, i1, ifs1, 0⟩] scope pos) X.env = comprehension (.SetComp elt [⟨t0, i0, ifs0, 0⟩, ⟨t1, i1, ifs1, 0⟩] scope pos) scope X.env (firstIterPos [⟨t0, i0, ifs0, 0⟩, ⟨t1, i1, ifs1, 0⟩] pos) (newSet (.type "set")) false (eval i0 X.env) := by rfl) :
    PE X (.SetComp elt [⟨t0, i0, ifs0, 0⟩, ⟨t1, i1, ifs1, 0⟩] scope pos) (tGc (fun D => gNO (strKind X.prog X.w) D []) wi g tt (taS2 X.prog X.w wi1 g1 tt1 te vs1) (own.map (·.2))) := by
  refine ⟨fun pins s σ H Q I h => ?_⟩
  rw [harm]
  exact gc_core (act := actS2 (.SetComp elt [⟨t0, i0, ifs0, 0⟩, ⟨t1, i1, ifs1, 0⟩] scope pos) i1 X.prog X.w X.A) (fit := fun env => ∀ x, foldedSetIterable i1 env x = pure x) (vs1 := vs1) makes_S loopsS2_out
    (fun R env it acc s h1 h2 => codeAny_compStart_set h1 h2) rfl (fun s => hs1 _) sub (keeps_S2 calm hi1 hg1 ht1 he) calm nd hi ok hg ht hs I h
end
end NS
set_option maxHeartbeats 4000000
/-! D6: for i, x in enumerate(t), t a tuple. -/
namespace NS
open PySem PySem.Spec PyProof.Rows L2
theorem enum_newB {v : Value} {o : Obj} {J : Heap → Prop} (B : Begins v o J) :
    Meets (Builtin.«enumerate.__new__» ⟨[.type "enumerate", v], []⟩) (fun _ R s => J s.heap ∧
      R (.ok (.ret (.ref (s.heap.push o).objs.size))) { s with heap := (s.heap.push o).push { cls := .type "enumerate", data := .fields #[.none, .bool false, .ref s.heap.objs.size, rawInt 0, .none, .none] } }) :=
  .of_wp fun P w A R s h => by
    obtain ⟨hp, g, d, tk, os⟩ := s
    obtain ⟨h1, h⟩ := h
    have hsub := sub_enumerate
    have begin1 : ∀ {A' : Around} {E : Value → Shared → Prop} {Q : Value → Shared → Prop}, Q (.ref hp.objs.size) ⟨hp.push o, g, d, tk, os⟩ → wpAny (model P w) A' (pyIter v) Q E ⟨hp, g, d, tk, os⟩ :=
      fun q => B.iter P w _ _ ⟨hp, g, d, tk, os⟩ _ h1 q
    wp_walk using begin1
    refine wpAny_stack_any fun st => wpAny_pure ?_
    split
    · rename_i c _ _ _ _ _
      cases (c == Value.type "enumerate")
      · wp_walk using begin1
        exact ⟨_, rfl, h⟩
      · wp_walk using begin1
        exact ⟨_, rfl, h⟩
    · wp_walk using begin1
      exact ⟨_, rfl, h⟩
theorem call_enumT {P : Program} {w : World} {A : Around} {E : Value → Shared → Prop} {s : Shared} {v : Value} {o : Obj} {J : Heap → Prop} {Q : Value → Shared → Prop} (B : Begins v o J) (h1 : J s.heap)
    (h : ∀ h', IsEnum h' (s.heap.objs.size + 1) s.heap.objs.size 0 .none → h'.get? s.heap.objs.size = some o → (∀ b o, s.heap.get? b = some o → h'.get? b = some o) → Q (.ref (s.heap.objs.size + 1)) { s with heap := h' }) :
    wpAny (model P w) A (call (.type "enumerate") [v]) Q E s := by
  refine callType_new F.called_enumerate (by decide) (F.typeCall_enumerate_1 _) (F.newCall_enumerate_1 _) (fun obj => F.args_object_init_2 obj _) F.entry_enumerate_new (enum_newB B) ⟨h1, ?_⟩
  have hz : (s.heap.push o).objs.size = s.heap.objs.size + 1 := Heap.size_push ..
  show _ ∧ _
  rw [hz]
  have he : IsEnum ((s.heap.push o).push { cls := .type "enumerate", data := .fields #[.none, .bool false, .ref s.heap.objs.size, rawInt 0, .none, .none] }) (s.heap.objs.size + 1) s.heap.objs.size 0 .none := by
    have z := Heap.get?_push_size (s.heap.push o) (o := { cls := .type "enumerate", data := .fields #[.none, .bool false, .ref s.heap.objs.size, rawInt 0, .none, .none] }) rfl
    rw [hz] at z
    exact z
  exact ⟨⟨_, he, rfl⟩, h _ he (Heap.get?_push_of_some _ (Heap.get?_push_size _ B.free)) fun b o x => Heap.get?_push_of_some _ (Heap.get?_push_of_some _ x)⟩
/-- the tuple at a, each item in a new pair -/
def ItE (K : PySem.W.Frag) (a : Addr) : L2.It :=
  ⟨fun i H => ∃ (xs : List V) (x : V), SqT K H a xs ∧ xs[i]? = some x, fun i H v H' => ∃ T x, v = .ref T ∧ H T = none ∧ H' = upd H T (.tup [.int (i : Nat), x]) ∧ ∀ xs, SqT K H a xs → xs[i]? = some x, fun i H => ∃ xs : List V, SqT K H a xs ∧ xs.length ≤ i⟩
theorem turn_enumT {P : Program} {w : World} {K : PySem.W.Frag} {elts : List Expr} {kk : Nat} {tpos : Pos} (a e it : Addr) (nea : a ≠ it) (nee : a ≠ e) :
    Turn P w K (.Tuple elts kk tpos) (ItE K a) [e, it] e (fun i h => (∃ old, IsEnum h e it ((i : Nat) : Int) old) ∧ h.IsTupleIter it a i ∧ e ≠ it) where
  mem := by simp
  obj := fun i h st b hb => by
    obtain ⟨⟨old, he⟩, ⟨o, ho, hc, hd⟩, _⟩ := st
    have e' : b = e ∨ b = it := by simpa using hb
    rcases e' with z | z
    · rw [z]; exact ⟨_, he, fun v q => nomatch q⟩
    · rw [z]; exact ⟨o, ho, fun v q => by rw [hd] at q; cases q⟩
  keep := fun i h h' st k => let ⟨⟨old, he⟩, hi, hne⟩ := st; ⟨⟨old, k e (by simp) _ he⟩, hi.at fun o q => k it (by simp) o q, hne⟩
  item := by
    intro X hP hw hK hc i pins s σ H E I hf st hg
    subst hP hw hK
    obtain ⟨⟨old, he⟩, hit, hne⟩ := st
    obtain ⟨xs, x, hq, hx⟩ := hg
    obtain ⟨its, rv, p, hz⟩ := I.tuple hq
    obtain ⟨u, hu, ru⟩ := rv.get hx
    have hel : e < s.heap.objs.size := Heap.lt_size he
    have hil : it < s.heap.objs.size := by obtain ⟨_, q, _⟩ := hit; exact Heap.lt_size q
    have hlt : i < its.toArray.size := by
      rw [List.size_toArray]
      exact (List.getElem?_eq_some_iff.mp hu).1
    refine wpAny_pyNext_enum_itemD (Draws.tuple (A := X.A.in1) (I.ok.hd hc) it a nea its.toArray) he ⟨hit, (show s.heap.IsTuple a its.toArray from p)⟩ hlt hne (fun z => ?_) fun y h' tk hy ho hit' hT hsz hk => ?_
    · rcases List.mem_cons.mp z with z | z
      · exact hne z
      · exact nee (List.mem_singleton.mp z).symm
    have ey : y = u := by
      have q : its.toArray[i]? = some u := by simpa using hu
      rw [q] at hy
      exact (Option.some.inj hy).symm
    subst ey
    refine ⟨_, rfl, wpAny_letOwnedTupleGo_enum (s := { s with heap := h', toks := tk + 1 }) ho fun h'' he' sb => ?_⟩
    have hT2 : h''.get? s.heap.objs.size = some { cls := .type "tuple", data := .seq #[.int i tk, y] } := (sb.2 _ (Nat.ne_of_gt hel)).trans hT
    have new : ObjOk X.prog X.w (upd H s.heap.objs.size (.tup [.int (i : Nat), x])) h'' s.heap.objs.size (.tup [.int (i : Nat), x]) :=
      ⟨by show 2 ≤ sizeLine; decide, [.int i tk, y], .cons ⟨_, rfl⟩ (.cons ru .nil), ⟨_, hT2, rfl, _, rfl⟩⟩
    have I1 : L2.Inv X pins σ (upd H s.heap.objs.size (.tup [.int (i : Nat), x])) { s with heap := h'', toks := tk + 1 } :=
      I.turnedNew (ch := [e, it]) (fun b ob hb q => (sb.2 b (fun z => hb (by simp [z]))).trans (hk b ob (fun z => hb (by simp [z])) (fun z => hb (by simp [z])) q)) hf (Nat.le_refl _) new
    refine ⟨.ref s.heap.objs.size, _, I1, rfl, ⟨_, x, rfl, I.hok.fresh (Nat.le_refl _), rfl, fun ys hy => by rw [I.tuple_inj hy hq]; exact hx⟩, ⟨⟨y, ?_⟩, hit'.1.at fun o q => (sb.2 it (Ne.symm hne)).trans q, hne⟩, fun b hb => ?_⟩
    · have e1 : ((i + 1 : Nat) : Int) = (i : Int) + 1 := by omega
      rw [e1]; exact he'
    · have hb' : b < s.heap.objs.size := by
        have e' : b = e ∨ b = it := by simpa using hb
        rcases e' with z | z
        · rw [z]; exact hel
        · rw [z]; exact hil
      rw [upd_ne (Nat.ne_of_lt hb')]
      exact (hf b hb).1
  done := by
    intro X hP hw hK hc i pins s σ H E I hf st hg
    subst hP hw hK
    obtain ⟨⟨old, he⟩, hit, hne⟩ := st
    obtain ⟨xs, hq, hx⟩ := hg
    obtain ⟨its, rv, p, hz⟩ := I.tuple hq
    obtain ⟨f0, f1, f2, f3, f4, f5⟩ := hf it (by simp)
    have hl := rv.length
    have D : Draws X.prog X.w X.A.in1 it [it, a] i (fun _ _ => True) (fun j h => j = i ∧ h.IsTupleIter it a i ∧ h.IsTuple a its.toArray) :=
      { live := fun _ _ st => let ⟨o, ho, _⟩ := st.2.1; ⟨o, ho⟩
        frame := fun _ _ _ st hk => ⟨st.1, st.2.1.at fun o e => hk it (by simp) o e, st.2.2.at fun o e => hk a (by simp) o e⟩
        item := fun j s Q E hj st _ => absurd st.1 (Nat.ne_of_lt hj)
        done := fun s Q E st hE => wpAny_nextOf_tuple_end (I.ok.hd hc) st.2.1 st.2.2 (by simp; omega) hE }
    exact wpAny_pyNext_enum_endD D he ⟨rfl, hit, (show s.heap.IsTuple a its.toArray from p)⟩ fun h' eb => ⟨rfl, I.turned (t' := s.toks) (fun b o hb q => eb b o hb q) f0 f1 f3 f4 f5⟩
  self := fun A i s Q E st h => let ⟨⟨_, he⟩, _⟩ := st; wpAny_pyIter_enum he h
def iEnumT (K : PySem.W.Frag) (ta : TA) : TI := fun σ H R => ta σ H fun vs H1 => ∃ a xs, vs = [.ref a] ∧ SqT K H1 a xs ∧ R (ItE K a) H1
theorem pi_enumT {X : Cx} {e : Expr} {ta : TA} {p pos tpos : Pos} {elts : List Expr} {kk : Nat} (hg : Gl X "enumerate") (hm : X.mg "enumerate" = none) (ha : PA X [e] ta) (hs : starEach [e] X.env = [(false, eval e X.env)] := by rfl) :
    PI X (.Tuple elts kk tpos) (.Call (.Name "enumerate" p) [e] [] pos) (iEnumT X.K ta) := by
  refine ⟨fun pins s σ H R I h => ?_⟩
  refine Call_ (ld_blt I hg hm boot_enumerate (PyProof.Rows.callWith_type1 (thn (ha.run pos pins s σ H _ I h) fun us s1 ⟨vs, H1, I1, r1, q1⟩ => ?_) hs rfl))
  obtain ⟨a, xs, ex, hq, q⟩ := q1
  subst ex
  cases r1 with
  | cons r rr =>
    cases rr
    cases r
    obtain ⟨its, rv, p', hz⟩ := I1.tuple hq
    have hal : a < s1.heap.objs.size := p'.lt
    refine call_enumT (begins_tuple a its.toArray) (show s1.heap.IsTuple a its.toArray from p') fun h' he hit hk => wpAny_pyIter_enum he ?_
    have I2 : L2.Inv X pins σ H1 { s1 with heap := h' } := I1.kept (t' := s1.toks) hk
    refine ⟨s1.heap.objs.size + 1, [s1.heap.objs.size + 1, s1.heap.objs.size], _, _, H1, rfl, I2, turn_enumT a (s1.heap.objs.size + 1) s1.heap.objs.size (Nat.ne_of_lt hal) (Nat.ne_of_lt (Nat.lt_succ_of_lt hal)), ⟨⟨.none, he⟩, ⟨_, hit, rfl, rfl⟩, Nat.succ_ne_self _⟩, fun b hb => ?_, q⟩
    have e' : b = s1.heap.objs.size + 1 ∨ b = s1.heap.objs.size := by simpa using hb
    have hle : s1.heap.objs.size ≤ b := by
      rcases e' with z | z
      · rw [z]; exact Nat.le_add_right _ _
      · rw [z]; exact Nat.le_refl _
    exact I1.fpOk hle (I1.hok.fresh hle)
end NS
/-! M1: reachability; leaving orders; parts are the strong components. Plain Lean. -/
namespace NS
section
variable {ν : Type}
/-- reachability -/
inductive Rch (E : ν → ν → Prop) : ν → ν → Prop
  | refl (a) : Rch E a a
  | step {a b c} : E a b → Rch E b c → Rch E a c
variable {E : ν → ν → Prop}
theorem Rch.trans {a b c : ν} (p : Rch E a b) (q : Rch E b c) : Rch E a c := by
  induction p with
  | refl => exact q
  | step e _ ih => exact .step e (ih q)
theorem Rch.one {a b : ν} (e : E a b) : Rch E a b := .step e (.refl b)
theorem Rch.mono {F : ν → ν → Prop} (h : ∀ a b, E a b → F a b) {a b : ν} (p : Rch E a b) : Rch F a b := by
  induction p with
  | refl => exact .refl _
  | step e _ ih => exact .step (h _ _ e) ih
/-- .. from the other end -/
theorem Rch.last {a c : ν} (p : Rch E a c) : a = c ∨ ∃ b, Rch E a b ∧ E b c := by
  induction p with
  | refl => exact .inl rfl
  | step e q ih =>
    rcases ih with rfl | ⟨b, h1, h2⟩
    · exact .inr ⟨_, .refl _, e⟩
    · exact .inr ⟨b, .step e h1, h2⟩
def Both (E : ν → ν → Prop) (a b : ν) : Prop := Rch E a b ∧ Rch E b a
theorem Both.refl (a : ν) : Both E a a := ⟨.refl a, .refl a⟩
theorem Both.symm {a b : ν} (h : Both E a b) : Both E b a := ⟨h.2, h.1⟩
theorem Both.trans {a b c : ν} (h : Both E a b) (k : Both E b c) : Both E a c := ⟨h.1.trans k.1, k.2.trans h.2⟩
/-- the order in which the nodes are left -/
def Leaves (E : ν → ν → Prop) (O : List ν) (more : List ν) : Prop := ∀ A u B, O = A ++ u :: B → ∀ v, Rch E u v → v ∈ A ∨ v = u ∨ ∃ p, (p ∈ B ∨ p ∈ more) ∧ Both E u p
theorem split_snoc {A B O : List ν} {u x : ν} (h : O ++ [x] = A ++ u :: B) : (B = [] ∧ A = O ∧ u = x) ∨ ∃ B', B = B' ++ [x] ∧ O = A ++ u :: B' := by
  rcases List.eq_nil_or_concat B with rfl | ⟨B', y, rfl⟩
  · have h' := List.append_inj' h rfl
    exact .inl ⟨rfl, h'.1.symm, (List.cons.inj h'.2).1.symm⟩
  · rw [List.concat_eq_append, show A ++ u :: (B' ++ [y]) = (A ++ u :: B') ++ [y] by simp] at h
    have h' := List.append_inj' h rfl
    have e := (List.cons.inj h'.2).1
    subst e
    exact .inr ⟨B', by simp, h'.1⟩
/-- x is left: its neighbours were entered, what is on the stack below it leads to it -/
theorem Leaves.snoc {O : List ν} {x : ν} {st : List ν} (L : Leaves E O (x :: st)) (full : ∀ z ∈ O, ∀ y, E z y → y ∈ O ∨ y = x ∨ y ∈ st) (own : ∀ y, E x y → y ∈ O ∨ y = x ∨ y ∈ st) (chain : ∀ p ∈ st, Rch E p x) : Leaves E (O ++ [x]) st := by
  intro A u B h v r
  rcases split_snoc h with ⟨rfl, rfl, rfl⟩ | ⟨B', rfl, h'⟩
  · have go : ∀ z v, Rch E z v → Rch E u z → (z ∈ A ∨ z = u) → v ∈ A ∨ v = u ∨ ∃ p, (p ∈ ([] : List ν) ∨ p ∈ st) ∧ Both E u p := by
      intro z v r
      induction r with
      | refl z => exact fun _ h => h.elim .inl fun h => .inr (.inl h)
      | @step z y v e r ih =>
        intro hz hm
        have hy : y ∈ A ∨ y = u ∨ y ∈ st := by
          rcases hm with hm | rfl
          · exact full z hm y e
          · exact own y e
        rcases hy with hy | hy | hy
        · exact ih (hz.trans (.one e)) (.inl hy)
        · exact ih (hz.trans (.one e)) (.inr hy)
        · exact .inr (.inr ⟨y, .inr hy, hz.trans (.one e), chain y hy⟩)
    exact go u v r (.refl u) (.inr rfl)
  · rcases L A u B' h' v r with h1 | h1 | ⟨p, h1, h2⟩
    · exact .inl h1
    · exact .inr (.inl h1)
    · refine .inr (.inr ⟨p, ?_, h2⟩)
      rcases h1 with h1 | h1
      · exact .inl (by simp [h1])
      · rcases List.mem_cons.mp h1 with rfl | h1
        · exact .inl (by simp)
        · exact .inr h1
theorem Leaves.more {O st st' : List ν} (L : Leaves E O st) (h : ∀ p ∈ st, p ∈ st') : Leaves E O st' := fun A u B e v r => by
  rcases L A u B e v r with h1 | h1 | ⟨p, h1, h2⟩
  · exact .inl h1
  · exact .inr (.inl h1)
  · exact .inr (.inr ⟨p, h1.imp id (h p), h2⟩)
theorem Leaves.nil {st : List ν} : Leaves E [] st := fun A u B e => by
  cases A <;> simp at e
/-- x leads to the last node that is not placed yet: they are in one part -/
theorem root_part {O A B : List ν} {r x : ν} {placed : ν → Prop} (L : Leaves E O []) (nd : O.Nodup) (all : ∀ a b, Both E a b → a ∈ O → b ∈ O) (e : O = A ++ r :: B) (hB : ∀ z ∈ B, placed z) (closed : ∀ a b, Both E a b → placed a → placed b) (hx : ¬ placed x) (xO : x ∈ O) (p : Rch E x r) :
    Both E r x := by
  classical
  -- the last of x's part in the order
  have lastof : ∀ l : List ν, (∃ y ∈ l, Both E x y) → ∃ A' y B', l = A' ++ y :: B' ∧ Both E x y ∧ ∀ z ∈ B', ¬ Both E x z := by
    intro l
    induction l with
    | nil => rintro ⟨y, h, _⟩; cases h
    | cons a l ih =>
      intro h
      by_cases hl : ∃ y ∈ l, Both E x y
      · obtain ⟨A', y, B', h1, h2, h3⟩ := ih hl
        exact ⟨a :: A', y, B', by rw [h1]; rfl, h2, h3⟩
      · obtain ⟨y, hy, hb⟩ := h
        rcases List.mem_cons.mp hy with rfl | hy
        · exact ⟨[], y, l, rfl, hb, fun z hz hb' => hl ⟨z, hz, hb'⟩⟩
        · exact absurd ⟨y, hy, hb⟩ hl
  obtain ⟨A', y, B', h1, h2, h3⟩ := lastof O ⟨x, xO, .refl x⟩
  have hy : ¬ placed y := fun z => hx (closed y x h2.symm z)
  have yr : Rch E y r := h2.2.trans p
  rcases L A' y B' h1 r yr with hr | rfl | ⟨q, hq, hb⟩
  · -- r before y: y stands behind r, hence placed
    exfalso
    have : y ∈ B := by
      rw [e] at h1
      obtain ⟨A1, A2, rfl⟩ := List.append_of_mem hr
      have h1' : A ++ r :: B = A1 ++ r :: (A2 ++ y :: B') := by rw [h1]; simp
      have nd' : (A ++ r :: B).Nodup := e ▸ nd
      have eq : A = A1 := by
        have : ∀ (A A1 B C : List ν), A ++ r :: B = A1 ++ r :: C → (A ++ r :: B).Nodup → A = A1 := by
          intro A
          induction A with
          | nil =>
            intro A1 B C h nd
            cases A1 with
            | nil => rfl
            | cons a A1 =>
              rw [List.nil_append, List.cons_append] at h
              obtain ⟨h1, h2⟩ := List.cons.inj h
              subst h1
              rw [List.nil_append, List.nodup_cons] at nd
              exact absurd (by rw [h2]; simp) nd.1
          | cons a A ih =>
            intro A1 B C h nd
            cases A1 with
            | nil =>
              rw [List.nil_append, List.cons_append] at h
              obtain ⟨h1, h2⟩ := List.cons.inj h
              subst h1
              rw [List.cons_append, List.nodup_cons] at nd
              exact absurd (by simp) nd.1
            | cons b A1 =>
              rw [List.cons_append, List.cons_append] at h
              obtain ⟨h1, h2⟩ := List.cons.inj h
              subst h1
              rw [List.cons_append, List.nodup_cons] at nd
              rw [ih A1 B C h2 nd.2]
        exact this _ _ _ _ h1' nd'
      subst eq
      have h2 := List.append_cancel_left h1'
      rw [(List.cons.inj h2).2]
      simp
    exact hy (hB y this)
  · exact h2.symm
  · rcases hq with hq | hq
    · exact absurd (h2.trans hb) (h3 q hq)
    · cases hq
/-- .. and the other way: what is in r's part is found by going back from r through what is not placed -/
theorem part_found {r x : ν} {part : ν → Prop} {before : ν → Prop} (hr : part r) (closed : ∀ a b, Both E a b → before a → before b) (nr : ¬ before r) (back : ∀ z, part z → ∀ y, E y z → before y ∨ part y) (h : Both E r x) : part x := by
  have go : ∀ y z, Rch E y z → part z → Rch E r y → Rch E z r → part y := by
    intro y z p
    induction p with
    | refl => exact fun h _ _ => h
    | @step a b c e p ih =>
      intro hc ra cr
      have hb : part b := ih hc (ra.trans (.one e)) cr
      rcases back b hb a e with h1 | h1
      · exact absurd (closed a r ⟨.step e (p.trans cr), ra⟩ h1) nr
      · exact h1
  exact go x r h.2 hr h.1 (.refl r)
end
/-! ### sums over nodes -/
def wsum {ν : Type} (f : ν → Nat) : List ν → Nat
  | [] => 0
  | x :: l => f x + wsum f l
theorem wsum_append {ν : Type} (f : ν → Nat) : ∀ l k : List ν, wsum f (l ++ k) = wsum f l + wsum f k
  | [], k => by simp [wsum]
  | x :: l, k => by rw [List.cons_append, wsum, wsum, wsum_append f l k]; omega
theorem wsum_erase {ν : Type} [DecidableEq ν] (f : ν → Nat) {x : ν} : ∀ {l : List ν}, x ∈ l → wsum f l = f x + wsum f (l.erase x)
  | [], h => by cases h
  | y :: l, h => by
    by_cases e : y = x
    · subst e; rw [List.erase_cons_head]; rfl
    · rw [List.erase_cons_tail (by simpa using e), wsum, wsum, wsum_erase f (by rcases List.mem_cons.mp h with rfl | h; exact absurd rfl e; exact h)]
      omega
theorem wsum_le {ν : Type} [DecidableEq ν] (f : ν → Nat) : ∀ (l k : List ν), l.Nodup → (∀ x ∈ l, x ∈ k) → wsum f l ≤ wsum f k
  | [], k, _, _ => by simp [wsum]
  | x :: l, k, nd, h => by
    obtain ⟨h1, h2⟩ := List.nodup_cons.mp nd
    rw [wsum_erase f (h x (by simp)), wsum]
    have := wsum_le f l (k.erase x) h2 fun y hy => (List.mem_erase_of_ne fun e => h1 (by rw [← e]; exact hy)).2 (h y (by simp [hy]))
    omega
end NS
/-! M2: which done sets a run may end with: the future of a run against the done sets of the system started where it ends. Plain Lean. -/
namespace NS
section
variable {S W M : Type} (ways : S → List (M × S)) (wd : M → W) (tk : M → Int → Prop) (abl : Int → S → Prop) (dil : List Int)
/-- a move whose word is in d -/
def Ed (d : W → Prop) (s t : S) : Prop := ∃ m, (m, t) ∈ ways s ∧ d (wd m)
/-- hand h is ready all through the part of s and never moves in it -/
def Idle (d : W → Prop) (s : S) (h : Int) : Prop :=
  (∀ t, Both (Ed ways wd d) s t → abl h t) ∧ ∀ a b m, Both (Ed ways wd d) s a → Both (Ed ways wd d) s b → (m, b) ∈ ways a → d (wd m) → ¬ tk m h
def Fair (d : W → Prop) (s : S) : Prop := ∀ h ∈ dil, ¬ Idle ways wd tk abl d s h
inductive Run : S → List W → S → Prop
  | nil (s) : Run s [] s
  | cons {s t u : S} {m : M} {ws : List W} : (m, t) ∈ ways s → Run t ws u → Run s (wd m :: ws) u
variable {ways wd tk abl dil}
theorem Run.append {s t u : S} {ws vs : List W} (p : Run ways wd s ws t) (q : Run ways wd t vs u) : Run ways wd s (ws ++ vs) u := by
  induction p with
  | nil => exact q
  | cons h _ ih => exact .cons h (ih q)
theorem Run.reach {d : W → Prop} {s t : S} {ws : List W} (p : Run ways wd s ws t) (h : ∀ w ∈ ws, d w) : Rch (Ed ways wd d) s t := by
  induction p with
  | nil => exact .refl _
  | cons e _ ih => exact .step ⟨_, e, h _ (by simp)⟩ (ih fun w hw => h w (List.mem_cons_of_mem _ hw))
theorem run_of {d : W → Prop} {s t : S} (p : Rch (Ed ways wd d) s t) : ∃ ws, Run ways wd s ws t ∧ ∀ w ∈ ws, d w := by
  induction p with
  | refl s => exact ⟨[], .nil s, fun w h => by cases h⟩
  | step e _ ih =>
    obtain ⟨m, h1, h2⟩ := e
    obtain ⟨ws, h3, h4⟩ := ih
    refine ⟨_, .cons h1 h3, fun w h => ?_⟩
    rcases List.mem_cons.mp h with rfl | h
    · exact h2
    · exact h4 w h
theorem Fair.mono {d d' : W → Prop} (h : ∀ w, d w → d' w) {s : S} (f : Fair ways wd tk abl dil d s) : Fair ways wd tk abl dil d' s := fun k hk i => f k hk (by
  have up : ∀ a b, Both (Ed ways wd d) a b → Both (Ed ways wd d') a b := fun a b q =>
    ⟨q.1.mono fun _ _ ⟨m, x, y⟩ => ⟨m, x, h _ y⟩, q.2.mono fun _ _ ⟨m, x, y⟩ => ⟨m, x, h _ y⟩⟩
  exact ⟨fun t q => i.1 t (up _ _ q), fun a b m q1 q2 q3 q4 => i.2 a b m (up _ _ q1) (up _ _ q2) q3 (h _ q4)⟩)
theorem Fair.congr {d d' : W → Prop} (h : ∀ w, d w ↔ d' w) {s : S} : Fair ways wd tk abl dil d s ↔ Fair ways wd tk abl dil d' s := ⟨.mono fun w => (h w).mp, .mono fun w => (h w).mpr⟩
/-- the words of the moves within the part of s -/
def Inner (ways : S → List (M × S)) (wd : M → W) (d : W → Prop) (s : S) (w : W) : Prop := ∃ a b m, Both (Ed ways wd d) s a ∧ Both (Ed ways wd d) s b ∧ (m, b) ∈ ways a ∧ d (wd m) ∧ wd m = w
theorem within {d : W → Prop} {s x y : S} (p : Rch (Ed ways wd d) x y) (hx : Rch (Ed ways wd d) s x) (hy : Rch (Ed ways wd d) y s) : ∃ ws, Run ways wd x ws y ∧ ∀ w ∈ ws, Inner ways wd d s w := by
  induction p with
  | refl x => exact ⟨[], .nil x, fun w h => by cases h⟩
  | @step a b c e p ih =>
    obtain ⟨m, h1, h2⟩ := e
    obtain ⟨ws, h3, h4⟩ := ih (hx.trans (.one ⟨m, h1, h2⟩)) hy
    refine ⟨_, .cons h1 h3, fun w h => ?_⟩
    rcases List.mem_cons.mp h with rfl | h
    · exact ⟨a, b, m, ⟨hx, .step ⟨m, h1, h2⟩ (p.trans hy)⟩, ⟨hx.trans (.one ⟨m, h1, h2⟩), p.trans hy⟩, h1, h2, rfl⟩
    · exact h4 w h
theorem round {d : W → Prop} {s : S} : ∀ wl : List W, (∀ w ∈ wl, Inner ways wd d s w) → ∃ ws, Run ways wd s ws s ∧ (∀ w ∈ wl, w ∈ ws) ∧ ∀ w ∈ ws, Inner ways wd d s w
  | [], _ => ⟨[], .nil s, (fun w h => by cases h), fun w h => by cases h⟩
  | w :: wl, h => by
    obtain ⟨ws, h1, h2, h3⟩ := round wl fun v hv => h v (List.mem_cons_of_mem _ hv)
    obtain ⟨a, b, m, qa, qb, e, dw, rfl⟩ := h w (by simp)
    obtain ⟨u1, r1, i1⟩ := within qa.1 (.refl s) qa.2
    obtain ⟨u2, r2, i2⟩ := within qb.2 qb.1 (.refl s)
    refine ⟨u1 ++ wd m :: u2 ++ ws, (r1.append (.cons e r2)).append h1, fun v hv => ?_, fun v hv => ?_⟩
    · rcases List.mem_cons.mp hv with rfl | hv
      · simp
      · have := h2 v hv
        simp [this]
    · simp only [List.append_assoc, List.cons_append, List.mem_append, List.mem_cons] at hv
      rcases hv with hv | rfl | hv | hv
      · exact i1 v hv
      · exact ⟨a, b, m, qa, qb, e, dw, rfl⟩
      · exact i2 v hv
      · exact h3 v hv
/-- a fair end with the words D besides is one without them, some rounds later -/
theorem fair_less {D : W → Prop} {s e : S} {ws vocab : List W} (voc : ∀ a m b, (m, b) ∈ ways a → wd m ∈ vocab) (r : Run ways wd e ws s) (f : Fair ways wd tk abl dil (fun w => D w ∨ w ∈ ws) s) :
    ∃ ws', Run ways wd e ws' s ∧ Fair ways wd tk abl dil (· ∈ ws') s ∧ ∀ w, (D w ∨ w ∈ ws') ↔ (D w ∨ w ∈ ws) := by
  classical
  generalize hU : (fun w => D w ∨ w ∈ ws) = U at f
  have U_ : ∀ w, U w ↔ D w ∨ w ∈ ws := fun w => by rw [← hU]
  obtain ⟨u, h1, h2, h3⟩ := round (d := U) (s := s) (ways := ways) (wd := wd) (vocab.filter fun w => decide (Inner ways wd U s w)) fun w hw => of_decide_eq_true (List.mem_filter.mp hw).2
  have inn : ∀ w, Inner ways wd U s w → w ∈ u := fun w hw => h2 w (List.mem_filter.mpr ⟨by obtain ⟨a, b, m, _, _, e, _, rfl⟩ := hw; exact voc a m b e, decide_eq_true hw⟩)
  refine ⟨ws ++ u, r.append h1, fun k hk i => f k hk ?_, fun w => ?_⟩
  · have up : ∀ t, Both (Ed ways wd U) s t → Both (Ed ways wd (· ∈ ws ++ u)) s t := fun t q => by
      obtain ⟨x, rx, ix⟩ := within q.1 (.refl s) q.2
      obtain ⟨y, ry, iy⟩ := within q.2 q.1 (.refl s)
      exact ⟨rx.reach fun w hw => List.mem_append_right _ (inn w (ix w hw)), ry.reach fun w hw => List.mem_append_right _ (inn w (iy w hw))⟩
    exact ⟨fun t q => i.1 t (up t q), fun a b m q1 q2 q3 q4 => i.2 a b m (up a q1) (up b q2) q3 (List.mem_append_right _ (inn _ ⟨a, b, m, q1, q2, q3, q4, rfl⟩))⟩
  · constructor
    · rintro (h | h)
      · exact .inl h
      · rcases List.mem_append.mp h with h | h
        · exact .inr h
        · obtain ⟨_, _, m, _, _, _, h5, rfl⟩ := h3 w h
          exact (U_ _).mp h5
    · rintro (h | h)
      · exact .inl h
      · exact .inr (List.mem_append_left _ h)
theorem most {P : Nat → Prop} : ∀ N, (∃ n, P n) → (∀ n, P n → n ≤ N) → ∃ n, P n ∧ ∀ m, P m → m ≤ n
  | 0, ⟨n, h⟩, b => ⟨n, h, fun m hm => by have := b m hm; omega⟩
  | N + 1, ⟨n, h⟩, b => by
    by_cases hN : P (N + 1)
    · exact ⟨N + 1, hN, b⟩
    · exact most N ⟨n, h⟩ fun m hm => by
        have := b m hm
        rcases Nat.lt_or_eq_of_le this with h | h
        · omega
        · subst h; exact absurd hm hN
theorem least {P : Nat → Prop} (h : ∃ n, P n) : ∃ n, P n ∧ ∀ m, P m → n ≤ m := by
  obtain ⟨n, hn⟩ := h
  induction n using Nat.strongRecOn with
  | _ n ih =>
    by_cases q : ∃ m, m < n ∧ P m
    · obtain ⟨m, h1, h2⟩ := q
      exact ih m h1 h2
    · exact ⟨n, hn, fun m hm => Nat.le_of_not_lt fun h => q ⟨m, h, hm⟩⟩
theorem filter_same {α : Type} {p q : α → Bool} : ∀ {l : List α}, (∀ x ∈ l, p x = true → q x = true) → (l.filter q).length ≤ (l.filter p).length → ∀ x ∈ l, q x = true → p x = true
  | [], _, _, x, h, _ => by cases h
  | a :: l, h1, h2, x, hx, hq => by
    have le : (l.filter p).length ≤ (l.filter q).length := by
      clear h2 hx hq
      have : ∀ l : List α, (∀ x ∈ l, p x = true → q x = true) → (l.filter p).length ≤ (l.filter q).length := by
        intro l
        induction l with
        | nil => intro _; simp
        | cons b l ih =>
          intro h
          have := ih fun y hy => h y (List.mem_cons_of_mem _ hy)
          have hb := h b (by simp)
          simp only [List.filter_cons]
          cases hp : p b with
          | true => simp [hb hp]; omega
          | false => cases q b <;> simp <;> omega
      exact this l fun y hy => h1 y (List.mem_cons_of_mem _ hy)
    have ha := h1 a (by simp)
    simp only [List.filter_cons] at h2
    cases hp : p a with
    | true =>
      rw [hp, ha hp] at h2
      simp at h2
      rcases List.mem_cons.mp hx with rfl | hx
      · exact hp
      · exact filter_same (fun y hy => h1 y (List.mem_cons_of_mem _ hy)) h2 x hx hq
    | false =>
      rw [hp] at h2
      cases hqa : q a with
      | true => rw [hqa] at h2; simp at h2; omega
      | false =>
        rw [hqa] at h2
        simp at h2
        rcases List.mem_cons.mp hx with rfl | hx
        · rw [hqa] at hq; cases hq
        · exact filter_same (fun y hy => h1 y (List.mem_cons_of_mem _ hy)) h2 x hx hq
theorem filter_len {α : Type} {p q : α → Bool} : ∀ l : List α, (∀ x ∈ l, p x = true → q x = true) → (l.filter p).length ≤ (l.filter q).length := by
  intro l
  induction l with
  | nil => intro _; simp
  | cons b l ih =>
    intro h
    have := ih fun y hy => h y (List.mem_cons_of_mem _ hy)
    have hb := h b (by simp)
    simp only [List.filter_cons]
    cases hp : p b with
    | true => simp [hb hp]; omega
    | false => cases q b <;> simp <;> omega
/-- there is always a fair end -/
theorem fair_end {D : W → Prop} {e : S} {vocab : List W} {states : List S} (voc : ∀ a m b, (m, b) ∈ ways a → wd m ∈ vocab) (fin : ∀ ws t, Run ways wd e ws t → t ∈ states) (live : ∀ h s, h ∈ dil → (∃ ws, Run ways wd e ws s) → abl h s → ∃ m t, (m, t) ∈ ways s ∧ tk m h) :
    ∃ s ws, Run ways wd e ws s ∧ Fair ways wd tk abl dil (fun w => D w ∨ w ∈ ws) s := by
  classical
  have run_voc : ∀ {a b ws}, Run ways wd a ws b → ∀ w ∈ ws, w ∈ vocab := by
    intro a b ws r
    induction r with
    | nil => intro w h; cases h
    | cons h _ ih =>
      intro w hw
      rcases List.mem_cons.mp hw with rfl | hw
      · exact voc _ _ _ h
      · exact ih w hw
  -- as many words as can be
  obtain ⟨n, ⟨s, ws, r, hn⟩, mx⟩ := most (P := fun n => ∃ s ws, Run ways wd e ws s ∧ (vocab.filter fun w => decide (D w ∨ w ∈ ws)).length = n) vocab.length ⟨_, e, [], .nil e, rfl⟩ (by
    rintro n ⟨s, ws, _, rfl⟩
    exact List.length_filter_le _ _)
  have full : ∀ {t u ws2 ws3}, Run ways wd s ws2 t → Run ways wd t ws3 u → ∀ w ∈ ws3, D w ∨ w ∈ ws ++ ws2 := by
    intro t u ws2 ws3 r2 r3 w hw
    have m := mx _ ⟨u, ws ++ ws2 ++ ws3, (r.append r2).append r3, rfl⟩
    rw [← hn] at m
    have := filter_same (l := vocab) (p := fun w => decide (D w ∨ w ∈ ws)) (q := fun w => decide (D w ∨ w ∈ ws ++ ws2 ++ ws3)) (fun x _ h => by
      simp only [decide_eq_true_eq] at h ⊢
      rcases h with h | h
      · exact .inl h
      · exact .inr (by simp [h])) m w (run_voc r3 w hw) (by simp [hw])
    simp only [decide_eq_true_eq] at this
    rcases this with h | h
    · exact .inl h
    · exact .inr (List.mem_append_left _ h)
  -- as few states as can be
  obtain ⟨k, ⟨t, ws2, r2, hk⟩, mn⟩ := least (P := fun n => ∃ t ws2, Run ways wd s ws2 t ∧ (states.filter fun x => decide (∃ v, Run ways wd t v x)).length = n) ⟨_, s, [], .nil s, rfl⟩
  have back : ∀ {v x}, Run ways wd t v x → ∃ v', Run ways wd x v' t := by
    intro v x rx
    have m := mn _ ⟨x, ws2 ++ v, r2.append rx, rfl⟩
    rw [← hk] at m
    have := filter_same (l := states) (p := fun y => decide (∃ v, Run ways wd x v y)) (q := fun y => decide (∃ v, Run ways wd t v y)) (fun y _ h => by
      simp only [decide_eq_true_eq] at h ⊢
      obtain ⟨v', h⟩ := h
      exact ⟨v ++ v', rx.append h⟩) m t (fin _ _ (r.append r2)) (decide_eq_true ⟨[], .nil t⟩)
    exact of_decide_eq_true this
  have both : ∀ {v x}, Run ways wd t v x → Both (Ed ways wd fun w => D w ∨ w ∈ ws ++ ws2) t x := by
    intro v x rx
    obtain ⟨v', rb⟩ := back rx
    refine ⟨rx.reach (full r2 rx), rb.reach fun w hw => ?_⟩
    exact full r2 (rx.append rb) w (by simp [hw])
  refine ⟨t, ws ++ ws2, r.append r2, fun h hh i => ?_⟩
  obtain ⟨m, x, hm, htk⟩ := live h t hh ⟨_, r.append r2⟩ (i.1 t (.refl t))
  have rx : Run ways wd t [wd m] x := .cons hm (.nil x)
  exact i.2 t x m (.refl t) (both rx) hm (full r2 rx _ (by simp)) htk
section
variable {D : W → Prop} {e : S} {vocab : List W} {w : W}
/-- in every one -/
theorem in_all (voc : ∀ a m b, (m, b) ∈ ways a → wd m ∈ vocab) :
    (∀ s ws, Run ways wd e ws s → Fair ways wd tk abl dil (fun w => D w ∨ w ∈ ws) s → D w ∨ w ∈ ws) ↔ (D w ∨ ∀ s ws, Run ways wd e ws s → Fair ways wd tk abl dil (· ∈ ws) s → w ∈ ws) := by
  classical
  constructor
  · intro h
    by_cases hD : D w
    · exact .inl hD
    · exact .inr fun s ws r f => (h s ws r (f.mono fun v hv => .inr hv)).resolve_left hD
  · rintro (h | h) s ws r f
    · exact .inl h
    · obtain ⟨ws', r', f', eq⟩ := fair_less voc r f
      exact (eq w).mp (.inr (h s ws' r' f'))
/-- in some -/
theorem in_some {states : List S} (voc : ∀ a m b, (m, b) ∈ ways a → wd m ∈ vocab) (fin : ∀ ws t, Run ways wd e ws t → t ∈ states) (live : ∀ h s, h ∈ dil → (∃ ws, Run ways wd e ws s) → abl h s → ∃ m t, (m, t) ∈ ways s ∧ tk m h) :
    (∃ s ws, Run ways wd e ws s ∧ Fair ways wd tk abl dil (fun w => D w ∨ w ∈ ws) s ∧ (D w ∨ w ∈ ws)) ↔ (D w ∨ ∃ s ws, Run ways wd e ws s ∧ Fair ways wd tk abl dil (· ∈ ws) s ∧ w ∈ ws) := by
  constructor
  · rintro ⟨s, ws, r, f, h⟩
    obtain ⟨ws', r', f', eq⟩ := fair_less voc r f
    rcases (eq w).mpr h with h | h
    · exact .inl h
    · exact .inr ⟨s, ws', r', f', h⟩
  · rintro (h | ⟨s, ws, r, f, h⟩)
    · obtain ⟨s, ws, r, f⟩ := fair_end (D := D) (dil := dil) (abl := abl) (tk := tk) voc fin live
      exact ⟨s, ws, r, f, .inl h⟩
    · exact ⟨s, ws, r, f.mono fun v hv => .inr hv, .inr h⟩
/-- what is in every one is in some -/
theorem all_some {states : List S} (voc : ∀ a m b, (m, b) ∈ ways a → wd m ∈ vocab) (fin : ∀ ws t, Run ways wd e ws t → t ∈ states) (live : ∀ h s, h ∈ dil → (∃ ws, Run ways wd e ws s) → abl h s → ∃ m t, (m, t) ∈ ways s ∧ tk m h)
    (h : ∀ s ws, Run ways wd e ws s → Fair ways wd tk abl dil (· ∈ ws) s → w ∈ ws) : ∃ s ws, Run ways wd e ws s ∧ Fair ways wd tk abl dil (· ∈ ws) s ∧ w ∈ ws := by
  obtain ⟨s, ws, r, f⟩ := fair_end (D := fun _ => False) (dil := dil) (abl := abl) (tk := tk) voc fin live
  have f' : Fair ways wd tk abl dil (· ∈ ws) s := f.mono fun v hv => hv.resolve_left id
  exact ⟨s, ws, r, f', h s ws r f'⟩
end
end
end NS
/-! M3: hands, systems, moves as plain data; ordered rows of words. -/
namespace NS
open PySem PySem.Spec PyProof.Rows
abbrev Stp := Int × Str × Int
abbrev Stg := List Int
abbrev Move := Str × List (Option Int)
abbrev Nod := Stg × List Str
structure HandM where
  start : Int
  steps : List Stp
  words : List Str
  states : List Int
structure SysM where
  hands : List HandM
  dil : List Int
  words : List Str
  start : List Int
/-! ### ordered rows of words -/
def SLt (a b : Str) : Prop := a.cps.toList < b.cps.toList
theorem SLt.trans {a b c : Str} (h : SLt a b) (k : SLt b c) : SLt a c := List.lt_trans h k
theorem SLt.irrefl {a : Str} : ¬ SLt a a := List.lt_irrefl _
theorem slt_of {a b : Str} (h : ltCps b.cps.toList a.cps.toList = false) (ne : a ≠ b) : SLt a b := by
  rw [ltCps_eq, decide_eq_false_iff_not] at h
  rcases Nat.lt_or_ge 0 1 with _ | _
  · have hle : a.cps.toList ≤ b.cps.toList := List.not_lt.mp h
    rcases List.le_iff_lt_or_eq.mp hle with q | q
    · exact q
    · exfalso
      apply ne
      cases a; cases b
      simp only [Str.mk.injEq]
      exact Array.ext' q
  · omega
theorem rising_pw : ∀ (l : List Str) (p : Str), risingS p l = true → (p :: l).Nodup → (p :: l).Pairwise SLt
  | [], p, _, _ => List.pairwise_singleton _ _
  | x :: l, p, h, nd => by
    unfold risingS at h
    rw [Bool.and_eq_true, Bool.not_eq_true'] at h
    obtain ⟨n1, n2⟩ := List.nodup_cons.mp nd
    have ih := rising_pw l x h.2 n2
    have px : SLt p x := slt_of h.1 fun e => n1 (by rw [e]; simp)
    refine List.pairwise_cons.mpr ⟨fun y hy => ?_, ih⟩
    rcases List.mem_cons.mp hy with rfl | hy
    · exact px
    · exact px.trans ((List.pairwise_cons.mp ih).1 y hy)
theorem sorted_pw {l : List Str} (h : sortedS l = true) (nd : l.Nodup) : l.Pairwise SLt := by
  cases l with
  | nil => exact List.Pairwise.nil
  | cons x l => exact rising_pw l x h nd
theorem pw_nodup {l : List Str} (h : l.Pairwise SLt) : l.Nodup := h.imp fun {a b} q e => by subst e; exact SLt.irrefl q
theorem pw_unique : ∀ {l k : List Str}, l.Pairwise SLt → k.Pairwise SLt → (∀ x, x ∈ l ↔ x ∈ k) → l = k
  | [], [], _, _, _ => rfl
  | [], y :: k, _, _, h => absurd ((h y).mpr (by simp)) (by simp)
  | x :: l, [], _, _, h => absurd ((h x).mp (by simp)) (by simp)
  | x :: l, y :: k, hl, hk, h => by
    obtain ⟨l1, l2⟩ := List.pairwise_cons.mp hl
    obtain ⟨k1, k2⟩ := List.pairwise_cons.mp hk
    have e : x = y := by
      rcases List.mem_cons.mp ((h x).mp (by simp)) with e | hx
      · exact e
      · rcases List.mem_cons.mp ((h y).mpr (by simp)) with e | hy
        · exact e.symm
        · exact absurd ((k1 x hx).trans (l1 y hy)) SLt.irrefl
    subst e
    rw [pw_unique l2 k2 fun z => ?_]
    have nx : x ∉ l := fun m => SLt.irrefl (l1 x m)
    have ny : x ∉ k := fun m => SLt.irrefl (k1 x m)
    have hz := h z
    simp only [List.mem_cons] at hz
    constructor
    · intro m
      rcases hz.mp (.inr m) with rfl | q
      · exact absurd m nx
      · exact q
    · intro m
      rcases hz.mpr (.inr m) with rfl | q
      · exact absurd m ny
      · exact q
/-- the done words with one more -/
def insW (voc : List Str) (d : List Str) (w : Str) : List Str := voc.filter fun x => decide (x ∈ d ∨ x = w)
/-- the words of voc that are in d, in their order -/
def canW (voc d : List Str) : List Str := voc.filter fun x => decide (x ∈ d)
theorem mem_insW {voc d : List Str} {w x : Str} (hd : ∀ y ∈ d, y ∈ voc) (hw : w ∈ voc) : x ∈ insW voc d w ↔ x ∈ d ∨ x = w := by
  unfold insW
  rw [List.mem_filter, decide_eq_true_eq]
  exact ⟨fun h => h.2, fun h => ⟨h.elim (hd x) fun e => e ▸ hw, h⟩⟩
theorem insW_pw {voc d : List Str} {w : Str} (h : voc.Pairwise SLt) : (insW voc d w).Pairwise SLt := h.filter _
theorem mem_canW {voc d : List Str} {x : Str} (hd : ∀ y ∈ d, y ∈ voc) : x ∈ canW voc d ↔ x ∈ d := by
  unfold canW
  rw [List.mem_filter, decide_eq_true_eq]
  exact ⟨fun h => h.2, fun h => ⟨hd x h, h⟩⟩
theorem canW_self {voc d : List Str} (hv : voc.Pairwise SLt) (hd : d.Pairwise SLt) (h : ∀ y ∈ d, y ∈ voc) : canW voc d = d :=
  pw_unique (hv.filter _) hd fun x => mem_canW h
theorem insW_eq {voc d ys : List Str} {w : Str} (hv : voc.Pairwise SLt) (hd : ∀ y ∈ d, y ∈ voc) (hw : w ∈ voc) (hy : ys.Pairwise SLt) (h : ∀ x, x ∈ ys ↔ x ∈ d ∨ x = w) : ys = insW voc d w :=
  pw_unique hy (insW_pw hv) fun x => (h x).trans (mem_insW hd hw).symm
theorem insW_old {voc d : List Str} {w : Str} (hv : voc.Pairwise SLt) (hd : d.Pairwise SLt) (h : ∀ y ∈ d, y ∈ voc) (hw : w ∈ d) : insW voc d w = d :=
  (insW_eq hv h (h w hw) hd fun x => ⟨.inl, fun q => q.elim id fun e => e ▸ hw⟩).symm
/-! ### moves -/
/-- the places of the steps from s by the word w -/
def idxs (s : Int) (w : Str) : List Stp → Nat → List (Option Int)
  | [], _ => []
  | x :: l, n => if x.1 = s ∧ x.2.1 = w then some (n : Int) :: idxs s w l (n + 1) else idxs s w l (n + 1)
theorem idxs_snoc (s : Int) (w : Str) (x : Stp) : ∀ (l : List Stp) (n : Nat), idxs s w (l ++ [x]) n = idxs s w l n ++ (if x.1 = s ∧ x.2.1 = w then [some ((n + l.length : Nat) : Int)] else [])
  | [], n => by simp [idxs]
  | y :: l, n => by
    rw [List.cons_append, idxs, idxs, idxs_snoc s w x l (n + 1)]
    have e : n + 1 + l.length = n + (y :: l).length := by rw [List.length_cons]; omega
    rw [e]
    split <;> rfl
theorem mem_idxs {s : Int} {w : Str} {i : Option Int} : ∀ {l : List Stp} {n : Nat}, i ∈ idxs s w l n ↔ ∃ (j : Nat) (x : Stp), l[j]? = some x ∧ x.1 = s ∧ x.2.1 = w ∧ i = some ((n + j : Nat) : Int)
  | [], n => by simp [idxs]
  | x :: l, n => by
    have ih := mem_idxs (s := s) (w := w) (i := i) (l := l) (n := n + 1)
    rw [idxs]
    constructor
    · intro h
      have h' : (x.1 = s ∧ x.2.1 = w ∧ i = some (n : Int)) ∨ i ∈ idxs s w l (n + 1) := by
        split at h
        · rename_i q
          rcases List.mem_cons.mp h with h | h
          · exact .inl ⟨q.1, q.2, h⟩
          · exact .inr h
        · exact .inr h
      rcases h' with ⟨a, b, c⟩ | h'
      · exact ⟨0, x, rfl, a, b, c⟩
      · obtain ⟨j, y, h1, h2, h3, h4⟩ := ih.mp h'
        exact ⟨j + 1, y, by simpa using h1, h2, h3, by rw [h4]; congr 2; omega⟩
    · rintro ⟨j, y, h1, h2, h3, h4⟩
      cases j with
      | zero =>
        simp only [List.getElem?_cons_zero, Option.some.injEq] at h1
        subst h1
        rw [if_pos ⟨h2, h3⟩, h4]
        simp
      | succ j =>
        have m : i ∈ idxs s w l (n + 1) := ih.mpr ⟨j, y, by simpa using h1, h2, h3, by rw [h4]; congr 2; omega⟩
        split
        · exact List.mem_cons_of_mem _ m
        · exact m
def stepNums (h : HandM) (s : Int) (w : Str) : List (Option Int) := if w ∈ h.words then idxs s w h.steps 0 else [none]
/-- rows longer by one hand -/
def rowsMore (rows : List (List (Option Int))) (nums : List (Option Int)) : List (List (Option Int)) := rows.flatMap fun r => nums.map fun n => r ++ [n]
def rowsOf (w : Str) : List (HandM × Int) → List (List (Option Int)) → List (List (Option Int))
  | [], rows => rows
  | hs :: l, rows => rowsOf w l (rowsMore rows (stepNums hs.1 hs.2 w))
theorem rowsOf_snoc (w : Str) (x : HandM × Int) : ∀ (l : List (HandM × Int)) (rows : List (List (Option Int))), rowsOf w (l ++ [x]) rows = rowsMore (rowsOf w l rows) (stepNums x.1 x.2 w)
  | [], rows => rfl
  | y :: l, rows => by rw [List.cons_append, rowsOf, rowsOf, rowsOf_snoc w x l]
def movesOf (S : SysM) (st : Stg) : List Move := S.words.flatMap fun w => (rowsOf w (S.hands.zip st) [[]]).map fun r => (w, r)
/-- where a hand stands behind its part of a move -/
def after (h : HandM) (s : Int) : Option Int → Int
  | none => s
  | some i => ((h.steps[i.toNat]?).map fun x => x.2.2).getD s
def ledTo (S : SysM) (st : Stg) (m : Move) : Stg := ((S.hands.zip st).zip m.2).map fun q => after q.1.1 q.1.2 q.2
def waysOf (S : SysM) (st : Stg) : List (Move × Stg) := (movesOf S st).map fun m => (m, ledTo S st m)
/-- a move that the system may take -/
structure MvOk (S : SysM) (st : Stg) (m : Move) : Prop where
  word : m.1 ∈ S.words
  len : m.2.length = S.hands.length
  nums : ∀ (i : Nat) h s n, S.hands[i]? = some h → st[i]? = some s → m.2[i]? = some n → n ∈ stepNums h s m.1
theorem mem_rowsMore {rows : List (List (Option Int))} {nums : List (Option Int)} {r : List (Option Int)} : r ∈ rowsMore rows nums ↔ ∃ a ∈ rows, ∃ n ∈ nums, r = a ++ [n] := by
  unfold rowsMore
  rw [List.mem_flatMap]
  exact ⟨fun ⟨a, h1, h2⟩ => let ⟨n, h3, h4⟩ := List.mem_map.mp h2; ⟨a, h1, n, h3, h4.symm⟩, fun ⟨a, h1, n, h3, h4⟩ => ⟨a, h1, List.mem_map.mpr ⟨n, h3, h4.symm⟩⟩⟩
theorem mem_rowsOf (w : Str) : ∀ (l : List (HandM × Int)) (rows : List (List (Option Int))) (r : List (Option Int)), r ∈ rowsOf w l rows ↔
    ∃ a ∈ rows, ∃ ns : List (Option Int), r = a ++ ns ∧ ns.length = l.length ∧ ∀ (i : Nat) q n, l[i]? = some q → ns[i]? = some n → n ∈ stepNums q.1 q.2 w
  | [], rows, r => by
    constructor
    · intro h
      exact ⟨r, h, [], by simp, rfl, fun i q n h => by simp at h⟩
    · rintro ⟨a, ha, ns, rfl, hl, _⟩
      rw [List.eq_nil_of_length_eq_zero hl, List.append_nil]
      exact ha
  | x :: l, rows, r => by
    rw [rowsOf, mem_rowsOf w l]
    constructor
    · rintro ⟨a, ha, ns, rfl, hl, hn⟩
      obtain ⟨a', ha', n, hn', rfl⟩ := mem_rowsMore.mp ha
      refine ⟨a', ha', n :: ns, by simp, by simp [hl], fun i q m h1 h2 => ?_⟩
      cases i with
      | zero =>
        simp only [List.getElem?_cons_zero, Option.some.injEq] at h1 h2
        subst h1 h2
        exact hn'
      | succ i => exact hn i q m (by simpa using h1) (by simpa using h2)
    · rintro ⟨a, ha, ns, rfl, hl, hn⟩
      cases ns with
      | nil => simp at hl
      | cons n ns =>
        refine ⟨a ++ [n], mem_rowsMore.mpr ⟨a, ha, n, hn 0 x n rfl rfl, rfl⟩, ns, by simp, by simpa using hl, fun i q m h1 h2 => hn (i + 1) q m (by simpa using h1) (by simpa using h2)⟩
theorem mem_moves {S : SysM} {st : Stg} {m : Move} (hl : st.length = S.hands.length) : m ∈ movesOf S st ↔ MvOk S st m := by
  unfold movesOf
  rw [List.mem_flatMap]
  constructor
  · rintro ⟨w, hw, h⟩
    obtain ⟨r, hr, rfl⟩ := List.mem_map.mp h
    obtain ⟨a, ha, ns, rfl, h1, h2⟩ := (mem_rowsOf w _ _ _).mp hr
    rw [List.mem_singleton] at ha
    subst ha
    rw [List.length_zip, hl, Nat.min_self] at h1
    refine ⟨hw, by simpa using h1, fun i h s n a1 a2 a3 => h2 i (h, s) n ?_ (by simpa using a3)⟩
    rw [List.getElem?_zip_eq_some]
    exact ⟨a1, a2⟩
  · rintro ⟨h1, h2, h3⟩
    refine ⟨m.1, h1, List.mem_map.mpr ⟨m.2, (mem_rowsOf _ _ _ _).mpr ⟨[], by simp, m.2, by simp, ?_, fun i q n a1 a2 => ?_⟩, rfl⟩⟩
    · rw [List.length_zip, hl, Nat.min_self]; exact h2
    · rw [List.getElem?_zip_eq_some] at a1
      exact h3 i q.1 q.2 n a1.1 a1.2 a2
theorem mem_ways {S : SysM} {st : Stg} {m : Move} {t : Stg} (hl : st.length = S.hands.length) : (m, t) ∈ waysOf S st ↔ MvOk S st m ∧ t = ledTo S st m := by
  unfold waysOf
  rw [List.mem_map]
  constructor
  · rintro ⟨m', h, e⟩
    injection e with e1 e2
    subst e1
    exact ⟨(mem_moves hl).mp h, e2.symm⟩
  · rintro ⟨h, rfl⟩
    exact ⟨m, (mem_moves hl).mpr h, rfl⟩
end NS
/-! M4: standings, nodes, sizes; who may move; the pair graph and its runs. -/
namespace NS
open PySem PySem.Spec PyProof.Rows
/-! ### sound hands and systems -/
/-- a name: one to twelve small letters -/
def NameOk (x : Str) : Prop := 1 ≤ x.cps.size ∧ x.cps.size ≤ 12 ∧ ∀ c ∈ x.cps.toList, 97 ≤ c ∧ c ≤ 122
def StateOk (i : Int) : Prop := 0 ≤ i ∧ i ≤ 99
structure StepOk (s : Stp) : Prop where
  a : StateOk s.1
  w : NameOk s.2.1
  b : StateOk s.2.2
structure HandOk (h : HandM) : Prop where
  some_ : 1 ≤ h.steps.length
  few : h.steps.length ≤ 5
  fine : ∀ s ∈ h.steps, StepOk s
  st : StateOk h.start
  voc : h.words.Pairwise SLt
  mem : ∀ w, w ∈ h.words ↔ ∃ s ∈ h.steps, s.2.1 = w
  home : h.start ∈ h.states
  closed : ∀ s ∈ h.steps, s.1 ∈ h.states → s.2.2 ∈ h.states
  ok : ∀ s ∈ h.states, StateOk s
  few2 : h.states.length ≤ 3
structure SysOk (S : SysM) : Prop where
  some_ : 1 ≤ S.hands.length
  few : S.hands.length ≤ 3
  hand : ∀ h ∈ S.hands, HandOk h
  voc : S.words.Pairwise SLt
  mem : ∀ w, w ∈ S.words ↔ ∃ h ∈ S.hands, w ∈ h.words
  few2 : S.words.length ≤ 4
  dil : ∀ d ∈ S.dil, 0 ≤ d ∧ d < S.hands.length
  few3 : S.dil.length ≤ 3
  start : S.start = S.hands.map (·.start)
structure StOk (S : SysM) (st : Stg) : Prop where
  len : st.length = S.hands.length
  mem : ∀ (i : Nat) h s, S.hands[i]? = some h → st[i]? = some s → s ∈ h.states
theorem SysOk.startOk {S : SysM} (o : SysOk S) : StOk S S.start := by
  refine ⟨by rw [o.start, List.length_map], fun i h s h1 h2 => ?_⟩
  rw [o.start, List.getElem?_map, h1] at h2
  have e : h.start = s := Option.some.inj h2
  rw [← e]
  exact (o.hand h (List.mem_of_getElem? h1)).home
theorem getElem_ledTo {S : SysM} {st : Stg} {m : Move} {i : Nat} {h : HandM} {s : Int} {n : Option Int} (h1 : S.hands[i]? = some h) (h2 : st[i]? = some s) (h3 : m.2[i]? = some n) : (ledTo S st m)[i]? = some (after h s n) := by
  unfold ledTo
  rw [List.getElem?_map, (List.getElem?_zip_eq_some (z := ((h, s), n))).mpr ⟨(List.getElem?_zip_eq_some (z := (h, s))).mpr ⟨h1, h2⟩, h3⟩]
  rfl
theorem length_ledTo {S : SysM} {st : Stg} {m : Move} (h1 : st.length = S.hands.length) (h2 : m.2.length = S.hands.length) : (ledTo S st m).length = S.hands.length := by
  unfold ledTo
  rw [List.length_map, List.length_zip, List.length_zip, h1, h2, Nat.min_self, Nat.min_self]
theorem after_in {h : HandM} {s : Int} {w : Str} {n : Option Int} (o : HandOk h) (hs : s ∈ h.states) (hn : n ∈ stepNums h s w) : after h s n ∈ h.states := by
  unfold stepNums at hn
  split at hn
  · obtain ⟨j, x, h1, h2, h3, rfl⟩ := mem_idxs.mp hn
    have e : (((0 + j : Nat) : Int)).toNat = j := by omega
    show ((h.steps[(((0 + j : Nat) : Int)).toNat]?).map fun x => x.2.2).getD s ∈ h.states
    rw [e, h1]
    exact o.closed x (List.mem_of_getElem? h1) (h2 ▸ hs)
  · rw [List.mem_singleton] at hn
    subst hn
    exact hs
theorem StOk.led {S : SysM} (o : SysOk S) {st : Stg} (k : StOk S st) {m : Move} (hm : MvOk S st m) : StOk S (ledTo S st m) := by
  refine ⟨length_ledTo k.len hm.len, fun i h t h1 h2 => ?_⟩
  have hi : i < S.hands.length := (List.getElem?_eq_some_iff.mp h1).1
  obtain ⟨s, a1⟩ : ∃ s, st[i]? = some s := ⟨_, List.getElem?_eq_getElem (by rw [k.len]; exact hi)⟩
  obtain ⟨n, a2⟩ : ∃ n, m.2[i]? = some n := ⟨_, List.getElem?_eq_getElem (by rw [hm.len]; exact hi)⟩
  rw [getElem_ledTo h1 a1 a2] at h2
  rw [← Option.some.inj h2]
  exact after_in (o.hand h (List.mem_of_getElem? h1)) (k.mem i h _ h1 a1) (hm.nums i h _ _ h1 a1 a2)
/-! ### how many there are -/
def allSt : List HandM → List Stg
  | [] => [[]]
  | h :: l => h.states.flatMap fun s => (allSt l).map fun t => s :: t
theorem mem_allSt : ∀ {hs : List HandM} {st : Stg}, st.length = hs.length → (∀ (i : Nat) h s, hs[i]? = some h → st[i]? = some s → s ∈ h.states) → st ∈ allSt hs
  | [], [], _, _ => by simp [allSt]
  | [], _ :: _, h, _ => by simp at h
  | _ :: _, [], h, _ => by simp at h
  | h :: hs, s :: st, hl, hm => by
    rw [allSt, List.mem_flatMap]
    exact ⟨s, hm 0 h s rfl rfl, List.mem_map.mpr ⟨st, mem_allSt (by simpa using hl) fun i h' s' h1 h2 => hm (i + 1) h' s' (by simpa using h1) (by simpa using h2), rfl⟩⟩
theorem length_flat {α β : Type} (f : α → List β) (n : Nat) : ∀ l : List α, (∀ a ∈ l, (f a).length ≤ n) → (l.flatMap f).length ≤ l.length * n
  | [], _ => by simp
  | a :: l, h => by
    rw [List.flatMap_cons, List.length_append, List.length_cons]
    have h1 := h a (by simp)
    have h2 := length_flat f n l fun b hb => h b (List.mem_cons_of_mem _ hb)
    have e : (l.length + 1) * n = l.length * n + n := Nat.succ_mul ..
    omega
theorem length_allSt : ∀ {hs : List HandM}, (∀ h ∈ hs, h.states.length ≤ 3) → (allSt hs).length ≤ 3 ^ hs.length
  | [], _ => by simp [allSt]
  | h :: hs, o => by
    have ih := length_allSt (hs := hs) fun k hk => o k (List.mem_cons_of_mem _ hk)
    have h1 := length_flat (fun s => (allSt hs).map fun t => s :: t) (3 ^ hs.length) h.states fun a _ => by rw [List.length_map]; exact ih
    have h2 := o h (by simp)
    rw [allSt, List.length_cons, Nat.pow_succ]
    have h3 : h.states.length * 3 ^ hs.length ≤ 3 * 3 ^ hs.length := Nat.mul_le_mul_right _ h2
    omega
def subs : List Str → List (List Str)
  | [] => [[]]
  | x :: l => subs l ++ (subs l).map fun k => x :: k
theorem filter_subs (p : Str → Bool) : ∀ l : List Str, l.filter p ∈ subs l
  | [] => by simp [subs]
  | x :: l => by
    have ih := filter_subs p l
    rw [List.filter_cons, subs, List.mem_append]
    split
    · exact .inr (List.mem_map.mpr ⟨_, ih, rfl⟩)
    · exact .inl ih
theorem length_subs : ∀ l : List Str, (subs l).length = 2 ^ l.length
  | [] => rfl
  | x :: l => by rw [subs, List.length_append, List.length_map, length_subs l, List.length_cons, Nat.pow_succ]; omega
structure NodOk (S : SysM) (n : Nod) : Prop where
  st : StOk S n.1
  pw : n.2.Pairwise SLt
  sub : ∀ w ∈ n.2, w ∈ S.words
def allNod (S : SysM) : List Nod := (allSt S.hands).flatMap fun t => (subs S.words).map fun d => (t, d)
theorem NodOk.mem {S : SysM} (o : SysOk S) {n : Nod} (k : NodOk S n) : n ∈ allNod S := by
  unfold allNod
  rw [List.mem_flatMap]
  refine ⟨n.1, mem_allSt k.st.len k.st.mem, List.mem_map.mpr ⟨n.2, ?_, rfl⟩⟩
  rw [← canW_self o.voc k.pw k.sub]
  exact filter_subs _ _
theorem length_allNod {S : SysM} (o : SysOk S) : (allNod S).length ≤ 432 := by
  have h1 := length_flat (fun t => (subs S.words).map fun d => (t, d)) 16 (allSt S.hands) fun a _ => by
    rw [List.length_map, length_subs]
    exact Nat.pow_le_pow_right (by decide) o.few2
  have h2 := length_allSt (hs := S.hands) fun h hh => (o.hand h hh).few2
  have h3 : 3 ^ S.hands.length ≤ 3 ^ 3 := Nat.pow_le_pow_right (by decide) o.few
  unfold allNod
  omega
/-! ### the pair graph -/
def psucc (S : SysM) (n : Nod) : List (Move × Nod) := (waysOf S n.1).map fun q => (q.1, (q.2, insW S.words n.2 q.1.1))
theorem mem_psucc {S : SysM} {n : Nod} {m : Move} {n' : Nod} (hl : n.1.length = S.hands.length) : (m, n') ∈ psucc S n ↔ MvOk S n.1 m ∧ n' = (ledTo S n.1 m, insW S.words n.2 m.1) := by
  unfold psucc
  rw [List.mem_map]
  constructor
  · rintro ⟨⟨m', t⟩, h, e⟩
    obtain ⟨h1, h2⟩ := (mem_ways hl).mp h
    injection e with e1 e2
    subst e1
    exact ⟨h1, by rw [← e2, h2]⟩
  · rintro ⟨h1, rfl⟩
    exact ⟨(m, ledTo S n.1 m), (mem_ways hl).mpr ⟨h1, rfl⟩, rfl⟩
theorem NodOk.next {S : SysM} (o : SysOk S) {n : Nod} (k : NodOk S n) {m : Move} {n' : Nod} (h : (m, n') ∈ psucc S n) : NodOk S n' := by
  obtain ⟨h1, rfl⟩ := (mem_psucc k.st.len).mp h
  exact ⟨k.st.led o h1, insW_pw o.voc, fun w hw => (List.mem_filter.mp hw).1⟩
def Pe (S : SysM) (a b : Nod) : Prop := ∃ m, (m, b) ∈ psucc S a
theorem NodOk.reach {S : SysM} (o : SysOk S) {n n' : Nod} (k : NodOk S n) (r : Rch (Pe S) n n') : NodOk S n' := by
  induction r with
  | refl => exact k
  | step e _ ih => obtain ⟨m, h⟩ := e; exact ih (k.next o h)
abbrev wdM : Move → Str := fun m => m.1
/-- a run as moves of the pair graph -/
theorem reach_run {S : SysM} (o : SysOk S) {n n' : Nod} (k : NodOk S n) (r : Rch (Pe S) n n') : ∃ ws, Run (waysOf S) wdM n.1 ws n'.1 ∧ ∀ w, w ∈ n'.2 ↔ w ∈ n.2 ∨ w ∈ ws := by
  induction r with
  | refl => exact ⟨[], .nil _, fun w => by simp⟩
  | @step a b c e _ ih =>
    obtain ⟨m, h⟩ := e
    obtain ⟨ws, h1, h2⟩ := ih (k.next o h)
    obtain ⟨h3, rfl⟩ := (mem_psucc k.st.len).mp h
    refine ⟨m.1 :: ws, .cons (m := m) ((mem_ways k.st.len).mpr ⟨h3, rfl⟩) h1, fun w => ?_⟩
    rw [h2, mem_insW k.sub h3.word, List.mem_cons]
    constructor
    · rintro ((h | h) | h)
      · exact .inl h
      · exact .inr (.inl h)
      · exact .inr (.inr h)
    · rintro (h | h | h)
      · exact .inl (.inl h)
      · exact .inl (.inr h)
      · exact .inr h
theorem run_reach {S : SysM} (o : SysOk S) {s t : Stg} {ws : List Str} (r : Run (waysOf S) wdM s ws t) : ∀ d : List Str, NodOk S (s, d) → ∃ d', Rch (Pe S) (s, d) (t, d') ∧ ∀ w, w ∈ d' ↔ w ∈ d ∨ w ∈ ws := by
  induction r with
  | nil => exact fun d _ => ⟨d, .refl _, fun w => by simp⟩
  | @cons s t u m ws e _ ih =>
    intro d k
    obtain ⟨h1, rfl⟩ := (mem_ways k.st.len).mp e
    have e' : (m, (ledTo S s m, insW S.words d m.1)) ∈ psucc S (s, d) := (mem_psucc k.st.len).mpr ⟨h1, rfl⟩
    obtain ⟨d', h2, h3⟩ := ih _ (k.next o e')
    refine ⟨d', .step ⟨m, e'⟩ h2, fun w => ?_⟩
    rw [h3, mem_insW k.sub h1.word, List.mem_cons]
    constructor
    · rintro ((h | h) | h)
      · exact .inl h
      · exact .inr (.inl h)
      · exact .inr (.inr h)
    · rintro (h | h | h)
      · exact .inl (.inl h)
      · exact .inl (.inr h)
      · exact .inr h
theorem run_ok {S : SysM} (o : SysOk S) {s t : Stg} {ws : List Str} (r : Run (waysOf S) wdM s ws t) (k : StOk S s) : StOk S t := by
  induction r with
  | nil => exact k
  | cons e _ ih =>
    obtain ⟨h1, rfl⟩ := (mem_ways k.len).mp e
    exact ih (k.led o h1)
/-! ### who may move -/
def holders (w : Str) : List HandM → Nat → List Int
  | [], _ => []
  | h :: l, n => if w ∈ h.words then (n : Int) :: holders w l (n + 1) else holders w l (n + 1)
theorem holders_snoc (w : Str) (x : HandM) : ∀ (l : List HandM) (n : Nat), holders w (l ++ [x]) n = holders w l n ++ (if w ∈ x.words then [((n + l.length : Nat) : Int)] else [])
  | [], n => by simp [holders]
  | y :: l, n => by
    rw [List.cons_append, holders, holders, holders_snoc w x l (n + 1)]
    have e : n + 1 + l.length = n + (y :: l).length := by rw [List.length_cons]; omega
    rw [e]
    split <;> rfl
theorem mem_holders {w : Str} {i : Int} : ∀ {l : List HandM} {n : Nat}, i ∈ holders w l n ↔ ∃ (j : Nat) (h : HandM), l[j]? = some h ∧ w ∈ h.words ∧ i = ((n + j : Nat) : Int)
  | [], n => by simp [holders]
  | x :: l, n => by
    have ih := mem_holders (w := w) (i := i) (l := l) (n := n + 1)
    rw [holders]
    constructor
    · intro h
      have h' : (w ∈ x.words ∧ i = (n : Int)) ∨ i ∈ holders w l (n + 1) := by
        split at h
        · rename_i q
          rcases List.mem_cons.mp h with h | h
          · exact .inl ⟨q, h⟩
          · exact .inr h
        · exact .inr h
      rcases h' with ⟨a, b⟩ | h'
      · exact ⟨0, x, rfl, a, b⟩
      · obtain ⟨j, y, h1, h2, h3⟩ := ih.mp h'
        exact ⟨j + 1, y, by simpa using h1, h2, by rw [h3]; congr 1; omega⟩
    · rintro ⟨j, y, h1, h2, h3⟩
      cases j with
      | zero =>
        simp only [List.getElem?_cons_zero, Option.some.injEq] at h1
        subst h1
        rw [if_pos h2, h3]
        simp
      | succ j =>
        have m : i ∈ holders w l (n + 1) := ih.mpr ⟨j, y, by simpa using h1, h2, by rw [h3]; congr 1; omega⟩
        split
        · exact List.mem_cons_of_mem _ m
        · exact m
/-- no hand that has the word is stuck -/
def Loose (S : SysM) (st : Stg) (w : Str) : Prop := ∀ (i : Nat) h s, S.hands[i]? = some h → st[i]? = some s → w ∈ h.words → stepNums h s w ≠ []
/-- hand i may move -/
def AbleM (S : SysM) (i : Int) (st : Stg) : Prop := ∃ w ∈ S.words, i ∈ holders w S.hands 0 ∧ Loose S st w
def TakesM (m : Move) (i : Int) : Prop := ∃ n, m.2[i.toNat]? = some (some n)
theorem able_moves {S : SysM} {st : Stg} (hl : st.length = S.hands.length) {i : Int} (h : AbleM S i st) : ∃ m t, (m, t) ∈ waysOf S st ∧ TakesM m i := by
  obtain ⟨w, hw, hi, loose⟩ := h
  obtain ⟨j, hd, h1, h2, rfl⟩ := mem_holders.mp hi
  have ok : ∀ (i : Nat) h s, S.hands[i]? = some h → st[i]? = some s → stepNums h s w ≠ [] := fun i h s a b => by
    by_cases q : w ∈ h.words
    · exact loose i h s a b q
    · unfold stepNums; rw [if_neg q]; exact List.cons_ne_nil _ _
  have mv : MvOk S st (w, (S.hands.zip st).map fun q => (stepNums q.1 q.2 w).headD none) := by
    refine ⟨hw, by rw [List.length_map, List.length_zip, hl, Nat.min_self], fun i h s n a b c => ?_⟩
    rw [List.getElem?_map, (List.getElem?_zip_eq_some (z := (h, s))).mpr ⟨a, b⟩] at c
    have e := Option.some.inj c
    rw [← e]
    have ne := ok i h s a b
    show (stepNums h s w).headD none ∈ stepNums h s w
    cases q : stepNums h s w with
    | nil => exact absurd q ne
    | cons x l => simp
  refine ⟨_, _, (mem_ways hl).mpr ⟨mv, rfl⟩, ?_⟩
  have hj : j < st.length := by rw [hl]; exact (List.getElem?_eq_some_iff.mp h1).1
  have a2 : st[j]? = some st[j] := List.getElem?_eq_getElem hj
  have ne := loose j hd _ h1 a2 h2
  have e : (((0 + j : Nat) : Int)).toNat = j := by omega
  unfold TakesM
  rw [e, List.getElem?_map, (List.getElem?_zip_eq_some (z := (hd, st[j]))).mpr ⟨h1, a2⟩]
  show ∃ n, some ((stepNums hd st[j] w).headD none) = some (some n)
  cases q : stepNums hd st[j] w with
  | nil => exact absurd q ne
  | cons x l =>
    have hx : x ∈ idxs st[j] w hd.steps 0 := by
      unfold stepNums at q
      rw [if_pos h2] at q
      rw [q]; simp
    obtain ⟨k, y, _, _, _, rfl⟩ := mem_idxs.mp hx
    exact ⟨_, rfl⟩
end NS
/-! M5: fair nodes of the pair graph, the futures of a run, the three lists of the law. -/
namespace NS
open PySem PySem.Spec PyProof.Rows
def FairN (S : SysM) (n : Nod) : Prop := Fair (waysOf S) wdM TakesM (fun i s => AbleM S i s) S.dil (· ∈ n.2) n.1
def AllP (S : SysM) (n : Nod) (w : Str) : Prop := ∀ n', Rch (Pe S) n n' → FairN S n' → w ∈ n'.2
def SomeP (S : SysM) (n : Nod) (w : Str) : Prop := ∃ n', Rch (Pe S) n n' ∧ FairN S n' ∧ w ∈ n'.2
theorem AllP.later {S : SysM} {n n' : Nod} {w : Str} (r : Rch (Pe S) n n') (h : AllP S n w) : AllP S n' w := fun k q f => h k (r.trans q) f
theorem SomeP.before {S : SysM} {n n' : Nod} {w : Str} (r : Rch (Pe S) n n') (h : SomeP S n' w) : SomeP S n w := let ⟨k, q, f, m⟩ := h; ⟨k, r.trans q, f, m⟩
/-! ### moves that leave the done words as they are -/
def Qe (S : SysM) (a b : Nod) : Prop := ∃ m, (m, b) ∈ psucc S a ∧ b.2 = a.2
theorem quiet_word {S : SysM} (o : SysOk S) {n : Nod} (k : NodOk S n) {m : Move} (hm : MvOk S n.1 m) : insW S.words n.2 m.1 = n.2 ↔ m.1 ∈ n.2 := by
  constructor
  · intro e
    rw [← e, mem_insW k.sub hm.word]
    exact .inr rfl
  · exact insW_old o.voc k.pw k.sub
theorem quiet_reach {S : SysM} (o : SysOk S) {n n' : Nod} (k : NodOk S n) : Rch (Qe S) n n' ↔ n'.2 = n.2 ∧ Rch (Ed (waysOf S) wdM (· ∈ n.2)) n.1 n'.1 := by
  constructor
  · intro r
    induction r with
    | refl => exact ⟨rfl, .refl _⟩
    | @step a b c e _ ih =>
      obtain ⟨m, h, e⟩ := e
      obtain ⟨h1, h2⟩ := ih (k.next o h)
      obtain ⟨h3, rfl⟩ := (mem_psucc k.st.len).mp h
      refine ⟨h1.trans e, .step ⟨m, (mem_ways k.st.len).mpr ⟨h3, rfl⟩, (quiet_word o k h3).mp e⟩ ?_⟩
      have e' : insW S.words a.2 m.1 = a.2 := e
      rw [show (ledTo S a.1 m, insW S.words a.2 m.1).2 = a.2 from e'] at h2
      exact h2
  · obtain ⟨s, d⟩ := n
    obtain ⟨t, d'⟩ := n'
    rintro ⟨rfl, r⟩
    have go : ∀ s t, Rch (Ed (waysOf S) wdM (· ∈ d')) s t → NodOk S (s, d') → Rch (Qe S) (s, d') (t, d') := by
      intro s t r
      induction r with
      | refl => exact fun _ => .refl _
      | @step a b c e _ ih =>
        intro k
        obtain ⟨m, h1, h2⟩ := e
        obtain ⟨h3, rfl⟩ := (mem_ways k.st.len).mp h1
        have e' : insW S.words d' m.1 = d' := (quiet_word o k h3).mpr h2
        have h4 : (m, (ledTo S a m, d')) ∈ psucc S (a, d') := (mem_psucc k.st.len).mpr ⟨h3, by show _ = (ledTo S a m, insW S.words d' m.1); rw [e']⟩
        exact .step ⟨m, h4, rfl⟩ (ih (k.next o h4))
    exact go s t r k
theorem quiet_both {S : SysM} (o : SysOk S) {n n' : Nod} (k : NodOk S n) (k' : NodOk S n') : Both (Qe S) n n' ↔ n'.2 = n.2 ∧ Both (Ed (waysOf S) wdM (· ∈ n.2)) n.1 n'.1 := by
  unfold Both
  rw [quiet_reach o k, quiet_reach o k']
  constructor
  · rintro ⟨⟨h1, h2⟩, h3, h4⟩
    rw [h1] at h4
    exact ⟨h1, h2, h4⟩
  · rintro ⟨h1, h2, h4⟩
    refine ⟨⟨h1, h2⟩, h1.symm, ?_⟩
    rw [h1]
    exact h4
theorem qe_pe {S : SysM} {a b : Nod} (h : Qe S a b) : Pe S a b := let ⟨m, h, _⟩ := h; ⟨m, h⟩
theorem Rch.qp {S : SysM} {a b : Nod} (h : Rch (Qe S) a b) : Rch (Pe S) a b := h.mono fun _ _ => qe_pe
/-- a hand that idles in the part of n, by the part's nodes -/
theorem idle_iff {S : SysM} (o : SysOk S) {n : Nod} (k : NodOk S n) {P : List Nod} (hP : ∀ x, x ∈ P ↔ Both (Qe S) n x) (i : Int) :
    Idle (waysOf S) wdM TakesM (fun i s => AbleM S i s) (· ∈ n.2) n.1 i ↔ (∀ x ∈ P, AbleM S i x.1) ∧ ¬ ∃ x ∈ P, ∃ m y, (m, y) ∈ psucc S x ∧ y.2 = x.2 ∧ y ∈ P ∧ TakesM m i := by
  have okP : ∀ x ∈ P, NodOk S x := fun x hx => k.reach o ((hP x).mp hx).1.qp
  have inP : ∀ t, Both (Ed (waysOf S) wdM (· ∈ n.2)) n.1 t → (t, n.2) ∈ P := fun t b => by
    have r : Rch (Qe S) n (t, n.2) := (quiet_reach o k).mpr ⟨rfl, b.1⟩
    exact (hP _).mpr ((quiet_both o k (k.reach o r.qp)).mpr ⟨rfl, b⟩)
  constructor
  · rintro ⟨h1, h2⟩
    refine ⟨fun x hx => h1 x.1 ((quiet_both o k (okP x hx)).mp ((hP x).mp hx)).2, ?_⟩
    rintro ⟨x, hx, m, y, hy, e, hyP, ht⟩
    obtain ⟨ex, bx⟩ := (quiet_both o k (okP x hx)).mp ((hP x).mp hx)
    obtain ⟨ey, by_⟩ := (quiet_both o k (okP y hyP)).mp ((hP y).mp hyP)
    obtain ⟨h3, rfl⟩ := (mem_psucc (okP x hx).st.len).mp hy
    refine h2 x.1 _ m bx by_ ((mem_ways (okP x hx).st.len).mpr ⟨h3, rfl⟩) ?_ ht
    have := (quiet_word o (okP x hx) h3).mp e
    rw [ex] at this
    exact this
  · rintro ⟨h1, h2⟩
    refine ⟨fun t b => h1 _ (inP t b), fun a b m ba bb hm hw ht => h2 ?_⟩
    have ka : NodOk S (a, n.2) := okP _ (inP a ba)
    obtain ⟨h3, rfl⟩ := (mem_ways ka.st.len).mp hm
    have e' : insW S.words n.2 m.1 = n.2 := (quiet_word o ka h3).mpr hw
    exact ⟨(a, n.2), inP a ba, m, (ledTo S a m, n.2), (mem_psucc ka.st.len).mpr ⟨h3, by show _ = (ledTo S a m, insW S.words n.2 m.1); rw [e']⟩, rfl, inP _ bb, ht⟩
theorem fair_iff {S : SysM} (o : SysOk S) {n : Nod} (k : NodOk S n) {P : List Nod} (hP : ∀ x, x ∈ P ↔ Both (Qe S) n x) :
    FairN S n ↔ ∀ i ∈ S.dil, ¬ ((∀ x ∈ P, AbleM S i x.1) ∧ ¬ ∃ x ∈ P, ∃ m y, (m, y) ∈ psucc S x ∧ y.2 = x.2 ∧ y ∈ P ∧ TakesM m i) := by
  unfold FairN Fair
  constructor
  · intro h i hi q
    exact h i hi ((idle_iff o k hP i).mpr q)
  · intro h i hi q
    exact h i hi ((idle_iff o k hP i).mp q)
/-! ### the system started elsewhere -/
structure Later (S S' : SysM) : Prop where
  len : S'.hands.length = S.hands.length
  same : ∀ (i : Nat) h h', S.hands[i]? = some h → S'.hands[i]? = some h' → h'.steps = h.steps ∧ h'.words = h.words
  words : S'.words = S.words
  dil : S'.dil = S.dil
theorem stepNums_same {h h' : HandM} (e1 : h'.steps = h.steps) (e2 : h'.words = h.words) (s : Int) (w : Str) : stepNums h' s w = stepNums h s w := by
  unfold stepNums; rw [e1, e2]
theorem after_same {h h' : HandM} (e1 : h'.steps = h.steps) (s : Int) (n : Option Int) : after h' s n = after h s n := by
  cases n with
  | none => rfl
  | some i => unfold after; rw [e1]
theorem Later.get {S S' : SysM} (l : Later S S') {i : Nat} {h' : HandM} (e : S'.hands[i]? = some h') : ∃ h, S.hands[i]? = some h ∧ h'.steps = h.steps ∧ h'.words = h.words := by
  have hi : i < S.hands.length := by rw [← l.len]; exact (List.getElem?_eq_some_iff.mp e).1
  have e2 : S.hands[i]? = some S.hands[i] := List.getElem?_eq_getElem hi
  exact ⟨_, e2, l.same i _ h' e2 e⟩
theorem rowsOf_same (w : Str) : ∀ (l l' : List (HandM × Int)) (rows : List (List (Option Int))), l.length = l'.length → (∀ (i : Nat) q q', l[i]? = some q → l'[i]? = some q' → stepNums q'.1 q'.2 w = stepNums q.1 q.2 w) → rowsOf w l' rows = rowsOf w l rows
  | [], [], _, _, _ => rfl
  | [], _ :: _, _, h, _ => by simp at h
  | _ :: _, [], _, h, _ => by simp at h
  | q :: l, q' :: l', rows, hl, h => by
    rw [rowsOf, rowsOf, h 0 q q' rfl rfl]
    exact rowsOf_same w l l' _ (by simpa using hl) fun i a b h1 h2 => h (i + 1) a b (by simpa using h1) (by simpa using h2)
theorem Later.ways {S S' : SysM} (l : Later S S') : waysOf S' = waysOf S := by
  funext st
  have rows : ∀ w, rowsOf w (S'.hands.zip st) [[]] = rowsOf w (S.hands.zip st) [[]] := fun w => by
    refine rowsOf_same w _ _ _ (by rw [List.length_zip, List.length_zip, l.len]) fun i q q' h1 h2 => ?_
    rw [List.getElem?_zip_eq_some] at h1 h2
    obtain ⟨e1, e2⟩ := l.same i _ _ h1.1 h2.1
    have e3 : q'.2 = q.2 := Option.some.inj (h2.2.symm.trans h1.2)
    rw [e3]
    exact stepNums_same e1 e2 _ _
  have mv : movesOf S' st = movesOf S st := by
    unfold movesOf
    rw [l.words]
    congr 1
    funext w
    rw [rows w]
  have led : ∀ m, ledTo S' st m = ledTo S st m := fun m => by
    unfold ledTo
    apply List.ext_getElem?
    intro i
    rw [List.getElem?_map, List.getElem?_map]
    cases h : ((S.hands.zip st).zip m.2)[i]? with
    | none =>
      have : ((S'.hands.zip st).zip m.2)[i]? = none := by
        rw [List.getElem?_eq_none_iff] at h ⊢
        rw [List.length_zip, List.length_zip] at h ⊢
        rw [l.len]; exact h
      rw [this]
    | some q =>
      obtain ⟨h1, h2⟩ := List.getElem?_zip_eq_some.mp h
      obtain ⟨h3, h4⟩ := List.getElem?_zip_eq_some.mp h1
      have hi : i < S'.hands.length := by rw [l.len]; exact (List.getElem?_eq_some_iff.mp h3).1
      have h5 : S'.hands[i]? = some S'.hands[i] := List.getElem?_eq_getElem hi
      rw [(List.getElem?_zip_eq_some (z := ((S'.hands[i], q.1.2), q.2))).mpr ⟨(List.getElem?_zip_eq_some (z := (S'.hands[i], q.1.2))).mpr ⟨h5, h4⟩, h2⟩]
      show some (after S'.hands[i] q.1.2 q.2) = some (after q.1.1 q.1.2 q.2)
      rw [after_same (l.same i _ _ h3 h5).1]
  unfold waysOf
  rw [mv]
  congr 1
  funext m
  rw [led m]
theorem Later.able {S S' : SysM} (l : Later S S') {i : Int} {st : Stg} : AbleM S' i st ↔ AbleM S i st := by
  have hold : ∀ w, i ∈ holders w S'.hands 0 ↔ i ∈ holders w S.hands 0 := fun w => by
    rw [mem_holders, mem_holders]
    constructor
    · rintro ⟨j, h, h1, h2, h3⟩
      obtain ⟨k, e1, _, e3⟩ := l.get h1
      exact ⟨j, k, e1, e3 ▸ h2, h3⟩
    · rintro ⟨j, h, h1, h2, h3⟩
      have hj : j < S'.hands.length := by rw [l.len]; exact (List.getElem?_eq_some_iff.mp h1).1
      have e : S'.hands[j]? = some S'.hands[j] := List.getElem?_eq_getElem hj
      exact ⟨j, _, e, (l.same j _ _ h1 e).2 ▸ h2, h3⟩
  have loose : ∀ w, Loose S' st w ↔ Loose S st w := fun w => by
    constructor
    · intro q j h s h1 h2 h3
      have hj : j < S'.hands.length := by rw [l.len]; exact (List.getElem?_eq_some_iff.mp h1).1
      have e : S'.hands[j]? = some S'.hands[j] := List.getElem?_eq_getElem hj
      obtain ⟨e1, e2⟩ := l.same j _ _ h1 e
      have := q j _ s e h2 (e2 ▸ h3)
      rw [stepNums_same e1 e2] at this
      exact this
    · intro q j h s h1 h2 h3
      obtain ⟨k, e, e1, e2⟩ := l.get h1
      rw [stepNums_same e1 e2]
      exact q j k s e h2 (e2 ▸ h3)
  unfold AbleM
  rw [l.words]
  constructor
  · rintro ⟨w, a, b, c⟩
    exact ⟨w, a, (hold w).mp b, (loose w).mp c⟩
  · rintro ⟨w, a, b, c⟩
    exact ⟨w, a, (hold w).mpr b, (loose w).mpr c⟩
section
variable {S : SysM} (o : SysOk S) {e : Stg} {D : List Str} (k : NodOk S (e, D)) {w : Str}
theorem voc_of (o : SysOk S) : ∀ (a : Stg) (m : Move) (b : Stg), (m, b) ∈ waysOf S a → wdM m ∈ S.words := fun a m b h => by
  unfold waysOf at h
  obtain ⟨m', h1, h2⟩ := List.mem_map.mp h
  injection h2 with h3 h4
  subst h3
  unfold movesOf at h1
  obtain ⟨w, hw, h5⟩ := List.mem_flatMap.mp h1
  obtain ⟨r, _, h6⟩ := List.mem_map.mp h5
  rw [← h6]
  exact hw
theorem all_iff (o : SysOk S) (k : NodOk S (e, D)) : AllP S (e, D) w ↔ ∀ s ws, Run (waysOf S) wdM e ws s → Fair (waysOf S) wdM TakesM (fun i s => AbleM S i s) S.dil (fun x => x ∈ D ∨ x ∈ ws) s → w ∈ D ∨ w ∈ ws := by
  constructor
  · intro h s ws r f
    obtain ⟨d', h1, h2⟩ := run_reach o r D k
    exact (h2 w).mp (h (s, d') h1 ((Fair.congr fun x => (h2 x).symm).mp f))
  · intro h n' r f
    obtain ⟨ws, h1, h2⟩ := reach_run o k r
    exact (h2 w).mpr (h n'.1 ws h1 ((Fair.congr fun x => h2 x).mp f))
theorem some_iff (o : SysOk S) (k : NodOk S (e, D)) : SomeP S (e, D) w ↔ ∃ s ws, Run (waysOf S) wdM e ws s ∧ Fair (waysOf S) wdM TakesM (fun i s => AbleM S i s) S.dil (fun x => x ∈ D ∨ x ∈ ws) s ∧ (w ∈ D ∨ w ∈ ws) := by
  constructor
  · rintro ⟨n', r, f, m⟩
    obtain ⟨ws, h1, h2⟩ := reach_run o k r
    exact ⟨n'.1, ws, h1, (Fair.congr fun x => h2 x).mp f, (h2 w).mp m⟩
  · rintro ⟨s, ws, r, f, m⟩
    obtain ⟨d', h1, h2⟩ := run_reach o r D k
    exact ⟨(s, d'), h1, (Fair.congr fun x => (h2 x).symm).mp f, (h2 w).mpr m⟩
end
section
variable {S S' : SysM} {e : Stg} {D : List Str} {w : Str}
theorem nod_nil {S : SysM} {e : Stg} (k : StOk S e) : NodOk S (e, []) := ⟨k, List.Pairwise.nil, fun _ h => by cases h⟩
theorem fin_of (o : SysOk S) (k : StOk S e) : ∀ ws t, Run (waysOf S) wdM e ws t → t ∈ allSt S.hands := fun ws t r => mem_allSt (run_ok o r k).len (run_ok o r k).mem
theorem live_of (o : SysOk S) (k : StOk S e) : ∀ h s, h ∈ S.dil → (∃ ws, Run (waysOf S) wdM e ws s) → AbleM S h s → ∃ m t, (m, t) ∈ waysOf S s ∧ TakesM m h := fun h s _ ⟨ws, r⟩ a => able_moves (run_ok o r k).len a
/-- sure: done already, or sure behind -/
theorem all_law (o : SysOk S) (o' : SysOk S') (l : Later S S') (k : NodOk S (e, D)) (k' : StOk S' e) : AllP S (e, D) w ↔ w ∈ D ∨ AllP S' (e, []) w := by
  rw [all_iff o k, in_all (fun a m b => voc_of o a m b), all_iff o' (nod_nil k'), l.ways, l.dil]
  have ea : (fun (i : Int) (s : Stg) => AbleM S' i s) = fun i s => AbleM S i s := by
    funext i s
    exact propext l.able
  rw [ea]
  refine or_congr Iff.rfl ?_
  constructor
  · intro h s ws r f
    exact .inr (h s ws r ((Fair.congr fun x => by simp).mp f))
  · intro h s ws r f
    exact (h s ws r ((Fair.congr fun x => by simp).mp f)).resolve_left (by simp)
theorem some_law (o : SysOk S) (o' : SysOk S') (l : Later S S') (k : NodOk S (e, D)) (k' : StOk S' e) : SomeP S (e, D) w ↔ w ∈ D ∨ SomeP S' (e, []) w := by
  rw [some_iff o k, in_some (fun a m b => voc_of o a m b) (fin_of o k.st) (live_of o k.st), some_iff o' (nod_nil k'), l.ways, l.dil]
  have ea : (fun (i : Int) (s : Stg) => AbleM S' i s) = fun i s => AbleM S i s := by
    funext i s
    exact propext l.able
  rw [ea]
  refine or_congr Iff.rfl ?_
  constructor
  · rintro ⟨s, ws, r, f, h⟩
    exact ⟨s, ws, r, (Fair.congr fun x => by simp).mp f, .inr h⟩
  · rintro ⟨s, ws, r, f, h⟩
    exact ⟨s, ws, r, (Fair.congr fun x => by simp).mp f, h.resolve_left (by simp)⟩
theorem all_to_some (o : SysOk S) (k : NodOk S (e, D)) (h : AllP S (e, D) w) : SomeP S (e, D) w := by
  obtain ⟨s, ws, r, f⟩ := fair_end (D := fun x => x ∈ D) (dil := S.dil) (abl := fun i s => AbleM S i s) (tk := TakesM) (fun a m b => voc_of o a m b) (fin_of o k.st) (live_of o k.st)
  exact (some_iff o k).mpr ⟨s, ws, r, f, (all_iff o k).mp h s ws r f⟩
end
/-! ### the three lists -/
open Classical in
noncomputable def filt (p : Str → Prop) (l : List Str) : List Str := l.filter fun x => decide (p x)
theorem mem_filt {p : Str → Prop} {l : List Str} {x : Str} : x ∈ filt p l ↔ x ∈ l ∧ p x := by simp [filt]
theorem filt_congr {p q : Str → Prop} {l : List Str} (h : ∀ x ∈ l, p x ↔ q x) : filt p l = filt q l := by
  unfold filt
  refine List.filter_congr fun x hx => ?_
  by_cases c : q x
  · simp [(h x hx).mpr c, c]
  · have c' : ¬ p x := fun z => c ((h x hx).mp z)
    simp [c', c]
theorem filt_filt {p q : Str → Prop} {l : List Str} : filt q (filt p l) = filt (fun x => p x ∧ q x) l := by
  unfold filt
  rw [List.filter_filter]
  refine List.filter_congr fun x _ => ?_
  by_cases c : p x <;> by_cases d : q x <;> simp [c, d]
theorem filt_pw {p : Str → Prop} {l : List Str} (h : l.Pairwise SLt) : (filt p l).Pairwise SLt := h.filter _
noncomputable def sureL (S : SysM) (n : Nod) : List Str := filt (AllP S n) S.words
noncomputable def someL (S : SysM) (n : Nod) : List Str := filt (SomeP S n) S.words
noncomputable def freeL (S : SysM) (n : Nod) : List Str := filt (fun w => w ∉ sureL S n) (someL S n)
noncomputable def outL (S : SysM) (n : Nod) : List Str := filt (fun w => w ∉ someL S n) S.words
section
variable {S S' : SysM} {e : Stg} {D : List Str}
theorem law_sure (o : SysOk S) (o' : SysOk S') (l : Later S S') (k : NodOk S (e, D)) (k' : StOk S' e) {ys : List Str} (hy : ys.Pairwise SLt) (hm : ∀ w, w ∈ ys ↔ w ∈ D ∨ w ∈ sureL S' (e, [])) : ys = sureL S (e, D) := by
  refine pw_unique hy (filt_pw o.voc) fun w => ?_
  unfold sureL at hm ⊢
  rw [hm, mem_filt, mem_filt, all_law o o' l k k', l.words]
  constructor
  · rintro (h | ⟨h, h'⟩)
    · exact ⟨k.sub w h, .inl h⟩
    · exact ⟨h, .inr h'⟩
  · rintro ⟨h, h' | h'⟩
    · exact .inl h'
    · exact .inr ⟨h, h'⟩
theorem law_free (o : SysOk S) (o' : SysOk S') (l : Later S S') (k : NodOk S (e, D)) (k' : StOk S' e) : filt (fun w => w ∉ sureL S (e, D)) (someL S' (e, [])) = freeL S (e, D) := by
  unfold freeL someL
  rw [filt_filt, filt_filt, l.words]
  refine filt_congr fun w hw => ?_
  rw [some_law o o' l k k']
  constructor
  · rintro ⟨h1, h2⟩
    exact ⟨.inr h1, h2⟩
  · rintro ⟨h1, h2⟩
    refine ⟨h1.resolve_left fun hD => h2 ?_, h2⟩
    exact mem_filt.mpr ⟨hw, (all_law o o' l k k').mpr (.inl hD)⟩
theorem law_out (o : SysOk S) (o' : SysOk S') (l : Later S S') (k : NodOk S (e, D)) (k' : StOk S' e) : filt (fun w => w ∉ sureL S (e, D) ∧ w ∉ someL S' (e, [])) S.words = outL S (e, D) := by
  unfold outL
  refine filt_congr fun w hw => ?_
  have h1 : w ∈ someL S (e, D) ↔ w ∈ D ∨ SomeP S' (e, []) w := by
    unfold someL
    rw [mem_filt, some_law o o' l k k']
    exact ⟨fun h => h.2, fun h => ⟨hw, h⟩⟩
  have h2 : w ∈ sureL S (e, D) ↔ w ∈ D ∨ AllP S' (e, []) w := by
    unfold sureL
    rw [mem_filt, all_law o o' l k k']
    exact ⟨fun h => h.2, fun h => ⟨hw, h⟩⟩
  have h3 : w ∈ someL S' (e, []) ↔ SomeP S' (e, []) w := by
    unfold someL
    rw [mem_filt, l.words]
    exact ⟨fun h => h.2, fun h => ⟨hw, h⟩⟩
  rw [h1, h2, h3]
  constructor
  · rintro ⟨a, b⟩ (c | c)
    · exact a (.inl c)
    · exact b c
  · intro a
    refine ⟨fun c => a ?_, fun c => a (.inr c)⟩
    rcases c with c | c
    · exact .inl c
    · exact .inr (all_to_some o' (nod_nil k') c)
theorem sure_grows {n n' : Nod} (r : Rch (Pe S) n n') : ∀ w ∈ sureL S n, w ∈ sureL S n' := fun w h => mem_filt.mpr ⟨(mem_filt.mp h).1, (mem_filt.mp h).2.later r⟩
theorem out_grows {n n' : Nod} (r : Rch (Pe S) n n') : ∀ w ∈ outL S n, w ∈ outL S n' := fun w h => by
  obtain ⟨h1, h2⟩ := mem_filt.mp h
  exact mem_filt.mpr ⟨h1, fun c => h2 (mem_filt.mpr ⟨h1, (mem_filt.mp c).2.before r⟩)⟩
end
end NS
set_option maxHeartbeats 1000000
/-! G1: how the program's data lie in the heap; small helpers for readings. -/
namespace NS
open PySem PySem.Spec PyProof.Rows L2
/-! ### data -/
abbrev dI (ns : List Int) : Dat := .tup (ns.map .num)
abbrev dS (ws : List Str) : Dat := .tup (ws.map .text)
abbrev dStep (s : Stp) : Dat := .tup [.num s.1, .text s.2.1, .num s.2.2]
def dNum : Option Int → Dat
  | none => .none
  | some i => .num i
abbrev dMove (m : Move) : Dat := .tup [.text m.1, .tup (m.2.map dNum)]
abbrev dNod (n : Nod) : Dat := .tup [dI n.1, dS n.2]
abbrev dWay (q : Move × Stg) : Dat := .tup [dMove q.1, dI q.2]
abbrev dRow (q : Move × Nod) : Dat := .tup [dMove q.1, dNod q.2]
theorem depth_map {α : Type} (f : α → Dat) (n : Nat) (h : ∀ a, (f a).depth ≤ n) (l : List α) : NestedKey.depthAll (l.map f) ≤ n := depthAll_lt fun k hk => by
  obtain ⟨a, _, rfl⟩ := List.mem_map.mp hk
  exact h a
theorem dI_depth (ns : List Int) : (dI ns).depth ≤ 8 := by
  have := depth_map NestedKey.num 0 (fun a => by simp [NestedKey.depth]) ns
  rw [NestedKey.depth]; omega
theorem dS_depth (ns : List Str) : (dS ns).depth ≤ 8 := by
  have := depth_map NestedKey.text 0 (fun a => by simp [NestedKey.depth]) ns
  rw [NestedKey.depth]; omega
theorem dNod_depth (n : Nod) : (dNod n).depth ≤ 8 := by
  have h1 := depth_map NestedKey.text 0 (fun a => by simp [NestedKey.depth]) n.2
  have h2 := depth_map NestedKey.num 0 (fun a => by simp [NestedKey.depth]) n.1
  simp only [NestedKey.depth, NestedKey.depthAll]; omega
theorem num_inj : ∀ {a b : List Int}, a.map NestedKey.num = b.map NestedKey.num → a = b
  | [], [], _ => rfl
  | [], _ :: _, h => by simp at h
  | _ :: _, [], h => by simp at h
  | x :: a, y :: b, h => by
    rw [List.map_cons, List.map_cons] at h
    injection h with h1 h2
    injection h1 with h1
    rw [h1, num_inj h2]
theorem text_inj : ∀ {a b : List Str}, a.map NestedKey.text = b.map NestedKey.text → a = b
  | [], [], _ => rfl
  | [], _ :: _, h => by simp at h
  | _ :: _, [], h => by simp at h
  | x :: a, y :: b, h => by
    rw [List.map_cons, List.map_cons] at h
    injection h with h1 h2
    injection h1 with h1
    rw [h1, text_inj h2]
theorem dI_inj {a b : List Int} (h : dI a = dI b) : a = b := by injection h with h; exact num_inj h
theorem dS_inj {a b : List Str} (h : dS a = dS b) : a = b := by injection h with h; exact text_inj h
theorem dNod_inj {a b : Nod} (h : dNod a = dNod b) : a = b := by
  injection h with h
  injection h with h1 h2
  injection h2 with h2 _
  exact Prod.ext (dI_inj h1) (dS_inj h2)
/-- a tuple of data at a -/
theorem Rk.ints {H : Hp} {ns : List Int} {v : V} (h : Rk H (dI ns) v) : ∃ b, v = .ref b ∧ H b = some (.tup (ns.map .int)) := by
  obtain ⟨b, xs, e, hb, r⟩ := h.tup_eq
  exact ⟨b, e, by rw [hb, Rks.intsV r]⟩
theorem Rk.strs {H : Hp} {ws : List Str} {v : V} (h : Rk H (dS ws) v) : ∃ b, v = .ref b ∧ H b = some (.tup (ws.map .str)) := by
  obtain ⟨b, xs, e, hb, r⟩ := h.tup_eq
  exact ⟨b, e, by rw [hb, Rks.strsV r]⟩
theorem Rk.ofInts {H : Hp} {ns : List Int} {b : Addr} (h : H b = some (.tup (ns.map .int))) : Rk H (dI ns) (.ref b) := .tup h (Rks.ints ns)
theorem Rk.ofStrs {H : Hp} {ws : List Str} {b : Addr} (h : H b = some (.tup (ws.map .str))) : Rk H (dS ws) (.ref b) := .tup h (Rks.strs ws)
theorem Rk.pair {H : Hp} {x y : Dat} {v : V} (h : Rk H (.tup [x, y]) v) : ∃ b p q, v = .ref b ∧ H b = some (.tup [p, q]) ∧ Rk H x p ∧ Rk H y q := by
  obtain ⟨b, xs, e, hb, r⟩ := h.tup_eq
  cases r with
  | cons r1 r => cases r with
    | cons r2 r => cases r; exact ⟨b, _, _, e, hb, r1, r2⟩
theorem Rk.three {H : Hp} {x y z : Dat} {v : V} (h : Rk H (.tup [x, y, z]) v) : ∃ b p q r, v = .ref b ∧ H b = some (.tup [p, q, r]) ∧ Rk H x p ∧ Rk H y q ∧ Rk H z r := by
  obtain ⟨b, xs, e, hb, r⟩ := h.tup_eq
  cases r with
  | cons r1 r => cases r with
    | cons r2 r => cases r with
      | cons r3 r => cases r; exact ⟨b, _, _, _, e, hb, r1, r2, r3⟩
theorem Rk.step {H : Hp} {s : Stp} {v : V} (h : Rk H (dStep s) v) : ∃ b, v = .ref b ∧ H b = some (.tup [.int s.1, .str s.2.1, .int s.2.2]) := by
  obtain ⟨b, p, q, r, e, hb, h1, h2, h3⟩ := h.three
  rw [h1.num_eq, h2.text_eq, h3.num_eq] at hb
  exact ⟨b, e, hb⟩
theorem Rk.ofPair {H : Hp} {x y : Dat} {b : Addr} {p q : V} (h : H b = some (.tup [p, q])) (h1 : Rk H x p) (h2 : Rk H y q) : Rk H (.tup [x, y]) (.ref b) := .tup h (.cons h1 (.cons h2 .nil))
theorem Rk.ofStep {H : Hp} {s : Stp} {b : Addr} (h : H b = some (.tup [.int s.1, .str s.2.1, .int s.2.2])) : Rk H (dStep s) (.ref b) := .tup h (.cons (.num _) (.cons (.text _) (.cons (.num _) .nil)))
theorem _root_.L2.Same.tups {H H' : Hp} (s : Same H H') : Tups H H' := fun b xs h => s b _ h
theorem _root_.L2.Same.new {H : Hp} {a : Addr} {o : HO} (h : H a = none) : Same H (upd H a o) := fun b u e => by rw [upd_ne (ne_of_none e h)]; exact e
theorem _root_.L2.Same.put {H0 H : Hp} {a : Addr} {o : HO} (s : Same H0 H) (h : H0 a = none) : Same H0 (upd H a o) := fun b u e => by
  rw [upd_ne (ne_of_none e h)]; exact s b u e
theorem _root_.L2.Same.rk {H H' : Hp} (s : Same H H') {k : Dat} {v : V} (h : Rk H k v) : Rk H' k v := h.at s.tups
theorem _root_.L2.Same.rks {H H' : Hp} (s : Same H H') {k : List Dat} {v : List V} (h : Rks H k v) : Rks H' k v := h.at s.tups
/-- a list of data at a -/
def Ls (H : Hp) (a : Addr) (ks : List Dat) : Prop := ∃ vs, H a = some (.lst vs) ∧ Rks H ks vs
theorem Ls.same {H H' : Hp} {a : Addr} {ks : List Dat} (s : Same H H') (h : Ls H a ks) : Ls H' a ks := let ⟨vs, h1, h2⟩ := h; ⟨vs, s _ _ h1, s.rks h2⟩
/-! ### instances -/
theorem lkY {x : Str} {v : V} {l : List (Str × V)} : ((x, v) :: l).lookup x = some v := by simp [List.lookup]
theorem lkN' {x y : Str} {v : V} {l : List (Str × V)} (h : (x == y) = false) : ((y, v) :: l).lookup x = l.lookup x := by simp [List.lookup, h]
abbrev fHand (s : V) (a b c : Addr) : List (Str × V) := [("start", s), ("steps", .ref a), ("words", .ref b), ("states", .ref c)]
theorem fHand_start {s : V} {a b c : Addr} : (fHand s a b c).lookup ("start" : Str) = some s := lkY
theorem fHand_steps {s : V} {a b c : Addr} : (fHand s a b c).lookup ("steps" : Str) = some (.ref a) := (lkN' (by decide +kernel)).trans lkY
theorem fHand_words {s : V} {a b c : Addr} : (fHand s a b c).lookup ("words" : Str) = some (V.ref b) := (lkN' (by decide +kernel)).trans ((lkN' (by decide +kernel)).trans lkY)
theorem fHand_states {s : V} {a b c : Addr} : (fHand s a b c).lookup ("states" : Str) = some (V.ref c) := (lkN' (by decide +kernel)).trans ((lkN' (by decide +kernel)).trans ((lkN' (by decide +kernel)).trans lkY))
def HandAt (K : PySem.W.Frag) (H : Hp) (p : Addr) (h : HandM) : Prop := ∃ dx a b c, H p = some (.ins (He.ga K "Hand") dx (fHand (.int h.start) a b c)) ∧ Rk H (.tup (h.steps.map dStep)) (.ref a) ∧ H b = some (.tup (h.words.map .str)) ∧ H c = some (.tup (h.states.map .int))
theorem HandAt.same {K : PySem.W.Frag} {H H' : Hp} {p : Addr} {h : HandM} (s : Same H H') (x : HandAt K H p h) : HandAt K H' p h := by
  obtain ⟨dx, a, b, c, h1, h2, h3, h4⟩ := x
  exact ⟨dx, a, b, c, s _ _ h1, s.rk h2, s _ _ h3, s _ _ h4⟩
abbrev HandsAt (K : PySem.W.Frag) (H : Hp) : List Addr → List HandM → Prop := Paired (HandAt K H)
theorem HandsAt.same {K : PySem.W.Frag} {H H' : Hp} (s : Same H H') {ps : List Addr} {hs : List HandM} (x : HandsAt K H ps hs) : HandsAt K H' ps hs := Paired.mapP x fun _ _ y => y.same s
abbrev fSys (a b c d : Addr) : List (Str × V) := [("hands", .ref a), ("diligent", .ref b), ("words", .ref c), ("start", .ref d)]
theorem fSys_hands {a b c d : Addr} : (fSys a b c d).lookup ("hands" : Str) = some (V.ref a) := lkY
theorem fSys_diligent {a b c d : Addr} : (fSys a b c d).lookup ("diligent" : Str) = some (V.ref b) := (lkN' (by decide +kernel)).trans lkY
theorem fSys_words {a b c d : Addr} : (fSys a b c d).lookup ("words" : Str) = some (V.ref c) := (lkN' (by decide +kernel)).trans ((lkN' (by decide +kernel)).trans lkY)
theorem fSys_start {a b c d : Addr} : (fSys a b c d).lookup ("start" : Str) = some (V.ref d) := (lkN' (by decide +kernel)).trans ((lkN' (by decide +kernel)).trans ((lkN' (by decide +kernel)).trans lkY))
theorem fSys_no {a b c d : Addr} {m : Str} (h1 : (m == ("hands" : Str)) = false) (h2 : (m == ("diligent" : Str)) = false) (h3 : (m == ("words" : Str)) = false) (h4 : (m == ("start" : Str)) = false) : (fSys a b c d).lookup m = none :=
  (lkN' h1).trans ((lkN' h2).trans ((lkN' h3).trans ((lkN' h4).trans rfl)))
def SysAt (K : PySem.W.Frag) (H : Hp) (p : Addr) (S : SysM) : Prop := ∃ dx a b c d ps, H p = some (.ins (He.ga K "System") dx (fSys a b c d)) ∧ H a = some (.tup (ps.map .ref)) ∧ HandsAt K H ps S.hands ∧ H b = some (.tup (S.dil.map .int)) ∧ H c = some (.tup (S.words.map .str)) ∧ H d = some (.tup (S.start.map .int))
theorem SysAt.same {K : PySem.W.Frag} {H H' : Hp} {p : Addr} {S : SysM} (s : Same H H') (x : SysAt K H p S) : SysAt K H' p S := by
  obtain ⟨dx, a, b, c, d, ps, h1, h2, h3, h4, h5, h6⟩ := x
  exact ⟨dx, a, b, c, d, ps, s _ _ h1, s _ _ h2, h3.same s, s _ _ h4, s _ _ h5, s _ _ h6⟩
/-! ### isinstance -/
theorem isiB {K : PySem.W.Frag} {H : Hp} {Q : VK} {x : V} {n m : String} {b : Bool} (ty : TyX K H x (.type n)) (h : kitB n m = some b) (q : Q (.bl b) H) : rIsi K [x, .ty m] H Q := ⟨x, .ty m, .type n, .type m, b, rfl, .ty m, ty, kit_ty h, q⟩
theorem isi2 {K : PySem.W.Frag} {H : Hp} {Q : VK} {x : V} {n m1 m2 : String} {p : Addr} (hp : H p = some (.tup [.ty m1, .ty m2])) (ty : TyX K H x (.type n)) (h : (kitB n m1 = some true) ∨ (kitB n m1 = some false ∧ kitB n m2 = some true)) (q : Q (.bl true) H) : rIsiT K [x, .ref p] H Q := by
  refine ⟨x, p, [.ty m1, .ty m2], .type n, [.type m1, .type m2], true, rfl, hp, .cons (.ty _) (.cons (.ty _) .nil), ty, ?_, q⟩
  rcases h with h | ⟨h1, h2⟩
  · exact kitAny_cons (kit_ty h) (fun e => by cases e) fun _ => rfl
  · exact kitAny_cons (kit_ty h1) (fun _ => kitAny_cons (kit_ty h2) (fun e => by cases e) fun _ => rfl) fun e => by cases e
theorem tyTup {K : PySem.W.Frag} {H : Hp} {a : Addr} {xs : List V} (h : H a = some (.tup xs)) : TyX K H (.ref a) (.type "tuple") := .base (.tup h)
theorem tyLst {K : PySem.W.Frag} {H : Hp} {a : Addr} {xs : List V} (h : H a = some (.lst xs)) : TyX K H (.ref a) (.type "list") := .base (.lst h)
theorem tyInt {K : PySem.W.Frag} {H : Hp} {i : Int} : TyX K H (.int i) (.type "int") := .base (.int i)
theorem tyStr {K : PySem.W.Frag} {H : Hp} {x : Str} : TyX K H (.str x) (.type "str") := .base (.str x)
theorem tyNon {K : PySem.W.Frag} {H : Hp} : TyX K H .non (.type "NoneType") := .base .non
/-! ### terms -/
section
variable {X : Cx} {x : Str} {p pos : Pos} {e : Expr} {es : List Expr} {t : TA}
theorem pe_gi {i : Int} (hg : Gl X x) (h : ∃ t, X.mg x = some (.int i t)) (hd : (x == ("__debug__" : Str)) = false := by decide) : PE X (.Name x pos) (tC (.int i)) := by
  obtain ⟨t, h⟩ := h
  exact pe_glob hg h ⟨_, rfl⟩ hd
theorem pe_gs {z : Str} (hg : Gl X x) (h : ∃ t, X.mg x = some (.str z t)) (hd : (x == ("__debug__" : Str)) = false := by decide) : PE X (.Name x pos) (tC (.str z)) := by
  obtain ⟨t, h⟩ := h
  exact pe_glob hg h ⟨_, rfl⟩ hd
/-- a built-in class's name as a value -/
theorem pe_bt {n : String} (hg : Gl X x) (hm : X.mg x = none) (hv : bootBuiltins x = some (.type n)) (hn : x ≠ "__name__" := by decide) (hd : (x == ("__debug__" : Str)) = false := by decide) : PE X (.Name x pos) (tC (.ty n)) := pe_bltn hg hm hv (show RelV (.ty n) (.type n) from rfl) hn hd
end
theorem b_isinstance : bootBuiltins "isinstance" = some (.builtin "isinstance") := by decide +kernel
theorem b_int : bootBuiltins "int" = some (.type "int") := by decide +kernel
theorem b_bool : bootBuiltins "bool" = some (.type "bool") := by decide +kernel
theorem b_str : bootBuiltins "str" = some (.type "str") := by decide +kernel
theorem b_list : bootBuiltins "list" = some (.type "list") := by decide +kernel
theorem b_tuple : bootBuiltins "tuple" = some (.type "tuple") := by decide +kernel
theorem b_dict : bootBuiltins "dict" = some (.type "dict") := by decide +kernel
theorem b_set : bootBuiltins "set" = some (.type "set") := by decide +kernel
theorem b_sorted : bootBuiltins "sorted" = some (.builtin "sorted") := by decide +kernel
theorem b_all : bootBuiltins "all" = some (.builtin "all") := by decide +kernel
theorem b_any : bootBuiltins "any" = some (.builtin "any") := by decide +kernel
theorem b_len : bootBuiltins "len" = some (.builtin "len") := by decide +kernel
end NS
/-! BV: the rules within a comprehension, the written part named; a list walked backwards; small tools. -/
namespace NS
open PySem PySem.Spec PyProof.Rows L2
theorem u9 {A : Around} {k : Nat} (hr : Room k A) : A.units + 9 < cLine := by have := hr.units; omega
theorem u65 {A : Around} {k : Nat} (hr : Room k A) : A.units + 65 < cLine := by have := hr.un; omega
section
variable {X : Cx} {P : Program} {w : World} {K : PySem.W.Frag} {e a b : Expr} {f x : Str} {pos : Pos} {ta tb : TE} {tg : Expr} {es : List Expr} {kk n : Nat} {t : TGs}
theorem ix_tupB (h : X.K = K) : IxR X (rIxT K) := h ▸ ix_tup
theorem ix_listB (h : X.K = K) : IxR X (rIxL K) := h ▸ ix_list
theorem op_in_seqB (h : X.K = K) : OpR X (compareOp .In) (rIn K false) := h ▸ op_in_seq
theorem op_notIn_seqB (h : X.K = K) : OpR X (compareOp .NotIn) (rIn K true) := h ▸ op_notIn_seq
theorem op_inLB (h : X.K = K) (hu : X.A.units + 65 < cLine) : OpR X (compareOp .In) (rInL K false) := h ▸ op_inL hu
theorem op_ninLB (h : X.K = K) (hu : X.A.units + 65 < cLine) : OpR X (compareOp .NotIn) (rInL K true) := h ▸ op_ninL hu
theorem op_inNB (h1 : X.prog = P) (h2 : X.w = w) (hu : X.A.units + 9 < cLine) : OpR X (compareOp .In) (rInN P w false) := by subst h1 h2; exact op_inN hu
theorem op_ninNB (h1 : X.prog = P) (h2 : X.w = w) (hu : X.A.units + 9 < cLine) : OpR X (compareOp .NotIn) (rInN P w true) := by subst h1 h2; exact op_ninN hu
theorem ix_dNB (h1 : X.prog = P) (h2 : X.w = w) (hu : X.A.units + 9 < cLine) : IxR X (rGetN P w) := by subst h1 h2; exact ix_dN hu
theorem op_catAB (h : X.K = K) : OpR X (binaryOp .Add) (rCatA K) := h ▸ op_catA
theorem op_eqDB (h : X.K = K) (hu : X.A.units + 64 < cLine) : OpR X (compareOp .Eq) (rEqD K) := h ▸ op_eqD hu
theorem pe_fldB (h : X.K = K) (he : PE X e ta) (hb : attributeBase e f X.env (eval e X.env) = eval e X.env) : PE X (.Attribute e f pos) (tFld K ta f) := by subst h; exact pe_fld he hb
theorem pg_tupB (h0 : X.K = K) (hc : X.calm = true) (h : PGs X es t) (hn : (assignEach es X.env).length = n := by rfl) (hst : (assignEach es X.env).findIdx? (·.1) = none := by rfl) : PG X (.Tuple es kk pos) (gTup K n t) := by subst h0; exact pg_tup hc h hn hst
theorem pi_listB (h : X.K = K) (hl : PE X e ta) : PI X tg e (iList K ta) := by subst h; exact pi_list hl
theorem pi_tupB (h : X.K = K) (hl : PE X e ta) : PI X tg e (iTup K ta) := by subst h; exact pi_tup hl
theorem call_len_seqB (h : X.K = K) : CallR X (.builtin "len") (fun xs H Q => ∃ p ys, xs = [.ref p] ∧ (SqL K H p ys ∨ SqT K H p ys) ∧ Q (.int ys.length) H) := h ▸ call_len_seq
theorem call_list_ofB (h : X.K = K) : CallR X (.type "list") (fun xs H Q => ∃ p ys, xs = [.ref p] ∧ (SqL K H p ys ∨ SqT K H p ys) ∧ ∀ l, H l = none → Q (.ref l) (upd H l (.lst ys))) := h ▸ call_list_of
theorem cr_allB (h : X.K = K) (hc : X.calm = true) : CallR X (.builtin "all") (rAll K) := h ▸ cr_all hc
theorem cr_anyB (h : X.K = K) (hc : X.calm = true) : CallR X (.builtin "any") (rAny K) := h ▸ cr_any hc
theorem pt_truthB (h : X.K = K) (ha : PE X a ta) (he : ∀ whole, isTrue a X.env whole = (do let v ← whole; standAt a.pos; holding [v] (truthy v))) : PT X a (fun σ H Q => ta σ H fun x H' => ∃ k, TruV K x H' k ∧ Q k H') := by subst h; exact pt_truth ha he
theorem _root_.L2.PI.or {w1 w2 : TI} (h1 : PI X tg e w1) (h2 : PI X tg e w2) : PI X tg e (fun σ H R => w1 σ H R ∨ w2 σ H R) := ⟨fun pins s σ H R I h => h.elim (h1.run pins s σ H R I) (h2.run pins s σ H R I)⟩
end
/-! ### l[::-1] -/
section
variable {X : Cx}
def tRevL (K : PySem.W.Frag) (te : TE) (ts : TO) : TE := fun σ H Q => te σ H fun x H1 => ts σ H1 fun u H2 => u = some (-1) ∧ ∃ a xs, x = .ref a ∧ SqL K H2 a xs ∧ ∀ p, H2 p = none → Q (.ref p) (upd H2 p (.lst xs.reverse))
theorem pe_revO {e : Expr} {te : TE} {ts : TO} {s0 : Expr} {p2 pos : Pos} (he : PE X e te) (hs : PO X (some s0) ts) : PE X (.Subscript e (.Slice none none (some s0) p2) pos) (tRevL X.K te ts) := by
  refine ⟨fun pins s σ H Q I h => ?_⟩
  refine Subscript_ (thn (he.run pins s σ H _ I h) fun v s1 ⟨x, H1, I1, r1, q1⟩ => ?_)
  refine wpAny_Slice ?_
  rw [evalPart_none]
  refine wpAny_pure (wpAny_pure ?_)
  refine thn (hs.run pins s1 σ H1 _ I1 q1) fun vu s3 ⟨u, H3, I3, pu, q3⟩ => ?_
  obtain ⟨rfl, a, xs, rfl, hx, q⟩ := q3
  have I4 : Inv X pins σ H3 { s3 with heap := s3.heap.push { cls := .type "slice", data := .fields #[.none, .none, vu] } } := I3.kept (t' := s3.toks) fun b ob q => Heap.get?_push_of_some _ q
  cases r1
  obtain ⟨its, r, ht, hz⟩ := I4.list hx
  refine tail_any (ops := [.ref a, .ref s3.heap.objs.size]) ht.isList.typeIs slot_list_getitem.lookup ?_ (by with_unfolding_all rfl)
  refine wpAny_getItem_list_slice ht.isList (Heap.IsSliceOf.new ..) .none .none pu (by simp) ?_ (by rw [List.size_toArray, ← r.length]; exact hz)
  rw [PySem.W.krv_pick]
  refine ⟨.ref (s3.heap.push { cls := .type "slice", data := .fields #[.none, .none, vu] }).objs.size, _, I4.laid (t' := s3.toks) (o := .lst xs.reverse) (fun b ob q => Heap.get?_push_of_some _ q) (Nat.le_refl _) ?_, rfl, q _ (I4.hok.fresh (Nat.le_refl _))⟩
  have rr : Vals xs.reverse its.reverse := by
    have go : ∀ {xs : List V} {its : List Value} {ys : List V} {jts : List Value}, Vals xs its → Vals ys jts → Vals (xs.reverse ++ ys) (its.reverse ++ jts) := by
      intro xs its ys jts h
      induction h generalizing ys jts with
      | nil => intro k; exact k
      | cons q _ ih =>
        intro k
        rw [List.reverse_cons, List.reverse_cons, List.append_assoc, List.append_assoc]
        exact ih (.cons q k)
    simpa using go r .nil
  exact ⟨by rw [List.length_reverse]; exact hz, _, 0, rr, Heap.get?_push_size _ rfl⟩
theorem pe_revL {e s0 : Expr} {te ts : TE} {p2 pos : Pos} (he : PE X e te) (hs : PE X s0 ts) : PE X (.Subscript e (.Slice none none (some s0) p2) pos) (tRevL X.K te (tPart ts)) := pe_revO he (po_some hs)
end
theorem _root_.NS.Rks.mapV {α : Type} {f : α → Dat} {H : Hp} {l : List α} {vs : List V} {i : Nat} {v : V} (r : Rks H (l.map f) vs) (h : vs[i]? = some v) : ∃ x, l[i]? = some x ∧ Rk H (f x) v := by
  obtain ⟨k, h1, h2⟩ := Rks.getV r h
  rw [List.getElem?_map] at h1
  cases e : l[i]? with
  | none => rw [e] at h1; cases h1
  | some x =>
    rw [e] at h1
    obtain rfl : f x = k := Option.some.inj h1
    exact ⟨x, rfl, h2⟩
theorem Rks.get_map {α : Type} {f : α → Dat} {H : Hp} {l : List α} {vs : List V} {i : Nat} {x : α} (r : Rks H (l.map f) vs) (h : l[i]? = some x) : ∃ v, vs[i]? = some v ∧ Rk H (f x) v := Rks.get r (by rw [List.getElem?_map, h]; rfl)
theorem take_snoc {α : Type} {l : List α} {i : Nat} {x : α} (h : l[i]? = some x) : l.take (i + 1) = l.take i ++ [x] := by rw [List.take_add_one, h]; rfl
theorem Rks.len {α : Type} {f : α → Dat} {H : Hp} {l : List α} {vs : List V} (r : Rks H (l.map f) vs) : vs.length = l.length := by rw [← r.length, List.length_map]
theorem iteP {c A B : Prop} [Decidable c] (hc : c) (h : A) : if decide c = true then A else B := by
  rw [if_pos (decide_eq_true hc)]
  exact h
theorem iteN {c A B : Prop} [Decidable c] (hc : ¬ c) (h : B) : if decide c = true then A else B := by
  rw [if_neg (by simpa using hc)]
  exact h
theorem iteD {c A B : Prop} [Decidable c] (h1 : c → A) (h2 : ¬ c → B) : if decide c = true then A else B := by
  by_cases h : c
  · exact iteP h (h1 h)
  · exact iteN h (h2 h)
theorem nodup_take {α : Type} {l : List α} {i : Nat} {x : α} (nd : l.Nodup) (h : l[i]? = some x) : x ∉ l.take i := fun hm => by
  have e := take_snoc h
  have s := List.Sublist.nodup (List.take_sublist (i + 1) l) nd
  rw [e, List.nodup_append] at s
  exact s.2.2 x hm x (by simp) rfl
theorem _root_.L2.Same.none {H H1 : Hp} {p : Addr} (s : Same H H1) (h : H1 p = none) : H p = none := by
  cases e : H p with
  | none => rfl
  | some o => rw [s _ _ e] at h; cases h
def YEn (xs : List V) : Nat → Hp → V → Hp → Prop := fun i H v H' => ∃ T x, v = .ref T ∧ H T = none ∧ H' = upd H T (.tup [.int (i : Nat), x]) ∧ xs[i]? = some x
theorem walk_en {K : PySem.W.Frag} {a : Addr} (xs : List V) : L2.Walk (Ite K a) xs.length (fun H => SqL K H a xs) (YEn xs) := by
  refine ⟨fun i _ hi q => ⟨xs, xs[i], q, by simp [hi]⟩, fun _ q => ⟨xs, q, Nat.le_refl _⟩, fun i H v H' _ q y => ?_⟩
  obtain ⟨T, x, h1, h2, h3, h4⟩ := y
  exact ⟨T, x, h1, h2, h3, h4 xs q⟩
theorem walk_enT {K : PySem.W.Frag} {a : Addr} (xs : List V) : L2.Walk (ItE K a) xs.length (fun H => SqT K H a xs) (YEn xs) := by
  refine ⟨fun i _ hi q => ⟨xs, xs[i], q, by simp [hi]⟩, fun _ q => ⟨xs, q, Nat.le_refl _⟩, fun i H v H' _ q y => ?_⟩
  obtain ⟨T, x, h1, h2, h3, h4⟩ := y
  exact ⟨T, x, h1, h2, h3, h4 xs q⟩
theorem walk_li {K : PySem.W.Frag} {a : Addr} (xs : List V) : L2.Walk (Itl K a) xs.length (fun H => SqL K H a xs) (YAt xs) := walk_list
theorem walk_tu {K : PySem.W.Frag} {a : Addr} (xs : List V) : L2.Walk (Itt K a) xs.length (fun H => SqT K H a xs) (YAt xs) := walk_tup
theorem gc_it {J : L2.It} {n : Nat} {G : Hp → Prop} {Y : Nat → Hp → V → Hp → Prop} (w : L2.Walk J n G Y) {H0 : Hp} {Qd : Hp → Prop} {body : V → Hp → (Hp → Prop) → Prop} (Pv : Nat → Hp → Prop) (h0 : Pv 0 H0) (hG : ∀ i H, i ≤ n → Pv i H → G H)
    (hs : ∀ i x H H', i < n → Pv i H → Y i H x H' → body x H' (Pv (i + 1))) (hd : ∀ H, Pv n H → Qd H) :
    ∃ W : Nat → Nat → Hp → Prop, (∃ m, W 0 m H0) ∧ ∀ i m H, W i m H →
      (J.stop i H ∧ Qd H) ∨ (J.go i H ∧ ∃ Nx : Hp → Prop, (∀ H', Nx H' → ∃ m', m' < m ∧ W (i + 1) m' H') ∧ ∀ x H', J.yld i H x H' → body x H' Nx) := by
  refine ⟨fun i m H => m = n - i ∧ i ≤ n ∧ Pv i H, ⟨n, by simp, Nat.zero_le _, h0⟩, ?_⟩
  rintro i m H ⟨rfl, hi, p⟩
  have q := hG i H hi p
  by_cases hlt : i < n
  · exact .inr ⟨w.goes i H hlt q, Pv (i + 1), fun H' p' => ⟨n - (i + 1), by omega, rfl, hlt, p'⟩, fun x H' y => hs i x H H' hlt p (w.yields i H x H' hlt q y)⟩
  · have e : i = n := by omega
    subst e
    exact .inl ⟨w.stops H q, hd H p⟩
/-- H' is H but at p -/
def Same1 (p : Addr) (H H' : Hp) : Prop := ∀ b o, b ≠ p → H b = some o → H' b = some o
theorem _root_.L2.Same.one {p : Addr} {H H' : Hp} (s : Same H H') : Same1 p H H' := fun b o _ e => s b o e
theorem Same1.put {p a : Addr} {H0 H : Hp} {o : HO} (s : Same1 p H0 H) (h : H a = none) : Same1 p H0 (upd H a o) := fun b u n e => by rw [upd_ne (ne_of_none (s b u n e) h)]; exact s b u n e
theorem Same1.own {p : Addr} {H0 H : Hp} {o : HO} (s : Same1 p H0 H) : Same1 p H0 (upd H p o) := fun b u n e => by rw [upd_ne n]; exact s b u n e
theorem Same1.then {p : Addr} {H0 H H' : Hp} (s : Same1 p H0 H) (t : Same H H') : Same1 p H0 H' := fun b u n e => t b u (s b u n e)
theorem Same1.back {p : Addr} {H0 H H' : Hp} (t : Same H0 H) (h : H0 p = none) (s : Same1 p H H') : Same H0 H' := fun b u e => s b u (ne_of_none e h) (t b u e)
theorem putF_len (f : Str) (v : V) : ∀ fs : List (Str × V), (putF f v fs).length ≤ fs.length + 1
  | [] => Nat.le_refl _
  | (g, x) :: r => by
    unfold putF
    split
    · simp
    · simp only [List.length_cons]
      have := putF_len f v r
      omega
theorem putF_few {f : Str} {v : V} {fs : List (Str × V)} {n : Nat} (h : fs.length ≤ n) : (putF f v fs).length ≤ n + 1 := Nat.le_trans (putF_len f v fs) (by omega)
theorem few0 : ([] : List (Str × V)).length ≤ 0 := Nat.le_refl _
theorem line24 {n m : Nat} (h : n ≤ m) (hm : m ≤ 1000000 := by decide) : n < sizeLine := Nat.lt_of_le_of_lt h (Nat.lt_of_le_of_lt hm (by decide))
theorem _root_.L2.Same.put' {H0 H : Hp} {a : Addr} {o : HO} (s : Same H0 H) (h : H0 a = none) : Same H0 (upd H a o) := s.put h
end NS
/-! G2: the walks of the checks. -/
namespace NS
open PySem PySem.Spec PyProof.Rows L2
local macro_rules | `(tactic| nested_keys) => `(tactic| repeat (first | refine ⟨_, rfl, ?_⟩ | refine ⟨_, _, rfl, rfl, ?_⟩ | refine ⟨rfl, ?_⟩ | with_reducible refine iteT ?_ | with_reducible refine iteF ?_))
/-! ### small tools -/
theorem k_int_int : kitB "int" "int" = some true := by decide +kernel
theorem k_int_bool : kitB "int" "bool" = some false := by decide +kernel
theorem k_str_str : kitB "str" "str" = some true := by decide +kernel
theorem k_tup_tup : kitB "tuple" "tuple" = some true := by decide +kernel
theorem k_lst_lst : kitB "list" "list" = some true := by decide +kernel
theorem k_tup_lst : kitB "tuple" "list" = some false := by decide +kernel
theorem k_lst_bool : kitB "list" "bool" = some false := by decide +kernel
theorem k_lst_int : kitB "list" "int" = some false := by decide +kernel
theorem k_lst_str : kitB "list" "str" = some false := by decide +kernel
theorem k_lst_tup : kitB "list" "tuple" = some false := by decide +kernel
theorem k_lst_dict : kitB "list" "dict" = some false := by decide +kernel
theorem k_tup_bool : kitB "tuple" "bool" = some false := by decide +kernel
theorem k_tup_int : kitB "tuple" "int" = some false := by decide +kernel
theorem k_tup_str : kitB "tuple" "str" = some false := by decide +kernel
theorem k_tup_dict : kitB "tuple" "dict" = some false := by decide +kernel
theorem k_str_bool : kitB "str" "bool" = some false := by decide +kernel
theorem k_str_int : kitB "str" "int" = some false := by decide +kernel
theorem inV_text {x : Str} {l : List Str} : inV (.str x) (l.map V.str) = decide (x ∈ l) := by
  induction l with
  | nil => rfl
  | cons y l ih =>
    show (eqV (.str y) (.str x) || inV (.str x) (l.map V.str)) = _
    rw [ih]
    show ((y == x) || decide (x ∈ l)) = _
    by_cases e : y = x
    · subst e; simp
    · have : (y == x) = false := by simpa using e
      simp [this, Ne.symm e]
theorem inV_num {x : Int} {l : List Int} : inV (.int x) (l.map V.int) = decide (x ∈ l) := by
  induction l with
  | nil => rfl
  | cons y l ih =>
    show (eqV (.int y) (.int x) || inV (.int x) (l.map V.int)) = _
    rw [ih]
    show ((y == x) || decide (x ∈ l)) = _
    by_cases e : y = x
    · subst e; simp
    · have : (y == x) = false := by simpa using e
      simp [this, Ne.symm e]
theorem flat_strs (l : List Str) : (l.map V.str).all flatV = true := by simp [flatV]
theorem flat_ints (l : List Int) : (l.map V.int).all flatV = true := by simp [flatV]
variable {P : Program} {w : World} {K : PySem.W.Frag} {mg : Str → Option Value} {base : Heap}
/-! ### is_integer, is_state -/
def sp_is_integer : Sp := fun vs H Q _ => ∃ i : Int, vs = [.int i] ∧ Q (.bl true) H
theorem ok_is_integer (T : Tx K mg) : C8.Cal P w K mg base 1 "is_integer" sp_is_integer [] := cal_is_integer T (fun vs H Q E ⟨_, h, _⟩ => by rw [h]; rfl) fun cdv A outer s H vs Q E hr h => by
  refine ⟨_, (pss_one (ps_ret (pe_and (pe_callB call_isi (by rfl) T.f_isinstance b_isinstance (pa_cons (pv 0) (pa_cons (pe_bt (by rfl) T.f_int b_int) pa_nil))) (pe_one (pe_not (pe_callB call_isi (by rfl) T.f_isinstance b_isinstance (pa_cons (pv 0) (pa_cons (pe_bt (by rfl) T.f_bool b_bool) pa_nil)))))))), ?_⟩
  obtain ⟨i, rfl, q⟩ := h
  nested_keys
  refine ⟨_, _, _, _, _, rfl, .ty _, tyInt, kit_ty k_int_int, ?_⟩
  nested_keys
  refine ⟨_, _, _, _, _, rfl, .ty _, tyInt, kit_ty k_int_bool, ?_⟩
  nested_keys
  exact q
def sp_is_state : Sp := fun vs H Q _ => ∃ i : Int, vs = [.int i] ∧ StateOk i ∧ Q (.bl true) H
theorem ok_is_state (T : Tx K mg) : C8.Cal P w K mg base 2 "is_state" sp_is_state [] := cal_is_state T (fun vs H Q E ⟨_, h, _⟩ => by rw [h]; rfl) fun cdv A outer s H vs Q E hr h => by
  refine ⟨_, (pss_one (ps_ret (pe_and (C8.pe_c (ok_is_integer T) hr (by decide) (by rfl) (pa_cons (pv 0) pa_nil)) (pe_one (pe_chain op_le op_le pe_int (pv 0) pe_int))))), ?_⟩
  obtain ⟨i, rfl, ⟨k1, k2⟩, q⟩ := h
  nested_keys
  refine iteP k1 ?_
  nested_keys
  show Q (.bl (decide (i ≤ 99))) H
  rw [decide_eq_true k2]
  exact q
/-! ### is_name -/
theorem letters_in {c : Nat} (h : 97 ≤ c ∧ c ≤ 122) : c ∈ (Str.ofString "abcdefghijklmnopqrstuvwxyz").cps.toList := by
  have e : ∀ k : Fin 26, (97 + k.1) ∈ (Str.ofString "abcdefghijklmnopqrstuvwxyz").cps.toList := by decide +kernel
  have := e ⟨c - 97, by omega⟩
  rwa [show 97 + (c - 97) = c by omega] at this
def sp_is_name : Sp := fun vs H Q _ => ∃ z : Str, vs = [.str z] ∧ NameOk z ∧ Q (.bl true) H
theorem ok_is_name (T : Tx K mg) : C8.Cal P w K mg base 1 "is_name" sp_is_name [] := cal_is_name T (fun vs H Q E ⟨_, h, _⟩ => by rw [h]; rfl) fun cdv A outer s H vs Q E hr h => by
  refine ⟨_, (pss_cons (ps_if (PW.pt (pw_or (pt_not (pt_val (pe_callB call_isi (by rfl) T.f_isinstance b_isinstance (pa_cons (pv 0) (pa_cons (pe_bt (by rfl) T.f_str b_str) pa_nil))))) (pw_or1 (pt_not (pt_chain op_le op_le pe_int (pe_callB call_len_str (by rfl) T.f_len b_len (pa_cons (pv 0) pa_nil)) pe_int))))) (pss_one (ps_ret pe_bl)) pss_nil)
    (C8.pss_cut (ps_for PassesOwn.never rfl (pi_str (pv 0)) (pg_name (i := 1) sc_is_name.nd rfl (Or.inl rfl))
      (pss_one (ps_if (pt_cmpR op_notIn_sign (pv 1) (pe_gs (by rfl) T.z_LETTERS) (by rfl)) (pss_one (ps_ret pe_bl)) pss_nil)))
    (pss_one (ps_ret pe_bl)))), ?_⟩
  obtain ⟨z, rfl, ⟨k1, k2, k3⟩, q⟩ := h
  nested_keys
  refine ⟨_, _, _, _, _, rfl, .ty _, tyStr, kit_ty k_str_str, ?_⟩
  nested_keys
  refine ⟨Nat.le_trans k2 (by decide), ?_⟩
  nested_keys
  refine iteP (by show (1 : Int) ≤ ((z.cps.size : Nat) : Int); omega) ?_
  nested_keys
  have e12 : decide (((z.length : Nat) : Int) ≤ 12) = true := decide_eq_true (by show ((z.cps.size : Nat) : Int) ≤ 12; omega)
  rw [e12]
  nested_keys
  refine ⟨fun σ' H' => H' = H ∧ ∃ u, σ' = [some (V.str z), u], ?_, ?_⟩
  · nested_keys
    refine for_it walk_str (fun _ σ' H' => H' = H ∧ ∃ u, σ' = [some (V.str z), u]) ⟨rfl, _, rfl⟩ (fun _ _ _ _ _ => trivial) ?_ ?_
    · rintro i x σ2 H2 H3 hi ⟨rfl, u, rfl⟩ ⟨rfl, c, hc, rfl⟩
      have hc' : 97 ≤ c ∧ c ≤ 122 := k3 c (by rw [Array.mem_toList_iff]; exact Array.mem_of_getElem? hc)
      nested_keys
      rw [decide_eq_true (letters_in hc')]
      nested_keys
      exact ⟨_, rfl⟩
    · rintro σ2 H2 k
      exact k
  · rintro σ2 H2 ⟨rfl, u, rfl⟩
    exact q
/-! ### is_row, is_step -/
/-- a list or a tuple at a -/
def LT (H : Hp) (a : Addr) (xs : List V) : Prop := H a = some (.lst xs) ∨ H a = some (.tup xs)
theorem LT.sq {H : Hp} {a : Addr} {xs : List V} (h : LT H a xs) : SqL K H a xs ∨ SqT K H a xs := h.imp SqL.of SqT.of
theorem LT.same {H H' : Hp} {a : Addr} {xs : List V} (s : Same H H') (h : LT H a xs) : LT H' a xs := h.imp (s _ _) (s _ _)
def sp_is_row : Sp := fun vs H Q _ => ∃ a xs, vs = [.ref a] ∧ LT H a xs ∧ ∀ H', Same H H' → Q (.bl true) H'
theorem ok_is_row (T : Tx K mg) : C8.Cal P w K mg base 1 "is_row" sp_is_row [] := cal_is_row T (fun vs H Q E ⟨_, _, h, _⟩ => by rw [h]; rfl) fun cdv A outer s H vs Q E hr h => by
  refine ⟨_, (pss_one (ps_ret (pe_callB call_isiT (by rfl) T.f_isinstance b_isinstance (pa_cons (pv 0) (pa_cons (pe_tup (pa_cons (pe_bt (by rfl) T.f_list b_list) (pa_cons (pe_bt (by rfl) T.f_tuple b_tuple) pa_nil))) pa_nil))))), ?_⟩
  obtain ⟨a, xs, rfl, hx, q⟩ := h
  nested_keys
  refine ⟨by show 2 ≤ sizeLine; decide, fun p hp => ?_⟩
  have n : ∀ o, H a = some o → upd H p (.tup [.ty "list", .ty "tuple"]) a = some o := fun o e => by rw [upd_ne (ne_of_none e hp)]; exact e
  rcases hx with hx | hx
  · exact ⟨_, p, _, _, _, true, rfl, upd_same, .cons (.ty _) (.cons (.ty _) .nil), tyLst (n _ hx), kitAny_cons (kit_ty k_lst_lst) (fun e => by cases e) fun _ => rfl, q _ (Same.new hp)⟩
  · exact ⟨_, p, _, _, _, true, rfl, upd_same, .cons (.ty _) (.cons (.ty _) .nil), tyTup (n _ hx), kitAny_cons (kit_ty k_tup_lst) (fun _ => kitAny_cons (kit_ty k_tup_tup) (fun e => by cases e) fun _ => rfl) (fun e => by cases e), q _ (Same.new hp)⟩
def sp_is_step : Sp := fun vs H Q _ => ∃ v s, vs = [v] ∧ Rk H (dStep s) v ∧ StepOk s ∧ Q (.bl true) H
theorem ok_is_step (T : Tx K mg) : C8.Cal P w K mg base 3 "is_step" sp_is_step [] := cal_is_step T (fun vs H Q E ⟨_, _, h, _⟩ => by rw [h]; rfl) fun cdv A outer s H vs Q E hr h => by
  refine ⟨_, (pss_cons (ps_if (PW.pt (pw_or (pt_not (pt_val (pe_callB call_isi (by rfl) T.f_isinstance b_isinstance (pa_cons (pv 0) (pa_cons (pe_bt (by rfl) T.f_tuple b_tuple) pa_nil))))) (pw_or1 (pt_cmpR op_ne (pe_callB call_len_seq (by rfl) T.f_len b_len (pa_cons (pv 0) pa_nil)) pe_int (nomark _))))) (pss_one (ps_ret pe_bl)) pss_nil)
    (pss_one (ps_ret (pe_and (C8.pe_c (ok_is_state T) hr (by decide) (by rfl) (pa_cons (pe_ix ix_tup (pv 0) pe_int (fun _ _ => rfl)) pa_nil)) (pe_and (C8.pe_c (ok_is_name T) hr (by decide) (by rfl) (pa_cons (pe_ix ix_tup (pv 0) pe_int (fun _ _ => rfl)) pa_nil)) (pe_one (C8.pe_c (ok_is_state T) hr (by decide) (by rfl) (pa_cons (pe_ix ix_tup (pv 0) pe_int (fun _ _ => rfl)) pa_nil)))))))), ?_⟩
  obtain ⟨v, st, rfl, hv, ok, q⟩ := h
  obtain ⟨b, rfl, hb⟩ := hv.step
  nested_keys
  refine ⟨_, _, _, _, _, rfl, .ty _, tyTup hb, kit_ty k_tup_tup, ?_⟩
  nested_keys
  refine ⟨b, _, rfl, .inr (SqT.of hb), ?_⟩
  nested_keys
  refine ⟨b, _, _, _, rfl, rfl, SqT.of hb, rfl, ?_⟩
  nested_keys
  refine ⟨ok.a, ?_⟩
  nested_keys
  refine ⟨b, _, _, _, rfl, rfl, SqT.of hb, rfl, ?_⟩
  nested_keys
  refine ⟨ok.w, ?_⟩
  nested_keys
  refine ⟨b, _, _, _, rfl, rfl, SqT.of hb, rfl, ?_⟩
  nested_keys
  refine ⟨ok.b, ?_⟩
  exact q
/-! ### leaving -/
def leaves (l : List Stp) (s : Int) : Nat := (l.filter fun x => decide (x.1 = s)).length
def sp_leaving : Sp := fun vs H Q _ => ∃ a ss i, vs = [.ref a, .int i] ∧ Ls H a (ss.map dStep) ∧ ss.length ≤ 24 ∧ ∀ H', Same H H' → Q (.int ((leaves ss i : Nat) : Int)) H'
theorem ok_leaving (T : Tx K mg) : C8.Cal P w K mg base 1 "leaving" sp_leaving [] := cal_leaving T (fun vs H Q E ⟨_, _, _, h, _⟩ => by rw [h]; rfl) fun cdv A outer s H vs Q E hr h => by
  refine ⟨_, (pss_one (ps_ret (pe_callB call_len_seq (by rfl) T.f_len b_len (pa_cons (pe_lc (own := [("step", 2)]) (g := gName 2) (by rfl) sc_leaving.nd (pi_list (pv 0)) (blkOk_by (own := [("step", 2)]) (N := n_leaving) (sc := defScope s_leaving) (by decide +kernel)) (fun _ _ _ _ _ => pg_name (i := 2) sc_leaving.nd rfl (Or.inl rfl)) (fun _ _ _ _ _ => pts_one (pt_cmpR op_eq (pe_ix (ix_tupB (K := K) rfl) (pv 2) pe_int (fun _ _ => rfl)) (pv 1) (nomark _))) (fun _ _ _ _ _ => (pv 2))) pa_nil)))), ?_⟩
  obtain ⟨a, ss, i, rfl, ⟨us, ha, rk⟩, few, q⟩ := h
  nested_keys
  refine ⟨⟨_, SqL.of ha⟩, fun D hD => ?_⟩
  refine lc_it (walk_li us) (fun n H2 => Same H H2 ∧ ∃ ks, H2 D = some (.lst ks) ∧ ks.length = leaves (ss.take n) i) ⟨Same.new hD, [], upd_same, rfl⟩ (fun _ _ _ k => SqL.of (k.1 _ _ ha)) ?_ ?_
  · rintro n x H2 H3 hi ⟨sm, ks, hk, ek⟩ ⟨rfl, hx⟩
    obtain ⟨st, h1, h2⟩ := Rks.mapV rk hx
    obtain ⟨b, rfl, hb⟩ := (sm.rk h2).step
    nested_keys
    refine ⟨b, _, _, _, rfl, rfl, SqT.of hb, rfl, ?_⟩
    nested_keys
    refine iteD (fun c => ?_) fun c => ?_
    · have e : leaves (ss.take (n + 1)) i = leaves (ss.take n) i + 1 := by
        have c' : st.1 = i := by injection c
        rw [take_snoc h1, leaves, List.filter_append]
        simp [leaves, c']
      have l1 : leaves (ss.take n) i ≤ 24 := Nat.le_trans (List.length_filter_le _ _) (by rw [List.length_take]; omega)
      nested_keys
      exact ⟨ks, hk, line24 (m := 24) (by omega), sm.put hD, _, upd_same, by rw [List.length_append, e, ek]; rfl⟩
    · have e : leaves (ss.take (n + 1)) i = leaves (ss.take n) i := by
        have c' : ¬ st.1 = i := fun z => c (by rw [z])
        rw [take_snoc h1, leaves, List.filter_append]
        simp [leaves, c']
      exact ⟨sm, ks, hk, by rw [e, ek]⟩
  · rintro H2 ⟨sm, ks, hk, ek⟩
    refine ⟨D, ks, rfl, .inl (SqL.of hk), ?_⟩
    have e2 : leaves (ss.take us.length) i = leaves ss i := by rw [rk.len, List.take_length]
    have := q H2 sm
    rwa [← e2, ← ek] at this
end NS
/-! G3: the walks of the steps and hands. -/
namespace NS
open PySem PySem.Spec PyProof.Rows L2
local macro_rules | `(tactic| nested_keys) => `(tactic| repeat (first | refine ⟨_, rfl, ?_⟩ | refine ⟨_, _, rfl, rfl, ?_⟩ | refine ⟨rfl, ?_⟩ | with_reducible refine iteT ?_ | with_reducible refine iteF ?_))
variable {P : Program} {w : World} {K : PySem.W.Frag} {mg : Str → Option Value} {base : Heap}
/-! ### checked_steps -/
structure StepsOk (ss : List Stp) : Prop where
  some_ : 1 ≤ ss.length
  few : ss.length ≤ 5
  fine : ∀ s ∈ ss, StepOk s
  nd : ss.Nodup
  four : ∀ s, leaves ss s ≤ 4
theorem name_strOk {x : Str} (h : NameOk x) : PyData.strOk x = true := by
  unfold PyData.strOk
  rw [Array.all_eq_true']
  intro c hc
  have := h.2.2 c (by rwa [Array.mem_toList_iff])
  exact decide_eq_true (by omega)
theorem fine_step {s : Stp} (h : StepOk s) : Fine (dStep s) := Fine.tup (by
  intro k hk
  simp only [List.mem_cons, List.not_mem_nil, or_false] at hk
  rcases hk with rfl | rfl | rfl
  · exact Fine.num _
  · exact Fine.text (name_strOk h.w)
  · exact Fine.num _) (by
  intro k hk
  simp only [List.mem_cons, List.not_mem_nil, or_false] at hk
  rcases hk with rfl | rfl | rfl <;> simp [NestedKey.depth])
theorem dStep_inj {a b : Stp} (h : dStep a = dStep b) : a = b := by
  obtain ⟨a1, a2, a3⟩ := a
  obtain ⟨b1, b2, b3⟩ := b
  simpa using h
def sp_checked_steps : Sp := fun vs H Q _ => ∃ a us ss, vs = [.ref a] ∧ LT H a us ∧ Rks H (ss.map dStep) us ∧ StepsOk ss ∧ ∀ v H', Same H H' → Rk H' (.tup (ss.map dStep)) v → Q v H'
theorem ok_checked_steps (T : Tx K mg) : C8.Cal P w K mg base 4 "checked_steps" sp_checked_steps [] := cal_checked_steps T (fun vs H Q E ⟨_, _, _, h, _⟩ => by rw [h]; rfl) fun cdv A outer s H vs Q E hr h => by
  refine ⟨_, (pss_cons (ps_if (PW.pt (pw_or (pt_not (pt_val (C8.pe_c (ok_is_row T) hr (by decide) (by rfl) (pa_cons (pv 0) pa_nil)))) (pw_or1 (pt_not (pt_chain op_le op_le pe_int (pe_callB call_len_seq (by rfl) T.f_len b_len (pa_cons (pv 0) pa_nil)) (pe_gi (by rfl) T.i_MOST_STEPS)))))) (pss_one ps_never) pss_nil)
    (pss_cons (ps_set (i := 1) sc_checked_steps.nd rfl (Or.inl rfl) (pe_lst pa_nil))
    (C8.pss_cut (ps_for PassesOwn.never rfl (PI.or (pi_enum (by rfl) T.f_enumerate (pa_cons (pv 0) pa_nil)) (pi_enumT (by rfl) T.f_enumerate (pa_cons (pv 0) pa_nil))) (pg_tup rfl (pgs_cons (pg_name (i := 2) sc_checked_steps.nd rfl (Or.inl rfl)) (pgs_cons (pg_name (i := 3) sc_checked_steps.nd rfl (Or.inl rfl)) pgs_nil)))
      (pss_cons (ps_if (PW.pt (pw_or (pt_not (pt_val (C8.pe_c (ok_is_step T) hr (by decide) (by rfl) (pa_cons (pv 3) pa_nil)))) (pw_or1 (pt_cmpR (op_inL (u65 hr)) (pv 3) (pv 1) (by rfl))))) (pss_one ps_never) pss_nil)
    (pss_cons (ps_if (pt_cmpR op_eq (C8.pe_c (ok_leaving T) hr (by decide) (by rfl) (pa_cons (pv 1) (pa_cons (pe_ix ix_tup (pv 3) pe_int (fun _ _ => rfl)) pa_nil))) (pe_gi (by rfl) T.i_MOST_LEAVING) (nomark _)) (pss_one ps_never) pss_nil)
    (pss_one (ps_expr (pe_bm PySem.F.plainAttrs_list PySem.F.slot_list_append PySem.F.type_list_append mt_append (pv 1) (pa_cons (pv 3) pa_nil)))))))
    (pss_one (ps_ret (pe_callTy call_tuple_of (by rfl) T.f_tuple b_tuple (pa_cons (pv 1) pa_nil))))))), ?_⟩
  obtain ⟨a, us, ss, rfl, ha, rk, ok, q⟩ := h
  nested_keys
  refine ⟨a, us, rfl, ha, fun H1 s1 => ?_⟩
  have ha1 := ha.same s1
  nested_keys
  refine ⟨a, us, rfl, ha1.sq, ?_⟩
  nested_keys
  have e1 : (1 : Int) ≤ ((us.length : Nat) : Int) := by rw [rk.len]; have := ok.some_; omega
  have e2 : ((us.length : Nat) : Int) ≤ 24 := by rw [rk.len]; have := ok.few; omega
  refine iteP e1 ?_
  nested_keys
  rw [decide_eq_true e2]
  nested_keys
  refine ⟨Nat.zero_le _, fun p hp => ?_⟩
  have s2 : Same H (upd H1 p (.lst [])) := s1.put (s1.none hp)
  have pa : H p = none := s1.none hp
  have lt24 : us.length < sizeLine := line24 (m := 5) (by rw [rk.len]; exact ok.few)
  refine ⟨fun σ' H' => Same H H' ∧ H' p = some (.lst us) ∧ ∃ u1 u2, σ' = [some (V.ref a), some (.ref p), u1, u2], ?_, ?_⟩
  · rcases ha with hx | hx
    · refine .inl ?_
      nested_keys
      refine ⟨a, us, rfl, SqL.of (s2 _ _ hx), for_it (walk_en us) (fun n σ' H' => Same H H' ∧ H' p = some (.lst (us.take n)) ∧ ∃ u1 u2, σ' = [some (V.ref a), some (.ref p), u1, u2]) ?_ ?_ ?_ ?_⟩
      · exact ⟨s2, upd_same, _, _, rfl⟩
      · exact fun n σ2 H2 _ k => by first | exact SqL.of (k.1 _ _ hx) | exact SqT.of (k.1 _ _ hx)
      · rintro n x σ2 H2 H3 hi ⟨sm, hk, u1, u2, rfl⟩ ⟨t, x2, rfl, ht, rfl, hx2⟩
        obtain ⟨st, h1, h2⟩ := rk.mapV hx2
        obtain ⟨b, rfl, hb⟩ := (sm.rk h2).step
        have sm3 : Same H (upd H2 t (.tup [.int (n : Nat), .ref b])) := sm.put (sm.none ht)
        have hk3 : upd H2 t (.tup [.int (n : Nat), .ref b]) p = some (.lst (us.take n)) := by rw [upd_ne (ne_of_none hk ht)]; exact hk
        have hb3 : upd H2 t (.tup [.int (n : Nat), .ref b]) b = some (.tup [.int st.1, .str st.2.1, .int st.2.2]) := by rw [upd_ne (ne_of_none hb ht)]; exact hb
        have so := ok.fine st (List.mem_of_getElem? h1)
        have rk3 : Rks (upd H2 t (.tup [.int (n : Nat), .ref b])) ((ss.take n).map dStep) (us.take n) := by
          rw [List.map_take]
          exact (sm3.rks rk).take n
        refine ⟨t, _, rfl, SqT.of upd_same, rfl, _, _, rfl, _, _, rfl, rfl, ?_⟩
        nested_keys
        refine ⟨_, st, rfl, Rk.ofStep hb3, so, ?_⟩
        nested_keys
        refine ⟨_, _, p, _, Rk.ofStep hb3, rfl, SqL.of hk3, rk3, fine_step so, ?_, ?_⟩
        · intro j hj
          obtain ⟨x, hx, rfl⟩ := List.mem_map.mp hj
          exact fine_step (ok.fine x (List.mem_of_mem_take hx))
        have no : dStep st ∉ (ss.take n).map dStep := fun hm => by
          obtain ⟨x, hx, e⟩ := List.mem_map.mp hm
          rw [dStep_inj e] at hx
          exact nodup_take ok.nd h1 hx
        rw [decide_eq_false no]
        nested_keys
        refine ⟨b, _, _, _, rfl, rfl, SqT.of hb3, rfl, ?_⟩
        have few : leaves (ss.take n) st.1 ≠ 4 := fun e => by
          have h4 := ok.four st.1
          have sub : leaves (ss.take (n + 1)) st.1 ≤ leaves ss st.1 := (List.Sublist.filter _ (List.take_sublist _ _)).length_le
          have e2 : leaves (ss.take (n + 1)) st.1 = leaves (ss.take n) st.1 + 1 := by
            rw [take_snoc h1, leaves, List.filter_append]
            simp [leaves]
          omega
        refine ⟨p, ss.take n, _, rfl, ⟨_, hk3, rk3⟩, by rw [List.length_take]; have := ok.few; omega, fun H4 s4 => ?_⟩
        nested_keys
        rw [decide_eq_false (fun z => few (by injection z with z; omega))]
        nested_keys
        refine ⟨.inl ⟨rfl, _, SqL.of (s4 _ _ hk3)⟩, ?_⟩
        nested_keys
        refine ⟨p, _, _, rfl, rfl, s4 _ _ hk3, Nat.lt_of_le_of_lt (List.length_take_le' _ _) lt24, ?_⟩
        refine ⟨fun b o e => ?_, ?_, _, _, rfl⟩
        · rw [upd_ne (ne_of_none e pa)]
          exact s4 _ _ (sm3 _ _ e)
        · rw [take_snoc hx2]
          exact upd_same
      · rintro σ2 H2 ⟨sm, hk, k⟩
        exact ⟨sm, by rw [List.take_length] at hk; exact hk, k⟩
    · refine .inr ?_
      nested_keys
      refine ⟨a, us, rfl, SqT.of (s2 _ _ hx), for_it (walk_enT us) (fun n σ' H' => Same H H' ∧ H' p = some (.lst (us.take n)) ∧ ∃ u1 u2, σ' = [some (V.ref a), some (.ref p), u1, u2]) ?_ ?_ ?_ ?_⟩
      · exact ⟨s2, upd_same, _, _, rfl⟩
      · exact fun n σ2 H2 _ k => by first | exact SqL.of (k.1 _ _ hx) | exact SqT.of (k.1 _ _ hx)
      · rintro n x σ2 H2 H3 hi ⟨sm, hk, u1, u2, rfl⟩ ⟨t, x2, rfl, ht, rfl, hx2⟩
        obtain ⟨st, h1, h2⟩ := rk.mapV hx2
        obtain ⟨b, rfl, hb⟩ := (sm.rk h2).step
        have sm3 : Same H (upd H2 t (.tup [.int (n : Nat), .ref b])) := sm.put (sm.none ht)
        have hk3 : upd H2 t (.tup [.int (n : Nat), .ref b]) p = some (.lst (us.take n)) := by rw [upd_ne (ne_of_none hk ht)]; exact hk
        have hb3 : upd H2 t (.tup [.int (n : Nat), .ref b]) b = some (.tup [.int st.1, .str st.2.1, .int st.2.2]) := by rw [upd_ne (ne_of_none hb ht)]; exact hb
        have so := ok.fine st (List.mem_of_getElem? h1)
        have rk3 : Rks (upd H2 t (.tup [.int (n : Nat), .ref b])) ((ss.take n).map dStep) (us.take n) := by
          rw [List.map_take]
          exact (sm3.rks rk).take n
        refine ⟨t, _, rfl, SqT.of upd_same, rfl, _, _, rfl, _, _, rfl, rfl, ?_⟩
        nested_keys
        refine ⟨_, st, rfl, Rk.ofStep hb3, so, ?_⟩
        nested_keys
        refine ⟨_, _, p, _, Rk.ofStep hb3, rfl, SqL.of hk3, rk3, fine_step so, ?_, ?_⟩
        · intro j hj
          obtain ⟨x, hx, rfl⟩ := List.mem_map.mp hj
          exact fine_step (ok.fine x (List.mem_of_mem_take hx))
        have no : dStep st ∉ (ss.take n).map dStep := fun hm => by
          obtain ⟨x, hx, e⟩ := List.mem_map.mp hm
          rw [dStep_inj e] at hx
          exact nodup_take ok.nd h1 hx
        rw [decide_eq_false no]
        nested_keys
        refine ⟨b, _, _, _, rfl, rfl, SqT.of hb3, rfl, ?_⟩
        have few : leaves (ss.take n) st.1 ≠ 4 := fun e => by
          have h4 := ok.four st.1
          have sub : leaves (ss.take (n + 1)) st.1 ≤ leaves ss st.1 := (List.Sublist.filter _ (List.take_sublist _ _)).length_le
          have e2 : leaves (ss.take (n + 1)) st.1 = leaves (ss.take n) st.1 + 1 := by
            rw [take_snoc h1, leaves, List.filter_append]
            simp [leaves]
          omega
        refine ⟨p, ss.take n, _, rfl, ⟨_, hk3, rk3⟩, by rw [List.length_take]; have := ok.few; omega, fun H4 s4 => ?_⟩
        nested_keys
        rw [decide_eq_false (fun z => few (by injection z with z; omega))]
        nested_keys
        refine ⟨.inl ⟨rfl, _, SqL.of (s4 _ _ hk3)⟩, ?_⟩
        nested_keys
        refine ⟨p, _, _, rfl, rfl, s4 _ _ hk3, Nat.lt_of_le_of_lt (List.length_take_le' _ _) lt24, ?_⟩
        refine ⟨fun b o e => ?_, ?_, _, _, rfl⟩
        · rw [upd_ne (ne_of_none e pa)]
          exact s4 _ _ (sm3 _ _ e)
        · rw [take_snoc hx2]
          exact upd_same
      · rintro σ2 H2 ⟨sm, hk, k⟩
        exact ⟨sm, by rw [List.take_length] at hk; exact hk, k⟩
  · rintro σ' H' ⟨sm, hk, u1, u2, rfl⟩
    nested_keys
    refine ⟨p, us, rfl, .inl ⟨SqL.of hk, fun l hl => ?_⟩⟩
    refine q _ _ (sm.put (sm.none hl)) ?_
    exact .tup upd_same ((sm.put (sm.none hl)).rks rk)

/-! ### reached_states -/
def sp_reached_states : Sp := fun vs H Q _ => ∃ (start : Int) (b : Addr) (ss : List Stp) (pool : List Int), vs = [.int start, .ref b] ∧ Rk H (.tup (ss.map dStep)) (.ref b) ∧ pool.length ≤ 3 ∧ start ∈ pool ∧ (∀ s : Stp, s ∈ ss → s.2.2 ∈ pool) ∧
  ∀ (c : Addr) (F : List Int) (H' : Hp), Same H H' → H' c = some (.tup (F.map .int)) → start ∈ F → (∀ s ∈ ss, s.1 ∈ F → s.2.2 ∈ F) → F.length ≤ 3 → (∀ x ∈ F, x ∈ pool) → Q (.ref c) H'
theorem ok_reached_states (T : Tx K mg) : C8.Cal P w K mg base 1 "reached_states" sp_reached_states [] := cal_reached_states T (fun vs H Q E ⟨_, _, _, _, h, _⟩ => by rw [h]; rfl) fun cdv A outer s H vs Q E hr h => by
  refine ⟨_, (pss_cons (ps_set (i := 2) sc_reached_states.nd rfl (Or.inl rfl) (pe_lst (pa_cons (pv 0) pa_nil)))
    (pss_cons (ps_set (i := 3) sc_reached_states.nd rfl (Or.inl rfl) pe_int)
    (C8.pss_cut (ps_while PassesOwn.never (pt_cmpR op_lt (pv 3) (pe_callB call_len_seq (by rfl) T.f_len b_len (pa_cons (pv 2) pa_nil)) (nomark _))
      (C8.pss_cut (ps_for PassesOwn.never rfl (pi_tup (pv 1)) (pg_name (i := 4) sc_reached_states.nd rfl (Or.inl rfl))
      (pss_one (ps_if (PW.pt (pw_and (pt_cmpR op_eq (pe_ix ix_tup (pv 4) pe_int (fun _ _ => rfl)) (pe_ix ix_list (pv 2) (pv 3) (fun _ _ => rfl)) (nomark _)) (pw_and1 (pt_cmpR op_notIn_seq (pe_ix ix_tup (pv 4) pe_int (fun _ _ => rfl)) (pv 2) (by rfl))))) (pss_one (ps_expr (pe_bm PySem.F.plainAttrs_list PySem.F.slot_list_append PySem.F.type_list_append mt_append (pv 2) (pa_cons (pe_ix ix_tup (pv 4) pe_int (fun _ _ => rfl)) pa_nil)))) pss_nil)))
    (pss_one (ps_aug (i := 3) sc_reached_states.nd rfl (Or.inl rfl) pe_int ip_add))))
    (pss_one (ps_ret (pe_callTy call_tuple_of (by rfl) T.f_tuple b_tuple (pa_cons (pe_callB cr_sorted (by rfl) T.f_sorted b_sorted (pa_cons (pv 2) pa_nil)) pa_nil))))))), ?_⟩
  obtain ⟨start, b, ss, pool, rfl, hb, pl, sp, ep, q⟩ := h
  obtain ⟨b', us, e, hb, rk⟩ := hb.tup_eq
  cases e
  nested_keys
  refine ⟨by show 1 ≤ sizeLine; decide, fun p hp => ?_⟩
  nested_keys
  refine ⟨fun σ' H' => ∃ F : List Int, Same H H' ∧ H' p = some (.lst (F.map .int)) ∧ start ∈ F ∧ (∀ s ∈ ss, s.1 ∈ F → s.2.2 ∈ F) ∧ F.Nodup ∧ (∀ x ∈ F, x ∈ pool) ∧ ∃ u1 u2, σ' = [some (V.int start), some (V.ref b), some (V.ref p), u1, u2], ?_, ?_⟩
  · refine ⟨fun m σ' H' => ∃ (F : List Int) (at_ : Nat), m + at_ = 4 ∧ Same H H' ∧ H' p = some (.lst (F.map .int)) ∧ start ∈ F ∧ (∀ s ∈ ss, s.1 ∈ F.take at_ → s.2.2 ∈ F) ∧ F.Nodup ∧ (∀ x ∈ F, x ∈ pool) ∧ at_ ≤ F.length ∧ ∃ u2, σ' = [some (V.int start), some (V.ref b), some (V.ref p), some (.int (at_ : Nat)), u2], ⟨4, [start], 0, rfl, Same.new hp, upd_same, by simp, by simp, by simp, by simpa using sp, Nat.zero_le _, none, rfl⟩, ?_⟩
    rintro m σ' H1 ⟨F, n, e4, sm, hk, sF, cl, nd, sub, le, u2, rfl⟩
    have F3 : F.length ≤ 3 := Nat.le_trans (nodup_le _ _ nd sub) pl
    nested_keys
    refine ⟨p, _, rfl, .inl (SqL.of hk), ?_⟩
    nested_keys
    refine iteD (fun c => ?_) fun c => ?_
    · have c' : n < F.length := by simpa using c
      obtain ⟨y, hy⟩ : ∃ y, F[n]? = some y := ⟨_, List.getElem?_eq_getElem c'⟩
      refine ⟨fun σ' H' => ∃ m', m' < m ∧ _, fun _ _ k => k, ?_⟩
      refine ⟨fun σ' H' => ∃ F' : List Int, Same H H' ∧ H' p = some (.lst ((F ++ F').map .int)) ∧ (∀ s ∈ ss, s.1 = y → s.2.2 ∈ F ++ F') ∧ (F ++ F').Nodup ∧ (∀ x ∈ F ++ F', x ∈ pool) ∧ ∃ u2, σ' = [some (V.int start), some (V.ref b), some (V.ref p), some (.int (n : Nat)), u2], ?_, ?_⟩
      · nested_keys
        refine ⟨⟨_, SqT.of (sm _ _ hb)⟩, for_it (walk_tu us) (fun k σ' H' => ∃ F' : List Int, Same H H' ∧ H' p = some (.lst ((F ++ F').map .int)) ∧ (∀ s ∈ ss.take k, s.1 = y → s.2.2 ∈ F ++ F') ∧ (F ++ F').Nodup ∧ (∀ x ∈ F ++ F', x ∈ pool) ∧ ∃ u2, σ' = [some (V.int start), some (V.ref b), some (V.ref p), some (.int (n : Nat)), u2]) ?_ ?_ ?_ ?_⟩
        · exact ⟨[], sm, by simpa using hk, by simp, by simpa using nd, by simpa using sub, _, rfl⟩
        · rintro k σ2 H2 _ ⟨F', sm2, _⟩
          exact SqT.of (sm2 _ _ hb)
        · rintro k x σ2 H2 H3 hi ⟨F', sm2, hk2, cl2, nd2, sub2, u3, rfl⟩ ⟨rfl, hx⟩
          obtain ⟨st, h1, h2⟩ := rk.mapV hx
          obtain ⟨bb, rfl, hbb⟩ := (sm2.rk h2).step
          have hm := List.mem_of_getElem? h1
          have ly : (F ++ F')[n]? = some y := by rw [List.getElem?_append_left c']; exact hy
          have step : ∀ G : List Int, (∀ x ∈ F ++ F', x ∈ G) → (st.1 = y → st.2.2 ∈ G) → ∀ s ∈ ss.take (k + 1), s.1 = y → s.2.2 ∈ G := fun G h1' h2' s hs e => by
            rw [take_snoc h1, List.mem_append, List.mem_singleton] at hs
            rcases hs with hs | rfl
            · exact h1' _ (cl2 s hs e)
            · exact h2' e
          nested_keys
          refine ⟨bb, _, _, _, rfl, rfl, SqT.of hbb, rfl, ?_⟩
          nested_keys
          refine ⟨p, _, _, _, rfl, rfl, SqL.of hk2, atI_nat (by rw [List.getElem?_map, ly]; rfl), ?_⟩
          nested_keys
          refine iteD (fun d => ?_) fun d => ?_
          · have d' : st.1 = y := by injection d
            nested_keys
            refine ⟨bb, _, _, _, rfl, rfl, SqT.of hbb, rfl, ?_⟩
            nested_keys
            refine ⟨p, _, rfl, .inl (SqL.of hk2), rfl, flat_ints _, ?_⟩
            rw [inV_num]
            by_cases e : st.2.2 ∈ F ++ F'
            · rw [decide_eq_true e]
              nested_keys
              exact ⟨F', sm2, hk2, step _ (fun _ h => h) fun _ => e, nd2, sub2, _, rfl⟩
            · rw [decide_eq_false e]
              nested_keys
              have l3 : (F ++ F').length ≤ 3 := Nat.le_trans (nodup_le _ _ nd2 sub2) pl
              refine ⟨.inl ⟨rfl, _, SqL.of hk2⟩, ?_⟩
              nested_keys
              refine ⟨bb, _, _, _, rfl, rfl, SqT.of hbb, rfl, ?_⟩
              nested_keys
              refine ⟨p, _, _, rfl, rfl, hk2, by rw [List.length_map]; exact line24 l3, ?_⟩
              refine ⟨F' ++ [st.2.2], sm2.put hp, ?_, ?_, ?_, ?_, _, rfl⟩
              · rw [upd_same]
                simp
              · rw [← List.append_assoc]
                exact step _ (fun _ h => List.mem_append_left _ h) fun _ => by simp
              · rw [← List.append_assoc, List.nodup_append]
                exact ⟨nd2, by simp, fun a ha b hb e' => by
                  rw [List.mem_singleton] at hb
                  rw [hb] at e'
                  exact e (e' ▸ ha)⟩
              · rw [← List.append_assoc]
                intro x hx
                rw [List.mem_append, List.mem_singleton] at hx
                rcases hx with hx | rfl
                · exact sub2 x hx
                · exact ep st hm
          · have d' : ¬ st.1 = y := fun z => d (by rw [z])
            nested_keys
            exact ⟨F', sm2, hk2, step _ (fun _ h => h) fun z => absurd z d', nd2, sub2, _, rfl⟩
        · rintro σ2 H2 ⟨F', sm2, hk2, cl2, r⟩
          exact ⟨F', sm2, hk2, by rw [rk.len, List.take_length] at cl2; exact cl2, r⟩
      · rintro σ2 H2 ⟨F', sm2, hk2, cl2, nd2, sub2, u3, rfl⟩
        nested_keys
        refine ⟨m - 1, by omega, F ++ F', n + 1, by omega, sm2, hk2, List.mem_append_left _ sF, ?_, nd2, sub2, by rw [List.length_append]; omega, u3, rfl⟩
        intro s hs hm
        rw [List.take_append_of_le_length (by omega), take_snoc hy, List.mem_append, List.mem_singleton] at hm
        rcases hm with hm | hm
        · exact List.mem_append_left _ (cl s hs hm)
        · exact cl2 s hs hm
    · have c' : F.length ≤ n := by simpa using c
      have e : F.take n = F := List.take_of_length_le c'
      exact ⟨F, sm, hk, sF, by rw [e] at cl; exact cl, nd, sub, _, _, rfl⟩
  · rintro σ2 H2 ⟨F, sm, hk, sF, cl, nd, sub, u1, u2, rfl⟩
    have F3 : F.length ≤ 3 := Nat.le_trans (nodup_le _ _ nd sub) pl
    nested_keys
    refine ⟨p, F, rfl, SqL.of hk, by omega, fun ns' p' pm ri np => ?_⟩
    nested_keys
    refine ⟨p', _, rfl, .inl ⟨SqL.of upd_same, fun l hl => ?_⟩⟩
    have sm' : Same H (upd H2 p' (.lst (ns'.map V.int))) := sm.put (sm.none np)
    exact q l ns' _ (sm'.put (sm'.none hl)) upd_same (pm.mem_iff.mpr sF) (fun s hs h => pm.mem_iff.mpr (cl s hs (pm.mem_iff.mp h))) (by rw [pm.length_eq]; exact F3) fun x hx => sub x (pm.mem_iff.mp hx)
end NS
/-! G4: the walks of Hand and System being made. -/
namespace NS
open PySem PySem.Spec PyProof.Rows L2
local macro_rules | `(tactic| nested_keys) => `(tactic| repeat (first | refine ⟨_, rfl, ?_⟩ | refine ⟨_, _, rfl, rfl, ?_⟩ | refine ⟨rfl, ?_⟩ | with_reducible refine iteT ?_ | with_reducible refine iteF ?_))
variable {P : Program} {w : World} {K : PySem.W.Frag} {mg : Str → Option Value} {base : Heap}
structure HandG (h : HandM) : Prop where
  ok : HandOk h
  st : StepsOk h.steps
  pool : ∃ pool : List Int, pool.length ≤ 3 ∧ (∀ s ∈ h.steps, s.2.2 ∈ pool) ∧ (∀ s ∈ h.states, s ∈ pool) ∧ ∀ s ∈ pool, StateOk s
/-! ### Hand(start, steps) -/
def sp_Hand_init (K : PySem.W.Frag) : Sp := fun vs H Q _ => ∃ (x : Addr) (dx : Addr) (start : Int) (a : Addr) (us : List V) (ss : List Stp) (pool : List Int), vs = [.ref x, .int start, .ref a] ∧ H x = some (.ins (He.ga K "Hand") dx []) ∧ LT H a us ∧ Rks H (ss.map dStep) us ∧ StepsOk ss ∧
  pool.length ≤ 3 ∧ start ∈ pool ∧ (∀ s : Stp, s ∈ ss → s.2.2 ∈ pool) ∧ (∀ s ∈ pool, StateOk s) ∧
  ∀ (h : HandM) (H' : Hp), HandG h → h.start = start → h.steps = ss → Same1 x H H' → HandAt K H' x h → Q .non H'
theorem ok_Hand_init (T : Tx K mg) : C8.Mak P w K mg base 5 "Hand" (He.ga K "Hand") (sp_Hand_init K) [] := mak_Hand T (fun vs H Q E ⟨_, _, _, _, _, _, _, h, _⟩ => by rw [h]; rfl) fun cdv A outer s H vs Q E hr h => by
  refine ⟨_, (pss_cons (ps_if (pt_not (pt_val (C8.pe_c (ok_is_state T) hr (by decide) (by rfl) (pa_cons (pv 1) pa_nil)))) (pss_one ps_never) pss_nil)
    (pss_cons (ps_set (i := 3) sc_Hand_init.nd rfl (Or.inl rfl) (C8.pe_c (ok_checked_steps T) hr (by decide) (by rfl) (pa_cons (pv 2) pa_nil)))
    (pss_cons (ps_set (i := 4) sc_Hand_init.nd rfl (Or.inl rfl) (pe_callTy call_tuple_of (by rfl) T.f_tuple b_tuple (pa_cons (pe_callB (cr_sortS rfl) (by rfl) T.f_sorted b_sorted (pa_cons (pe_scS (own := [("step", 6)]) (g := gName 6) (tt := tYes) (by rfl) sc_Hand_init.nd (pi_tup (pv 3)) (blkOk_by (own := [("step", 6)]) (N := n_Hand_init) (sc := defScope s_Hand_init) (by decide +kernel)) (fun _ _ _ => pg_name (i := 6) sc_Hand_init.nd rfl (Or.inl rfl)) (fun _ _ _ => pts_nil) (fun _ _ _ => (pe_ix (ix_tupB (K := K) rfl) (pv 6) pe_int (fun _ _ => rfl)))) pa_nil)) pa_nil)))
    (pss_cons (ps_if (pt_cmpR op_gt (pe_callB call_len_seq (by rfl) T.f_len b_len (pa_cons (pv 4) pa_nil)) (pe_gi (by rfl) T.i_MOST_WORDS_hands) (nomark _)) (pss_one ps_never) pss_nil)
    (pss_cons (ps_set (i := 5) sc_Hand_init.nd rfl (Or.inl rfl) (C8.pe_c (ok_reached_states T) hr (by decide) (by rfl) (pa_cons (pv 1) (pa_cons (pv 3) pa_nil))))
    (pss_cons (ps_if (pt_cmpR op_gt (pe_callB call_len_seq (by rfl) T.f_len b_len (pa_cons (pv 5) pa_nil)) (pe_gi (by rfl) T.i_MOST_STATES) (nomark _)) (pss_one ps_never) pss_nil)
    (pss_cons (ps_fld (pv 0) (pv 1) rfl)
    (pss_cons (ps_fld (pv 0) (pv 3) rfl)
    (pss_cons (ps_fld (pv 0) (pv 4) rfl)
    (pss_one (ps_fld (pv 0) (pv 5) rfl))))))))))), ?_⟩
  obtain ⟨x, dx, start, a, us, ss, pool, rfl, hx, ha, rk, ok, pl, sp, ep, po, q⟩ := h
  nested_keys
  refine ⟨po start sp, ?_⟩
  nested_keys
  refine ⟨a, us, ss, rfl, ha, rk, ok, fun v H1 s1 rv => ?_⟩
  obtain ⟨b, us1, rfl, hb, rk1⟩ := rv.tup_eq
  nested_keys
  refine ⟨⟨_, SqT.of hb⟩, fun D hD => ?_⟩
  have fresh : ∀ {H2 : Hp}, Same H1 H2 → Same H H2 := fun k b o e => k _ _ (s1 _ _ e)
  refine gc_it (walk_tu us1) (fun n H2 => Same H1 H2 ∧ H2 D = some (gNO (strKind P w) D ((ss.take n).map (·.2.1)))) ⟨Same.new hD, upd_same⟩ (fun _ _ _ k => SqT.of (k.1 _ _ hb)) ?_ ?_
  · rintro n v H2 H3 hi ⟨sm, hd⟩ ⟨rfl, hv⟩
    obtain ⟨st, h1, h2⟩ := rk1.mapV hv
    obtain ⟨bb, rfl, hbb⟩ := (sm.rk h2).step
    nested_keys
    refine ⟨bb, _, _, _, rfl, rfl, SqT.of hbb, rfl, ?_⟩
    refine ⟨_, st.2.1, rfl, hd, ?_, ?_⟩
    · rw [List.length_map, List.length_take]
      have := ok.few
      exact Nat.lt_of_le_of_lt (show _ ≤ 6 by omega) (by decide)
    · refine ⟨sm.put hD, ?_⟩
      rw [upd_same, take_snoc h1, List.map_append]
      rfl
  · rintro H2 ⟨sm, hd⟩
    rw [rk1.len, List.take_length] at hd
    refine ⟨D, _, ss.map (·.2.1), rfl, hd, fun _ => .rfl, by rw [List.length_map]; have := ok.few; omega, fun ys p so nd mem np => ?_⟩
    have pw : ys.Pairwise SLt := sorted_pw so nd
    have few : ys.length ≤ 5 := Nat.le_trans (nodup_le _ _ nd fun k hk => (mem k).mp hk) (by rw [List.length_map]; exact ok.few)
    nested_keys
    refine ⟨p, _, rfl, .inl ⟨SqL.of upd_same, fun l hl => ?_⟩⟩
    have sm4 : Same H1 (upd (upd H2 p (.lst (ys.map V.str))) l (.tup (ys.map V.str))) := (sm.put (sm.none np)).put ((sm.put (sm.none np)).none hl)
    generalize he4 : upd (upd H2 p (.lst (ys.map V.str))) l (.tup (ys.map V.str)) = H4 at sm4
    have hl4 : H4 l = some (.tup (ys.map V.str)) := by rw [← he4, upd_same]
    clear he4
    nested_keys
    refine ⟨l, _, rfl, .inr (SqT.of hl4), ?_⟩
    nested_keys
    rw [decide_eq_false (by rw [List.length_map]; omega)]
    nested_keys
    refine ⟨start, b, ss, pool, rfl, .tup (sm4 _ _ hb) (sm4.rks rk1), pl, sp, ep, fun c F H5 s5 hc sF cl F3 sub => ?_⟩
    nested_keys
    refine ⟨c, _, rfl, .inr (SqT.of hc), ?_⟩
    nested_keys
    rw [decide_eq_false (by rw [List.length_map]; omega)]
    nested_keys
    have hx5 : H5 x = some (.ins (He.ga K "Hand") dx []) := s5 _ _ (sm4 _ _ (s1 _ _ hx))
    refine ⟨x, _, dx, _, rfl, hx5, T.c_Hand, T.a_Hand_start, by decide, ?_⟩
    nested_keys
    refine ⟨x, _, dx, _, rfl, upd_same, T.c_Hand, T.a_Hand_steps, Nat.lt_of_le_of_lt (putF_few few0) (by decide), ?_⟩
    nested_keys
    refine ⟨x, _, dx, _, rfl, upd_same, T.c_Hand, T.a_Hand_words, Nat.lt_of_le_of_lt (putF_few (putF_few few0)) (by decide), ?_⟩
    nested_keys
    refine ⟨x, _, dx, _, rfl, upd_same, T.c_Hand, T.a_Hand_states, Nat.lt_of_le_of_lt (putF_few (putF_few (putF_few few0))) (by decide), ?_⟩
    have t1 : Same1 x H H5 := (Same.one (fresh sm4)).then s5
    have hb5 : H5 b = some (.tup us1) := s5 _ _ (sm4 _ _ hb)
    have hl5 : H5 l = some (.tup (ys.map V.str)) := s5 _ _ hl4
    have nx : ∀ {c : Addr} {xs : List V}, H5 c = some (.tup xs) → c ≠ x := fun e z => by rw [z, hx5] at e; cases e
    refine q ⟨start, ss, ys, F⟩ _ ⟨⟨ok.some_, ok.few, ok.fine, po _ sp, pw, fun w => ?_, sF, cl, fun s hs => po s (sub s hs), F3⟩, ok, pool, pl, ep, sub, po⟩ rfl rfl t1.own.own.own.own ?_
    · show w ∈ ys ↔ _
      rw [mem w, List.mem_map]
    · have ot : ∀ {c : Addr} {xs : List V} {o1 o2 o3 o4 : HO}, H5 c = some (.tup xs) → upd (upd (upd (upd H5 x o1) x o2) x o3) x o4 c = some (.tup xs) := fun e => by
        rw [upd_ne (nx e), upd_ne (nx e), upd_ne (nx e), upd_ne (nx e)]; exact e
      refine ⟨dx, b, l, c, by rw [upd_same]; rfl, .tup (ot hb5) ?_, ot hl5, ot hc⟩
      have r5 : Rks H5 (ss.map dStep) us1 := s5.rks (sm4.rks rk1)
      exact r5.at fun cc xs e => ot e
end NS
/-! G5: the walks of a System being made. -/
namespace NS
open PySem PySem.Spec PyProof.Rows L2
local macro_rules | `(tactic| nested_keys) => `(tactic| repeat (first | refine ⟨_, rfl, ?_⟩ | refine ⟨_, _, rfl, rfl, ?_⟩ | refine ⟨rfl, ?_⟩ | with_reducible refine iteT ?_ | with_reducible refine iteF ?_))
variable {P : Program} {w : World} {K : PySem.W.Frag} {mg : Str → Option Value} {base : Heap}
theorem pairedAt {α β : Type} {R : α → β → Prop} : ∀ {l : List α} {k : List β}, Paired R l k → ∀ (i : Nat) a, l[i]? = some a → ∃ b, k[i]? = some b ∧ R a b
  | _, _, .nil, i, a, h => by simp at h
  | _, _, .cons r rr, 0, a, h => by
    simp only [List.getElem?_cons_zero, Option.some.injEq] at h
    subst h
    exact ⟨_, rfl, r⟩
  | _, _, .cons r rr, i + 1, a, h => by
    simp only [List.getElem?_cons_succ] at h ⊢
    exact pairedAt rr i a h
theorem pairedLen {α β : Type} {R : α → β → Prop} : ∀ {l : List α} {k : List β}, Paired R l k → l.length = k.length
  | _, _, .nil => rfl
  | _, _, .cons _ rr => by simp [pairedLen rr]
/-! ### checked_hands -/
def sp_checked_hands (K : PySem.W.Frag) : Sp := fun vs H Q _ => ∃ (a : Addr) (ps : List Addr) (hs : List HandM), vs = [.ref a] ∧ H a = some (.lst (ps.map .ref)) ∧ HandsAt K H ps hs ∧ 1 ≤ hs.length ∧ hs.length ≤ 3 ∧
  ∀ (c : Addr) (H' : Hp), Same H H' → H' c = some (.tup (ps.map .ref)) → Q (.ref c) H'
theorem ok_checked_hands (T : Tx K mg) : C8.Cal P w K mg base 2 "checked_hands" (sp_checked_hands K) [] := cal_checked_hands T (fun vs H Q E ⟨_, _, _, h, _⟩ => by rw [h]; rfl) fun cdv A outer s H vs Q E hr h => by
  refine ⟨_, (pss_cons (ps_if (PW.pt (pw_or (pt_not (pt_val (C8.pe_c (ok_is_row T) hr (by decide) (by rfl) (pa_cons (pv 0) pa_nil)))) (pw_or1 (pt_not (pt_chain op_le op_le pe_int (pe_callB call_len_seq (by rfl) T.f_len b_len (pa_cons (pv 0) pa_nil)) (pe_gi (by rfl) T.i_MOST_HANDS)))))) (pss_one ps_never) pss_nil)
    (C8.pss_cut (ps_for PassesOwn.never rfl (pi_enum (by rfl) T.f_enumerate (pa_cons (pv 0) pa_nil)) (pg_tup rfl (pgs_cons (pg_name (i := 1) sc_checked_hands.nd rfl (Or.inl rfl)) (pgs_cons (pg_name (i := 2) sc_checked_hands.nd rfl (Or.inl rfl)) pgs_nil)))
      (pss_one (ps_if (pt_not (pt_val (pe_callB (C8.call_isC T.isHand) (by rfl) T.f_isinstance b_isinstance (pa_cons (pv 2) (pa_cons (C8.pe_gc (v := .ref (He.ga K "Hand")) (by rfl) ⟨_, T.g_Hand, rfl⟩) pa_nil))))) (pss_one ps_never) pss_nil)))
    (pss_one (ps_ret (pe_callTy call_tuple_of (by rfl) T.f_tuple b_tuple (pa_cons (pv 0) pa_nil)))))), ?_⟩
  obtain ⟨a, ps, hs, rfl, ha, hh, l1, l3, q⟩ := h
  have lp := pairedLen hh
  nested_keys
  refine ⟨a, _, rfl, .inl ha, fun H1 s1 => ?_⟩
  nested_keys
  refine ⟨a, _, rfl, .inl (SqL.of (s1 _ _ ha)), ?_⟩
  nested_keys
  have e1 : (1 : Int) ≤ (((ps.map V.ref).length : Nat) : Int) := by rw [List.length_map]; omega
  have e2 : (((ps.map V.ref).length : Nat) : Int) ≤ 4 := by rw [List.length_map]; omega
  refine iteP e1 ?_
  nested_keys
  rw [decide_eq_true e2]
  nested_keys
  refine ⟨fun σ' H' => Same H H' ∧ ∃ u1 u2, σ' = [some (V.ref a), u1, u2], ?_, ?_⟩
  · refine ⟨V.ref a, rfl, a, _, rfl, SqL.of (s1 _ _ ha), for_it (walk_en (ps.map V.ref)) (fun n σ' H' => Same H H' ∧ ∃ u1 u2, σ' = [some (V.ref a), u1, u2]) ⟨s1, _, _, rfl⟩ (fun _ _ _ _ k => SqL.of (k.1 _ _ ha)) ?_ fun _ _ k => k⟩
    rintro n x σ2 H2 H3 hi ⟨sm, u1, u2, rfl⟩ ⟨t, x2, rfl, ht, rfl, hx2⟩
    rw [List.getElem?_map] at hx2
    obtain ⟨p, hp, rfl⟩ := Option.map_eq_some_iff.mp hx2
    obtain ⟨h, h1, dx, b, c, d, hp2, _⟩ := pairedAt hh n p hp
    have sm3 : Same H (upd H2 t (.tup [.int (n : Nat), .ref p])) := sm.put (sm.none ht)
    refine ⟨t, _, rfl, SqT.of upd_same, rfl, _, _, rfl, _, _, rfl, rfl, ?_⟩
    nested_keys
    refine ⟨p, dx, _, rfl, sm3 _ _ hp2, ?_⟩
    nested_keys
    exact ⟨sm3, _, _, rfl⟩
  · rintro σ2 H2 ⟨sm, u1, u2, rfl⟩
    nested_keys
    exact ⟨a, _, rfl, .inl ⟨SqL.of (sm _ _ ha), fun l hl => q l _ (sm.put (sm.none hl)) upd_same⟩⟩
/-! ### checked_diligent -/
def sp_checked_diligent : Sp := fun vs H Q _ => ∃ (a : Addr) (ds : List Int) (n : Nat), vs = [.ref a, .int (n : Nat)] ∧ LT H a (ds.map .int) ∧ ds.Nodup ∧ (∀ d ∈ ds, 0 ≤ d ∧ d < (n : Int)) ∧ ds.length ≤ 3 ∧
  ∀ (c : Addr) (es : List Int) (H' : Hp), Same H H' → es.Perm ds → es.Pairwise (· ≤ ·) → H' c = some (.tup (es.map .int)) → Q (.ref c) H'
theorem ok_checked_diligent (T : Tx K mg) : C8.Cal P w K mg base 2 "checked_diligent" sp_checked_diligent [] := cal_checked_diligent T (fun vs H Q E ⟨_, _, _, h, _⟩ => by rw [h]; rfl) fun cdv A outer s H vs Q E hr h => by
  refine ⟨_, (pss_cons (ps_if (pt_cmpR op_isN (pv 0) pe_non (nomark _)) (pss_one ps_never) pss_nil)
    (pss_cons (ps_if (pt_not (pt_val (C8.pe_c (ok_is_row T) hr (by decide) (by rfl) (pa_cons (pv 0) pa_nil)))) (pss_one ps_never) pss_nil)
    (pss_cons (ps_set (i := 2) sc_checked_diligent.nd rfl (Or.inl rfl) (pe_lst pa_nil))
    (C8.pss_cut (ps_for PassesOwn.never rfl (PI.or (pi_list (pv 0)) (pi_tup (pv 0))) (pg_name (i := 3) sc_checked_diligent.nd rfl (Or.inl rfl))
      (pss_cons (ps_if (PW.pt (pw_or (pt_not (pt_val (C8.pe_c (ok_is_integer T) hr (by decide) (by rfl) (pa_cons (pv 3) pa_nil)))) (pw_or (pt_not (pt_chain op_le op_lt pe_int (pv 3) (pv 1))) (pw_or1 (pt_cmpR op_in_seq (pv 3) (pv 2) (by rfl)))))) (pss_one ps_never) pss_nil)
    (pss_one (ps_expr (pe_bm PySem.F.plainAttrs_list PySem.F.slot_list_append PySem.F.type_list_append mt_append (pv 2) (pa_cons (pv 3) pa_nil))))))
    (pss_one (ps_ret (pe_callTy call_tuple_of (by rfl) T.f_tuple b_tuple (pa_cons (pe_callB cr_sorted (by rfl) T.f_sorted b_sorted (pa_cons (pv 2) pa_nil)) pa_nil)))))))), ?_⟩
  obtain ⟨a, ds, n, rfl, ha, nd, rg, few, q⟩ := h
  nested_keys
  refine ⟨a, _, rfl, ha, fun H1 s1 => ?_⟩
  nested_keys
  refine ⟨Nat.zero_le _, fun p hp => ?_⟩
  have s2 : Same H (upd H1 p (.lst [])) := s1.put (s1.none hp)
  have pa : H p = none := s1.none hp
  refine ⟨fun σ' H' => Same H H' ∧ H' p = some (.lst (ds.map .int)) ∧ ∃ u2, σ' = [some (V.ref a), some (.int (n : Nat)), some (.ref p), u2], ?_, ?_⟩
  · rcases ha with hx | hx
    · refine .inl ?_
      nested_keys
      refine ⟨⟨_, SqL.of (s2 _ _ hx)⟩, for_it (walk_li (ds.map V.int)) (fun i σ' H' => Same H H' ∧ H' p = some (.lst ((ds.take i).map .int)) ∧ ∃ u2, σ' = [some (V.ref a), some (.int (n : Nat)), some (.ref p), u2]) ?_ ?_ ?_ ?_⟩
      · exact ⟨s2, upd_same, _, rfl⟩
      · exact fun n σ2 H2 _ k => by first | exact SqL.of (k.1 _ _ hx) | exact SqT.of (k.1 _ _ hx)
      · rintro i x σ2 H2 H3 hi ⟨sm, hk, u2, rfl⟩ ⟨rfl, hx2⟩
        rw [List.getElem?_map] at hx2
        obtain ⟨d, hd, rfl⟩ := Option.map_eq_some_iff.mp hx2
        obtain ⟨r1, r2⟩ := rg d (List.mem_of_getElem? hd)
        nested_keys
        refine iteP r1 ?_
        nested_keys
        rw [decide_eq_true r2]
        nested_keys
        refine ⟨p, _, rfl, .inl (SqL.of hk), rfl, flat_ints _, ?_⟩
        rw [inV_num, decide_eq_false (nodup_take nd hd)]
        nested_keys
        refine ⟨.inl ⟨rfl, _, SqL.of hk⟩, ?_⟩
        nested_keys
        refine ⟨p, _, _, rfl, rfl, hk, by rw [List.length_map]; exact line24 (m := 3) (Nat.le_trans (List.length_take_le' _ _) few), ?_⟩
        refine ⟨sm.put pa, ?_, _, rfl⟩
        rw [upd_same, take_snoc hd, List.map_append]
        rfl
      · rintro σ2 H2 ⟨sm, hk, k⟩
        exact ⟨sm, by rw [List.length_map, List.take_length] at hk; exact hk, k⟩
    · refine .inr ?_
      nested_keys
      refine ⟨⟨_, SqT.of (s2 _ _ hx)⟩, for_it (walk_tu (ds.map V.int)) (fun i σ' H' => Same H H' ∧ H' p = some (.lst ((ds.take i).map .int)) ∧ ∃ u2, σ' = [some (V.ref a), some (.int (n : Nat)), some (.ref p), u2]) ?_ ?_ ?_ ?_⟩
      · exact ⟨s2, upd_same, _, rfl⟩
      · exact fun n σ2 H2 _ k => by first | exact SqL.of (k.1 _ _ hx) | exact SqT.of (k.1 _ _ hx)
      · rintro i x σ2 H2 H3 hi ⟨sm, hk, u2, rfl⟩ ⟨rfl, hx2⟩
        rw [List.getElem?_map] at hx2
        obtain ⟨d, hd, rfl⟩ := Option.map_eq_some_iff.mp hx2
        obtain ⟨r1, r2⟩ := rg d (List.mem_of_getElem? hd)
        nested_keys
        refine iteP r1 ?_
        nested_keys
        rw [decide_eq_true r2]
        nested_keys
        refine ⟨p, _, rfl, .inl (SqL.of hk), rfl, flat_ints _, ?_⟩
        rw [inV_num, decide_eq_false (nodup_take nd hd)]
        nested_keys
        refine ⟨.inl ⟨rfl, _, SqL.of hk⟩, ?_⟩
        nested_keys
        refine ⟨p, _, _, rfl, rfl, hk, by rw [List.length_map]; exact line24 (m := 3) (Nat.le_trans (List.length_take_le' _ _) few), ?_⟩
        refine ⟨sm.put pa, ?_, _, rfl⟩
        rw [upd_same, take_snoc hd, List.map_append]
        rfl
      · rintro σ2 H2 ⟨sm, hk, k⟩
        exact ⟨sm, by rw [List.length_map, List.take_length] at hk; exact hk, k⟩
  · rintro σ2 H2 ⟨sm, hk, u2, rfl⟩
    nested_keys
    refine ⟨p, ds, rfl, SqL.of hk, by omega, fun es p' pm ri np => ?_⟩
    nested_keys
    refine ⟨p', _, rfl, .inl ⟨SqL.of upd_same, fun l hl => ?_⟩⟩
    have sm' : Same H (upd H2 p' (.lst (es.map V.int))) := sm.put (sm.none np)
    exact q l es _ (sm'.put (sm'.none hl)) pm ri upd_same
end NS
/-! G6: the walk of System(hands, diligent). -/
namespace NS
open PySem PySem.Spec PyProof.Rows L2
local macro_rules | `(tactic| nested_keys) => `(tactic| repeat (first | refine ⟨_, rfl, ?_⟩ | refine ⟨_, _, rfl, rfl, ?_⟩ | refine ⟨rfl, ?_⟩ | with_reducible refine iteT ?_ | with_reducible refine iteF ?_))
variable {P : Program} {w : World} {K : PySem.W.Frag} {mg : Str → Option Value} {base : Heap}
structure SysG (S : SysM) : Prop where
  ok : SysOk S
  hands : ∀ h ∈ S.hands, HandG h
  ds : S.dil.Pairwise (· ≤ ·)
  nd : S.dil.Nodup
def wordsOf (hs : List HandM) : List Str := hs.flatMap (·.words)
theorem length_wordsOf : ∀ {hs : List HandM}, (∀ h ∈ hs, HandOk h) → (wordsOf hs).length ≤ hs.length * 5
  | [], _ => Nat.zero_le _
  | h :: hs, H => by
    have o := H h (by simp)
    have l : h.words.length ≤ 5 := Nat.le_trans (nodup_le h.words (h.steps.map (·.2.1)) (pw_nodup o.voc) fun w hw => by
      obtain ⟨s, h1, h2⟩ := (o.mem w).mp hw
      exact List.mem_map.mpr ⟨s, h1, h2⟩) (by rw [List.length_map]; exact o.few)
    have := length_wordsOf (hs := hs) fun x hx => H x (List.mem_cons_of_mem _ hx)
    simp only [wordsOf, List.flatMap_cons, List.length_append, List.length_cons] at this ⊢
    omega
def sp_System_init (K : PySem.W.Frag) : Sp := fun vs H Q _ => ∃ (x : Addr) (dx : Addr) (a : Addr) (ps : List Addr) (hs : List HandM) (b : Addr) (ds : List Int) (names : List Str), vs = [.ref x, .ref a, .ref b] ∧ H x = some (.ins (He.ga K "System") dx []) ∧ H a = some (.lst (ps.map .ref)) ∧ HandsAt K H ps hs ∧ (∀ h ∈ hs, HandG h) ∧ 1 ≤ hs.length ∧ hs.length ≤ 3 ∧
  LT H b (ds.map .int) ∧ ds.Nodup ∧ (∀ d ∈ ds, 0 ≤ d ∧ d < (hs.length : Int)) ∧ ds.length ≤ 3 ∧ names.length ≤ 4 ∧ (∀ h ∈ hs, ∀ w ∈ h.words, w ∈ names) ∧
  ∀ (S : SysM) (H' : Hp), SysG S → S.hands = hs → S.dil.Perm ds → Same1 x H H' → SysAt K H' x S → Q .non H'
theorem ok_System_init (T : Tx K mg) : C8.Mak P w K mg base 3 "System" (He.ga K "System") (sp_System_init K) [] := mak_System T (fun vs H Q E ⟨_, _, _, _, _, _, _, _, h, _⟩ => by rw [h]; rfl) fun cdv A outer s H vs Q E hr h => by
  refine ⟨_, (pss_cons (ps_set (i := 3) sc_System_init.nd rfl (Or.inl rfl) (C8.pe_c (ok_checked_hands T) hr (by decide) (by rfl) (pa_cons (pv 1) pa_nil)))
    (pss_cons (ps_set (i := 4) sc_System_init.nd rfl (Or.inl rfl) (C8.pe_c (ok_checked_diligent T) hr (by decide) (by rfl) (pa_cons (pv 2) (pa_cons (pe_callB call_len_seq (by rfl) T.f_len b_len (pa_cons (pv 3) pa_nil)) pa_nil))))
    (pss_cons (ps_set (i := 5) sc_System_init.nd rfl (Or.inl rfl) (pe_callB (cr_sortS rfl) (by rfl) T.f_sorted b_sorted (pa_cons (pe_scS2 (own := [("hand", 6), ("word", 7)]) (g := gName 6) (g1 := gName 7) (tt := tYes) (tt1 := tYes) (vs1 := [7]) (by rfl) sc_System_init.nd (pi_tup (pv 3)) (blkOk_by (own := [("hand", 6), ("word", 7)]) (N := n_System_init) (sc := defScope s_System_init) (by decide +kernel)) (by decide) (fun _ _ _ => pg_name (i := 6) sc_System_init.nd rfl (Or.inl rfl)) (fun _ _ _ => pts_nil) (fun _ _ _ => (pi_tupB (K := K) rfl (pe_fldB (K := K) rfl (pv 6) rfl))) (fun _ _ _ => pg_name (i := 7) sc_System_init.nd rfl (Or.inl rfl)) (fun _ _ _ => pts_nil) (fun _ _ _ => (pv 7))) pa_nil)))
    (pss_cons (ps_if (pt_cmpR op_gt (pe_callB call_len_seq (by rfl) T.f_len b_len (pa_cons (pv 5) pa_nil)) (pe_gi (by rfl) T.i_MOST_WORDS_systems) (nomark _)) (pss_one ps_never) pss_nil)
    (pss_cons (ps_fld (pv 0) (pv 3) rfl)
    (pss_cons (ps_fld (pv 0) (pv 4) rfl)
    (pss_cons (ps_fld (pv 0) (pe_callTy call_tuple_of (by rfl) T.f_tuple b_tuple (pa_cons (pv 5) pa_nil)) rfl)
    (pss_one (ps_fld (pv 0) (pe_callTy call_tuple_of (by rfl) T.f_tuple b_tuple (pa_cons (pe_lc (own := [("hand", 6)]) (g := gName 6) (tt := tYes) (by rfl) sc_System_init.nd (pi_tup (pv 3)) (blkOk_by (own := [("hand", 6)]) (N := n_System_init) (sc := defScope s_System_init) (by decide +kernel)) (fun _ _ _ _ _ => pg_name (i := 6) sc_System_init.nd rfl (Or.inl rfl)) (fun _ _ _ _ _ => pts_nil) (fun _ _ _ _ _ => (pe_fldB (K := K) rfl (pv 6) rfl))) pa_nil)) rfl))))))))), ?_⟩
  obtain ⟨x, dx, a, ps, hs, b, ds, names, rfl, hx, ha, hh, hg, l1, l3, hb, nd, rg, d3, n4, hn, q⟩ := h
  have lp := pairedLen hh
  nested_keys
  refine ⟨a, ps, hs, rfl, ha, hh, l1, l3, fun c H1 s1 hc => ?_⟩
  nested_keys
  refine ⟨c, _, rfl, .inr (SqT.of hc), ?_⟩
  refine ⟨b, ds, hs.length, by rw [List.length_map, lp]; rfl, hb.same s1, nd, rg, d3, fun d es H2 s2 pm ri hd => ?_⟩
  have sm2 : Same H H2 := fun b o e => s2 _ _ (s1 _ _ e)
  have hc2 := s2 _ _ hc
  nested_keys
  refine ⟨⟨_, SqT.of hc2⟩, fun D hD => ?_⟩
  refine gc_it (walk_tu (ps.map V.ref)) (fun n H3 => Same H2 H3 ∧ H3 D = some (gNO (strKind P w) D (wordsOf (hs.take n)))) ⟨Same.new hD, upd_same⟩ (fun _ _ _ k => SqT.of (k.1 _ _ hc2)) ?_ ?_
  · rintro n v H3 H3' hi ⟨sm, hdd⟩ ⟨rfl, hv⟩
    rw [List.getElem?_map] at hv
    obtain ⟨p, hp, rfl⟩ := Option.map_eq_some_iff.mp hv
    obtain ⟨h, h1, h2⟩ := pairedAt hh n p hp
    obtain ⟨hdx, ha1, ha2, ha3, hI, hst, hw, hss⟩ := h2.same (fun b o e => sm b o (sm2 b o e))
    nested_keys
    refine ⟨p, _, hdx, _, _, rfl, hI, T.c_Hand, T.a_Hand_words, fHand_words, ?_⟩
    nested_keys
    refine ⟨⟨_, SqT.of hw⟩, ?_⟩
    refine gc_it (walk_tu (h.words.map V.str)) (fun i H4 => Same H2 H4 ∧ H4 ha2 = some (.tup (h.words.map V.str)) ∧ H4 D = some (gNO (strKind P w) D (wordsOf (hs.take n) ++ h.words.take i))) ⟨sm, hw, by simpa using hdd⟩ (fun _ _ _ k => SqT.of k.2.1) ?_ ?_
    · rintro i v H4 H4' hi2 ⟨sm4, hw4, hd4⟩ ⟨rfl, hv4⟩
      rw [List.getElem?_map] at hv4
      obtain ⟨z, hz, rfl⟩ := Option.map_eq_some_iff.mp hv4
      nested_keys
      refine ⟨_, z, rfl, hd4, ?_, ?_⟩
      · have e1 := length_wordsOf (hs := hs.take n) fun y hy => (hg y (List.mem_of_mem_take hy)).ok
        have e3 : (hs.take n).length ≤ 3 := Nat.le_trans (List.length_take_le' _ _) l3
        have o := (hg h (List.mem_of_getElem? h1)).ok
        have e2 : h.words.length ≤ 5 := Nat.le_trans (nodup_le h.words (h.steps.map (·.2.1)) (pw_nodup o.voc) fun w hw => by
          obtain ⟨s, h1, h2⟩ := (o.mem w).mp hw
          exact List.mem_map.mpr ⟨s, h1, h2⟩) (by rw [List.length_map]; exact o.few)
        rw [List.length_append, List.length_take]
        exact Nat.lt_of_le_of_lt (show _ ≤ 30 by omega) (by decide)
      · refine ⟨sm4.put hD, ?_, ?_⟩
        · rw [upd_ne (fun e => by rw [e] at hw4; rw [hw4] at hd4; cases hd4)]
          exact hw4
        · rw [upd_same, take_snoc hz, List.append_assoc]
          rfl
    · rintro H4 ⟨sm4, hw4, hd4⟩
      refine ⟨sm4, ?_⟩
      rw [List.length_map, List.take_length] at hd4
      rw [hd4, take_snoc h1]
      simp [wordsOf]
  · rintro H3 ⟨sm, hdd⟩
    rw [List.length_map, lp, List.take_length] at hdd
    have few20 : (wordsOf hs).length ≤ 15 := by have := length_wordsOf (hs := hs) fun y hy => (hg y hy).ok; omega
    refine ⟨D, _, wordsOf hs, rfl, hdd, fun _ => .rfl, by omega, fun ys p so ynd mem np => ?_⟩
    have pw : ys.Pairwise SLt := sorted_pw so ynd
    have mem' : ∀ z, z ∈ ys ↔ ∃ h ∈ hs, z ∈ h.words := fun z => by rw [mem z, wordsOf, List.mem_flatMap]
    have few : ys.length ≤ 4 := Nat.le_trans (nodup_le _ _ ynd fun k hk => by
      obtain ⟨h, h1, h2⟩ := (mem' k).mp hk
      exact hn h h1 k h2) n4
    have sm4 : Same H2 (upd H3 p (.lst (ys.map V.str))) := sm.put (sm.none np)
    generalize he4 : upd H3 p (.lst (ys.map V.str)) = H4 at sm4
    have hp4 : H4 p = some (.lst (ys.map V.str)) := by rw [← he4, upd_same]
    clear he4
    nested_keys
    refine ⟨p, _, rfl, .inl (SqL.of hp4), ?_⟩
    nested_keys
    rw [decide_eq_false (by rw [List.length_map]; omega)]
    nested_keys
    have smA : Same H H4 := fun b o e => sm4 _ _ (sm2 _ _ e)
    have hx4 := smA _ _ hx
    refine ⟨x, _, dx, _, rfl, hx4, T.c_System, T.a_System_hands, by decide, ?_⟩
    nested_keys
    refine ⟨x, _, dx, _, rfl, upd_same, T.c_System, T.a_System_diligent, Nat.lt_of_le_of_lt (putF_few few0) (by decide), ?_⟩
    have np4 : p ≠ x := fun z => by rw [z, hx4] at hp4; cases hp4
    nested_keys
    refine ⟨p, _, rfl, .inl ⟨SqL.of (by rw [upd_ne np4, upd_ne np4]; exact hp4), fun l hl => ?_⟩⟩
    have t5 : Same1 x H (upd (upd (upd H4 x (.ins (He.ga K "System") dx (putF "hands" (.ref c) []))) x (.ins (He.ga K "System") dx (putF "diligent" (.ref d) (putF "hands" (.ref c) [])))) l (.tup (ys.map V.str))) := (Same1.own (Same1.own smA.one)).put hl
    generalize he5 : upd (upd (upd H4 x (.ins (He.ga K "System") dx (putF "hands" (.ref c) []))) x (.ins (He.ga K "System") dx (putF "diligent" (.ref d) (putF "hands" (.ref c) [])))) l (.tup (ys.map V.str)) = H5 at t5
    have hx5 : H5 x = some (.ins (He.ga K "System") dx (putF "diligent" (.ref d) (putF "hands" (.ref c) []))) := by
      rw [← he5, upd_ne (fun z => by rw [← z, upd_same] at hl; cases hl)]
      exact upd_same
    have hl5 : H5 l = some (.tup (ys.map V.str)) := by rw [← he5, upd_same]
    have k45 : ∀ b o, b ≠ x → H4 b = some o → H5 b = some o := fun b o n e => by
      have e' : upd (upd H4 x (.ins (He.ga K "System") dx (putF "hands" (.ref c) []))) x (.ins (He.ga K "System") dx (putF "diligent" (.ref d) (putF "hands" (.ref c) []))) b = some o := by rw [upd_ne n, upd_ne n]; exact e
      rw [← he5, upd_ne (ne_of_none e' hl)]
      exact e'
    clear he5
    nested_keys
    refine ⟨x, _, dx, _, rfl, hx5, T.c_System, T.a_System_words, Nat.lt_of_le_of_lt (putF_few (putF_few few0)) (by decide), ?_⟩
    have cx : c ≠ x := fun z => by rw [z] at hc2; rw [sm2 _ _ hx] at hc2; cases hc2
    have dx' : d ≠ x := fun z => by rw [z] at hd; rw [sm2 _ _ hx] at hd; cases hd
    have t6 := t5.own (o := .ins (He.ga K "System") dx (putF "words" (.ref l) (putF "diligent" (.ref d) (putF "hands" (.ref c) []))))
    generalize he6 : upd H5 x (.ins (He.ga K "System") dx (putF "words" (.ref l) (putF "diligent" (.ref d) (putF "hands" (.ref c) [])))) = H6 at t6
    have hx6 : H6 x = some (.ins (He.ga K "System") dx (putF "words" (.ref l) (putF "diligent" (.ref d) (putF "hands" (.ref c) [])))) := by rw [← he6, upd_same]
    have k56 : ∀ b o, b ≠ x → H5 b = some o → H6 b = some o := fun b o n e => by rw [← he6, upd_ne n]; exact e
    have hc6 := k56 _ _ cx (k45 _ _ cx (sm4 _ _ hc2))
    have hd6 := k56 _ _ dx' (k45 _ _ dx' (sm4 _ _ hd))
    have hl6 := k56 _ _ (fun z => by rw [z, hx5] at hl5; cases hl5) hl5
    clear he6
    nested_keys
    refine ⟨⟨_, SqT.of hc6⟩, fun D2 hD2 => ?_⟩
    have hx_ne : ∀ {p : Addr} {h : HandM}, HandAt K H p h → HandAt K H6 p h := by
      rintro p h ⟨e1, e2, e3, e4, i1, i2, i3, i4⟩
      have nn : ∀ {b : Addr} {xs : List V}, H b = some (.tup xs) → b ≠ x := fun e z => by rw [z, hx] at e; cases e
      have hpx : p ≠ x := fun z => by
        rw [z, hx] at i1
        injection i1 with i1
        injection i1 with _ _ i1
        cases i1
      refine ⟨e1, e2, e3, e4, t6 _ _ hpx i1, i2.at (fun b xs e => t6 _ _ (nn e) e), t6 _ _ (nn i3) i3, t6 _ _ (nn i4) i4⟩
    refine gc_it (walk_tu (ps.map V.ref)) (fun n H7 => Same H6 H7 ∧ H7 D2 = some (.lst ((hs.take n).map fun h => V.int h.start))) ⟨Same.new hD2, upd_same⟩ (fun _ _ _ k => SqT.of (k.1 _ _ hc6)) ?_ ?_
    · rintro n v H7 H7' hi ⟨sm7, hd7⟩ ⟨rfl, hv⟩
      rw [List.getElem?_map] at hv
      obtain ⟨p, hp, rfl⟩ := Option.map_eq_some_iff.mp hv
      obtain ⟨h, h1, h2⟩ := pairedAt hh n p hp
      obtain ⟨hdx, ha1, ha2, ha3, hI, _⟩ := (hx_ne h2).same sm7
      nested_keys
      refine ⟨p, _, hdx, _, _, rfl, hI, T.c_Hand, T.a_Hand_start, fHand_start, ?_⟩
      refine ⟨_, hd7, by rw [List.length_map]; exact line24 (m := 3) (Nat.le_trans (List.length_take_le' _ _) l3), sm7.put hD2, ?_⟩
      rw [upd_same, take_snoc h1, List.map_append]
      rfl
    · rintro H7 ⟨sm7, hd7⟩
      rw [List.length_map, lp, List.take_length] at hd7
      refine ⟨D2, _, rfl, .inl ⟨SqL.of hd7, fun l2 hl2 => ?_⟩⟩
      have sm8 : Same H6 (upd H7 l2 (.tup (hs.map fun h => V.int h.start))) := sm7.put (sm7.none hl2)
      nested_keys
      refine ⟨x, _, dx, _, rfl, sm8 _ _ hx6, T.c_System, T.a_System_start, Nat.lt_of_le_of_lt (putF_few (putF_few (putF_few few0))) (by decide), ?_⟩
      have ne8 : ∀ {b : Addr} {xs : List V}, H6 b = some (.tup xs) → b ≠ x := fun e z => by rw [z, hx6] at e; cases e
      have l2x : l2 ≠ x := fun z => by rw [z, sm7 _ _ hx6] at hl2; cases hl2
      refine q ⟨hs, es, ys, hs.map (·.start)⟩ _ ⟨⟨l1, l3, fun h hh => (hg h hh).ok, pw, mem', few, fun e he => rg e (pm.mem_iff.mp he), by rw [pm.length_eq]; exact d3, rfl⟩, hg, ri, pm.nodup_iff.mpr nd⟩ rfl pm ((t6.then sm8).own) ?_
      have put : ∀ {b : Addr} {xs : List V} {o : HO}, H6 b = some (.tup xs) → upd (upd H7 l2 (.tup (hs.map fun h => V.int h.start))) x o b = some (.tup xs) := fun e => by
        rw [upd_ne (ne8 e)]; exact sm8 _ _ e
      refine ⟨dx, c, d, l, l2, ps, by rw [upd_same]; rfl, put hc6, ?_, put hd6, put hl6, ?_⟩
      · refine L2.Paired.mapP hh fun p h y => ?_
        obtain ⟨e1, e2, e3, e4, i1, i2, i3, i4⟩ := hx_ne y
        have hpx : p ≠ x := fun z => by
          rw [z, hx6] at i1
          injection i1 with i1
          injection i1 with _ _ i1
          cases i1
        refine ⟨e1, e2, e3, e4, by rw [upd_ne hpx]; exact sm8 _ _ i1, i2.at (fun b xs e => put e), put i3, put i4⟩
      · rw [upd_ne l2x, upd_same, List.map_map]
        rfl
end NS
/-! G7: the walks over a standing. -/
namespace NS
open PySem PySem.Spec PyProof.Rows L2
local macro_rules | `(tactic| nested_keys) => `(tactic| repeat (first | refine ⟨_, rfl, ?_⟩ | refine ⟨_, _, rfl, rfl, ?_⟩ | refine ⟨rfl, ?_⟩ | with_reducible refine iteT ?_ | with_reducible refine iteF ?_))
variable {P : Program} {w : World} {K : PySem.W.Frag} {mg : Str → Option Value} {base : Heap}
def numV : Option Int → V
  | none => .non
  | some i => .int i
theorem rk_num {H : Hp} : ∀ n, Rk H (dNum n) (numV n)
  | none => .none
  | some i => .num i
theorem rks_num {H : Hp} : ∀ ns : List (Option Int), Rks H (ns.map dNum) (ns.map numV)
  | [] => .nil
  | n :: ns => .cons (rk_num n) (rks_num ns)
theorem rk_numV {H : Hp} {n : Option Int} {v : V} (h : Rk H (dNum n) v) : v = numV n := by
  cases n with
  | none => exact h.none_eq
  | some i => exact h.num_eq
theorem rks_numV {H : Hp} : ∀ {ns : List (Option Int)} {vs : List V}, Rks H (ns.map dNum) vs → vs = ns.map numV
  | [], _, h => by cases h; rfl
  | n :: ns, _, h => by
    cases h with
    | cons r rr => rw [rk_numV r, rks_numV rr]; rfl
theorem Rk.nums {H : Hp} {ns : List (Option Int)} {v : V} (h : Rk H (.tup (ns.map dNum)) v) : ∃ b, v = .ref b ∧ H b = some (.tup (ns.map numV)) := by
  obtain ⟨b, xs, e, hb, r⟩ := h.tup_eq
  exact ⟨b, e, by rw [hb, rks_numV r]⟩
theorem Rk.move {H : Hp} {m : Move} {v : V} (h : Rk H (dMove m) v) : ∃ b c, v = .ref b ∧ H b = some (.tup [.str m.1, .ref c]) ∧ H c = some (.tup (m.2.map numV)) := by
  obtain ⟨b, p, q, e, hb, h1, h2⟩ := h.pair
  obtain ⟨c, rfl, hc⟩ := h2.nums
  rw [h1.text_eq] at hb
  exact ⟨b, c, e, hb, hc⟩
theorem Rk.ofMove {H : Hp} {m : Move} {b c : Addr} (h : H b = some (.tup [.str m.1, .ref c])) (hc : H c = some (.tup (m.2.map numV))) : Rk H (dMove m) (.ref b) := .ofPair h (.text _) (.tup hc (rks_num _))
theorem flat_nums (l : List (Option Int)) : (l.map numV).all flatV = true := by
  rw [List.all_eq_true]
  intro v hv
  obtain ⟨n, _, rfl⟩ := List.mem_map.mp hv
  cases n <;> rfl
theorem inV_numV {x : Option Int} {l : List (Option Int)} : inV (numV x) (l.map numV) = decide (x ∈ l) := by
  induction l with
  | nil => rfl
  | cons y l ih =>
    show (eqV (numV y) (numV x) || inV (numV x) (l.map numV)) = _
    rw [ih]
    have e : eqV (numV y) (numV x) = decide (x = y) := by
      cases x with
      | none => cases y with
        | none => rfl
        | some b => simp [numV, eqV]
      | some a => cases y with
        | none => simp [numV, eqV]
        | some b =>
          show (b == a) = _
          by_cases z : b = a
          · subst z; simp
          · have : (b == a) = false := by simpa using z
            rw [this]
            simp [Ne.symm z]
    rw [e]
    by_cases z : x = y <;> simp [z]
theorem StOk.get {S : SysM} {st : Stg} (k : StOk S st) {i : Nat} {h : HandM} (e : S.hands[i]? = some h) : ∃ s, st[i]? = some s ∧ s ∈ h.states := by
  have hi : i < st.length := by rw [k.len]; exact (List.getElem?_eq_some_iff.mp e).1
  exact ⟨st[i], List.getElem?_eq_getElem hi, k.mem i h _ e (List.getElem?_eq_getElem hi)⟩
/-! ### check_standing -/
def sp_check_standing (K : PySem.W.Frag) : Sp := fun vs H Q _ => ∃ (p b : Addr) (S : SysM) (st : Stg), vs = [.ref p, .ref b] ∧ SysAt K H p S ∧ H b = some (.tup (st.map .int)) ∧ StOk S st ∧ ∀ H', Same H H' → Q .non H'
theorem ok_check_standing (T : Tx K mg) : C8.Cal P w K mg base 2 "check_standing" (sp_check_standing K) [] := cal_check_standing T (fun vs H Q E ⟨_, _, _, _, h, _⟩ => by rw [h]; rfl) fun cdv A outer s H vs Q E hr h => by
  refine ⟨_, (pss_cons (ps_if (PW.pt (pw_or (pt_not (pt_val (pe_callB call_isi (by rfl) T.f_isinstance b_isinstance (pa_cons (pv 1) (pa_cons (pe_bt (by rfl) T.f_tuple b_tuple) pa_nil))))) (pw_or1 (pt_cmpR op_ne (pe_callB call_len_seq (by rfl) T.f_len b_len (pa_cons (pv 1) pa_nil)) (pe_callB call_len_seq (by rfl) T.f_len b_len (pa_cons (pe_fld (pv 0) rfl) pa_nil)) (nomark _))))) (pss_one ps_never) pss_nil)
    (pss_one (ps_for PassesOwn.never rfl (pi_enumT (by rfl) T.f_enumerate (pa_cons (pe_fld (pv 0) rfl) pa_nil)) (pg_tup rfl (pgs_cons (pg_name (i := 2) sc_check_standing.nd rfl (Or.inl rfl)) (pgs_cons (pg_name (i := 3) sc_check_standing.nd rfl (Or.inl rfl)) pgs_nil)))
      (pss_one (ps_if (PW.pt (pw_or (pt_not (pt_val (C8.pe_c (ok_is_integer T) hr (by decide) (by rfl) (pa_cons (pe_ix ix_tup (pv 1) (pv 2) (fun _ _ => rfl)) pa_nil)))) (pw_or1 (pt_cmpR op_notIn_seq (pe_ix ix_tup (pv 1) (pv 2) (fun _ _ => rfl)) (pe_fld (pv 3) rfl) (by rfl))))) (pss_one ps_never) pss_nil))))), ?_⟩
  obtain ⟨p, b, S, st, rfl, hS, hb, ok, q⟩ := h
  obtain ⟨dx, a1, a2, a3, a4, ps, i1, i2, i3, i4, i5, i6⟩ := hS
  have lp := pairedLen i3
  nested_keys
  refine ⟨_, _, _, _, _, rfl, .ty _, tyTup hb, kit_ty k_tup_tup, ?_⟩
  nested_keys
  refine ⟨b, _, rfl, .inr (SqT.of hb), ?_⟩
  nested_keys
  refine ⟨p, _, dx, _, _, rfl, i1, T.c_System, T.a_System_hands, fSys_hands, ?_⟩
  refine ⟨a1, _, rfl, .inr (SqT.of i2), ?_⟩
  nested_keys
  have el : decide (V.int ((st.map V.int).length : Nat) = V.int ((ps.map V.ref).length : Nat)) = true := decide_eq_true (by rw [List.length_map, List.length_map, ok.len, lp])
  rw [el]
  nested_keys
  refine ⟨p, _, dx, _, _, rfl, i1, T.c_System, T.a_System_hands, fSys_hands, ?_⟩
  refine ⟨a1, _, rfl, SqT.of i2, for_it (walk_enT (ps.map V.ref)) (fun n σ' H' => Same H H' ∧ ∃ u1 u2, σ' = [some (V.ref p), some (V.ref b), u1, u2]) ⟨fun _ _ e => e, _, _, rfl⟩ (fun _ _ _ _ k => SqT.of (k.1 _ _ i2)) ?_ ?_⟩
  · rintro n x σ2 H2 H3 hi ⟨sm, u1, u2, rfl⟩ ⟨t, x2, rfl, ht, rfl, hx2⟩
    rw [List.getElem?_map] at hx2
    obtain ⟨pp, hp, rfl⟩ := Option.map_eq_some_iff.mp hx2
    obtain ⟨h, h1, h2⟩ := pairedAt i3 n pp hp
    have sm3 : Same H (upd H2 t (.tup [.int (n : Nat), .ref pp])) := sm.put (sm.none ht)
    obtain ⟨hdx, b1, b2, b3, j1, j2, j3, j4⟩ := h2.same sm3
    obtain ⟨x, e1, e2⟩ := ok.get h1
    refine ⟨t, _, rfl, SqT.of upd_same, rfl, _, _, rfl, _, _, rfl, rfl, ?_⟩
    nested_keys
    refine ⟨b, _, _, _, rfl, rfl, SqT.of (sm3 _ _ hb), atI_nat (by rw [List.getElem?_map, e1]; rfl), ?_⟩
    nested_keys
    refine ⟨b, _, _, _, rfl, rfl, SqT.of (sm3 _ _ hb), atI_nat (by rw [List.getElem?_map, e1]; rfl), ?_⟩
    nested_keys
    refine ⟨pp, _, hdx, _, _, rfl, j1, T.c_Hand, T.a_Hand_states, fHand_states, ?_⟩
    refine ⟨b3, _, rfl, .inr (SqT.of j4), rfl, flat_ints _, ?_⟩
    rw [inV_num, decide_eq_true e2]
    nested_keys
    exact ⟨sm3, _, _, rfl⟩
  · rintro σ2 H2 ⟨sm, _⟩
    exact q _ sm
/-! ### step_numbers -/
def sp_step_numbers (K : PySem.W.Frag) : Sp := fun vs H Q _ => ∃ (p : Addr) (h : HandM) (i : Int) (x : Str), vs = [.ref p, .int i, .str x] ∧ HandAt K H p h ∧ h.steps.length ≤ 24 ∧
  ∀ (c : Addr) (H' : Hp), Same H H' → H' c = some (.lst ((stepNums h i x).map numV)) → Q (.ref c) H'
theorem idxs_len (s : Int) (x : Str) : ∀ (l : List Stp) (n : Nat), (idxs s x l n).length ≤ l.length
  | [], _ => Nat.le_refl _
  | a :: l, n => by
    unfold idxs
    have := idxs_len s x l (n + 1)
    split <;> simp only [List.length_cons] <;> omega
theorem ok_step_numbers (T : Tx K mg) : C8.Cal P w K mg base 1 "step_numbers" (sp_step_numbers K) [] := cal_step_numbers T (fun vs H Q E ⟨_, _, _, _, h, _⟩ => by rw [h]; rfl) fun cdv A outer s H vs Q E hr h => by
  refine ⟨_, (pss_cons (ps_if (pt_cmpR op_notIn_seq (pv 2) (pe_fld (pv 0) rfl) (by rfl)) (pss_one (ps_ret (pe_lst (pa_cons pe_non pa_nil)))) pss_nil)
    (pss_one (ps_ret (pe_lc (own := [("at", 3), ("step", 4)]) (by rfl) sc_step_numbers.nd (pi_enumT (by rfl) T.f_enumerate (pa_cons (pe_fld (pv 0) rfl) pa_nil)) (blkOk_by (own := [("at", 3), ("step", 4)]) (N := n_step_numbers) (sc := defScope s_step_numbers) (by decide +kernel)) (fun _ _ _ _ _ => pg_tupB (n := 2) (K := K) rfl rfl (pgs_cons (pg_name (i := 3) sc_step_numbers.nd rfl (Or.inl rfl)) (pgs_cons (pg_name (i := 4) sc_step_numbers.nd rfl (Or.inl rfl)) pgs_nil))) (fun _ _ _ _ _ => pts_one (PW.pt (pw_and (pt_cmpR op_eq (pe_ix (ix_tupB (K := K) rfl) (pv 4) pe_int (fun _ _ => rfl)) (pv 1) (nomark _)) (pw_and1 (pt_cmpR op_eq (pe_ix (ix_tupB (K := K) rfl) (pv 4) pe_int (fun _ _ => rfl)) (pv 2) (nomark _)))))) (fun _ _ _ _ _ => (pv 3)))))), ?_⟩
  obtain ⟨p, hd, i, x, rfl, ⟨dx, a1, a2, a3, j1, j2, j3, j4⟩, few, q⟩ := h
  obtain ⟨a1', us, e, ha1, rk⟩ := j2.tup_eq
  cases e
  nested_keys
  refine ⟨p, _, dx, _, _, rfl, j1, T.c_Hand, T.a_Hand_words, fHand_words, ?_⟩
  refine ⟨a2, _, rfl, .inr (SqT.of j3), rfl, flat_strs _, ?_⟩
  rw [inV_text]
  by_cases hw : x ∈ hd.words
  · rw [decide_eq_true hw]
    nested_keys
    refine ⟨p, _, dx, _, _, rfl, j1, T.c_Hand, T.a_Hand_steps, fHand_steps, ?_⟩
    refine ⟨a1, us, rfl, SqT.of ha1, fun D hD => ?_⟩
    refine lc_it (walk_enT us) (fun n H2 => Same H H2 ∧ H2 D = some (.lst ((idxs i x (hd.steps.take n) 0).map numV))) ⟨Same.new hD, upd_same⟩ (fun _ _ _ k => SqT.of (k.1 _ _ ha1)) ?_ ?_
    · rintro n v H2 H3 hi ⟨sm, hk⟩ ⟨t, x2, rfl, ht, rfl, hx2⟩
      obtain ⟨st, h1, h2⟩ := rk.mapV hx2
      obtain ⟨bb, rfl, hbb⟩ := (sm.rk h2).step
      have sm3 : Same H (upd H2 t (.tup [.int (n : Nat), .ref bb])) := sm.put (sm.none ht)
      have k3 : ∀ {b o}, H2 b = some o → upd H2 t (.tup [.int (n : Nat), .ref bb]) b = some o := fun e => by rw [upd_ne (ne_of_none e ht)]; exact e
      have ln : (hd.steps.take n).length = n := by
        have := (List.getElem?_eq_some_iff.mp h1).1
        rw [List.length_take]; omega
      have en : idxs i x (hd.steps.take (n + 1)) 0 = idxs i x (hd.steps.take n) 0 ++ (if st.1 = i ∧ st.2.1 = x then [some ((n : Nat) : Int)] else []) := by
        rw [take_snoc h1, idxs_snoc, ln, Nat.zero_add]
      refine ⟨t, _, rfl, SqT.of upd_same, rfl, _, _, rfl, _, _, rfl, rfl, ?_⟩
      nested_keys
      refine ⟨bb, _, _, _, rfl, rfl, SqT.of (k3 hbb), rfl, ?_⟩
      nested_keys
      refine iteD (fun c => ?_) fun c => ?_
      · have c' : st.1 = i := by injection c
        nested_keys
        refine ⟨bb, _, _, _, rfl, rfl, SqT.of (k3 hbb), rfl, ?_⟩
        nested_keys
        refine iteD (fun d => ?_) fun d => ?_
        · have d' : st.2.1 = x := by injection d
          nested_keys
          refine ⟨_, k3 hk, ?_, sm3.put hD, ?_⟩
          · rw [List.length_map]
            exact line24 (m := 24) (Nat.le_trans (idxs_len _ _ _ _) (Nat.le_trans (List.length_take_le' _ _) few))
          · rw [upd_same, en, if_pos ⟨c', d'⟩, List.map_append]
            rfl
        · refine ⟨sm3, ?_⟩
          rw [k3 hk, en, if_neg fun z => d (by rw [z.2]), List.append_nil]
      · refine ⟨sm3, ?_⟩
        rw [k3 hk, en, if_neg fun z => c (by rw [z.1]), List.append_nil]
    · rintro H2 ⟨sm, hk⟩
      rw [rk.len, List.take_length] at hk
      exact q D _ sm (by rw [hk, stepNums, if_pos hw])
  · rw [decide_eq_false hw]
    nested_keys
    refine ⟨by show 1 ≤ sizeLine; decide, fun c hc => ?_⟩
    exact q c _ (Same.new hc) (by rw [upd_same, stepNums, if_neg hw]; rfl)
end NS
/-! G8: the walks of is_move, led_to, moves. -/
namespace NS
open PySem PySem.Spec PyProof.Rows L2
local macro_rules | `(tactic| nested_keys) => `(tactic| repeat (first | refine ⟨_, rfl, ?_⟩ | refine ⟨_, _, rfl, rfl, ?_⟩ | refine ⟨rfl, ?_⟩ | with_reducible refine iteT ?_ | with_reducible refine iteF ?_))
variable {P : Program} {w : World} {K : PySem.W.Frag} {mg : Str → Option Value} {base : Heap}
theorem MvOk.get {S : SysM} {st : Stg} {m : Move} (k : MvOk S st m) {i : Nat} {h : HandM} {x : Int} (e : S.hands[i]? = some h) (e2 : st[i]? = some x) : ∃ n, m.2[i]? = some n ∧ n ∈ stepNums h x m.1 := by
  have hi : i < m.2.length := by rw [k.len]; exact (List.getElem?_eq_some_iff.mp e).1
  exact ⟨m.2[i], List.getElem?_eq_getElem hi, k.nums i h x _ e e2 (List.getElem?_eq_getElem hi)⟩
/-! ### is_move -/
def sp_is_move (K : PySem.W.Frag) : Sp := fun vs H Q _ => ∃ (p b : Addr) (v : V) (S : SysM) (st : Stg) (m : Move), vs = [.ref p, .ref b, v] ∧ SysAt K H p S ∧ SysG S ∧ H b = some (.tup (st.map .int)) ∧ StOk S st ∧ Rk H (dMove m) v ∧ MvOk S st m ∧ ∀ H', Same H H' → Q (.bl true) H'
theorem ok_is_move (T : Tx K mg) : C8.Cal P w K mg base 2 "is_move" (sp_is_move K) [] := cal_is_move T (fun vs H Q E ⟨_, _, _, _, _, _, h, _⟩ => by rw [h]; rfl) fun cdv A outer s H vs Q E hr h => by
  refine ⟨_, (pss_cons (ps_if (PW.pt (pw_or (pt_not (pt_val (pe_callB call_isi (by rfl) T.f_isinstance b_isinstance (pa_cons (pv 2) (pa_cons (pe_bt (by rfl) T.f_tuple b_tuple) pa_nil))))) (pw_or1 (pt_cmpR op_ne (pe_callB call_len_seq (by rfl) T.f_len b_len (pa_cons (pv 2) pa_nil)) pe_int (nomark _))))) (pss_one (ps_ret pe_bl)) pss_nil)
    (pss_cons (ps_asg (pv 2) (pg_tup rfl (pgs_cons (pg_name (i := 3) sc_is_move.nd rfl (Or.inl rfl)) (pgs_cons (pg_name (i := 4) sc_is_move.nd rfl (Or.inl rfl)) pgs_nil))))
    (pss_cons (ps_if (PW.pt (pw_or (pt_not (pt_val (pe_callB call_isi (by rfl) T.f_isinstance b_isinstance (pa_cons (pv 3) (pa_cons (pe_bt (by rfl) T.f_str b_str) pa_nil))))) (pw_or1 (pt_cmpR op_notIn_seq (pv 3) (pe_fld (pv 0) rfl) (by rfl))))) (pss_one (ps_ret pe_bl)) pss_nil)
    (pss_cons (ps_if (PW.pt (pw_or (pt_not (pt_val (pe_callB call_isi (by rfl) T.f_isinstance b_isinstance (pa_cons (pv 4) (pa_cons (pe_bt (by rfl) T.f_tuple b_tuple) pa_nil))))) (pw_or1 (pt_cmpR op_ne (pe_callB call_len_seq (by rfl) T.f_len b_len (pa_cons (pv 4) pa_nil)) (pe_callB call_len_seq (by rfl) T.f_len b_len (pa_cons (pe_fld (pv 0) rfl) pa_nil)) (nomark _))))) (pss_one (ps_ret pe_bl)) pss_nil)
    (C8.pss_cut (ps_for PassesOwn.never rfl (pi_enumT (by rfl) T.f_enumerate (pa_cons (pe_fld (pv 0) rfl) pa_nil)) (pg_tup rfl (pgs_cons (pg_name (i := 5) sc_is_move.nd rfl (Or.inl rfl)) (pgs_cons (pg_name (i := 6) sc_is_move.nd rfl (Or.inl rfl)) pgs_nil)))
      (pss_cons (ps_set (i := 7) sc_is_move.nd rfl (Or.inl rfl) (pe_ix ix_tup (pv 4) (pv 5) (fun _ _ => rfl)))
    (pss_cons (ps_if (PW.pt (pw_and (pt_cmpR op_notN (pv 7) pe_non (nomark _)) (pw_and1 (pt_not (pt_val (C8.pe_c (ok_is_integer T) hr (by decide) (by rfl) (pa_cons (pv 7) pa_nil))))))) (pss_one (ps_ret pe_bl)) pss_nil)
    (pss_one (ps_if (pt_cmpR op_notIn_seq (pv 7) (C8.pe_c (ok_step_numbers T) hr (by decide) (by rfl) (pa_cons (pv 6) (pa_cons (pe_ix ix_tup (pv 1) (pv 5) (fun _ _ => rfl)) (pa_cons (pv 3) pa_nil)))) (by rfl)) (pss_one (ps_ret pe_bl)) pss_nil)))))
    (pss_one (ps_ret pe_bl))))))), ?_⟩
  obtain ⟨p, b, v, S, st, m, rfl, hS, hG, hb, ok, hm, mo, q⟩ := h
  obtain ⟨dx, a1, a2, a3, a4, ps, i1, i2, i3, i4, i5, i6⟩ := hS
  obtain ⟨mb, mc, rfl, hmb, hmc⟩ := hm.move
  have lp := pairedLen i3
  nested_keys
  refine ⟨_, _, _, _, _, rfl, .ty _, tyTup hmb, kit_ty k_tup_tup, ?_⟩
  nested_keys
  refine ⟨mb, _, rfl, .inr (SqT.of hmb), ?_⟩
  nested_keys
  refine ⟨mb, _, rfl, SqT.of hmb, rfl, _, _, rfl, _, _, rfl, rfl, ?_⟩
  nested_keys
  refine ⟨_, _, _, _, _, rfl, .ty _, tyStr, kit_ty k_str_str, ?_⟩
  nested_keys
  refine ⟨p, _, dx, _, _, rfl, i1, T.c_System, T.a_System_words, fSys_words, ?_⟩
  refine ⟨a3, _, rfl, .inr (SqT.of i5), rfl, flat_strs _, ?_⟩
  rw [inV_text, decide_eq_true mo.word]
  nested_keys
  refine ⟨_, _, _, _, _, rfl, .ty _, tyTup hmc, kit_ty k_tup_tup, ?_⟩
  nested_keys
  refine ⟨mc, _, rfl, .inr (SqT.of hmc), ?_⟩
  nested_keys
  refine ⟨p, _, dx, _, _, rfl, i1, T.c_System, T.a_System_hands, fSys_hands, ?_⟩
  refine ⟨a1, _, rfl, .inr (SqT.of i2), ?_⟩
  nested_keys
  have el : decide (V.int ((m.2.map numV).length : Nat) = V.int ((ps.map V.ref).length : Nat)) = true := decide_eq_true (by rw [List.length_map, List.length_map, mo.len, lp])
  rw [el]
  nested_keys
  refine ⟨fun σ' H' => Same H H', ?_, fun σ2 H2 sm => q _ sm⟩
  nested_keys
  refine ⟨p, _, dx, _, _, rfl, i1, T.c_System, T.a_System_hands, fSys_hands, ?_⟩
  refine ⟨a1, _, rfl, SqT.of i2, for_it (walk_enT (ps.map V.ref)) (fun n σ' H' => Same H H' ∧ ∃ u1 u2 u3, σ' = [some (V.ref p), some (V.ref b), some (V.ref mb), some (.str m.1), some (.ref mc), u1, u2, u3]) ⟨fun _ _ e => e, _, _, _, rfl⟩ (fun _ _ _ _ k => SqT.of (k.1 _ _ i2)) ?_ fun _ _ k => k.1⟩
  rintro n x σ2 H2 H3 hi ⟨sm, u1, u2, u3, rfl⟩ ⟨t, x2, rfl, ht, rfl, hx2⟩
  rw [List.getElem?_map] at hx2
  obtain ⟨pp, hp, rfl⟩ := Option.map_eq_some_iff.mp hx2
  obtain ⟨h, h1, h2⟩ := pairedAt i3 n pp hp
  have sm3 : Same H (upd H2 t (.tup [.int (n : Nat), .ref pp])) := sm.put (sm.none ht)
  obtain ⟨x, e1, e2⟩ := ok.get h1
  obtain ⟨z, e3, e4⟩ := mo.get h1 e1
  refine ⟨t, _, rfl, SqT.of upd_same, rfl, _, _, rfl, _, _, rfl, rfl, ?_⟩
  nested_keys
  refine ⟨mc, _, _, _, rfl, rfl, SqT.of (sm3 _ _ hmc), atI_nat (by rw [List.getElem?_map, e3]; rfl), ?_⟩
  have rest : ∀ g : Bool → Prop, (g false) → g (match z with | none => false | some _ => false) := fun g h => by cases z <;> exact h
  have few : h.steps.length ≤ 24 := by have := (hG.hands h (List.mem_of_getElem? h1)).ok.few; omega
  cases z with
  | none =>
    nested_keys
    refine ⟨b, _, _, _, rfl, rfl, SqT.of (sm3 _ _ hb), atI_nat (by rw [List.getElem?_map, e1]; rfl), ?_⟩
    nested_keys
    refine ⟨pp, h, x, m.1, rfl, h2.same sm3, few, fun c H4 s4 hc => ?_⟩
    nested_keys
    refine ⟨c, _, rfl, .inl (SqL.of hc), rfl, flat_nums _, ?_⟩
    first | rw [inV_numV, decide_eq_true e4] | rw [show V.non = numV none from rfl, inV_numV, decide_eq_true e4]
    nested_keys
    exact ⟨fun b o e => s4 _ _ (sm3 _ _ e), _, _, _, rfl⟩
  | some z =>
    nested_keys
    refine ⟨b, _, _, _, rfl, rfl, SqT.of (sm3 _ _ hb), atI_nat (by rw [List.getElem?_map, e1]; rfl), ?_⟩
    nested_keys
    refine ⟨pp, h, x, m.1, rfl, h2.same sm3, few, fun c H4 s4 hc => ?_⟩
    nested_keys
    refine ⟨c, _, rfl, .inl (SqL.of hc), rfl, flat_nums _, ?_⟩
    rw [inV_numV, decide_eq_true e4]
    nested_keys
    exact ⟨fun b o e => s4 _ _ (sm3 _ _ e), _, _, _, rfl⟩
/-! ### led_to -/
def sp_led_to (K : PySem.W.Frag) : Sp := fun vs H Q _ => ∃ (p b : Addr) (v : V) (S : SysM) (st : Stg) (m : Move), vs = [.ref p, .ref b, v] ∧ SysAt K H p S ∧ SysG S ∧ H b = some (.tup (st.map .int)) ∧ StOk S st ∧ Rk H (dMove m) v ∧ MvOk S st m ∧
  ∀ c H', Same H H' → H' c = some (.tup ((ledTo S st m).map .int)) → Q (.ref c) H'
theorem ok_led_to (T : Tx K mg) : C8.Cal P w K mg base 1 "led_to" (sp_led_to K) [] := cal_led_to T (fun vs H Q E ⟨_, _, _, _, _, _, h, _⟩ => by rw [h]; rfl) fun cdv A outer s H vs Q E hr h => by
  refine ⟨_, (pss_cons (ps_set (i := 3) sc_led_to.nd rfl (Or.inl rfl) (pe_lst pa_nil))
    (C8.pss_cut (ps_for PassesOwn.never rfl (pi_enumT (by rfl) T.f_enumerate (pa_cons (pe_fld (pv 0) rfl) pa_nil)) (pg_tup rfl (pgs_cons (pg_name (i := 4) sc_led_to.nd rfl (Or.inl rfl)) (pgs_cons (pg_name (i := 5) sc_led_to.nd rfl (Or.inl rfl)) pgs_nil)))
      (pss_cons (ps_set (i := 6) sc_led_to.nd rfl (Or.inl rfl) (pe_ix ix_tup (pe_ix ix_tup (pv 2) pe_int (fun _ _ => rfl)) (pv 4) (fun _ _ => rfl)))
    (pss_one (ps_if (pt_cmpR op_isN (pv 6) pe_non (nomark _)) (pss_one (ps_expr (pe_bm PySem.F.plainAttrs_list PySem.F.slot_list_append PySem.F.type_list_append mt_append (pv 3) (pa_cons (pe_ix ix_tup (pv 1) (pv 4) (fun _ _ => rfl)) pa_nil)))) (pss_one (ps_expr (pe_bm PySem.F.plainAttrs_list PySem.F.slot_list_append PySem.F.type_list_append mt_append (pv 3) (pa_cons (pe_ix ix_tup (pe_ix ix_tup (pe_fld (pv 5) rfl) (pv 6) (fun _ _ => rfl)) pe_int (fun _ _ => rfl)) pa_nil))))))))
    (pss_one (ps_ret (pe_callTy call_tuple_of (by rfl) T.f_tuple b_tuple (pa_cons (pv 3) pa_nil)))))), ?_⟩
  obtain ⟨p, b, v, S, st, m, rfl, hS, hG, hb, ok, hm, mo, q⟩ := h
  obtain ⟨dx, a1, a2, a3, a4, ps, i1, i2, i3, i4, i5, i6⟩ := hS
  obtain ⟨mb, mc, rfl, hmb, hmc⟩ := hm.move
  have lp := pairedLen i3
  have ll := length_ledTo ok.len mo.len
  nested_keys
  refine ⟨Nat.zero_le _, fun F hF => ?_⟩
  have sF : Same H (upd H F (.lst [])) := Same.new hF
  refine ⟨fun σ' H' => Same H H' ∧ H' F = some (.lst ((ledTo S st m).map .int)) ∧ ∃ u1 u2 u3, σ' = [some (V.ref p), some (V.ref b), some (V.ref mb), some (V.ref F), u1, u2, u3], ?_, ?_⟩
  · nested_keys
    refine ⟨p, _, dx, _, _, rfl, sF _ _ i1, T.c_System, T.a_System_hands, fSys_hands, ?_⟩
    refine ⟨a1, _, rfl, SqT.of (sF _ _ i2), for_it (walk_enT (ps.map V.ref)) (fun n σ' H' => Same H H' ∧ H' F = some (.lst (((ledTo S st m).take n).map .int)) ∧ ∃ u1 u2 u3, σ' = [some (V.ref p), some (V.ref b), some (V.ref mb), some (V.ref F), u1, u2, u3]) ⟨sF, upd_same, _, _, _, rfl⟩ (fun _ _ _ _ k => SqT.of (k.1 _ _ i2)) ?_ ?_⟩
    · rintro n x σ2 H2 H3 hi ⟨sm, hk, u1, u2, u3, rfl⟩ ⟨t, x2, rfl, ht, rfl, hx2⟩
      rw [List.getElem?_map] at hx2
      obtain ⟨pp, hp, rfl⟩ := Option.map_eq_some_iff.mp hx2
      obtain ⟨h, h1, h2⟩ := pairedAt i3 n pp hp
      have sm3 : Same H (upd H2 t (.tup [.int (n : Nat), .ref pp])) := sm.put (sm.none ht)
      have hk3 : upd H2 t (.tup [.int (n : Nat), .ref pp]) F = some (.lst (((ledTo S st m).take n).map .int)) := by rw [upd_ne (ne_of_none hk ht)]; exact hk
      obtain ⟨x, e1, e2⟩ := ok.get h1
      obtain ⟨z, e3, e4⟩ := mo.get h1 e1
      have e5 := getElem_ledTo h1 e1 e3
      have few : ((ledTo S st m).take n).length < sizeLine := line24 (m := 3) (Nat.le_trans (List.length_take_le' _ _) (by rw [ll]; exact hG.ok.few))
      refine ⟨t, _, rfl, SqT.of upd_same, rfl, _, _, rfl, _, _, rfl, rfl, ?_⟩
      nested_keys
      refine ⟨mb, _, _, _, rfl, rfl, SqT.of (sm3 _ _ hmb), rfl, ?_⟩
      nested_keys
      refine ⟨mc, _, _, _, rfl, rfl, SqT.of (sm3 _ _ hmc), atI_nat (by rw [List.getElem?_map, e3]; rfl), ?_⟩
      cases z with
      | none =>
        nested_keys
        refine ⟨.inl ⟨rfl, _, SqL.of hk3⟩, ?_⟩
        nested_keys
        refine ⟨b, _, _, _, rfl, rfl, SqT.of (sm3 _ _ hb), atI_nat (by rw [List.getElem?_map, e1]; rfl), ?_⟩
        refine ⟨F, _, _, rfl, rfl, hk3, by rw [List.length_map]; exact few, sm3.put hF, ?_, _, _, _, rfl⟩
        rw [upd_same, take_snoc e5, List.map_append]
        rfl
      | some z =>
        obtain ⟨hdx, b1, b2, b3, j1, j2, j3, j4⟩ := h2.same sm3
        obtain ⟨b1', us, e, hb1, rk⟩ := j2.tup_eq
        cases e
        have hw : m.1 ∈ h.words := by
          unfold stepNums at e4
          split at e4
          · assumption
          · simp at e4
        rw [stepNums, if_pos hw] at e4
        obtain ⟨j, sp, k1, k2, k3, k4⟩ := mem_idxs.mp e4
        have ez : z = ((j : Nat) : Int) := by simpa using k4
        obtain ⟨sv, k5, k6⟩ := rk.get_map k1
        obtain ⟨sb, rfl, hsb⟩ := k6.step
        nested_keys
        refine ⟨.inl ⟨rfl, _, SqL.of hk3⟩, ?_⟩
        nested_keys
        refine ⟨pp, _, hdx, _, _, rfl, j1, T.c_Hand, T.a_Hand_steps, fHand_steps, ?_⟩
        nested_keys
        refine ⟨b1, _, _, _, rfl, rfl, SqT.of hb1, by rw [ez]; exact atI_nat k5, ?_⟩
        nested_keys
        refine ⟨sb, _, _, _, rfl, rfl, SqT.of hsb, rfl, ?_⟩
        refine ⟨F, _, _, rfl, rfl, hk3, by rw [List.length_map]; exact few, sm3.put hF, ?_, _, _, _, rfl⟩
        have ea : after h x (some z) = sp.2.2 := by
          show ((h.steps[z.toNat]?).map fun x => x.2.2).getD x = _
          rw [show z.toNat = j by omega, k1]
          rfl
        rw [upd_same, take_snoc e5, List.map_append, ea]
        rfl
    · rintro σ2 H2 ⟨sm, hk, k⟩
      rw [List.length_map, lp, ← ll, List.take_length] at hk
      exact ⟨sm, hk, k⟩
  · rintro σ2 H2 ⟨sm, hk, u1, u2, u3, rfl⟩
    nested_keys
    exact ⟨F, _, rfl, .inl ⟨SqL.of hk, fun l hl => q l _ (sm.put (sm.none hl)) upd_same⟩⟩
end NS
/-! G9: the walk of System.moves. -/
namespace NS
open PySem PySem.Spec PyProof.Rows L2
local macro_rules | `(tactic| nested_keys) => `(tactic| repeat (first | refine ⟨_, rfl, ?_⟩ | refine ⟨_, _, rfl, rfl, ?_⟩ | refine ⟨rfl, ?_⟩ | with_reducible refine iteT ?_ | with_reducible refine iteF ?_))
variable {P : Program} {w : World} {K : PySem.W.Frag} {mg : Str → Option Value} {base : Heap}
abbrev dLine (r : List (Option Int)) : Dat := .tup (r.map dNum)
theorem rowsMore_snoc {rows : List (List (Option Int))} {nums : List (Option Int)} {i : Nat} {r : List (Option Int)} (h : rows[i]? = some r) : rowsMore (rows.take (i + 1)) nums = rowsMore (rows.take i) nums ++ nums.map (fun n => r ++ [n]) := by
  rw [take_snoc h, rowsMore, rowsMore, List.flatMap_append]
  simp
theorem rowsMore_len (rows : List (List (Option Int))) (nums : List (Option Int)) : (rowsMore rows nums).length = rows.length * nums.length := by
  unfold rowsMore
  induction rows with
  | nil => simp
  | cons a l ih => simp [List.flatMap_cons, ih, Nat.succ_mul, Nat.add_comm]
theorem stepNums_len {h : HandM} {s : Int} {x : Str} (few : h.steps.length ≤ 5) : (stepNums h s x).length ≤ 5 := by
  unfold stepNums
  split
  · exact Nat.le_trans (idxs_len _ _ _ _) few
  · simp
theorem rowsOf_len (x : Str) : ∀ (l : List (HandM × Int)) (rows : List (List (Option Int))), (∀ q ∈ l, q.1.steps.length ≤ 5) → (rowsOf x l rows).length ≤ rows.length * 5 ^ l.length
  | [], rows, _ => by simp [rowsOf]
  | q :: l, rows, H => by
    have h1 := rowsOf_len x l (rowsMore rows (stepNums q.1 q.2 x)) fun y hy => H y (List.mem_cons_of_mem _ hy)
    rw [rowsMore_len] at h1
    have h2 : (stepNums q.1 q.2 x).length ≤ 5 := stepNums_len (H q (by simp))
    rw [rowsOf, List.length_cons, Nat.pow_succ]
    refine Nat.le_trans h1 ?_
    rw [Nat.mul_comm (5 ^ l.length) 5, ← Nat.mul_assoc]
    exact Nat.mul_le_mul_right _ (Nat.mul_le_mul_left _ h2)
theorem rowsOf_row (x : Str) : ∀ (l : List (HandM × Int)) (rows : List (List (Option Int))) (m : Nat), (∀ r ∈ rows, r.length ≤ m) → ∀ r ∈ rowsOf x l rows, r.length ≤ m + l.length
  | [], rows, m, h => fun r hr => h r hr
  | q :: l, rows, m, h => fun r hr => by
    have := rowsOf_row x l (rowsMore rows (stepNums q.1 q.2 x)) (m + 1) (fun r hr => by
      obtain ⟨a, ha, n, hn, rfl⟩ := mem_rowsMore.mp hr
      have := h a ha
      simp only [List.length_append, List.length_cons, List.length_nil]
      omega) r hr
    rw [List.length_cons]
    omega
def movesFor (S : SysM) (st : Stg) (ws : List Str) : List Move := ws.flatMap fun w => (rowsOf w (S.hands.zip st) [[]]).map fun r => (w, r)
theorem movesFor_snoc {S : SysM} {st : Stg} {ws : List Str} {i : Nat} {x : Str} (h : ws[i]? = some x) : movesFor S st (ws.take (i + 1)) = movesFor S st (ws.take i) ++ (rowsOf x (S.hands.zip st) [[]]).map fun r => (x, r) := by
  rw [take_snoc h, movesFor, movesFor, List.flatMap_append]
  simp
theorem rows_len {S : SysM} (o : SysOk S) (st : Stg) (x : Str) (n : Nat) : (rowsOf x ((S.hands.zip st).take n) [[]]).length ≤ 125 := by
  have h1 := rowsOf_len x ((S.hands.zip st).take n) [[]] fun q hq => (o.hand q.1 (List.of_mem_zip (List.mem_of_mem_take hq)).1).few
  have h2 : ((S.hands.zip st).take n).length ≤ 3 := by
    have := o.few
    rw [List.length_take, List.length_zip]
    omega
  refine Nat.le_trans h1 ?_
  rw [show ([[]] : List (List (Option Int))).length = 1 from rfl, Nat.one_mul]
  exact Nat.pow_le_pow_right (by decide) h2
theorem movesFor_len {S : SysM} (o : SysOk S) (st : Stg) : ∀ ws : List Str, (movesFor S st ws).length ≤ ws.length * 125
  | [] => by simp [movesFor]
  | x :: ws => by
    have h1 := movesFor_len o st ws
    have h2 := rows_len o st x (S.hands.zip st).length
    rw [List.take_length] at h2
    simp only [movesFor, List.flatMap_cons, List.length_append, List.length_map, List.length_cons] at h1 ⊢
    omega
def sp_moves (K : PySem.W.Frag) : Sp := fun vs H Q _ => ∃ (p b : Addr) (S : SysM) (st : Stg), vs = [.ref p, .ref b] ∧ SysAt K H p S ∧ SysG S ∧ H b = some (.tup (st.map .int)) ∧ StOk S st ∧
  ∀ (c : Addr) (H' : Hp), H c = none → Same H H' → Ls H' c ((movesOf S st).map dMove) → Q (.ref c) H'
theorem ok_System_moves (T : Tx K mg) : C8.Met P w K mg base 3 (He.ga K "System") "moves" (sp_moves K) [] := met_System_moves T (fun vs H Q E ⟨_, _, _, _, h, _⟩ => by rw [h]; rfl) fun cdv A outer s H vs Q E hr h => by
  refine ⟨_, (pss_cons (ps_expr (C8.pe_c (ok_check_standing T) hr (by decide) (by rfl) (pa_cons (pv 0) (pa_cons (pv 1) pa_nil))))
    (pss_cons (ps_set (i := 2) sc_System_moves.nd rfl (Or.inl rfl) (pe_lst pa_nil))
    (C8.pss_cut (ps_for PassesOwn.never rfl (pi_tup (pe_fld (pv 0) rfl)) (pg_name (i := 3) sc_System_moves.nd rfl (Or.inr rfl))
      (pss_cons (ps_set (i := 4) sc_System_moves.nd rfl (Or.inl rfl) (pe_lst (pa_cons (pe_tup pa_nil) pa_nil)))
    (C8.pss_cut (ps_for PassesOwn.never rfl (pi_enumT (by rfl) T.f_enumerate (pa_cons (pe_fld (pv 0) rfl) pa_nil)) (pg_tup rfl (pgs_cons (pg_name (i := 5) sc_System_moves.nd rfl (Or.inl rfl)) (pgs_cons (pg_name (i := 6) sc_System_moves.nd rfl (Or.inl rfl)) pgs_nil)))
      (pss_cons (ps_set (i := 7) sc_System_moves.nd rfl (Or.inr rfl) (C8.pe_c (ok_step_numbers T) hr (by decide) (by rfl) (pa_cons (pv 6) (pa_cons (pe_ix ix_tup (pv 1) (pv 5) (fun _ _ => rfl)) (pa_cons (pv 3) pa_nil)))))
    (pss_one (ps_setLc2 (i := 4) (own := [("row", 8), ("number", 9)]) (g := gName 8) (g1 := gName 9) (tt := tYes) (tt1 := tYes) (vs1 := [9]) (by rfl) sc_System_moves.nd rfl rfl (sw_true rfl rfl rfl (by decide +kernel)) (pi_list (pv 4)) (blkOk_by (own := [("row", 8), ("number", 9)]) (N := n_System_moves) (sc := defScope s_System_moves) (by decide +kernel)) (by decide) (fun _ _ _ _ _ => pg_name (i := 8) sc_System_moves.nd rfl (Or.inl rfl)) (fun _ _ _ _ _ => pts_nil) (fun _ _ _ _ _ => (pi_listB (K := K) rfl (pv 7))) (fun _ _ _ _ _ => pg_name (i := 9) sc_System_moves.nd rfl (Or.inl rfl)) (fun _ _ _ _ _ => pts_nil) (fun _ _ _ _ _ => (pe_op (op_catAB (K := K) rfl) (pv 8) (pe_tup (pa_cons (pv 9) pa_nil))))))))
    (pss_one (ps_expr (pe_bm PySem.F.plainAttrs_list PySem.F.slot_list_extend PySem.F.type_list_extend mt_extend (pv 2) (pa_cons (pe_lc (own := [("row", 8)]) (g := gName 8) (tt := tYes) (by rfl) sc_System_moves.nd (pi_list (pv 4)) (blkOk_by (own := [("row", 8)]) (N := n_System_moves) (sc := defScope s_System_moves) (by decide +kernel)) (fun _ _ _ _ _ => pg_name (i := 8) sc_System_moves.nd rfl (Or.inl rfl)) (fun _ _ _ _ _ => pts_nil) (fun _ _ _ _ _ => (pe_tup (pa_cons (pv 3) (pa_cons (pv 8) pa_nil))))) pa_nil)))))))
    (pss_one (ps_ret (pv 2)))))), ?_⟩
  obtain ⟨p, b, S, st, rfl, hS, hG, hb, ok, q⟩ := h
  nested_keys
  refine ⟨p, b, S, st, rfl, hS, hb, ok, fun H1 s1 => ?_⟩
  have hS1 := hS.same s1
  obtain ⟨dx, a1, a2, a3, a4, ps, i1, i2, i3, i4, i5, i6⟩ := hS
  have lp := pairedLen i3
  nested_keys
  refine ⟨Nat.zero_le _, fun F hF => ?_⟩
  have nF : H F = none := s1.none hF
  have sF : Same H (upd H1 F (.lst [])) := s1.put nF
  refine ⟨fun σ' H' => Same H H' ∧ Ls H' F ((movesOf S st).map dMove) ∧ ∃ u1 u2 u3 u4 u5 u6 u7, σ' = [some (V.ref p), some (V.ref b), some (V.ref F), u1, u2, u3, u4, u5, u6, u7], ?_, ?_⟩
  · nested_keys
    refine ⟨p, _, dx, _, _, rfl, sF _ _ i1, T.c_System, T.a_System_words, fSys_words, ?_⟩
    nested_keys
    refine ⟨⟨_, SqT.of (sF _ _ i5)⟩, for_it (walk_tu (S.words.map V.str)) (fun n σ' H' => Same H H' ∧ Ls H' F ((movesFor S st (S.words.take n)).map dMove) ∧ ∃ u1 u2 u3 u4 u5 u6 u7, σ' = [some (V.ref p), some (V.ref b), some (V.ref F), u1, u2, u3, u4, u5, u6, u7]) ⟨sF, ⟨[], upd_same, .nil⟩, _, _, _, _, _, _, _, rfl⟩ (fun _ _ _ _ k => SqT.of (k.1 _ _ i5)) ?_ ?_⟩
    · rintro n v σ2 H2 H3 hi ⟨sm, ⟨fv, hF2, rF⟩, u1, u2, u3, u4, u5, u6, u7, rfl⟩ ⟨rfl, hv⟩
      rw [List.getElem?_map] at hv
      obtain ⟨x, hx, rfl⟩ := Option.map_eq_some_iff.mp hv
      nested_keys
      refine ⟨Nat.zero_le _, fun e he => ?_⟩
      refine ⟨by show 1 ≤ sizeLine; decide, fun r hr' => ?_⟩
      have smr : Same H (upd (upd H3 e (.tup [])) r (.lst [.ref e])) := (sm.put (sm.none he)).put ((sm.put (sm.none he)).none hr')
      have hr0 : upd (upd H3 e (.tup [])) r (.lst [.ref e]) e = some (.tup []) := by rw [upd_ne (ne_of_none upd_same hr')]; exact upd_same
      have nFr : F ≠ r := fun z => by rw [← z, upd_ne (ne_of_none hF2 he), hF2] at hr'; cases hr'
      have hF3 : upd (upd H3 e (.tup [])) r (.lst [.ref e]) F = some (.lst fv) := by rw [upd_ne nFr, upd_ne (ne_of_none hF2 he)]; exact hF2
      have tp3 : Tups H3 (upd (upd H3 e (.tup [])) r (.lst [.ref e])) := fun b xs z => by
        have z' : upd H3 e (.tup []) b = some (.tup xs) := by rw [upd_ne (ne_of_none z he)]; exact z
        rw [upd_ne (ne_of_none z' hr')]
        exact z'
      have rF3 := rF.at tp3
      have hrr : upd (upd H3 e (.tup [])) r (.lst [.ref e]) r = some (.lst [.ref e]) := upd_same
      generalize upd (upd H3 e (.tup [])) r (.lst [.ref e]) = H4 at smr hr0 hF3 rF3 hrr |-
      have zl : (S.hands.zip st).length = ps.length := by rw [List.length_zip, ok.len, Nat.min_self, lp]
      refine ⟨fun σ' H' => Same H4 H' ∧ ∃ r, Ls H' r ((rowsOf x (S.hands.zip st) [[]]).map dLine) ∧ ∃ u5 u6 u7 u8 u9, σ' = [some (V.ref p), some (V.ref b), some (V.ref F), some (.str x), some (.ref r), u5, u6, u7, u8, u9], ?_, ?_⟩
      · nested_keys
        refine ⟨p, _, dx, _, _, rfl, smr _ _ i1, T.c_System, T.a_System_hands, fSys_hands, ?_⟩
        refine ⟨a1, _, rfl, SqT.of (smr _ _ i2), for_it (walk_enT (ps.map V.ref)) (fun i σ' H' => Same H4 H' ∧ ∃ r, Ls H' r ((rowsOf x ((S.hands.zip st).take i) [[]]).map dLine) ∧ ∃ u5 u6 u7 u8 u9, σ' = [some (V.ref p), some (V.ref b), some (V.ref F), some (.str x), some (.ref r), u5, u6, u7, u8, u9]) ⟨fun _ _ e => e, r, ⟨_, hrr, .cons (.tup hr0 .nil) .nil⟩, _, _, _, _, _, rfl⟩ (fun _ _ _ _ k => SqT.of (k.1 _ _ (smr _ _ i2))) ?_ ?_⟩
        · rintro i y σ5 H5 H6 hi ⟨sm5, r5, ⟨rv, hr5, rr5⟩, v5, v6, v7, v8, v9, rfl⟩ ⟨t, x2, rfl, ht, rfl, hx2⟩
          rw [List.getElem?_map] at hx2
          obtain ⟨pp, hp, rfl⟩ := Option.map_eq_some_iff.mp hx2
          obtain ⟨h, h1, h2⟩ := pairedAt i3 i pp hp
          obtain ⟨z, e1, e2⟩ := ok.get h1
          have sm6 : Same H4 (upd H5 t (.tup [.int (i : Nat), .ref pp])) := sm5.put (sm5.none ht)
          have sm6H : Same H (upd H5 t (.tup [.int (i : Nat), .ref pp])) := fun b o e => sm6 _ _ (smr _ _ e)
          have s56 : Same H5 (upd H5 t (.tup [.int (i : Nat), .ref pp])) := Same.new ht
          have few : h.steps.length ≤ 5 := (hG.hands h (List.mem_of_getElem? h1)).ok.few
          refine ⟨t, _, rfl, SqT.of upd_same, rfl, _, _, rfl, _, _, rfl, rfl, ?_⟩
          nested_keys
          refine ⟨b, _, _, _, rfl, rfl, SqT.of (sm6H _ _ hb), atI_nat (by rw [List.getElem?_map, e1]; rfl), ?_⟩
          nested_keys
          refine ⟨pp, h, z, x, rfl, h2.same sm6H, by omega, fun c H7 s7 hc => ?_⟩
          have sm7 : Same H4 H7 := fun b o e => s7 _ _ (sm6 _ _ e)
          have s57 : Same H5 H7 := fun b o e => s7 _ _ (s56 _ _ e)
          have hr7 : H7 r5 = some (.lst rv) := s57 _ _ hr5
          have rr7 := s57.rks rr5
          have rl := rows_len hG.ok st x i
          have el : rowsOf x ((S.hands.zip st).take (i + 1)) [[]] = rowsMore (rowsOf x ((S.hands.zip st).take i) [[]]) (stepNums h z x) := by
            rw [take_snoc ((List.getElem?_zip_eq_some (z := (h, z))).mpr ⟨h1, e1⟩), rowsOf_snoc]
          have nl : (stepNums h z x).length ≤ 5 := stepNums_len few
          have rs : ∀ r ∈ rowsOf x ((S.hands.zip st).take i) [[]], r.length ≤ 3 := fun r hr => by
            have l1 := rowsOf_row x ((S.hands.zip st).take i) [[]] 0 (by simp) r hr
            have l2 : ((S.hands.zip st).take i).length ≤ 3 := by
              have := hG.ok.few
              rw [List.length_take, List.length_zip]
              omega
            omega
          generalize rowsOf x ((S.hands.zip st).take i) [[]] = rows at rr7 rl el rs |-
          generalize stepNums h z x = nums at hc nl el |-
          rw [el]
          nested_keys
          refine ⟨⟨_, SqL.of hr7⟩, fun D hD => ?_⟩
          refine gc_it (walk_li rv) (fun k H8 => Same H7 H8 ∧ Ls H8 D ((rowsMore (rows.take k) nums).map dLine)) ⟨Same.new hD, ⟨[], upd_same, .nil⟩⟩ (fun _ _ _ k => SqL.of (k.1 _ _ hr7)) ?_ ?_
          · rintro k w8 H8 H9 hk ⟨sm8, hD8⟩ ⟨rfl, hw8⟩
            obtain ⟨row, g1, g2⟩ := rr7.mapV hw8
            nested_keys
            refine ⟨⟨_, SqL.of (sm8 _ _ hc)⟩, ?_⟩
            refine gc_it (walk_li (nums.map numV)) (fun j H9 => Same H7 H9 ∧ Ls H9 D ((rowsMore (rows.take k) nums ++ (nums.take j).map fun n => row ++ [n]).map dLine)) ⟨sm8, by simpa using hD8⟩ (fun _ _ _ k => SqL.of (k.1 _ _ hc)) ?_ ?_
            · rintro j w9 HX H11 hj ⟨sm9, dv, hD9, rD9⟩ ⟨rfl, hw9⟩
              rw [List.getElem?_map] at hw9
              obtain ⟨nn, hnn, rfl⟩ := Option.map_eq_some_iff.mp hw9
              obtain ⟨rb, rfl, hrb⟩ := (sm9.rk g2).nums
              have size : dv.length < sizeLine := by
                rw [rD9.len, List.length_append, rowsMore_len, List.length_map]
                have l1 : (rows.take k).length ≤ 125 := Nat.le_trans (List.length_take_le' _ _) rl
                have l2 : (nums.take j).length ≤ 5 := Nat.le_trans (List.length_take_le' _ _) nl
                have l3 := Nat.mul_le_mul l1 nl
                exact line24 (m := 630) (by omega)
              have ed : ∀ {H' : Hp} {v : V}, Tups H11 H' → Rk H' (dLine (row ++ [nn])) v → Rks H' ((rowsMore (rows.take k) nums ++ (nums.take (j + 1)).map fun n => row ++ [n]).map dLine) (dv ++ [v]) := fun t r => by
                have e3 : (rowsMore (rows.take k) nums ++ (nums.take (j + 1)).map fun n => row ++ [n]) = (rowsMore (rows.take k) nums ++ (nums.take j).map fun n => row ++ [n]) ++ [row ++ [nn]] := by
                  rw [take_snoc hnn, List.map_append, ← List.append_assoc]
                  rfl
                rw [e3, List.map_append]
                exact (rD9.at t).append (.cons r .nil)
              nested_keys
              refine ⟨by show 1 ≤ sizeLine; decide, fun q1 hq1 => ?_⟩
              have sq1 : Same H11 (upd H11 q1 (.tup [numV nn])) := Same.new hq1
              refine ⟨rb, q1, _, _, rfl, rfl, SqT.of (sq1 _ _ hrb), SqT.of upd_same, ?_, ?_, ?_, ?_⟩
              · have := rs row (List.mem_of_getElem? g1)
                rw [List.length_map]
                exact Nat.le_of_lt (line24 (m := 4) (by show row.length + 1 ≤ 4; omega))
              · intro e0
                have e0' : row = [] := by simpa using e0
                subst e0'
                refine ⟨_, sq1 _ _ hD9, size, ?_, _, upd_same, ed ?_ ?_⟩
                · exact fun b o e => by
                    rw [upd_ne (fun z => by rw [z, hD] at e; cases e)]
                    exact sq1 _ _ (sm9 _ _ e)
                · exact fun b xs e => by
                    rw [upd_ne (fun z => by rw [z, hD9] at e; cases e)]
                    exact sq1 _ _ e
                · refine .tup (by rw [upd_ne (fun z => by rw [z, hD9] at hq1; cases hq1)]; exact upd_same) (rks_num [nn])
              · intro _ e0
                cases e0
              · intro n1 n2 q2 hq2
                have sq2 : Same H11 (upd (upd H11 q1 (.tup [numV nn])) q2 (.tup (row.map numV ++ [numV nn]))) := sq1.put (sq1.none hq2)
                refine ⟨_, sq2 _ _ hD9, size, ?_, _, upd_same, ed ?_ ?_⟩
                · exact fun b o e => by
                    rw [upd_ne (fun z => by rw [z, hD] at e; cases e)]
                    exact sq2 _ _ (sm9 _ _ e)
                · exact fun b xs e => by
                    rw [upd_ne (fun z => by rw [z, hD9] at e; cases e)]
                    exact sq2 _ _ e
                · refine .tup (xs := (row ++ [nn]).map numV) (by rw [upd_ne (fun z => by rw [z, sq1 _ _ hD9] at hq2; cases hq2), upd_same, List.map_append]; rfl) (rks_num _)
            · rintro H10 ⟨sm9, hD9⟩
              rw [List.length_map, List.take_length] at hD9
              exact ⟨sm9, by rw [rowsMore_snoc g1]; exact hD9⟩
          · rintro H8 ⟨sm8, hD8⟩
            rw [rr7.len, List.take_length] at hD8
            exact ⟨fun b o e => sm8 _ _ (sm7 _ _ e), D, hD8, _, _, _, _, _, rfl⟩
        · rintro σ5 H5 ⟨sm5, r5, hr5, k⟩
          rw [List.length_map, ← zl, List.take_length] at hr5
          exact ⟨sm5, r5, hr5, k⟩
      · rintro σ5 H5 ⟨sm5, r5, ⟨rv, hr5, rr5⟩, v5, v6, v7, v8, v9, rfl⟩
        have hF5 := sm5 _ _ hF3
        have rl := rows_len hG.ok st x (S.hands.zip st).length
        rw [List.take_length] at rl
        nested_keys
        refine ⟨.inl ⟨rfl, _, SqL.of hF5⟩, ?_⟩
        nested_keys
        refine ⟨⟨_, SqL.of hr5⟩, fun D hD => ?_⟩
        refine lc_it (walk_li rv) (fun k H8 => Same H5 H8 ∧ Ls H8 D ((((rowsOf x (S.hands.zip st) [[]]).take k).map fun r => ((x, r) : Move)).map dMove)) ⟨Same.new hD, ⟨[], upd_same, .nil⟩⟩ (fun _ _ _ k => SqL.of (k.1 _ _ hr5)) ?_ ?_
        · rintro k w8 H8 H9 hk ⟨sm8, dv, hD8, rD8⟩ ⟨rfl, hw8⟩
          obtain ⟨row, g1, g2⟩ := rr5.mapV hw8
          obtain ⟨rb, rfl, hrb⟩ := (sm8.rk g2).nums
          have size : dv.length < sizeLine := by
            rw [rD8.len, List.length_map]
            exact line24 (m := 125) (Nat.le_trans (List.length_take_le' _ _) rl)
          nested_keys
          refine ⟨by show 2 ≤ sizeLine; decide, fun q1 hq1 => ?_⟩
          have sq1 : Same H9 (upd H9 q1 (.tup [.str x, .ref rb])) := Same.new hq1
          have nDq : q1 ≠ D := fun z => by rw [z, hD8] at hq1; cases hq1
          refine ⟨dv, sq1 _ _ hD8, size, ?_, _, upd_same, ?_⟩
          · exact fun b o e => by
              rw [upd_ne (fun z => by rw [z, hD] at e; cases e)]
              exact sq1 _ _ (sm8 _ _ e)
          · have tt : Tups H9 (upd (upd H9 q1 (.tup [.str x, .ref rb])) D (.lst (dv ++ [.ref q1]))) := fun b xs e => by
              rw [upd_ne (fun z => by rw [z, hD8] at e; cases e)]
              exact sq1 _ _ e
            rw [take_snoc g1, List.map_append, List.map_append]
            refine (rD8.at tt).append (.cons (Rk.ofMove (c := rb) ?_ (tt _ _ hrb)) .nil)
            rw [upd_ne nDq, upd_same]
        · rintro H8 ⟨sm8, dv, hD8, rD8⟩
          rw [rr5.len, List.take_length] at rD8
          have hF8 := sm8 _ _ hF5
          have rF8 : Rks H8 ((movesFor S st (S.words.take n)).map dMove) fv := sm8.rks (sm5.rks rF3)
          refine ⟨F, D, _, _, rfl, rfl, hF8, hD8, ?_, ?_, ⟨_, upd_same, ?_⟩, _, _, _, _, _, _, _, rfl⟩
          · rw [rF8.len, rD8.len, List.length_map]
            have m1 := movesFor_len hG.ok st (S.words.take n)
            have m2 : (S.words.take n).length ≤ 4 := Nat.le_trans (List.length_take_le' _ _) hG.ok.few2
            exact Nat.le_of_lt (line24 (m := 1000) (by omega))
          · exact fun b o e => by
              rw [upd_ne (fun z => by rw [z, nF] at e; cases e)]
              exact sm8 _ _ (sm5 _ _ (smr _ _ e))
          · have tt : Tups H8 (upd H8 F (.lst (fv ++ dv))) := fun b xs e => by
              rw [upd_ne (fun z => by rw [z, hF8] at e; cases e)]
              exact e
            rw [movesFor_snoc hx, List.map_append]
            exact (rF8.at tt).append (rD8.at tt)
    · rintro σ2 H2 ⟨sm, hk, k⟩
      rw [List.length_map, List.take_length] at hk
      exact ⟨sm, hk, k⟩
  · rintro σ2 H2 ⟨sm, hk, u1, u2, u3, u4, u5, u6, u7, rfl⟩
    nested_keys
    exact q F _ nF sm hk
end NS
/-! G10: the walks of System.able, System.started_at. -/
namespace NS
open PySem PySem.Spec PyProof.Rows L2
local macro_rules | `(tactic| nested_keys) => `(tactic| repeat (first | refine ⟨_, rfl, ?_⟩ | refine ⟨_, _, rfl, rfl, ?_⟩ | refine ⟨rfl, ?_⟩ | with_reducible refine iteT ?_ | with_reducible refine iteF ?_))
variable {P : Program} {w : World} {K : PySem.W.Frag} {mg : Str → Option Value} {base : Heap}
theorem Same.refl' {H : Hp} : Same H H := fun _ _ e => e
theorem Same.trans' {H H1 H2 : Hp} (a : Same H H1) (b : Same H1 H2) : Same H H2 := fun x o e => b _ _ (a _ _ e)
/-- a list that is not yet in H grows -/
theorem Same.grow {H H1 : Hp} {D : Addr} {o : HO} (a : Same H H1) (h : H D = none) : Same H (upd H1 D o) := a.put h
theorem holders_len (x : Str) : ∀ (l : List HandM) (n : Nat), (holders x l n).length ≤ l.length
  | [], _ => Nat.le_refl _
  | a :: l, n => by
    unfold holders
    have := holders_len x l (n + 1)
    split <;> simp only [List.length_cons] <;> omega
def sp_able (K : PySem.W.Frag) : Sp := fun vs H Q _ => ∃ (p b : Addr) (S : SysM) (st : Stg), vs = [.ref p, .ref b] ∧ SysAt K H p S ∧ SysG S ∧ H b = some (.tup (st.map .int)) ∧ StOk S st ∧
  ∀ (c : Addr) (ns : List Int) (H' : Hp), H c = none → Same H H' → H' c = some (.lst (ns.map .int)) → (∀ i, i ∈ ns ↔ AbleM S i st) → Q (.ref c) H'
theorem ok_System_able (T : Tx K mg) : C8.Met P w K mg base 3 (He.ga K "System") "able" (sp_able K) [] := met_System_able T (fun vs H Q E ⟨_, _, _, _, h, _⟩ => by rw [h]; rfl) fun cdv A outer s H vs Q E hr h => by
  refine ⟨_, (pss_cons (ps_expr (C8.pe_c (ok_check_standing T) hr (by decide) (by rfl) (pa_cons (pv 0) (pa_cons (pv 1) pa_nil))))
    (pss_cons (ps_set (i := 2) sc_System_able.nd rfl (Or.inl rfl) (pe_lst pa_nil))
    (C8.pss_cut (ps_for PassesOwn.never rfl (pi_tup (pe_fld (pv 0) rfl)) (pg_name (i := 3) sc_System_able.nd rfl (Or.inr rfl))
      (pss_cons (ps_setLc (i := 4) (own := [("at", 6), ("hand", 7)]) (by rfl) sc_System_able.nd rfl rfl (sw_true rfl rfl rfl (by decide +kernel)) (pi_enumT (by rfl) T.f_enumerate (pa_cons (pe_fld (pv 0) rfl) pa_nil)) (blkOk_by (own := [("at", 6), ("hand", 7)]) (N := n_System_able) (sc := defScope s_System_able) (by decide +kernel)) (fun _ _ _ _ _ => pg_tupB (n := 2) (K := K) rfl rfl (pgs_cons (pg_name (i := 6) sc_System_able.nd rfl (Or.inl rfl)) (pgs_cons (pg_name (i := 7) sc_System_able.nd rfl (Or.inl rfl)) pgs_nil))) (fun _ _ _ _ _ => pts_one (pt_cmpR (op_in_seqB (K := K) rfl) (pv 3) (pe_fldB (K := K) rfl (pv 7) rfl) (by rfl))) (fun _ _ _ _ _ => (pv 6)))
    (pss_cons (ps_setLc (i := 5) (own := [("at", 6)]) (g := gName 6) (by rfl) sc_System_able.nd rfl rfl (sw_true rfl rfl rfl (by decide +kernel)) (pi_list (pv 4)) (blkOk_by (own := [("at", 6)]) (N := n_System_able) (sc := defScope s_System_able) (by decide +kernel)) (fun _ _ _ _ _ => pg_name (i := 6) sc_System_able.nd rfl (Or.inl rfl)) (fun _ _ _ _ _ => pts_one (pt_not (pt_truthB (K := K) rfl (C8.pe_c (ok_step_numbers (P := P) (w := w) (base := base) T) hr (by decide) (by rfl) (pa_cons (pe_ix (ix_tupB (K := K) rfl) (pe_fldB (K := K) rfl (pv 0) rfl) (pv 6) (fun _ _ => rfl)) (pa_cons (pe_ix (ix_tupB (K := K) rfl) (pv 1) (pv 6) (fun _ _ => rfl)) (pa_cons (pv 3) pa_nil)))) (by intro _; rfl)))) (fun _ _ _ _ _ => (pv 6)))
    (pss_one (ps_if (pt_not (pt_truth (pv 5) (by intro _; rfl))) (pss_one (ps_expr (pe_bm PySem.F.plainAttrs_list PySem.F.slot_list_extend PySem.F.type_list_extend mt_extend (pv 2) (pa_cons (pv 4) pa_nil)))) pss_nil)))))
    (pss_one (ps_ret (pe_callB (cr_sortI rfl) (by rfl) T.f_sorted b_sorted (pa_cons (pe_callTy (cr_setOf rfl emb_int) (by rfl) T.f_set b_set (pa_cons (pv 2) pa_nil)) pa_nil))))))), ?_⟩
  obtain ⟨p, b, S, st, rfl, hS, hG, hb, ok, q⟩ := h
  nested_keys
  refine ⟨p, b, S, st, rfl, hS, hb, ok, fun H1 s1 => ?_⟩
  obtain ⟨dx, a1, a2, a3, a4, ps, i1, i2, i3, i4, i5, i6⟩ := hS
  have lp := pairedLen i3
  nested_keys
  refine ⟨Nat.zero_le _, fun F hF => ?_⟩
  have nF : H F = none := s1.none hF
  have sF : Same H (upd H1 F (.lst [])) := s1.put nF
  refine ⟨fun σ' H' => Same H H' ∧ (∃ ns : List Int, H' F = some (.lst (ns.map .int)) ∧ ns.length ≤ 12 ∧ ∀ i, i ∈ ns ↔ AbleM S i st) ∧ ∃ u1 u2 u3 u4 u5, σ' = [some (V.ref p), some (V.ref b), some (V.ref F), u1, u2, u3, u4, u5], ?_, ?_⟩
  · nested_keys
    refine ⟨p, _, dx, _, _, rfl, sF _ _ i1, T.c_System, T.a_System_words, fSys_words, ?_⟩
    nested_keys
    refine ⟨⟨_, SqT.of (sF _ _ i5)⟩, for_it (walk_tu (S.words.map V.str)) (fun n σ' H' => Same H H' ∧ (∃ ns : List Int, H' F = some (.lst (ns.map .int)) ∧ ns.length ≤ n * 3 ∧ ∀ i, i ∈ ns ↔ ∃ x ∈ S.words.take n, i ∈ holders x S.hands 0 ∧ Loose S st x) ∧ ∃ u1 u2 u3 u4 u5, σ' = [some (V.ref p), some (V.ref b), some (V.ref F), u1, u2, u3, u4, u5]) ⟨sF, ⟨[], upd_same, Nat.zero_le _, by simp⟩, _, _, _, _, _, rfl⟩ (fun _ _ _ _ k => SqT.of (k.1 _ _ i5)) ?_ ?_⟩
    · rintro n v σ2 H2 H3 hi ⟨sm, ⟨ns, hk, ln, mem⟩, u1, u2, u3, u4, u5, rfl⟩ ⟨rfl, hv⟩
      rw [List.getElem?_map] at hv
      obtain ⟨x, hx, rfl⟩ := Option.map_eq_some_iff.mp hv
      have n4 : n < 4 := by
        have h1 := (List.getElem?_eq_some_iff.mp hx).1
        have h2 := hG.ok.few2
        omega
      nested_keys
      refine ⟨p, _, dx, _, _, rfl, sm _ _ i1, T.c_System, T.a_System_hands, fSys_hands, ?_⟩
      refine ⟨a1, _, rfl, SqT.of (sm _ _ i2), fun D hD => ?_⟩
      refine lc_it (walk_enT (ps.map V.ref)) (fun k H4 => Same H3 H4 ∧ H4 D = some (.lst ((holders x (S.hands.take k) 0).map .int))) ⟨Same.new hD, upd_same⟩ (fun _ _ _ k => SqT.of (k.1 _ _ (sm _ _ i2))) ?_ ?_
      · rintro k y H4 H5 hk' ⟨sm4, hD4⟩ ⟨t, x2, rfl, ht, rfl, hx2⟩
        rw [List.getElem?_map] at hx2
        obtain ⟨pp, hp, rfl⟩ := Option.map_eq_some_iff.mp hx2
        obtain ⟨h, h1, h2⟩ := pairedAt i3 k pp hp
        have sm5 : Same H3 (upd H4 t (.tup [.int (k : Nat), .ref pp])) := sm4.put (sm4.none ht)
        have hD5 : upd H4 t (.tup [.int (k : Nat), .ref pp]) D = some (.lst ((holders x (S.hands.take k) 0).map .int)) := by rw [upd_ne (ne_of_none hD4 ht)]; exact hD4
        obtain ⟨hdx, b1, b2, b3, j1, j2, j3, j4⟩ := h2.same (Same.trans' sm sm5)
        have lk : (S.hands.take k).length = k := by
          have := (List.getElem?_eq_some_iff.mp h1).1
          rw [List.length_take]; omega
        have en : holders x (S.hands.take (k + 1)) 0 = holders x (S.hands.take k) 0 ++ (if x ∈ h.words then [((k : Nat) : Int)] else []) := by
          rw [take_snoc h1, holders_snoc, lk, Nat.zero_add]
        refine ⟨t, _, rfl, SqT.of upd_same, rfl, _, _, rfl, _, _, rfl, rfl, ?_⟩
        nested_keys
        refine ⟨pp, _, hdx, _, _, rfl, j1, T.c_Hand, T.a_Hand_words, fHand_words, ?_⟩
        refine ⟨b2, _, rfl, .inr (SqT.of j3), rfl, flat_strs _, ?_⟩
        rw [inV_text]
        nested_keys
        refine iteD (fun c => ?_) fun c => ?_
        · nested_keys
          refine ⟨_, hD5, ?_, sm5.put hD, ?_⟩
          · rw [List.length_map]
            exact line24 (m := 3) (Nat.le_trans (holders_len _ _ _) (Nat.le_trans (List.length_take_le' _ _) hG.ok.few))
          · rw [upd_same, en, if_pos c, List.map_append]
            rfl
        · refine ⟨sm5, ?_⟩
          rw [hD5, en, if_neg c, List.append_nil]
      · rintro H4 ⟨sm4, hD4⟩
        rw [List.length_map, lp, List.take_length] at hD4
        have hmem : ∀ i, i ∈ holders x S.hands 0 ↔ ∃ (j : Nat) (h : HandM), S.hands[j]? = some h ∧ x ∈ h.words ∧ i = ((0 + j : Nat) : Int) := fun i => mem_holders
        have hlen := holders_len x S.hands 0
        nested_keys
        refine ⟨⟨_, SqL.of hD4⟩, fun D2 hD2 => ?_⟩
        refine lc_it (walk_li ((holders x S.hands 0).map V.int)) (fun k H5 => Same H4 H5 ∧ ∃ sk : List Int, H5 D2 = some (.lst (sk.map .int)) ∧ sk.length ≤ k ∧ (sk = [] ↔ ∀ i ∈ (holders x S.hands 0).take k, ∀ (j : Nat) h z, i = ((j : Nat) : Int) → S.hands[j]? = some h → st[j]? = some z → stepNums h z x ≠ [])) ⟨Same.new hD2, [], upd_same, Nat.zero_le _, by simp⟩ (fun _ _ _ k => SqL.of (k.1 _ _ hD4)) ?_ ?_
        · rintro k y H5 H6 hk' ⟨sm5, sk, hD5, lk, ek⟩ ⟨rfl, hy⟩
          rw [List.getElem?_map] at hy
          obtain ⟨i, hi2, rfl⟩ := Option.map_eq_some_iff.mp hy
          obtain ⟨j, h, g1, g2, g3⟩ := (hmem i).mp (List.mem_of_getElem? hi2)
          rw [Nat.zero_add] at g3
          subst g3
          obtain ⟨z, e1, e2⟩ := ok.get g1
          obtain ⟨pp, g4, g5⟩ : ∃ pp, ps[j]? = some pp ∧ HandAt K H pp h := by
            have hj : j < ps.length := by rw [lp]; exact (List.getElem?_eq_some_iff.mp g1).1
            obtain ⟨h', y1, y2⟩ := pairedAt i3 j ps[j] (List.getElem?_eq_getElem hj)
            rw [g1] at y1
            cases y1
            exact ⟨_, List.getElem?_eq_getElem hj, y2⟩
          have sH : Same H H6 := Same.trans' sm (Same.trans' sm4 sm5)
          have few : h.steps.length ≤ 5 := (hG.hands h (List.mem_of_getElem? g1)).ok.few
          have k3 : k < 3 := by
            have := (List.getElem?_eq_some_iff.mp hi2).1
            have := hG.ok.few
            omega
          nested_keys
          refine ⟨p, _, dx, _, _, rfl, sH _ _ i1, T.c_System, T.a_System_hands, fSys_hands, ?_⟩
          nested_keys
          refine ⟨a1, _, _, _, rfl, rfl, SqT.of (sH _ _ i2), atI_nat (by rw [List.getElem?_map, g4]; rfl), ?_⟩
          nested_keys
          refine ⟨b, _, _, _, rfl, rfl, SqT.of (sH _ _ hb), atI_nat (by rw [List.getElem?_map, e1]; rfl), ?_⟩
          nested_keys
          refine ⟨pp, h, z, x, rfl, g5.same sH, by omega, fun c H7 s7 hc => ?_⟩
          refine ⟨_, .inl ⟨_, SqL.of hc, rfl⟩, ?_⟩
          have sm7 : Same H4 H7 := Same.trans' sm5 s7
          have hD7 := s7 _ _ hD5
          have nx : ∀ g : List Int → Prop, (∀ i ∈ (holders x S.hands 0).take (k + 1), ∀ (j' : Nat) h z, i = ((j' : Nat) : Int) → S.hands[j']? = some h → st[j']? = some z → stepNums h z x ≠ []) ↔ (∀ i ∈ (holders x S.hands 0).take k, ∀ (j : Nat) h z, i = ((j : Nat) : Int) → S.hands[j]? = some h → st[j]? = some z → stepNums h z x ≠ []) ∧ stepNums h z x ≠ [] := fun _ => by
            rw [take_snoc hi2]
            constructor
            · intro a
              exact ⟨fun i hi => a i (List.mem_append_left _ hi), a _ (List.mem_append_right _ (by simp)) j h z rfl g1 e1⟩
            · rintro ⟨a, a'⟩ i hi j' h' z' ei gh gz
              rcases List.mem_append.mp hi with hi | hi
              · exact a i hi j' h' z' ei gh gz
              · rw [List.mem_singleton] at hi
                have : j' = j := by omega
                subst this
                rw [g1] at gh
                rw [e1] at gz
                cases gh
                cases gz
                exact a'
          by_cases e0 : stepNums h z x = []
          · rw [e0]
            nested_keys
            refine ⟨_, hD7, by rw [List.length_map]; exact line24 (m := 3) (by omega), sm7.put hD2, sk ++ [((j : Nat) : Int)], by rw [upd_same, List.map_append]; rfl, by rw [List.length_append]; simpa using lk, ?_⟩
            rw [nx fun _ => True]
            constructor
            · intro z; simp at z
            · intro z; exact absurd e0 z.2
          · have en : ((stepNums h z x).map numV).isEmpty = false := by
              cases e : stepNums h z x with
              | nil => exact absurd e e0
              | cons _ _ => rfl
            rw [en]
            nested_keys
            refine ⟨sm7, sk, hD7, by omega, ?_⟩
            rw [nx fun _ => True, ek]
            exact ⟨fun z => ⟨z, e0⟩, fun z => z.1⟩
        · rintro H5 ⟨sm5, sk, hD5, lk, ek⟩
          rw [List.length_map, List.take_length] at ek
          have loose : sk = [] ↔ Loose S st x := by
            rw [ek]
            constructor
            · intro a i h z h1 h2 h3
              exact a _ ((hmem _).mpr ⟨i, h, h1, h3, by rw [Nat.zero_add]⟩) i h z rfl h1 h2
            · intro a i hi j h z ei h1 h2
              obtain ⟨j', h', g1, g2, g3⟩ := (hmem i).mp hi
              have : j' = j := by omega
              subst this
              rw [h1] at g1
              cases g1
              exact a j' _ _ h1 h2 g2
          have sH : Same H H5 := Same.trans' sm (Same.trans' sm4 sm5)
          have hk5 := sm5 _ _ (sm4 _ _ hk)
          nested_keys
          refine ⟨_, .inl ⟨_, SqL.of hD5, rfl⟩, ?_⟩
          have fin : ∀ (ms : List Int) (H' : Hp), Same H H' → H' F = some (.lst (ms.map V.int)) → ms.length ≤ ns.length + 3 → (∀ i, i ∈ ms ↔ i ∈ ns ∨ (i ∈ holders x S.hands 0 ∧ Loose S st x)) → Same H H' ∧ (∃ ns : List Int, H' F = some (.lst (ns.map .int)) ∧ ns.length ≤ (n + 1) * 3 ∧ ∀ i, i ∈ ns ↔ ∃ x ∈ S.words.take (n + 1), i ∈ holders x S.hands 0 ∧ Loose S st x) := fun ms H' a b c d => by
            refine ⟨a, ms, b, by omega, fun i => ?_⟩
            rw [d, mem, take_snoc hx]
            simp only [List.mem_append, List.mem_singleton]
            constructor
            · rintro (⟨y, h1, h2⟩ | h2)
              · exact ⟨y, .inl h1, h2⟩
              · exact ⟨x, .inr rfl, h2⟩
            · rintro ⟨y, h1 | rfl, h2⟩
              · exact .inl ⟨y, h1, h2⟩
              · exact .inr h2
          cases sk with
          | nil =>
            have lo := loose.mp rfl
            nested_keys
            refine ⟨.inl ⟨rfl, _, SqL.of hk5⟩, ?_⟩
            nested_keys
            refine ⟨F, D, _, _, rfl, rfl, hk5, sm5 _ _ hD4, ?_, ?_⟩
            · rw [List.length_map, List.length_map]
              have := hG.ok.few
              exact Nat.le_of_lt (line24 (m := 20) (by omega))
            · obtain ⟨f1, f2⟩ := fin (ns ++ holders x S.hands 0) (upd H5 F (.lst (ns.map V.int ++ (holders x S.hands 0).map V.int))) (sH.put nF) (by rw [upd_same, List.map_append]) (by rw [List.length_append]; have := hG.ok.few; omega) (fun i => by rw [List.mem_append]; exact ⟨fun z => z.imp id fun z => ⟨z, lo⟩, fun z => z.imp id fun z => z.1⟩)
              exact ⟨f1, f2, _, _, _, _, _, rfl⟩
          | cons a l =>
            have lo : ¬ Loose S st x := fun z => by cases loose.mpr z
            nested_keys
            obtain ⟨f1, f2⟩ := fin ns H5 sH hk5 (by omega) (fun i => ⟨.inl, fun z => z.elim id fun z => absurd z.2 lo⟩)
            exact ⟨f1, f2, _, _, _, _, _, rfl⟩
    · rintro σ2 H2 ⟨sm, ⟨ns, hk, ln, mem⟩, k⟩
      rw [List.length_map] at ln mem
      rw [List.take_length] at mem
      exact ⟨sm, ⟨ns, hk, by have := hG.ok.few2; omega, mem⟩, k⟩
  · rintro σ2 H2 ⟨sm, ⟨ns, hk, ln, mem⟩, u1, u2, u3, u4, u5, rfl⟩
    nested_keys
    refine ⟨F, ns, rfl, .inl (SqL.of hk), Nat.lt_of_le_of_lt (show _ ≤ 13 by omega) (by decide), fun g hg => ?_⟩
    refine ⟨g, _, ns, rfl, upd_same, fun _ => .rfl, by omega, fun ys c so mem2 hc => ?_⟩
    have sm3 := sm.put (o := gNO (intKind P w) g ns) (sm.none hg)
    exact q c ys _ (sm3.none hc) (sm3.put (sm3.none hc)) upd_same fun i => by rw [mem2, mem]
end NS
/-! G11: the walk of System.started_at. -/
namespace NS
open PySem PySem.Spec PyProof.Rows L2
local macro_rules | `(tactic| nested_keys) => `(tactic| repeat (first | refine ⟨_, rfl, ?_⟩ | refine ⟨_, _, rfl, rfl, ?_⟩ | refine ⟨rfl, ?_⟩ | with_reducible refine iteT ?_ | with_reducible refine iteF ?_))
variable {P : Program} {w : World} {K : PySem.W.Frag} {mg : Str → Option Value} {base : Heap}
theorem words_same {h h' : HandM} (o : HandOk h) (o' : HandOk h') (e : h'.steps = h.steps) : h'.words = h.words := pw_unique o'.voc o.voc fun x => by
  rw [o.mem, o'.mem, e]
def sp_started_at (K : PySem.W.Frag) : Sp := fun vs H Q _ => ∃ (p b : Addr) (S : SysM) (st : Stg), vs = [.ref p, .ref b] ∧ SysAt K H p S ∧ SysG S ∧ H b = some (.tup (st.map .int)) ∧ StOk S st ∧
  ∀ (c : Addr) (S' : SysM) (H' : Hp), Same H H' → SysAt K H' c S' → SysG S' → Later S S' → S'.start = st → Q (.ref c) H'
theorem ok_System_started_at (T : Tx K mg) : C8.Met P w K mg base 7 (He.ga K "System") "started_at" (sp_started_at K) [] := met_System_started_at T (fun vs H Q E ⟨_, _, _, _, h, _⟩ => by rw [h]; rfl) fun cdv A outer s H vs Q E hr h => by
  refine ⟨_, (pss_cons (ps_expr (C8.pe_c (ok_check_standing T) hr (by decide) (by rfl) (pa_cons (pv 0) (pa_cons (pv 1) pa_nil))))
    (pss_cons (ps_setLc (i := 2) (own := [("at", 3), ("hand", 4)]) (tt := tYes) (by rfl) sc_System_started_at.nd rfl rfl (sw_true rfl rfl rfl (by decide +kernel)) (pi_enumT (by rfl) T.f_enumerate (pa_cons (pe_fld (pv 0) rfl) pa_nil)) (blkOk_by (own := [("at", 3), ("hand", 4)]) (N := n_System_started_at) (sc := defScope s_System_started_at) (by decide +kernel)) (fun _ _ _ _ _ => pg_tupB (n := 2) (K := K) rfl rfl (pgs_cons (pg_name (i := 3) sc_System_started_at.nd rfl (Or.inl rfl)) (pgs_cons (pg_name (i := 4) sc_System_started_at.nd rfl (Or.inl rfl)) pgs_nil))) (fun _ _ _ _ _ => pts_nil) (fun _ _ _ _ _ => (C8.pe_mk (ok_Hand_init (P := P) (w := w) (base := base) T) hr (by decide) (by rfl) (pa_cons (pe_ix (ix_tupB (K := K) rfl) (pv 1) (pv 3) (fun _ _ => rfl)) (pa_cons (pe_fldB (K := K) rfl (pv 4) rfl) pa_nil)))))
    (pss_one (ps_ret (C8.pe_mk (ok_System_init T) hr (by decide) (by rfl) (pa_cons (pv 2) (pa_cons (pe_fld (pv 0) rfl) pa_nil))))))), ?_⟩
  obtain ⟨p, b, S, st, rfl, hS, hG, hb, ok, q⟩ := h
  nested_keys
  refine ⟨p, b, S, st, rfl, hS, hb, ok, fun H1 s1 => ?_⟩
  obtain ⟨dx, a1, a2, a3, a4, ps, i1, i2, i3, i4, i5, i6⟩ := hS
  have lp := pairedLen i3
  nested_keys
  refine ⟨p, _, dx, _, _, rfl, s1 _ _ i1, T.c_System, T.a_System_hands, fSys_hands, ?_⟩
  refine ⟨a1, _, rfl, SqT.of (s1 _ _ i2), fun D hD => ?_⟩
  refine lc_it (walk_enT (ps.map V.ref)) (fun n H2 => Same H1 H2 ∧ ∃ (qs : List Addr) (hs : List HandM), H2 D = some (.lst (qs.map .ref)) ∧ hs.length = n ∧ HandsAt K H2 qs hs ∧ (∀ h ∈ hs, HandG h) ∧ ∀ (i : Nat) h h', S.hands[i]? = some h → hs[i]? = some h' → h'.steps = h.steps ∧ st[i]? = some h'.start) ⟨Same.new hD, [], [], upd_same, rfl, .nil, by simp, by simp⟩ (fun _ _ _ k => SqT.of (k.1 _ _ (s1 _ _ i2))) ?_ ?_
  · rintro n y H2 H3 hi ⟨sm, qs, hs, hD2, ln, hh, hg, hst⟩ ⟨t, x2, rfl, ht, rfl, hx2⟩
    rw [List.getElem?_map] at hx2
    obtain ⟨pp, hp, rfl⟩ := Option.map_eq_some_iff.mp hx2
    obtain ⟨h, h1, h2⟩ := pairedAt i3 n pp hp
    have s23 : Same H2 (upd H2 t (.tup [.int (n : Nat), .ref pp])) := Same.new ht
    have sm3 : Same H1 (upd H2 t (.tup [.int (n : Nat), .ref pp])) := sm.put (sm.none ht)
    have sH3 := Same.trans' s1 sm3
    obtain ⟨hdx, b1, b2, b3, j1, j2, j3, j4⟩ := h2.same sH3
    obtain ⟨z, e1, e2⟩ := ok.get h1
    have gh := hG.hands h (List.mem_of_getElem? h1)
    obtain ⟨pool, pl, pe, psub, pok⟩ := gh.pool
    obtain ⟨b1', us, e, hb1, rk⟩ := j2.tup_eq
    cases e
    have n3 : n < 3 := by
      have := (List.getElem?_eq_some_iff.mp h1).1
      have := hG.ok.few
      omega
    refine ⟨t, _, rfl, SqT.of upd_same, rfl, _, _, rfl, _, _, rfl, rfl, ?_⟩
    nested_keys
    refine ⟨b, _, _, _, rfl, rfl, SqT.of (sH3 _ _ hb), atI_nat (by rw [List.getElem?_map, e1]; rfl), ?_⟩
    nested_keys
    refine ⟨pp, _, hdx, _, _, rfl, j1, T.c_Hand, T.a_Hand_steps, fHand_steps, ?_⟩
    intro x ndx nx nn ne
    have s4 : Same (upd H2 t (.tup [.int (n : Nat), .ref pp])) (upd (upd (upd H2 t (.tup [.int (n : Nat), .ref pp])) ndx (.own x)) x (.ins (He.ga K "Hand") ndx [])) := (Same.new nn).put nx
    refine ⟨x, ndx, z, b1, us, h.steps, pool, rfl, upd_same, .inr (s4 _ _ hb1), s4.rks rk, gh.st, pl, psub z e2, pe, pok, fun h' H5 g1 g2 g3 t5 hat => ?_⟩
    have s5 : Same (upd H2 t (.tup [.int (n : Nat), .ref pp])) H5 := Same1.back s4 nx t5
    have sm5 := Same.trans' sm3 s5
    have s25 := Same.trans' s23 s5
    nested_keys
    have hD5 := s25 _ _ hD2
    refine ⟨_, hD5, by rw [List.length_map, pairedLen hh, ln]; exact line24 (m := 3) (by omega), sm5.put hD, qs ++ [x], hs ++ [h'], by rw [upd_same, List.map_append]; rfl, by rw [List.length_append, ln]; rfl, ?_, ?_, ?_⟩
    · have mv : ∀ {q : Addr} {h : HandM}, HandAt K H5 q h → HandAt K (upd H5 D (.lst (qs.map V.ref ++ [.ref x]))) q h := by
        rintro q h ⟨c1, c2, c3, c4, k1, k2, k3, k4⟩
        have nd : ∀ {c : Addr} {o : HO}, H5 c = some o → (∀ l, o ≠ .lst l) → c ≠ D := fun e no z => by rw [z, hD5] at e; cases e; exact no _ rfl
        exact ⟨c1, c2, c3, c4, by rw [upd_ne (nd k1 (fun _ z => by cases z))]; exact k1, k2.at (fun b xs e => by rw [upd_ne (nd e (fun _ z => by cases z))]; exact e), by rw [upd_ne (nd k3 (fun _ z => by cases z))]; exact k3, by rw [upd_ne (nd k4 (fun _ z => by cases z))]; exact k4⟩
      exact (L2.Paired.mapP (hh.same s25) fun _ _ y => mv y).snoc (mv hat)
    · intro k hk
      rw [List.mem_append, List.mem_singleton] at hk
      rcases hk with hk | rfl
      · exact hg k hk
      · exact g1
    · intro i k k' q1 q2
      by_cases hin : i < hs.length
      · rw [List.getElem?_append_left hin] at q2
        exact hst i k k' q1 q2
      · have hle : i < (hs ++ [h']).length := (List.getElem?_eq_some_iff.mp q2).1
        rw [List.length_append, List.length_singleton] at hle
        have : i = n := by omega
        subst this
        rw [← ln, List.getElem?_append_right (Nat.le_refl _), Nat.sub_self] at q2
        cases q2
        rw [h1] at q1
        cases q1
        exact ⟨g3, by rw [g2]; exact e1⟩
  · rintro H2 ⟨sm, qs, hs, hD2, ln, hh, hg, hst⟩
    rw [List.length_map, lp] at ln
    have sH := Same.trans' s1 sm
    nested_keys
    refine ⟨p, _, dx, _, _, rfl, sH _ _ i1, T.c_System, T.a_System_diligent, fSys_diligent, ?_⟩
    intro x ndx nx nn ne
    have s4 : Same H2 (upd (upd H2 ndx (.own x)) x (.ins (He.ga K "System") ndx [])) := (Same.new nn).put nx
    have wsame : ∀ (i : Nat) h h', S.hands[i]? = some h → hs[i]? = some h' → h'.steps = h.steps ∧ h'.words = h.words := fun i h h' k1 k2 => by
      obtain ⟨k3, _⟩ := hst i h h' k1 k2
      exact ⟨k3, words_same (hG.hands h (List.mem_of_getElem? k1)).ok (hg h' (List.mem_of_getElem? k2)).ok k3⟩
    have back : ∀ h' ∈ hs, ∃ h ∈ S.hands, h'.words = h.words := fun h' hm => by
      obtain ⟨i, hi⟩ := List.getElem?_of_mem hm
      have li : i < S.hands.length := by rw [← ln]; exact (List.getElem?_eq_some_iff.mp hi).1
      exact ⟨S.hands[i], List.getElem_mem li, (wsame i _ _ (List.getElem?_eq_getElem li) hi).2⟩
    have fwd : ∀ h ∈ S.hands, ∃ h' ∈ hs, h'.words = h.words := fun h hm => by
      obtain ⟨i, hi⟩ := List.getElem?_of_mem hm
      have li : i < hs.length := by rw [ln]; exact (List.getElem?_eq_some_iff.mp hi).1
      exact ⟨hs[i], List.getElem_mem li, (wsame i _ _ hi (List.getElem?_eq_getElem li)).2⟩
    have dl := s4 _ _ (sH _ _ i4)
    refine ⟨x, ndx, D, qs, hs, a2, S.dil, S.words, rfl, upd_same, s4 _ _ hD2, hh.same s4, hg, by rw [ln]; exact hG.ok.some_, by rw [ln]; exact hG.ok.few, .inr dl, hG.nd, by rw [ln]; exact hG.ok.dil, hG.ok.few3, hG.ok.few2, fun h' hm w hw => ?_, fun S' H5 g1 g2 g3 t5 sat => ?_⟩
    · obtain ⟨h, k1, k2⟩ := back h' hm
      exact (hG.ok.mem w).mpr ⟨h, k1, k2 ▸ hw⟩
    · have s5 : Same H2 H5 := Same1.back s4 nx t5
      nested_keys
      refine q x S' H5 (Same.trans' sH s5) sat g1 ⟨by rw [g2, ln], fun i h h' k1 k2 => wsame i h h' k1 (by rw [← g2]; exact k2), ?_, ?_⟩ ?_
      · refine pw_unique g1.ok.voc hG.ok.voc fun z => ?_
        rw [g1.ok.mem, hG.ok.mem, g2]
        constructor
        · rintro ⟨h', k1, k2⟩
          obtain ⟨h, k3, k4⟩ := back h' k1
          exact ⟨h, k3, k4 ▸ k2⟩
        · rintro ⟨h, k1, k2⟩
          obtain ⟨h', k3, k4⟩ := fwd h k1
          exact ⟨h', k3, k4 ▸ k2⟩
      · exact g3.eq_of_pairwise (fun a b _ _ h1 h2 => Int.le_antisymm h1 h2) g1.ds hG.ds
      · rw [g1.ok.start, g2]
        refine List.ext_getElem? fun i => ?_
        rw [List.getElem?_map]
        cases e : hs[i]? with
        | none =>
          have := List.getElem?_eq_none_iff.mp e
          exact (List.getElem?_eq_none_iff.mpr (by rw [ok.len, ← ln]; exact this)).symm
        | some h' =>
          have li : i < S.hands.length := by rw [← ln]; exact (List.getElem?_eq_some_iff.mp e).1
          exact (hst i _ h' (List.getElem?_eq_getElem li) e).2.symm
end NS
/-! G12: the walks of Ground, takes. -/
namespace NS
open PySem PySem.Spec PyProof.Rows L2
local macro_rules | `(tactic| nested_keys) => `(tactic| repeat (first | refine ⟨_, rfl, ?_⟩ | refine ⟨_, _, rfl, rfl, ?_⟩ | refine ⟨rfl, ?_⟩ | with_reducible refine iteT ?_ | with_reducible refine iteF ?_))
variable {N : Addr → Prop} {P : Program} {w : World} {K : PySem.W.Frag} {mg : Str → Option Value} {base : Heap}
abbrev fGr (p kw ka : Addr) : List (Str × V) := [("asked", .ref p), ("known_ways", .ref kw), ("known_able", .ref ka)]
theorem fGr_asked {p kw ka : Addr} : (fGr p kw ka).lookup ("asked" : Str) = some (V.ref p) := lkY
theorem fGr_ways {p kw ka : Addr} : (fGr p kw ka).lookup ("known_ways" : Str) = some (V.ref kw) := (lkN' (by decide +kernel)).trans lkY
theorem fGr_able {p kw ka : Addr} : (fGr p kw ka).lookup ("known_able" : Str) = some (V.ref ka) := (lkN' (by decide +kernel)).trans ((lkN' (by decide +kernel)).trans lkY)
/-- H' is H but at kw, ka -/
def But (kw ka : Addr) (H H' : Hp) : Prop := ∀ b o, b ≠ kw → b ≠ ka → H b = some o → H' b = some o
theorem _root_.L2.Same.but {kw ka : Addr} {H H' : Hp} (s : Same H H') : But kw ka H H' := fun b o _ _ e => s b o e
theorem But.trans {kw ka : Addr} {H H1 H2 : Hp} (a : But kw ka H H1) (b : But kw ka H1 H2) : But kw ka H H2 := fun x o n1 n2 e => b x o n1 n2 (a x o n1 n2 e)
theorem But.put {kw ka a : Addr} {H0 H : Hp} {o : HO} (s : But kw ka H0 H) (h : H a = none) : But kw ka H0 (upd H a o) := s.trans (Same.new h).but
structure KW (P : Program) (w : World) (S : SysM) (N : Addr → Prop) (H : Hp) (kw : Addr) (ks : List Ent) : Prop where
  at_ : H kw = some (dNO P w kw ks)
  kys : ∀ e ∈ ks, Ky H e.1 e.2.1
  nd : (ks.map (·.1)).Nodup
  says : ∀ e ∈ ks, ∃ st l, e.1 = dI st ∧ StOk S st ∧ e.2.2 = V.ref l ∧ Ls H l ((waysOf S st).map dWay)
  far : ∀ e ∈ ks, ∀ l, e.2.2 = V.ref l → ¬ N l
structure KA (P : Program) (w : World) (S : SysM) (N : Addr → Prop) (H : Hp) (ka : Addr) (ks : List Ent) : Prop where
  at_ : H ka = some (dNO P w ka ks)
  kys : ∀ e ∈ ks, Ky H e.1 e.2.1
  nd : (ks.map (·.1)).Nodup
  says : ∀ e ∈ ks, ∃ st l, ∃ ns : List Int, e.1 = dI st ∧ StOk S st ∧ e.2.2 = V.ref l ∧ H l = some (.lst (ns.map .int)) ∧ ∀ i, i ∈ ns ↔ AbleM S i st
  far : ∀ e ∈ ks, ∀ l, e.2.2 = V.ref l → ¬ N l
structure Gr (K : PySem.W.Frag) (P : Program) (w : World) (S : SysM) (N : Addr → Prop) (g kw ka : Addr) (H : Hp) : Prop where
  ins : ∃ dx p, H g = some (.ins (He.ga K "Ground") dx (fGr p kw ka)) ∧ SysAt K H p S
  ww : ∃ ks, KW P w S N H kw ks
  aa : ∃ ks, KA P w S N H ka ks
  ne : kw ≠ ka
theorem Gr.apart {S : SysM} {g kw ka : Addr} {H : Hp} (G : Gr K P w S N g kw ka H) {b : Addr} {o : HO} (h : H b = some o) (n : ∀ q, o ≠ .ext q) : b ≠ kw ∧ b ≠ ka := by
  obtain ⟨ks, k⟩ := G.ww
  obtain ⟨js, j⟩ := G.aa
  constructor
  · rintro rfl
    rw [k.at_] at h
    exact n _ (Option.some.inj h).symm
  · rintro rfl
    rw [j.at_] at h
    exact n _ (Option.some.inj h).symm
theorem Gr.keep {S : SysM} {g kw ka : Addr} {H H' : Hp} (G : Gr K P w S N g kw ka H) (t : But kw ka H H') {b : Addr} {o : HO} (h : H b = some o) (n : ∀ q, o ≠ .ext q) : H' b = some o := t b o (G.apart h n).1 (G.apart h n).2 h
theorem Gr.tups {S : SysM} {g kw ka : Addr} {H H' : Hp} (G : Gr K P w S N g kw ka H) (t : But kw ka H H') : Tups H H' := fun b xs e => G.keep t e (fun q z => by cases z)
theorem Gr.ls {S : SysM} {g kw ka : Addr} {H H' : Hp} (G : Gr K P w S N g kw ka H) (t : But kw ka H H') {l : Addr} {ks : List Dat} (h : Ls H l ks) : Ls H' l ks := by
  obtain ⟨vs, h1, h2⟩ := h
  exact ⟨vs, G.keep t h1 (fun q z => by cases z), h2.at (G.tups t)⟩
theorem Gr.hand {S : SysM} {g kw ka : Addr} {H H' : Hp} (G : Gr K P w S N g kw ka H) (t : But kw ka H H') {q : Addr} {h : HandM} (x : HandAt K H q h) : HandAt K H' q h := by
  obtain ⟨dx, a, b, c, h1, h2, h3, h4⟩ := x
  exact ⟨dx, a, b, c, G.keep t h1 (fun q z => by cases z), h2.at (G.tups t), G.keep t h3 (fun q z => by cases z), G.keep t h4 (fun q z => by cases z)⟩
theorem Gr.sys {S S' : SysM} {g kw ka : Addr} {H H' : Hp} (G : Gr K P w S N g kw ka H) (t : But kw ka H H') {q : Addr} (x : SysAt K H q S') : SysAt K H' q S' := by
  obtain ⟨dx, a, b, c, d, ps, h1, h2, h3, h4, h5, h6⟩ := x
  exact ⟨dx, a, b, c, d, ps, G.keep t h1 (fun q z => by cases z), G.keep t h2 (fun q z => by cases z), L2.Paired.mapP h3 fun _ _ y => G.hand t y, G.keep t h4 (fun q z => by cases z), G.keep t h5 (fun q z => by cases z), G.keep t h6 (fun q z => by cases z)⟩
theorem Gr.kwMove {S : SysM} {g kw ka : Addr} {H H' : Hp} (G : Gr K P w S N g kw ka H) (t : But kw ka H H') {ks : List Ent} (k : KW P w S N H kw ks) (e : H' kw = H kw) : KW P w S N H' kw ks :=
  ⟨e.trans k.at_, fun p hp => (k.kys p hp).at (G.tups t), k.nd, fun p hp => let ⟨st, l, h1, h2, h3, h4⟩ := k.says p hp; ⟨st, l, h1, h2, h3, G.ls t h4⟩, k.far⟩
theorem Gr.kaMove {S : SysM} {g kw ka : Addr} {H H' : Hp} (G : Gr K P w S N g kw ka H) (t : But kw ka H H') {ks : List Ent} (k : KA P w S N H ka ks) (e : H' ka = H ka) : KA P w S N H' ka ks :=
  ⟨e.trans k.at_, fun p hp => (k.kys p hp).at (G.tups t), k.nd, fun p hp => let ⟨st, l, ns, h1, h2, h3, h4, h5⟩ := k.says p hp; ⟨st, l, ns, h1, h2, h3, G.keep t h4 (fun q z => by cases z), h5⟩, k.far⟩
theorem Gr.same {S : SysM} {g kw ka : Addr} {H H' : Hp} (G : Gr K P w S N g kw ka H) (s : Same H H') : Gr K P w S N g kw ka H' := by
  obtain ⟨dx, p, h1, h2⟩ := G.ins
  obtain ⟨ks, k⟩ := G.ww
  obtain ⟨js, j⟩ := G.aa
  exact ⟨⟨dx, p, s _ _ h1, h2.same s⟩, ⟨ks, G.kwMove s.but k (by rw [k.at_]; exact s _ _ k.at_)⟩, ⟨js, G.kaMove s.but j (by rw [j.at_]; exact s _ _ j.at_)⟩, G.ne⟩
theorem Gr.less {S : SysM} {M : Addr → Prop} {g kw ka : Addr} {H : Hp} (G : Gr K P w S N g kw ka H) (h : ∀ x, M x → N x) : Gr K P w S M g kw ka H := by
  obtain ⟨ks, k⟩ := G.ww
  obtain ⟨js, j⟩ := G.aa
  exact ⟨G.ins, ⟨ks, k.at_, k.kys, k.nd, k.says, fun e he l hl m => k.far e he l hl (h l m)⟩, ⟨js, j.at_, j.kys, j.nd, j.says, fun e he l hl m => j.far e he l hl (h l m)⟩, G.ne⟩
theorem Gr.add {S : SysM} {g kw ka D : Addr} {H : Hp} (G : Gr K P w S N g kw ka H) (h : H D = none) : Gr K P w S (fun x => N x ∨ x = D) g kw ka H := by
  obtain ⟨ks, k⟩ := G.ww
  obtain ⟨js, j⟩ := G.aa
  refine ⟨G.ins, ⟨ks, k.at_, k.kys, k.nd, k.says, fun e he l hl m => m.elim (k.far e he l hl) fun m => ?_⟩, ⟨js, j.at_, j.kys, j.nd, j.says, fun e he l hl m => m.elim (j.far e he l hl) fun m => ?_⟩, G.ne⟩
  · obtain ⟨st, l', _, _, h3, vs, h4, _⟩ := k.says e he
    rw [h3] at hl
    cases hl
    rw [m, h] at h4
    cases h4
  · obtain ⟨st, l', ns, _, _, h3, h4, _⟩ := j.says e he
    rw [h3] at hl
    cases hl
    rw [m, h] at h4
    cases h4
/-- a list that is none of the ground's -/
theorem Gr.upd {S : SysM} {g kw ka D : Addr} {H : Hp} {xs : List V} {o : HO} (G : Gr K P w S N g kw ka H) (n : N D) (h : H D = some (.lst xs)) : Gr K P w S N g kw ka (upd H D o) := by
  obtain ⟨ks, k⟩ := G.ww
  obtain ⟨js, j⟩ := G.aa
  obtain ⟨dx, p, h1, h2⟩ := G.ins
  have ne : ∀ {b : Addr} {u : HO}, H b = some u → (∀ ys, u ≠ .lst ys) → b ≠ D := fun e m z => by rw [z, h] at e; exact m _ (Option.some.inj e).symm
  have t : Tups H (L2.upd H D o) := Tups.put h (fun xs z => by cases z)
  have hat : ∀ {q : Addr} {h : HandM}, HandAt K H q h → HandAt K (L2.upd H D o) q h := by
    rintro q hh ⟨e, a, b, c, j1, j2, j3, j4⟩
    exact ⟨e, a, b, c, by rw [upd_ne (ne j1 (fun ys z => by cases z))]; exact j1, j2.at t, t _ _ j3, t _ _ j4⟩
  refine ⟨⟨dx, p, by rw [upd_ne (ne h1 (fun ys z => by cases z))]; exact h1, ?_⟩, ⟨ks, by rw [upd_ne (ne k.at_ (fun ys z => by cases z))]; exact k.at_, fun e he => (k.kys e he).at t, k.nd, fun e he => ?_, k.far⟩, ⟨js, by rw [upd_ne (ne j.at_ (fun ys z => by cases z))]; exact j.at_, fun e he => (j.kys e he).at t, j.nd, fun e he => ?_, j.far⟩, G.ne⟩
  · obtain ⟨sx, a, b, c, d, ps, i1, i2, i3, i4, i5, i6⟩ := h2
    exact ⟨sx, a, b, c, d, ps, by rw [upd_ne (ne i1 (fun ys z => by cases z))]; exact i1, t _ _ i2, L2.Paired.mapP i3 fun _ _ y => hat y, t _ _ i4, t _ _ i5, t _ _ i6⟩
  · obtain ⟨st, l, a1, a2, a3, vs, a4, a5⟩ := k.says e he
    exact ⟨st, l, a1, a2, a3, vs, by rw [upd_ne (show l ≠ D from fun z => k.far e he l a3 (by rw [z]; exact n))]; exact a4, a5.at t⟩
  · obtain ⟨st, l, ns, a1, a2, a3, a4, a5⟩ := j.says e he
    exact ⟨st, l, ns, a1, a2, a3, by rw [upd_ne (show l ≠ D from fun z => j.far e he l a3 (by rw [z]; exact n))]; exact a4, a5⟩
theorem keys_few {S : SysM} (o : SysOk S) {ks : List Ent} (nd : (ks.map (·.1)).Nodup) (h : ∀ e ∈ ks, ∃ st, e.1 = dI st ∧ StOk S st) : ks.length ≤ 27 := by
  have h1 : (ks.map (·.1)).length ≤ ((allSt S.hands).map dI).length := nodup_le _ _ nd fun x hx => by
    obtain ⟨e, he, rfl⟩ := List.mem_map.mp hx
    obtain ⟨st, h2, h3⟩ := h e he
    rw [h2]
    exact List.mem_map.mpr ⟨st, mem_allSt h3.len h3.mem, rfl⟩
  rw [List.length_map, List.length_map] at h1
  have h2 := length_allSt (hs := S.hands) fun h hh => (o.hand h hh).few2
  have h3 : 3 ^ S.hands.length ≤ 3 ^ 3 := Nat.pow_le_pow_right (by decide) o.few
  omega
/-! ### Ground(system) -/
def sp_Ground_init (K : PySem.W.Frag) (P : Program) (w : World) : Sp := fun vs H Q _ => ∃ (x dx p : Addr) (S : SysM), vs = [.ref x, .ref p] ∧ H x = some (.ins (He.ga K "Ground") dx []) ∧ SysAt K H p S ∧
  ∀ (kw ka : Addr) (H' : Hp), H kw = none → H ka = none → Same1 x H H' → (∀ N : Addr → Prop, Gr K P w S N x kw ka H') → Q .non H'
theorem ok_Ground_init (T : Tx K mg) : C8.Mak P w K mg base 1 "Ground" (He.ga K "Ground") (sp_Ground_init K P w) [] := mak_Ground T (fun vs H Q E ⟨_, _, _, _, h, _⟩ => by rw [h]; rfl) fun cdv A outer s H vs Q E hr h => by
  refine ⟨_, (pss_cons (ps_fld (pv 0) (pv 1) rfl)
    (pss_cons (ps_fld (pv 0) pe_newN rfl)
    (pss_one (ps_fld (pv 0) pe_newN rfl)))), ?_⟩
  obtain ⟨x, dx, p, S, rfl, hx, hS, q⟩ := h
  nested_keys
  refine ⟨x, _, dx, _, rfl, hx, T.c_Ground, T.a_Ground_asked, by decide, ?_⟩
  intro kw hkw
  have nkw : kw ≠ x := fun z => by rw [z, upd_same] at hkw; cases hkw
  have hkw0 : H kw = none := by rw [upd_ne nkw] at hkw; exact hkw
  nested_keys
  refine ⟨x, _, dx, _, rfl, by rw [upd_ne nkw.symm]; exact upd_same, T.c_Ground, T.a_Ground_known_ways, Nat.lt_of_le_of_lt (putF_few few0) (by decide), ?_⟩
  intro ka hka
  have nka : ka ≠ x := fun z => by rw [z, upd_same] at hka; cases hka
  have nkk : ka ≠ kw := fun z => by rw [z, upd_ne nkw, upd_same] at hka; cases hka
  have hka0 : H ka = none := by rw [upd_ne nka, upd_ne nkk, upd_ne nka] at hka; exact hka
  nested_keys
  refine ⟨x, _, dx, _, rfl, by rw [upd_ne nka.symm]; exact upd_same, T.c_Ground, T.a_Ground_known_able, Nat.lt_of_le_of_lt (putF_few (putF_few few0)) (by decide), ?_⟩
  have t1 : Same1 x H _ := (((((Same.refl' (H := H)).one.own (o := .ins (He.ga K "Ground") dx (putF "asked" (.ref p) []))).put hkw (o := dNO P w kw [])).own (o := .ins (He.ga K "Ground") dx (putF "known_ways" (.ref kw) (putF "asked" (.ref p) [])))).put hka (o := dNO P w ka [])).own (o := .ins (He.ga K "Ground") dx (putF "known_able" (.ref ka) (putF "known_ways" (.ref kw) (putF "asked" (.ref p) []))))
  refine q kw ka _ hkw0 hka0 t1 fun N => ⟨⟨dx, p, upd_same, ?_⟩, ⟨[], ?_, by simp, by simp, by simp, by simp⟩, ⟨[], ?_, by simp, by simp, by simp, by simp⟩, nkk.symm⟩
  · have nx : ∀ {b : Addr} {o : HO}, H b = some o → o ≠ .ins (He.ga K "Ground") dx [] → b ≠ x := fun e n z => by rw [z, hx] at e; exact n (Option.some.inj e).symm
    obtain ⟨sx, a, b, c, d, ps, h1, h2, h3, h4, h5, h6⟩ := hS
    refine ⟨sx, a, b, c, d, ps, t1 _ _ (nx h1 ?_) h1, t1 _ _ (nx h2 (by intro z; cases z)) h2, L2.Paired.mapP h3 fun qq hh y => ?_, t1 _ _ (nx h4 (by intro z; cases z)) h4, t1 _ _ (nx h5 (by intro z; cases z)) h5, t1 _ _ (nx h6 (by intro z; cases z)) h6⟩
    · intro z
      injection z with _ _ z
      cases z
    · obtain ⟨e1, e2, e3, e4, j1, j2, j3, j4⟩ := y
      refine ⟨e1, e2, e3, e4, t1 _ _ (nx j1 ?_) j1, j2.at (fun b xs e => t1 _ _ (nx e (by intro z; cases z)) e), t1 _ _ (nx j3 (by intro z; cases z)) j3, t1 _ _ (nx j4 (by intro z; cases z)) j4⟩
      intro z
      injection z with _ _ z
      cases z
  · show upd _ _ _ _ = _
    rw [upd_ne nkw, upd_ne nkk.symm, upd_ne nkw, upd_same]
    rfl
  · show upd _ _ _ _ = _
    rw [upd_ne nka, upd_same]
    rfl
/-! ### takes -/
def sp_takes : Sp := fun vs H Q _ => ∃ (v : V) (m : Move) (i : Int), vs = [v, .int i] ∧ Rk H (dMove m) v ∧ 0 ≤ i ∧ i < m.2.length ∧ ∀ c : Bool, (c = true ↔ TakesM m i) → Q (.bl c) H
theorem ok_takes (T : Tx K mg) : C8.Cal P w K mg base 1 "takes" sp_takes [] := cal_takes T (fun vs H Q E ⟨_, _, _, h, _⟩ => by rw [h]; rfl) fun cdv A outer s H vs Q E hr h => by
  refine ⟨_, (pss_one (ps_ret (pe_cmpR op_notN (pe_ix ix_tup (pe_ix ix_tup (pv 0) pe_int (fun _ _ => rfl)) (pv 1) (fun _ _ => rfl)) pe_non (nomark _)))), ?_⟩
  obtain ⟨v, m, i, rfl, hm, h0, hl, q⟩ := h
  obtain ⟨mb, mc, rfl, hmb, hmc⟩ := hm.move
  obtain ⟨n, rfl⟩ : ∃ n : Nat, i = ((n : Nat) : Int) := ⟨i.toNat, by omega⟩
  have hn : n < m.2.length := by omega
  nested_keys
  refine ⟨mb, _, _, _, rfl, rfl, SqT.of hmb, rfl, ?_⟩
  nested_keys
  refine ⟨mc, _, _, _, rfl, rfl, SqT.of hmc, atI_nat (by rw [List.getElem?_map, List.getElem?_eq_getElem hn]; rfl), ?_⟩
  nested_keys
  refine q _ ?_
  unfold TakesM
  rw [show ((n : Nat) : Int).toNat = n by omega, List.getElem?_eq_getElem hn]
  cases e : m.2[n] with
  | none => simp [numV]
  | some k => simp [numV]
end NS
/-! G13: the walks of ground.ways, ground.able. -/
namespace NS
open PySem PySem.Spec PyProof.Rows L2
local macro_rules | `(tactic| nested_keys) => `(tactic| repeat (first | refine ⟨_, rfl, ?_⟩ | refine ⟨_, _, rfl, rfl, ?_⟩ | refine ⟨rfl, ?_⟩ | with_reducible refine iteT ?_ | with_reducible refine iteF ?_))
variable {N : Addr → Prop} {P : Program} {w : World} {K : PySem.W.Frag} {mg : Str → Option Value} {base : Heap}
theorem ky_st {H : Hp} {b : Addr} {st : Stg} (h : H b = some (.tup (st.map .int))) : Ky H (dI st) b := ⟨Rk.ofInts h, dI_depth st⟩
theorem KW.dn {S : SysM} {H : Hp} {kw : Addr} {ks : List Ent} (k : KW P w S N H kw ks) : Dn P w H kw ks := ⟨.of k.at_, k.kys⟩
theorem KA.dn {S : SysM} {H : Hp} {kw : Addr} {ks : List Ent} (k : KA P w S N H kw ks) : Dn P w H kw ks := ⟨.of k.at_, k.kys⟩
theorem But.self {kw ka : Addr} {H0 H : Hp} {o : HO} (s : But kw ka H0 H) : But kw ka H0 (upd H kw o) := fun b u n1 n2 e => by rw [upd_ne n1]; exact s b u n1 n2 e
theorem But.self2 {kw ka : Addr} {H0 H : Hp} {o : HO} (s : But kw ka H0 H) : But kw ka H0 (upd H ka o) := fun b u n1 n2 e => by rw [upd_ne n2]; exact s b u n1 n2 e
def sp_ways (K : PySem.W.Frag) (P : Program) (w : World) : Sp := fun vs H Q _ => ∃ (g kw ka b : Addr) (S : SysM) (st : Stg) (N : Addr → Prop), vs = [.ref g, .ref b] ∧ (∀ x, N x → H x ≠ none) ∧ Gr K P w S N g kw ka H ∧ SysG S ∧ H b = some (.tup (st.map .int)) ∧ StOk S st ∧
  ∀ (l : Addr) (H' : Hp), But kw ka H H' → Gr K P w S N g kw ka H' → Ls H' l ((waysOf S st).map dWay) → ¬ N l → Q (.ref l) H'
theorem waysOf_len {S : SysM} (o : SysOk S) (st : Stg) : (waysOf S st).length ≤ 500 := by
  unfold waysOf
  rw [List.length_map]
  have := movesFor_len o st S.words
  have := o.few2
  show (movesFor S st S.words).length ≤ 500
  omega
theorem ok_Ground_ways (T : Tx K mg) : C8.Met P w K mg base 4 (He.ga K "Ground") "ways" (sp_ways K P w) [] := met_Ground_ways T (fun vs H Q E ⟨_, _, _, _, _, _, _, h, _⟩ => by rw [h]; rfl) fun cdv A outer s H vs Q E hr h => by
  refine ⟨_, (C8.pss_cut (ps_if (pt_cmpR (op_ninN (u9 hr)) (pv 1) (pe_fld (pv 0) rfl) (by rfl)) (pss_cons (ps_set (i := 2) sc_Ground_ways.nd rfl (Or.inl rfl) (pe_lst pa_nil))
    (C8.pss_cut (ps_for PassesOwn.never rfl (pi_list (C8.pe_mt (ok_System_moves T) hr (by decide) (pe_fld (pv 0) rfl) (pa_cons (pv 1) pa_nil))) (pg_name (i := 3) sc_Ground_ways.nd rfl (Or.inl rfl))
      (pss_one (ps_expr (pe_bm PySem.F.plainAttrs_list PySem.F.slot_list_append PySem.F.type_list_append mt_append (pv 2) (pa_cons (pe_tup (pa_cons (pv 3) (pa_cons (C8.pe_c (ok_led_to T) hr (by decide) (by rfl) (pa_cons (pe_fld (pv 0) rfl) (pa_cons (pv 1) (pa_cons (pv 3) pa_nil)))) pa_nil))) pa_nil)))))
    (pss_one (ps_asg (pv 2) (pg_sub (pe_fld (pv 0) rfl) (pv 1) (set_dN (u9 hr))))))) pss_nil)
    (pss_one (ps_ret (pe_ix (ix_dN (u9 hr)) (pe_fld (pv 0) rfl) (pv 1) (fun _ _ => rfl))))), ?_⟩
  obtain ⟨g, kw, ka, b, S, st, N, rfl, hN, G, hG, hb, ok, q⟩ := h
  obtain ⟨dx, p, hg, hS⟩ := G.ins
  refine ⟨fun σ' H' => But kw ka H H' ∧ Gr K P w S N g kw ka H' ∧ (∃ ks, KW P w S N H' kw ks ∧ (lkN ks (dI st)).isSome = true) ∧ ∃ u1 u2, σ' = [some (V.ref g), some (V.ref b), u1, u2], ?_, ?_⟩
  · obtain ⟨ks, k⟩ := G.ww
    nested_keys
    refine ⟨g, _, dx, _, _, rfl, hg, T.c_Ground, T.a_Ground_known_ways, fGr_ways, ?_⟩
    refine ⟨dI st, b, kw, ks, rfl, rfl, ky_st hb, k.dn, ?_⟩
    cases e : (lkN ks (dI st)).isSome with
    | true =>
      nested_keys
      exact ⟨Same.refl'.but, G, ⟨ks, k, e⟩, _, _, rfl⟩
    | false =>
      have hn0 : lkN ks (dI st) = none := by
        cases z : lkN ks (dI st) with
        | none => rfl
        | some v => rw [z] at e; cases e
      nested_keys
      refine ⟨Nat.zero_le _, fun F hF => ?_⟩
      have sF : Same H (upd H F (.lst [])) := Same.new hF
      have hS0 := hS.same sF
      refine ⟨fun σ' H' => Same H H' ∧ Ls H' F ((waysOf S st).map dWay) ∧ ∃ u2, σ' = [some (V.ref g), some (V.ref b), some (.ref F), u2], ?_, ?_⟩
      · nested_keys
        refine ⟨g, _, dx, _, _, rfl, sF _ _ hg, T.c_Ground, T.a_Ground_asked, fGr_asked, ?_⟩
        obtain ⟨sdx, a1, a2, a3, a4, ps, i1, _⟩ := id hS
        refine ⟨p, sdx, _, rfl, sF _ _ i1, fSys_no (by decide +kernel) (by decide +kernel) (by decide +kernel) (by decide +kernel), ?_⟩
        nested_keys
        refine ⟨p, b, S, st, rfl, hS0, hG, sF _ _ hb, ok, fun c H2 nc0 s2 hc => ?_⟩
        obtain ⟨mv, hc1, hc2⟩ := hc
        have sH2 := Same.trans' sF s2
        nested_keys
        refine ⟨⟨_, SqL.of hc1⟩, for_it (walk_li mv) (fun n σ' H' => Same H H' ∧ H' c = some (.lst mv) ∧ Rks H' ((movesOf S st).map dMove) mv ∧ Ls H' F (((waysOf S st).take n).map dWay) ∧ ∃ u2, σ' = [some (V.ref g), some (V.ref b), some (.ref F), u2]) ⟨sH2, hc1, hc2, ⟨[], s2 _ _ upd_same, .nil⟩, _, rfl⟩ (fun _ _ _ _ k => SqL.of k.2.1) ?_ ?_⟩
        · rintro n v σ3 H3 H4 hi ⟨sm, hc3, rc3, ⟨fv, hF3, rF3⟩, u2, rfl⟩ ⟨rfl, hv⟩
          obtain ⟨m, h1, h2⟩ := rc3.mapV hv
          have mo : MvOk S st m := (mem_moves ok.len).mp (List.mem_of_getElem? h1)
          have hw : (waysOf S st)[n]? = some (m, ledTo S st m) := by
            unfold waysOf
            rw [List.getElem?_map, h1]
            rfl
          nested_keys
          refine ⟨.inl ⟨rfl, _, SqL.of hF3⟩, ?_⟩
          nested_keys
          refine ⟨g, _, dx, _, _, rfl, sm _ _ hg, T.c_Ground, T.a_Ground_asked, fGr_asked, ?_⟩
          nested_keys
          refine ⟨p, b, v, S, st, m, rfl, hS.same sm, hG, sm _ _ hb, ok, h2, mo, fun d H5 s5 hd => ?_⟩
          nested_keys
          refine ⟨by show 2 ≤ sizeLine; decide, fun t ht => ?_⟩
          have s6 : Same H4 (upd H5 t (.tup [v, .ref d])) := s5.put (s5.none ht)
          have hF6 := s6 _ _ hF3
          have nc : c ≠ F := fun z => by rw [z, upd_same] at nc0; cases nc0
          have up : ∀ {b : Addr} {o : HO}, b ≠ F → H4 b = some o → upd (upd H5 t (.tup [v, .ref d])) F (.lst (fv ++ [.ref t])) b = some o := fun n e => by rw [upd_ne n]; exact s6 _ _ e
          have tt : Tups H4 (upd (upd H5 t (.tup [v, .ref d])) F (.lst (fv ++ [.ref t]))) := fun b xs e => up (fun z => by rw [z, hF3] at e; cases e) e
          have tF : t ≠ F := fun z => by rw [z, s5 _ _ hF3] at ht; cases ht
          refine ⟨F, fv, _, rfl, rfl, hF6, ?_, ?_, up nc hc3, rc3.at tt, ⟨_, upd_same, ?_⟩, _, rfl⟩
          · rw [rF3.len]
            exact line24 (m := 500) (Nat.le_trans (List.length_take_le' _ _) (waysOf_len hG.ok st))
          · exact fun b o e => by
              rw [upd_ne (fun z => by rw [z, hF] at e; cases e)]
              exact s6 _ _ (sm _ _ e)
          · rw [take_snoc hw, List.map_append]
            refine (rF3.at tt).append (.cons (.tup (xs := [v, .ref d]) (by rw [upd_ne tF]; exact upd_same) (.cons (h2.at tt) (.cons (Rk.ofInts ?_) .nil))) .nil)
            rw [upd_ne (fun z => by rw [z, s5 _ _ hF3] at hd; cases hd), upd_ne (ne_of_none hd ht)]
            exact hd
        · rintro σ3 H3 ⟨sm, hc3, rc3, hF3, k⟩
          have e : mv.length = (waysOf S st).length := by rw [rc3.len]; unfold waysOf; rw [List.length_map]
          rw [e, List.take_length] at hF3
          exact ⟨sm, hF3, k⟩
      · rintro σ3 H3 ⟨sm, hF3, u2, rfl⟩
        have G3 := G.same sm
        have k3 : KW P w S N H3 kw ks := G.kwMove sm.but k (by rw [k.at_]; exact sm _ _ k.at_)
        have few : ks.length < sizeLine := line24 (m := 27) (keys_few hG.ok k.nd fun e he => let ⟨st, _, h1, h2, _⟩ := k.says e he; ⟨st, h1, h2⟩)
        nested_keys
        refine ⟨g, _, dx, _, _, rfl, sm _ _ hg, T.c_Ground, T.a_Ground_known_ways, fGr_ways, ?_⟩
        nested_keys
        refine ⟨kw, b, ks, dI st, rfl, rfl, k3.at_, k3.kys, ky_st (sm _ _ hb), few, ?_⟩
        have b4 : But kw ka H3 (upd H3 kw (dNO P w kw (putN ks (dI st) b (.ref F)))) := Same.refl'.but.self
        have k4 : KW P w S N (upd H3 kw (dNO P w kw (putN ks (dI st) b (.ref F)))) kw (putN ks (dI st) b (.ref F)) := by
          refine ⟨upd_same, kys_put (G3.tups b4) k3.kys ((ky_st (sm _ _ hb)).at (G3.tups b4)) _, nodup_put k3.nd _ _ _, ?_, ?_⟩
          have hn : lkN ks (dI st) = none := by
            cases z : lkN ks (dI st) with
            | none => rfl
            | some v => rw [z] at e; cases e
          intro x hx
          rw [putN_new _ _ hn, List.mem_append, List.mem_singleton] at hx
          rcases hx with hx | rfl
          · obtain ⟨st', l, h1, h2, h3, h4⟩ := k3.says x hx
            exact ⟨st', l, h1, h2, h3, G3.ls b4 h4⟩
          · exact ⟨st, F, rfl, ok, rfl, G3.ls b4 hF3⟩
          intro x hx l hl
          rw [putN_new _ _ hn0, List.mem_append, List.mem_singleton] at hx
          rcases hx with hx | rfl
          · exact k3.far x hx l hl
          · cases hl
            exact fun z => hN F z hF
        refine ⟨sm.but.trans b4, ?_, ⟨_, k4, by rw [lkN_put, if_pos rfl]; rfl⟩, _, _, rfl⟩
        obtain ⟨js, j⟩ := G3.aa
        obtain ⟨dx3, p3, hg3, hS3⟩ := G3.ins
        exact ⟨⟨dx3, p3, G3.keep b4 hg3 (fun q z => by cases z), G3.sys b4 hS3⟩, ⟨_, k4⟩, ⟨js, G3.kaMove b4 j (upd_ne G.ne.symm)⟩, G.ne⟩
  · rintro σ2 H2 ⟨bt, G2, ⟨ks, k, e⟩, u1, u2, rfl⟩
    obtain ⟨v, hv⟩ := Option.isSome_iff_exists.mp e
    obtain ⟨kb, hm⟩ := lkN_some hv
    obtain ⟨st', l, e1, e2, e3, e4⟩ := k.says _ hm
    obtain ⟨dx2, p2, hg2, _⟩ := G2.ins
    nested_keys
    refine ⟨g, _, dx2, _, _, rfl, hg2, T.c_Ground, T.a_Ground_known_ways, fGr_ways, ?_⟩
    nested_keys
    refine ⟨kw, b, ks, dI st, v, rfl, rfl, k.dn, ky_st (G.keep bt hb (fun q z => by cases z)), hv, ?_⟩
    have es : st' = st := dI_inj e1.symm
    subst es
    have e3' : v = V.ref l := e3
    rw [e3']
    exact q l _ bt G2 e4 (k.far _ hm l e3)
/-! ### ground.able -/
def sp_gable (K : PySem.W.Frag) (P : Program) (w : World) : Sp := fun vs H Q _ => ∃ (g kw ka b : Addr) (S : SysM) (st : Stg) (N : Addr → Prop), vs = [.ref g, .ref b] ∧ (∀ x, N x → H x ≠ none) ∧ Gr K P w S N g kw ka H ∧ SysG S ∧ H b = some (.tup (st.map .int)) ∧ StOk S st ∧
  ∀ (l : Addr) (ns : List Int) (H' : Hp), But kw ka H H' → Gr K P w S N g kw ka H' → H' l = some (.lst (ns.map .int)) → (∀ i, i ∈ ns ↔ AbleM S i st) → Q (.ref l) H'
theorem ok_Ground_able (T : Tx K mg) : C8.Met P w K mg base 4 (He.ga K "Ground") "able" (sp_gable K P w) [] := met_Ground_able T (fun vs H Q E ⟨_, _, _, _, _, _, _, h, _⟩ => by rw [h]; rfl) fun cdv A outer s H vs Q E hr h => by
  refine ⟨_, (C8.pss_cut (ps_if (pt_cmpR (op_ninN (u9 hr)) (pv 1) (pe_fld (pv 0) rfl) (by rfl)) (pss_one (ps_asg (C8.pe_mt (ok_System_able T) hr (by decide) (pe_fld (pv 0) rfl) (pa_cons (pv 1) pa_nil)) (pg_sub (pe_fld (pv 0) rfl) (pv 1) (set_dN (u9 hr))))) pss_nil)
    (pss_one (ps_ret (pe_ix (ix_dN (u9 hr)) (pe_fld (pv 0) rfl) (pv 1) (fun _ _ => rfl))))), ?_⟩
  obtain ⟨g, kw, ka, b, S, st, N, rfl, hN, G, hG, hb, ok, q⟩ := h
  obtain ⟨dx, p, hg, hS⟩ := G.ins
  refine ⟨fun σ' H' => But kw ka H H' ∧ Gr K P w S N g kw ka H' ∧ (∃ ks, KA P w S N H' ka ks ∧ (lkN ks (dI st)).isSome = true) ∧ σ' = [some (V.ref g), some (V.ref b)], ?_, ?_⟩
  · obtain ⟨ks, k⟩ := G.aa
    nested_keys
    refine ⟨g, _, dx, _, _, rfl, hg, T.c_Ground, T.a_Ground_known_able, fGr_able, ?_⟩
    refine ⟨dI st, b, ka, ks, rfl, rfl, ky_st hb, k.dn, ?_⟩
    cases e : (lkN ks (dI st)).isSome with
    | true =>
      nested_keys
      exact ⟨Same.refl'.but, G, ⟨ks, k, e⟩, rfl⟩
    | false =>
      have hn0 : lkN ks (dI st) = none := by
        cases z : lkN ks (dI st) with
        | none => rfl
        | some v => rw [z] at e; cases e
      nested_keys
      refine ⟨g, _, dx, _, _, rfl, hg, T.c_Ground, T.a_Ground_asked, fGr_asked, ?_⟩
      obtain ⟨sdx, a1, a2, a3, a4, ps, i1, _⟩ := id hS
      refine ⟨p, sdx, _, rfl, i1, fSys_no (by decide +kernel) (by decide +kernel) (by decide +kernel) (by decide +kernel), ?_⟩
      nested_keys
      refine ⟨p, b, S, st, rfl, hS, hG, hb, ok, fun F ns H3 hF sm hF3 mem => ?_⟩
      have G3 := G.same sm
      have k3 : KA P w S N H3 ka ks := G.kaMove sm.but k (by rw [k.at_]; exact sm _ _ k.at_)
      have few : ks.length < sizeLine := line24 (m := 27) (keys_few hG.ok k.nd fun e he => let ⟨st, _, _, h1, h2, _⟩ := k.says e he; ⟨st, h1, h2⟩)
      nested_keys
      refine ⟨g, _, dx, _, _, rfl, sm _ _ hg, T.c_Ground, T.a_Ground_known_able, fGr_able, ?_⟩
      nested_keys
      refine ⟨ka, b, ks, dI st, rfl, rfl, k3.at_, k3.kys, ky_st (sm _ _ hb), few, ?_⟩
      have b4 : But kw ka H3 (upd H3 ka (dNO P w ka (putN ks (dI st) b (.ref F)))) := Same.refl'.but.self2
      have k4 : KA P w S N (upd H3 ka (dNO P w ka (putN ks (dI st) b (.ref F)))) ka (putN ks (dI st) b (.ref F)) := by
        refine ⟨upd_same, kys_put (G3.tups b4) k3.kys ((ky_st (sm _ _ hb)).at (G3.tups b4)) _, nodup_put k3.nd _ _ _, ?_, ?_⟩
        have hn : lkN ks (dI st) = none := by
          cases z : lkN ks (dI st) with
          | none => rfl
          | some v => rw [z] at e; cases e
        intro x hx
        rw [putN_new _ _ hn, List.mem_append, List.mem_singleton] at hx
        rcases hx with hx | rfl
        · obtain ⟨st', l, ms, h1, h2, h3, h4, h5⟩ := k3.says x hx
          exact ⟨st', l, ms, h1, h2, h3, G3.keep b4 h4 (fun q z => by cases z), h5⟩
        · exact ⟨st, F, ns, rfl, ok, rfl, G3.keep b4 hF3 (fun q z => by cases z), mem⟩
        intro x hx l hl
        rw [putN_new _ _ hn0, List.mem_append, List.mem_singleton] at hx
        rcases hx with hx | rfl
        · exact k3.far x hx l hl
        · cases hl
          exact fun z => hN F z hF
      refine ⟨sm.but.trans b4, ?_, ⟨_, k4, by rw [lkN_put, if_pos rfl]; rfl⟩, rfl⟩
      obtain ⟨js, j⟩ := G3.ww
      obtain ⟨dx3, p3, hg3, hS3⟩ := G3.ins
      exact ⟨⟨dx3, p3, G3.keep b4 hg3 (fun q z => by cases z), G3.sys b4 hS3⟩, ⟨js, G3.kwMove b4 j (upd_ne G.ne)⟩, ⟨_, k4⟩, G.ne⟩
  · rintro σ2 H2 ⟨bt, G2, ⟨ks, k, e⟩, rfl⟩
    obtain ⟨v, hv⟩ := Option.isSome_iff_exists.mp e
    obtain ⟨kb, hm⟩ := lkN_some hv
    obtain ⟨st', l, ns, e1, e2, e3, e4, e5⟩ := k.says _ hm
    obtain ⟨dx2, p2, hg2, _⟩ := G2.ins
    nested_keys
    refine ⟨g, _, dx2, _, _, rfl, hg2, T.c_Ground, T.a_Ground_known_able, fGr_able, ?_⟩
    nested_keys
    refine ⟨ka, b, ks, dI st, v, rfl, rfl, k.dn, ky_st (G.keep bt hb (fun q z => by cases z)), hv, ?_⟩
    have es : st' = st := dI_inj e1.symm
    subst es
    have e3' : v = V.ref l := e3
    rw [e3']
    exact q l ns _ bt G2 e4 e5
end NS
/-! G14: graphs in the heap; the walk of reached_from. -/
namespace NS
open PySem PySem.Spec PyProof.Rows L2
local macro_rules | `(tactic| nested_keys) => `(tactic| repeat (first | refine ⟨_, rfl, ?_⟩ | refine ⟨_, _, rfl, rfl, ?_⟩ | refine ⟨rfl, ?_⟩ | with_reducible refine iteT ?_ | with_reducible refine iteF ?_))
variable {N : Addr → Prop} {P : Program} {w : World} {K : PySem.W.Frag} {mg : Str → Option Value} {base : Heap}
/-- tuples and lists stay -/
structure Seqs (H H' : Hp) : Prop where
  t : Tups H H'
  l : ∀ b xs, H b = some (.lst xs) → H' b = some (.lst xs)
theorem _root_.L2.Same.seqs {H H' : Hp} (s : Same H H') : Seqs H H' := ⟨s.tups, fun b xs e => s _ _ e⟩
theorem Seqs.trans {H H1 H2 : Hp} (a : Seqs H H1) (b : Seqs H1 H2) : Seqs H H2 := ⟨a.t.trans b.t, fun c xs e => b.l _ _ (a.l _ _ e)⟩
theorem Seqs.refl {H : Hp} : Seqs H H := ⟨fun _ _ e => e, fun _ _ e => e⟩
theorem Ls.at {H H' : Hp} (s : Seqs H H') {l : Addr} {ks : List Dat} (h : Ls H l ks) : Ls H' l ks := let ⟨vs, h1, h2⟩ := h; ⟨vs, s.l _ _ h1, h2.at s.t⟩
/-- what is neither tuple nor list may change -/
theorem Seqs.ext {H : Hp} {a : Addr} {u o : HO} (h : H a = some u) (n1 : ∀ xs, u ≠ .tup xs) (n2 : ∀ xs, u ≠ .lst xs) : Seqs H (upd H a o) :=
  ⟨fun b xs e => by rw [upd_ne (fun z => by rw [z, h] at e; exact n1 _ (Option.some.inj e))]; exact e, fun b xs e => by rw [upd_ne (fun z => by rw [z, h] at e; exact n2 _ (Option.some.inj e))]; exact e⟩
theorem Gr.seqs {S : SysM} {g kw ka : Addr} {H H' : Hp} (G : Gr K P w S N g kw ka H) (t : But kw ka H H') : Seqs H H' := ⟨G.tups t, fun b xs e => G.keep t e (fun q z => by cases z)⟩
theorem dNO_tup {a : Addr} {ks : List Ent} : ∀ xs, dNO P w a ks ≠ .tup xs := fun xs z => by cases z
theorem dNO_lst {a : Addr} {ks : List Ent} : ∀ xs, dNO P w a ks ≠ .lst xs := fun xs z => by cases z
abbrev Succ := Nod → List (Move × Nod)
def Eg (sc : Succ) (a b : Nod) : Prop := ∃ m, (m, b) ∈ sc a
/-- the entries of a graph -/
structure Gph (H : Hp) (ns : List Nod) (sc : Succ) (ks : List Ent) : Prop where
  kys : ∀ e ∈ ks, Ky H e.1 e.2.1
  keys : ks.map (·.1) = ns.map dNod
  nd : ns.Nodup
  rows : ∀ n ∈ ns, ∃ l, lkN ks (dNod n) = some (.ref l) ∧ Ls H l ((sc n).map dRow)
theorem Gph.at {H H' : Hp} {ns : List Nod} {sc : Succ} {ks : List Ent} (g : Gph H ns sc ks) (s : Seqs H H') : Gph H' ns sc ks :=
  ⟨fun e he => (g.kys e he).at s.t, g.keys, g.nd, fun n hn => let ⟨l, h1, h2⟩ := g.rows n hn; ⟨l, h1, h2.at s⟩⟩
theorem Gph.len {H : Hp} {ns : List Nod} {sc : Succ} {ks : List Ent} (g : Gph H ns sc ks) : ks.length = ns.length := by
  rw [← List.length_map (f := fun e : Ent => e.1), g.keys, List.length_map]
theorem Gph.key {H : Hp} {ns : List Nod} {sc : Succ} {ks : List Ent} (g : Gph H ns sc ks) {i : Nat} {e : Ent} (h : ks[i]? = some e) : ∃ n, ns[i]? = some n ∧ e.1 = dNod n := by
  have h1 : (ks.map (·.1))[i]? = some e.1 := by rw [List.getElem?_map, h]; rfl
  rw [g.keys, List.getElem?_map] at h1
  obtain ⟨n, h2, h3⟩ := Option.map_eq_some_iff.mp h1
  exact ⟨n, h2, h3.symm⟩
theorem Rk.nod {H : Hp} {n : Nod} {v : V} (h : Rk H (dNod n) v) : ∃ b c d, v = .ref b ∧ H b = some (.tup [.ref c, .ref d]) ∧ H c = some (.tup (n.1.map .int)) ∧ H d = some (.tup (n.2.map .str)) := by
  obtain ⟨b, p, q, e, hb, h1, h2⟩ := h.pair
  obtain ⟨c, rfl, hc⟩ := h1.ints
  obtain ⟨d, rfl, hd⟩ := h2.strs
  exact ⟨b, c, d, e, hb, hc, hd⟩
theorem Rk.row {H : Hp} {q : Move × Nod} {v : V} (h : Rk H (dRow q) v) : ∃ b x y, v = .ref b ∧ H b = some (.tup [x, .ref y]) ∧ Rk H (dMove q.1) x ∧ Ky H (dNod q.2) y := by
  obtain ⟨b, p, y, e, hb, h1, h2⟩ := h.pair
  obtain ⟨y, _, _, rfl, _⟩ := h2.nod
  exact ⟨b, p, y, e, hb, h1, h2, dNod_depth _⟩
theorem mem_nods {ns : List Nod} {n : Nod} : dNod n ∈ ns.map dNod ↔ n ∈ ns := by
  rw [List.mem_map]
  exact ⟨fun ⟨m, h1, h2⟩ => dNod_inj h2 ▸ h1, fun h => ⟨n, h, rfl⟩⟩
theorem nods_nodup {ns : List Nod} (h : ns.Nodup) : (ns.map dNod).Nodup := by
  refine (List.pairwise_map).mpr (h.imp fun {a b} hab e => hab (dNod_inj e))
/-! ### reached_from -/
def sp_reached_from (P : Program) (w : World) : Sp := fun vs H Q _ => ∃ (a b : Addr) (ns : List Nod) (sc : Succ) (ks : List Ent) (n0 : Nod), vs = [.ref a, .ref b] ∧ H a = some (dNO P w a ks) ∧ Gph H ns sc ks ∧ ns.length ≤ 1000 ∧ (∀ n ∈ ns, ∀ q ∈ sc n, q.2 ∈ ns) ∧ n0 ∈ ns ∧ Ky H (dNod n0) b ∧
  ∀ (c : Addr) (F : List Nod) (H' : Hp), Same H H' → Ls H' c (F.map dNod) → F.Nodup → (∀ x, x ∈ F ↔ Rch (Eg sc) n0 x) → Q (.ref c) H'
theorem ok_reached_from (T : Tx K mg) : C8.Cal P w K mg base 1 "reached_from" (sp_reached_from P w) [] := cal_reached_from T (fun vs H Q E ⟨_, _, _, _, _, _, h, _⟩ => by rw [h]; rfl) fun cdv A outer s H vs Q E hr h => by
  refine ⟨_, (pss_cons (ps_set (i := 2) sc_reached_from.nd rfl (Or.inl rfl) (pe_disN (u9 hr) (pv 1) pe_bl))
    (pss_cons (ps_set (i := 3) sc_reached_from.nd rfl (Or.inl rfl) (pe_lst (pa_cons (pv 1) pa_nil)))
    (pss_cons (ps_set (i := 4) sc_reached_from.nd rfl (Or.inl rfl) pe_int)
    (C8.pss_cut (ps_while PassesOwn.never (pt_cmpR op_lt (pv 4) (pe_callB call_len_seq (by rfl) T.f_len b_len (pa_cons (pv 3) pa_nil)) (nomark _))
      (C8.pss_cut (ps_for PassesOwn.never rfl (pi_list (pe_ix (ix_dN (u9 hr)) (pv 0) (pe_ix ix_list (pv 3) (pv 4) (fun _ _ => rfl)) (fun _ _ => rfl))) (pg_tup rfl (pgs_cons (pg_name (i := 5) sc_reached_from.nd rfl (Or.inl rfl)) (pgs_cons (pg_name (i := 6) sc_reached_from.nd rfl (Or.inl rfl)) pgs_nil)))
      (pss_one (ps_if (pt_cmpR (op_ninN (u9 hr)) (pv 6) (pv 2) (by rfl)) (pss_cons (ps_asg pe_bl (pg_sub (pv 2) (pv 6) (set_dN (u9 hr))))
    (pss_one (ps_expr (pe_bm PySem.F.plainAttrs_list PySem.F.slot_list_append PySem.F.type_list_append mt_append (pv 3) (pa_cons (pv 6) pa_nil))))) pss_nil)))
    (pss_one (ps_aug (i := 4) sc_reached_from.nd rfl (Or.inl rfl) pe_int ip_add))))
    (pss_one (ps_ret (pv 3))))))), ?_⟩
  obtain ⟨a, b, ns, sc, ks, n0, rfl, ha, G, few, cl, m0, kb, q⟩ := h
  intro d hd
  nested_keys
  have s1 : Same H (upd H d (dNO P w d [])) := Same.new hd
  have tdd : Tups (upd H d (dNO P w d [])) (upd (upd H d (dNO P w d [])) d (dNO P w d [(dNod n0, b, .bl true)])) := (Seqs.ext upd_same dNO_tup dNO_lst).t
  refine ⟨upd_same, dNod n0, b, rfl, kb.at s1.tups, ?_⟩
  have s2 : Same H (upd (upd H d (dNO P w d [])) d (dNO P w d [(dNod n0, b, .bl true)])) := s1.put hd
  have hd2 : upd (upd H d (dNO P w d [])) d (dNO P w d [(dNod n0, b, .bl true)]) d = some (dNO P w d [(dNod n0, b, .bl true)]) := upd_same
  nested_keys
  refine ⟨by show 1 ≤ sizeLine; decide, fun c hc => ?_⟩
  have nc : H c = none := s2.none hc
  have s3 : Same H (upd (upd (upd H d (dNO P w d [])) d (dNO P w d [(dNod n0, b, .bl true)])) c (.lst [.ref b])) := s2.put nc
  have cd : c ≠ d := fun z => by rw [z, upd_same] at hc; cases hc
  have hd3 : upd (upd (upd H d (dNO P w d [])) d (dNO P w d [(dNod n0, b, .bl true)])) c (.lst [.ref b]) d = some (dNO P w d [(dNod n0, b, .bl true)]) := by rw [upd_ne cd.symm]; exact hd2
  nested_keys
  have start : ∃ (ws : List V) (fs : List Ent), upd (upd (upd H d (dNO P w d [])) d (dNO P w d [(dNod n0, b, .bl true)])) c (.lst [.ref b]) c = some (.lst ws) ∧ Rks (upd (upd (upd H d (dNO P w d [])) d (dNO P w d [(dNod n0, b, .bl true)])) c (.lst [.ref b])) ([n0].map dNod) ws ∧ upd (upd (upd H d (dNO P w d [])) d (dNO P w d [(dNod n0, b, .bl true)])) c (.lst [.ref b]) d = some (dNO P w d fs) ∧ (∀ e ∈ fs, Ky (upd (upd (upd H d (dNO P w d [])) d (dNO P w d [(dNod n0, b, .bl true)])) c (.lst [.ref b])) e.1 e.2.1) ∧ fs.map (·.1) = [n0].map dNod :=
    ⟨_, _, upd_same, .cons (kb.1.at s3.tups) .nil, hd3, fun e he => by rw [List.mem_singleton] at he; subst he; exact kb.at s3.tups, rfl⟩
  refine ⟨fun σ' H' => ∃ F : List Nod, Same H H' ∧ (∃ (ws : List V), H' c = some (.lst ws) ∧ Rks H' (F.map dNod) ws) ∧ F.Nodup ∧ (∀ x, x ∈ F ↔ Rch (Eg sc) n0 x) ∧ ∃ u4 u5 u6, σ' = [some (V.ref a), some (V.ref b), some (V.ref d), some (V.ref c), u4, u5, u6], ?_, ?_⟩
  · refine ⟨fun m σ' H' => ∃ (F : List Nod) (at_ : Nat), m + at_ = ns.length + 1 ∧ Same H H' ∧ (∃ (ws : List V) (fs : List Ent), H' c = some (.lst ws) ∧ Rks H' (F.map dNod) ws ∧ H' d = some (dNO P w d fs) ∧ (∀ e ∈ fs, Ky H' e.1 e.2.1) ∧ fs.map (·.1) = F.map dNod) ∧ F.Nodup ∧ (∀ x ∈ F, x ∈ ns ∧ Rch (Eg sc) n0 x) ∧ n0 ∈ F ∧ (∀ x ∈ F.take at_, ∀ q ∈ sc x, q.2 ∈ F) ∧ at_ ≤ F.length ∧ ∃ u5 u6, σ' = [some (V.ref a), some (V.ref b), some (V.ref d), some (V.ref c), some (.int (at_ : Nat)), u5, u6], ⟨ns.length + 1, [n0], 0, rfl, s3, start, by simp, by simp [m0, Rch.refl], by simp, by simp, Nat.zero_le _, _, _, rfl⟩, ?_⟩
    rintro m σ' H1 ⟨F, n, em, sm, ⟨ws, fs, hc1, rw1, hd1, ky1, kf1⟩, nd, sub, m0F, clo, le, u5, u6, rfl⟩
    have Fl : F.length ≤ ns.length := nodup_le _ _ nd fun x hx => (sub x hx).1
    nested_keys
    refine ⟨c, _, rfl, .inl (SqL.of hc1), ?_⟩
    nested_keys
    refine iteD (fun cc => ?_) fun cc => ?_
    · have c' : n < F.length := by rw [← rw1.len]; simpa using cc
      obtain ⟨y, hy⟩ : ∃ y, F[n]? = some y := ⟨_, List.getElem?_eq_getElem c'⟩
      have hyF := List.mem_of_getElem? hy
      obtain ⟨yv, hyv, ry⟩ := rw1.get_map hy
      obtain ⟨l, g1, g2⟩ := G.rows y (sub y hyF).1
      obtain ⟨rv, g3, g4⟩ := g2
      refine ⟨fun σ' H' => ∃ m', m' < m ∧ _, fun _ _ k => k, ?_⟩
      refine ⟨fun σ' H' => ∃ F' : List Nod, Same H H' ∧ (∃ (ws : List V) (fs : List Ent), H' c = some (.lst ws) ∧ Rks H' ((F ++ F').map dNod) ws ∧ H' d = some (dNO P w d fs) ∧ (∀ e ∈ fs, Ky H' e.1 e.2.1) ∧ fs.map (·.1) = (F ++ F').map dNod) ∧ (F ++ F').Nodup ∧ (∀ x ∈ F ++ F', x ∈ ns ∧ Rch (Eg sc) n0 x) ∧ (∀ q ∈ sc y, q.2 ∈ F ++ F') ∧ ∃ u5 u6, σ' = [some (V.ref a), some (V.ref b), some (V.ref d), some (V.ref c), some (.int (n : Nat)), u5, u6], ?_, ?_⟩
      · nested_keys
        refine ⟨c, _, _, _, rfl, rfl, SqL.of hc1, atI_nat hyv, ?_⟩
        obtain ⟨yb, _, _, rfl, _⟩ := ry.nod
        refine ⟨a, yb, ks, dNod y, _, rfl, rfl, ⟨.of (sm _ _ ha), (G.at sm.seqs).kys⟩, ⟨ry, dNod_depth _⟩, g1, ?_⟩
        nested_keys
        refine ⟨⟨_, SqL.of (sm _ _ g3)⟩, for_it (walk_li rv) (fun k σ' H' => ∃ F' : List Nod, Same H H' ∧ (∃ (ws : List V) (fs : List Ent), H' c = some (.lst ws) ∧ Rks H' ((F ++ F').map dNod) ws ∧ H' d = some (dNO P w d fs) ∧ (∀ e ∈ fs, Ky H' e.1 e.2.1) ∧ fs.map (·.1) = (F ++ F').map dNod) ∧ (F ++ F').Nodup ∧ (∀ x ∈ F ++ F', x ∈ ns ∧ Rch (Eg sc) n0 x) ∧ (∀ q ∈ (sc y).take k, q.2 ∈ F ++ F') ∧ ∃ u5 u6, σ' = [some (V.ref a), some (V.ref b), some (V.ref d), some (V.ref c), some (.int (n : Nat)), u5, u6]) ?_ ?_ ?_ ?_⟩
        · exact ⟨[], sm, ⟨ws, fs, hc1, by simpa using rw1, hd1, ky1, by simpa using kf1⟩, by simpa using nd, by simpa using sub, by simp, _, _, rfl⟩
        · rintro k σ2 H2 _ ⟨F', sm2, _⟩
          exact SqL.of (sm2 _ _ g3)
        · rintro k x σ2 H4 H5 hi ⟨F', sm2, ⟨ws2, fs2, hc2, rw2, hd2, ky2, kf2⟩, nd2, sub2, cl2, v5, v6, rfl⟩ ⟨rfl, hx⟩
          obtain ⟨qq, h1, h2⟩ := g4.mapV hx
          obtain ⟨tb, x1, y1, rfl, htb, h3, h4⟩ := (sm2.rk h2).row
          have hm := List.mem_of_getElem? h1
          have qn : qq.2 ∈ ns := cl y (sub y hyF).1 qq hm
          have qr : Rch (Eg sc) n0 qq.2 := (sub y hyF).2.trans (.one ⟨qq.1, hm⟩)
          have l2 : (F ++ F').length ≤ ns.length := nodup_le _ _ nd2 fun x hx => (sub2 x hx).1
          have step : ∀ G : List Nod, (∀ x ∈ F ++ F', x ∈ G) → qq.2 ∈ G → ∀ q ∈ (sc y).take (k + 1), q.2 ∈ G := fun G h1' h2' q hq => by
            rw [take_snoc h1, List.mem_append, List.mem_singleton] at hq
            rcases hq with hq | rfl
            · exact h1' _ (cl2 q hq)
            · exact h2'
          refine ⟨tb, _, rfl, SqT.of htb, rfl, _, _, rfl, _, _, rfl, rfl, ?_⟩
          nested_keys
          refine ⟨dNod qq.2, y1, d, fs2, rfl, rfl, h4, ⟨.of hd2, ky2⟩, ?_⟩
          have isS : (lkN fs2 (dNod qq.2)).isSome = true ↔ qq.2 ∈ F ++ F' := by rw [lkN_mem, kf2, mem_nods]
          cases e : (lkN fs2 (dNod qq.2)).isSome with
          | true =>
            nested_keys
            exact ⟨F', sm2, ⟨ws2, fs2, hc2, rw2, hd2, ky2, kf2⟩, nd2, sub2, step _ (fun _ h => h) (isS.mp e), _, _, rfl⟩
          | false =>
            have no : qq.2 ∉ F ++ F' := fun z => by rw [isS.mpr z] at e; cases e
            have lf : fs2.length = (F ++ F').length := by rw [← List.length_map (f := fun e : Ent => e.1), kf2, List.length_map]
            nested_keys
            refine ⟨d, y1, fs2, dNod qq.2, rfl, rfl, hd2, ky2, h4, by rw [lf]; exact line24 (m := 1000) (by omega), ?_⟩
            nested_keys
            have hc3 : upd H5 d (dNO P w d (putN fs2 (dNod qq.2) y1 (.bl true))) c = some (.lst ws2) := by rw [upd_ne cd]; exact hc2
            refine ⟨.inl ⟨rfl, _, SqL.of hc3⟩, ?_⟩
            nested_keys
            refine ⟨c, ws2, _, rfl, rfl, hc3, by rw [rw2.len]; exact line24 (m := 1000) (by omega), ?_⟩
            have t1 : Tups H5 (upd H5 d (dNO P w d (putN fs2 (dNod qq.2) y1 (.bl true)))) := (Seqs.ext hd2 dNO_tup dNO_lst).t
            have t2 : Tups H5 (upd (upd H5 d (dNO P w d (putN fs2 (dNod qq.2) y1 (.bl true)))) c (.lst (ws2 ++ [.ref y1]))) := t1.trans (Tups.put hc3 (fun xs z => by cases z))
            have hn : lkN fs2 (dNod qq.2) = none := by
              cases z : lkN fs2 (dNod qq.2) with
              | none => rfl
              | some v => rw [z] at e; cases e
            refine ⟨F' ++ [qq.2], (sm2.put hd).put nc, ⟨_, putN fs2 (dNod qq.2) y1 (.bl true), upd_same, ?_, ?_, kys_put t2 ky2 (h4.at t2) _, ?_⟩, ?_, ?_, ?_, _, _, rfl⟩
            · rw [← List.append_assoc, List.map_append]
              exact (rw2.at t2).append (.cons (h4.1.at t2) .nil)
            · rw [upd_ne cd.symm, upd_same]
              rfl
            · rw [putN_new _ _ hn, List.map_append, kf2, ← List.append_assoc, List.map_append (l₁ := F ++ F')]
              rfl
            · rw [← List.append_assoc, List.nodup_append]
              exact ⟨nd2, by simp, fun a ha b hb e' => by
                rw [List.mem_singleton] at hb
                rw [hb] at e'
                exact no (e' ▸ ha)⟩
            · rw [← List.append_assoc]
              intro x hx
              rw [List.mem_append, List.mem_singleton] at hx
              rcases hx with hx | rfl
              · exact sub2 x hx
              · exact ⟨qn, qr⟩
            · rw [← List.append_assoc]
              exact step _ (fun _ h => List.mem_append_left _ h) (by simp)
        · rintro σ2 H2 ⟨F', sm2, k1, k2, k3, k4, k⟩
          rw [g4.len, List.take_length] at k4
          exact ⟨F', sm2, k1, k2, k3, k4, k⟩
      · rintro σ2 H2 ⟨F', sm2, k1, nd2, sub2, cl2, v5, v6, rfl⟩
        nested_keys
        refine ⟨m - 1, by omega, F ++ F', n + 1, by omega, sm2, k1, nd2, sub2, List.mem_append_left _ m0F, ?_, by rw [List.length_append]; omega, _, _, rfl⟩
        intro x hx qv hq
        rw [List.take_append_of_le_length (by omega), take_snoc hy, List.mem_append, List.mem_singleton] at hx
        rcases hx with hx | rfl
        · exact List.mem_append_left _ (clo x hx qv hq)
        · exact cl2 qv hq
    · have c' : F.length ≤ n := by rw [← rw1.len]; simpa using cc
      have e : F.take n = F := List.take_of_length_le c'
      rw [e] at clo
      refine ⟨F, sm, ⟨ws, hc1, rw1⟩, nd, fun x => ⟨fun hx => (sub x hx).2, fun r => ?_⟩, _, _, _, rfl⟩
      have go : ∀ x y, Rch (Eg sc) x y → x ∈ F → y ∈ F := by
        intro x y r
        induction r with
        | refl => exact id
        | step e _ ih =>
          intro hx
          obtain ⟨mm, hmm⟩ := e
          exact ih (clo _ hx _ hmm)
      exact go _ _ r m0F
  · rintro σ2 H2 ⟨F, sm, k1, nd, mem, u4, u5, u6, rfl⟩
    nested_keys
    exact q c F _ sm k1 nd mem
end NS
/-! M6: the depth first walk, step by step, in plain lists. -/
namespace NS
open PySem PySem.Spec PyProof.Rows
structure Dfs (sc : Succ) (ns : List Nod) (O En : List Nod) (pt : List (Nod × Nat)) : Prop where
  ndE : En.Nodup
  subE : ∀ x ∈ En, x ∈ ns
  mem : ∀ x, x ∈ En ↔ x ∈ O ∨ x ∈ pt.map (·.1)
  ndO : O.Nodup
  ndP : (pt.map (·.1)).Nodup
  dis : ∀ x ∈ O, x ∉ pt.map (·.1)
  seen : ∀ p ∈ pt, p.2 ≤ (sc p.1).length ∧ ∀ q ∈ (sc p.1).take p.2, q.2 ∈ En
  full : ∀ z ∈ O, ∀ q ∈ sc z, q.2 ∈ En
  chain : pt.Pairwise (fun a b => Rch (Eg sc) a.1 b.1)
  lv : Leaves (Eg sc) O (pt.map (·.1))
variable {sc : Succ} {ns O En : List Nod} {pt : List (Nod × Nat)} {x : Nod} {k : Nat} {q : Move × Nod}
theorem Dfs.start : Dfs sc ns [] [] [] := ⟨List.nodup_nil, by simp, by simp, List.nodup_nil, List.nodup_nil, by simp, by simp, by simp, List.Pairwise.nil, Leaves.nil⟩
theorem Dfs.enter (d : Dfs sc ns O En []) (h : x ∉ En) (hx : x ∈ ns) : Dfs sc ns O (x :: En) [(x, 0)] := by
  have hO : x ∉ O := fun z => h ((d.mem x).mpr (.inl z))
  refine ⟨List.nodup_cons.mpr ⟨h, d.ndE⟩, ?_, ?_, d.ndO, by simp, ?_, ?_, ?_, by simp, d.lv.more (by simp)⟩
  · intro y hy
    rcases List.mem_cons.mp hy with rfl | hy
    · exact hx
    · exact d.subE y hy
  · intro y
    rw [List.mem_cons, d.mem y]
    simp [or_comm]
  · intro y hy z
    simp only [List.map_cons, List.map_nil, List.mem_singleton] at z
    exact hO (z ▸ hy)
  · intro p hp
    rw [List.mem_singleton] at hp
    subst hp
    exact ⟨Nat.zero_le _, by simp⟩
  · intro z hz q hq
    exact List.mem_cons_of_mem _ (d.full z hz q hq)
theorem mem_snocs {y : Nod} : y ∈ (pt ++ [(x, k)]).map (·.1) ↔ y ∈ pt.map (·.1) ∨ y = x := by simp
theorem Dfs.leave (d : Dfs sc ns O En (pt ++ [(x, k)])) (hk : k = (sc x).length) : Dfs sc ns (O ++ [x]) En pt := by
  have nd := d.ndP
  rw [List.map_append, List.nodup_append] at nd
  have xp : x ∉ pt.map (·.1) := fun z => nd.2.2 x z x (by simp) rfl
  have xO : x ∉ O := fun z => d.dis x z (by simp)
  have ch := d.chain
  rw [List.pairwise_append] at ch
  have sx := d.seen (x, k) (by simp)
  have hsx : ∀ q ∈ sc x, q.2 ∈ En := fun q hq => sx.2 q (by rw [show (x, k).2 = k from rfl, hk, List.take_length]; exact hq)
  refine ⟨d.ndE, d.subE, ?_, ?_, nd.1, ?_, fun p hp => d.seen p (List.mem_append_left _ hp), ?_, ch.1, ?_⟩
  · intro y
    rw [d.mem y, mem_snocs, List.mem_append, List.mem_singleton]
    constructor
    · rintro (h | h | h)
      · exact .inl (.inl h)
      · exact .inr h
      · exact .inl (.inr h)
    · rintro ((h | h) | h)
      · exact .inl h
      · exact .inr (.inr h)
      · exact .inr (.inl h)
  · rw [List.nodup_append]
    exact ⟨d.ndO, by simp, fun a ha b hb e => by
      rw [List.mem_singleton] at hb
      exact xO (hb ▸ e ▸ ha)⟩
  · intro y hy
    rw [List.mem_append, List.mem_singleton] at hy
    rcases hy with hy | rfl
    · exact fun z => d.dis y hy (mem_snocs.mpr (.inl z))
    · exact xp
  · intro z hz q hq
    rw [List.mem_append, List.mem_singleton] at hz
    rcases hz with hz | rfl
    · exact d.full z hz q hq
    · exact hsx q hq
  · have inE : ∀ y, y ∈ En → y ∈ O ∨ y = x ∨ y ∈ pt.map (·.1) := fun y hy => by
      rcases (d.mem y).mp hy with h | h
      · exact .inl h
      · rcases mem_snocs.mp h with h | h
        · exact .inr (.inr h)
        · exact .inr (.inl h)
    refine Leaves.snoc (d.lv.more fun y hy => ?_) (fun z hz y hy => ?_) (fun y hy => ?_) fun p hp => ?_
    · rcases mem_snocs.mp hy with h | h
      · exact List.mem_cons_of_mem _ h
      · rw [h]; exact List.mem_cons_self ..
    · obtain ⟨m, hm⟩ := hy
      exact inE y (d.full z hz (m, y) hm)
    · obtain ⟨m, hm⟩ := hy
      exact inE y (hsx (m, y) hm)
    · obtain ⟨pp, h1, rfl⟩ := List.mem_map.mp hp
      exact ch.2.2 pp h1 (x, k) (by simp)
theorem Dfs.go (d : Dfs sc ns O En (pt ++ [(x, k)])) (hq : (sc x)[k]? = some q) (hE : q.2 ∈ En) : Dfs sc ns O En (pt ++ [(x, k + 1)]) := by
  have em : (pt ++ [(x, k + 1)]).map (·.1) = (pt ++ [(x, k)]).map (·.1) := by simp
  have lt : k < (sc x).length := (List.getElem?_eq_some_iff.mp hq).1
  refine ⟨d.ndE, d.subE, fun y => by rw [em]; exact d.mem y, d.ndO, by rw [em]; exact d.ndP, fun y hy => by rw [em]; exact d.dis y hy, ?_, d.full, ?_, by rw [em]; exact d.lv⟩
  · intro p hp
    rw [List.mem_append, List.mem_singleton] at hp
    rcases hp with hp | rfl
    · exact d.seen p (List.mem_append_left _ hp)
    · refine ⟨lt, fun z hz => ?_⟩
      rw [show ((x, k + 1) : Nod × Nat).2 = k + 1 from rfl, take_snoc hq, List.mem_append, List.mem_singleton] at hz
      rcases hz with hz | rfl
      · exact (d.seen (x, k) (by simp)).2 z hz
      · exact hE
  · have ch := d.chain
    rw [List.pairwise_append] at ch ⊢
    refine ⟨ch.1, by simp, fun a ha b hb => ?_⟩
    rw [List.mem_singleton] at hb
    subst hb
    exact ch.2.2 a ha (x, k) (by simp)
theorem Dfs.push (d : Dfs sc ns O En (pt ++ [(x, k)])) (hq : (sc x)[k]? = some q) (hE : q.2 ∉ En) (hn : q.2 ∈ ns) : Dfs sc ns O (q.2 :: En) (pt ++ [(x, k + 1)] ++ [(q.2, 0)]) := by
  have em : (pt ++ [(x, k + 1)]).map (·.1) = (pt ++ [(x, k)]).map (·.1) := by simp
  have lt : k < (sc x).length := (List.getElem?_eq_some_iff.mp hq).1
  have nq : q.2 ∉ (pt ++ [(x, k)]).map (·.1) := fun z => hE ((d.mem _).mpr (.inr z))
  have nO : q.2 ∉ O := fun z => hE ((d.mem _).mpr (.inl z))
  refine ⟨List.nodup_cons.mpr ⟨hE, d.ndE⟩, ?_, ?_, d.ndO, ?_, ?_, ?_, fun z hz p hp => List.mem_cons_of_mem _ (d.full z hz p hp), ?_, ?_⟩
  · intro y hy
    rcases List.mem_cons.mp hy with rfl | hy
    · exact hn
    · exact d.subE y hy
  · intro y
    rw [List.mem_cons, d.mem y, mem_snocs, mem_snocs, mem_snocs]
    constructor
    · rintro (h | h | h)
      · exact .inr (.inr h)
      · exact .inl h
      · exact .inr (.inl h)
    · rintro (h | h | h)
      · exact .inr (.inl h)
      · exact .inr (.inr h)
      · exact .inl h
  · rw [List.map_append, em, List.nodup_append]
    exact ⟨d.ndP, by simp, fun a ha b hb e => by
      simp only [List.map_cons, List.map_nil, List.mem_singleton] at hb
      exact nq (hb ▸ e ▸ ha)⟩
  · intro y hy z
    rcases mem_snocs.mp z with h | h
    · rw [em] at h
      exact d.dis y hy h
    · exact nO (h ▸ hy)
  · intro p hp
    rw [List.mem_append, List.mem_append, List.mem_singleton, List.mem_singleton] at hp
    rcases hp with (hp | rfl) | rfl
    · exact ⟨(d.seen p (List.mem_append_left _ hp)).1, fun z hz => List.mem_cons_of_mem _ ((d.seen p (List.mem_append_left _ hp)).2 z hz)⟩
    · refine ⟨lt, fun z hz => ?_⟩
      rw [show ((x, k + 1) : Nod × Nat).2 = k + 1 from rfl, take_snoc hq, List.mem_append, List.mem_singleton] at hz
      rcases hz with hz | rfl
      · exact List.mem_cons_of_mem _ ((d.seen (x, k) (by simp)).2 z hz)
      · exact List.mem_cons_self ..
    · exact ⟨Nat.zero_le _, by simp⟩
  · have ch := d.chain
    rw [List.pairwise_append] at ch
    have lastE : Eg sc x q.2 := ⟨q.1, List.mem_of_getElem? hq⟩
    rw [List.pairwise_append, List.pairwise_append]
    refine ⟨⟨ch.1, by simp, fun a ha b hb => ?_⟩, by simp, fun a ha b hb => ?_⟩
    · rw [List.mem_singleton] at hb
      subst hb
      exact ch.2.2 a ha (x, k) (by simp)
    · rw [List.mem_singleton] at hb
      subst hb
      rw [List.mem_append, List.mem_singleton] at ha
      rcases ha with ha | rfl
      · exact (ch.2.2 a ha (x, k) (by simp)).trans (.one lastE)
      · exact .one lastE
  · refine d.lv.more fun y hy => ?_
    rw [mem_snocs, em]
    exact .inl hy
/-- the work that is left -/
def ssum (sc : Succ) : List (Nod × Nat) → Nat
  | [] => 0
  | p :: l => ((sc p.1).length - p.2 + 1) + ssum sc l
theorem ssum_snoc (sc : Succ) (p : Nod × Nat) : ∀ l : List (Nod × Nat), ssum sc (l ++ [p]) = ssum sc l + ((sc p.1).length - p.2 + 1)
  | [] => by simp [ssum]
  | y :: l => by rw [List.cons_append, ssum, ssum, ssum_snoc sc p l]; omega
def wt (sc : Succ) (x : Nod) : Nat := (sc x).length + 2
theorem Dfs.room (d : Dfs sc ns O En pt) : wsum (wt sc) En ≤ wsum (wt sc) ns := wsum_le _ _ _ d.ndE d.subE
end NS
/-! G15: the walk of leaving_order. -/
namespace NS
open PySem PySem.Spec PyProof.Rows L2
local macro_rules | `(tactic| nested_keys) => `(tactic| repeat (first | refine ⟨_, rfl, ?_⟩ | refine ⟨_, _, rfl, rfl, ?_⟩ | refine ⟨rfl, ?_⟩ | with_reducible refine iteT ?_ | with_reducible refine iteF ?_))
variable {P : Program} {w : World} {K : PySem.W.Frag} {mg : Str → Option Value} {base : Heap}
abbrev dPt (p : Nod × Nat) : Dat := .tup [dNod p.1, .num ((p.2 : Nat) : Int)]
theorem _root_.L2.Same.lock {H : Hp} {a : Addr} {u o : HO} {H' : Hp} (h : H a = some u) (s : Same (upd H a o) H') : Same H (upd H' a u) := fun b v e => by
  by_cases hb : b = a
  · subst hb
    rw [upd_same, ← e, h]
  · rw [upd_ne hb]
    exact s b v (by rw [upd_ne hb]; exact e)
theorem seqs_lock {H : Hp} {a : Addr} {ks : List Ent} {o : HO} (h : H a = some (dNO P w a ks)) : Seqs H (upd H a o) := Seqs.ext h dNO_tup dNO_lst
def sp_leaving_order (P : Program) (w : World) : Sp := fun vs H Q _ => ∃ (a : Addr) (ns : List Nod) (sc : Succ) (ks : List Ent), vs = [.ref a] ∧ H a = some (dNO P w a ks) ∧ Gph H ns sc ks ∧ ns.length ≤ 500 ∧ (∀ n ∈ ns, ∀ q ∈ sc n, q.2 ∈ ns) ∧
  ∀ (c : Addr) (O : List Nod) (H' : Hp), Same H H' → Ls H' c (O.map dNod) → O.Nodup → (∀ x, x ∈ O ↔ x ∈ ns) → Leaves (Eg sc) O [] → Q (.ref c) H'
theorem ok_leaving_order (T : Tx K mg) : C8.Cal P w K mg base 1 "leaving_order" (sp_leaving_order P w) [] := cal_leaving_order T (fun vs H Q E ⟨_, _, _, _, h, _⟩ => by rw [h]; rfl) fun cdv A outer s H vs Q E hr h => by
  refine ⟨_, (pss_cons (ps_set (i := 1) sc_leaving_order.nd rfl (Or.inl rfl) (pe_callTy0 cr_setN0 (by rfl) T.f_set b_set))
    (pss_cons (ps_set (i := 2) sc_leaving_order.nd rfl (Or.inl rfl) (pe_lst pa_nil))
    (C8.pss_cut (ps_lock (ps_for PassesOwn.never rfl (pi_keysN (pv 0)) (pg_name (i := 3) sc_leaving_order.nd rfl (Or.inl rfl))
      (pss_cons (ps_if (pt_cmpR (op_inSN (u9 hr)) (pv 3) (pv 1) (by rfl)) (pss_one ps_continue) pss_nil)
    (pss_cons (ps_expr (pe_addN (u9 hr) (pv 1) (pa_cons (pv 3) pa_nil)))
    (pss_cons (ps_set (i := 4) sc_leaving_order.nd rfl (Or.inl rfl) (pe_lst (pa_cons (pe_tup (pa_cons (pv 3) (pa_cons pe_int pa_nil))) pa_nil)))
    (pss_one (ps_while PassesOwn.never (pt_truth (pv 4) (by intro _; rfl))
      (pss_cons (ps_asg (pe_bm0 PySem.F.plainAttrs_list PySem.F.slot_list_pop PySem.F.type_list_pop mt_pop (pv 4)) (pg_tup rfl (pgs_cons (pg_name (i := 5) sc_leaving_order.nd rfl (Or.inl rfl)) (pgs_cons (pg_name (i := 6) sc_leaving_order.nd rfl (Or.inl rfl)) pgs_nil))))
    (pss_cons (ps_if (pt_cmpR op_eq (pv 6) (pe_callB call_len_seq (by rfl) T.f_len b_len (pa_cons (pe_ix (ix_dN (u9 hr)) (pv 0) (pv 5) (fun _ _ => rfl)) pa_nil)) (nomark _)) (pss_cons (ps_expr (pe_bm PySem.F.plainAttrs_list PySem.F.slot_list_append PySem.F.type_list_append mt_append (pv 2) (pa_cons (pv 5) pa_nil)))
    (pss_one ps_continue)) pss_nil)
    (pss_cons (ps_expr (pe_bm PySem.F.plainAttrs_list PySem.F.slot_list_append PySem.F.type_list_append mt_append (pv 4) (pa_cons (pe_tup (pa_cons (pv 5) (pa_cons (pe_op op_add (pv 6) pe_int) pa_nil))) pa_nil)))
    (pss_cons (ps_set (i := 7) sc_leaving_order.nd rfl (Or.inl rfl) (pe_ix ix_tup (pe_ix ix_list (pe_ix (ix_dN (u9 hr)) (pv 0) (pv 5) (fun _ _ => rfl)) (pv 6) (fun _ _ => rfl)) pe_int (fun _ _ => rfl)))
    (pss_one (ps_if (pt_cmpR (op_ninSN (u9 hr)) (pv 7) (pv 1) (by rfl)) (pss_cons (ps_expr (pe_addN (u9 hr) (pv 1) (pa_cons (pv 7) pa_nil)))
    (pss_one (ps_expr (pe_bm PySem.F.plainAttrs_list PySem.F.slot_list_append PySem.F.type_list_append mt_append (pv 4) (pa_cons (pe_tup (pa_cons (pv 7) (pa_cons pe_int pa_nil))) pa_nil))))) pss_nil)))))))))))))
    (pss_one (ps_ret (pv 2)))))), ?_⟩
  obtain ⟨a, ns, sc, ks, rfl, ha, G, few, cl, q⟩ := h
  nested_keys
  intro e he oe eoe
  subst eoe
  have s1 : Same H (upd H e (sNO P w e [])) := Same.new he
  have sn1 : Sn P w (upd H e (sNO P w e [])) e [] := Sn.new
  nested_keys
  refine ⟨Nat.zero_le _, fun c hc => ?_⟩
  have nc : H c = none := s1.none hc
  have ce : c ≠ e := fun z => by rw [z, upd_same] at hc; cases hc
  have s2 : Same H (upd (upd H e (sNO P w e [])) c (.lst [])) := s1.put nc
  have sn2 : Sn P w (upd (upd H e (sNO P w e [])) c (.lst [])) e [] := sn1.move (Same.new hc).tups (upd_ne ce.symm)
  refine ⟨fun σ' H' => ∃ O : List Nod, Same H H' ∧ Ls H' c (O.map dNod) ∧ O.Nodup ∧ (∀ x, x ∈ O ↔ x ∈ ns) ∧ Leaves (Eg sc) O [] ∧ ∃ u3 u4 u5 u6 u7, σ' = [some (V.ref a), some (V.ref e), some (V.ref c), u3, u4, u5, u6, u7], ?_, ?_⟩
  · refine ⟨a, dNO P w a ks, s2 _ _ ha, trivial, fun od => ?_⟩
    have nae : e ≠ a := fun z => by rw [z, ha] at he; cases he
    have nac : c ≠ a := fun z => by rw [z, ha] at nc; cases nc
    have s3 : Same (upd H a (.frz od (dNO P w a ks))) (upd (upd (upd H e (sNO P w e [])) c (.lst [])) a (.frz od (dNO P w a ks))) := fun b o z => by
      by_cases hb : b = a
      · subst hb; rw [upd_same] at z ⊢; exact z
      · rw [upd_ne hb] at z ⊢
        exact s2 _ _ z
    have GL : Gph (upd H a (.frz od (dNO P w a ks))) ns sc ks := G.at (seqs_lock ha)
    have la : (upd H a (.frz od (dNO P w a ks))) a = some (.frz od (dNO P w a ks)) := upd_same
    have heL : (upd H a (.frz od (dNO P w a ks))) e = none := by rw [upd_ne nae]; exact he
    have hcL : (upd H a (.frz od (dNO P w a ks))) c = none := by rw [upd_ne nac]; exact nc
    have sn3 : Sn P w (upd (upd (upd H e (sNO P w e [])) c (.lst [])) a (.frz od (dNO P w a ks))) e [] := sn2.move (seqs_lock (s2 _ _ ha)).t (upd_ne nae)
    have fin : ∀ H', Same (upd H a (.frz od (dNO P w a ks))) H' → Same H (upd H' a (dNO P w a ks)) := fun H' z => Same.lock ha z
    generalize upd H a (.frz od (dNO P w a ks)) = HL at s3 GL la heL hcL fin
    nested_keys
    refine ⟨a, od, ks, rfl, upd_same, for_keysN (fun i σ' H' => ∃ (O En : List Nod), Same HL H' ∧ Ls H' c (O.map dNod) ∧ Sn P w H' e (En.map dNod) ∧ Dfs sc ns O En [] ∧ (∀ x ∈ ns.take i, x ∈ O) ∧ ∃ u3 u4 u5 u6 u7, σ' = [some (V.ref a), some (V.ref e), some (V.ref c), u3, u4, u5, u6, u7]) ?_ (fun _ _ _ _ ⟨_, _, sm, _⟩ => sm _ _ la) ?_ ?_⟩
    · refine ⟨[], [], s3, ⟨[], ?_, .nil⟩, sn3, Dfs.start, by simp, _, _, _, _, _, rfl⟩
      rw [upd_ne nac]
      exact upd_same
    · rintro i en σ2 H2 hi ⟨O, En, sm, ⟨ov, hc2, rO⟩, sn, D, pre, u3, u4, u5, u6, u7, rfl⟩
      obtain ⟨r, hr1, hr2⟩ := GL.key hi
      have kr : Ky H2 (dNod r) en.2.1 := by
        have := (GL.kys en (List.mem_of_getElem? hi)).at sm.tups
        rw [hr2] at this
        exact this
      have rns : r ∈ ns := List.mem_of_getElem? hr1
      have OE : ∀ x, x ∈ En ↔ x ∈ O := fun x => by rw [D.mem x]; simp
      nested_keys
      refine ⟨dNod r, en.2.1, e, _, rfl, rfl, kr, sn, ?_⟩
      nested_keys
      refine iteD (fun m => ?_) fun m => ?_
      · have mE : r ∈ En := mem_nods.mp m
        refine ⟨O, En, sm, ⟨ov, hc2, rO⟩, sn, D, ?_, _, _, _, _, _, rfl⟩
        intro x hx
        rw [take_snoc hr1, List.mem_append, List.mem_singleton] at hx
        rcases hx with hx | rfl
        · exact pre x hx
        · exact (OE _).mp mE
      · have mE : r ∉ En := fun z => m (mem_nods.mpr z)
        have lE : En.length ≤ ns.length := nodup_le _ _ D.ndE D.subE
        nested_keys
        refine ⟨⟨e, _, rfl, sn⟩, ?_⟩
        nested_keys
        refine ⟨e, en.2.1, dNod r, _, rfl, rfl, kr, sn, by rw [List.length_map]; omega, fun oS snN tpN => ?_⟩
        rw [if_neg m] at snN
        have sm3 : Same HL (upd H2 e oS) := sm.put heL
        have hc3 : upd H2 e oS c = some (.lst ov) := by rw [upd_ne ce]; exact hc2
        have kr3 := kr.at tpN
        have rO3 := rO.at tpN
        have D1 := D.enter mE rns
        nested_keys
        refine ⟨by show 2 ≤ sizeLine; decide, fun t ht => ?_⟩
        refine ⟨by show 1 ≤ sizeLine; decide, fun p hp => ?_⟩
        have s34 : Same (upd H2 e oS) (upd (upd (upd H2 e oS) t (.tup [.ref en.2.1, .int 0])) p (.lst [.ref t])) := (Same.new ht).put ((Same.new ht).none hp)
        have ht4 : upd (upd (upd H2 e oS) t (.tup [.ref en.2.1, .int 0])) p (.lst [.ref t]) t = some (.tup [.ref en.2.1, .int 0]) := by
          rw [upd_ne (fun z => by rw [← z, upd_same] at hp; cases hp), upd_same]
        have np : (upd H2 e oS) p = none := (Same.new ht).none hp
        have pL : HL p = none := sm3.none np
        have pc : p ≠ c := fun z => by rw [z, hc3] at np; cases np
        have pe : p ≠ e := fun z => by rw [z, upd_same] at np; cases np
        refine ⟨fun m σ' H' => ∃ (O' En' : List Nod) (pt : List (Nod × Nat)), m + wsum (wt sc) En' = wsum (wt sc) ns + ssum sc pt ∧ Same HL H' ∧ Ls H' c (O'.map dNod) ∧ Sn P w H' e (En'.map dNod) ∧ Ls H' p (pt.map dPt) ∧ Dfs sc ns O' En' pt ∧ (∀ x ∈ ns.take (i + 1), x ∈ O' ∨ x ∈ pt.map (·.1)) ∧ pt.length ≤ 1000 ∧ ∃ u3 u5 u6 u7, σ' = [some (V.ref a), some (V.ref e), some (V.ref c), u3, some (.ref p), u5, u6, u7], ⟨wsum (wt sc) ns + ssum sc [(r, 0)] - wsum (wt sc) (r :: En), O, r :: En, [(r, 0)], by have := D1.room; omega, (fun b o z => s34 _ _ (sm3 _ _ z)), ⟨ov, s34 _ _ hc3, s34.rks rO3⟩, snN.move s34.tups ?_, ⟨_, upd_same, .cons (.tup ht4 (.cons (kr3.at s34.tups).1 (.cons (.num _) .nil))) .nil⟩, D1, ?_, by simp, _, _, _, _, rfl⟩, ?_⟩
        · rw [upd_ne pe.symm, upd_ne (fun z => by rw [← z, upd_same] at ht; cases ht)]
        · intro x hx
          rw [take_snoc hr1, List.mem_append, List.mem_singleton] at hx
          rcases hx with hx | rfl
          · exact .inl (pre x hx)
          · exact .inr (by simp)
        · clear s34 ht4 np snN tpN kr3 rO3 D1 hc3 sm3 ht hp
          rintro m σ' H4 ⟨O', En', pt, em, sm4, ⟨ov', hc4, rO4⟩, sn4, ⟨pv, hp4, rp4⟩, D4, pre4, lp4, v3, v5, v6, v7, rfl⟩
          have room := D4.room
          nested_keys
          refine ⟨_, .inl ⟨_, SqL.of hp4, rfl⟩, ?_⟩
          rcases List.eq_nil_or_concat pt with rfl | ⟨pt0, ⟨x, k⟩, rfl⟩
          · have : pv = [] := List.length_eq_zero_iff.mp (by rw [rp4.len]; rfl)
            subst this
            nested_keys
            refine ⟨O', En', sm4, ⟨ov', hc4, rO4⟩, sn4, D4, ?_, _, _, _, _, _, rfl⟩
            intro x hx
            rcases pre4 x hx with h | h
            · exact h
            · cases h
          · rw [List.concat_eq_append] at *
            rw [ssum_snoc] at em
            have em : m + wsum (wt sc) En' = wsum (wt sc) ns + (ssum sc pt0 + ((sc x).length - k + 1)) := em
            have lpt : pv.length = pt0.length + 1 := by rw [rp4.len]; simp
            have gx : (pt0 ++ [(x, k)])[pt0.length]? = some (x, k) := by simp
            obtain ⟨tv, htv, rtv⟩ := rp4.get_map gx
            have ne : (!pv.isEmpty) = true := by
              cases pv with
              | nil => simp at lpt
              | cons _ _ => rfl
            rw [ne]
            obtain ⟨tb, xv, kv, rfl, htb, rx, rk⟩ := rtv.pair
            obtain ⟨xb, _, _, rfl, _⟩ := rx.nod
            rw [rk.num_eq] at htb
            have xE : x ∈ En' := (D4.mem x).mpr (.inr (by simp))
            have xns : x ∈ ns := D4.subE x xE
            have seen := D4.seen (x, k) (by simp)
            have rp0 : Rks H4 (pt0.map dPt) pv.dropLast := by
              have h1 := rp4.take pt0.length
              rw [← List.map_take, List.take_left] at h1
              rwa [List.dropLast_eq_take, show pv.length - 1 = pt0.length by omega]
            nested_keys
            refine ⟨fun σ' H' => ∃ m', m' < m ∧ _, fun _ _ k => k, ?_⟩
            nested_keys
            refine ⟨.inl ⟨rfl, _, SqL.of hp4⟩, p, pv, V.ref tb, rfl, rfl, hp4, by rw [show pv.length - 1 = pt0.length by omega]; exact htv, ?_⟩
            have t45 : Tups H4 (upd H4 p (.lst pv.dropLast)) := Tups.put hp4 (fun xs z => by cases z)
            have sm5 : Same HL (upd H4 p (.lst pv.dropLast)) := sm4.put pL
            have hc5 : upd H4 p (.lst pv.dropLast) c = some (.lst ov') := by rw [upd_ne pc.symm]; exact hc4
            have sn5 : Sn P w (upd H4 p (.lst pv.dropLast)) e (En'.map dNod) := sn4.move t45 (upd_ne pe.symm)
            have hp5 : upd H4 p (.lst pv.dropLast) p = some (.lst pv.dropLast) := upd_same
            have kx5 : Ky (upd H4 p (.lst pv.dropLast)) (dNod x) xb := ⟨rx.at t45, dNod_depth _⟩
            have rO5 := rO4.at t45
            have rp5 := rp0.at t45
            have htb5 := t45 _ _ htb
            generalize upd H4 p (.lst pv.dropLast) = H5 at t45 sm5 hc5 sn5 hp5 kx5 rO5 rp5 htb5 |-
            refine ⟨tb, _, rfl, SqT.of htb5, rfl, _, _, rfl, _, _, rfl, rfl, ?_⟩
            obtain ⟨l, g1, rv, g3, g4⟩ := GL.rows x xns
            have Dn5 : Dn P w H5 a ks := ⟨.inr ⟨od, sm5 _ _ la⟩, (GL.at sm5.seqs).kys⟩
            nested_keys
            refine ⟨a, xb, ks, dNod x, _, rfl, rfl, Dn5, kx5, g1, ?_⟩
            refine ⟨l, rv, rfl, .inl (SqL.of (sm5 _ _ g3)), ?_⟩
            nested_keys
            refine iteD (fun cc => ?_) fun cc => ?_
            · have ek : k = (sc x).length := by
                rw [← g4.len]
                injection cc with cc
                omega
              have D6 := D4.leave ek
              nested_keys
              refine ⟨.inl ⟨rfl, _, SqL.of hc5⟩, ?_⟩
              nested_keys
              have lO : O'.length ≤ ns.length := nodup_le _ _ D4.ndO fun y hy => D4.subE y ((D4.mem y).mpr (.inl hy))
              refine ⟨c, ov', _, rfl, rfl, hc5, by rw [rO5.len]; exact line24 (m := 500) (by omega), ?_⟩
              have t56 : Tups H5 (upd H5 c (.lst (ov' ++ [.ref xb]))) := Tups.put hc5 (fun xs z => by cases z)
              refine ⟨m - 1, by omega, O' ++ [x], En', pt0, by omega, sm5.put hcL, ⟨_, upd_same, ?_⟩, sn5.move t56 (upd_ne ce.symm), ⟨_, (by rw [upd_ne pc]; exact hp5), rp5.at t56⟩, D6, ?_, by simp at lp4; omega, _, _, _, _, rfl⟩
              · rw [List.map_append]
                exact (rO5.at t56).append (.cons (kx5.1.at t56) .nil)
              · intro y hy
                rcases pre4 y hy with h | h
                · exact .inl (List.mem_append_left _ h)
                · rcases mem_snocs.mp h with h | h
                  · exact .inr h
                  · exact .inl (by rw [h]; simp)
            · have lk : k < (sc x).length := by
                have := seen.1
                have : k ≠ (sc x).length := fun z => cc (by rw [g4.len, z])
                simp only at *
                omega
              obtain ⟨qq, hq⟩ : ∃ qq, (sc x)[k]? = some qq := ⟨_, List.getElem?_eq_getElem lk⟩
              obtain ⟨qv, hqv, rq⟩ := g4.get_map hq
              have qns : qq.2 ∈ ns := cl x xns qq (List.mem_of_getElem? hq)
              nested_keys
              refine ⟨.inl ⟨rfl, _, SqL.of hp5⟩, ?_⟩
              nested_keys
              refine ⟨by show 2 ≤ sizeLine; decide, fun t2 ht2 => ?_⟩
              have s56 : Same H5 (upd H5 t2 (.tup [.ref xb, .int ((k : Nat) + 1)])) := Same.new ht2
              have hp6 := s56 _ _ hp5
              have lp0 : pt0.length < 1000 := by simp at lp4; omega
              refine ⟨p, _, _, rfl, rfl, hp6, by rw [rp5.len]; exact line24 (m := 1000) (by omega), ?_⟩
              have t67 : Tups (upd H5 t2 (.tup [.ref xb, .int ((k : Nat) + 1)])) (upd (upd H5 t2 (.tup [.ref xb, .int ((k : Nat) + 1)])) p (.lst (pv.dropLast ++ [.ref t2]))) := Tups.put hp6 (fun xs z => by cases z)
              have t57 := s56.tups.trans t67
              have sm7 : Same HL (upd (upd H5 t2 (.tup [.ref xb, .int ((k : Nat) + 1)])) p (.lst (pv.dropLast ++ [.ref t2]))) := Same.put (Same.trans' sm5 s56) pL
              have ht7 : upd (upd H5 t2 (.tup [.ref xb, .int ((k : Nat) + 1)])) p (.lst (pv.dropLast ++ [.ref t2])) t2 = some (.tup [.ref xb, .int ((k : Nat) + 1)]) := t67 _ _ upd_same
              have hp7 : upd (upd H5 t2 (.tup [.ref xb, .int ((k : Nat) + 1)])) p (.lst (pv.dropLast ++ [.ref t2])) p = some (.lst (pv.dropLast ++ [.ref t2])) := upd_same
              have hc7 : upd (upd H5 t2 (.tup [.ref xb, .int ((k : Nat) + 1)])) p (.lst (pv.dropLast ++ [.ref t2])) c = some (.lst ov') := by rw [upd_ne pc.symm]; exact s56 _ _ hc5
              have sn7 : Sn P w (upd (upd H5 t2 (.tup [.ref xb, .int ((k : Nat) + 1)])) p (.lst (pv.dropLast ++ [.ref t2]))) e (En'.map dNod) := sn5.move t57 (by
                rw [upd_ne pe.symm, upd_ne (fun z => by
                  obtain ⟨L, h1, _⟩ := sn5.ex
                  rw [z, ht2] at h1
                  cases h1)])
              have kx7 := kx5.at t57
              have rO7 := rO5.at t57
              have rp7 : Rks (upd (upd H5 t2 (.tup [.ref xb, .int ((k : Nat) + 1)])) p (.lst (pv.dropLast ++ [.ref t2]))) ((pt0 ++ [(x, k + 1)]).map dPt) (pv.dropLast ++ [.ref t2]) := by
                rw [List.map_append]
                exact (rp5.at t57).append (.cons (.tup ht7 (.cons kx7.1 (.cons (.num _) .nil))) .nil)
              generalize upd (upd H5 t2 (.tup [.ref xb, .int ((k : Nat) + 1)])) p (.lst (pv.dropLast ++ [.ref t2])) = H7 at t67 t57 sm7 ht7 hp7 hc7 sn7 kx7 rO7 rp7 |-
              have Dn7 : Dn P w H7 a ks := ⟨.inr ⟨od, sm7 _ _ la⟩, (GL.at sm7.seqs).kys⟩
              obtain ⟨qb, qx, qy, rfl, hqb, rq1, kq⟩ := (sm7.rk rq).row
              nested_keys
              refine ⟨a, xb, ks, dNod x, _, rfl, rfl, Dn7, kx7, g1, ?_⟩
              nested_keys
              refine ⟨l, rv, _, _, rfl, rfl, SqL.of (sm7 _ _ g3), atI_nat hqv, ?_⟩
              nested_keys
              refine ⟨qb, _, _, _, rfl, rfl, SqT.of hqb, rfl, ?_⟩
              nested_keys
              refine ⟨dNod qq.2, qy, e, _, rfl, rfl, kq, sn7, ?_⟩
              nested_keys
              by_cases mq : qq.2 ∈ En'
              · rw [decide_eq_true (mem_nods.mpr mq)]
                nested_keys
                refine ⟨m - 1, by omega, O', En', pt0 ++ [(x, k + 1)], ?_, sm7, ⟨_, hc7, rO7⟩, sn7, ⟨_, hp7, rp7⟩, D4.go hq mq, ?_, by simp at lp4 ⊢; omega, _, _, _, _, rfl⟩
                · rw [ssum_snoc]
                  simp only at *
                  omega
                · intro y hy
                  refine (pre4 y hy).imp id fun h => ?_
                  rw [mem_snocs] at h ⊢
                  exact h
              · rw [decide_eq_false (fun z => mq (mem_nods.mp z))]
                nested_keys
                have lE' : En'.length ≤ ns.length := nodup_le _ _ D4.ndE D4.subE
                refine ⟨⟨e, _, rfl, sn7⟩, ?_⟩
                nested_keys
                refine ⟨e, qy, dNod qq.2, _, rfl, rfl, kq, sn7, by rw [List.length_map]; omega, fun oS snN tpN => ?_⟩
                rw [if_neg (fun z => mq (mem_nods.mp z))] at snN
                have hp8 : upd H7 e oS p = some (.lst (pv.dropLast ++ [.ref t2])) := by rw [upd_ne pe]; exact hp7
                nested_keys
                refine ⟨.inl ⟨rfl, _, SqL.of hp8⟩, ?_⟩
                nested_keys
                refine ⟨by show 2 ≤ sizeLine; decide, fun t3 ht3 => ?_⟩
                have s89 : Same (upd H7 e oS) (upd (upd H7 e oS) t3 (.tup [.ref qy, .int 0])) := Same.new ht3
                have hp9 := s89 _ _ hp8
                refine ⟨p, _, _, rfl, rfl, hp9, by rw [rp7.len]; exact line24 (m := 1001) (by simp at lp4 ⊢; omega), ?_⟩
                have t9X : Tups (upd (upd H7 e oS) t3 (.tup [.ref qy, .int 0])) (upd (upd (upd H7 e oS) t3 (.tup [.ref qy, .int 0])) p (.lst (pv.dropLast ++ [.ref t2] ++ [.ref t3]))) := Tups.put hp9 (fun xs z => by cases z)
                have t7X := (tpN.trans s89.tups).trans t9X
                have D8 := D4.push hq mq qns
                have lpt8 : (pt0 ++ [(x, k + 1)] ++ [(qq.2, 0)]).length ≤ 1000 := by
                  have h1 := nodup_le _ _ D8.ndP fun y hy => D8.subE y ((D8.mem y).mpr (.inr hy))
                  rw [List.length_map] at h1
                  omega
                have sm8 : Same HL (upd H7 e oS) := sm7.put heL
                have smX : Same HL (upd (upd (upd H7 e oS) t3 (.tup [.ref qy, .int 0])) p (.lst (pv.dropLast ++ [.ref t2] ++ [.ref t3]))) := Same.put (Same.trans' sm8 s89) pL
                refine ⟨m - 2, by omega, O', qq.2 :: En', pt0 ++ [(x, k + 1)] ++ [(qq.2, 0)], ?_, smX, ⟨_, ?_, rO7.at t7X⟩, snN.move (s89.tups.trans t9X) ?_, ⟨_, upd_same, ?_⟩, D8, ?_, lpt8, _, _, _, _, rfl⟩
                · have r8 := D8.room
                  rw [ssum_snoc, ssum_snoc]
                  simp only [wsum, wt, Nat.sub_zero] at *
                  omega
                · rw [upd_ne pc.symm]
                  exact s89 _ _ (by rw [upd_ne ce]; exact hc7)
                · rw [upd_ne pe.symm, upd_ne (fun z => by rw [← z, upd_same] at ht3; cases ht3)]
                · rw [List.map_append]
                  exact (rp7.at t7X).append (.cons (.tup (t9X _ _ upd_same) (.cons (kq.at t7X).1 (.cons (.num _) .nil))) .nil)
                · intro y hy
                  refine (pre4 y hy).imp id fun h => ?_
                  rw [mem_snocs] at h
                  rw [mem_snocs, mem_snocs]
                  exact .inl h
    · rintro σ2 H2 ⟨O, En, sm, hO, sn, D, pre, u3, u4, u5, u6, u7, rfl⟩
      refine ⟨sm _ _ la, O, fin _ sm, hO.at (Seqs.ext (sm _ _ la) (fun xs z => by cases z) (fun xs z => by cases z)), D.ndO, fun x => ⟨fun hx => D.subE x ((D.mem x).mpr (.inl hx)), fun hx => pre x (by rw [GL.len, List.take_length]; exact hx)⟩, D.lv, _, _, _, _, _, rfl⟩
  · rintro σ2 H2 ⟨O, sm, hO, nd, mem, lv, u3, u4, u5, u6, u7, rfl⟩
    nested_keys
    exact q c O _ sm hO nd mem lv
end NS
/-! G16: the walk of parts_of. -/
namespace NS
open PySem PySem.Spec PyProof.Rows L2
local macro_rules | `(tactic| nested_keys) => `(tactic| repeat (first | refine ⟨_, rfl, ?_⟩ | refine ⟨_, _, rfl, rfl, ?_⟩ | refine ⟨rfl, ?_⟩ | with_reducible refine iteT ?_ | with_reducible refine iteF ?_))
variable {P : Program} {w : World} {K : PySem.W.Frag} {mg : Str → Option Value} {base : Heap}
/-- the graph turned round: B n at the list L n -/
structure Bhd (P : Program) (w : World) (H : Hp) (d : Addr) (ns : List Nod) (L : Nod → Addr) (B : Nod → List Nod) (ks : List Ent) : Prop where
  at_ : H d = some (dNO P w d ks)
  kys : ∀ e ∈ ks, Ky H e.1 e.2.1
  keys : ks.map (·.1) = ns.map dNod
  val : ∀ n ∈ ns, lkN ks (dNod n) = some (.ref (L n))
  inj : ∀ n ∈ ns, ∀ m ∈ ns, L n = L m → n = m
  ls : ∀ n ∈ ns, Ls H (L n) ((B n).map dNod)
theorem Bhd.same {H H' : Hp} {d : Addr} {ns : List Nod} {L : Nod → Addr} {B : Nod → List Nod} {ks : List Ent} (x : Bhd P w H d ns L B ks) (s : Same H H') : Bhd P w H' d ns L B ks :=
  ⟨s _ _ x.at_, fun e he => (x.kys e he).at s.tups, x.keys, x.val, x.inj, fun n hn => (x.ls n hn).same s⟩
theorem Bhd.move {H H' : Hp} {d : Addr} {ns : List Nod} {L : Nod → Addr} {B : Nod → List Nod} {ks : List Ent} (x : Bhd P w H d ns L B ks) (s : Seqs H H') (e : H' d = H d) : Bhd P w H' d ns L B ks :=
  ⟨e.trans x.at_, fun e he => (x.kys e he).at s.t, x.keys, x.val, x.inj, fun n hn => (x.ls n hn).at s⟩
theorem Bhd.dn {H : Hp} {d : Addr} {ns : List Nod} {L : Nod → Addr} {B : Nod → List Nod} {ks : List Ent} (x : Bhd P w H d ns L B ks) : Dn P w H d ks := ⟨.of x.at_, x.kys⟩
/-- one more node at n -/
theorem Bhd.app {H : Hp} {d : Addr} {ns : List Nod} {L : Nod → Addr} {B : Nod → List Nod} {ks : List Ent} (x : Bhd P w H d ns L B ks) {n y : Nod} {vs : List V} {v : V} (hn : n ∈ ns) (h : H (L n) = some (.lst vs)) (hv : Rk H (dNod y) v) :
    Bhd P w (upd H (L n) (.lst (vs ++ [v]))) d ns L (fun m => if m = n then B m ++ [y] else B m) ks := by
  have t : Tups H (upd H (L n) (.lst (vs ++ [v]))) := Tups.put h (fun xs z => by cases z)
  refine ⟨by rw [upd_ne (fun z => by rw [← z, x.at_] at h; cases h)]; exact x.at_, fun e he => (x.kys e he).at t, x.keys, x.val, x.inj, fun m hm => ?_⟩
  by_cases e : m = n
  · subst e
    rw [if_pos rfl]
    obtain ⟨us, h1, h2⟩ := x.ls m hm
    rw [h] at h1
    cases h1
    refine ⟨_, upd_same, ?_⟩
    rw [List.map_append]
    exact (h2.at t).append (.cons (hv.at t) .nil)
  · rw [if_neg e]
    obtain ⟨us, h1, h2⟩ := x.ls m hm
    exact ⟨us, by rw [upd_ne (fun z => e (x.inj m hm n hn z))]; exact h1, h2.at t⟩
theorem walk_keysN {P : Program} {w : World} {d : Addr} {o : Obj} (ks : List Ent) : L2.Walk (ItK P w d o ks) ks.length (fun H => H d = some (.frz o (dNO P w d ks))) (fun i H x H' => H' = H ∧ ∃ e : Ent, ks[i]? = some e ∧ x = .ref e.2.1) :=
  ⟨fun _ _ hi q => ⟨q, hi⟩, fun _ q => ⟨q, Nat.le_refl _⟩, fun _ _ _ _ _ _ y => y⟩
/-- a list of parts -/
def PartsAt (H : Hp) (p : Addr) (PP : List (List Nod)) : Prop := ∃ qs : List Addr, H p = some (.lst (qs.map .ref)) ∧ Paired (fun q part => q ≠ p ∧ Ls H q (part.map dNod)) qs PP
theorem PartsAt.move {H H' : Hp} {p : Addr} {PP : List (List Nod)} (x : PartsAt H p PP) (s : Seqs H H') : PartsAt H' p PP := by
  obtain ⟨qs, h1, h2⟩ := x
  exact ⟨qs, s.l _ _ h1, L2.Paired.mapP h2 fun _ _ y => ⟨y.1, y.2.at s⟩⟩
structure PartOk (sc : Succ) (ns : List Nod) (part : List Nod) : Prop where
  nd : part.Nodup
  sub : ∀ x ∈ part, x ∈ ns
  ne : part ≠ []
  both : ∀ x ∈ part, ∀ y, y ∈ part ↔ Both (Eg sc) x y
theorem rch_in {sc : Succ} {ns : List Nod} (cl : ∀ n ∈ ns, ∀ q ∈ sc n, q.2 ∈ ns) {x y : Nod} (r : Rch (Eg sc) x y) : x ∈ ns → y ∈ ns := by
  induction r with
  | refl => exact id
  | step e _ ih =>
    intro hx
    obtain ⟨m, hm⟩ := e
    exact ih (cl _ hx _ hm)
theorem lock_same {H H' : Hp} {a : Addr} {o : HO} (s : Same H H') : Same (upd H a o) (upd H' a o) := fun b v z => by
  by_cases e : b = a
  · subst e
    rw [upd_same] at z ⊢
    exact z
  · rw [upd_ne e] at z ⊢
    exact s _ _ z
theorem lock_none {H : Hp} {a b : Addr} {u o : HO} (h : H a = some u) : upd H a o b = none ↔ H b = none := by
  constructor
  · intro z
    rw [upd_ne (fun e => by rw [e, upd_same] at z; cases z)] at z
    exact z
  · intro z
    rw [upd_ne (fun e => by rw [e, h] at z; cases z)]
    exact z
def sp_parts_of (P : Program) (w : World) : Sp := fun vs H Q _ => ∃ (a : Addr) (ns : List Nod) (sc : Succ) (ks : List Ent), vs = [.ref a] ∧ H a = some (dNO P w a ks) ∧ Gph H ns sc ks ∧ ns.length ≤ 500 ∧ (∀ n ∈ ns, (sc n).length ≤ 500) ∧ (∀ n ∈ ns, ∀ q ∈ sc n, q.2 ∈ ns) ∧
  ∀ (c : Addr) (PP : List (List Nod)) (H' : Hp), Same H H' → PartsAt H' c PP → (∀ part ∈ PP, PartOk sc ns part) → (∀ x ∈ ns, ∃ part ∈ PP, x ∈ part) → Q (.ref c) H'
theorem ok_parts_of (T : Tx K mg) : C8.Cal P w K mg base 2 "parts_of" (sp_parts_of P w) [] := cal_parts_of T (fun vs H Q E ⟨_, _, _, _, h, _⟩ => by rw [h]; rfl) fun cdv A outer s H vs Q E hr h => by
  refine ⟨_, (pss_cons (ps_lock (ps_setDcN (i := 2) (own := [("node", 1)]) (g := gName 1) (tt := tYes) (u9 hr) (by rfl) sc_parts_of.nd rfl rfl (sw_dict rfl rfl rfl (by decide +kernel)) (pi_keysN (pv 0)) (blkOk_by (own := [("node", 1)]) (N := n_parts_of) (sc := defScope s_parts_of) (by decide +kernel)) (fun _ _ _ => pg_name (i := 1) sc_parts_of.nd rfl (Or.inl rfl)) (fun _ _ _ => pts_nil) (fun _ _ _ => (pv 1)) (fun _ _ _ => (pe_lst pa_nil))))
    (C8.pss_cut (ps_lock (ps_for PassesOwn.never rfl (pi_keysN (pv 0)) (pg_name (i := 1) sc_parts_of.nd rfl (Or.inl rfl))
      (pss_one (ps_for PassesOwn.never rfl (pi_list (pe_ix (ix_dN (u9 hr)) (pv 0) (pv 1) (fun _ _ => rfl))) (pg_tup rfl (pgs_cons (pg_name (i := 3) sc_parts_of.nd rfl (Or.inl rfl)) (pgs_cons (pg_name (i := 4) sc_parts_of.nd rfl (Or.inl rfl)) pgs_nil)))
      (pss_one (ps_expr (pe_bm PySem.F.plainAttrs_list PySem.F.slot_list_append PySem.F.type_list_append mt_append (pe_ix (ix_dN (u9 hr)) (pv 2) (pv 4) (fun _ _ => rfl)) (pa_cons (pv 1) pa_nil))))))))
    (pss_cons (ps_set (i := 5) sc_parts_of.nd rfl (Or.inl rfl) (C8.pe_c (ok_leaving_order T) hr (by decide) (by rfl) (pa_cons (pv 0) pa_nil)))
    (pss_cons (ps_set (i := 6) sc_parts_of.nd rfl (Or.inl rfl) (pe_callTy0 cr_setN0 (by rfl) T.f_set b_set))
    (pss_cons (ps_set (i := 7) sc_parts_of.nd rfl (Or.inl rfl) (pe_lst pa_nil))
    (C8.pss_cut (ps_for PassesOwn.never rfl (pi_list (pe_revL (pv 5) (pe_un un_neg pe_int))) (pg_name (i := 8) sc_parts_of.nd rfl (Or.inl rfl))
      (pss_cons (ps_if (pt_cmpR (op_inSN (u9 hr)) (pv 8) (pv 6) (by rfl)) (pss_one ps_continue) pss_nil)
    (pss_cons (ps_expr (pe_addN (u9 hr) (pv 6) (pa_cons (pv 8) pa_nil)))
    (pss_cons (ps_set (i := 9) sc_parts_of.nd rfl (Or.inl rfl) (pe_lst (pa_cons (pv 8) pa_nil)))
    (pss_cons (ps_set (i := 10) sc_parts_of.nd rfl (Or.inl rfl) pe_int)
    (C8.pss_cut (ps_while PassesOwn.never (pt_cmpR op_lt (pv 10) (pe_callB call_len_seq (by rfl) T.f_len b_len (pa_cons (pv 9) pa_nil)) (nomark _))
      (C8.pss_cut (ps_for PassesOwn.never rfl (pi_list (pe_ix (ix_dN (u9 hr)) (pv 2) (pe_ix ix_list (pv 9) (pv 10) (fun _ _ => rfl)) (fun _ _ => rfl))) (pg_name (i := 1) sc_parts_of.nd rfl (Or.inl rfl))
      (pss_one (ps_if (pt_cmpR (op_ninSN (u9 hr)) (pv 1) (pv 6) (by rfl)) (pss_cons (ps_expr (pe_addN (u9 hr) (pv 6) (pa_cons (pv 1) pa_nil)))
    (pss_one (ps_expr (pe_bm PySem.F.plainAttrs_list PySem.F.slot_list_append PySem.F.type_list_append mt_append (pv 9) (pa_cons (pv 1) pa_nil))))) pss_nil)))
    (pss_one (ps_aug (i := 10) sc_parts_of.nd rfl (Or.inl rfl) pe_int ip_add))))
    (pss_one (ps_expr (pe_bm PySem.F.plainAttrs_list PySem.F.slot_list_append PySem.F.type_list_append mt_append (pv 7) (pa_cons (pv 9) pa_nil))))))))))
    (pss_one (ps_ret (pv 7))))))))), ?_⟩
  obtain ⟨a, ns, sc, ks, rfl, ha, G, few, deg, cl, q⟩ := h
  refine ⟨a, dNO P w a ks, ha, trivial, fun od => ?_⟩
  have GL : Gph (upd H a (.frz od (dNO P w a ks))) ns sc ks := G.at (seqs_lock ha)
  have la : (upd H a (.frz od (dNO P w a ks))) a = some (.frz od (dNO P w a ks)) := upd_same
  have fin : ∀ H', Same (upd H a (.frz od (dNO P w a ks))) H' → Same H (upd H' a (dNO P w a ks)) := fun H' z => Same.lock ha z
  have nonL : ∀ b, H b = none → upd H a (.frz od (dNO P w a ks)) b = none := fun b z => by
    rw [upd_ne (fun e => by rw [e, ha] at z; cases z)]
    exact z
  have backL : ∀ b, upd H a (.frz od (dNO P w a ks)) b = none → H b = none := fun b z => (lock_none ha).mp z
  generalize hHL : upd H a (.frz od (dNO P w a ks)) = HL at GL la fin nonL backL |-
  nested_keys
  refine ⟨a, od, ks, rfl, la, fun d hd => ?_⟩
  refine gc_it (walk_keysN ks) (fun i H' => Same HL H' ∧ ∃ (L : Nod → Addr) (es : List Ent), Bhd P w H' d (ns.take i) L (fun _ => []) es ∧ ∀ n ∈ ns.take i, HL (L n) = none) ?_ (fun _ _ _ k => k.1 _ _ la) ?_ ?_
  · refine ⟨Same.new hd, fun _ => 0, [], ⟨upd_same, ?_, ?_, ?_, ?_, ?_⟩, ?_⟩ <;> simp
  · rintro i v H1 H2 hi ⟨sm, L, es, bh, fr⟩ ⟨rfl, en, hen, rfl⟩
    obtain ⟨n, hn1, hn2⟩ := GL.key hen
    have kn : Ky H2 (dNod n) en.2.1 := by
      have := (GL.kys en (List.mem_of_getElem? hen)).at sm.tups
      rw [hn2] at this
      exact this
    have nn : n ∉ ns.take i := nodup_take GL.nd hn1
    have les : es.length = (ns.take i).length := by rw [← List.length_map (f := fun e : Ent => e.1), bh.keys, List.length_map]
    nested_keys
    refine ⟨Nat.zero_le _, fun l hl => ?_⟩
    have s12 : Same H2 (upd H2 l (.lst [])) := Same.new hl
    have bh2 := bh.same s12
    refine ⟨es, dNod n, en.2.1, rfl, bh2.at_, bh2.kys, kn.at s12.tups, by rw [les]; exact line24 (m := 500) (Nat.le_trans (List.length_take_le' _ _) few), ?_⟩
    have sq : Seqs (upd H2 l (.lst [])) (upd (upd H2 l (.lst [])) d (dNO P w d (putN es (dNod n) en.2.1 (.ref l)))) := Seqs.ext bh2.at_ dNO_tup dNO_lst
    have hno : lkN es (dNod n) = none := by
      cases z : lkN es (dNod n) with
      | none => rfl
      | some v =>
        have := lkN_mem.mp (by rw [z]; rfl : (lkN es (dNod n)).isSome = true)
        rw [bh.keys] at this
        exact absurd (mem_nods.mp this) nn
    have hlL : HL l = none := sm.none hl
    have memt : ∀ m, m ∈ ns.take (i + 1) ↔ m ∈ ns.take i ∨ m = n := fun m => by rw [take_snoc hn1, List.mem_append, List.mem_singleton]
    refine ⟨(sm.put hlL).put hd, fun m => if m = n then l else L m, putN es (dNod n) en.2.1 (.ref l), ⟨upd_same, kys_put sq.t bh2.kys ((kn.at s12.tups).at sq.t) _, ?_, ?_, ?_, ?_⟩, ?_⟩
    · rw [putN_new _ _ hno, List.map_append, bh.keys, take_snoc hn1, List.map_append]
      rfl
    · intro m hm
      rw [lkN_put]
      rcases (memt m).mp hm with h | h
      · have : m ≠ n := fun z => nn (z ▸ h)
        rw [if_neg (fun z => this (dNod_inj z)), if_neg this]
        exact bh.val m h
      · rw [h, if_pos rfl, if_pos rfl]
    · intro m hm m' hm' e
      rcases (memt m).mp hm with h | h <;> rcases (memt m').mp hm' with h' | h'
      · have n1 : m ≠ n := fun z => nn (z ▸ h)
        have n2 : m' ≠ n := fun z => nn (z ▸ h')
        rw [if_neg n1, if_neg n2] at e
        exact bh.inj m h m' h' e
      · have n1 : m ≠ n := fun z => nn (z ▸ h)
        rw [if_neg n1, if_pos h'] at e
        obtain ⟨us, h1, _⟩ := bh.ls m h
        rw [e, hl] at h1
        cases h1
      · have n2 : m' ≠ n := fun z => nn (z ▸ h')
        rw [if_pos h, if_neg n2] at e
        obtain ⟨us, h1, _⟩ := bh.ls m' h'
        rw [← e, hl] at h1
        cases h1
      · rw [h, h']
    · intro m hm
      rcases (memt m).mp hm with h | h
      · have n1 : m ≠ n := fun z => nn (z ▸ h)
        rw [if_neg n1]
        exact (bh2.ls m h).at sq
      · rw [if_pos h]
        exact ⟨[], sq.l _ _ upd_same, .nil⟩
    · intro m hm
      rcases (memt m).mp hm with h | h
      · have n1 : m ≠ n := fun z => nn (z ▸ h)
        show HL (if m = n then l else L m) = none
        rw [if_neg n1]
        exact fr m h
      · show HL (if m = n then l else L m) = none
        rw [if_pos h]
        exact hlL
  · rintro H1 ⟨sm, L, es, bh, fr⟩
    rw [GL.len, List.take_length] at bh fr
    refine ⟨sm _ _ la, ?_⟩
    have s1 := fin _ sm
    have hdH : H d = none := backL d hd
    have ad : a ≠ d := fun z => by rw [← z, ha] at hdH; cases hdH
    have frH : ∀ n ∈ ns, H (L n) = none := fun n hn => backL _ (fr n hn)
    have bh1 : Bhd P w (upd H1 a (dNO P w a ks)) d ns L (fun _ => []) es := bh.move (Seqs.ext (sm _ _ la) (fun xs z => by cases z) (fun xs z => by cases z)) (upd_ne ad.symm)
    refine ⟨fun σ' H' => Same H H' ∧ ∃ B, Bhd P w H' d ns L B es ∧ (∀ n ∈ ns, ∀ y, y ∈ B n ↔ (y ∈ ns ∧ Eg sc y n)) ∧ ∃ u1 u3 u4 u5 u6 u7 u8 u9 u10, σ' = [some (V.ref a), u1, some (V.ref d), u3, u4, u5, u6, u7, u8, u9, u10], ?_, ?_⟩
    · refine ⟨a, dNO P w a ks, upd_same, trivial, fun od2 => ?_⟩
      have GM : Gph (upd H a (.frz od2 (dNO P w a ks))) ns sc ks := G.at (seqs_lock ha)
      have lm : (upd H a (.frz od2 (dNO P w a ks))) a = some (.frz od2 (dNO P w a ks)) := upd_same
      have fin2 : ∀ H', Same (upd H a (.frz od2 (dNO P w a ks))) H' → Same H (upd H' a (dNO P w a ks)) := fun H' z => Same.lock ha z
      have dM : upd H a (.frz od2 (dNO P w a ks)) d = none := (lock_none ha).mpr hdH
      have frM : ∀ n ∈ ns, upd H a (.frz od2 (dNO P w a ks)) (L n) = none := fun n hn => (lock_none ha).mpr (frH n hn)
      have s2 : Same (upd H a (.frz od2 (dNO P w a ks))) (upd (upd H1 a (dNO P w a ks)) a (.frz od2 (dNO P w a ks))) := lock_same s1
      have bh2 : Bhd P w (upd (upd H1 a (dNO P w a ks)) a (.frz od2 (dNO P w a ks))) d ns L (fun _ => []) es := bh1.move (Seqs.ext upd_same dNO_tup dNO_lst) (upd_ne ad.symm)
      generalize upd H a (.frz od2 (dNO P w a ks)) = HM at GM lm fin2 dM frM s2 |-
      nested_keys
      refine ⟨a, od2, ks, rfl, upd_same, for_it (walk_keysN ks) (fun i σ' H' => Same HM H' ∧ ∃ B, Bhd P w H' d ns L B es ∧ (∀ n ∈ ns, (B n).length ≤ i * 500 ∧ ∀ y, y ∈ B n ↔ (y ∈ ns.take i ∧ Eg sc y n)) ∧ ∃ u1 u3 u4 u5 u6 u7 u8 u9 u10, σ' = [some (V.ref a), u1, some (V.ref d), u3, u4, u5, u6, u7, u8, u9, u10]) ?_ (fun _ _ _ _ k => k.1 _ _ lm) ?_ ?_⟩
      · exact ⟨s2, _, bh2, by simp, _, _, _, _, _, _, _, _, _, rfl⟩
      · rintro i v σ2 H2 H3 hi ⟨sm2, B, bh3, mB, u1, u3, u4, u5, u6, u7, u8, u9, u10, rfl⟩ ⟨rfl, en, hen, rfl⟩
        obtain ⟨n, hn1, hn2⟩ := GM.key hen
        have nns := List.mem_of_getElem? hn1
        have i500 : i < 500 := by
          have := (List.getElem?_eq_some_iff.mp hn1).1
          omega
        have kn0 : Ky HM (dNod n) en.2.1 := by
          have := GM.kys en (List.mem_of_getElem? hen)
          rw [hn2] at this
          exact this
        obtain ⟨l, g1, rv, g3, g4⟩ := GM.rows n nns
        nested_keys
        refine ⟨a, en.2.1, ks, dNod n, _, rfl, rfl, ⟨.inr ⟨od2, sm2 _ _ lm⟩, (GM.at sm2.seqs).kys⟩, kn0.at sm2.tups, g1, ?_⟩
        nested_keys
        refine ⟨⟨_, SqL.of (sm2 _ _ g3)⟩, for_it (walk_li rv) (fun k σ' H' => Same HM H' ∧ ∃ B, Bhd P w H' d ns L B es ∧ (∀ m ∈ ns, (B m).length ≤ i * 500 + k ∧ ∀ y, y ∈ B m ↔ (y ∈ ns.take i ∧ Eg sc y m) ∨ (y = n ∧ ∃ q ∈ (sc n).take k, q.2 = m)) ∧ ∃ u3 u4 u5 u6 u7 u8 u9 u10, σ' = [some (V.ref a), some (.ref en.2.1), some (V.ref d), u3, u4, u5, u6, u7, u8, u9, u10]) ?_ (fun _ _ _ _ k => SqL.of (k.1 _ _ g3)) ?_ ?_⟩
        · refine ⟨sm2, B, bh3, fun m hm => ⟨(mB m hm).1, fun y => ?_⟩, _, _, _, _, _, _, _, _, rfl⟩
          rw [(mB m hm).2 y]
          simp
        · rintro k v σ3 H4 H5 hk ⟨sm4, B', bh4, mB', v3, v4, v5, v6, v7, v8, v9, v10, rfl⟩ ⟨rfl, hv⟩
          obtain ⟨qq, h1, h2⟩ := g4.mapV hv
          obtain ⟨tb, x1, y1, rfl, htb, h3, h4⟩ := (sm4.rk h2).row
          have hm := List.mem_of_getElem? h1
          have qn : qq.2 ∈ ns := cl n nns qq hm
          have k5 : k < 500 := by
            have := (List.getElem?_eq_some_iff.mp h1).1
            have := deg n nns
            omega
          obtain ⟨lv, hl1, hl2⟩ := bh4.ls qq.2 qn
          refine ⟨tb, _, rfl, SqT.of htb, rfl, _, _, rfl, _, _, rfl, rfl, ?_⟩
          nested_keys
          refine ⟨d, y1, es, dNod qq.2, _, rfl, rfl, bh4.dn, h4, bh4.val _ qn, ?_⟩
          refine ⟨.inl ⟨rfl, _, SqL.of hl1⟩, ?_⟩
          nested_keys
          have kn5 := kn0.at sm4.tups
          refine ⟨L qq.2, lv, _, rfl, rfl, hl1, by rw [hl2.len]; exact line24 (m := 300000) (by have := (mB' qq.2 qn).1; omega), ?_⟩
          refine ⟨sm4.put (frM _ qn), _, bh4.app qn hl1 kn5.1, fun m hm' => ?_, _, _, _, _, _, _, _, _, rfl⟩
          have tk : ∀ z, (∃ q ∈ (sc n).take (k + 1), q.2 = z) ↔ (∃ q ∈ (sc n).take k, q.2 = z) ∨ qq.2 = z := fun z => by
            rw [take_snoc h1]
            constructor
            · rintro ⟨q, hq, e⟩
              rw [List.mem_append, List.mem_singleton] at hq
              rcases hq with hq | rfl
              · exact .inl ⟨q, hq, e⟩
              · exact .inr e
            · rintro (⟨q, hq, e⟩ | e)
              · exact ⟨q, List.mem_append_left _ hq, e⟩
              · exact ⟨qq, by simp, e⟩
          by_cases e : m = qq.2
          · subst e
            rw [if_pos rfl]
            refine ⟨by rw [List.length_append]; have := (mB' _ qn).1; simp only [List.length_cons, List.length_nil]; omega, fun y => ?_⟩
            rw [List.mem_append, (mB' _ qn).2 y, List.mem_singleton, tk]
            constructor
            · rintro ((h | ⟨h, h'⟩) | h)
              · exact .inl h
              · exact .inr ⟨h, .inl h'⟩
              · exact .inr ⟨h, .inr rfl⟩
            · rintro (h | ⟨h, h' | h'⟩)
              · exact .inl (.inl h)
              · exact .inl (.inr ⟨h, h'⟩)
              · exact .inr h
          · rw [if_neg e]
            refine ⟨by have := (mB' m hm').1; omega, fun y => ?_⟩
            rw [(mB' m hm').2 y, tk]
            constructor
            · rintro (h | ⟨h, h'⟩)
              · exact .inl h
              · exact .inr ⟨h, .inl h'⟩
            · rintro (h | ⟨h, h' | h'⟩)
              · exact .inl h
              · exact .inr ⟨h, h'⟩
              · exact absurd h'.symm e
        · rintro σ3 H4 ⟨sm4, B', bh4, mB', v3, v4, v5, v6, v7, v8, v9, v10, rfl⟩
          refine ⟨sm4, B', bh4, fun m hm => ?_, _, _, _, _, _, _, _, _, _, rfl⟩
          obtain ⟨e1, e2⟩ := mB' m hm
          rw [g4.len] at e1 e2
          rw [List.take_length] at e2
          refine ⟨by have := deg n nns; omega, fun y => ?_⟩
          rw [e2 y, take_snoc hn1, List.mem_append, List.mem_singleton]
          constructor
          · rintro (h | ⟨h, q, h1, h2⟩)
            · exact ⟨.inl h.1, h.2⟩
            · exact ⟨.inr h, q.1, by rw [h, ← h2]; exact h1⟩
          · rintro ⟨h | h, h'⟩
            · exact .inl ⟨h, h'⟩
            · obtain ⟨mm, hmm⟩ := h'
              exact .inr ⟨h, (mm, m), by rw [← h]; exact hmm, rfl⟩
      · rintro σ3 H4 ⟨sm4, B', bh4, mB', v1, v3, v4, v5, v6, v7, v8, v9, v10, rfl⟩
        refine ⟨sm4 _ _ lm, fin2 _ sm4, B', bh4.move (Seqs.ext (sm4 _ _ lm) (fun xs z => by cases z) (fun xs z => by cases z)) (upd_ne ad.symm), fun n hn y => ?_, _, _, _, _, _, _, _, _, _, rfl⟩
        rw [(mB' n hn).2 y, GM.len, List.take_length]
    · rintro σ2 H2 ⟨sm2, B, bh2, mB, u1, u3, u4, u5, u6, u7, u8, u9, u10, rfl⟩
      nested_keys
      refine ⟨a, ns, sc, ks, rfl, sm2 _ _ ha, G.at sm2.seqs, few, cl, fun c O H5 s5 hO ndO mO lv => ?_⟩
      obtain ⟨ov, hc5, rO⟩ := hO
      have sm5 := Same.trans' sm2 s5
      have bh5 := bh2.same s5
      nested_keys
      intro e he oe eoe
      subst eoe
      have s6 : Same H5 (upd H5 e (sNO P w e [])) := Same.new he
      have sn6 : Sn P w (upd H5 e (sNO P w e [])) e [] := Sn.new
      nested_keys
      refine ⟨Nat.zero_le _, fun p hp => ?_⟩
      have np5 : H5 p = none := s6.none hp
      have pe : p ≠ e := fun z => by rw [z, upd_same] at hp; cases hp
      have s7 : Same H5 (upd (upd H5 e (sNO P w e [])) p (.lst [])) := s6.put np5
      have sn7 : Sn P w (upd (upd H5 e (sNO P w e [])) p (.lst [])) e [] := sn6.move (Same.new hp).tups (upd_ne pe.symm)
      refine ⟨fun σ' H' => Same H H' ∧ (∃ PP, PartsAt H' p PP ∧ (∀ part ∈ PP, PartOk sc ns part) ∧ ∀ x ∈ ns, ∃ part ∈ PP, x ∈ part) ∧ ∃ u1 u3 u4 u8 u9 u10, σ' = [some (V.ref a), u1, some (V.ref d), u3, u4, some (V.ref c), some (V.ref e), some (V.ref p), u8, u9, u10], ?_, ?_⟩
      · nested_keys
        refine ⟨c, ov, rfl, SqL.of (s7 _ _ hc5), fun r hr => ?_⟩
        have nr5 : H5 r = none := s7.none hr
        have re : r ≠ e := fun z => by rw [z, upd_ne pe.symm, upd_same] at hr; cases hr
        have rp : r ≠ p := fun z => by rw [z, upd_same] at hr; cases hr
        have s8 := s7.put (o := .lst ov.reverse) nr5
        have sn8 : Sn P w (upd (upd (upd H5 e (sNO P w e [])) p (.lst [])) r (.lst ov.reverse)) e [] := sn7.move (Same.new hr).tups (upd_ne re.symm)
        have rOr : Rks H5 (O.reverse.map dNod) ov.reverse := by
          rw [List.map_reverse]
          exact rO.reverse
        nested_keys
        refine ⟨⟨_, SqL.of upd_same⟩, for_it (walk_li ov.reverse) (fun i σ' H' => Same H5 H' ∧ H' r = some (.lst ov.reverse) ∧ (∃ (PP : List (List Nod)) (Pl : List Nod), PartsAt H' p PP ∧ Sn P w H' e (Pl.map dNod) ∧ Pl.Nodup ∧ (∀ part ∈ PP, PartOk sc ns part) ∧ (∀ x, x ∈ Pl ↔ ∃ part ∈ PP, x ∈ part) ∧ (∀ x ∈ O.reverse.take i, x ∈ Pl) ∧ PP.length ≤ i) ∧ ∃ u1 u3 u4 u8 u9 u10, σ' = [some (V.ref a), u1, some (V.ref d), u3, u4, some (V.ref c), some (V.ref e), some (V.ref p), u8, u9, u10]) ?_ (fun _ _ _ _ k => SqL.of k.2.1) ?_ ?_⟩
        · refine ⟨s8, upd_same, ⟨[], [], ⟨[], ?_, .nil⟩, sn8, List.nodup_nil, by simp, by simp, by simp, Nat.zero_le _⟩, _, _, _, _, _, _, rfl⟩
          rw [upd_ne rp.symm]
          exact upd_same
        · rintro i v σ3 H6 H7 hi ⟨sm6, hr6, ⟨PP, Pl, hPP, sn, ndP, okP, memP, pre, lPP⟩, v1, v3, v4, v8, v9, v10, rfl⟩ ⟨rfl, hv⟩
          obtain ⟨n, hn1, kn⟩ := rOr.mapV hv
          have kn7 : Rk H7 (dNod n) v := kn.at sm6.tups
          obtain ⟨nb, _, _, rfl, _⟩ := kn7.nod
          have ky7 : Ky H7 (dNod n) nb := ⟨kn7, dNod_depth _⟩
          have nO : n ∈ O := List.mem_reverse.mp (List.mem_of_getElem? hn1)
          have nns := (mO n).mp nO
          have iO : i < O.length := by
            have := (List.getElem?_eq_some_iff.mp hn1).1
            rwa [List.length_reverse] at this
          have subP : ∀ x ∈ Pl, x ∈ ns := fun x hx => by
            obtain ⟨part, h1, h2⟩ := (memP x).mp hx
            exact (okP part h1).sub x h2
          have closedP : ∀ x y, Both (Eg sc) x y → x ∈ Pl → y ∈ Pl := fun x y b hx => by
            obtain ⟨part, h1, h2⟩ := (memP x).mp hx
            exact (memP y).mpr ⟨part, h1, ((okP part h1).both x h2 y).mpr b⟩
          have preS : ∀ x ∈ O.reverse.take (i + 1), x ∈ Pl ∨ x = n := fun x hx => by
            rw [take_snoc hn1, List.mem_append, List.mem_singleton] at hx
            exact hx.imp (pre x) id
          have lO : O.length ≤ ns.length := nodup_le _ _ ndO fun x hx => (mO x).mp hx
          nested_keys
          refine ⟨dNod n, nb, e, _, rfl, rfl, ky7, sn, ?_⟩
          nested_keys
          refine iteD (fun mm => ?_) fun mm => ?_
          · have mP := mem_nods.mp mm
            nested_keys
            refine ⟨sm6, hr6, ⟨PP, Pl, hPP, sn, ndP, okP, memP, fun x hx => ?_, by omega⟩, _, _, _, _, _, _, rfl⟩
            rcases preS x hx with h | h
            · exact h
            · exact h ▸ mP
          · have mP : n ∉ Pl := fun z => mm (mem_nods.mpr z)
            have lP : Pl.length ≤ ns.length := nodup_le _ _ ndP subP
            nested_keys
            refine ⟨⟨e, _, rfl, sn⟩, ?_⟩
            nested_keys
            refine ⟨e, nb, dNod n, _, rfl, rfl, ky7, sn, by rw [List.length_map]; omega, fun oS snN tpN => ?_⟩
            rw [if_neg mm] at snN
            have sm8 : Same H5 (upd H7 e oS) := sm6.put he
            have se8 : Seqs H7 (upd H7 e oS) := by
              obtain ⟨Le, h1, _⟩ := sn.ex
              exact Seqs.ext h1 (fun xs z => by cases z) (fun xs z => by cases z)
            have hr8 : upd H7 e oS r = some (.lst ov.reverse) := by rw [upd_ne re]; exact hr6
            have hP8 := hPP.move se8
            have ky8 := ky7.at se8.t
            nested_keys
            refine ⟨by show 1 ≤ sizeLine; decide, fun f hf => ?_⟩
            have nf5 : H5 f = none := sm8.none hf
            have fe : f ≠ e := fun z => by rw [z, upd_same] at hf; cases hf
            have s89 : Same (upd H7 e oS) (upd (upd H7 e oS) f (.lst [.ref nb])) := Same.new hf
            have sn9 : Sn P w (upd (upd H7 e oS) f (.lst [.ref nb])) e ((n :: Pl).map dNod) := snN.move s89.tups (upd_ne fe.symm)
            have f8 : ∀ b xs, (upd H7 e oS) b = some (.lst xs) → b ≠ f := fun b xs e z => by rw [z, hf] at e; cases e
            have start : Ls (upd (upd H7 e oS) f (.lst [.ref nb])) f ([n].map dNod) := ⟨_, upd_same, .cons (ky8.at s89.tups).1 .nil⟩
            have s59 : Same H5 (upd (upd H7 e oS) f (.lst [.ref nb])) := sm8.put nf5
            generalize upd H7 e oS = H8 at sm8 hr8 hP8 hf s89 sn9 f8 start s59 |-
            generalize upd H8 f (.lst [.ref nb]) = H9 at s89 sn9 start s59 |-
            nested_keys
            refine ⟨fun σ' H' => Same H5 H' ∧ Seqs H8 H' ∧ (∃ F Pl' : List Nod, Ls H' f (F.map dNod) ∧ Sn P w H' e (Pl'.map dNod) ∧ Pl'.Nodup ∧ F.Nodup ∧ (∀ x, x ∈ Pl' ↔ x ∈ Pl ∨ x ∈ F) ∧ n ∈ F ∧ PartOk sc ns F) ∧ ∃ u1 u3 u4 u10, σ' = [some (V.ref a), u1, some (V.ref d), u3, u4, some (V.ref c), some (V.ref e), some (V.ref p), some (.ref nb), some (.ref f), u10], ?_, ?_⟩
            · refine ⟨fun m σ' H' => ∃ (F Pl' : List Nod) (at_ : Nat), m + at_ = ns.length + 1 ∧ Same H5 H' ∧ Seqs H8 H' ∧ Ls H' f (F.map dNod) ∧ Sn P w H' e (Pl'.map dNod) ∧ Pl'.Nodup ∧ F.Nodup ∧ (∀ x, x ∈ Pl' ↔ x ∈ Pl ∨ x ∈ F) ∧ n ∈ F ∧ (∀ x ∈ F, x ∉ Pl ∧ x ∈ ns ∧ Rch (Eg sc) x n) ∧ (∀ z ∈ F.take at_, ∀ y, y ∈ ns → Eg sc y z → y ∈ Pl ∨ y ∈ F) ∧ at_ ≤ F.length ∧ ∃ u1 u3 u4, σ' = [some (V.ref a), u1, some (V.ref d), u3, u4, some (V.ref c), some (V.ref e), some (V.ref p), some (.ref nb), some (.ref f), some (.int (at_ : Nat))], ⟨ns.length + 1, [n], n :: Pl, 0, rfl, s59, s89.seqs, start, sn9, List.nodup_cons.mpr ⟨mP, ndP⟩, by simp, by intro x; simp [or_comm], by simp, ?_, by simp, Nat.zero_le _, _, _, _, rfl⟩, ?_⟩
              · intro x hx
                rw [List.mem_singleton] at hx
                subst hx
                exact ⟨mP, nns, .refl _⟩
              · clear s89 sn9 start s59 hf ky8 hP8
                rintro m σ' HA ⟨F, Pl', at_, em, smA, sqA, ⟨fv, hfA, rfA⟩, snA, ndA, ndF, memA, nF, Fok, clo, le, w1, w3, w4, rfl⟩
                have Fl : F.length ≤ ns.length := nodup_le _ _ ndF fun x hx => (Fok x hx).2.1
                nested_keys
                refine ⟨f, _, rfl, .inl (SqL.of hfA), ?_⟩
                nested_keys
                refine iteD (fun cc => ?_) fun cc => ?_
                · have c' : at_ < F.length := by rw [← rfA.len]; simpa using cc
                  obtain ⟨y, hy⟩ : ∃ y, F[at_]? = some y := ⟨_, List.getElem?_eq_getElem c'⟩
                  have hyF := List.mem_of_getElem? hy
                  obtain ⟨yv, hyv, ry⟩ := rfA.get_map hy
                  obtain ⟨yb, _, _, rfl, _⟩ := ry.nod
                  have yns := (Fok y hyF).2.1
                  obtain ⟨bv, hb1, hb2⟩ := bh5.ls y yns
                  have lf : L y ≠ f := fun z => by rw [z, nf5] at hb1; cases hb1
                  refine ⟨fun σ' H' => ∃ m', m' < m ∧ _, fun _ _ k => k, ?_⟩
                  refine ⟨fun σ' H' => ∃ (F' Pl' : List Nod), Same H5 H' ∧ Seqs H8 H' ∧ Ls H' f ((F ++ F').map dNod) ∧ Sn P w H' e (Pl'.map dNod) ∧ Pl'.Nodup ∧ (F ++ F').Nodup ∧ (∀ x, x ∈ Pl' ↔ x ∈ Pl ∨ x ∈ F ++ F') ∧ (∀ x ∈ F ++ F', x ∉ Pl ∧ x ∈ ns ∧ Rch (Eg sc) x n) ∧ (∀ x ∈ B y, x ∈ Pl ∨ x ∈ F ++ F') ∧ ∃ u1 u3 u4, σ' = [some (V.ref a), u1, some (V.ref d), u3, u4, some (V.ref c), some (V.ref e), some (V.ref p), some (.ref nb), some (.ref f), some (.int (at_ : Nat))], ?_, ?_⟩
                  · nested_keys
                    refine ⟨f, _, _, _, rfl, rfl, SqL.of hfA, atI_nat hyv, ?_⟩
                    refine ⟨d, yb, es, dNod y, _, rfl, rfl, (bh5.same smA).dn, ⟨ry, dNod_depth _⟩, bh5.val y yns, ?_⟩
                    nested_keys
                    refine ⟨⟨_, SqL.of (smA _ _ hb1)⟩, for_it (walk_li bv) (fun k σ' H' => ∃ (F' Pl' : List Nod), Same H5 H' ∧ Seqs H8 H' ∧ Ls H' f ((F ++ F').map dNod) ∧ Sn P w H' e (Pl'.map dNod) ∧ Pl'.Nodup ∧ (F ++ F').Nodup ∧ (∀ x, x ∈ Pl' ↔ x ∈ Pl ∨ x ∈ F ++ F') ∧ (∀ x ∈ F ++ F', x ∉ Pl ∧ x ∈ ns ∧ Rch (Eg sc) x n) ∧ (∀ x ∈ (B y).take k, x ∈ Pl ∨ x ∈ F ++ F') ∧ ∃ u1 u3 u4, σ' = [some (V.ref a), u1, some (V.ref d), u3, u4, some (V.ref c), some (V.ref e), some (V.ref p), some (.ref nb), some (.ref f), some (.int (at_ : Nat))]) ?_ ?_ ?_ ?_⟩
                    · exact ⟨[], Pl', smA, sqA, ⟨fv, hfA, by simpa using rfA⟩, snA, ndA, by simpa using ndF, by simpa using memA, by simpa using Fok, by simp, _, _, _, rfl⟩
                    · rintro k σ2 H2 _ ⟨F', Pl2, smB, _⟩
                      exact SqL.of (smB _ _ hb1)
                    · rintro k x σ4 HB HC hk ⟨F', Pl2, smB, sqB, ⟨fv2, hfB, rfB⟩, snB, ndB, ndF2, memB, Fok2, clB, x1, x3, x4, rfl⟩ ⟨rfl, hx⟩
                      obtain ⟨z, hz1, hz2⟩ := hb2.mapV hx
                      have kz : Rk HC (dNod z) x := hz2.at smB.tups
                      obtain ⟨zb, _, _, rfl, _⟩ := kz.nod
                      have kyz : Ky HC (dNod z) zb := ⟨kz, dNod_depth _⟩
                      have zB := List.mem_of_getElem? hz1
                      obtain ⟨zns, zE⟩ := (mB y yns z).mp zB
                      have l2 : (F ++ F').length ≤ ns.length := nodup_le _ _ ndF2 fun x hx => (Fok2 x hx).2.1
                      have lP2 : Pl2.length ≤ ns.length := nodup_le _ _ ndB fun x hx => ((memB x).mp hx).elim (subP x) fun h => (Fok2 x h).2.1
                      have step : ∀ G : List Nod, (∀ x ∈ F ++ F', x ∈ G) → (z ∈ Pl ∨ z ∈ G) → ∀ x ∈ (B y).take (k + 1), x ∈ Pl ∨ x ∈ G := fun G h1' h2' x hx => by
                        rw [take_snoc hz1, List.mem_append, List.mem_singleton] at hx
                        rcases hx with hx | rfl
                        · exact (clB x hx).imp id (h1' x)
                        · exact h2'
                      nested_keys
                      refine ⟨dNod z, zb, e, _, rfl, rfl, kyz, snB, ?_⟩
                      nested_keys
                      by_cases mz : z ∈ Pl2
                      · rw [decide_eq_true (mem_nods.mpr mz)]
                        nested_keys
                        exact ⟨F', Pl2, smB, sqB, ⟨fv2, hfB, rfB⟩, snB, ndB, ndF2, memB, Fok2, step _ (fun _ h => h) ((memB z).mp mz), _, _, _, rfl⟩
                      · rw [decide_eq_false (fun q => mz (mem_nods.mp q))]
                        nested_keys
                        have nz1 : z ∉ Pl := fun q => mz ((memB z).mpr (.inl q))
                        have nz2 : z ∉ F ++ F' := fun q => mz ((memB z).mpr (.inr q))
                        refine ⟨⟨e, _, rfl, snB⟩, ?_⟩
                        nested_keys
                        refine ⟨e, zb, dNod z, _, rfl, rfl, kyz, snB, by rw [List.length_map]; omega, fun oT snT tpT => ?_⟩
                        rw [if_neg (fun q => mz (mem_nods.mp q))] at snT
                        have hfD : upd HC e oT f = some (.lst fv2) := by rw [upd_ne fe]; exact hfB
                        nested_keys
                        refine ⟨.inl ⟨rfl, _, SqL.of hfD⟩, ?_⟩
                        nested_keys
                        refine ⟨f, fv2, _, rfl, rfl, hfD, by rw [rfB.len]; exact line24 (m := 1000) (by omega), ?_⟩
                        have tD : Tups (upd HC e oT) (upd (upd HC e oT) f (.lst (fv2 ++ [.ref zb]))) := Tups.put hfD (fun xs z => by cases z)
                        have seT : Seqs HC (upd HC e oT) := by
                          obtain ⟨Le, h1, _⟩ := snB.ex
                          exact Seqs.ext h1 (fun xs z => by cases z) (fun xs z => by cases z)
                        refine ⟨F' ++ [z], z :: Pl2, (smB.put he).put nf5, ⟨fun b xs q => tD _ _ (seT.t _ _ (sqB.t _ _ q)), fun b xs q => ?_⟩, ⟨_, upd_same, ?_⟩, snT.move tD (upd_ne fe.symm), List.nodup_cons.mpr ⟨mz, ndB⟩, ?_, ?_, ?_, ?_, _, _, _, rfl⟩
                        · rw [upd_ne (f8 b xs q)]
                          exact seT.l _ _ (sqB.l _ _ q)
                        · rw [← List.append_assoc, List.map_append]
                          exact (rfB.at (tpT.trans tD)).append (.cons (kyz.1.at (tpT.trans tD)) .nil)
                        · rw [← List.append_assoc, List.nodup_append]
                          exact ⟨ndF2, by simp, fun a ha b hb e' => by
                            rw [List.mem_singleton] at hb
                            rw [hb] at e'
                            exact nz2 (e' ▸ ha)⟩
                        · intro q
                          rw [List.mem_cons, memB q, ← List.append_assoc, List.mem_append (s := F ++ F'), List.mem_singleton]
                          constructor
                          · rintro (h | h | h)
                            · exact .inr (.inr h)
                            · exact .inl h
                            · exact .inr (.inl h)
                          · rintro (h | h | h)
                            · exact .inr (.inl h)
                            · exact .inr (.inr h)
                            · exact .inl h
                        · rw [← List.append_assoc]
                          intro q hq
                          rw [List.mem_append (s := F ++ F'), List.mem_singleton] at hq
                          rcases hq with hq | rfl
                          · exact Fok2 q hq
                          · exact ⟨nz1, zns, .step zE (Fok y hyF).2.2⟩
                        · rw [← List.append_assoc]
                          exact step _ (fun _ h => List.mem_append_left _ h) (.inr (by simp))
                    · rintro σ4 HB ⟨F', Pl2, smB, sqB, k1, k2, k3, k4, k5, k6, k7, k⟩
                      rw [hb2.len, List.take_length] at k7
                      exact ⟨F', Pl2, smB, sqB, k1, k2, k3, k4, k5, k6, k7, k⟩
                  · rintro σ4 HB ⟨F', Pl2, smB, sqB, k1, k2, k3, k4, k5, k6, k7, x1, x3, x4, rfl⟩
                    nested_keys
                    refine ⟨m - 1, by omega, F ++ F', Pl2, at_ + 1, by omega, smB, sqB, k1, k2, k3, k4, k5, List.mem_append_left _ nF, k6, ?_, by rw [List.length_append]; omega, _, _, _, rfl⟩
                    intro z hz y' hy' hE
                    rw [List.take_append_of_le_length (by omega), take_snoc hy, List.mem_append, List.mem_singleton] at hz
                    rcases hz with hz | rfl
                    · exact (clo z hz y' hy' hE).imp id (List.mem_append_left _)
                    · exact k7 y' ((mB z yns y').mpr ⟨hy', hE⟩)
                · have c' : F.length ≤ at_ := by rw [← rfA.len]; simpa using cc
                  have eF : F.take at_ = F := List.take_of_length_le c'
                  rw [eF] at clo
                  refine ⟨smA, sqA, ⟨F, Pl', ⟨fv, hfA, rfA⟩, snA, ndA, ndF, memA, nF, ?_⟩, _, _, _, _, rfl⟩
                  have eO : ∃ A, O = A ++ n :: (O.reverse.take i).reverse := by
                    refine ⟨(O.reverse.drop (i + 1)).reverse, ?_⟩
                    have h1 : O.reverse = O.reverse.take i ++ n :: O.reverse.drop (i + 1) := by
                      have h2 := (List.take_append_drop (i + 1) O.reverse).symm
                      rw [take_snoc hn1, List.append_assoc] at h2
                      exact h2
                    have h3 := congrArg List.reverse h1
                    rw [List.reverse_reverse, List.reverse_append, List.reverse_cons, List.append_assoc] at h3
                    exact h3
                  obtain ⟨AA, eO⟩ := eO
                  have nsB : ∀ x y, Both (Eg sc) x y → x ∈ ns → y ∈ ns := fun x y b hx => rch_in cl b.1 hx
                  have toB : ∀ x ∈ F, Both (Eg sc) n x := fun x hx => (root_part lv ndO (fun x y b hx => (mO y).mpr (nsB x y b ((mO x).mp hx))) eO (fun z hz => pre z (List.mem_reverse.mp hz)) closedP (Fok x hx).1 ((mO x).mpr (Fok x hx).2.1) (Fok x hx).2.2)
                  have ofB : ∀ x, Both (Eg sc) n x → x ∈ F := fun x b => by
                    have := part_found (E := Eg sc) (r := n) (x := x) (part := fun x => x ∈ F) (before := fun x => x ∈ Pl ∨ x ∉ ns) nF (fun x y b h => h.elim (fun h => .inl (closedP x y b h)) fun h => .inr fun q => h (nsB y x b.symm q)) (fun h => h.elim mP fun h => h nns) (fun z hz y hE => by
                      by_cases hy : y ∈ ns
                      · exact (clo z hz y hy hE).imp .inl id
                      · exact .inl (.inr hy)) b
                    exact this
                  exact ⟨ndF, fun x hx => (Fok x hx).2.1, (fun z => by rw [z] at nF; cases nF), fun x hx y => ⟨fun hy => (toB x hx).symm.trans (toB y hy), fun b => ofB y ((toB x hx).trans b)⟩⟩
            · rintro σ4 HA ⟨smA, sqA, ⟨F, Pl', hfA, snA, ndA, ndF, memA, nF, okF⟩, w1, w3, w4, w10, rfl⟩
              obtain ⟨qs, hq1, hq2⟩ := hP8.move sqA
              have lq := pairedLen hq2
              nested_keys
              refine ⟨.inl ⟨rfl, _, SqL.of hq1⟩, ?_⟩
              nested_keys
              refine ⟨p, _, _, rfl, rfl, hq1, by rw [List.length_map, lq]; exact line24 (m := 1000) (by omega), ?_⟩
              have fp : f ≠ p := fun z => by
                obtain ⟨qs', hq1', _⟩ := hP8
                exact f8 _ _ hq1' z.symm
              have tP : Tups HA (upd HA p (.lst (qs.map V.ref ++ [.ref f]))) := Tups.put hq1 (fun xs z => by cases z)
              refine ⟨smA.put np5, by rw [upd_ne rp]; exact sqA.l _ _ hr8, ⟨PP ++ [F], Pl', ⟨qs ++ [f], by rw [upd_same, List.map_append]; rfl, ?_⟩, snA.move tP (upd_ne pe.symm), ndA, ?_, ?_, ?_, by rw [List.length_append]; simp only [List.length_cons, List.length_nil]; omega⟩, _, _, _, _, _, _, rfl⟩
              · have m1 : Paired (fun q part => q ≠ p ∧ Ls (upd HA p (.lst (qs.map V.ref ++ [.ref f]))) q (part.map dNod)) qs PP := L2.Paired.mapP hq2 fun q part y => by
                  obtain ⟨y1, us, h1, h2⟩ := y
                  exact ⟨y1, us, by rw [upd_ne y1]; exact h1, h2.at tP⟩
                obtain ⟨us, h1, h2⟩ := hfA
                exact m1.snoc ⟨fp, us, by rw [upd_ne fp]; exact h1, h2.at tP⟩
              · intro part hpart
                rw [List.mem_append, List.mem_singleton] at hpart
                rcases hpart with h | rfl
                · exact okP part h
                · exact okF
              · intro x
                rw [memA x, memP x]
                constructor
                · rintro (⟨part, h1, h2⟩ | h)
                  · exact ⟨part, List.mem_append_left _ h1, h2⟩
                  · exact ⟨F, by simp, h⟩
                · rintro ⟨part, h1, h2⟩
                  rw [List.mem_append, List.mem_singleton] at h1
                  rcases h1 with h1 | rfl
                  · exact .inl ⟨part, h1, h2⟩
                  · exact .inr h2
              · intro x hx
                rcases preS x hx with h | h
                · exact (memA x).mpr (.inl h)
                · exact (memA x).mpr (.inr (h ▸ nF))
        · rintro σ3 H6 ⟨sm6, hr6, ⟨PP, Pl, hPP, sn, ndP, okP, memP, pre, lPP⟩, k⟩
          refine ⟨Same.trans' sm5 sm6, ⟨PP, hPP, okP, fun x hx => (memP x).mp (pre x ?_)⟩, k⟩
          rw [rOr.len, List.take_length, List.mem_reverse]
          exact (mO x).mpr hx
      · rintro σ3 H6 ⟨sm6, ⟨PP, hPP, okP, allP⟩, u1, u3, u4, u8, u9, u10, rfl⟩
        nested_keys
        exact q p PP _ sm6 hPP okP allP
end NS
/-! G17: the walks of inside, moved_in, idle_hand. -/
namespace NS
open PySem PySem.Spec PyProof.Rows L2
local macro_rules | `(tactic| nested_keys) => `(tactic| repeat (first | refine ⟨_, rfl, ?_⟩ | refine ⟨_, _, rfl, rfl, ?_⟩ | refine ⟨rfl, ?_⟩ | with_reducible refine iteT ?_ | with_reducible refine iteF ?_))
variable {P : Program} {w : World} {K : PySem.W.Frag} {mg : Str → Option Value} {base : Heap}
/-- a dict in the making: the nodes so far at its keys -/
structure Mk0 (P : Program) (w : World) (H : Hp) (d : Addr) (ns : List Nod) (ks : List Ent) : Prop where
  at_ : H d = some (dNO P w d ks)
  kys : ∀ e ∈ ks, Ky H e.1 e.2.1
  keys : ks.map (·.1) = ns.map dNod
theorem Mk0.len {H : Hp} {d : Addr} {ns : List Nod} {ks : List Ent} (x : Mk0 P w H d ns ks) : ks.length = ns.length := by
  rw [← List.length_map (f := fun e : Ent => e.1), x.keys, List.length_map]
theorem Mk0.same {H H' : Hp} {d : Addr} {ns : List Nod} {ks : List Ent} (x : Mk0 P w H d ns ks) (s : Same H H') : Mk0 P w H' d ns ks := ⟨s _ _ x.at_, fun e he => (x.kys e he).at s.tups, x.keys⟩
theorem Mk0.none {H : Hp} {d : Addr} {ns : List Nod} {ks : List Ent} (x : Mk0 P w H d ns ks) {n : Nod} (h : n ∉ ns) : lkN ks (dNod n) = none := by
  cases z : lkN ks (dNod n) with
  | none => rfl
  | some v =>
    have := lkN_mem.mp (by rw [z]; rfl : (lkN ks (dNod n)).isSome = true)
    rw [x.keys] at this
    exact absurd (mem_nods.mp this) h
theorem Mk0.new {H : Hp} {d : Addr} {ns : List Nod} {ks : List Ent} (x : Mk0 P w H d ns ks) {n : Nod} {b : Addr} (h : n ∉ ns) (kb : Ky H (dNod n) b) (v : V) : Mk0 P w (upd H d (dNO P w d (putN ks (dNod n) b v))) d (ns ++ [n]) (putN ks (dNod n) b v) := by
  have t : Tups H (upd H d (dNO P w d (putN ks (dNod n) b v))) := (Seqs.ext x.at_ dNO_tup dNO_lst).t
  refine ⟨upd_same, kys_put t x.kys (kb.at t) _, ?_⟩
  rw [putN_new _ _ (x.none h), List.map_append, x.keys, List.map_append]
  rfl
theorem Mk0.isIn {H : Hp} {d : Addr} {ns : List Nod} {ks : List Ent} (x : Mk0 P w H d ns ks) {n : Nod} : (lkN ks (dNod n)).isSome = true ↔ n ∈ ns := by rw [lkN_mem, x.keys, mem_nods]
/-- the successors within -/
def inS (sc : Succ) (part : List Nod) : Succ := fun n => (sc n).filter fun q => decide (q.2 ∈ part)
def sp_inside (P : Program) (w : World) : Sp := fun vs H Q _ => ∃ (a b : Addr) (ns : List Nod) (sc : Succ) (ks : List Ent) (part : List Nod), vs = [.ref a, .ref b] ∧ H a = some (dNO P w a ks) ∧ Gph H ns sc ks ∧ (∀ n ∈ ns, (sc n).length ≤ 500) ∧ part.length ≤ 500 ∧ Ls H b (part.map dNod) ∧ part.Nodup ∧ (∀ x ∈ part, x ∈ ns) ∧
  ∀ (c : Addr) (es : List Ent) (H' : Hp), H c = none → Same H H' → H' c = some (dNO P w c es) → Gph H' part (inS sc part) es → Q (.ref c) H'
theorem ok_inside (T : Tx K mg) : C8.Cal P w K mg base 1 "inside" (sp_inside P w) [] := cal_inside T (fun vs H Q E ⟨_, _, _, _, _, _, h, _⟩ => by rw [h]; rfl) fun cdv A outer s H vs Q E hr h => by
  refine ⟨_, (pss_cons (ps_set (i := 3) sc_inside.nd rfl (Or.inr rfl) (pe_dcN (own := [("node", 2)]) (g := gName 2) (tt := tYes) (u9 hr) (by rfl) sc_inside.nd (pi_list (pv 1)) (blkOk_by (own := [("node", 2)]) (N := n_inside) (sc := defScope s_inside) (by decide +kernel)) (fun _ _ _ => pg_name (i := 2) sc_inside.nd rfl (Or.inl rfl)) (fun _ _ _ => pts_nil) (fun _ _ _ => (pv 2)) (fun _ _ _ => pe_bl)))
    (pss_cons (ps_set (i := 4) sc_inside.nd rfl (Or.inl rfl) pe_newN)
    (C8.pss_cut (ps_for PassesOwn.never rfl (pi_list (pv 1)) (pg_name (i := 2) sc_inside.nd rfl (Or.inl rfl))
      (pss_one (ps_asg (pe_lc (own := [("move", 5), ("ahead", 6)]) (by rfl) sc_inside.nd (pi_list (pe_ix (ix_dN (u9 hr)) (pv 0) (pv 2) (fun _ _ => rfl))) (blkOk_by (own := [("move", 5), ("ahead", 6)]) (N := n_inside) (sc := defScope s_inside) (by decide +kernel)) (fun _ _ _ _ _ => pg_tupB (n := 2) (K := K) rfl rfl (pgs_cons (pg_name (i := 5) sc_inside.nd rfl (Or.inl rfl)) (pgs_cons (pg_name (i := 6) sc_inside.nd rfl (Or.inl rfl)) pgs_nil))) (fun _ _ _ _ _ => pts_one (pt_cmpR (op_inNB (P := P) (w := w) rfl rfl (u9 hr)) (pv 6) (pv 3) (by rfl))) (fun _ _ _ _ _ => (pe_tup (pa_cons (pv 5) (pa_cons (pv 6) pa_nil))))) (pg_sub (pv 4) (pv 2) (set_dN (u9 hr))))))
    (pss_one (ps_ret (pv 4)))))), ?_⟩
  obtain ⟨a, b, ns, sc, ks, part, rfl, ha, G, deg, few, ⟨pv, hb, rb⟩, nd, sub, q⟩ := h
  nested_keys
  refine ⟨⟨_, SqL.of hb⟩, fun d hd => ?_⟩
  refine gc_it (walk_li pv) (fun i H' => Same H H' ∧ ∃ es, Mk0 P w H' d (part.take i) es) ⟨Same.new hd, [], upd_same, by simp, rfl⟩ (fun _ _ _ k => SqL.of (k.1 _ _ hb)) ?_ ?_
  · rintro i v H1 H2 hi ⟨sm, es, mk⟩ ⟨rfl, hv⟩
    obtain ⟨n, hn1, kn⟩ := rb.mapV hv
    have kn2 := kn.at sm.tups
    obtain ⟨nb, _, _, rfl, _⟩ := kn2.nod
    nested_keys
    refine ⟨es, dNod n, nb, rfl, mk.at_, mk.kys, ⟨kn2, dNod_depth _⟩, by rw [mk.len]; exact line24 (m := 500) (Nat.le_trans (List.length_take_le' _ _) few), ?_⟩
    refine ⟨sm.put hd, putN es (dNod n) nb (.bl true), ?_⟩
    rw [take_snoc hn1]
    exact mk.new (nodup_take nd hn1) ⟨kn2, dNod_depth _⟩ _
  · rintro H1 ⟨sm1, es, mk⟩
    rw [rb.len, List.take_length] at mk
    intro c hc
    have nc : H c = none := sm1.none hc
    have cd : c ≠ d := fun z => by rw [z, mk.at_] at hc; cases hc
    have s2 : Same H1 (upd H1 c (dNO P w c [])) := Same.new hc
    nested_keys
    refine ⟨fun σ' H' => Same H H' ∧ (∃ es', H' c = some (dNO P w c es') ∧ Gph H' part (inS sc part) es') ∧ ∃ u2 u5 u6, σ' = [some (V.ref a), some (V.ref b), u2, some (V.ref d), some (V.ref c), u5, u6], ?_, ?_⟩
    · nested_keys
      refine ⟨⟨_, SqL.of (s2 _ _ (sm1 _ _ hb))⟩, for_it (walk_li pv) (fun i σ' H' => Same H H' ∧ Mk0 P w H' d part es ∧ (∃ es', Mk0 P w H' c (part.take i) es' ∧ ∀ n ∈ part.take i, ∃ l, lkN es' (dNod n) = some (.ref l) ∧ Ls H' l ((inS sc part n).map dRow)) ∧ ∃ u2 u5 u6, σ' = [some (V.ref a), some (V.ref b), u2, some (V.ref d), some (V.ref c), u5, u6]) ?_ (fun _ _ _ _ k => SqL.of (k.1 _ _ hb)) ?_ ?_⟩
      · exact ⟨sm1.put nc, mk.same s2, ⟨[], ⟨upd_same, by simp, rfl⟩, by simp⟩, _, _, _, rfl⟩
      · rintro i v σ2 H2 H3 hi ⟨sm, mkd, ⟨es', mkc, vals⟩, u2, u5, u6, rfl⟩ ⟨rfl, hv⟩
        obtain ⟨n, hn1, kn⟩ := rb.mapV hv
        have npart := List.mem_of_getElem? hn1
        have kn2 := kn.at sm.tups
        obtain ⟨nb, _, _, rfl, _⟩ := kn2.nod
        obtain ⟨l, g1, rv, g3, g4⟩ := G.rows n (sub n npart)
        nested_keys
        refine ⟨a, nb, ks, dNod n, _, rfl, rfl, ⟨.of (sm _ _ ha), (G.at sm.seqs).kys⟩, ⟨kn2, dNod_depth _⟩, g1, ?_⟩
        nested_keys
        refine ⟨⟨_, SqL.of (sm _ _ g3)⟩, fun D hD => ?_⟩
        refine lc_it (walk_li rv) (fun k H4 => Same H3 H4 ∧ Ls H4 D ((((sc n).take k).filter fun q => decide (q.2 ∈ part)).map dRow)) ⟨Same.new hD, ⟨[], upd_same, .nil⟩⟩ (fun _ _ _ k => SqL.of (k.1 _ _ (sm _ _ g3))) ?_ ?_
        · rintro k x H4 H5 hk ⟨sm4, dv, hD4, rD4⟩ ⟨rfl, hx⟩
          obtain ⟨qq, h1, h2⟩ := g4.mapV hx
          have sH4 := Same.trans' sm sm4
          obtain ⟨tb, x1, y1, rfl, htb, h3, h4⟩ := (sH4.rk h2).row
          refine ⟨tb, _, rfl, SqT.of htb, rfl, _, _, rfl, _, _, rfl, rfl, ?_⟩
          nested_keys
          refine ⟨dNod qq.2, y1, d, es, rfl, rfl, h4, ⟨.of (mkd.same sm4).at_, (mkd.same sm4).kys⟩, ?_⟩
          have ef : ((sc n).take (k + 1)).filter (fun q => decide (q.2 ∈ part)) = ((sc n).take k).filter (fun q => decide (q.2 ∈ part)) ++ (if qq.2 ∈ part then [qq] else []) := by
            rw [take_snoc h1, List.filter_append]
            by_cases e : qq.2 ∈ part <;> simp [e]
          cases e : (lkN es (dNod qq.2)).isSome with
          | true =>
            have ep := mkd.isIn.mp e
            nested_keys
            refine ⟨by show 2 ≤ sizeLine; decide, fun t ht => ?_⟩
            have s5 : Same H5 (upd H5 t (.tup [x1, .ref y1])) := Same.new ht
            refine ⟨dv, s5 _ _ hD4, ?_, (Same.trans' sm4 s5).put hD, _, upd_same, ?_⟩
            · rw [rD4.len]
              have h1 := deg n (sub n npart)
              exact line24 (m := 500) (Nat.le_trans (List.length_filter_le _ _) (Nat.le_trans (List.length_take_le' _ _) h1))
            · have tt : Tups H5 (upd (upd H5 t (.tup [x1, .ref y1])) D (.lst (dv ++ [.ref t]))) := s5.tups.trans (Tups.put (s5 _ _ hD4) (fun xs z => by cases z))
              rw [ef, if_pos ep, List.map_append]
              refine (rD4.at tt).append (.cons (.tup (xs := [x1, .ref y1]) ?_ (.cons (h3.at tt) (.cons (h4.1.at tt) .nil))) .nil)
              rw [upd_ne (fun z => by rw [← z, ht] at hD4; cases hD4)]
              exact upd_same
          | false =>
            have ep : qq.2 ∉ part := fun z => by rw [mkd.isIn.mpr z] at e; cases e
            nested_keys
            refine ⟨sm4, dv, hD4, ?_⟩
            rw [ef, if_neg ep, List.append_nil]
            exact rD4
        · rintro H4 ⟨sm4, hD4⟩
          rw [g4.len, List.take_length] at hD4
          have mkc4 := mkc.same sm4
          have kn4 : Ky H4 (dNod n) nb := ⟨kn2.at sm4.tups, dNod_depth _⟩
          nested_keys
          refine ⟨c, nb, es', dNod n, rfl, rfl, mkc4.at_, mkc4.kys, kn4, by rw [mkc4.len]; exact line24 (m := 500) (Nat.le_trans (List.length_take_le' _ _) few), ?_⟩
          have sq : Seqs H4 (upd H4 c (dNO P w c (putN es' (dNod n) nb (.ref D)))) := Seqs.ext mkc4.at_ dNO_tup dNO_lst
          have nn := nodup_take nd hn1
          refine ⟨(Same.trans' sm sm4).put nc, ⟨by rw [upd_ne cd.symm]; exact (mkd.same sm4).at_, fun e he => ((mkd.same sm4).kys e he).at sq.t, mkd.keys⟩, ⟨_, by rw [take_snoc hn1]; exact mkc4.new nn kn4 _, fun m hm => ?_⟩, _, _, _, rfl⟩
          rw [take_snoc hn1, List.mem_append, List.mem_singleton] at hm
          rw [lkN_put]
          rcases hm with hm | hm
          · obtain ⟨l', e1, e2⟩ := vals m hm
            exact ⟨l', by rw [if_neg (fun z => nn (by rw [← dNod_inj z]; exact hm))]; exact e1, (e2.same sm4).at sq⟩
          · rw [hm, if_pos rfl]
            exact ⟨D, rfl, hD4.at sq⟩
      · rintro σ2 H2 ⟨sm, mkd, ⟨es', mkc, vals⟩, k⟩
        rw [rb.len, List.take_length] at mkc vals
        exact ⟨sm, ⟨es', mkc.at_, ⟨mkc.kys, mkc.keys, nd, vals⟩⟩, k⟩
    · rintro σ2 H2 ⟨sm, ⟨es', h1, h2⟩, u2, u5, u6, rfl⟩
      nested_keys
      exact q c es' _ nc sm h1 h2
end NS
/-! G18: the walks of moved_in, idle_hand. -/
namespace NS
open PySem PySem.Spec PyProof.Rows L2
local macro_rules | `(tactic| nested_keys) => `(tactic| repeat (first | refine ⟨_, rfl, ?_⟩ | refine ⟨_, _, rfl, rfl, ?_⟩ | refine ⟨rfl, ?_⟩ | with_reducible refine iteT ?_ | with_reducible refine iteF ?_))
variable {N : Addr → Prop} {P : Program} {w : World} {K : PySem.W.Frag} {mg : Str → Option Value} {base : Heap}
/-- all but dicts and sets stays -/
def NE (H H' : Hp) : Prop := ∀ b o, (∀ q, o ≠ .ext q) → (∀ x y, o ≠ .frz x y) → H b = some o → H' b = some o
theorem NE.tups {H H' : Hp} (x : NE H H') : Tups H H' := fun b xs e => x b _ (fun q z => by cases z) (fun q r z => by cases z) e
theorem NE.seqs {H H' : Hp} (x : NE H H') : Seqs H H' := ⟨x.tups, fun b xs e => x b _ (fun q z => by cases z) (fun q r z => by cases z) e⟩
theorem NE.trans {H H1 H2 : Hp} (x : NE H H1) (y : NE H1 H2) : NE H H2 := fun b o n m e => y b o n m (x b o n m e)
theorem NE.ext {H : Hp} {a : Addr} {o : HO} {φ : Heap → Prop} (h : H a = some (.ext φ)) : NE H (upd H a o) := fun b u n _ e => by
  rw [upd_ne (fun z => by rw [z, h] at e; exact n φ (Option.some.inj e).symm)]
  exact e
theorem NE.frz {H : Hp} {a : Addr} {o u : HO} {x : Obj} (h : H a = some (.frz x u)) : NE H (upd H a o) := fun b v _ n e => by
  rw [upd_ne (fun z => by rw [z, h] at e; exact n x u (Option.some.inj e).symm)]
  exact e
theorem Gr.ofBut {S : SysM} {g kw ka : Addr} {H H' : Hp} (G : Gr K P w S N g kw ka H) (t : But kw ka H H') : NE H H' := fun b o n _ e => G.keep t e n
theorem _root_.L2.Same.ne {H H' : Hp} (s : Same H H') : NE H H' := fun b o _ _ e => s b o e
theorem HandAt.ne {H H' : Hp} {p : Addr} {h : HandM} (t : NE H H') (x : HandAt K H p h) : HandAt K H' p h := by
  obtain ⟨dx, a, b, c, h1, h2, h3, h4⟩ := x
  exact ⟨dx, a, b, c, t _ _ (fun q z => by cases z) (fun q r z => by cases z) h1, h2.at t.tups, t _ _ (fun q z => by cases z) (fun q r z => by cases z) h3, t _ _ (fun q z => by cases z) (fun q r z => by cases z) h4⟩
theorem SysAt.ne {H H' : Hp} {p : Addr} {S : SysM} (t : NE H H') (x : SysAt K H p S) : SysAt K H' p S := by
  obtain ⟨dx, a, b, c, d, ps, h1, h2, h3, h4, h5, h6⟩ := x
  exact ⟨dx, a, b, c, d, ps, t _ _ (fun q z => by cases z) (fun q r z => by cases z) h1, t.tups _ _ h2, L2.Paired.mapP h3 fun _ _ y => y.ne t, t.tups _ _ h4, t.tups _ _ h5, t.tups _ _ h6⟩
theorem Gr.of {S : SysM} {g kw ka : Addr} {H H' : Hp} (G : Gr K P w S N g kw ka H) (t : NE H H') (e1 : H' kw = H kw) (e2 : H' ka = H ka) : Gr K P w S N g kw ka H' := by
  obtain ⟨dx, p, h1, h2⟩ := G.ins
  obtain ⟨ks, k⟩ := G.ww
  obtain ⟨js, j⟩ := G.aa
  exact ⟨⟨dx, p, t _ _ (fun q z => by cases z) (fun q r z => by cases z) h1, h2.ne t⟩,
    ⟨ks, e1.trans k.at_, fun e he => (k.kys e he).at t.tups, k.nd, fun e he => let ⟨st, l, a1, a2, a3, a4⟩ := k.says e he; ⟨st, l, a1, a2, a3, a4.at t.seqs⟩, k.far⟩,
    ⟨js, e2.trans j.at_, fun e he => (j.kys e he).at t.tups, j.nd, fun e he => let ⟨st, l, ns, a1, a2, a3, a4, a5⟩ := j.says e he; ⟨st, l, ns, a1, a2, a3, t.seqs.l _ _ a4, a5⟩, j.far⟩, G.ne⟩
theorem fGr_no {p kw ka : Addr} {m : Str} (h1 : (m == ("asked" : Str)) = false) (h2 : (m == ("known_ways" : Str)) = false) (h3 : (m == ("known_able" : Str)) = false) : (fGr p kw ka).lookup m = none := (lkN' h1).trans ((lkN' h2).trans ((lkN' h3).trans rfl))
theorem But.put' {kw ka a : Addr} {H0 H : Hp} {o : HO} (s : But kw ka H0 H) (h : H0 a = none) : But kw ka H0 (upd H a o) := fun b u n1 n2 e => by rw [upd_ne (ne_of_none e h)]; exact s b u n1 n2 e
theorem Gr.put {S : SysM} {g kw ka a : Addr} {H : Hp} {o : HO} {φ : Heap → Prop} (G : Gr K P w S N g kw ka H) (h : H a = some (.ext φ)) (n1 : a ≠ kw) (n2 : a ≠ ka) : Gr K P w S N g kw ka (L2.upd H a o) := G.of (NE.ext h) (upd_ne n1.symm) (upd_ne n2.symm)
theorem But.lock {kw ka a : Addr} {H H' : Hp} {u o : HO} (h : H a = some u) (t : But kw ka (upd H a o) H') : But kw ka H (upd H' a u) := fun b v n1 n2 e => by
  by_cases hb : b = a
  · subst hb
    rw [upd_same, ← e, h]
  · rw [upd_ne hb]
    exact t b v n1 n2 (by rw [upd_ne hb]; exact e)
theorem Gr.live {S : SysM} {M : Addr → Prop} {g kw ka : Addr} {H H' : Hp} (h : ∀ x, M x → H x ≠ none) (t : But kw ka H H') (G : Gr K P w S N g kw ka H') : ∀ x, M x → H' x ≠ none := fun x m z => by
  obtain ⟨ks, k⟩ := G.ww
  obtain ⟨js, j⟩ := G.aa
  by_cases e1 : x = kw
  · rw [e1, k.at_] at z; cases z
  · by_cases e2 : x = ka
    · rw [e2, j.at_] at z; cases z
    · cases e : H x with
      | none => exact h x m e
      | some o => rw [t x o e1 e2 e] at z; cases z
/-! ### moved_in -/
def MovedIn (ns : List Nod) (sc : Succ) (i : Int) : Prop := ∃ n ∈ ns, ∃ q ∈ sc n, TakesM q.1 i
def sp_moved_in (P : Program) (w : World) : Sp := fun vs H Q _ => ∃ (a : Addr) (i : Int) (ns : List Nod) (sc : Succ) (ks : List Ent), vs = [.ref a, .int i] ∧ H a = some (dNO P w a ks) ∧ Gph H ns sc ks ∧ 0 ≤ i ∧ (∀ n ∈ ns, ∀ q ∈ sc n, i < q.1.2.length) ∧
  ∀ (c : Bool) (H' : Hp), Same H H' → (c = true ↔ MovedIn ns sc i) → Q (.bl c) H'
theorem ok_moved_in (T : Tx K mg) : C8.Cal P w K mg base 2 "moved_in" (sp_moved_in P w) [] := cal_moved_in T (fun vs H Q E ⟨_, _, _, _, _, h, _⟩ => by rw [h]; rfl) fun cdv A outer s H vs Q E hr h => by
  refine ⟨_, (C8.pss_cut (ps_lock (ps_for PassesOwn.never rfl (pi_keysN (pv 0)) (pg_name (i := 2) sc_moved_in.nd rfl (Or.inl rfl))
      (pss_one (ps_for PassesOwn.never rfl (pi_list (pe_ix (ix_dN (u9 hr)) (pv 0) (pv 2) (fun _ _ => rfl))) (pg_tup rfl (pgs_cons (pg_name (i := 3) sc_moved_in.nd rfl (Or.inl rfl)) (pgs_cons (pg_name (i := 4) sc_moved_in.nd rfl (Or.inl rfl)) pgs_nil)))
      (pss_one (ps_if (pt_val (C8.pe_c (ok_takes T) hr (by decide) (by rfl) (pa_cons (pv 3) (pa_cons (pv 1) pa_nil)))) (pss_one (ps_ret pe_bl)) pss_nil))))))
    (pss_one (ps_ret pe_bl))), ?_⟩
  obtain ⟨a, i, ns, sc, ks, rfl, ha, G, i0, il, q⟩ := h
  refine ⟨fun σ' H' => Same H H' ∧ ¬ MovedIn ns sc i, ?_, ?_⟩
  · refine ⟨a, dNO P w a ks, ha, trivial, fun od => ?_⟩
    have GL : Gph (upd H a (.frz od (dNO P w a ks))) ns sc ks := G.at (seqs_lock ha)
    have la : (upd H a (.frz od (dNO P w a ks))) a = some (.frz od (dNO P w a ks)) := upd_same
    have fin : ∀ H', Same (upd H a (.frz od (dNO P w a ks))) H' → Same H (upd H' a (dNO P w a ks)) := fun H' z => Same.lock ha z
    generalize upd H a (.frz od (dNO P w a ks)) = HL at GL la fin |-
    nested_keys
    refine ⟨a, od, ks, rfl, la, for_it (walk_keysN ks) (fun k σ' H' => Same HL H' ∧ (∀ n ∈ ns.take k, ∀ q ∈ sc n, ¬ TakesM q.1 i) ∧ ∃ u2 u3 u4, σ' = [some (V.ref a), some (.int i), u2, u3, u4]) ⟨Same.refl', by simp, _, _, _, rfl⟩ (fun _ _ _ _ k => k.1 _ _ la) ?_ ?_⟩
    · rintro k v σ2 H2 H3 hi ⟨sm, no, u2, u3, u4, rfl⟩ ⟨rfl, en, hen, rfl⟩
      obtain ⟨n, hn1, hn2⟩ := GL.key hen
      have nns := List.mem_of_getElem? hn1
      have kn0 : Ky HL (dNod n) en.2.1 := by
        have := GL.kys en (List.mem_of_getElem? hen)
        rw [hn2] at this
        exact this
      obtain ⟨l, g1, rv, g3, g4⟩ := GL.rows n nns
      nested_keys
      refine ⟨a, en.2.1, ks, dNod n, _, rfl, rfl, ⟨.inr ⟨od, sm _ _ la⟩, (GL.at sm.seqs).kys⟩, kn0.at sm.tups, g1, ?_⟩
      nested_keys
      refine ⟨⟨_, SqL.of (sm _ _ g3)⟩, for_it (walk_li rv) (fun j σ' H' => Same HL H' ∧ (∀ q ∈ (sc n).take j, ¬ TakesM q.1 i) ∧ ∃ u2 u3 u4, σ' = [some (V.ref a), some (.int i), u2, u3, u4]) ⟨sm, by simp, _, _, _, rfl⟩ (fun _ _ _ _ k => SqL.of (k.1 _ _ g3)) ?_ ?_⟩
      · rintro j v σ3 H4 H5 hj ⟨sm4, no4, v2, v3, v4, rfl⟩ ⟨rfl, hv⟩
        obtain ⟨qq, h1, h2⟩ := g4.mapV hv
        obtain ⟨tb, x1, y1, rfl, htb, h3, h4⟩ := (sm4.rk h2).row
        have hm := List.mem_of_getElem? h1
        refine ⟨tb, _, rfl, SqT.of htb, rfl, _, _, rfl, _, _, rfl, rfl, ?_⟩
        nested_keys
        refine ⟨x1, qq.1, i, rfl, h3, i0, il n nns qq hm, fun c hc => ?_⟩
        cases c with
        | true =>
          nested_keys
          exact ⟨sm4 _ _ la, q true _ (fin _ sm4) ⟨fun _ => ⟨n, nns, qq, hm, hc.mp rfl⟩, fun _ => rfl⟩⟩
        | false =>
          nested_keys
          refine ⟨sm4, fun q hq => ?_, _, _, _, rfl⟩
          rw [take_snoc h1, List.mem_append, List.mem_singleton] at hq
          rcases hq with hq | rfl
          · exact no4 q hq
          · exact fun z => by cases hc.mpr z
      · rintro σ3 H4 ⟨sm4, no4, v2, v3, v4, rfl⟩
        rw [g4.len, List.take_length] at no4
        refine ⟨sm4, fun m hm q hq => ?_, _, _, _, rfl⟩
        rw [take_snoc hn1, List.mem_append, List.mem_singleton] at hm
        rcases hm with hm | rfl
        · exact no m hm q hq
        · exact no4 q hq
    · rintro σ2 H2 ⟨sm, no, u2, u3, u4, rfl⟩
      rw [GL.len, List.take_length] at no
      exact ⟨sm _ _ la, fin _ sm, fun ⟨n, hn, q, hq, t⟩ => no n hn q hq t⟩
  · rintro σ2 H2 ⟨sm, no⟩
    exact q false _ sm ⟨(fun z => by cases z), fun z => absurd z no⟩
/-! ### idle_hand -/
def IdleAt (S : SysM) (part : List Nod) (sc : Succ) (d : Int) : Prop := (∀ n ∈ part, AbleM S d n.1) ∧ ¬ MovedIn part sc d
def sp_idle_hand (K : PySem.W.Frag) (P : Program) (w : World) : Sp := fun vs H Q _ => ∃ (g kw ka b a : Addr) (S : SysM) (ds : List Int) (part : List Nod) (sc : Succ) (ks : List Ent) (N : Addr → Prop), vs = [.ref g, .ref b, .ref a] ∧ (∀ x, N x → H x ≠ none) ∧ Gr K P w S N g kw ka H ∧ SysG S ∧ H b = some (.tup (ds.map .int)) ∧ (∀ d ∈ ds, 0 ≤ d ∧ d < S.hands.length) ∧
  H a = some (dNO P w a ks) ∧ Gph H part sc ks ∧ part.length ≤ 500 ∧ (∀ n ∈ part, StOk S n.1) ∧ (∀ n ∈ part, ∀ q ∈ sc n, q.1.2.length = S.hands.length) ∧ a ≠ kw ∧ a ≠ ka ∧
  ∀ (v : V) (H' : Hp), But kw ka H H' → Gr K P w S N g kw ka H' → ((v = .non ∧ ∀ d ∈ ds, ¬ IdleAt S part sc d) ∨ (∃ d ∈ ds, v = .int d ∧ IdleAt S part sc d)) → Q v H'
theorem ok_idle_hand (T : Tx K mg) : C8.Cal P w K mg base 5 "idle_hand" (sp_idle_hand K P w) [] := cal_idle_hand T (fun vs H Q E ⟨_, _, _, _, _, _, _, _, _, _, _, h, _⟩ => by rw [h]; rfl) fun cdv A outer s H vs Q E hr h => by
  refine ⟨_, (C8.pss_cut (ps_for PassesOwn.never rfl (pi_tup (pv 1)) (pg_name (i := 3) sc_idle_hand.nd rfl (Or.inr rfl))
      (pss_cons (ps_lock (ps_setLc (i := 4) (own := [("node", 5)]) (g := gName 5) (by rfl) sc_idle_hand.nd rfl rfl (sw_true rfl rfl rfl (by decide +kernel)) (pi_keysN (pv 2)) (blkOk_by (own := [("node", 5)]) (N := n_idle_hand) (sc := defScope s_idle_hand) (by decide +kernel)) (fun _ _ _ _ _ => pg_name (i := 5) sc_idle_hand.nd rfl (Or.inl rfl)) (fun _ _ _ _ _ => pts_one (pt_cmpR (op_in_seqB (K := K) rfl) (pv 3) (C8.pe_mt (ok_Ground_able (P := P) (w := w) (base := base) T) hr (by decide) (pv 0) (pa_cons (pe_ix (ix_tupB (K := K) rfl) (pv 5) pe_int (fun _ _ => rfl)) pa_nil)) (by rfl))) (fun _ _ _ _ _ => (pv 5))))
    (pss_one (ps_if (PW.pt (pw_and (pt_cmpR op_eq (pe_callB call_len_seq (by rfl) T.f_len b_len (pa_cons (pv 4) pa_nil)) (pe_callB call_lenN (by rfl) T.f_len b_len (pa_cons (pv 2) pa_nil)) (nomark _)) (pw_and1 (pt_not (pt_val (C8.pe_c (ok_moved_in T) hr (by decide) (by rfl) (pa_cons (pv 2) (pa_cons (pv 3) pa_nil)))))))) (pss_one (ps_ret (pv 3))) pss_nil))))
    (pss_one (ps_ret pe_non))), ?_⟩
  obtain ⟨g, kw, ka, b, a, S, ds, part, sc, ks, N, rfl, hN, G, hG, hb, rg, ha, GP, few, stok, lens, n1, n2, q⟩ := h
  refine ⟨fun σ' H' => But kw ka H H' ∧ Gr K P w S N g kw ka H' ∧ ∀ d ∈ ds, ¬ IdleAt S part sc d, ?_, ?_⟩
  · nested_keys
    refine ⟨⟨_, SqT.of hb⟩, for_it (walk_tu (ds.map V.int)) (fun i σ' H' => But kw ka H H' ∧ Gr K P w S N g kw ka H' ∧ (∀ d ∈ ds.take i, ¬ IdleAt S part sc d) ∧ ∃ u3 u4 u5, σ' = [some (V.ref g), some (V.ref b), some (V.ref a), u3, u4, u5]) ⟨Same.refl'.but, G, by simp, _, _, _, rfl⟩ (fun _ _ _ _ k => SqT.of (G.tups k.1 _ _ hb)) ?_ ?_⟩
    · rintro i v σ2 H2 H3 hi ⟨bt, G2, no, u3, u4, u5, rfl⟩ ⟨rfl, hv⟩
      rw [List.getElem?_map] at hv
      obtain ⟨d, hd, rfl⟩ := Option.map_eq_some_iff.mp hv
      have dm := List.mem_of_getElem? hd
      have ha3 := bt _ _ n1 n2 ha
      have GP3 := GP.at (G.seqs bt)
      nested_keys
      refine ⟨a, dNO P w a ks, ha3, trivial, fun od => ?_⟩
      have GL : Gph (upd H3 a (.frz od (dNO P w a ks))) part sc ks := GP3.at (seqs_lock ha3)
      have la : (upd H3 a (.frz od (dNO P w a ks))) a = some (.frz od (dNO P w a ks)) := upd_same
      have fin : ∀ H', But kw ka (upd H3 a (.frz od (dNO P w a ks))) H' → But kw ka H3 (upd H' a (dNO P w a ks)) := fun H' z => But.lock ha3 z
      have GrL : Gr K P w S N g kw ka (upd H3 a (.frz od (dNO P w a ks))) := G2.put ha3 n1 n2
      have finG : ∀ H', But kw ka (upd H3 a (.frz od (dNO P w a ks))) H' → Gr K P w S N g kw ka H' → Gr K P w S N g kw ka (upd H' a (dNO P w a ks)) := fun H' z y => y.of (NE.frz (z _ _ n1 n2 upd_same)) (upd_ne n1.symm) (upd_ne n2.symm)
      have hNL : ∀ x, N x → upd H3 a (.frz od (dNO P w a ks)) x ≠ none := fun x m z => Gr.live hN bt G2 x m ((lock_none ha3).mp z)
      generalize upd H3 a (.frz od (dNO P w a ks)) = HL at GL la fin GrL finG hNL |-
      nested_keys
      refine ⟨a, od, ks, rfl, la, fun D hD => ?_⟩
      have btL : ∀ {H'}, But kw ka HL H' → HL a = some (.frz od (dNO P w a ks)) → H' a = some (.frz od (dNO P w a ks)) := fun z e => z _ _ n1 n2 e
      refine lc_it (walk_keysN ks) (fun k H' => But kw ka HL H' ∧ Gr K P w S (fun x => N x ∨ x = D) g kw ka H' ∧ ∃ rs : List V, H' D = some (.lst rs) ∧ rs.length ≤ k ∧ (rs.length = k ↔ ∀ n ∈ part.take k, AbleM S d n.1)) ?_ (fun _ _ _ k => btL k.1 la) ?_ ?_
      · exact ⟨Same.refl'.but.put hD, (GrL.add hD).same (Same.new hD), [], upd_same, Nat.le_refl _, by simp⟩
      · rintro k v H4 H5 hk ⟨bt4, G4, rs, hD4, lr, er⟩ ⟨rfl, en, hen, rfl⟩
        obtain ⟨n, hn1, hn2⟩ := GL.key hen
        have npart := List.mem_of_getElem? hn1
        have kn0 : Ky HL (dNod n) en.2.1 := by
          have := GL.kys en (List.mem_of_getElem? hen)
          rw [hn2] at this
          exact this
        have kn5 := kn0.at (GrL.tups bt4)
        obtain ⟨nb, c1, c2, e, hnb, hc1, hc2⟩ := kn5.1.nod
        cases e
        have k500 : k < 500 := by
          have := (List.getElem?_eq_some_iff.mp hn1).1
          omega
        nested_keys
        obtain ⟨gdx, gp, hgi, _⟩ := G4.ins
        refine ⟨g, gdx, _, rfl, hgi, fGr_no (by decide +kernel) (by decide +kernel) (by decide +kernel), ?_⟩
        nested_keys
        refine ⟨_, _, _, _, rfl, rfl, SqT.of hnb, rfl, ?_⟩
        have hN5 : ∀ x, (N x ∨ x = D) → H5 x ≠ none := fun x m => m.elim (Gr.live hNL bt4 G4 x) fun m z => by rw [m, hD4] at z; cases z
        refine ⟨g, kw, ka, c1, S, n.1, _, rfl, hN5, G4, hG, hc1, stok n npart, fun l ms H6 bt6 G6 hl mem => ?_⟩
        refine ⟨l, _, rfl, .inl (SqL.of hl), rfl, flat_ints _, ?_⟩
        rw [inV_num]
        have hD6 := G4.keep bt6 hD4 (fun q z => by cases z)
        have hL6 := bt4.trans bt6
        have tk : ∀ g : Nat, (∀ m ∈ part.take (k + 1), AbleM S d m.1) ↔ (∀ m ∈ part.take k, AbleM S d m.1) ∧ AbleM S d n.1 := fun _ => by
          rw [take_snoc hn1]
          constructor
          · intro z
            exact ⟨fun m hm => z m (List.mem_append_left _ hm), z n (by simp)⟩
          · rintro ⟨z1, z2⟩ m hm
            rw [List.mem_append, List.mem_singleton] at hm
            rcases hm with hm | rfl
            · exact z1 m hm
            · exact z2
        nested_keys
        refine iteD (fun c => ?_) fun c => ?_
        · have ab := (mem d).mp c
          have lD : But kw ka HL (upd H6 D (.lst (rs ++ [.ref en.2.1]))) := hL6.put' hD
          nested_keys
          refine ⟨rs, hD6, line24 (m := 500) (by omega), lD, ?_, _, upd_same, by rw [List.length_append]; simp only [List.length_cons, List.length_nil]; omega, ?_⟩
          · exact G6.upd (.inr rfl) hD6
          · rw [List.length_append, tk 0]
            simp only [List.length_cons, List.length_nil]
            constructor
            · intro z
              exact ⟨er.mp (by omega), ab⟩
            · intro z
              have := er.mpr z.1
              omega
        · have ab : ¬ AbleM S d n.1 := fun z => c ((mem d).mpr z)
          refine ⟨hL6, G6, rs, hD6, by omega, ?_⟩
          rw [tk 0]
          constructor
          · intro z; omega
          · intro z; exact absurd z.2 ab
      · rintro H4 ⟨bt4, G4, rs, hD4, lr, er⟩
        rw [GL.len, List.take_length] at er
        refine ⟨btL bt4 la, ?_⟩
        have bt5 := fin _ bt4
        have G5 := finG _ bt4 (G4.less fun x => .inl)
        have bt6 := bt.trans bt5
        have hD5 : upd H4 a (dNO P w a ks) D = some (.lst rs) := by
          rw [upd_ne (fun z => by rw [z, btL bt4 la] at hD4; cases hD4)]
          exact hD4
        have ha5 : upd H4 a (dNO P w a ks) a = some (dNO P w a ks) := upd_same
        have GP5 := GP.at (G.seqs bt6)
        generalize upd H4 a (dNO P w a ks) = H5 at bt5 G5 bt6 hD5 ha5 GP5 |-
        nested_keys
        refine ⟨D, rs, rfl, .inl (SqL.of hD5), ?_⟩
        nested_keys
        refine ⟨a, ks, rfl, ⟨.of ha5, GP5.kys⟩, ?_⟩
        nested_keys
        refine iteD (fun cc => ?_) fun cc => ?_
        · have all : ∀ n ∈ part, AbleM S d n.1 := er.mp (by
            injection cc with cc
            have := GL.len
            omega)
          nested_keys
          refine ⟨a, d, part, sc, ks, rfl, ha5, GP5, (rg d dm).1, (fun n hn q hq => by rw [lens n hn q hq]; exact (rg d dm).2), fun c H6 s6 hc => ?_⟩
          cases c with
          | true =>
            nested_keys
            refine ⟨bt6.trans s6.but, G5.same s6, fun x hx => ?_, _, _, _, rfl⟩
            rw [take_snoc hd, List.mem_append, List.mem_singleton] at hx
            rcases hx with hx | rfl
            · exact no x hx
            · exact fun z => z.2 (hc.mp rfl)
          | false =>
            nested_keys
            exact q _ _ (bt6.trans s6.but) (G5.same s6) (.inr ⟨d, dm, rfl, all, fun z => by cases hc.mpr z⟩)
        · nested_keys
          refine ⟨bt6, G5, fun x hx => ?_, _, _, _, rfl⟩
          rw [take_snoc hd, List.mem_append, List.mem_singleton] at hx
          rcases hx with hx | rfl
          · exact no x hx
          · exact fun z => cc (by
              have := er.mpr z.1
              rw [this, GL.len])
    · rintro σ2 H2 ⟨bt, G2, no, k⟩
      rw [List.length_map, List.take_length] at no
      exact ⟨bt, G2, no⟩
  · rintro σ2 H2 ⟨bt, G2, no⟩
    exact q _ _ bt G2 (.inl ⟨rfl, no⟩)
end NS
/-! G19: the walks of runs and deeds. -/
namespace NS
open PySem PySem.Spec PyProof.Rows L2
local macro_rules | `(tactic| nested_keys) => `(tactic| repeat (first | refine ⟨_, rfl, ?_⟩ | refine ⟨_, _, rfl, rfl, ?_⟩ | refine ⟨rfl, ?_⟩ | with_reducible refine iteT ?_ | with_reducible refine iteF ?_))
variable {P : Program} {w : World} {K : PySem.W.Frag} {mg : Str → Option Value} {base : Heap}
/-- where a run leads -/
def atS (S : SysM) (st : Stg) (ms : List Move) : Stg := ms.foldl (ledTo S) st
theorem atS_snoc (S : SysM) (st : Stg) (ms : List Move) (m : Move) : atS S st (ms ++ [m]) = ledTo S (atS S st ms) m := by simp [atS]
def RunOk (S : SysM) (st : Stg) (ms : List Move) : Prop := ∀ (k : Nat) m, ms[k]? = some m → MvOk S (atS S st (ms.take k)) m
theorem RunOk.st {S : SysM} (o : SysOk S) {st : Stg} (k : StOk S st) {ms : List Move} (r : RunOk S st ms) : ∀ n, n ≤ ms.length → StOk S (atS S st (ms.take n))
  | 0, _ => by simpa [atS] using k
  | n + 1, h => by
    obtain ⟨m, hm⟩ : ∃ m, ms[n]? = some m := ⟨_, List.getElem?_eq_getElem (by omega)⟩
    rw [take_snoc hm, atS_snoc]
    exact (RunOk.st o k r n (by omega)).led o (r n m hm)
def sp_walked (K : PySem.W.Frag) : Sp := fun vs H Q _ => ∃ (p : Addr) (v : V) (S : SysM) (ms : List Move), vs = [.ref p, v] ∧ SysAt K H p S ∧ SysG S ∧ Rk H (.tup (ms.map dMove)) v ∧ RunOk S S.start ms ∧ ms.length ≤ 1000 ∧
  ∀ (c : Addr) (pre : List V) (x : V) (H' : Hp), Same H H' → H' c = some (.lst (pre ++ [x])) → Rk H' (dI (atS S S.start ms)) x → Q (.ref c) H'
theorem ok_walked (T : Tx K mg) : C8.Cal P w K mg base 3 "walked" (sp_walked K) [] := cal_walked T (fun vs H Q E ⟨_, _, _, _, h, _⟩ => by rw [h]; rfl) fun cdv A outer s H vs Q E hr h => by
  refine ⟨_, (pss_cons (ps_if (pt_not (pt_val (pe_callB call_isi (by rfl) T.f_isinstance b_isinstance (pa_cons (pv 1) (pa_cons (pe_bt (by rfl) T.f_tuple b_tuple) pa_nil))))) (pss_one ps_never) pss_nil)
    (pss_cons (ps_set (i := 2) sc_walked.nd rfl (Or.inl rfl) (pe_lst (pa_cons (pe_fld (pv 0) rfl) pa_nil)))
    (C8.pss_cut (ps_for PassesOwn.never rfl (pi_enumT (by rfl) T.f_enumerate (pa_cons (pv 1) pa_nil)) (pg_tup rfl (pgs_cons (pg_name (i := 3) sc_walked.nd rfl (Or.inl rfl)) (pgs_cons (pg_name (i := 4) sc_walked.nd rfl (Or.inl rfl)) pgs_nil)))
      (pss_cons (ps_if (pt_not (pt_val (C8.pe_c (ok_is_move T) hr (by decide) (by rfl) (pa_cons (pv 0) (pa_cons (pe_ix ix_list (pv 2) (pe_un un_neg pe_int) (fun _ _ => rfl)) (pa_cons (pv 4) pa_nil)))))) (pss_one ps_never) pss_nil)
    (pss_one (ps_expr (pe_bm PySem.F.plainAttrs_list PySem.F.slot_list_append PySem.F.type_list_append mt_append (pv 2) (pa_cons (C8.pe_c (ok_led_to T) hr (by decide) (by rfl) (pa_cons (pv 0) (pa_cons (pe_ix ix_list (pv 2) (pe_un un_neg pe_int) (fun _ _ => rfl)) (pa_cons (pv 4) pa_nil)))) pa_nil))))))
    (pss_one (ps_ret (pv 2)))))), ?_⟩
  obtain ⟨p, v, S, ms, rfl, hS, hG, hv, ok, few, q⟩ := h
  obtain ⟨rb, mv, rfl, hrb, rm⟩ := hv.tup_eq
  obtain ⟨dx, a1, a2, a3, a4, ps, i1, i2, i3, i4, i5, i6⟩ := id hS
  nested_keys
  refine ⟨_, _, _, _, _, rfl, .ty _, tyTup hrb, kit_ty k_tup_tup, ?_⟩
  nested_keys
  refine ⟨p, _, dx, _, _, rfl, i1, T.c_System, T.a_System_start, fSys_start, ?_⟩
  refine ⟨by show 1 ≤ sizeLine; decide, fun c hc => ?_⟩
  refine ⟨fun σ' H' => Same H H' ∧ (∃ pre x, H' c = some (.lst (pre ++ [x])) ∧ Rk H' (dI (atS S S.start ms)) x) ∧ ∃ u3 u4, σ' = [some (V.ref p), some (V.ref rb), some (.ref c), u3, u4], ?_, ?_⟩
  · nested_keys
    have s1 : Same H (upd H c (.lst [.ref a4])) := Same.new hc
    refine ⟨rb, mv, rfl, SqT.of (s1 _ _ hrb), for_it (walk_enT mv) (fun n σ' H' => Same H H' ∧ (∃ pre x, H' c = some (.lst (pre ++ [x])) ∧ pre.length = n ∧ Rk H' (dI (atS S S.start (ms.take n))) x) ∧ ∃ u3 u4, σ' = [some (V.ref p), some (V.ref rb), some (.ref c), u3, u4]) ?_ (fun _ _ _ _ k => SqT.of (k.1 _ _ hrb)) ?_ ?_⟩
    · exact ⟨s1, ⟨[], .ref a4, upd_same, rfl, Rk.ofInts (s1 _ _ i6)⟩, _, _, rfl⟩
    · rintro n y σ2 H2 H3 hi ⟨sm, ⟨pre, x, hc2, lp, rx⟩, u3, u4, rfl⟩ ⟨t, y2, rfl, ht, rfl, hy2⟩
      obtain ⟨m, h1, h2⟩ := rm.mapV hy2
      have mo := ok n m h1
      have n1000 : n < 1000 := by
        have := (List.getElem?_eq_some_iff.mp h1).1
        omega
      have so := RunOk.st hG.ok hG.ok.startOk ok n (by have := (List.getElem?_eq_some_iff.mp h1).1; omega)
      have s23 : Same H2 (upd H2 t (.tup [.int (n : Nat), y2])) := Same.new ht
      have sm3 := Same.trans' sm s23
      obtain ⟨xb, rfl, hxb⟩ := (rx.at s23.tups).ints
      have hc3 := s23 _ _ hc2
      refine ⟨t, _, rfl, SqT.of upd_same, rfl, _, _, rfl, _, _, rfl, rfl, ?_⟩
      nested_keys
      refine ⟨c, _, _, _, rfl, rfl, SqL.of hc3, atI_last _ _, ?_⟩
      nested_keys
      refine ⟨p, xb, y2, S, _, m, rfl, hS.same sm3, hG, hxb, so, sm3.rk h2, mo, fun H4 s4 => ?_⟩
      have hc4 := s4 _ _ hc3
      nested_keys
      refine ⟨.inl ⟨rfl, _, SqL.of hc4⟩, ?_⟩
      nested_keys
      refine ⟨c, _, _, _, rfl, rfl, SqL.of hc4, atI_last _ _, ?_⟩
      nested_keys
      have sm4 := Same.trans' sm3 s4
      refine ⟨p, xb, y2, S, _, m, rfl, hS.same sm4, hG, s4 _ _ hxb, so, sm4.rk h2, mo, fun d H5 s5 hd => ?_⟩
      have hc5 := s5 _ _ hc4
      refine ⟨c, _, _, rfl, rfl, hc5, by rw [List.length_append, lp]; exact line24 (m := 1001) (by simp only [List.length_cons, List.length_nil]; omega), ?_⟩
      refine ⟨(Same.trans' sm4 s5).put hc, ⟨pre ++ [V.ref xb], .ref d, upd_same, by rw [List.length_append, lp]; rfl, ?_⟩, _, _, rfl⟩
      rw [take_snoc h1, atS_snoc]
      exact Rk.ofInts (by rw [upd_ne (fun z => by rw [z, hc5] at hd; cases hd)]; exact hd)
    · rintro σ2 H2 ⟨sm, ⟨pre, x, hc2, lp, rx⟩, k⟩
      rw [rm.len, List.take_length] at rx
      exact ⟨sm, ⟨pre, x, hc2, rx⟩, k⟩
  · rintro σ2 H2 ⟨sm, ⟨pre, x, hc2, rx⟩, u3, u4, rfl⟩
    nested_keys
    exact q c pre x _ sm hc2 rx
def sp_end_of (K : PySem.W.Frag) : Sp := fun vs H Q _ => ∃ (p : Addr) (v : V) (S : SysM) (ms : List Move), vs = [.ref p, v] ∧ SysAt K H p S ∧ SysG S ∧ Rk H (.tup (ms.map dMove)) v ∧ RunOk S S.start ms ∧ ms.length ≤ 1000 ∧
  ∀ (x : V) (H' : Hp), Same H H' → Rk H' (dI (atS S S.start ms)) x → Q x H'
theorem ok_end_of (T : Tx K mg) : C8.Cal P w K mg base 4 "end_of" (sp_end_of K) [] := cal_end_of T (fun vs H Q E ⟨_, _, _, _, h, _⟩ => by rw [h]; rfl) fun cdv A outer s H vs Q E hr h => by
  refine ⟨_, (pss_one (ps_ret (pe_ix ix_list (C8.pe_c (ok_walked T) hr (by decide) (by rfl) (pa_cons (pv 0) (pa_cons (pv 1) pa_nil))) (pe_un un_neg pe_int) (fun _ _ => rfl)))), ?_⟩
  obtain ⟨p, v, S, ms, rfl, hS, hG, hv, ok, few, q⟩ := h
  nested_keys
  refine ⟨p, v, S, ms, rfl, hS, hG, hv, ok, few, fun c pre x H1 s1 hc hx => ?_⟩
  nested_keys
  exact ⟨c, _, _, _, rfl, rfl, SqL.of hc, atI_last _ _, q x _ s1 hx⟩
def sp_words_of (K : PySem.W.Frag) : Sp := fun vs H Q _ => ∃ (p : Addr) (v : V) (S : SysM) (ms : List Move), vs = [.ref p, v] ∧ SysAt K H p S ∧ SysG S ∧ Rk H (.tup (ms.map dMove)) v ∧ RunOk S S.start ms ∧ ms.length ≤ 1000 ∧
  ∀ (c : Addr) (H' : Hp), Same H H' → H' c = some (.tup (ms.map fun m => V.str m.1)) → Q (.ref c) H'
theorem ok_words_of (T : Tx K mg) : C8.Cal P w K mg base 4 "words_of" (sp_words_of K) [] := cal_words_of T (fun vs H Q E ⟨_, _, _, _, h, _⟩ => by rw [h]; rfl) fun cdv A outer s H vs Q E hr h => by
  refine ⟨_, (pss_cons (ps_expr (C8.pe_c (ok_walked T) hr (by decide) (by rfl) (pa_cons (pv 0) (pa_cons (pv 1) pa_nil))))
    (pss_one (ps_ret (pe_callTy call_tuple_of (by rfl) T.f_tuple b_tuple (pa_cons (pe_lc (own := [("move", 2)]) (g := gName 2) (tt := tYes) (by rfl) sc_words_of.nd (pi_tup (pv 1)) (blkOk_by (own := [("move", 2)]) (N := n_words_of) (sc := defScope s_words_of) (by decide +kernel)) (fun _ _ _ _ _ => pg_name (i := 2) sc_words_of.nd rfl (Or.inl rfl)) (fun _ _ _ _ _ => pts_nil) (fun _ _ _ _ _ => (pe_ix (ix_tupB (K := K) rfl) (pv 2) pe_int (fun _ _ => rfl)))) pa_nil))))), ?_⟩
  obtain ⟨p, v, S, ms, rfl, hS, hG, hv, ok, few, q⟩ := h
  obtain ⟨rb, mv, rfl, hrb, rm⟩ := id hv.tup_eq
  nested_keys
  refine ⟨p, _, S, ms, rfl, hS, hG, hv, ok, few, fun c pre x H1 s1 hc hx => ?_⟩
  nested_keys
  refine ⟨⟨_, SqT.of (s1 _ _ hrb)⟩, fun D hD => ?_⟩
  refine lc_it (walk_tu mv) (fun n H2 => Same H1 H2 ∧ H2 D = some (.lst ((ms.take n).map fun m => V.str m.1))) ⟨Same.new hD, upd_same⟩ (fun _ _ _ k => SqT.of (k.1 _ _ (s1 _ _ hrb))) ?_ ?_
  · rintro n y H2 H3 hi ⟨sm, hk⟩ ⟨rfl, hy⟩
    obtain ⟨m, h1, h2⟩ := rm.mapV hy
    obtain ⟨mb, mc, rfl, hmb, hmc⟩ := ((Same.trans' s1 sm).rk h2).move
    nested_keys
    refine ⟨mb, _, _, _, rfl, rfl, SqT.of hmb, rfl, ?_⟩
    refine ⟨_, hk, by rw [List.length_map]; exact line24 (m := 1000) (Nat.le_trans (List.length_take_le' _ _) few), sm.put hD, ?_⟩
    rw [upd_same, take_snoc h1, List.map_append]
    rfl
  · rintro H2 ⟨sm, hk⟩
    rw [rm.len, List.take_length] at hk
    refine ⟨D, _, rfl, .inl ⟨SqL.of hk, fun l hl => ?_⟩⟩
    exact q l _ ((Same.trans' s1 sm).put ((Same.trans' s1 sm).none hl)) upd_same
/-! ### Deeds -/
def sp_words_of_row : Sp := fun vs H Q _ => ∃ (a : Addr) (xs D : List Str), vs = [.ref a] ∧ H a = some (.tup (xs.map .str)) ∧ (∀ x ∈ xs, NameOk x) ∧ xs.length ≤ 1000 ∧ D.length < 64 ∧ (∀ x, x ∈ xs ↔ x ∈ D) ∧
  ∀ (c : Addr) (ys : List Str) (H' : Hp), Same H H' → H' c = some (.lst (ys.map .str)) → ys.Pairwise SLt → (∀ x, x ∈ ys ↔ x ∈ xs) → Q (.ref c) H'
theorem ok_words_of_row (T : Tx K mg) : C8.Cal P w K mg base 2 "words_of_row" sp_words_of_row [] := cal_words_of_row T (fun vs H Q E ⟨_, _, _, h, _⟩ => by rw [h]; rfl) fun cdv A outer s H vs Q E hr h => by
  refine ⟨_, (pss_cons (ps_if (pt_val (pe_callB call_isi (by rfl) T.f_isinstance b_isinstance (pa_cons (pv 0) (pa_cons (C8.pe_gc (v := .ref (He.ga K "Deeds")) (by rfl) ⟨_, T.g_Deeds, rfl⟩) pa_nil)))) (pss_one ps_never) pss_nil)
    (pss_cons (ps_if (pt_not (pt_val (C8.pe_c (ok_is_row T) hr (by decide) (by rfl) (pa_cons (pv 0) pa_nil)))) (pss_one ps_never) pss_nil)
    (C8.pss_cut (ps_for PassesOwn.never rfl (pi_tup (pv 0)) (pg_name (i := 1) sc_words_of_row.nd rfl (Or.inl rfl))
      (pss_one (ps_if (pt_not (pt_val (C8.pe_c (ok_is_name T) hr (by decide) (by rfl) (pa_cons (pv 1) pa_nil)))) (pss_one ps_never) pss_nil)))
    (pss_one (ps_ret (pe_callB (cr_sortS rfl) (by rfl) T.f_sorted b_sorted (pa_cons (pe_callTy (cr_setOf rfl emb_str) (by rfl) T.f_set b_set (pa_cons (pv 0) pa_nil)) pa_nil))))))), ?_⟩
  obtain ⟨a, xs, D, rfl, ha, nok, few, D64, mem, q⟩ := h
  nested_keys
  refine ⟨_, _, _, _, _, rfl, .own _, tyTup ha, T.noDeeds, ?_⟩
  nested_keys
  refine ⟨a, _, rfl, .inr ha, fun H1 s1 => ?_⟩
  nested_keys
  refine ⟨fun σ' H' => Same H H' ∧ ∃ u1, σ' = [some (V.ref a), u1], ?_, ?_⟩
  · nested_keys
    refine ⟨⟨_, SqT.of (s1 _ _ ha)⟩, for_it (walk_tu (xs.map V.str)) (fun n σ' H' => Same H H' ∧ ∃ u1, σ' = [some (V.ref a), u1]) ⟨s1, _, rfl⟩ (fun _ _ _ _ k => SqT.of (k.1 _ _ ha)) ?_ fun _ _ k => k⟩
    rintro n y σ2 H2 H3 hi ⟨sm, u1, rfl⟩ ⟨rfl, hy⟩
    rw [List.getElem?_map] at hy
    obtain ⟨x, hx, rfl⟩ := Option.map_eq_some_iff.mp hy
    nested_keys
    refine ⟨nok x (List.mem_of_getElem? hx), ?_⟩
    nested_keys
    exact ⟨sm, _, rfl⟩
  · rintro σ2 H2 ⟨sm, u1, rfl⟩
    nested_keys
    refine ⟨a, xs, rfl, .inr (SqT.of (sm _ _ ha)), Nat.lt_of_le_of_lt (show _ ≤ 1001 by omega) (by decide), fun g hg => ?_⟩
    refine ⟨g, _, D, rfl, upd_same, mem, D64, fun ys c so nd mem2 hc => ?_⟩
    have sm3 := sm.put (o := gNO (strKind P w) g xs) (sm.none hg)
    exact q c ys _ (sm3.put (sm3.none hc)) upd_same (sorted_pw so nd) fun x => by rw [mem2, mem]
def DeedsAt (K : PySem.W.Frag) (H : Hp) (d : Addr) (ys : List Str) : Prop := ∃ dx k, H d = some (.ins (He.ga K "Deeds") dx [("kept", .ref k)]) ∧ H k = some (.lst (ys.map .str))
def sp_Deeds_init (K : PySem.W.Frag) : Sp := fun vs H Q _ => ∃ (x dx a : Addr) (xs D : List Str), vs = [.ref x, .ref a] ∧ H x = some (.ins (He.ga K "Deeds") dx []) ∧ H a = some (.tup (xs.map .str)) ∧ (∀ x ∈ xs, NameOk x) ∧ xs.length ≤ 1000 ∧ D.length < 64 ∧ (∀ x, x ∈ xs ↔ x ∈ D) ∧
  ∀ (ys : List Str) (H' : Hp), Same1 x H H' → DeedsAt K H' x ys → ys.Pairwise SLt → (∀ x, x ∈ ys ↔ x ∈ xs) → Q .non H'
theorem ok_Deeds_init (T : Tx K mg) : C8.Mak P w K mg base 3 "Deeds" (He.ga K "Deeds") (sp_Deeds_init K) [] := mak_Deeds T (fun vs H Q E ⟨_, _, _, _, _, h, _⟩ => by rw [h]; rfl) fun cdv A outer s H vs Q E hr h => by
  refine ⟨_, (pss_one (ps_fld (pv 0) (C8.pe_c (ok_words_of_row T) hr (by decide) (by rfl) (pa_cons (pv 1) pa_nil)) rfl)), ?_⟩
  obtain ⟨x, dx, a, xs, D, rfl, hx, ha, nok, few, D64, mem, q⟩ := h
  nested_keys
  refine ⟨a, xs, D, rfl, ha, nok, few, D64, mem, fun c ys H1 s1 hc pw mem2 => ?_⟩
  nested_keys
  have hx1 := s1 _ _ hx
  refine ⟨x, _, dx, _, rfl, hx1, T.c_Deeds, T.a_Deeds_kept, by decide, ?_⟩
  exact q ys _ s1.one.own ⟨dx, c, upd_same, by rw [upd_ne (fun z => by rw [z, hx1] at hc; cases hc)]; exact hc⟩ pw mem2
def sp_names (K : PySem.W.Frag) : Sp := fun vs H Q _ => ∃ (d : Addr) (ys : List Str), vs = [.ref d] ∧ DeedsAt K H d ys ∧ ∀ (c : Addr) (H' : Hp), Same H H' → H' c = some (.lst (ys.map .str)) → Q (.ref c) H'
theorem ok_Deeds_names (T : Tx K mg) : C8.Met P w K mg base 1 (He.ga K "Deeds") "names" (sp_names K) [] := met_Deeds_names T (fun vs H Q E ⟨_, _, h, _⟩ => by rw [h]; rfl) fun cdv A outer s H vs Q E hr h => by
  refine ⟨_, (pss_one (ps_ret (pe_callTy call_list_of (by rfl) T.f_list b_list (pa_cons (pe_fld (pv 0) rfl) pa_nil)))), ?_⟩
  obtain ⟨d, ys, rfl, ⟨dx, k, hd, hk⟩, q⟩ := h
  nested_keys
  refine ⟨d, _, dx, _, _, rfl, hd, T.c_Deeds, T.a_Deeds_kept, lkY, ?_⟩
  exact ⟨k, _, rfl, .inl (SqL.of hk), fun l hl => q l _ (Same.new hl) upd_same⟩
def sp_done_in (K : PySem.W.Frag) : Sp := fun vs H Q _ => ∃ (p : Addr) (v : V) (S : SysM) (ms : List Move), vs = [.ref p, v] ∧ SysAt K H p S ∧ SysG S ∧ Rk H (.tup (ms.map dMove)) v ∧ RunOk S S.start ms ∧ ms.length ≤ 1000 ∧
  ∀ (d : Addr) (ys : List Str) (H' : Hp), Same H H' → DeedsAt K H' d ys → ys.Pairwise SLt → (∀ x, x ∈ ys ↔ ∃ m ∈ ms, m.1 = x) → Q (.ref d) H'
theorem SysG.name {S : SysM} (g : SysG S) {x : Str} (h : x ∈ S.words) : NameOk x := by
  obtain ⟨h1, h2, h3⟩ := (g.ok.mem x).mp h
  obtain ⟨s, h4, h5⟩ := ((g.ok.hand h1 h2).mem x).mp h3
  exact h5 ▸ ((g.ok.hand h1 h2).fine s h4).w
theorem ok_done_in (T : Tx K mg) : C8.Cal P w K mg base 5 "done_in" (sp_done_in K) [] := cal_done_in T (fun vs H Q E ⟨_, _, _, _, h, _⟩ => by rw [h]; rfl) fun cdv A outer s H vs Q E hr h => by
  refine ⟨_, (pss_one (ps_ret (C8.pe_mk (ok_Deeds_init T) hr (by decide) (by rfl) (pa_cons (C8.pe_c (ok_words_of T) hr (by decide) (by rfl) (pa_cons (pv 0) (pa_cons (pv 1) pa_nil))) pa_nil)))), ?_⟩
  obtain ⟨p, v, S, ms, rfl, hS, hG, hv, ok, few, q⟩ := h
  nested_keys
  refine ⟨p, v, S, ms, rfl, hS, hG, hv, ok, few, fun c H1 s1 hc => ?_⟩
  intro x ndx nx nn ne
  have s2 : Same H1 (upd (upd H1 ndx (.own x)) x (.ins (He.ga K "Deeds") ndx [])) := (Same.new nn).put nx
  have wm : ∀ x, x ∈ ms.map (·.1) → x ∈ S.words := fun x hx => by
    obtain ⟨m, hm, rfl⟩ := List.mem_map.mp hx
    obtain ⟨k, hk⟩ := List.getElem?_of_mem hm
    exact (ok k m hk).word
  refine ⟨x, ndx, c, ms.map (·.1), S.words.filter (fun z => decide (z ∈ ms.map (·.1))), rfl, upd_same, ?_, fun z hz => hG.name (wm z hz), by rw [List.length_map]; exact few, ?_, fun z => ?_, fun ys H3 t3 dat pw mem => ?_⟩
  · rw [List.map_map]
    exact s2 _ _ hc
  · exact Nat.lt_of_le_of_lt (Nat.le_trans (List.length_filter_le _ _) hG.ok.few2) (by decide)
  · rw [List.mem_filter]
    exact ⟨fun h => ⟨wm z h, decide_eq_true h⟩, fun h => of_decide_eq_true h.2⟩
  · nested_keys
    refine q x ys H3 (Same.trans' s1 (Same1.back s2 nx t3)) dat pw fun z => ?_
    rw [mem z, List.mem_map]
end NS
/-! G20: the walks of with_word, pair_graph. -/
namespace NS
open PySem PySem.Spec PyProof.Rows L2
local macro_rules | `(tactic| nested_keys) => `(tactic| repeat (first | refine ⟨_, rfl, ?_⟩ | refine ⟨_, _, rfl, rfl, ?_⟩ | refine ⟨rfl, ?_⟩ | with_reducible refine iteT ?_ | with_reducible refine iteF ?_))
variable {N : Addr → Prop} {P : Program} {w : World} {K : PySem.W.Frag} {mg : Str → Option Value} {base : Heap}
def sp_with_word : Sp := fun vs H Q _ => ∃ (b : Addr) (d voc : List Str) (x : Str), vs = [.ref b, .str x] ∧ H b = some (.tup (d.map .str)) ∧ voc.Pairwise SLt ∧ d.Pairwise SLt ∧ (∀ y ∈ d, y ∈ voc) ∧ x ∈ voc ∧ voc.length ≤ 12 ∧
  ∀ (c : Addr) (H' : Hp), Same H H' → H' c = some (.tup ((insW voc d x).map .str)) → Q (.ref c) H'
theorem ok_with_word (T : Tx K mg) : C8.Cal P w K mg base 1 "with_word" sp_with_word [] := cal_with_word T (fun vs H Q E ⟨_, _, _, _, h, _⟩ => by rw [h]; rfl) fun cdv A outer s H vs Q E hr h => by
  refine ⟨_, (pss_cons (ps_if (pt_cmpR op_in_seq (pv 1) (pv 0) (by rfl)) (pss_one (ps_ret (pv 0))) pss_nil)
    (pss_one (ps_ret (pe_callTy call_tuple_of (by rfl) T.f_tuple b_tuple (pa_cons (pe_callB cr_sortedS (by rfl) T.f_sorted b_sorted (pa_cons (pe_op op_cat (pe_callTy call_list_of (by rfl) T.f_list b_list (pa_cons (pv 0) pa_nil)) (pe_lst (pa_cons (pv 1) pa_nil))) pa_nil)) pa_nil))))), ?_⟩
  obtain ⟨b, d, voc, x, rfl, hb, pv, pd, sub, xv, few, q⟩ := h
  have dl : d.length ≤ 12 := Nat.le_trans (nodup_le _ _ (pw_nodup pd) sub) few
  nested_keys
  refine ⟨b, _, rfl, .inr (SqT.of hb), rfl, flat_strs _, ?_⟩
  rw [inV_text]
  nested_keys
  refine iteD (fun m => ?_) fun m => ?_
  · nested_keys
    exact q b H Same.refl' (by rw [insW_old pv pd sub m]; exact hb)
  · nested_keys
    refine ⟨b, _, rfl, .inr (SqT.of hb), fun l hl => ?_⟩
    nested_keys
    refine ⟨by show 1 ≤ sizeLine; decide, fun l2 hl2 => ?_⟩
    have s1 : Same H (upd (upd H l (.lst (d.map V.str))) l2 (.lst [.str x])) := (Same.new hl).put ((Same.new hl).none hl2)
    refine ⟨l, l2, _, _, rfl, rfl, by rw [upd_ne (fun z => by rw [← z, upd_same] at hl2; cases hl2)]; exact upd_same, upd_same, by rw [List.length_map]; exact Nat.le_of_lt (line24 (m := 20) (by show d.length + 1 ≤ 20; omega)), fun l3 hl3 => ?_⟩
    refine ⟨l3, d ++ [x], rfl, SqL.of (by rw [upd_same, List.map_append]; rfl), by rw [List.length_append]; simp only [List.length_cons, List.length_nil]; omega, fun ys p pm so np => ?_⟩
    have s2 := s1.put (o := .lst (d.map V.str ++ [.str x])) (s1.none hl3)
    have s3 := s2.put (o := .lst (ys.map V.str)) (s2.none np)
    have nd : (d ++ [x]).Nodup := by
      rw [List.nodup_append]
      exact ⟨pw_nodup pd, by simp, fun a ha b hb e => by
        rw [List.mem_singleton] at hb
        exact m (hb ▸ e ▸ ha)⟩
    refine ⟨p, _, rfl, .inl ⟨SqL.of upd_same, fun t ht => ?_⟩⟩
    refine q t _ (s3.put (s3.none ht)) ?_
    rw [upd_same, insW_eq pv sub xv (sorted_pw so (pm.nodup_iff.mpr nd)) (fun z => by rw [pm.mem_iff, List.mem_append, List.mem_singleton])]
/-! ### pair_graph -/
def sp_pair_graph (K : PySem.W.Frag) (P : Program) (w : World) : Sp := fun vs H Q _ => ∃ (g kw ka p : Addr) (S : SysM) (N : Addr → Prop), vs = [.ref g, .ref p] ∧ (∀ x, N x → H x ≠ none) ∧ Gr K P w S N g kw ka H ∧ SysG S ∧ SysAt K H p S ∧
  ∀ (c : Addr) (ns : List Nod) (ks : List Ent) (H' : Hp), But kw ka H H' → Gr K P w S N g kw ka H' → H' c = some (dNO P w c ks) → c ≠ kw → c ≠ ka → Gph H' ns (psucc S) ks → (∀ n, n ∈ ns ↔ Rch (Pe S) (S.start, []) n) → Q (.ref c) H'
theorem nod0 {S : SysM} (o : SysOk S) : NodOk S (S.start, []) := nod_nil o.startOk
theorem Gr.kwka {S : SysM} {g kw ka c : Addr} {H : Hp} (G : Gr K P w S N g kw ka H) (h : H c = none) : c ≠ kw ∧ c ≠ ka := by
  obtain ⟨ks, k⟩ := G.ww
  obtain ⟨js, j⟩ := G.aa
  exact ⟨(fun z => by rw [z, k.at_] at h; cases h), (fun z => by rw [z, j.at_] at h; cases h)⟩
/-- tuples stay, lists too but at X -/
structure SeqX (X : Addr → Prop) (H H' : Hp) : Prop where
  t : Tups H H'
  l : ∀ b xs, ¬ X b → H b = some (.lst xs) → H' b = some (.lst xs)
theorem SeqX.ls {X : Addr → Prop} {H H' : Hp} (s : SeqX X H H') {l : Addr} {ks : List Dat} (n : ¬ X l) (h : Ls H l ks) : Ls H' l ks := let ⟨vs, h1, h2⟩ := h; ⟨vs, s.l _ _ n h1, h2.at s.t⟩
theorem Mk0.move {H H' : Hp} {d : Addr} {ns : List Nod} {ks : List Ent} (x : Mk0 P w H d ns ks) (t : Tups H H') (e : H' d = H d) : Mk0 P w H' d ns ks := ⟨e.trans x.at_, fun e he => (x.kys e he).at t, x.keys⟩
theorem ok_pair_graph (T : Tx K mg) : C8.Cal P w K mg base 5 "pair_graph" (sp_pair_graph K P w) [] := cal_pair_graph T (fun vs H Q E ⟨_, _, _, _, _, _, h, _⟩ => by rw [h]; rfl) fun cdv A outer s H vs Q E hr h => by
  refine ⟨_, (pss_cons (ps_set (i := 2) sc_pair_graph.nd rfl (Or.inl rfl) (pe_tup (pa_cons (pe_fld (pv 1) rfl) (pa_cons (pe_tup pa_nil) pa_nil))))
    (pss_cons (ps_set (i := 3) sc_pair_graph.nd rfl (Or.inl rfl) (pe_disN (u9 hr) (pv 2) (pe_lst pa_nil)))
    (pss_cons (ps_set (i := 4) sc_pair_graph.nd rfl (Or.inl rfl) (pe_lst (pa_cons (pv 2) pa_nil)))
    (pss_cons (ps_set (i := 5) sc_pair_graph.nd rfl (Or.inl rfl) pe_int)
    (C8.pss_cut (ps_while PassesOwn.never (pt_cmpR op_lt (pv 5) (pe_callB call_len_seq (by rfl) T.f_len b_len (pa_cons (pv 4) pa_nil)) (nomark _))
      (pss_cons (ps_asg (pe_ix ix_list (pv 4) (pv 5) (fun _ _ => rfl)) (pg_tup rfl (pgs_cons (pg_name (i := 6) sc_pair_graph.nd rfl (Or.inl rfl)) (pgs_cons (pg_name (i := 7) sc_pair_graph.nd rfl (Or.inl rfl)) pgs_nil))))
    (pss_cons (ps_aug (i := 5) sc_pair_graph.nd rfl (Or.inl rfl) pe_int ip_add)
    (pss_cons (ps_set (i := 8) sc_pair_graph.nd rfl (Or.inl rfl) (pe_lst pa_nil))
    (C8.pss_cut (ps_for PassesOwn.never rfl (pi_list (C8.pe_mt (ok_Ground_ways T) hr (by decide) (pv 0) (pa_cons (pv 6) pa_nil))) (pg_tup rfl (pgs_cons (pg_name (i := 9) sc_pair_graph.nd rfl (Or.inl rfl)) (pgs_cons (pg_name (i := 10) sc_pair_graph.nd rfl (Or.inl rfl)) pgs_nil)))
      (pss_cons (ps_set (i := 11) sc_pair_graph.nd rfl (Or.inl rfl) (pe_tup (pa_cons (pv 10) (pa_cons (C8.pe_c (ok_with_word T) hr (by decide) (by rfl) (pa_cons (pv 7) (pa_cons (pe_ix ix_tup (pv 9) pe_int (fun _ _ => rfl)) pa_nil))) pa_nil))))
    (pss_cons (ps_expr (pe_bm PySem.F.plainAttrs_list PySem.F.slot_list_append PySem.F.type_list_append mt_append (pv 8) (pa_cons (pe_tup (pa_cons (pv 9) (pa_cons (pv 11) pa_nil))) pa_nil)))
    (pss_one (ps_if (pt_cmpR (op_ninN (u9 hr)) (pv 11) (pv 3) (by rfl)) (pss_cons (ps_if (pt_cmpR op_eq (pe_callB call_lenN (by rfl) T.f_len b_len (pa_cons (pv 3) pa_nil)) (pe_gi (by rfl) T.i_LIMIT) (nomark _)) (pss_one ps_never) pss_nil)
    (pss_cons (ps_asg (pe_lst pa_nil) (pg_sub (pv 3) (pv 11) (set_dN (u9 hr))))
    (pss_one (ps_expr (pe_bm PySem.F.plainAttrs_list PySem.F.slot_list_append PySem.F.type_list_append mt_append (pv 4) (pa_cons (pv 11) pa_nil)))))) pss_nil)))))
    (pss_one (ps_asg (pv 8) (pg_sub (pv 3) (pe_tup (pa_cons (pv 6) (pa_cons (pv 7) pa_nil))) (set_dN (u9 hr))))))))))
    (pss_one (ps_ret (pv 3)))))))), ?_⟩
  obtain ⟨g, kw, ka, p, S, N, rfl, hN, G, hG, hS, q⟩ := h
  obtain ⟨dx, a1, a2, a3, a4, ps, i1, i2, i3, i4, i5, i6⟩ := id hS
  nested_keys
  refine ⟨p, _, dx, _, _, rfl, i1, T.c_System, T.a_System_start, fSys_start, ?_⟩
  refine ⟨Nat.zero_le _, fun e he => ?_⟩
  refine ⟨by show 2 ≤ sizeLine; decide, fun n0 hn0 => ?_⟩
  have s2 : Same H (upd (upd H e (.tup [])) n0 (.tup [.ref a4, .ref e])) := (Same.new he).put ((Same.new he).none hn0)
  have he2 : upd (upd H e (.tup [])) n0 (.tup [.ref a4, .ref e]) e = some (.tup []) := by
    rw [upd_ne (fun z => by rw [← z, upd_same] at hn0; cases hn0)]
    exact upd_same
  have k0 : Ky (upd (upd H e (.tup [])) n0 (.tup [.ref a4, .ref e])) (dNod (S.start, [])) n0 := ⟨.ofPair upd_same (Rk.ofInts (s2 _ _ i6)) (.tup he2 .nil), dNod_depth _⟩
  generalize upd (upd H e (.tup [])) n0 (.tup [.ref a4, .ref e]) = H2 at s2 he2 k0 |-
  intro c hc
  have ncH : H c = none := s2.none hc
  obtain ⟨ckw, cka⟩ := G.kwka ncH
  have s3 : Same H2 (upd H2 c (dNO P w c [])) := Same.new hc
  nested_keys
  refine ⟨Nat.zero_le _, fun l0 hl0 => ?_⟩
  have cl0 : c ≠ l0 := fun z => by rw [← z, upd_same] at hl0; cases hl0
  have s4 : Same H2 (upd (upd H2 c (dNO P w c [])) l0 (.lst [])) := s3.put (s3.none hl0)
  refine ⟨by rw [upd_ne cl0]; exact upd_same, dNod (S.start, []), n0, rfl, k0.at s4.tups, ?_⟩
  have s5 : Same H2 (upd (upd (upd H2 c (dNO P w c [])) l0 (.lst [])) c (dNO P w c [(dNod (S.start, []), n0, .ref l0)])) := s4.put hc
  nested_keys
  refine ⟨by show 1 ≤ sizeLine; decide, fun wl hwl => ?_⟩
  have s6 := s5.put (o := .lst [.ref n0]) (s5.none hwl)
  have nwH : H wl = none := s2.none (s5.none hwl)
  obtain ⟨wkw, wka⟩ := G.kwka nwH
  have cw : c ≠ wl := fun z => by rw [← z, upd_same] at hwl; cases hwl
  have sH6 := Same.trans' s2 s6
  have mk6 : Mk0 P w (upd (upd (upd (upd H2 c (dNO P w c [])) l0 (.lst [])) c (dNO P w c [(dNod (S.start, []), n0, .ref l0)])) wl (.lst [.ref n0])) c [(S.start, [])] [(dNod (S.start, []), n0, .ref l0)] :=
    ⟨by rw [upd_ne cw]; exact upd_same, fun x hx => by rw [List.mem_singleton] at hx; subst hx; exact k0.at s6.tups, rfl⟩
  have G6 := ((G.same (Same.trans' s2 s5)).add hwl).same (Same.new hwl (o := .lst [.ref n0]))
  have hw6 : Ls (upd (upd (upd (upd H2 c (dNO P w c [])) l0 (.lst [])) c (dNO P w c [(dNod (S.start, []), n0, .ref l0)])) wl (.lst [.ref n0])) wl ([(S.start, [])].map dNod) := ⟨_, upd_same, .cons (k0.1.at s6.tups) .nil⟩
  nested_keys
  refine ⟨fun σ' H' => But kw ka H H' ∧ Gr K P w S N g kw ka H' ∧ (∃ ns ks, H' c = some (dNO P w c ks) ∧ Gph H' ns (psucc S) ks ∧ ∀ n, n ∈ ns ↔ Rch (Pe S) (S.start, []) n) ∧ ∃ u0 u1 u2 u4 u5 u6 u7 u8 u9 u10 u11, σ' = [u0, u1, u2, some (V.ref c), u4, u5, u6, u7, u8, u9, u10, u11], ?_, ?_⟩
  · refine ⟨fun m σ' H' => ∃ (W : List Nod) (at_ : Nat) (ks : List Ent), m + at_ = 1001 ∧ at_ ≤ W.length ∧ But kw ka H H' ∧ Gr K P w S (fun x => N x ∨ x = wl) g kw ka H' ∧ Ls H' wl (W.map dNod) ∧ Mk0 P w H' c W ks ∧ W.Nodup ∧ (∀ x ∈ W, NodOk S x ∧ Rch (Pe S) (S.start, []) x) ∧ (S.start, []) ∈ W ∧ (∀ n ∈ W.take at_, (∀ q ∈ psucc S n, q.2 ∈ W) ∧ ∃ l, l ≠ wl ∧ lkN ks (dNod n) = some (.ref l) ∧ Ls H' l ((psucc S n).map dRow)) ∧ ∃ u6 u7 u8 u9 u10 u11, σ' = [some (V.ref g), some (V.ref p), some (V.ref n0), some (V.ref c), some (V.ref wl), some (.int (at_ : Nat)), u6, u7, u8, u9, u10, u11], ⟨1001, [(S.start, [])], 0, _, rfl, Nat.zero_le _, sH6.but, G6, hw6, mk6, by simp, ?_, by simp, by simp, _, _, _, _, _, _, rfl⟩, ?_⟩
    · intro x hx
      rw [List.mem_singleton] at hx
      subst hx
      exact ⟨nod0 hG.ok, .refl _⟩
    · clear hw6 G6 mk6 sH6 s6 hwl s5 s4 cl0 hl0 s3 hc k0 he2 s2
      rintro m σ' H3 ⟨W, at_, ks, em, le, bt, G3, ⟨wv, hwv, rwv⟩, mk, ndW, okW, m0, vals, u6, u7, u8, u9, u10, u11, rfl⟩
      have Wl : W.length ≤ 432 := Nat.le_trans (nodup_le _ _ ndW fun x hx => (okW x hx).1.mem hG.ok) (length_allNod hG.ok)
      nested_keys
      refine ⟨wl, _, rfl, .inl (SqL.of hwv), ?_⟩
      nested_keys
      refine iteD (fun cc => ?_) fun cc => ?_
      · have c' : at_ < W.length := by rw [← rwv.len]; simpa using cc
        obtain ⟨y, hy⟩ : ∃ y, W[at_]? = some y := ⟨_, List.getElem?_eq_getElem c'⟩
        have hyW := List.mem_of_getElem? hy
        obtain ⟨yok, yr⟩ := okW y hyW
        obtain ⟨yv, hyv, ry⟩ := rwv.get_map hy
        obtain ⟨yb, sb, db, rfl, hyb, hsb, hdb⟩ := ry.nod
        refine ⟨fun σ' H' => ∃ m', m' < m ∧ _, fun _ _ k => k, ?_⟩
        nested_keys
        refine ⟨wl, _, _, _, rfl, rfl, SqL.of hwv, atI_nat hyv, ?_⟩
        refine ⟨yb, _, rfl, SqT.of hyb, rfl, _, _, rfl, _, _, rfl, rfl, ?_⟩
        nested_keys
        refine ⟨Nat.zero_le _, fun r hr => ?_⟩
        have nr3 : H3 r = none := hr
        have s34 : Same H3 (upd H3 r (.lst [])) := Same.new hr
        have rw' : r ≠ wl := fun z => by rw [z, hwv] at nr3; cases nr3
        have rc : c ≠ r := fun z => by rw [← z, mk.at_] at nr3; cases nr3
        have nrH : H r = none := by
          cases z : H r with
          | none => rfl
          | some o =>
            obtain ⟨k1, k2⟩ := G3.kwka nr3
            rw [bt r o k1 k2 z] at nr3
            cases nr3
        have bt4 : But kw ka H (upd H3 r (.lst [])) := bt.put' nrH
        have G4 := (G3.add nr3).same s34
        have mk4 := mk.same s34
        have hr4 : upd H3 r (.lst []) r = some (.lst []) := upd_same
        have hwv4 := s34 _ _ hwv
        have rwv4 := rwv.at s34.tups
        have sb4 := s34 _ _ hsb
        have db4 := s34 _ _ hdb
        have vals4 : ∀ n ∈ W.take at_, (∀ q ∈ psucc S n, q.2 ∈ W) ∧ ∃ l, l ≠ wl ∧ l ≠ r ∧ lkN ks (dNod n) = some (.ref l) ∧ Ls (upd H3 r (.lst [])) l ((psucc S n).map dRow) := fun n hn => by
          obtain ⟨h1, l, h2, h3, h4⟩ := vals n hn
          refine ⟨h1, l, h2, fun z => ?_, h3, h4.same s34⟩
          obtain ⟨vs, h5, _⟩ := h4
          rw [z, nr3] at h5
          cases h5
        have hN4 : ∀ x, ((N x ∨ x = wl) ∨ x = r) → upd H3 r (.lst []) x ≠ none := fun x hx => by
          rcases hx with (hx | hx) | hx
          · exact Gr.live hN bt4 (G4.less fun x h => .inl (.inl h)) x hx
          · rw [hx, hwv4]; intro z; cases z
          · rw [hx, hr4]; intro z; cases z
        clear hr s34
        generalize upd H3 r (.lst []) = H4 at bt4 G4 mk4 hr4 hwv4 rwv4 sb4 db4 vals4 hN4 |-
        nested_keys
        refine ⟨fun σ' H' => ∃ (F' : List Nod) (ks' : List Ent), But kw ka H H' ∧ Gr K P w S (fun x => (N x ∨ x = wl) ∨ x = r) g kw ka H' ∧ Ls H' wl ((W ++ F').map dNod) ∧ Mk0 P w H' c (W ++ F') ks' ∧ (W ++ F').Nodup ∧ (∀ x ∈ W ++ F', NodOk S x ∧ Rch (Pe S) (S.start, []) x) ∧ H' sb = some (.tup (y.1.map .int)) ∧ H' db = some (.tup (y.2.map .str)) ∧ Ls H' r ((psucc S y).map dRow) ∧ (∀ q ∈ psucc S y, q.2 ∈ W ++ F') ∧ (∀ n ∈ W.take at_, ∃ l, l ≠ wl ∧ lkN ks' (dNod n) = some (.ref l) ∧ Ls H' l ((psucc S n).map dRow)) ∧ ∃ u9 u10 u11, σ' = [some (V.ref g), some (V.ref p), some (V.ref n0), some (V.ref c), some (V.ref wl), some (.int ((at_ : Nat) + 1)), some (.ref sb), some (.ref db), some (.ref r), u9, u10, u11], ?_, ?_⟩
        · obtain ⟨gdx, gp, hgi, _⟩ := G4.ins
          nested_keys
          refine ⟨g, gdx, _, rfl, hgi, fGr_no (by decide +kernel) (by decide +kernel) (by decide +kernel), ?_⟩
          nested_keys
          refine ⟨g, kw, ka, sb, S, y.1, _, rfl, hN4, G4, hG, sb4, yok.st, fun l H5 bt5 G5 hl nl => ?_⟩
          obtain ⟨lv, hl5, rl5⟩ := hl
          have t45 := G4.tups bt5
          have kp := G4.seqs bt5
          nested_keys
          refine ⟨⟨_, SqL.of hl5⟩, for_it (walk_li lv) (fun k σ' H' => ∃ (F' : List Nod) (ks' : List Ent), H' l = some (.lst lv) ∧ Tups H5 H' ∧ But kw ka H H' ∧ Gr K P w S (fun x => (N x ∨ x = wl) ∨ x = r) g kw ka H' ∧ Ls H' wl ((W ++ F').map dNod) ∧ Mk0 P w H' c (W ++ F') ks' ∧ (W ++ F').Nodup ∧ (∀ x ∈ W ++ F', NodOk S x ∧ Rch (Pe S) (S.start, []) x) ∧ Ls H' r (((psucc S y).take k).map dRow) ∧ (∀ q ∈ (psucc S y).take k, q.2 ∈ W ++ F') ∧ (∀ n ∈ W.take at_, ∃ l, l ≠ wl ∧ l ≠ r ∧ lkN ks' (dNod n) = some (.ref l) ∧ Ls H' l ((psucc S n).map dRow)) ∧ ∃ u9 u10 u11, σ' = [some (V.ref g), some (V.ref p), some (V.ref n0), some (V.ref c), some (V.ref wl), some (.int ((at_ : Nat) + 1)), some (.ref sb), some (.ref db), some (.ref r), u9, u10, u11]) ?_ ?_ ?_ ?_⟩
          · refine ⟨[], ks, hl5, fun _ _ z => z, bt4.trans bt5, G5, ⟨wv, kp.l _ _ hwv4, by simpa using rwv4.at t45⟩, ⟨bt5 _ _ ckw cka mk4.at_, fun x hx => (mk4.kys x hx).at t45, by simpa using mk4.keys⟩, by simpa using ndW, by simpa using okW, ⟨[], kp.l _ _ hr4, .nil⟩, by simp, fun n hn => ?_, _, _, _, rfl⟩
            obtain ⟨_, l', h2, h3, h4, h5⟩ := vals4 n hn
            exact ⟨l', h2, h3, h4, h5.at kp⟩
          · rintro k σ2 H6 _ ⟨F', ks', h1, _⟩
            exact SqL.of h1
          · rintro k x σ2 H6 H7 hi ⟨F', ks', hl7, t57, bt7, G7, ⟨wv7, hw7, rw7⟩, mk7, nd7, ok7, ⟨rv7, hr7, rr7⟩, in7, vals7, v9, v10, v11, rfl⟩ ⟨rfl, hx⟩
            obtain ⟨qq, h1, h2⟩ := rl5.mapV hx
            obtain ⟨tb, x1, y1, rfl, htb, hm1, hd1⟩ := (h2.at t57).pair
            obtain ⟨tt, rfl, htt⟩ := hd1.ints
            obtain ⟨mb, mc, rfl, hmb, hmc⟩ := id hm1.move
            have mq : (qq.1, qq.2) ∈ waysOf S y.1 := List.mem_of_getElem? h1
            obtain ⟨mo, eq2⟩ := (mem_ways yok.st.len).mp mq
            have hq : (psucc S y)[k]? = some (qq.1, (qq.2, insW S.words y.2 qq.1.1)) := by
              unfold psucc
              rw [List.getElem?_map, h1]
              rfl
            have qm := List.mem_of_getElem? hq
            have nok : NodOk S (qq.2, insW S.words y.2 qq.1.1) := yok.next hG.ok qm
            have nre : Rch (Pe S) (S.start, []) (qq.2, insW S.words y.2 qq.1.1) := yr.trans (.one ⟨qq.1, qm⟩)
            have l432 : (W ++ F').length ≤ 432 := Nat.le_trans (nodup_le _ _ nd7 fun x hx => (ok7 x hx).1.mem hG.ok) (length_allNod hG.ok)
            have k500 : k < 500 := by
              have h3 := (List.getElem?_eq_some_iff.mp h1).1
              have := waysOf_len hG.ok y.1
              omega
            refine ⟨tb, _, rfl, SqT.of htb, rfl, _, _, rfl, _, _, rfl, rfl, ?_⟩
            nested_keys
            refine ⟨mb, _, _, _, rfl, rfl, SqT.of hmb, rfl, ?_⟩
            refine ⟨db, y.2, S.words, qq.1.1, rfl, t57 _ _ (t45 _ _ db4), hG.ok.voc, yok.pw, yok.sub, mo.word, Nat.le_trans hG.ok.few2 (by decide), fun d8 H8 s8 hd8 => ?_⟩
            nested_keys
            refine ⟨by show 2 ≤ sizeLine; decide, fun ah hah => ?_⟩
            have s9 : Same H7 (upd H8 ah (.tup [.ref tt, .ref d8])) := s8.put (s8.none hah)
            have hr9 := s9 _ _ hr7
            nested_keys
            refine ⟨.inl ⟨rfl, _, SqL.of hr9⟩, ?_⟩
            nested_keys
            refine ⟨by show 2 ≤ sizeLine; decide, fun rt hrt => ?_⟩
            have sA : Same H7 (upd (upd H8 ah (.tup [.ref tt, .ref d8])) rt (.tup [.ref mb, .ref ah])) := s9.put (s9.none hrt)
            have kyA : Ky (upd (upd H8 ah (.tup [.ref tt, .ref d8])) rt (.tup [.ref mb, .ref ah])) (dNod (qq.2, insW S.words y.2 qq.1.1)) ah := by
              have e1 : upd (upd H8 ah (.tup [.ref tt, .ref d8])) rt (.tup [.ref mb, .ref ah]) ah = some (.tup [.ref tt, .ref d8]) := by
                rw [upd_ne (fun z => by rw [← z, upd_same] at hrt; cases hrt)]
                exact upd_same
              refine ⟨.ofPair e1 (Rk.ofInts (sA _ _ htt)) (Rk.ofStrs ?_), dNod_depth _⟩
              have e2 : upd H8 ah (.tup [.ref tt, .ref d8]) d8 = some (.tup ((insW S.words y.2 qq.1.1).map .str)) := by rw [upd_ne (ne_of_none hd8 hah)]; exact hd8
              rw [upd_ne (ne_of_none e2 hrt)]
              exact e2
            have rtA : Rk (upd (upd H8 ah (.tup [.ref tt, .ref d8])) rt (.tup [.ref mb, .ref ah])) (dRow (qq.1, (qq.2, insW S.words y.2 qq.1.1))) (.ref rt) := .tup upd_same (.cons (sA.rk hm1) (.cons kyA.1 .nil))
            generalize upd (upd H8 ah (.tup [.ref tt, .ref d8])) rt (.tup [.ref mb, .ref ah]) = HA at sA kyA rtA |-
            have hrA := sA _ _ hr7
            refine ⟨r, rv7, _, rfl, rfl, hrA, by rw [rr7.len]; exact line24 (m := 500) (Nat.le_trans (List.length_take_le _ _) (by omega)), ?_⟩
            have tAB : Tups HA (upd HA r (.lst (rv7 ++ [.ref rt]))) := Tups.put hrA (fun xs z => by cases z)
            have t7B := sA.tups.trans tAB
            have btB : But kw ka H (upd HA r (.lst (rv7 ++ [.ref rt]))) := (bt7.trans sA.but).put' nrH
            have GB : Gr K P w S (fun x => (N x ∨ x = wl) ∨ x = r) g kw ka (upd HA r (.lst (rv7 ++ [.ref rt]))) := (G7.same sA).upd (.inr rfl) hrA
            have hwB : upd HA r (.lst (rv7 ++ [.ref rt])) wl = some (.lst wv7) := by rw [upd_ne rw'.symm]; exact sA _ _ hw7
            have rwB := rw7.at t7B
            have mkB : Mk0 P w (upd HA r (.lst (rv7 ++ [.ref rt]))) c (W ++ F') ks' := (mk7.same sA).move tAB (upd_ne rc)
            have lnr : l ≠ r := fun z => nl (.inr z)
            have lnw : l ≠ wl := fun z => nl (.inl (.inr z))
            have hlB : upd HA r (.lst (rv7 ++ [.ref rt])) l = some (.lst lv) := by rw [upd_ne lnr]; exact sA _ _ hl7
            have rrB : Ls (upd HA r (.lst (rv7 ++ [.ref rt]))) r (((psucc S y).take (k + 1)).map dRow) := ⟨_, upd_same, by
              rw [take_snoc hq, List.map_append]
              exact (rr7.at t7B).append (.cons (rtA.at tAB) .nil)⟩
            have valsB : ∀ n ∈ W.take at_, ∃ l, l ≠ wl ∧ l ≠ r ∧ lkN ks' (dNod n) = some (.ref l) ∧ Ls (upd HA r (.lst (rv7 ++ [.ref rt]))) l ((psucc S n).map dRow) := fun n hn => by
              obtain ⟨l', e1, e2, e3, vs, e4, e5⟩ := vals7 n hn
              exact ⟨l', e1, e2, e3, vs, by rw [upd_ne e2]; exact sA _ _ e4, e5.at t7B⟩
            have kyB := kyA.at tAB
            generalize upd HA r (.lst (rv7 ++ [.ref rt])) = HB at tAB t7B btB GB hwB rwB mkB hlB rrB valsB kyB |-
            have step : ∀ G : List Nod, (∀ x ∈ W ++ F', x ∈ G) → (qq.2, insW S.words y.2 qq.1.1) ∈ G → ∀ q ∈ (psucc S y).take (k + 1), q.2 ∈ G := fun G h1' h2' q hq' => by
              rw [take_snoc hq, List.mem_append, List.mem_singleton] at hq'
              rcases hq' with hq' | rfl
              · exact h1' _ (in7 q hq')
              · exact h2'
            nested_keys
            refine ⟨dNod (qq.2, insW S.words y.2 qq.1.1), ah, c, ks', rfl, rfl, kyB, ⟨.of mkB.at_, mkB.kys⟩, ?_⟩
            cases e : (lkN ks' (dNod (qq.2, insW S.words y.2 qq.1.1))).isSome with
            | true =>
              nested_keys
              exact ⟨F', ks', hlB, t57.trans t7B, btB, GB, ⟨_, hwB, rwB⟩, mkB, nd7, ok7, rrB, step _ (fun _ h => h) (mkB.isIn.mp e), valsB, _, _, _, rfl⟩
            | false =>
              have no : (qq.2, insW S.words y.2 qq.1.1) ∉ W ++ F' := fun z => by rw [mkB.isIn.mpr z] at e; cases e
              nested_keys
              refine ⟨c, ks', rfl, ⟨.of mkB.at_, mkB.kys⟩, ?_⟩
              nested_keys
              rw [decide_eq_false (fun z => by injection z with z; rw [mkB.len] at z; omega)]
              nested_keys
              refine ⟨Nat.zero_le _, fun z hz => ?_⟩
              have sC : Same HB (upd HB z (.lst [])) := Same.new hz
              have mkC := mkB.same sC
              nested_keys
              refine ⟨c, ah, ks', dNod (qq.2, insW S.words y.2 qq.1.1), rfl, rfl, mkC.at_, mkC.kys, kyB.at sC.tups, by rw [mkC.len]; exact line24 (m := 432) l432, ?_⟩
              have sqD : Seqs (upd HB z (.lst [])) (upd (upd HB z (.lst [])) c (dNO P w c (putN ks' (dNod (qq.2, insW S.words y.2 qq.1.1)) ah (.ref z)))) := Seqs.ext mkC.at_ dNO_tup dNO_lst
              have mkD := mkC.new no (kyB.at sC.tups) (.ref z)
              have hwD := sqD.l _ _ (sC _ _ hwB)
              have GD : Gr K P w S (fun x => (N x ∨ x = wl) ∨ x = r) g kw ka (upd (upd HB z (.lst [])) c (dNO P w c (putN ks' (dNod (qq.2, insW S.words y.2 qq.1.1)) ah (.ref z)))) := (GB.same sC).put mkC.at_ ckw cka
              have btD : But kw ka H (upd (upd HB z (.lst [])) c (dNO P w c (putN ks' (dNod (qq.2, insW S.words y.2 qq.1.1)) ah (.ref z)))) := (btB.trans sC.but).put' ncH
              have kyD := (kyB.at sC.tups).at sqD.t
              have sqBD : Seqs HB (upd (upd HB z (.lst [])) c (dNO P w c (putN ks' (dNod (qq.2, insW S.words y.2 qq.1.1)) ah (.ref z)))) := sC.seqs.trans sqD
              nested_keys
              refine ⟨.inl ⟨rfl, _, SqL.of hwD⟩, ?_⟩
              nested_keys
              refine ⟨wl, wv7, _, rfl, rfl, hwD, by rw [rw7.len]; exact line24 (m := 432) l432, ?_⟩
              have tDE := Tups.put (o := .lst (wv7 ++ [.ref ah])) hwD (fun xs z => by cases z)
              refine ⟨F' ++ [(qq.2, insW S.words y.2 qq.1.1)], putN ks' (dNod (qq.2, insW S.words y.2 qq.1.1)) ah (.ref z), by rw [upd_ne lnw]; exact sqBD.l _ _ hlB, ((t57.trans t7B).trans sqBD.t).trans tDE, btD.put' nwH, GD.upd (.inl (.inr rfl)) hwD, ⟨_, upd_same, ?_⟩, ?_, ?_, ?_, ?_, ?_, fun n hn => ?_, _, _, _, rfl⟩
              · rw [← List.append_assoc, List.map_append]
                exact ((rwB.at sqBD.t).at tDE).append (.cons (kyD.1.at tDE) .nil)
              · rw [← List.append_assoc]
                exact mkD.move tDE (upd_ne cw)
              · rw [← List.append_assoc, List.nodup_append]
                exact ⟨nd7, by simp, fun a ha b hb e' => by
                  rw [List.mem_singleton] at hb
                  rw [hb] at e'
                  exact no (e' ▸ ha)⟩
              · rw [← List.append_assoc]
                intro x hx
                rw [List.mem_append (s := W ++ F'), List.mem_singleton] at hx
                rcases hx with hx | rfl
                · exact ok7 x hx
                · exact ⟨nok, nre⟩
              · obtain ⟨vs, e4, e5⟩ := rrB
                exact ⟨vs, by rw [upd_ne rw']; exact sqBD.l _ _ e4, (e5.at sqBD.t).at tDE⟩
              · rw [← List.append_assoc]
                exact step _ (fun _ h => List.mem_append_left _ h) (by simp)
              · obtain ⟨l', e1, e2, e3, vs, e4, e5⟩ := valsB n hn
                refine ⟨l', e1, e2, ?_, vs, by rw [upd_ne e1]; exact sqBD.l _ _ e4, (e5.at sqBD.t).at tDE⟩
                rw [lkN_put, if_neg (fun z => no (by rw [← dNod_inj z]; exact List.mem_append_left _ (List.mem_of_mem_take hn)))]
                exact e3
          · rintro σ2 H6 ⟨F', ks', h1, h2, h3, h4, h5, h6, h7, h8, h9, h10, h11, k⟩
            have el : lv.length = (psucc S y).length := by rw [rl5.len]; unfold psucc; rw [List.length_map]
            rw [el, List.take_length] at h9 h10
            exact ⟨F', ks', h3, h4, h5, h6, h7, h8, h2 _ _ (t45 _ _ sb4), h2 _ _ (t45 _ _ db4), h9, h10, fun n hn => let ⟨l', a, b, c, d⟩ := h11 n hn; ⟨l', a, c, d⟩, k⟩
        · rintro σ2 H6 ⟨F', ks', bt6, G6, hw6, mk6, nd6, ok6, hsb6, hdb6, hr6, in6, vals6, v9, v10, v11, rfl⟩
          nested_keys
          refine ⟨by show 2 ≤ sizeLine; decide, fun t ht => ?_⟩
          have s7 : Same H6 (upd H6 t (.tup [.ref sb, .ref db])) := Same.new ht
          have mk7 := mk6.same s7
          have ky7 : Ky (upd H6 t (.tup [.ref sb, .ref db])) (dNod y) t := ⟨.ofPair upd_same (Rk.ofInts (s7 _ _ hsb6)) (Rk.ofStrs (s7 _ _ hdb6)), dNod_depth _⟩
          have l432 : (W ++ F').length ≤ 432 := Nat.le_trans (nodup_le _ _ nd6 fun x hx => (ok6 x hx).1.mem hG.ok) (length_allNod hG.ok)
          have yin : y ∈ W ++ F' := List.mem_append_left _ hyW
          refine ⟨c, t, ks', dNod y, rfl, rfl, mk7.at_, mk7.kys, ky7, by rw [mk7.len]; exact line24 (m := 432) l432, ?_⟩
          have sq8 : Seqs (upd H6 t (.tup [.ref sb, .ref db])) (upd (upd H6 t (.tup [.ref sb, .ref db])) c (dNO P w c (putN ks' (dNod y) t (.ref r)))) := Seqs.ext mk7.at_ dNO_tup dNO_lst
          have sq68 := s7.seqs.trans sq8
          have G8 : Gr K P w S (fun x => (N x ∨ x = wl) ∨ x = r) g kw ka (upd (upd H6 t (.tup [.ref sb, .ref db])) c (dNO P w c (putN ks' (dNod y) t (.ref r)))) := (G6.same s7).put mk7.at_ ckw cka
          refine ⟨m - 1, by omega, W ++ F', at_ + 1, putN ks' (dNod y) t (.ref r), by omega, by rw [List.length_append]; omega, (bt6.trans s7.but).put' ncH, G8.less fun x => .inl, hw6.at sq68, ⟨upd_same, kys_put sq8.t mk7.kys (ky7.at sq8.t) _, ?_⟩, nd6, ok6, List.mem_append_left _ m0, ?_, _, _, _, _, _, _, rfl⟩
          · rw [keys_put, mk7.keys, if_pos (mem_nods.mpr yin)]
          · intro n hn
            rw [List.take_append_of_le_length (by omega), take_snoc hy, List.mem_append, List.mem_singleton] at hn
            have ynt := nodup_take ndW hy
            rcases hn with hn | rfl
            · obtain ⟨hin, _⟩ := vals n hn
              obtain ⟨l', e1, e2, e3⟩ := vals6 n hn
              refine ⟨fun q hq => List.mem_append_left _ (hin q hq), l', e1, ?_, e3.at sq68⟩
              rw [lkN_put, if_neg (fun z => ynt (by rw [← dNod_inj z]; exact hn))]
              exact e2
            · refine ⟨in6, r, rw', by rw [lkN_put, if_pos rfl], hr6.at sq68⟩
      · have c' : W.length ≤ at_ := by rw [← rwv.len]; simpa using cc
        have eW : W.take at_ = W := List.take_of_length_le c'
        rw [eW] at vals
        refine ⟨bt, G3.less fun x => .inl, ⟨W, ks, mk.at_, ⟨mk.kys, mk.keys, ndW, fun n hn => let ⟨_, l, _, h1, h2⟩ := vals n hn; ⟨l, h1, h2⟩⟩, fun n => ⟨fun hn => (okW n hn).2, fun r => ?_⟩⟩, _, _, _, _, _, _, _, _, _, _, _, rfl⟩
        have go : ∀ a b, Rch (Pe S) a b → a ∈ W → b ∈ W := by
          intro a b r
          induction r with
          | refl => exact id
          | step e _ ih =>
            intro ha
            obtain ⟨mm, hmm⟩ := e
            exact ih ((vals _ ha).1 _ hmm)
        exact go _ _ r m0
  · rintro σ2 H3 ⟨bt, G3, ⟨ns, ks, h1, h2, h3⟩, u0, u1, u2, u4, u5, u6, u7, u8, u9, u10, u11, rfl⟩
    nested_keys
    exact q c ns ks _ bt G3 h1 ckw cka h2 h3
end NS
/-! G21: the walks of quiet_graph, fair_nodes. -/
namespace NS
open PySem PySem.Spec PyProof.Rows L2
local macro_rules | `(tactic| nested_keys) => `(tactic| repeat (first | refine ⟨_, rfl, ?_⟩ | refine ⟨_, _, rfl, rfl, ?_⟩ | refine ⟨rfl, ?_⟩ | with_reducible refine iteT ?_ | with_reducible refine iteF ?_))
variable {N : Addr → Prop} {P : Program} {w : World} {K : PySem.W.Frag} {mg : Str → Option Value} {base : Heap}
/-- the successors of the same done words -/
def quS (sc : Succ) : Succ := fun n => (sc n).filter fun q => decide (q.2.2 = n.2)
theorem fine_words {S : SysM} (g : SysG S) {d : List Str} (h : ∀ x ∈ d, x ∈ S.words) : Fine (dS d) := Fine.tup (fun k hk => by
  obtain ⟨x, hx, rfl⟩ := List.mem_map.mp hk
  exact Fine.text (name_strOk (g.name (h x hx)))) fun k hk => by
  obtain ⟨x, hx, rfl⟩ := List.mem_map.mp hk
  simp [NestedKey.depth]
def sp_quiet_graph (P : Program) (w : World) : Sp := fun vs H Q _ => ∃ (a : Addr) (ns : List Nod) (sc : Succ) (ks : List Ent) (S : SysM), vs = [.ref a] ∧ H a = some (dNO P w a ks) ∧ Gph H ns sc ks ∧ ns.length ≤ 500 ∧ (∀ n ∈ ns, (sc n).length ≤ 500) ∧ SysG S ∧ (∀ n ∈ ns, ∀ x ∈ n.2, x ∈ S.words) ∧ (∀ n ∈ ns, ∀ q ∈ sc n, q.2 ∈ ns) ∧
  ∀ (c : Addr) (es : List Ent) (H' : Hp), H c = none → Same H H' → H' c = some (dNO P w c es) → Gph H' ns (quS sc) es → Q (.ref c) H'
theorem ok_quiet_graph (T : Tx K mg) : C8.Cal P w K mg base 1 "quiet_graph" (sp_quiet_graph P w) [] := cal_quiet_graph T (fun vs H Q E ⟨_, _, _, _, _, h, _⟩ => by rw [h]; rfl) fun cdv A outer s H vs Q E hr h => by
  refine ⟨_, (pss_cons (ps_set (i := 1) sc_quiet_graph.nd rfl (Or.inl rfl) pe_newN)
    (C8.pss_cut (ps_lock (ps_for PassesOwn.never rfl (pi_keysN (pv 0)) (pg_name (i := 2) sc_quiet_graph.nd rfl (Or.inr rfl))
      (pss_one (ps_asg (pe_lc (own := [("move", 3), ("ahead", 4)]) (by rfl) sc_quiet_graph.nd (pi_list (pe_ix (ix_dN (u9 hr)) (pv 0) (pv 2) (fun _ _ => rfl))) (blkOk_by (own := [("move", 3), ("ahead", 4)]) (N := n_quiet_graph) (sc := defScope s_quiet_graph) (by decide +kernel)) (fun _ _ _ _ _ => pg_tupB (n := 2) (K := K) rfl rfl (pgs_cons (pg_name (i := 3) sc_quiet_graph.nd rfl (Or.inl rfl)) (pgs_cons (pg_name (i := 4) sc_quiet_graph.nd rfl (Or.inl rfl)) pgs_nil))) (fun _ _ _ _ _ => pts_one (pt_cmpR (op_eqDB (K := K) rfl hr.units) (pe_ix (ix_tupB (K := K) rfl) (pv 4) pe_int (fun _ _ => rfl)) (pe_ix (ix_tupB (K := K) rfl) (pv 2) pe_int (fun _ _ => rfl)) (nomark _))) (fun _ _ _ _ _ => (pe_tup (pa_cons (pv 3) (pa_cons (pv 4) pa_nil))))) (pg_sub (pv 1) (pv 2) (set_dN (u9 hr)))))))
    (pss_one (ps_ret (pv 1))))), ?_⟩
  obtain ⟨a, ns, sc, ks, S, rfl, ha, G, few, deg, hG, wd, cl, q⟩ := h
  intro c hc
  have ac : a ≠ c := fun z => by rw [← z, ha] at hc; cases hc
  have s1 : Same H (upd H c (dNO P w c [])) := Same.new hc
  nested_keys
  refine ⟨fun σ' H' => Same H H' ∧ (∃ es, H' c = some (dNO P w c es) ∧ Gph H' ns (quS sc) es) ∧ ∃ u2 u3 u4, σ' = [some (V.ref a), some (V.ref c), u2, u3, u4], ?_, ?_⟩
  · refine ⟨a, dNO P w a ks, s1 _ _ ha, trivial, fun od => ?_⟩
    have GL : Gph (upd H a (.frz od (dNO P w a ks))) ns sc ks := G.at (seqs_lock ha)
    have la : (upd H a (.frz od (dNO P w a ks))) a = some (.frz od (dNO P w a ks)) := upd_same
    have fin : ∀ H', Same (upd H a (.frz od (dNO P w a ks))) H' → Same H (upd H' a (dNO P w a ks)) := fun H' z => Same.lock ha z
    have cL : upd H a (.frz od (dNO P w a ks)) c = none := (lock_none ha).mpr hc
    have s2 : Same (upd H a (.frz od (dNO P w a ks))) (upd (upd H c (dNO P w c [])) a (.frz od (dNO P w a ks))) := lock_same s1
    generalize upd H a (.frz od (dNO P w a ks)) = HL at GL la fin cL s2 |-
    have mk0 : Mk0 P w (upd (upd H c (dNO P w c [])) a (.frz od (dNO P w a ks))) c [] [] := ⟨by rw [upd_ne ac.symm]; exact upd_same, by simp, rfl⟩
    nested_keys
    refine ⟨a, od, ks, rfl, upd_same, for_it (walk_keysN ks) (fun i σ' H' => Same HL H' ∧ (∃ es, Mk0 P w H' c (ns.take i) es ∧ ∀ n ∈ ns.take i, ∃ l, lkN es (dNod n) = some (.ref l) ∧ Ls H' l ((quS sc n).map dRow)) ∧ ∃ u2 u3 u4, σ' = [some (V.ref a), some (V.ref c), u2, u3, u4]) ⟨s2, ⟨[], mk0, by simp⟩, _, _, _, rfl⟩ (fun _ _ _ _ k => k.1 _ _ la) ?_ ?_⟩
    · rintro i v σ2 H2 H3 hi ⟨sm, ⟨es, mk, vals⟩, u2, u3, u4, rfl⟩ ⟨rfl, en, hen, rfl⟩
      obtain ⟨n, hn1, hn2⟩ := GL.key hen
      have nns := List.mem_of_getElem? hn1
      have kn0 : Ky HL (dNod n) en.2.1 := by
        have := GL.kys en (List.mem_of_getElem? hen)
        rw [hn2] at this
        exact this
      obtain ⟨nb, c1, c2, e, hnb, hc1, hc2⟩ := kn0.1.nod
      cases e
      obtain ⟨l, g1, rv, g3, g4⟩ := GL.rows n nns
      nested_keys
      refine ⟨a, en.2.1, ks, dNod n, _, rfl, rfl, ⟨.inr ⟨od, sm _ _ la⟩, (GL.at sm.seqs).kys⟩, kn0.at sm.tups, g1, ?_⟩
      nested_keys
      refine ⟨⟨_, SqL.of (sm _ _ g3)⟩, fun D hD => ?_⟩
      refine lc_it (walk_li rv) (fun k H4 => Same H3 H4 ∧ Ls H4 D ((((sc n).take k).filter fun q => decide (q.2.2 = n.2)).map dRow)) ⟨Same.new hD, ⟨[], upd_same, .nil⟩⟩ (fun _ _ _ k => SqL.of (k.1 _ _ (sm _ _ g3))) ?_ ?_
      · rintro k x H4 H5 hk ⟨sm4, dv, hD4, rD4⟩ ⟨rfl, hx⟩
        obtain ⟨qq, h1, h2⟩ := g4.mapV hx
        have qm := List.mem_of_getElem? h1
        have sH4 := Same.trans' sm sm4
        obtain ⟨tb, x1, y1, rfl, htb, h3, h4⟩ := (sH4.rk h2).row
        obtain ⟨y1', d1, d2, e, hy1, hd1, hd2⟩ := h4.1.nod
        cases e
        refine ⟨tb, _, rfl, SqT.of htb, rfl, _, _, rfl, _, _, rfl, rfl, ?_⟩
        nested_keys
        refine ⟨y1, _, _, _, rfl, rfl, SqT.of hy1, rfl, ?_⟩
        nested_keys
        refine ⟨en.2.1, _, _, _, rfl, rfl, SqT.of (sH4 _ _ hnb), rfl, ?_⟩
        have f1 : Fine (dS qq.2.2) := fine_words hG (wd qq.2 (cl n nns qq qm))
        have f2 : Fine (dS n.2) := fine_words hG (wd n nns)
        refine ⟨(dS qq.2.2).data, (dS n.2).data, (Rk.ofStrs hd2).dp, (Rk.ofStrs (sH4 _ _ hc2)).dp, f1.shaped, f2.shaped, ?_⟩
        rw [data_eq]
        nested_keys
        have ef : ((sc n).take (k + 1)).filter (fun q => decide (q.2.2 = n.2)) = ((sc n).take k).filter (fun q => decide (q.2.2 = n.2)) ++ (if qq.2.2 = n.2 then [qq] else []) := by
          rw [take_snoc h1, List.filter_append]
          by_cases e : qq.2.2 = n.2 <;> simp [e]
        refine iteD (fun ep => ?_) fun ep => ?_
        · have ep := dS_inj ep
          nested_keys
          refine ⟨by show 2 ≤ sizeLine; decide, fun t ht => ?_⟩
          have s5 : Same H5 (upd H5 t (.tup [x1, .ref y1])) := Same.new ht
          refine ⟨dv, s5 _ _ hD4, ?_, (Same.trans' sm4 s5).put hD, _, upd_same, ?_⟩
          · rw [rD4.len]
            have h1 := deg n nns
            exact line24 (m := 500) (Nat.le_trans (List.length_filter_le _ _) (Nat.le_trans (List.length_take_le' _ _) h1))
          · have tt : Tups H5 (upd (upd H5 t (.tup [x1, .ref y1])) D (.lst (dv ++ [.ref t]))) := s5.tups.trans (Tups.put (s5 _ _ hD4) (fun xs z => by cases z))
            rw [ef, if_pos ep, List.map_append]
            refine (rD4.at tt).append (.cons (.tup (xs := [x1, .ref y1]) ?_ (.cons (h3.at tt) (.cons (h4.1.at tt) .nil))) .nil)
            rw [upd_ne (fun z => by rw [← z, ht] at hD4; cases hD4)]
            exact upd_same
        · have ep : ¬ qq.2.2 = n.2 := fun z => ep (by rw [z])
          refine ⟨sm4, dv, hD4, ?_⟩
          rw [ef, if_neg ep, List.append_nil]
          exact rD4
      · rintro H4 ⟨sm4, hD4⟩
        rw [g4.len, List.take_length] at hD4
        have mk4 := mk.same sm4
        have kn4 : Ky H4 (dNod n) en.2.1 := kn0.at (Same.trans' sm sm4).tups
        nested_keys
        refine ⟨c, en.2.1, es, dNod n, rfl, rfl, mk4.at_, mk4.kys, kn4, by rw [mk4.len]; exact line24 (m := 500) (Nat.le_trans (List.length_take_le' _ _) few), ?_⟩
        have sq : Seqs H4 (upd H4 c (dNO P w c (putN es (dNod n) en.2.1 (.ref D)))) := Seqs.ext mk4.at_ dNO_tup dNO_lst
        have nn := nodup_take GL.nd hn1
        refine ⟨(Same.trans' sm sm4).put cL, ⟨putN es (dNod n) en.2.1 (.ref D), by rw [take_snoc hn1]; exact mk4.new nn kn4 _, fun m hm => ?_⟩, _, _, _, rfl⟩
        rw [take_snoc hn1, List.mem_append, List.mem_singleton] at hm
        rw [lkN_put]
        rcases hm with hm | hm
        · obtain ⟨l', e1, e2⟩ := vals m hm
          exact ⟨l', by rw [if_neg (fun z => nn (by rw [← dNod_inj z]; exact hm))]; exact e1, (e2.same sm4).at sq⟩
        · rw [hm, if_pos rfl]
          exact ⟨D, rfl, hD4.at sq⟩
    · rintro σ2 H2 ⟨sm, ⟨es, mk, vals⟩, u2, u3, u4, rfl⟩
      rw [GL.len, List.take_length] at mk vals
      have sq : Seqs H2 (upd H2 a (dNO P w a ks)) := Seqs.ext (sm _ _ la) (fun xs z => by cases z) (fun xs z => by cases z)
      refine ⟨sm _ _ la, fin _ sm, ⟨es, by rw [upd_ne ac.symm]; exact mk.at_, ⟨fun e he => (mk.kys e he).at sq.t, mk.keys, G.nd, fun n hn => let ⟨l, h1, h2⟩ := vals n hn; ⟨l, h1, h2.at sq⟩⟩⟩, _, _, _, rfl⟩
  · rintro σ2 H2 ⟨sm, ⟨es, h1, h2⟩, u2, u3, u4, rfl⟩
    nested_keys
    exact q c es _ hc sm h1 h2
end NS
/-! G22: the walk of fair_nodes. -/
namespace NS
open PySem PySem.Spec PyProof.Rows L2
local macro_rules | `(tactic| nested_keys) => `(tactic| repeat (first | refine ⟨_, rfl, ?_⟩ | refine ⟨_, _, rfl, rfl, ?_⟩ | refine ⟨rfl, ?_⟩ | with_reducible refine iteT ?_ | with_reducible refine iteF ?_))
variable {N : Addr → Prop} {P : Program} {w : World} {K : PySem.W.Frag} {mg : Str → Option Value} {base : Heap}
theorem eg_qe (S : SysM) : Eg (quS (psucc S)) = Qe S := by
  funext a b
  refine propext ⟨fun ⟨m, h⟩ => ?_, fun ⟨m, h1, h2⟩ => ⟨m, ?_⟩⟩
  · obtain ⟨h1, h2⟩ := List.mem_filter.mp h
    exact ⟨m, h1, of_decide_eq_true h2⟩
  · exact List.mem_filter.mpr ⟨h1, decide_eq_true h2⟩
theorem idleAt_iff {S : SysM} {part : List Nod} {d : Int} : IdleAt S part (inS (quS (psucc S)) part) d ↔ ((∀ x ∈ part, AbleM S d x.1) ∧ ¬ ∃ x ∈ part, ∃ m y, (m, y) ∈ psucc S x ∧ y.2 = x.2 ∧ y ∈ part ∧ TakesM m d) := by
  unfold IdleAt MovedIn
  have e : (∃ n ∈ part, ∃ q ∈ inS (quS (psucc S)) part n, TakesM q.1 d) ↔ ∃ x ∈ part, ∃ m y, (m, y) ∈ psucc S x ∧ y.2 = x.2 ∧ y ∈ part ∧ TakesM m d := by
    constructor
    · rintro ⟨n, hn, q, hq, t⟩
      obtain ⟨h1, h2⟩ := List.mem_filter.mp hq
      obtain ⟨h3, h4⟩ := List.mem_filter.mp h1
      exact ⟨n, hn, q.1, q.2, h3, of_decide_eq_true h4, of_decide_eq_true h2, t⟩
    · rintro ⟨n, hn, m, y, h1, h2, h3, t⟩
      exact ⟨n, hn, (m, y), List.mem_filter.mpr ⟨List.mem_filter.mpr ⟨h1, decide_eq_true h2⟩, decide_eq_true h3⟩, t⟩
  rw [e]
theorem psucc_len {S : SysM} (o : SysOk S) (n : Nod) : (psucc S n).length ≤ 500 := by
  unfold psucc
  rw [List.length_map]
  exact waysOf_len o n.1
def sp_fair_nodes (K : PySem.W.Frag) (P : Program) (w : World) : Sp := fun vs H Q _ => ∃ (g kw ka b a : Addr) (S : SysM) (ns : List Nod) (ks : List Ent) (N : Addr → Prop), vs = [.ref g, .ref b, .ref a] ∧ (∀ x, N x → H x ≠ none) ∧ Gr K P w S N g kw ka H ∧ SysG S ∧ H b = some (.tup (S.dil.map .int)) ∧
  H a = some (dNO P w a ks) ∧ Gph H ns (psucc S) ks ∧ (∀ n ∈ ns, NodOk S n) ∧ (∀ n ∈ ns, ∀ q ∈ psucc S n, q.2 ∈ ns) ∧ a ≠ kw ∧ a ≠ ka ∧
  ∀ (c : Addr) (Fs : List Nod) (es : List Ent) (H' : Hp), H c = none → But kw ka H H' → Gr K P w S N g kw ka H' → Mk0 P w H' c Fs es → Fs.Nodup → (∀ n, n ∈ Fs ↔ n ∈ ns ∧ FairN S n) → Q (.ref c) H'
theorem ok_fair_nodes (T : Tx K mg) : C8.Cal P w K mg base 6 "fair_nodes" (sp_fair_nodes K P w) [] := cal_fair_nodes T (fun vs H Q E ⟨_, _, _, _, _, _, _, _, _, h, _⟩ => by rw [h]; rfl) fun cdv A outer s H vs Q E hr h => by
  refine ⟨_, (pss_cons (ps_set (i := 3) sc_fair_nodes.nd rfl (Or.inl rfl) (C8.pe_c (ok_quiet_graph T) hr (by decide) (by rfl) (pa_cons (pv 2) pa_nil)))
    (pss_cons (ps_set (i := 4) sc_fair_nodes.nd rfl (Or.inl rfl) pe_newN)
    (C8.pss_cut (ps_for PassesOwn.never rfl (pi_list (C8.pe_c (ok_parts_of T) hr (by decide) (by rfl) (pa_cons (pv 3) pa_nil))) (pg_name (i := 5) sc_fair_nodes.nd rfl (Or.inl rfl))
      (pss_one (ps_if (pt_cmpR op_isN (C8.pe_c (ok_idle_hand T) hr (by decide) (by rfl) (pa_cons (pv 0) (pa_cons (pv 1) (pa_cons (C8.pe_c (ok_inside T) hr (by decide) (by rfl) (pa_cons (pv 3) (pa_cons (pv 5) pa_nil))) pa_nil)))) pe_non (nomark _)) (pss_one (ps_for PassesOwn.never rfl (pi_list (pv 5)) (pg_name (i := 6) sc_fair_nodes.nd rfl (Or.inl rfl))
      (pss_one (ps_asg pe_bl (pg_sub (pv 4) (pv 6) (set_dN (u9 hr))))))) pss_nil)))
    (pss_one (ps_ret (pv 4)))))), ?_⟩
  obtain ⟨g, kw, ka, b, a, S, ns, ks, N, rfl, hN, G, hG, hb, ha, GP, nok, cl, n1, n2, q⟩ := h
  have l432 : ns.length ≤ 432 := Nat.le_trans (nodup_le _ _ GP.nd fun x hx => (nok x hx).mem hG.ok) (length_allNod hG.ok)
  nested_keys
  refine ⟨a, ns, psucc S, ks, S, rfl, ha, GP, by omega, fun n _ => psucc_len hG.ok n, hG, fun n hn => (nok n hn).sub, cl, fun qa qs H1 nq s1 hqa Gq => ?_⟩
  intro c hc
  have ncH : H c = none := s1.none hc
  have s2 : Same H1 (upd H1 c (dNO P w c [])) := Same.new hc
  have mk2 : Mk0 P w (upd H1 c (dNO P w c [])) c [] [] := ⟨upd_same, by simp, rfl⟩
  have hqa2 := s2 _ _ hqa
  have Gq2 := Gq.at s2.seqs
  have G1 := G.same s1
  obtain ⟨ckw, cka⟩ := G1.kwka hc
  obtain ⟨qkw, qka⟩ := G.kwka nq
  have G2 := G1.same s2
  have sH2 := Same.trans' s1 s2
  nested_keys
  have clq : ∀ n ∈ ns, ∀ q ∈ quS (psucc S) n, q.2 ∈ ns := fun n hn q hq => cl n hn q (List.mem_filter.mp hq).1
  have dgq : ∀ n ∈ ns, (quS (psucc S) n).length ≤ 500 := fun n hn => Nat.le_trans (List.length_filter_le _ _) (psucc_len hG.ok n)
  refine ⟨fun σ' H' => But kw ka H H' ∧ Gr K P w S N g kw ka H' ∧ (∃ Fs es, Mk0 P w H' c Fs es ∧ Fs.Nodup ∧ ∀ n, n ∈ Fs ↔ n ∈ ns ∧ FairN S n) ∧ ∃ u5 u6, σ' = [some (V.ref g), some (V.ref b), some (V.ref a), some (V.ref qa), some (V.ref c), u5, u6], ?_, ?_⟩
  · nested_keys
    refine ⟨qa, ns, _, qs, rfl, hqa2, Gq2, by omega, dgq, clq, fun p PP H3 s3 hPP okP allP => ?_⟩
    obtain ⟨rs, hp3, pr3⟩ := hPP
    have lrs := pairedLen pr3
    have hqa3 := s3 _ _ hqa2
    have Gq3 := Gq2.at s3.seqs
    have sH3 := Same.trans' sH2 s3
    have sq3 := s3.seqs
    have pE : ∀ part ∈ PP, ∀ x ∈ part, ∀ y, y ∈ part ↔ Both (Qe S) x y := fun part hp x hx y => by
      have := (okP part hp).both x hx y
      rwa [eg_qe] at this
    nested_keys
    refine ⟨⟨_, SqL.of hp3⟩, for_it (walk_li (rs.map V.ref)) (fun i σ' H' => But kw ka H H' ∧ Gr K P w S N g kw ka H' ∧ H' qa = some (dNO P w qa qs) ∧ Seqs H3 H' ∧ (∃ Fs es, Mk0 P w H' c Fs es ∧ Fs.Nodup ∧ ∀ n, n ∈ Fs ↔ ∃ part ∈ PP.take i, n ∈ part ∧ FairN S n) ∧ ∃ u5 u6, σ' = [some (V.ref g), some (V.ref b), some (V.ref a), some (V.ref qa), some (V.ref c), u5, u6]) ?_ (fun _ _ _ _ k => SqL.of (k.2.2.2.1.l _ _ hp3)) ?_ ?_⟩
    · exact ⟨sH3.but, G2.same s3, hqa3, Seqs.refl, ⟨[], [], mk2.same s3, by simp, by simp⟩, _, _, rfl⟩
    · rintro i v σ2 H4 H5 hi ⟨bt, G5, hqa5, sq5, ⟨Fs, es, mk5, ndF, mF⟩, u5, u6, rfl⟩ ⟨rfl, hv⟩
      rw [List.getElem?_map] at hv
      obtain ⟨r, hr', rfl⟩ := Option.map_eq_some_iff.mp hv
      obtain ⟨part, hpt, rp, hls⟩ := pairedAt pr3 i r hr'
      have pm := List.mem_of_getElem? hpt
      have po := okP part pm
      have lp : part.length ≤ 500 := by
        have := nodup_le _ _ po.nd po.sub
        omega
      have Gq5 := Gq3.at sq5
      have hls5 := hls.at sq5
      nested_keys
      refine ⟨qa, r, ns, quS (psucc S), qs, part, rfl, hqa5, Gq5, dgq, lp, hls5, po.nd, po.sub, fun d ds H6 nd6 s6 hd6 Gd6 => ?_⟩
      obtain ⟨dkw, dka⟩ := G5.kwka nd6
      have G6 := G5.same s6
      have bt6 := bt.trans s6.but
      have lens : ∀ n ∈ part, ∀ q ∈ inS (quS (psucc S)) part n, q.1.2.length = S.hands.length := fun n hn q hq => by
        have h1 := (List.mem_filter.mp (List.mem_filter.mp hq).1).1
        exact ((mem_psucc (nok n (po.sub n hn)).st.len).mp h1).1.len
      refine ⟨g, kw, ka, b, d, S, S.dil, part, inS (quS (psucc S)) part, ds, N, rfl, Gr.live hN bt6 G6, G6, hG, G.keep bt6 hb (fun q z => by cases z), hG.ok.dil, hd6, Gd6, lp, fun n hn => (nok n (po.sub n hn)).st, lens, dkw, dka, fun v H7 bt7 G7 hv => ?_⟩
      have sq67 := G6.seqs bt7
      have sq7 := (sq5.trans s6.seqs).trans sq67
      have hqa7 := bt7 _ _ qkw qka (s6 _ _ hqa5)
      have mk7 : Mk0 P w H7 c Fs es := (mk5.same s6).move sq67.t (by rw [bt7 _ _ ckw cka (mk5.same s6).at_]; exact (mk5.same s6).at_.symm)
      have bt8 := bt6.trans bt7
      have fair : ∀ n ∈ part, (FairN S n ↔ ∀ d ∈ S.dil, ¬ IdleAt S part (inS (quS (psucc S)) part) d) := fun n hn => by
        rw [fair_iff hG.ok (nok n (po.sub n hn)) (pE part pm n hn)]
        exact ⟨fun h d hd z => h d hd (idleAt_iff.mp z), fun h d hd z => h d hd (idleAt_iff.mpr z)⟩
      have nx : ∀ n, (∃ p ∈ PP.take (i + 1), n ∈ p ∧ FairN S n) ↔ (∃ p ∈ PP.take i, n ∈ p ∧ FairN S n) ∨ (n ∈ part ∧ FairN S n) := fun n => by
        rw [take_snoc hpt]
        constructor
        · rintro ⟨p, h1, h2⟩
          rw [List.mem_append, List.mem_singleton] at h1
          rcases h1 with h1 | rfl
          · exact .inl ⟨p, h1, h2⟩
          · exact .inr h2
        · rintro (⟨p, h1, h2⟩ | h2)
          · exact ⟨p, List.mem_append_left _ h1, h2⟩
          · exact ⟨part, by simp, h2⟩
      nested_keys
      rcases hv with ⟨rfl, no⟩ | ⟨d', hd', rfl, id'⟩
      · have isF : ∀ n ∈ part, FairN S n := fun n hn => (fair n hn).mpr no
        have apart : ∀ n ∈ part, n ∉ Fs ∨ ∃ p ∈ PP.take i, n ∈ p := fun n hn => by
          by_cases z : n ∈ Fs
          · obtain ⟨p, h1, h2, _⟩ := (mF n).mp z
            exact .inr ⟨p, h1, h2⟩
          · exact .inl z
        nested_keys
        obtain ⟨pv, hpv, rpv⟩ := hls.at sq7
        refine ⟨⟨_, SqL.of hpv⟩, for_it (walk_li pv) (fun k σ' H' => But kw ka H H' ∧ Gr K P w S N g kw ka H' ∧ H' qa = some (dNO P w qa qs) ∧ Seqs H7 H' ∧ (∃ Fs' es', Mk0 P w H' c Fs' es' ∧ Fs'.Nodup ∧ ∀ n, n ∈ Fs' ↔ n ∈ Fs ∨ n ∈ part.take k) ∧ ∃ u6, σ' = [some (V.ref g), some (V.ref b), some (V.ref a), some (V.ref qa), some (V.ref c), some (.ref r), u6]) ?_ (fun _ _ _ _ k => SqL.of (k.2.2.2.1.l _ _ hpv)) ?_ ?_⟩
        · exact ⟨bt8, G7, hqa7, Seqs.refl, ⟨Fs, es, mk7, ndF, by simp⟩, _, rfl⟩
        · rintro k x σ3 H8 H9 hk ⟨btk, Gk, hqk, sqk, ⟨Fs', es', mk', nd', mem'⟩, v6, rfl⟩ ⟨rfl, hx⟩
          obtain ⟨n, hn1, kn⟩ := rpv.mapV hx
          have kn9 := kn.at sqk.t
          obtain ⟨nb, _, _, rfl, _⟩ := kn9.nod
          have ky9 : Ky H9 (dNod n) nb := ⟨kn9, dNod_depth _⟩
          have npart := List.mem_of_getElem? hn1
          have sub' : ∀ x ∈ Fs', x ∈ ns := fun x hx => ((mem' x).mp hx).elim (fun z => by
            obtain ⟨p, h1, h2, _⟩ := (mF x).mp z
            exact (okP p (List.mem_of_mem_take h1)).sub x h2) fun z => po.sub x (List.mem_of_mem_take z)
          have lF' : Fs'.length ≤ ns.length := nodup_le _ _ nd' sub'
          nested_keys
          refine ⟨c, nb, es', dNod n, rfl, rfl, mk'.at_, mk'.kys, ky9, by rw [mk'.len]; exact line24 (m := 432) (by omega), ?_⟩
          have sqX : Seqs H9 (upd H9 c (dNO P w c (putN es' (dNod n) nb (.bl true)))) := Seqs.ext mk'.at_ dNO_tup dNO_lst
          have qac : qa ≠ c := fun z => by rw [← z, hqa] at hc; cases hc
          refine ⟨btk.put' ncH, Gk.put mk'.at_ ckw cka, by rw [upd_ne qac]; exact hqk, sqk.trans sqX, ⟨if n ∈ Fs' then Fs' else Fs' ++ [n], putN es' (dNod n) nb (.bl true), ⟨upd_same, kys_put sqX.t mk'.kys (ky9.at sqX.t) _, ?_⟩, ?_, fun m => ?_⟩, _, rfl⟩
          · rw [keys_put, mk'.keys]
            by_cases e : n ∈ Fs'
            · rw [if_pos (mem_nods.mpr e), if_pos e]
            · rw [if_neg (fun z => e (mem_nods.mp z)), if_neg e, List.map_append]
              rfl
          · split
            · exact nd'
            · rename_i e
              rw [List.nodup_append]
              exact ⟨nd', by simp, fun a ha b hb e' => by
                rw [List.mem_singleton] at hb
                exact e (hb ▸ e' ▸ ha)⟩
          · rw [take_snoc hn1, List.mem_append, List.mem_singleton]
            split
            · rename_i e
              rw [mem' m]
              constructor
              · exact fun h => h.imp id .inl
              · rintro (h | h | rfl)
                · exact .inl h
                · exact .inr h
                · exact (mem' _).mp e
            · rw [List.mem_append, List.mem_singleton, mem' m, or_assoc]
        · rintro σ3 H8 ⟨btk, Gk, hqk, sqk, ⟨Fs', es', mk', nd', mem'⟩, v6, rfl⟩
          rw [rpv.len, List.take_length] at mem'
          refine ⟨btk, Gk, hqk, sq7.trans sqk, ⟨Fs', es', mk', nd', fun n => ?_⟩, _, _, rfl⟩
          rw [nx, mem', mF]
          exact ⟨fun h => h.imp id fun h => ⟨h, isF n h⟩, fun h => h.imp id fun h => h.1⟩
      · nested_keys
        refine ⟨bt8, G7, hqa7, sq7, ⟨Fs, es, mk7, ndF, fun n => ?_⟩, _, _, rfl⟩
        rw [nx, mF]
        exact ⟨.inl, fun h => h.elim id fun h => absurd id' ((fair n h.1).mp h.2 d' hd')⟩
    · rintro σ2 H4 ⟨bt, G4, hq4, sq4, ⟨Fs, es, mk, nd, mem⟩, k⟩
      rw [List.length_map, lrs, List.take_length] at mem
      refine ⟨bt, G4, ⟨Fs, es, mk, nd, fun n => ?_⟩, k⟩
      rw [mem]
      constructor
      · rintro ⟨part, h1, h2, h3⟩
        exact ⟨(okP part h1).sub n h2, h3⟩
      · rintro ⟨h1, h2⟩
        obtain ⟨part, h3, h4⟩ := allP n h1
        exact ⟨part, h3, h4, h2⟩
  · rintro σ2 H2 ⟨bt, G2, ⟨Fs, es, mk, nd, mem⟩, u5, u6, rfl⟩
    nested_keys
    exact q c Fs es _ ncH bt G2 mk nd mem
end NS
/-! G23: the walks of words_of_all, words_of_some. -/
namespace NS
open PySem PySem.Spec PyProof.Rows L2
local macro_rules | `(tactic| nested_keys) => `(tactic| repeat (first | refine ⟨_, rfl, ?_⟩ | refine ⟨_, _, rfl, rfl, ?_⟩ | refine ⟨rfl, ?_⟩ | with_reducible refine iteT ?_ | with_reducible refine iteF ?_))
variable {N : Addr → Prop} {P : Program} {w : World} {K : PySem.W.Frag} {mg : Str → Option Value} {base : Heap}
theorem filt_snoc {p : Str → Prop} {l : List Str} {x : Str} (h : p x) : filt p (l ++ [x]) = filt p l ++ [x] := by simp [filt, h]
theorem filt_snoc' {p : Str → Prop} {l : List Str} {x : Str} (h : ¬ p x) : filt p (l ++ [x]) = filt p l := by simp [filt, h]
theorem filt_len {p : Str → Prop} {l : List Str} : (filt p l).length ≤ l.length := List.length_filter_le _ _
def sp_words_of_all : Sp := fun vs H Q _ => ∃ (a b : Addr) (ws : List Str) (fam : List (List Str)), vs = [.ref a, .ref b] ∧ H a = some (.tup (ws.map .str)) ∧ Ls H b (fam.map dS) ∧ ws.length ≤ 1000 ∧ fam.length ≤ 1000 ∧
  ∀ (c : Addr) (H' : Hp), H c = none → Same H H' → H' c = some (.lst ((filt (fun x => ∀ r ∈ fam, x ∈ r) ws).map .str)) → Q (.ref c) H'
theorem ok_words_of_all (T : Tx K mg) : C8.Cal P w K mg base 1 "words_of_all" sp_words_of_all [] := cal_words_of_all T (fun vs H Q E ⟨_, _, _, _, h, _⟩ => by rw [h]; rfl) fun cdv A outer s H vs Q E hr h => by
  refine ⟨_, (pss_one (ps_ret (pe_lc (own := [("word", 2)]) (g := gName 2) (by rfl) sc_words_of_all.nd (pi_tup (pv 0)) (blkOk_by (own := [("word", 2)]) (N := n_words_of_all) (sc := defScope s_words_of_all) (by decide +kernel)) (fun _ _ _ _ _ => pg_name (i := 2) sc_words_of_all.nd rfl (Or.inr rfl)) (fun _ _ _ _ _ => pts_one (pt_val (pe_callB (cr_allB (K := K) rfl rfl) (by rfl) T.f_all b_all (pa_cons (pe_lc (own := [("row", 3)]) (g := gName 3) (tt := tYes) (by rfl) sc_words_of_all.nd (pi_listB (K := K) rfl (pv 1)) (blkOk_by (own := [("row", 3)]) (N := n_words_of_all) (sc := { kind := .function, names := [(".0", .local), ("word", .cell), ("all", .globalImplicit), ("family", .cell)], isGenerator := false, isCoroutine := false }) (by decide +kernel)) (fun _ _ _ _ _ => pg_name (i := 3) sc_words_of_all.nd rfl (Or.inl rfl)) (fun _ _ _ _ _ => pts_nil) (fun _ _ _ _ _ => (pe_cmpR (op_in_seqB (K := K) rfl) (pv 2) (pv 3) (by rfl)))) pa_nil)))) (fun _ _ _ _ _ => (pv 2))))), ?_⟩
  obtain ⟨a, b, ws, fam, rfl, ha, ⟨fv, hb, rf⟩, lw, lf, q⟩ := h
  nested_keys
  refine ⟨⟨_, SqT.of ha⟩, fun D hD => ?_⟩
  refine lc_it (walk_tu (ws.map V.str)) (fun n H2 => Same H H2 ∧ H2 D = some (.lst ((filt (fun x => ∀ r ∈ fam, x ∈ r) (ws.take n)).map .str))) ⟨Same.new hD, upd_same⟩ (fun _ _ _ k => SqT.of (k.1 _ _ ha)) ?_ ?_
  · rintro n v H2 H3 hi ⟨sm, hk⟩ ⟨rfl, hv⟩
    rw [List.getElem?_map] at hv
    obtain ⟨x, hx, rfl⟩ := Option.map_eq_some_iff.mp hv
    nested_keys
    refine ⟨⟨_, SqL.of (sm _ _ hb)⟩, fun D2 hD2 => ?_⟩
    refine lc_it (walk_li fv) (fun k H4 => Same H3 H4 ∧ H4 D2 = some (.lst ((fam.take k).map fun r => V.bl (decide (x ∈ r))))) ⟨Same.new hD2, upd_same⟩ (fun _ _ _ k => SqL.of (k.1 _ _ (sm _ _ hb))) ?_ ?_
    · rintro k v H4 H5 hk2 ⟨sm4, hd4⟩ ⟨rfl, hv4⟩
      obtain ⟨r, h1, h2⟩ := rf.mapV hv4
      obtain ⟨rb, rfl, hrb⟩ := ((Same.trans' sm sm4).rk h2).strs
      nested_keys
      refine ⟨rb, _, rfl, .inr (SqT.of hrb), rfl, flat_strs _, ?_⟩
      rw [inV_text]
      refine ⟨_, hd4, by rw [List.length_map]; exact line24 (m := 1000) (Nat.le_trans (List.length_take_le' _ _) lf), sm4.put hD2, ?_⟩
      rw [upd_same, take_snoc h1, List.map_append]
      rfl
    · rintro H4 ⟨sm4, hd4⟩
      rw [rf.len, List.take_length] at hd4
      refine ⟨D2, fam.map fun r => decide (x ∈ r), rfl, SqL.of (by rw [hd4, List.map_map]; rfl), ?_⟩
      have e : (fam.map fun r => decide (x ∈ r)).all id = true ↔ ∀ r ∈ fam, x ∈ r := by simp
      have sH4 := Same.trans' sm sm4
      have hk4 := sm4 _ _ hk
      cases z : (fam.map fun r => decide (x ∈ r)).all id with
      | true =>
        have px := e.mp z
        nested_keys
        refine ⟨_, hk4, by rw [List.length_map]; exact line24 (m := 1000) (Nat.le_trans filt_len (Nat.le_trans (List.length_take_le' _ _) lw)), sH4.put hD, ?_⟩
        rw [upd_same, take_snoc hx, filt_snoc (p := fun x => ∀ r ∈ fam, x ∈ r) px, List.map_append]
        rfl
      | false =>
        have px : ¬ ∀ r ∈ fam, x ∈ r := fun h => by rw [e.mpr h] at z; cases z
        nested_keys
        refine ⟨sH4, ?_⟩
        rw [hk4, take_snoc hx, filt_snoc' (p := fun x => ∀ r ∈ fam, x ∈ r) px]
  · rintro H2 ⟨sm, hk⟩
    rw [List.length_map, List.take_length] at hk
    exact q D _ hD sm hk
def sp_words_of_some : Sp := fun vs H Q _ => ∃ (a b : Addr) (ws : List Str) (fam : List (List Str)), vs = [.ref a, .ref b] ∧ H a = some (.tup (ws.map .str)) ∧ Ls H b (fam.map dS) ∧ ws.length ≤ 1000 ∧ fam.length ≤ 1000 ∧
  ∀ (c : Addr) (H' : Hp), H c = none → Same H H' → H' c = some (.lst ((filt (fun x => ∃ r ∈ fam, x ∈ r) ws).map .str)) → Q (.ref c) H'
theorem ok_words_of_some (T : Tx K mg) : C8.Cal P w K mg base 1 "words_of_some" sp_words_of_some [] := cal_words_of_some T (fun vs H Q E ⟨_, _, _, _, h, _⟩ => by rw [h]; rfl) fun cdv A outer s H vs Q E hr h => by
  refine ⟨_, (pss_one (ps_ret (pe_lc (own := [("word", 2)]) (g := gName 2) (by rfl) sc_words_of_some.nd (pi_tup (pv 0)) (blkOk_by (own := [("word", 2)]) (N := n_words_of_some) (sc := defScope s_words_of_some) (by decide +kernel)) (fun _ _ _ _ _ => pg_name (i := 2) sc_words_of_some.nd rfl (Or.inr rfl)) (fun _ _ _ _ _ => pts_one (pt_val (pe_callB (cr_anyB (K := K) rfl rfl) (by rfl) T.f_any b_any (pa_cons (pe_lc (own := [("row", 3)]) (g := gName 3) (tt := tYes) (by rfl) sc_words_of_some.nd (pi_listB (K := K) rfl (pv 1)) (blkOk_by (own := [("row", 3)]) (N := n_words_of_some) (sc := { kind := .function, names := [(".0", .local), ("word", .cell), ("any", .globalImplicit), ("family", .cell)], isGenerator := false, isCoroutine := false }) (by decide +kernel)) (fun _ _ _ _ _ => pg_name (i := 3) sc_words_of_some.nd rfl (Or.inl rfl)) (fun _ _ _ _ _ => pts_nil) (fun _ _ _ _ _ => (pe_cmpR (op_in_seqB (K := K) rfl) (pv 2) (pv 3) (by rfl)))) pa_nil)))) (fun _ _ _ _ _ => (pv 2))))), ?_⟩
  obtain ⟨a, b, ws, fam, rfl, ha, ⟨fv, hb, rf⟩, lw, lf, q⟩ := h
  nested_keys
  refine ⟨⟨_, SqT.of ha⟩, fun D hD => ?_⟩
  refine lc_it (walk_tu (ws.map V.str)) (fun n H2 => Same H H2 ∧ H2 D = some (.lst ((filt (fun x => ∃ r ∈ fam, x ∈ r) (ws.take n)).map .str))) ⟨Same.new hD, upd_same⟩ (fun _ _ _ k => SqT.of (k.1 _ _ ha)) ?_ ?_
  · rintro n v H2 H3 hi ⟨sm, hk⟩ ⟨rfl, hv⟩
    rw [List.getElem?_map] at hv
    obtain ⟨x, hx, rfl⟩ := Option.map_eq_some_iff.mp hv
    nested_keys
    refine ⟨⟨_, SqL.of (sm _ _ hb)⟩, fun D2 hD2 => ?_⟩
    refine lc_it (walk_li fv) (fun k H4 => Same H3 H4 ∧ H4 D2 = some (.lst ((fam.take k).map fun r => V.bl (decide (x ∈ r))))) ⟨Same.new hD2, upd_same⟩ (fun _ _ _ k => SqL.of (k.1 _ _ (sm _ _ hb))) ?_ ?_
    · rintro k v H4 H5 hk2 ⟨sm4, hd4⟩ ⟨rfl, hv4⟩
      obtain ⟨r, h1, h2⟩ := rf.mapV hv4
      obtain ⟨rb, rfl, hrb⟩ := ((Same.trans' sm sm4).rk h2).strs
      nested_keys
      refine ⟨rb, _, rfl, .inr (SqT.of hrb), rfl, flat_strs _, ?_⟩
      rw [inV_text]
      refine ⟨_, hd4, by rw [List.length_map]; exact line24 (m := 1000) (Nat.le_trans (List.length_take_le' _ _) lf), sm4.put hD2, ?_⟩
      rw [upd_same, take_snoc h1, List.map_append]
      rfl
    · rintro H4 ⟨sm4, hd4⟩
      rw [rf.len, List.take_length] at hd4
      refine ⟨D2, fam.map fun r => decide (x ∈ r), rfl, SqL.of (by rw [hd4, List.map_map]; rfl), ?_⟩
      have e : (fam.map fun r => decide (x ∈ r)).any id = true ↔ ∃ r ∈ fam, x ∈ r := by simp
      have sH4 := Same.trans' sm sm4
      have hk4 := sm4 _ _ hk
      cases z : (fam.map fun r => decide (x ∈ r)).any id with
      | true =>
        have px := e.mp z
        nested_keys
        refine ⟨_, hk4, by rw [List.length_map]; exact line24 (m := 1000) (Nat.le_trans filt_len (Nat.le_trans (List.length_take_le' _ _) lw)), sH4.put hD, ?_⟩
        rw [upd_same, take_snoc hx, filt_snoc (p := fun x => ∃ r ∈ fam, x ∈ r) px, List.map_append]
        rfl
      | false =>
        have px : ¬ ∃ r ∈ fam, x ∈ r := fun h => by rw [e.mpr h] at z; cases z
        nested_keys
        refine ⟨sH4, ?_⟩
        rw [hk4, take_snoc hx, filt_snoc' (p := fun x => ∃ r ∈ fam, x ∈ r) px]
  · rintro H2 ⟨sm, hk⟩
    rw [List.length_map, List.take_length] at hk
    exact q D _ hD sm hk
end NS
/-! G24: the walk of future. -/
namespace NS
open PySem PySem.Spec PyProof.Rows L2
local macro_rules | `(tactic| nested_keys) => `(tactic| repeat (first | refine ⟨_, rfl, ?_⟩ | refine ⟨_, _, rfl, rfl, ?_⟩ | refine ⟨rfl, ?_⟩ | with_reducible refine iteT ?_ | with_reducible refine iteF ?_))
variable {N : Addr → Prop} {P : Program} {w : World} {K : PySem.W.Frag} {mg : Str → Option Value} {base : Heap}
theorem RunOk.cons {S : SysM} {st : Stg} {m : Move} {ms : List Move} (r : RunOk S st (m :: ms)) : MvOk S st m ∧ RunOk S (ledTo S st m) ms :=
  ⟨r 0 m rfl, fun k x hx => r (k + 1) x hx⟩
theorem run_of_ok {S : SysM} (o : SysOk S) : ∀ (ms : List Move) (st : Stg), StOk S st → RunOk S st ms → Run (waysOf S) wdM st (ms.map (·.1)) (atS S st ms)
  | [], st, _, _ => .nil st
  | m :: ms, st, k, r => by
    obtain ⟨h1, h2⟩ := r.cons
    exact .cons ((mem_ways k.len).mpr ⟨h1, rfl⟩) (run_of_ok o ms _ (k.led o h1) h2)
theorem eg_pe (S : SysM) : Eg (psucc S) = Pe S := rfl
theorem run_end {S : SysM} (g : SysG S) {ms : List Move} (r : RunOk S S.start ms) {ys : List Str} (pw : ys.Pairwise SLt) (mem : ∀ x, x ∈ ys ↔ ∃ m ∈ ms, m.1 = x) : Rch (Pe S) (S.start, []) (atS S S.start ms, ys) := by
  obtain ⟨d', h1, h2⟩ := run_reach g.ok (run_of_ok g.ok ms S.start g.ok.startOk r) [] (nod0 g.ok)
  have nd := (nod0 g.ok).reach g.ok h1
  have e : d' = ys := pw_unique nd.pw pw fun x => by
    rw [h2 x, mem x, List.mem_map]
    simp
  rw [← e]
  exact h1
def sp_future (K : PySem.W.Frag) : Sp := fun vs H Q _ => ∃ (p : Addr) (v : V) (S : SysM) (ms : List Move), vs = [.ref p, v] ∧ SysAt K H p S ∧ SysG S ∧ Rk H (.tup (ms.map dMove)) v ∧ RunOk S S.start ms ∧ ms.length ≤ 1000 ∧
  ∀ (t a b c : Addr) (ys : List Str) (H' : Hp), Same H H' → ys.Pairwise SLt → (∀ x, x ∈ ys ↔ ∃ m ∈ ms, m.1 = x) → H' t = some (.tup [.ref a, .ref b, .ref c]) → H a = none → H c = none → a ≠ b → b ≠ c → a ≠ c →
    H' a = some (.lst ((sureL S (atS S S.start ms, ys)).map .str)) → H' b = some (.lst ((freeL S (atS S S.start ms, ys)).map .str)) → H' c = some (.lst ((outL S (atS S S.start ms, ys)).map .str)) → Q (.ref t) H'
theorem kept_no {k : V} : ([("kept", k)] : List (Str × V)).lookup ("names" : Str) = none := (lkN' (by decide +kernel)).trans rfl
theorem ok_future (T : Tx K mg) : C8.Cal P w K mg base 7 "future" (sp_future K) [] := cal_future T (fun vs H Q E ⟨_, _, _, _, h, _⟩ => by rw [h]; rfl) fun cdv A outer s H vs Q E hr h => by
  refine ⟨_, (pss_cons (ps_set (i := 2) sc_future.nd rfl (Or.inl rfl) (pe_tup (pa_cons (C8.pe_c (ok_end_of T) hr (by decide) (by rfl) (pa_cons (pv 0) (pa_cons (pv 1) pa_nil))) (pa_cons (pe_callTy call_tuple_of (by rfl) T.f_tuple b_tuple (pa_cons (C8.pe_mt0 (ok_Deeds_names T) hr (by decide) (C8.pe_c (ok_done_in T) hr (by decide) (by rfl) (pa_cons (pv 0) (pa_cons (pv 1) pa_nil)))) pa_nil)) pa_nil))))
    (pss_cons (ps_set (i := 3) sc_future.nd rfl (Or.inl rfl) (C8.pe_mk (ok_Ground_init T) hr (by decide) (by rfl) (pa_cons (pv 0) pa_nil)))
    (pss_cons (ps_set (i := 4) sc_future.nd rfl (Or.inl rfl) (C8.pe_c (ok_pair_graph T) hr (by decide) (by rfl) (pa_cons (pv 3) (pa_cons (pv 0) pa_nil))))
    (pss_cons (ps_set (i := 5) sc_future.nd rfl (Or.inr rfl) (C8.pe_c (ok_fair_nodes T) hr (by decide) (by rfl) (pa_cons (pv 3) (pa_cons (pe_fld (pv 0) rfl) (pa_cons (pv 4) pa_nil)))))
    (pss_cons (ps_setLc (i := 6) (own := [("node", 11)]) (g := gName 11) (by rfl) sc_future.nd rfl rfl (sw_true rfl rfl rfl (by decide +kernel)) (pi_list (C8.pe_c (ok_reached_from T) hr (by decide) (by rfl) (pa_cons (pv 4) (pa_cons (pv 2) pa_nil)))) (blkOk_by (own := [("node", 11)]) (N := n_future) (sc := defScope s_future) (by decide +kernel)) (fun _ _ _ _ _ => pg_name (i := 11) sc_future.nd rfl (Or.inl rfl)) (fun _ _ _ _ _ => pts_one (pt_cmpR (op_inNB (P := P) (w := w) rfl rfl (u9 hr)) (pv 11) (pv 5) (by rfl))) (fun _ _ _ _ _ => (pe_ix (ix_tupB (K := K) rfl) (pv 11) pe_int (fun _ _ => rfl))))
    (pss_cons (ps_set (i := 7) sc_future.nd rfl (Or.inr rfl) (C8.pe_c (ok_words_of_all T) hr (by decide) (by rfl) (pa_cons (pe_fld (pv 0) rfl) (pa_cons (pv 6) pa_nil))))
    (pss_cons (ps_set (i := 8) sc_future.nd rfl (Or.inr rfl) (C8.pe_c (ok_words_of_some T) hr (by decide) (by rfl) (pa_cons (pe_fld (pv 0) rfl) (pa_cons (pv 6) pa_nil))))
    (pss_cons (ps_setLc (i := 9) (own := [("word", 12)]) (g := gName 12) (by rfl) sc_future.nd rfl rfl (sw_true rfl rfl rfl (by decide +kernel)) (pi_list (pv 8)) (blkOk_by (own := [("word", 12)]) (N := n_future) (sc := defScope s_future) (by decide +kernel)) (fun _ _ _ _ _ => pg_name (i := 12) sc_future.nd rfl (Or.inl rfl)) (fun _ _ _ _ _ => pts_one (pt_cmpR (op_notIn_seqB (K := K) rfl) (pv 12) (pv 7) (by rfl))) (fun _ _ _ _ _ => (pv 12)))
    (pss_cons (ps_setLc (i := 10) (own := [("word", 12)]) (g := gName 12) (by rfl) sc_future.nd rfl rfl (sw_true rfl rfl rfl (by decide +kernel)) (pi_tup (pe_fld (pv 0) rfl)) (blkOk_by (own := [("word", 12)]) (N := n_future) (sc := defScope s_future) (by decide +kernel)) (fun _ _ _ _ _ => pg_name (i := 12) sc_future.nd rfl (Or.inl rfl)) (fun _ _ _ _ _ => pts_one (pt_cmpR (op_notIn_seqB (K := K) rfl) (pv 12) (pv 8) (by rfl))) (fun _ _ _ _ _ => (pv 12)))
    (pss_one (ps_ret (pe_tup (pa_cons (pv 7) (pa_cons (pv 9) (pa_cons (pv 10) pa_nil))))))))))))))), ?_⟩
  obtain ⟨p, v, S, ms, rfl, hS, hG, hv, ok, few, q⟩ := h
  obtain ⟨sdx, a1, a2, a3, a4, ps, i1, i2, i3, i4, i5, i6⟩ := id hS
  nested_keys
  refine ⟨p, v, S, ms, rfl, hS, hG, hv, ok, few, fun ev H1 s1 re => ?_⟩
  nested_keys
  refine ⟨p, v, S, ms, rfl, hS.same s1, hG, s1.rk hv, ok, few, fun d ys H2 s2 hd pw mem => ?_⟩
  obtain ⟨ddx, dk, hd1, hd2⟩ := id hd
  have sH2 := Same.trans' s1 s2
  refine ⟨d, ddx, _, rfl, hd1, kept_no, ?_⟩
  refine ⟨d, ys, rfl, hd, fun c3 H3 s3 hc3 => ?_⟩
  refine ⟨c3, _, rfl, .inl ⟨SqL.of hc3, fun t4 ht4 => ?_⟩⟩
  have s4 : Same H3 (upd H3 t4 (.tup (ys.map V.str))) := Same.new ht4
  refine ⟨by show 2 ≤ sizeLine; decide, fun f5 hf5 => ?_⟩
  have s5 : Same (upd H3 t4 (.tup (ys.map V.str))) (upd (upd H3 t4 (.tup (ys.map V.str))) f5 (.tup [ev, .ref t4])) := Same.new hf5
  have sH5 := Same.trans' sH2 (Same.trans' s3 (Same.trans' s4 s5))
  have k5 : Ky (upd (upd H3 t4 (.tup (ys.map V.str))) f5 (.tup [ev, .ref t4])) (dNod (atS S S.start ms, ys)) f5 := by
    refine ⟨.ofPair upd_same ((Same.trans' s2 (Same.trans' s3 (Same.trans' s4 s5))).rk re) (Rk.ofStrs (s5 _ _ upd_same)), dNod_depth _⟩
  generalize upd (upd H3 t4 (.tup (ys.map V.str))) f5 (.tup [ev, .ref t4]) = H5 at s5 sH5 k5 |-
  have hS5 := hS.same sH5
  nested_keys
  intro g gdx ng ngd gne
  have s6 : Same H5 (upd (upd H5 gdx (.own g)) g (.ins (He.ga K "Ground") gdx [])) := (Same.new ngd).put ng
  refine ⟨g, gdx, p, S, rfl, upd_same, hS5.same s6, fun kw ka H7 nkw nka t7 GG => ?_⟩
  have s7 : Same H5 H7 := Same1.back s6 ng t7
  have G7 := GG (fun _ => False)
  have kwN : H5 kw = none := s6.none nkw
  have kaN : H5 ka = none := s6.none nka
  have sH7 := Same.trans' sH5 s7
  have sm : ∀ {H'}, But kw ka H7 H' → Same H H' := fun t b o e => t b o (ne_of_none e (sH5.none kwN)) (ne_of_none e (sH5.none kaN)) (sH7 _ _ e)
  have sm5 : ∀ {H'}, But kw ka H7 H' → Same H5 H' := fun t b o e => t b o (ne_of_none e kwN) (ne_of_none e kaN) (s7 _ _ e)
  nested_keys
  refine ⟨g, kw, ka, p, S, _, rfl, fun _ z => z.elim, G7, hG, hS5.same s7, fun gr ns ks H8 bt8 G8 hgr grw gra Gp mns => ?_⟩
  have nok : ∀ n ∈ ns, NodOk S n := fun n hn => (nod0 hG.ok).reach hG.ok ((mns n).mp hn)
  have cl : ∀ n ∈ ns, ∀ q ∈ psucc S n, q.2 ∈ ns := fun n hn q hq => (mns _).mpr (((mns n).mp hn).trans (.one ⟨q.1, hq⟩))
  have l432 : ns.length ≤ 432 := Nat.le_trans (nodup_le _ _ Gp.nd fun x hx => (nok x hx).mem hG.ok) (length_allNod hG.ok)
  have n0 : (atS S S.start ms, ys) ∈ ns := (mns _).mpr (run_end hG ok pw mem)
  have sH8 := sm bt8
  nested_keys
  refine ⟨p, _, sdx, _, _, rfl, sH8 _ _ i1, T.c_System, T.a_System_diligent, fSys_diligent, ?_⟩
  nested_keys
  refine ⟨g, kw, ka, a2, gr, S, ns, ks, _, rfl, fun _ z => z.elim, G8, hG, sH8 _ _ i4, hgr, Gp, nok, cl, grw, gra, fun fr Fs es H9 nfr bt9 G9 mk9 ndF mF => ?_⟩
  have bt79 := bt8.trans bt9
  have sH9 := sm bt79
  have hgr9 := bt9 _ _ grw gra hgr
  have Gp9 := Gp.at (G8.seqs bt9)
  nested_keys
  refine ⟨gr, f5, ns, psucc S, ks, _, rfl, hgr9, Gp9, by omega, cl, n0, k5.at (sm5 bt79).tups, fun rc F H10 s10 hrc ndR mR => ?_⟩
  obtain ⟨rv, hrc1, hrc2⟩ := hrc
  have mk10 := mk9.same s10
  have sH10 := Same.trans' sH9 s10
  have mR' : ∀ x, x ∈ F ↔ Rch (Pe S) (atS S S.start ms, ys) x := mR
  have Fns : ∀ x ∈ F, x ∈ ns := fun x hx => (mns x).mpr (((mns _).mp n0).trans ((mR' x).mp hx))
  have lF : F.length ≤ 432 := Nat.le_trans (nodup_le _ _ ndR Fns) l432
  nested_keys
  refine ⟨⟨_, SqL.of hrc1⟩, fun D hD => ?_⟩
  refine lc_it (walk_li rv) (fun k H' => Same H10 H' ∧ ∃ fam : List (List Str), Ls H' D (fam.map dS) ∧ fam.length ≤ k ∧ ∀ r, r ∈ fam ↔ ∃ x ∈ F.take k, x ∈ Fs ∧ x.2 = r) ⟨Same.new hD, [], ⟨[], upd_same, .nil⟩, Nat.le_refl _, by simp⟩ (fun _ _ _ k => SqL.of (k.1 _ _ hrc1)) ?_ ?_
  · rintro k x H11 H12 hk ⟨sm11, fam, ⟨fv, hD11, rf11⟩, lfam, mfam⟩ ⟨rfl, hx⟩
    obtain ⟨n, hn1, kn⟩ := hrc2.mapV hx
    have kn12 := kn.at sm11.tups
    obtain ⟨nb, c1, c2, rfl, hnb, hc1, hc2⟩ := id kn12.nod
    have k432 : k < 432 := by
      have := (List.getElem?_eq_some_iff.mp hn1).1
      omega
    have mk12 := mk10.same sm11
    have nx : ∀ r, (∃ x ∈ F.take (k + 1), x ∈ Fs ∧ x.2 = r) ↔ (∃ x ∈ F.take k, x ∈ Fs ∧ x.2 = r) ∨ (n ∈ Fs ∧ n.2 = r) := fun r => by
      rw [take_snoc hn1]
      constructor
      · rintro ⟨x, h1, h2⟩
        rw [List.mem_append, List.mem_singleton] at h1
        rcases h1 with h1 | rfl
        · exact .inl ⟨x, h1, h2⟩
        · exact .inr h2
      · rintro (⟨x, h1, h2⟩ | h2)
        · exact ⟨x, List.mem_append_left _ h1, h2⟩
        · exact ⟨n, by simp, h2⟩
    nested_keys
    refine ⟨dNod n, nb, fr, es, rfl, rfl, ⟨kn12, dNod_depth _⟩, ⟨.of mk12.at_, mk12.kys⟩, ?_⟩
    cases e : (lkN es (dNod n)).isSome with
    | true =>
      have mn := mk12.isIn.mp e
      nested_keys
      refine ⟨nb, _, _, _, rfl, rfl, SqT.of hnb, rfl, ?_⟩
      have tt := Tups.put (o := .lst (fv ++ [.ref c2])) hD11 (fun xs z => by cases z)
      refine ⟨fv, hD11, by rw [rf11.len]; exact line24 (m := 432) (by omega), sm11.put hD, fam ++ [n.2], ⟨_, upd_same, ?_⟩, by rw [List.length_append]; simp only [List.length_cons, List.length_nil]; omega, fun r => ?_⟩
      · rw [List.map_append]
        exact (rf11.at tt).append (.cons (Rk.ofStrs (tt _ _ hc2)) .nil)
      · rw [nx, List.mem_append, List.mem_singleton, mfam]
        exact ⟨fun h => h.imp id fun h => ⟨mn, h.symm⟩, fun h => h.imp id fun h => h.2.symm⟩
    | false =>
      have mn : n ∉ Fs := fun z => by rw [mk12.isIn.mpr z] at e; cases e
      nested_keys
      refine ⟨sm11, fam, ⟨fv, hD11, rf11⟩, by omega, fun r => ?_⟩
      rw [nx, mfam]
      exact ⟨.inl, fun h => h.elim id fun h => absurd h.1 mn⟩
  · rintro H11 ⟨sm11, fam, hfam, lfam, mfam⟩
    rw [hrc2.len] at lfam mfam
    rw [List.take_length] at mfam
    have sH11 := Same.trans' sH10 sm11
    have famP : ∀ r, r ∈ fam ↔ ∃ x, Rch (Pe S) (atS S S.start ms, ys) x ∧ FairN S x ∧ x.2 = r := fun r => by
      rw [mfam]
      constructor
      · rintro ⟨x, h1, h2, h3⟩
        exact ⟨x, (mR' x).mp h1, ((mF x).mp h2).2, h3⟩
      · rintro ⟨x, h1, h2, h3⟩
        have hx := (mR' x).mpr h1
        exact ⟨x, hx, (mF x).mpr ⟨Fns x hx, h2⟩, h3⟩
    have eS : filt (fun x => ∀ r ∈ fam, x ∈ r) S.words = sureL S (atS S S.start ms, ys) := filt_congr fun x _ => by
      constructor
      · intro h n' r f
        exact h n'.2 ((famP _).mpr ⟨n', r, f, rfl⟩)
      · intro h r hr
        obtain ⟨n', h1, h2, rfl⟩ := (famP r).mp hr
        exact h n' h1 h2
    have eM : filt (fun x => ∃ r ∈ fam, x ∈ r) S.words = someL S (atS S S.start ms, ys) := filt_congr fun x _ => by
      constructor
      · rintro ⟨r, hr, hx⟩
        obtain ⟨n', h1, h2, rfl⟩ := (famP r).mp hr
        exact ⟨n', h1, h2, hx⟩
      · rintro ⟨n', h1, h2, hx⟩
        exact ⟨n'.2, (famP _).mpr ⟨n', h1, h2, rfl⟩, hx⟩
    have w4 := hG.ok.few2
    nested_keys
    refine ⟨p, _, sdx, _, _, rfl, sH11 _ _ i1, T.c_System, T.a_System_words, fSys_words, ?_⟩
    nested_keys
    refine ⟨a3, D, S.words, fam, rfl, sH11 _ _ i5, hfam, by omega, by omega, fun su H12 nsu s12 hsu => ?_⟩
    rw [eS] at hsu
    have sH12 := Same.trans' sH11 s12
    nested_keys
    refine ⟨p, _, sdx, _, _, rfl, sH12 _ _ i1, T.c_System, T.a_System_words, fSys_words, ?_⟩
    nested_keys
    refine ⟨a3, D, S.words, fam, rfl, sH12 _ _ i5, hfam.same s12, by omega, by omega, fun so H13 nso s13 hso => ?_⟩
    rw [eM] at hso
    have sH13 := Same.trans' sH12 s13
    have hsu13 := s13 _ _ hsu
    have lS : (sureL S (atS S S.start ms, ys)).length ≤ 4 := Nat.le_trans filt_len w4
    have lM : (someL S (atS S S.start ms, ys)).length ≤ 4 := Nat.le_trans filt_len w4
    nested_keys
    refine ⟨⟨_, SqL.of hso⟩, fun fe hfe => ?_⟩
    refine lc_it (walk_li ((someL S (atS S S.start ms, ys)).map V.str)) (fun n H' => Same H13 H' ∧ H' fe = some (.lst ((filt (fun w => w ∉ sureL S (atS S S.start ms, ys)) ((someL S (atS S S.start ms, ys)).take n)).map .str))) ⟨Same.new hfe, upd_same⟩ (fun _ _ _ k => SqL.of (k.1 _ _ hso)) ?_ ?_
    · rintro n x H14 H15 hi ⟨sm14, hk⟩ ⟨rfl, hx⟩
      rw [List.getElem?_map] at hx
      obtain ⟨z, hz, rfl⟩ := Option.map_eq_some_iff.mp hx
      nested_keys
      refine ⟨su, _, rfl, .inl (SqL.of (sm14 _ _ hsu13)), rfl, flat_strs _, ?_⟩
      rw [inV_text]
      by_cases m : z ∈ sureL S (atS S S.start ms, ys)
      · rw [decide_eq_true m]
        nested_keys
        refine ⟨sm14, ?_⟩
        rw [hk, take_snoc hz, filt_snoc' (p := fun w => w ∉ sureL S (atS S S.start ms, ys)) (fun h => h m)]
      · rw [decide_eq_false m]
        nested_keys
        refine ⟨_, hk, by rw [List.length_map]; exact line24 (m := 4) (Nat.le_trans filt_len (Nat.le_trans (List.length_take_le' _ _) lM)), sm14.put hfe, ?_⟩
        rw [upd_same, take_snoc hz, filt_snoc (p := fun w => w ∉ sureL S (atS S S.start ms, ys)) m, List.map_append]
        rfl
    · rintro H14 ⟨sm14, hfe14⟩
      rw [List.length_map, List.take_length] at hfe14
      have sH14 := Same.trans' sH13 sm14
      nested_keys
      refine ⟨p, _, sdx, _, _, rfl, sH14 _ _ i1, T.c_System, T.a_System_words, fSys_words, ?_⟩
      nested_keys
      refine ⟨⟨_, SqT.of (sH14 _ _ i5)⟩, fun oe hoe => ?_⟩
      refine lc_it (walk_tu (S.words.map V.str)) (fun n H' => Same H14 H' ∧ H' oe = some (.lst ((filt (fun w => w ∉ someL S (atS S S.start ms, ys)) (S.words.take n)).map .str))) ⟨Same.new hoe, upd_same⟩ (fun _ _ _ k => SqT.of (k.1 _ _ (sH14 _ _ i5))) ?_ ?_
      · rintro n x H15 H16 hi ⟨sm15, hk⟩ ⟨rfl, hx⟩
        rw [List.getElem?_map] at hx
        obtain ⟨z, hz, rfl⟩ := Option.map_eq_some_iff.mp hx
        nested_keys
        refine ⟨so, _, rfl, .inl (SqL.of (sm15 _ _ (sm14 _ _ hso))), rfl, flat_strs _, ?_⟩
        rw [inV_text]
        by_cases m : z ∈ someL S (atS S S.start ms, ys)
        · rw [decide_eq_true m]
          nested_keys
          refine ⟨sm15, ?_⟩
          rw [hk, take_snoc hz, filt_snoc' (p := fun w => w ∉ someL S (atS S S.start ms, ys)) (fun h => h m)]
        · rw [decide_eq_false m]
          nested_keys
          refine ⟨_, hk, by rw [List.length_map]; exact line24 (m := 4) (Nat.le_trans filt_len (Nat.le_trans (List.length_take_le' _ _) w4)), sm15.put hoe, ?_⟩
          rw [upd_same, take_snoc hz, filt_snoc (p := fun w => w ∉ someL S (atS S S.start ms, ys)) m, List.map_append]
          rfl
      · rintro H15 ⟨sm15, hoe15⟩
        rw [List.length_map, List.take_length] at hoe15
        have sH15 := Same.trans' sH14 sm15
        nested_keys
        refine ⟨by show 3 ≤ sizeLine; decide, fun t ht => ?_⟩
        have sT : Same H15 (upd H15 t (.tup [.ref su, .ref fe, .ref oe])) := Same.new ht
        have hsu15 := sm15 _ _ (sm14 _ _ hsu13)
        have hfe15 := sm15 _ _ hfe14
        refine q t su fe oe ys _ (Same.trans' sH15 sT) pw mem upd_same (sH11.none nsu) (sH14.none hoe) (fun z => ?_) (fun z => ?_) (fun z => ?_) (sT _ _ hsu15) (sT _ _ hfe15) (sT _ _ hoe15)
        · rw [← z, hsu13] at hfe; cases hfe
        · rw [← z, hfe14] at hoe; cases hoe
        · rw [← z, sm14 _ _ hsu13] at hoe; cases hoe
end NS
/-! S1: sorted(rows, key=lambda row: (len(row), row)), rows a list of tuples of texts: some arrangement of the rows. -/
namespace NS
open PySem PySem.Spec PyProof.Rows L2
section
variable {P : Program} {w : World} {A : Around} {s : Shared}
theorem reads_strs {h : Heap} {us : List Value} {row : List Str} (hi : StrsAre us row) : ReadsAll h us (row.map PyData.str) [] := by
  induction hi with
  | nil => exact .nil
  | cons y t _ ih => exact ReadsAll.cons (as := []) (.str y t) ih
theorem key_call {f b c' : Addr} {qual : Str} {params : Arguments} {scope : Scope} {pm ctv : Value} {p1 p2 p3 p4 p5 : Pos} {k : Nat} {mg mb : Str → Option Value} {row : List Str} {us : List Value}
    (room : A.depth < recursionLimit)
    (ho : s.heap.get? f = some (PySem.W.kla_obj "<lambda>" qual params (.Tuple [.Call (.Name "len" p1) [.Name "row" p2] [] p3, .Name "row" p4] k p5) scope [] pm c' ctv))
    (hcd : s.heap.CodeRec (.ref c') qual) (hns : s.heap.Ns mainGlobals mg) (hm : mg "len" = none) (hb : s.heap.Ns builtinsNs mb) (hmb : mb "len" = some (.builtin "len")) (lim : s.heap.NoLimit)
    (hbind : bindArgs (PySem.W.kla_fn "<lambda>" qual params (.Tuple [.Call (.Name "len" p1) [.Name "row" p2] [] p3, .Name "row" p4] k p5) scope [] pm (.ref c') ctv) ⟨[.ref b], []⟩ = pure [(("row" : Str), Value.ref b)])
    (s1 : scope.isCoroutine = false) (s2 : scope.isGenerator = false) (s3 : scope.kind = .function) (s4 : ∀ x ∈ scope.names, x.2 ≠ .cell) (s5 : scope.names.lookup ("row" : Str) = some .local) (s6 : scope.names.lookup ("len" : Str) = some .globalImplicit)
    (ht : IsTup s.heap b us.toArray) (hi : StrsAre us row) (few : us.length ≤ sizeLine) :
    wpAny (model P w) A (call (.ref f) [.ref b]) (PySem.W.KeyPure (.tuple [.int (us.length : Nat), .tuple (row.map .str)]) s) (fun _ _ => False) s := by
  refine wpAny_call (PySem.W.kla_callFunE room ho rfl s1 s2 rfl hcd ?_)
  rw [hbind]
  refine wpAny_pure (wpAny_newFunctionEnv s4 (fun y hy => ?_) (fun h₁ hns1 hsb => ⟨lim.fresh _ hsb, ?_⟩) s3)
  · rw [List.mem_singleton] at hy
    subst hy
    exact s5
  refine PySem.W.kla_codeExpr ?_
  have kp : ∀ x o, s.heap.get? x = some o → h₁.get? x = some o := fun x o e => hsb.extBut x o (Nat.ne_of_lt (Heap.lt_size e)) (Heap.get?_push_of_some _ e)
  refine wpAny_Tuple_spliced ?_
  refine Calls.spliced_cons (wpAny_Call_Name_kw (Calls.Name_function_global s3 s6 (Calls.loadGlobal_builtin (hns.keeps kp) hm (hb.keeps kp) hmb ?_)))
  refine PyProof.Rows.callWith_builtin1 (Calls.spliced_cons (wpAny_Name (wpAny_loadName_local s3 s5 hns1 rfl (Calls.spliced_nil ?_)))) rfl rfl
  refine len_tuple (ht.keeps kp) (by rw [List.size_toArray]; have := line63; omega) ?_
  refine Calls.spliced_cons (wpAny_Name (wpAny_loadName_local s3 s5 hns1 rfl (Calls.spliced_nil ?_)))
  refine ⟨by show 2 ≤ sizeLine; decide, ?_⟩
  refine ⟨_, _, rfl, fun x o e => Heap.get?_push_of_some _ (kp x o e), ?_⟩
  obtain ⟨o, ho2, hc2, n2, hd2⟩ := ht.keeps kp
  refine Reads.tuple (o := { cls := .type "tuple", data := .seq _ }) (Heap.get?_push_size _ rfl) rfl rfl ?_
  refine ReadsAll.cons (as := []) (bs := []) ?_ (ReadsAll.cons (as := []) (bs := []) ?_ .nil)
  · rw [List.size_toArray]
    exact .int _ _
  · exact Reads.tuple (Heap.get?_push_of_some _ ho2) hc2 hd2 (by simpa using reads_strs hi)
end

theorem vals_fst {β : Type} {R : Value → V × β → Prop} (h : ∀ v x, R v x → RelV x.1 v) {out : List Value} {bs : List (V × β)} (e : PySem.W.EachIs R out bs) : Vals (bs.map (·.1)) out := by
  induction e with
  | nil => exact .nil
  | cons r _ ih => exact .cons (h _ _ r) ih
theorem strs_of {row : List Str} {us : List Value} (r : Vals (row.map V.str) us) : StrsAre us row := by
  induction row generalizing us with
  | nil =>
    cases r
    exact .nil
  | cons x l ih =>
    cases r with
    | cons q r =>
      obtain ⟨t, rfl⟩ := q
      exact .cons x t (ih r)
theorem each_rows {H : Hp} : ∀ {xs : List V} {rows : List (List Str)} {us : List Value}, Rks H (rows.map dS) xs → Vals xs us → PySem.W.EachIs (fun (v : Value) (x : V × List Str) => RelV x.1 v ∧ Rk H (dS x.2) x.1) us (xs.zip rows)
  | [], [], _, _, rv => by
    cases rv
    exact .nil
  | [], _ :: _, _, r, _ => by cases r
  | _ :: _, [], _, r, _ => by cases r
  | x :: xs, row :: rows, _, r, rv => by
    cases rv with
    | cons q rv => cases r with
      | cons r1 r2 => exact .cons ⟨q, r1⟩ (each_rows r2 rv)
theorem alike_strs : ∀ l k : List Str, PySem.W.alikeAll (l.map PyData.str) (k.map PyData.str) = true
  | [], _ => by simp [PySem.W.alikeAll]
  | _ :: _, [] => by simp [PySem.W.alikeAll]
  | x :: l, y :: k => by
    simp only [List.map_cons, PySem.W.alikeAll, PySem.W.alike, Bool.true_and]
    exact alike_strs l k
theorem alike_keys (b b' : V × List Str) : PySem.W.alike (.tuple [.int (b.2.length : Nat), .tuple (b.2.map .str)]) (.tuple [.int (b'.2.length : Nat), .tuple (b'.2.map .str)]) = true := by
  simp only [PySem.W.alikeAll, PySem.W.alike, Bool.true_and, Bool.and_true]
  exact alike_strs _ _
theorem depth_key (n : Nat) (l : List Str) : (PyData.tuple [.int (n : Nat), .tuple (l.map .str)]).depth ≤ 5 := by
  have h : PyData.depthAll (l.map PyData.str) ≤ 1 := by
    induction l with
    | nil => simp [PyData.depthAll]
    | cons x l ih => simp only [List.map_cons, PyData.depthAll, PyData.depth]; omega
  simp only [PyData.depthAll, PyData.depth]
  omega
section
variable {X : Cx} {K : PySem.W.Frag}
/-- the code object at c: its table is at P; the reading of sorted(e, key=lambda row: (len(row), row)) -/
def tSortLam (P : Addr) (q : Str) (te : TE) : TE := fun σ H Q => te σ H fun x H1 => ∃ (a : Addr) (xs : List V) (rows : List (List Str)), x = .ref a ∧ H1 a = some (.lst xs) ∧ Rks H1 (rows.map dS) xs ∧ LamX.TabS H1 P q ∧
  ∀ (H2 : Hp) (p : Addr) (ys : List V), LamX.ExtN H1 H2 → LamX.TabS H2 P q → H2 p = none → ys.Perm xs → Q (.ref p) (upd H2 p (.lst ys))
theorem pe_sortLam {c Pt : Addr} {n : Nat} {params : Arguments} {scope : Scope} {p1 p2 p3 p4 p5 lpos kpos npos pos : Pos} {k : Nat} {e : Expr} {te : TE} (hr : Room n X.A) (hu : X.A.units + 9 < cLine)
    (TB : LamX.TabB X.base X.mg c Pt) (hcode : X.env.code = .ref c) (hg : Gl X "sorted") (hm : X.mg "sorted" = none) (hl : X.mg "len" = none) (hdef : defaultsOf params X.env = ([], [])) (hfree : ∀ y ∈ scope.names, y.2 ≠ .free) (hclo : cloFrom X.env.cells scope.names [] = [])
    (hbind : ∀ (q : Str) (pm cv ctv v : Value), bindArgs (PySem.W.kla_fn "<lambda>" q params (.Tuple [.Call (.Name "len" p1) [.Name "row" p2] [] p3, .Name "row" p4] k p5) scope [] pm cv ctv) ⟨[v], []⟩ = pure [(("row" : Str), v)])
    (s1 : scope.isCoroutine = false) (s2 : scope.isGenerator = false) (s3 : scope.kind = .function) (s4 : ∀ x ∈ scope.names, x.2 ≠ .cell) (s5 : scope.names.lookup ("row" : Str) = some .local) (s6 : scope.names.lookup ("len" : Str) = some .globalImplicit)
    (he : PE X e te) (hs : starEach [e] X.env = [(false, eval e X.env)]) :
    PE X (.Call (.Name "sorted" npos) [e] [⟨some "key", .Lambda params (.Tuple [.Call (.Name "len" p1) [.Name "row" p2] [] p3, .Name "row" p4] k p5) scope lpos, kpos⟩] pos) (tSortLam Pt (X.env.qual ++ "<lambda>") te) := by
  refine ⟨fun pins s σ H Q I h => ?_⟩
  refine wpAny_Call_Name_kw (ld_blt I hg hm (by decide +kernel : bootBuiltins "sorted" = some (.builtin "sorted")) ?_)
  refine PyProof.Rows.callWith_kw ?_ (by rw [hs]; rfl) (by rw [hs]; rfl)
  rw [hs]
  refine Calls.spliced_cons (thn (he.run pins s σ H _ I h) fun u s1' ⟨x, H1, I1, r1, q1⟩ => Calls.spliced_nil ?_)
  obtain ⟨a, xs, rows, rfl, ha, rk, ht, q⟩ := q1
  cases r1
  show wpAny _ _ (evalAll [do let v ← eval (.Lambda params _ scope lpos) X.env; standAt pos; pure v]) _ _ s1'
  refine wpAny_evalAll_cons (wpAny_bind (LamX.lam_make2 (T := [(Pt, X.env.qual ++ "<lambda>")]) I1 TB hcode (by simp) (fun p hp _ => by rw [List.mem_singleton.mp hp]) (fun p hp => by rw [List.mem_singleton.mp hp]; exact ht) hdef (fun y hy z => absurd z (hfree y hy)) fun f c' pm' ctv H2 s2' I2 eN T2 hf hfn hfr hco => ?_))
  refine wpAny_bind (wpAny_standAt (wpAny_pure (wpAny_evalAll_nil ?_)))
  have T2' := T2 _ (List.mem_singleton.mpr rfl)
  show wpAny _ _ (call (.builtin "sorted") [.ref a] [(("key" : Str), .ref f)]) _ _ s2'
  have ha2 : H2 a = some (.lst xs) := eN _ _ ha (fun ps z => by cases z)
  have rk2 : Rks H2 (rows.map dS) xs := rk.at fun b ys e => eN _ _ e (fun ps z => by cases z)
  obtain ⟨hz, us, n0, rv, hus⟩ := I2.hok a _ ha2
  have lx : xs.length = rows.length := rk2.len
  obtain ⟨mb, hb1, hb2⟩ := I2.mod.blt
  obtain ⟨⟨oc, cvs, ct, hoc, hdc, hvc⟩, _, _⟩ := I2.hok c' _ hco
  rw [hclo] at hf
  have row_of : ∀ (v : V) (r : List Str), Rk H2 (dS r) v → ∃ (b : Addr) (ws : List Value), v = .ref b ∧ IsTup s2'.heap b ws.toArray ∧ StrsAre ws r ∧ ws.length ≤ sizeLine := fun v r hv => by
    obtain ⟨b, rfl, hb⟩ := hv.strs
    obtain ⟨z, ws, rw', hws⟩ := I2.hok b _ hb
    exact ⟨b, ws, rfl, hws, strs_of rw', by rw [← rw'.length]; exact z⟩
  refine PySem.W.sorted_key_data (β := V × List Str) (b := false) (R := fun v x => RelV x.1 v ∧ Rk H2 (dS x.2) x.1) (vs := us) (bs := xs.zip rows) (fun x => .tuple [.int (x.2.length : Nat), .tuple (x.2.map .str)]) ⟨_, hus, rfl, _, rfl⟩ (each_rows rk2 rv) (.of fun b b' => ?_) (.tuples fun b => ⟨_, _, rfl⟩) ?_ (fun x _ => ?_) (PyProof.Rows.ksk_s1 _ _) (fun x => PyProof.Rows.ksk_l1 _ _) (fun x => PyProof.Rows.ksk_t1 _ _) ?_ ?_
  · exact alike_keys _ _
  · rw [List.length_zip]
    omega
  · have := depth_key x.2.length x.2
    omega
  · rintro v ⟨x, r⟩ ⟨rv1, rk1⟩ _ h tk kp
    obtain ⟨b, ws, rfl, hws, hst, hl2⟩ := row_of x r rk1
    cases rv1
    have e : ws.length = r.length := hst.length
    have kc := key_call (P := X.prog) (w := X.w) (A := X.A.in1.in1) (s := { s2' with heap := h, toks := tk }) (f := f) (b := b) (c' := c') (mg := X.mg) (mb := mb) (row := r) (us := ws) hr.depth (kp _ _ hf) ⟨c', oc, cvs, ct, rfl, kp _ _ hoc, hdc, hvc⟩ ((I2.mod.glob.keeps I2.bk).keeps kp) hl ((hb1.keeps I2.bk).keeps kp) ((hb2 _ (by decide)).trans (by decide +kernel)) (I2.nolimit.keeps kp) (hbind _ _ _ _ _) s1 s2 s3 s4 s5 s6 (hws.keeps kp) hst hl2
    rw [e] at kc
    exact kc
  · intro out cc h' tk kp nn hout lout eo
    have vv := vals_fst (fun _ _ z => z.1) eo
    have pm : (((xs.zip rows).mergeSort (PySem.W.dataLe false fun x : V × List Str => .tuple [.int (x.2.length : Nat), .tuple (x.2.map .str)])).map (·.1)).Perm xs := by
      have p1 := (List.mergeSort_perm (xs.zip rows) (PySem.W.dataLe false fun x : V × List Str => .tuple [.int (x.2.length : Nat), .tuple (x.2.map .str)])).map (·.1)
      rw [List.map_fst_zip (by omega)] at p1
      exact p1
    have fr : H2 (s2'.heap.objs.size + 1) = none := I2.hok.fresh (Nat.le_succ _)
    refine ⟨.ref (s2'.heap.objs.size + 1), upd H2 (s2'.heap.objs.size + 1) (.lst _), I2.laid (t' := tk) kp (Nat.le_succ _) ?_, rfl, q H2 _ _ eN T2' fr pm⟩
    exact ⟨by rw [pm.length_eq]; exact hz, out, cc, vv, hout⟩
end
end NS
/-! F1: the walks of in_order, family_of. -/
namespace NS
open PySem PySem.Spec PyProof.Rows L2
local macro_rules | `(tactic| nested_keys) => `(tactic| repeat (first | refine ⟨_, rfl, ?_⟩ | refine ⟨_, _, rfl, rfl, ?_⟩ | refine ⟨rfl, ?_⟩ | with_reducible refine iteT ?_ | with_reducible refine iteF ?_))
variable {N : Addr → Prop} {P : Program} {w : World} {K : PySem.W.Frag} {mg : Str → Option Value} {base : Heap}
/-! ### the table of in_order's code object -/
abbrev inOrd : He.Defn := ("in_order", none)
abbrev ioC (K : PySem.W.Frag) : Addr := (He.cT K inOrd).1
abbrev ioP (K : PySem.W.Frag) : Addr := (He.cT K inOrd).2
abbrev ioQ : Str := (("in_order" : Str) ++ ".<locals>.") ++ "<lambda>"
abbrev TabI (K : PySem.W.Frag) (H : Hp) : Prop := LamX.TabS H (ioP K) ioQ
abbrev TbI (K : PySem.W.Frag) (mg : Str → Option Value) (base : Heap) : Prop := LamX.TabB base mg (ioC K) (ioP K)
theorem _root_.L2.Same.extN {H H' : Hp} (s : Same H H') : LamX.ExtN H H' := LamX.ExtN.of s
theorem TabI.same {H H' : Hp} (t : TabI K H) (s : Same H H') : TabI K H' := LamX.TabS.ext t s
theorem ExtN.tups {H H' : Hp} (s : LamX.ExtN H H') : Tups H H' := fun b xs e => s b _ e (fun ps z => by cases z)
theorem ExtN.seqs {H H' : Hp} (s : LamX.ExtN H H') : Seqs H H' := ⟨ExtN.tups s, fun b xs e => s b _ e (fun ps z => by cases z)⟩
theorem ExtN.put {H0 H : Hp} {a : Addr} {o : HO} (s : LamX.ExtN H0 H) (h : H a = none) : LamX.ExtN H0 (upd H a o) := s.trans (Same.new h).extN
/-- nothing but a table at p -/
def NoneN (H : Hp) (p : Addr) : Prop := ∀ o, H p = some o → ∃ ps, o = .tbl ps
theorem NoneN.of {H H' : Hp} {p : Addr} (s : LamX.ExtN H H') (h : H' p = none) : NoneN H p := fun o e => by
  by_cases z : ∃ ps, o = .tbl ps
  · exact z
  · rw [s p o e (fun ps y => z ⟨ps, y⟩)] at h
    cases h
theorem Rks.permS {H : Hp} {vs ys : List V} (p : ys.Perm vs) : ∀ {l : List (List Str)}, Rks H (l.map dS) vs → ∃ l' : List (List Str), l'.Perm l ∧ Rks H (l'.map dS) ys := by
  induction p with
  | nil => exact fun {l} r => ⟨l, .refl _, r⟩
  | cons x _ ih =>
    intro l r
    cases l with
    | nil => cases r
    | cons a l => cases r with
      | cons r1 r2 =>
        obtain ⟨l', h1, h2⟩ := ih r2
        exact ⟨a :: l', h1.cons a, .cons r1 h2⟩
  | swap x y k =>
    intro l r
    cases l with
    | nil => cases r
    | cons a l => cases r with
      | cons r1 r2 => cases l with
        | nil => cases r2
        | cons b l => cases r2 with
          | cons r3 r4 => exact ⟨b :: a :: l, .swap _ _ _, .cons r3 (.cons r1 r4)⟩
  | trans _ _ ih1 ih2 =>
    intro l r
    obtain ⟨l1, h1, h2⟩ := ih2 r
    obtain ⟨l2, h3, h4⟩ := ih1 h2
    exact ⟨l2, h3.trans h1, h4⟩
/-! ### in_order -/
def sp_in_order (K : PySem.W.Frag) : Sp := fun vs H Q _ => ∃ (a : Addr) (rows : List (List Str)), vs = [.ref a] ∧ Ls H a (rows.map dS) ∧ TabI K H ∧
  ∀ (p : Addr) (rows' : List (List Str)) (H' : Hp), NoneN H p → LamX.ExtN H H' → TabI K H' → rows'.Perm rows → Ls H' p (rows'.map dS) → Q (.ref p) H'
theorem ok_in_order (T : Tx K mg) (B : TbI K mg base) : C8.Cal P w K mg base 1 "in_order" (sp_in_order K) [] := by
  obtain ⟨fd, F⟩ := T.says.def_ 30 (d := dd_in_order) rfl
  obtain ⟨oc, od, dV, kV, doc, pm, an, cdv, ct, osl, efd, lk, hcd, hd1, hk1⟩ := F.ex
  obtain ⟨c, rfl⟩ := He.codeIn_ref hcd
  have ec : He.codeOf K inOrd = c := He.codeOf_eq (fd := fd) lk (by rw [efd])
  subst efd
  refine ⟨_, _, _, [], fn_of lk hcd sc_in_order (fun vs H Q E ⟨_, _, h, _⟩ => by rw [h]; rfl) fun A outer s H vs Q E hr h => ?_, T.g_in_order, F.kp, FunD.bindsN F (ps := ["rows"]) fun _ _ _ _ _ _ us hl => match us, hl with | [_], _ => rfl, .nil⟩
  refine ⟨_, PSs.nox (pss_one (ps_ret (pe_sortLam (c := ioC K) (Pt := ioP K) hr (u9 hr) B (congrArg Value.ref ec.symm) (by rfl) T.f_sorted T.f_len (by rfl) (by decide +kernel) (by rfl) (fun _ _ _ _ _ => by rfl) (by rfl) (by rfl) (by rfl) (by decide +kernel) (by decide +kernel) (by decide +kernel) (pv 0) (by rfl)))), ?_⟩
  obtain ⟨a, rows, rfl, ⟨xs, ha, rk⟩, ht, q⟩ := h
  nested_keys
  refine ⟨a, xs, rows, rfl, ha, rk, ht, fun H2 p ys eN t2 np pmm => ?_⟩
  obtain ⟨rows', h1, h2⟩ := Rks.permS pmm (rk.at (ExtN.tups eN))
  have s3 : Same H2 (upd H2 p (.lst ys)) := Same.new np
  exact q p rows' _ (NoneN.of eN np) (ExtN.put eN np) (TabI.same t2 s3) h1 ⟨ys, upd_same, s3.rks h2⟩
end NS
/-! F2: the walk of family_of. -/
namespace NS
open PySem PySem.Spec PyProof.Rows L2
local macro_rules | `(tactic| nested_keys) => `(tactic| repeat (first | refine ⟨_, rfl, ?_⟩ | refine ⟨_, _, rfl, rfl, ?_⟩ | refine ⟨rfl, ?_⟩ | with_reducible refine iteT ?_ | with_reducible refine iteF ?_))
variable {N : Addr → Prop} {P : Program} {w : World} {K : PySem.W.Frag} {mg : Str → Option Value} {base : Heap}
/-- for k in e, e a new dict: locked from then on -/
def iKeysL (P : Program) (w : World) (td : TE) : TI := fun σ H R => td σ H fun x H1 => ∃ d ks, x = .ref d ∧ H1 d = some (dNO P w d ks) ∧ ∀ o, R (ItK P w d o ks) (upd H1 d (.frz o (dNO P w d ks)))
theorem pi_keysL {X : Cx} {tg e : Expr} {td : TE} (he : PE X e td) : PI X tg e (iKeysL X.prog X.w td) := by
  refine ⟨fun pins s σ H R I h => ?_⟩
  refine thn (he.run pins s σ H _ I h) fun u s1 ⟨x, H1, I1, rx, d, ks, ex, hd, q⟩ => ?_
  subst ex
  obtain rfl : u = Value.ref d := rx
  obtain ⟨od, I2⟩ := I1.lock hd trivial
  obtain ⟨hs, hgd, hx, es, ep, hdt, hsz, ent⟩ := frzN I2 (upd_same)
  refine iter_keys hs hgd hx hdt (pi_one (tk := s1.toks) I2 _ (turn_keysN _ hdt) ⟨_, Heap.get?_push_size _ rfl, rfl, ?_⟩ (q od))
  rw [hsz] <;> rfl
/-! ### family_of -/
theorem mem_rows {r : List Str} {fam : List (List Str)} : dS r ∈ fam.map dS ↔ r ∈ fam := by
  rw [List.mem_map]
  exact ⟨fun ⟨x, h1, h2⟩ => dS_inj h2 ▸ h1, fun h => ⟨r, h, rfl⟩⟩
structure FamD (P : Program) (w : World) (H : Hp) (d : Addr) (fam : List (List Str)) (ks : List Ent) : Prop where
  at_ : H d = some (dNO P w d ks)
  kys : ∀ e ∈ ks, Ky H e.1 e.2.1
  keys : ks.map (·.1) = fam.map dS
theorem FamD.move {H H' : Hp} {d : Addr} {fam : List (List Str)} {ks : List Ent} (x : FamD P w H d fam ks) (t : Tups H H') (e : H' d = H d) : FamD P w H' d fam ks := ⟨e.trans x.at_, fun e he => (x.kys e he).at t, x.keys⟩
theorem FamD.len {H : Hp} {d : Addr} {fam : List (List Str)} {ks : List Ent} (x : FamD P w H d fam ks) : ks.length = fam.length := by
  rw [← List.length_map (f := fun e : Ent => e.1), x.keys, List.length_map]
theorem FamD.rows {H : Hp} {d : Addr} {fam : List (List Str)} {ks : List Ent} (x : FamD P w H d fam ks) : Rks H (fam.map dS) (ks.map fun e => V.ref e.2.1) := by
  have go : ∀ (ks : List Ent) (fam : List (List Str)), (∀ e ∈ ks, Ky H e.1 e.2.1) → ks.map (·.1) = fam.map dS → Rks H (fam.map dS) (ks.map fun e => V.ref e.2.1) := by
    intro ks
    induction ks with
    | nil =>
      intro fam _ h
      cases fam with
      | nil => exact .nil
      | cons a l => cases h
    | cons e ks ih =>
      intro fam k h
      cases fam with
      | nil => cases h
      | cons a l =>
        rw [List.map_cons, List.map_cons] at h
        injection h with h1 h2
        rw [List.map_cons, List.map_cons]
        exact .cons (h1 ▸ (k e (by simp)).1) (ih l (fun e he => k e (by simp [he])) h2)
  exact go ks fam x.kys x.keys
def sp_family_of (K : PySem.W.Frag) (P : Program) (w : World) : Sp := fun vs H Q _ => ∃ (g kw ka b a : Addr) (S : SysM) (ns : List Nod) (ks : List Ent) (N : Addr → Prop) (H0 : Hp), vs = [.ref g, .ref b, .ref a] ∧ (∀ x, N x → H x ≠ none) ∧ Gr K P w S N g kw ka H ∧ SysG S ∧ H b = some (.tup (S.dil.map .int)) ∧
  H a = some (dNO P w a ks) ∧ Gph H ns (psucc S) ks ∧ (∀ n ∈ ns, NodOk S n) ∧ (∀ n ∈ ns, ∀ q ∈ psucc S n, q.2 ∈ ns) ∧ a ≠ kw ∧ a ≠ ka ∧ Same H0 H ∧ H0 kw = none ∧ H0 ka = none ∧ TabI K H0 ∧
  ∀ (c : Addr) (fam : List (List Str)) (H' : Hp), NoneN H0 c → LamX.ExtN H0 H' → TabI K H' → Ls H' c (fam.map dS) → fam.length ≤ 432 → (∀ r, r ∈ fam ↔ ∃ n ∈ ns, FairN S n ∧ n.2 = r) → Q (.ref c) H'
theorem ok_family_of (T : Tx K mg) (B : TbI K mg base) : C8.Cal P w K mg base 7 "family_of" (sp_family_of K P w) [] := cal_family_of T (fun vs H Q E ⟨_, _, _, _, _, _, _, _, _, _, h, _⟩ => by rw [h]; rfl) fun cdv A outer s H vs Q E hr h => by
  refine ⟨_, (pss_cons (ps_set (i := 3) sc_family_of.nd rfl (Or.inl rfl) pe_newN)
    (C8.pss_cut (ps_for PassesOwn.never rfl (pi_keysL (C8.pe_c (ok_fair_nodes T) hr (by decide) (by rfl) (pa_cons (pv 0) (pa_cons (pv 1) (pa_cons (pv 2) pa_nil))))) (pg_name (i := 4) sc_family_of.nd rfl (Or.inl rfl))
      (pss_one (ps_asg pe_bl (pg_sub (pv 3) (pe_ix ix_tup (pv 4) pe_int (fun _ _ => rfl)) (set_dN (u9 hr))))))
    (pss_one (ps_ret (C8.pe_c (ok_in_order T B) hr (by decide) (by rfl) (pa_cons (pe_callTy (call_listN rfl) (by rfl) T.f_list b_list (pa_cons (pv 3) pa_nil)) pa_nil)))))), ?_⟩
  obtain ⟨g, kw, ka, b, a, S, ns, ks, N, H0, rfl, hN, G, hG, hb, ha, GP, nok, cl, n1, n2, s0, kw0, ka0, tab, q⟩ := h
  have l432 : ns.length ≤ 432 := Nat.le_trans (nodup_le _ _ GP.nd fun x hx => (nok x hx).mem hG.ok) (length_allNod hG.ok)
  nested_keys
  intro d hd
  have s1 : Same H (upd H d (dNO P w d [])) := Same.new hd
  have hd0 : H0 d = none := s0.none hd
  obtain ⟨dkw, dka⟩ := G.kwka hd
  nested_keys
  refine ⟨fun σ' H' => Same H0 H' ∧ (∃ fam es, FamD P w H' d fam es ∧ fam.length ≤ 432 ∧ ∀ r, r ∈ fam ↔ ∃ n ∈ ns, FairN S n ∧ n.2 = r) ∧ ∃ u4, σ' = [some (V.ref g), some (V.ref b), some (V.ref a), some (V.ref d), u4], ?_, ?_⟩
  · nested_keys
    refine ⟨g, kw, ka, b, a, S, ns, ks, N, rfl, fun x hx z => hN x hx (s1.none z), G.same s1, hG, s1 _ _ hb, s1 _ _ ha, GP.at s1.seqs, nok, cl, n1, n2, fun fr Fs fs H2 nfr bt2 G2 mk2 ndF mF => ?_⟩
    have sH2 : Same H0 H2 := fun x o e => bt2 _ _ (ne_of_none e kw0) (ne_of_none e ka0) (s1 _ _ (s0 _ _ e))
    have hd2 : H2 d = some (dNO P w d []) := bt2 _ _ dkw dka upd_same
    have nfr0 : H0 fr = none := (Same.trans' s0 s1).none nfr
    have dfr : d ≠ fr := fun z => by rw [← z, upd_same] at nfr; cases nfr
    have lF : Fs.length ≤ 432 := Nat.le_trans (nodup_le _ _ ndF fun x hx => ((mF x).mp hx).1) l432
    refine ⟨fr, fs, rfl, mk2.at_, fun o => ?_⟩
    have hfr3 : upd H2 fr (.frz o (dNO P w fr fs)) fr = some (.frz o (dNO P w fr fs)) := upd_same
    have hd3 : upd H2 fr (.frz o (dNO P w fr fs)) d = some (dNO P w d []) := by rw [upd_ne dfr]; exact hd2
    have sH3 : Same H0 (upd H2 fr (.frz o (dNO P w fr fs))) := sH2.put nfr0
    have sq3 : Seqs H2 (upd H2 fr (.frz o (dNO P w fr fs))) := Seqs.ext mk2.at_ dNO_tup dNO_lst
    have kys3 : ∀ e ∈ fs, Ky (upd H2 fr (.frz o (dNO P w fr fs))) e.1 e.2.1 := fun e he => (mk2.kys e he).at sq3.t
    refine for_keysN (fun i σ' H' => Same H0 H' ∧ H' fr = some (.frz o (dNO P w fr fs)) ∧ Tups (upd H2 fr (.frz o (dNO P w fr fs))) H' ∧ (∃ fam es, FamD P w H' d fam es ∧ fam.length ≤ i ∧ ∀ r, r ∈ fam ↔ ∃ n ∈ Fs.take i, n.2 = r) ∧ ∃ u4, σ' = [some (V.ref g), some (V.ref b), some (V.ref a), some (V.ref d), u4]) ⟨sH3, hfr3, fun _ _ e => e, ⟨[], [], ⟨hd3, by simp, rfl⟩, Nat.le_refl _, by simp⟩, _, rfl⟩ (fun _ _ _ _ k => k.2.1) ?_ ?_
    · rintro i e σ4 H4 hi ⟨sm, hfr, tt, ⟨fam, es, fd, lf, mf⟩, u4, rfl⟩
      have i432 : i < 432 := by
        have h1 := (List.getElem?_eq_some_iff.mp hi).1
        have h2 := mk2.len
        omega
      obtain ⟨n, hn, en⟩ : ∃ n, Fs[i]? = some n ∧ e.1 = dNod n := by
        have h1 : (fs.map (·.1))[i]? = some e.1 := by rw [List.getElem?_map, hi]; rfl
        rw [mk2.keys, List.getElem?_map] at h1
        obtain ⟨n, h2, h3⟩ := Option.map_eq_some_iff.mp h1
        exact ⟨n, h2, h3.symm⟩
      have ky := (kys3 e (List.mem_of_getElem? hi)).at tt
      rw [en] at ky
      obtain ⟨nb, c1, c2, enb, hnb, hc1, hc2⟩ := id ky.1.nod
      have enb' : e.2.1 = nb := by injection enb
      have kc2 : Ky H4 (dS n.2) c2 := ⟨Rk.ofStrs hc2, dS_depth _⟩
      nested_keys
      refine ⟨nb, _, _, _, congrArg V.ref enb', rfl, SqT.of hnb, rfl, ?_⟩
      refine ⟨d, c2, es, dS n.2, rfl, rfl, fd.at_, fd.kys, kc2, by rw [fd.len]; exact line24 (m := 432) (by omega), ?_⟩
      have sqX : Seqs H4 (upd H4 d (dNO P w d (putN es (dS n.2) c2 (.bl true)))) := Seqs.ext fd.at_ dNO_tup dNO_lst
      refine ⟨sm.put hd0, by rw [upd_ne dfr.symm]; exact hfr, fun x xs z => sqX.t _ _ (tt _ _ z), ⟨if n.2 ∈ fam then fam else fam ++ [n.2], putN es (dS n.2) c2 (.bl true), ⟨upd_same, kys_put sqX.t fd.kys (kc2.at sqX.t) _, ?_⟩, ?_, fun r => ?_⟩, _, rfl⟩
      · rw [keys_put, fd.keys]
        by_cases z : n.2 ∈ fam
        · rw [if_pos (mem_rows.mpr z), if_pos z]
        · rw [if_neg (fun y => z (mem_rows.mp y)), if_neg z, List.map_append]
          rfl
      · split
        · omega
        · rw [List.length_append]
          simp only [List.length_cons, List.length_nil]
          omega
      · have nx : (∃ x ∈ Fs.take (i + 1), x.2 = r) ↔ (∃ x ∈ Fs.take i, x.2 = r) ∨ n.2 = r := by
          rw [take_snoc hn]
          constructor
          · rintro ⟨x, h1, h2⟩
            rw [List.mem_append, List.mem_singleton] at h1
            rcases h1 with h1 | rfl
            · exact .inl ⟨x, h1, h2⟩
            · exact .inr h2
          · rintro (⟨x, h1, h2⟩ | h2)
            · exact ⟨x, List.mem_append_left _ h1, h2⟩
            · exact ⟨n, by simp, h2⟩
        rw [nx, ← mf]
        split
        · rename_i z
          exact ⟨.inl, fun h => h.elim id fun h => h ▸ z⟩
        · rw [List.mem_append, List.mem_singleton]
          exact ⟨fun h => h.imp id Eq.symm, fun h => h.imp id Eq.symm⟩
    · rintro σ4 H4 ⟨sm, hfr, tt, ⟨fam, es, fd, lf, mf⟩, u4, rfl⟩
      have e : fs.length = Fs.length := mk2.len
      rw [e, List.take_length] at mf
      refine ⟨sm, ⟨fam, es, fd, by omega, fun r => ?_⟩, _, rfl⟩
      rw [mf]
      constructor
      · rintro ⟨n, h1, h2⟩
        exact ⟨n, ((mF n).mp h1).1, ((mF n).mp h1).2, h2⟩
      · rintro ⟨n, h1, h2, h3⟩
        exact ⟨n, (mF n).mpr ⟨h1, h2⟩, h3⟩
  · rintro σ4 H4 ⟨sm, ⟨fam, es, fd, lf, mf⟩, u4, rfl⟩
    nested_keys
    refine ⟨d, es, rfl, ⟨.of fd.at_, fd.kys⟩, fun l hl => ?_⟩
    have s5 : Same H4 (upd H4 l (.lst (es.map fun e => V.ref e.2.1))) := Same.new hl
    have sH5 := Same.trans' sm s5
    refine ⟨l, fam, rfl, ⟨_, upd_same, s5.rks fd.rows⟩, TabI.same tab sH5, fun c rows' H6 nc eN t6 pm hc => ?_⟩
    have e6 := sH5.extN.trans eN
    nested_keys
    refine q c rows' H6 (fun o e => nc o (sH5 _ _ e)) e6 t6 hc (by rw [pm.length_eq]; exact lf) fun r => ?_
    rw [pm.mem_iff, mf]
end NS
/-! F3: the walks of done_sets, always, possible. -/
namespace NS
open PySem PySem.Spec PyProof.Rows L2
local macro_rules | `(tactic| nested_keys) => `(tactic| repeat (first | refine ⟨_, rfl, ?_⟩ | refine ⟨_, _, rfl, rfl, ?_⟩ | refine ⟨rfl, ?_⟩ | with_reducible refine iteT ?_ | with_reducible refine iteF ?_))
variable {N : Addr → Prop} {P : Program} {w : World} {K : PySem.W.Frag} {mg : Str → Option Value} {base : Heap}
theorem HandAt.extN {H H' : Hp} {p : Addr} {h : HandM} (s : LamX.ExtN H H') (x : HandAt K H p h) : HandAt K H' p h := by
  obtain ⟨dx, a, b, c, h1, h2, h3, h4⟩ := x
  exact ⟨dx, a, b, c, s _ _ h1 (fun ps z => by cases z), h2.at (ExtN.tups s), s _ _ h3 (fun ps z => by cases z), s _ _ h4 (fun ps z => by cases z)⟩
theorem SysAt.extN {H H' : Hp} {p : Addr} {S : SysM} (s : LamX.ExtN H H') (x : SysAt K H p S) : SysAt K H' p S := by
  obtain ⟨dx, a, b, c, d, ps, h1, h2, h3, h4, h5, h6⟩ := x
  exact ⟨dx, a, b, c, d, ps, s _ _ h1 (fun ps z => by cases z), s _ _ h2 (fun ps z => by cases z), L2.Paired.mapP h3 fun _ _ y => HandAt.extN s y, s _ _ h4 (fun ps z => by cases z), s _ _ h5 (fun ps z => by cases z), s _ _ h6 (fun ps z => by cases z)⟩
def sp_done_sets (K : PySem.W.Frag) : Sp := fun vs H Q _ => ∃ (p : Addr) (S : SysM), vs = [.ref p] ∧ SysAt K H p S ∧ SysG S ∧ TabI K H ∧
  ∀ (c : Addr) (fam : List (List Str)) (H' : Hp), NoneN H c → LamX.ExtN H H' → TabI K H' → Ls H' c (fam.map dS) → fam.length ≤ 432 → (∀ r, r ∈ fam ↔ ∃ x, Rch (Pe S) (S.start, []) x ∧ FairN S x ∧ x.2 = r) → Q (.ref c) H'
theorem ok_done_sets (T : Tx K mg) (B : TbI K mg base) : C8.Cal P w K mg base 8 "done_sets" (sp_done_sets K) [] := cal_done_sets T (fun vs H Q E ⟨_, _, h, _⟩ => by rw [h]; rfl) fun cdv A outer s H vs Q E hr h => by
  refine ⟨_, (pss_cons (ps_set (i := 1) sc_done_sets.nd rfl (Or.inl rfl) (C8.pe_mk (ok_Ground_init T) hr (by decide) (by rfl) (pa_cons (pv 0) pa_nil)))
    (pss_one (ps_ret (C8.pe_c (ok_family_of T B) hr (by decide) (by rfl) (pa_cons (pv 1) (pa_cons (pe_fld (pv 0) rfl) (pa_cons (C8.pe_c (ok_pair_graph T) hr (by decide) (by rfl) (pa_cons (pv 1) (pa_cons (pv 0) pa_nil))) pa_nil))))))), ?_⟩
  obtain ⟨p, S, rfl, hS, hG, tab, q⟩ := h
  obtain ⟨sdx, a1, a2, a3, a4, ps, i1, i2, i3, i4, i5, i6⟩ := id hS
  nested_keys
  intro g gdx ng ngd gne
  have s6 : Same H (upd (upd H gdx (.own g)) g (.ins (He.ga K "Ground") gdx [])) := (Same.new ngd).put ng
  refine ⟨g, gdx, p, S, rfl, upd_same, hS.same s6, fun kw ka H7 nkw nka t7 GG => ?_⟩
  have s7 : Same H H7 := Same1.back s6 ng t7
  have kw0 : H kw = none := s6.none nkw
  have ka0 : H ka = none := s6.none nka
  nested_keys
  refine ⟨p, _, sdx, _, _, rfl, s7 _ _ i1, T.c_System, T.a_System_diligent, fSys_diligent, ?_⟩
  nested_keys
  refine ⟨g, kw, ka, p, S, fun _ => False, rfl, fun _ z => z.elim, GG _, hG, hS.same s7, fun gr ns ks H8 bt8 G8 hgr grw gra Gp mns => ?_⟩
  have s8 : Same H H8 := fun b o e => bt8 _ _ (ne_of_none e kw0) (ne_of_none e ka0) (s7 _ _ e)
  have nok : ∀ n ∈ ns, NodOk S n := fun n hn => (nod0 hG.ok).reach hG.ok ((mns n).mp hn)
  have cl : ∀ n ∈ ns, ∀ q ∈ psucc S n, q.2 ∈ ns := fun n hn q hq => (mns _).mpr (((mns n).mp hn).trans (.one ⟨q.1, hq⟩))
  nested_keys
  refine ⟨g, kw, ka, a2, gr, S, ns, ks, fun _ => False, H, rfl, fun _ z => z.elim, G8, hG, s8 _ _ i4, hgr, Gp, nok, cl, grw, gra, s8, kw0, ka0, tab, fun c fam H9 nc eN t9 hc lf mf => ?_⟩
  refine q c fam H9 nc eN t9 hc lf fun r => ?_
  rw [mf]
  constructor
  · rintro ⟨n, h1, h2, h3⟩
    exact ⟨n, (mns n).mp h1, h2, h3⟩
  · rintro ⟨n, h1, h2, h3⟩
    exact ⟨n, (mns n).mpr h1, h2, h3⟩
def sp_always (K : PySem.W.Frag) : Sp := fun vs H Q _ => ∃ (p : Addr) (S : SysM), vs = [.ref p] ∧ SysAt K H p S ∧ SysG S ∧ TabI K H ∧
  ∀ (c : Addr) (H' : Hp), NoneN H c → LamX.ExtN H H' → TabI K H' → H' c = some (.lst ((sureL S (S.start, [])).map .str)) → Q (.ref c) H'
theorem ok_always (T : Tx K mg) (B : TbI K mg base) : C8.Cal P w K mg base 9 "always" (sp_always K) [] := cal_always T (fun vs H Q E ⟨_, _, h, _⟩ => by rw [h]; rfl) fun cdv A outer s H vs Q E hr h => by
  refine ⟨_, (pss_one (ps_ret (C8.pe_c (ok_words_of_all T) hr (by decide) (by rfl) (pa_cons (pe_fld (pv 0) rfl) (pa_cons (C8.pe_c (ok_done_sets T B) hr (by decide) (by rfl) (pa_cons (pv 0) pa_nil)) pa_nil))))), ?_⟩
  obtain ⟨p, S, rfl, hS, hG, tab, q⟩ := h
  obtain ⟨sdx, a1, a2, a3, a4, ps, i1, i2, i3, i4, i5, i6⟩ := id hS
  have w4 := hG.ok.few2
  nested_keys
  refine ⟨p, _, sdx, _, _, rfl, i1, T.c_System, T.a_System_words, fSys_words, ?_⟩
  nested_keys
  refine ⟨p, S, rfl, hS, hG, tab, fun c fam H1 nc eN t1 hc lf mf => ?_⟩
  have eS : filt (fun x => ∀ r ∈ fam, x ∈ r) S.words = sureL S (S.start, []) := filt_congr fun x _ => by
    constructor
    · intro h n' r f
      exact h n'.2 ((mf _).mpr ⟨n', r, f, rfl⟩)
    · intro h r hr
      obtain ⟨n', h1, h2, rfl⟩ := (mf r).mp hr
      exact h n' h1 h2
  nested_keys
  refine ⟨a3, c, S.words, fam, rfl, eN _ _ i5 (fun ps z => by cases z), hc, by omega, by omega, fun su H2 nsu s2 hsu => ?_⟩
  rw [eS] at hsu
  exact q su H2 (NoneN.of eN nsu) (eN.trans s2.extN) (TabI.same t1 s2) hsu
def sp_possible (K : PySem.W.Frag) : Sp := fun vs H Q _ => ∃ (p : Addr) (S : SysM), vs = [.ref p] ∧ SysAt K H p S ∧ SysG S ∧ TabI K H ∧
  ∀ (c : Addr) (H' : Hp), NoneN H c → LamX.ExtN H H' → TabI K H' → H' c = some (.lst ((someL S (S.start, [])).map .str)) → Q (.ref c) H'
theorem ok_possible (T : Tx K mg) (B : TbI K mg base) : C8.Cal P w K mg base 9 "possible" (sp_possible K) [] := cal_possible T (fun vs H Q E ⟨_, _, h, _⟩ => by rw [h]; rfl) fun cdv A outer s H vs Q E hr h => by
  refine ⟨_, (pss_one (ps_ret (C8.pe_c (ok_words_of_some T) hr (by decide) (by rfl) (pa_cons (pe_fld (pv 0) rfl) (pa_cons (C8.pe_c (ok_done_sets T B) hr (by decide) (by rfl) (pa_cons (pv 0) pa_nil)) pa_nil))))), ?_⟩
  obtain ⟨p, S, rfl, hS, hG, tab, q⟩ := h
  obtain ⟨sdx, a1, a2, a3, a4, ps, i1, i2, i3, i4, i5, i6⟩ := id hS
  have w4 := hG.ok.few2
  nested_keys
  refine ⟨p, _, sdx, _, _, rfl, i1, T.c_System, T.a_System_words, fSys_words, ?_⟩
  nested_keys
  refine ⟨p, S, rfl, hS, hG, tab, fun c fam H1 nc eN t1 hc lf mf => ?_⟩
  have eM : filt (fun x => ∃ r ∈ fam, x ∈ r) S.words = someL S (S.start, []) := filt_congr fun x _ => by
    constructor
    · rintro ⟨r, hr, hx⟩
      obtain ⟨n', h1, h2, rfl⟩ := (mf r).mp hr
      exact ⟨n', h1, h2, hx⟩
    · rintro ⟨n', h1, h2, hx⟩
      exact ⟨n'.2, (mf _).mpr ⟨n', h1, h2, rfl⟩, hx⟩
  nested_keys
  refine ⟨a3, c, S.words, fam, rfl, eN _ _ i5 (fun ps z => by cases z), hc, by omega, by omega, fun so H2 nso s2 hso => ?_⟩
  rw [eM] at hso
  exact q so H2 (NoneN.of eN nso) (eN.trans s2.extN) (TabI.same t1 s2) hso
end NS
/-! G25: the walks of the law's draws. -/
namespace NS
open PySem PySem.Spec PyProof.Rows L2
local macro_rules | `(tactic| nested_keys) => `(tactic| repeat (first | refine ⟨_, rfl, ?_⟩ | refine ⟨_, _, rfl, rfl, ?_⟩ | refine ⟨rfl, ?_⟩ | with_reducible refine iteT ?_ | with_reducible refine iteF ?_))
variable {N : Addr → Prop} {P : Program} {w : World} {K : PySem.W.Frag} {mg : Str → Option Value} {base : Heap}
def sp_cell (K : PySem.W.Frag) : Sp := fun vs H Q _ => ∃ (a : Addr) (xs : List Int) (k : Int), vs = [.ref a, .int k] ∧ SqL K H a (xs.map .int) ∧ 0 ≤ k ∧ ∀ i : Int, Q (.int i) H
theorem ok__law_cell (T : Tx K mg) : C8.Cal P w K mg base 1 "_law_cell" (sp_cell K) [] := cal__law_cell T (fun vs H Q E ⟨_, _, _, h, _⟩ => by rw [h]; rfl) fun cdv A outer s H vs Q E hr h => by
  refine ⟨_, (pss_cons (ps_if (pt_cmpR op_lt (pv 1) (pe_callB call_len_seq (by rfl) T.f_len b_len (pa_cons (pv 0) pa_nil)) (nomark _)) (pss_one (ps_ret (pe_ix ix_list (pv 0) (pv 1) (fun _ _ => rfl)))) pss_nil)
    (pss_one (ps_ret (pe_op op_add (pe_op op_mul pe_int (pv 1)) pe_int)))), ?_⟩
  obtain ⟨a, xs, k, rfl, ha, k0, q⟩ := h
  obtain ⟨n, rfl⟩ : ∃ n : Nat, k = ((n : Nat) : Int) := ⟨k.toNat, by omega⟩
  nested_keys
  refine ⟨a, _, rfl, .inl ha, ?_⟩
  nested_keys
  refine iteD (fun c => ?_) fun c => ?_
  · have hn : n < xs.length := by rw [List.length_map] at c; omega
    nested_keys
    exact ⟨a, _, _, _, rfl, rfl, ha, atI_nat (by rw [List.getElem?_map, List.getElem?_eq_getElem hn]; rfl), q _⟩
  · nested_keys
    refine ⟨.inl ⟨by decide, by decide⟩, ?_⟩
    nested_keys
    exact q _
def Pool (H : Hp) (a : Addr) : Prop := ∃ x y z : Int, H a = some (.lst [.int x, .int y, .int z])
def sp_pool : Sp := fun vs H Q _ => ∃ (i : Int), vs = [.int i] ∧ ∀ (a : Addr) (H' : Hp), H a = none → Same H H' → Pool H' a → Q (.ref a) H'
theorem ok__law_pool (T : Tx K mg) : C8.Cal P w K mg base 1 "_law_pool" sp_pool [] := cal__law_pool T (fun vs H Q E ⟨_, h, _⟩ => by rw [h]; rfl) fun cdv A outer s H vs Q E hr h => by
  refine ⟨_, (pss_cons (ps_set (i := 1) sc__law_pool.nd rfl (Or.inl rfl) pe_int)
    (pss_cons (ps_if (pt_cmpR op_ge (pv 0) (pe_op op_pow pe_int pe_int) (nomark _)) (pss_one (ps_set (i := 1) sc__law_pool.nd rfl (Or.inl rfl) (pv 0))) pss_nil)
    (pss_one (ps_ret (pe_lst (pa_cons (pe_op op_mod (pe_callTy call_int1 (by rfl) T.f_int b_int (pa_cons (pv 0) pa_nil)) pe_int) (pa_cons (pv 1) (pa_cons pe_int pa_nil)))))))), ?_⟩
  obtain ⟨i, rfl, q⟩ := h
  nested_keys
  refine ⟨⟨by decide, by decide, by decide⟩, ?_⟩
  nested_keys
  refine iteD (fun c => ?_) fun c => ?_
  · nested_keys
    refine .inl ⟨i, rfl, ?_⟩
    nested_keys
    refine ⟨by show (0 : Int) < 2147483629; decide, ?_⟩
    nested_keys
    exact ⟨by show 3 ≤ sizeLine; decide, fun a ha => q a _ ha (Same.new ha) ⟨_, _, _, upd_same⟩⟩
  · nested_keys
    refine .inl ⟨i, rfl, ?_⟩
    nested_keys
    refine ⟨by show (0 : Int) < 2147483629; decide, ?_⟩
    nested_keys
    exact ⟨by show 3 ≤ sizeLine; decide, fun a ha => q a _ ha (Same.new ha) ⟨_, _, _, upd_same⟩⟩
def sp_draw : Sp := fun vs H Q _ => ∃ (a : Addr) (n : Int), vs = [.ref a, .int n] ∧ Pool H a ∧ 0 < n ∧ n ≤ 26 ^ 12 ∧ ∀ (d : Int) (H' : Hp), 0 ≤ d → d < n → Same1 a H H' → Pool H' a → Q (.int d) H'
theorem ok__law_draw (T : Tx K mg) : C8.Cal P w K mg base 1 "_law_draw" sp_draw [] := cal__law_draw T (fun vs H Q E ⟨_, _, h, _⟩ => by rw [h]; rfl) fun cdv A outer s H vs Q E hr h => by
  refine ⟨_, (pss_cons (ps_asg (pe_op op_add (pe_ix ix_list (pv 0) pe_int (fun _ _ => rfl)) pe_int) (pg_sub (pv 0) pe_int set_list))
    (pss_cons (ps_if (pt_cmpR op_gt (pe_ix ix_list (pv 0) pe_int (fun _ _ => rfl)) pe_int (nomark _)) (pss_cons (ps_set (i := 2) sc__law_draw.nd rfl (Or.inl rfl) (pe_op op_mod (pe_callTy call_int1 (by rfl) T.f_int b_int (pa_cons (pe_ix ix_list (pv 0) pe_int (fun _ _ => rfl)) pa_nil)) (pv 1)))
    (pss_cons (ps_asg (pe_op op_fdivW (pe_ix ix_list (pv 0) pe_int (fun _ _ => rfl)) (pv 1)) (pg_sub (pv 0) pe_int set_list))
    (pss_one (ps_ret (pv 2))))) pss_nil)
    (pss_cons (ps_set (i := 3) sc__law_draw.nd rfl (Or.inl rfl) (pe_op op_mod (pe_callTy call_int1 (by rfl) T.f_int b_int (pa_cons (pe_op op_mul (pe_op op_add (pe_op op_add (pe_ix ix_list (pv 0) pe_int (fun _ _ => rfl)) (pe_op op_mul pe_int (pe_ix ix_list (pv 0) pe_int (fun _ _ => rfl)))) pe_int) pe_int) pa_nil)) pe_int))
    (pss_cons (ps_set (i := 3) sc__law_draw.nd rfl (Or.inl rfl) (pe_op op_mod (pe_callTy call_int1 (by rfl) T.f_int b_int (pa_cons (pe_op op_mul (pv 3) (pe_op op_add (pe_op op_fdivW (pv 3) pe_int) pe_int)) pa_nil)) pe_int))
    (pss_cons (ps_set (i := 3) sc__law_draw.nd rfl (Or.inl rfl) (pe_op op_mod (pe_callTy call_int1 (by rfl) T.f_int b_int (pa_cons (pe_op op_mul (pv 3) (pe_op op_add (pe_op op_fdivW (pv 3) pe_int) pe_int)) pa_nil)) pe_int))
    (pss_one (ps_ret (pe_op op_mod (pe_callTy call_int1 (by rfl) T.f_int b_int (pa_cons (pe_op op_fdivW (pv 3) pe_int) pa_nil)) (pv 1))))))))), ?_⟩
  obtain ⟨a, n, rfl, ⟨x, y, z, ha⟩, n0, n12, q⟩ := h
  have dn : ∀ i : Int, CDivW i n := fun i => wide_div (b := 64) n0 (by
    have : (26 : Int) ^ 12 = 95428956661682176 := by decide
    omega) (by decide) (by decide)
  have dc : ∀ (i k : Int), 0 < k → k ≤ 2003 → CDivW i k := fun i k h1 h2 => wide_div (b := 64) h1 (by omega) (by decide) (by decide)
  nested_keys
  refine ⟨a, _, _, _, rfl, rfl, SqL.of ha, rfl, ?_⟩
  nested_keys
  refine ⟨a, _, _, 2, rfl, rfl, ha, rfl, ?_⟩
  have s1 : Same1 a H (upd H a (.lst [.int x, .int y, .int (z + 1)])) := Same1.own Same.refl'.one
  have h1 : upd H a (.lst [.int x, .int y, .int (z + 1)]) a = some (.lst [.int x, .int y, .int (z + 1)]) := upd_same
  nested_keys
  refine ⟨a, _, _, _, rfl, rfl, SqL.of h1, rfl, ?_⟩
  nested_keys
  refine iteD (fun c => ?_) fun c => ?_
  · nested_keys
    refine ⟨a, _, _, _, rfl, rfl, SqL.of h1, rfl, ?_⟩
    refine .inl ⟨y, rfl, ?_⟩
    nested_keys
    refine ⟨n0, ?_⟩
    nested_keys
    refine ⟨a, _, _, _, rfl, rfl, SqL.of h1, rfl, ?_⟩
    nested_keys
    refine ⟨dn _, ?_⟩
    nested_keys
    refine ⟨a, _, _, 1, rfl, rfl, h1, rfl, ?_⟩
    nested_keys
    exact q _ _ (Int.emod_nonneg _ (by omega)) (Int.emod_lt_of_pos _ n0) s1.own ⟨_, _, _, upd_same⟩
  · nested_keys
    refine ⟨a, _, _, _, rfl, rfl, SqL.of h1, rfl, ?_⟩
    nested_keys
    refine ⟨a, _, _, _, rfl, rfl, SqL.of h1, rfl, ?_⟩
    nested_keys
    refine ⟨.inl ⟨by decide, by decide⟩, ?_⟩
    nested_keys
    refine ⟨.inr ⟨by decide, by decide⟩, ?_⟩
    refine .inl ⟨_, rfl, ?_⟩
    nested_keys
    refine ⟨by show (0 : Int) < 2147483647; decide, ?_⟩
    have m1 : ∀ k : Int, 0 ≤ k % 2147483647 ∧ k % 2147483647 < 2147483647 := fun k => ⟨Int.emod_nonneg _ (by decide), Int.emod_lt_of_pos _ (by decide)⟩
    generalize hk1 : ((x + 7919 * (z + 1) + 1) * 48271) % 2147483647 = k1
    have b1 : 0 ≤ k1 ∧ k1 < 2147483647 := hk1 ▸ m1 _
    nested_keys
    refine ⟨dc _ _ (by decide) (by decide), ?_⟩
    nested_keys
    refine ⟨.inl ⟨by omega, by omega⟩, ?_⟩
    refine .inl ⟨_, rfl, ?_⟩
    nested_keys
    refine ⟨by show (0 : Int) < 2147483647; decide, ?_⟩
    generalize hk2 : (k1 * (k1 / 1009 + 69621)) % 2147483647 = k2
    have b2 : 0 ≤ k2 ∧ k2 < 2147483647 := hk2 ▸ m1 _
    nested_keys
    refine ⟨dc _ _ (by decide) (by decide), ?_⟩
    nested_keys
    refine ⟨.inl ⟨by omega, by omega⟩, ?_⟩
    refine .inl ⟨_, rfl, ?_⟩
    nested_keys
    refine ⟨by show (0 : Int) < 2147483399; decide, ?_⟩
    nested_keys
    refine ⟨dc _ _ (by decide) (by decide), ?_⟩
    refine .inl ⟨_, rfl, ?_⟩
    nested_keys
    refine ⟨n0, ?_⟩
    exact q _ _ (Int.emod_nonneg _ (by omega)) (Int.emod_lt_of_pos _ n0) s1 ⟨_, _, _, h1⟩
end NS
/-! G26: the walks of the law's names. -/
namespace NS
open PySem PySem.Spec PyProof.Rows L2
local macro_rules | `(tactic| nested_keys) => `(tactic| repeat (first | refine ⟨_, rfl, ?_⟩ | refine ⟨_, _, rfl, rfl, ?_⟩ | refine ⟨rfl, ?_⟩ | with_reducible refine iteT ?_ | with_reducible refine iteF ?_))
variable {N : Addr → Prop} {P : Program} {w : World} {K : PySem.W.Frag} {mg : Str → Option Value} {base : Heap}
theorem abc_at {r : Int} (h0 : 0 ≤ r) (h1 : r < 26) : atI (Str.ofString "abcdefghijklmnopqrstuvwxyz").cps.toList r = some (97 + r.toNat) := by
  have e : ∀ k : _root_.Fin 26, atI (Str.ofString "abcdefghijklmnopqrstuvwxyz").cps.toList ((k.1 : Nat) : Int) = some (97 + k.1) := by decide +kernel
  have := e ⟨r.toNat, by omega⟩
  rwa [show ((r.toNat : Nat) : Int) = r by omega] at this
def sp_name : Sp := fun vs H Q _ => ∃ (n : Int), vs = [.int n] ∧ 0 ≤ n ∧ n < 26 ^ 12 ∧ ∀ z : Str, NameOk z → Q (.str z) H
theorem ok__law_name (T : Tx K mg) : C8.Cal P w K mg base 1 "_law_name" sp_name [] := cal__law_name T (fun vs H Q E ⟨_, h, _⟩ => by rw [h]; rfl) fun cdv A outer s H vs Q E hr h => by
  refine ⟨_, (pss_cons (ps_set (i := 1) sc__law_name.nd rfl (Or.inl rfl) pe_str)
    (pss_cons (ps_set (i := 2) sc__law_name.nd rfl (Or.inl rfl) (pe_op op_add (pv 0) pe_int))
    (C8.pss_cut (ps_while PassesOwn.never (pt_cmpR op_gt (pv 2) pe_int (nomark _))
      (pss_cons (ps_set (i := 2) sc__law_name.nd rfl (Or.inl rfl) (pe_op op_sub (pv 2) pe_int))
    (pss_cons (ps_set (i := 1) sc__law_name.nd rfl (Or.inl rfl) (pe_op op_add_str (pe_ix ix_str pe_str (pe_op op_mod (pe_callTy call_int1 (by rfl) T.f_int b_int (pa_cons (pv 2) pa_nil)) pe_int) (fun _ _ => rfl)) (pv 1)))
    (pss_one (ps_set (i := 2) sc__law_name.nd rfl (Or.inl rfl) (pe_op op_fdivW (pv 2) pe_int))))))
    (pss_one (ps_ret (pv 1)))))), ?_⟩
  obtain ⟨n, rfl, n0, n12, q⟩ := h
  nested_keys
  refine ⟨fun σ' H' => H' = H ∧ ∃ z : Str, NameOk z ∧ ∃ u, σ' = [some (V.int n), some (.str z), u], ?_, ?_⟩
  · refine ⟨fun m σ' H' => H' = H ∧ ∃ (z : Str) (left : Int) (j : Nat), m = left.toNat ∧ 0 ≤ left ∧ j ≤ 12 ∧ z.cps.size = j ∧ (∀ c ∈ z.cps.toList, 97 ≤ c ∧ c ≤ 122) ∧ left * 26 ^ j ≤ n + 1 ∧ (1 ≤ j → left * 26 ^ j ≤ n) ∧ (j = 0 → left = n + 1) ∧ σ' = [some (V.int n), some (.str z), some (.int left)], ⟨(n + 1).toNat, rfl, "", n + 1, 0, rfl, by omega, by omega, rfl, (by intro c hc; cases hc), by simp, by omega, fun _ => rfl, rfl⟩, ?_⟩
    rintro m σ' H' ⟨rfl, z, left, j, em, l0, j12, zs, zl, b1, b2, b3, rfl⟩
    nested_keys
    refine iteD (fun c => ?_) fun c => ?_
    · have jlt : j < 12 := by
        rcases Nat.lt_or_ge j 12 with h | h
        · exact h
        · have : j = 12 := by omega
          subst this
          have h1 := b2 (by decide)
          have h2 : (1 : Int) * 26 ^ 12 ≤ left * 26 ^ 12 := Int.mul_le_mul_of_nonneg_right (by omega) (by decide)
          omega
      refine ⟨fun σ' H' => ∃ m', m' < m ∧ _, fun _ _ k => k, ?_⟩
      nested_keys
      refine .inl ⟨left - 1, rfl, ?_⟩
      nested_keys
      refine ⟨by show (0 : Int) < 26; decide, ?_⟩
      have r0 : 0 ≤ (left - 1) % 26 := Int.emod_nonneg _ (by decide)
      have r1 : (left - 1) % 26 < 26 := Int.emod_lt_of_pos _ (by decide)
      refine ⟨_, _, _, rfl, rfl, by decide +kernel, abc_at r0 r1, ?_⟩
      nested_keys
      refine ⟨line24 (m := 1000) (by show 1 + z.cps.size ≤ 1000; omega) |> Nat.le_of_lt, ?_⟩
      nested_keys
      refine ⟨⟨by decide, by decide +kernel⟩, ?_⟩
      have d1 : (left - 1) / 26 * 26 ≤ left - 1 := by omega
      have d2 : (left - 1) / 26 < left := by omega
      have d3 : 0 ≤ (left - 1) / 26 := by omega
      have p0 : (0 : Int) ≤ 26 ^ j := Int.le_of_lt (Int.pow_pos (by decide))
      have e1 : (left - 1) / 26 * 26 ^ (j + 1) ≤ left * 26 ^ j - 26 ^ j := by
        have h1 : (left - 1) / 26 * 26 * 26 ^ j ≤ (left - 1) * 26 ^ j := Int.mul_le_mul_of_nonneg_right d1 p0
        rw [Int.pow_succ, Int.mul_comm (26 ^ j) 26, ← Int.mul_assoc]
        rw [Int.sub_mul, Int.one_mul] at h1
        exact h1
      have p1 : (1 : Int) ≤ 26 ^ j := Int.pow_pos (by decide)
      refine ⟨((left - 1) / 26).toNat, by omega, rfl, _, _, j + 1, rfl, d3, by omega, ?_, ?_, by omega, fun _ => by omega, fun z => by omega, rfl⟩
      · show (#[97 + ((left - 1) % 26).toNat] ++ z.cps).size = j + 1
        rw [Array.size_append]
        simp only [List.size_toArray, List.length_cons, List.length_nil]
        omega
      · intro c hc
        have hc' : c ∈ (#[97 + ((left - 1) % 26).toNat] ++ z.cps).toList := hc
        rw [Array.toList_append, List.mem_append] at hc'
        rcases hc' with hc' | hc'
        · simp only [List.mem_singleton] at hc'
          omega
        · exact zl c hc'
    · have l00 : left = 0 := by omega
      have j1 : 1 ≤ j := by
        rcases Nat.lt_or_ge 0 j with h | h
        · exact h
        · have := b3 (by omega)
          omega
      exact ⟨rfl, z, ⟨by omega, by omega, zl⟩, _, rfl⟩
  · rintro σ2 H2 ⟨rfl, z, hz, u, rfl⟩
    nested_keys
    exact q z hz
end NS
/-! G27: the walk of _law_names. -/
namespace NS
open PySem PySem.Spec PyProof.Rows L2
local macro_rules | `(tactic| nested_keys) => `(tactic| repeat (first | refine ⟨_, rfl, ?_⟩ | refine ⟨_, _, rfl, rfl, ?_⟩ | refine ⟨rfl, ?_⟩ | with_reducible refine iteT ?_ | with_reducible refine iteF ?_))
variable {N : Addr → Prop} {P : Program} {w : World} {K : PySem.W.Frag} {mg : Str → Option Value} {base : Heap}
theorem Same1.trans {a : Addr} {H H1 H2 : Hp} (s : Same1 a H H1) (t : Same1 a H1 H2) : Same1 a H H2 := fun b o n e => t b o n (s b o n e)
theorem Same1.none {a b : Addr} {H H1 : Hp} (s : Same1 a H H1) (n : b ≠ a) (h : H1 b = none) : H b = none := by
  cases e : H b with
  | none => rfl
  | some o => rw [s b o n e] at h; cases h
theorem Pool.ne {H : Hp} {a b : Addr} (p : Pool H a) (h : H b = none) : b ≠ a := fun z => by
  obtain ⟨x, y, u, h1⟩ := p
  rw [z, h1] at h
  cases h
theorem Pool.put {H : Hp} {a b : Addr} {o : HO} (p : Pool H a) (n : b ≠ a) : Pool (upd H b o) a := by
  obtain ⟨x, y, u, h1⟩ := p
  exact ⟨x, y, u, by rw [upd_ne n.symm]; exact h1⟩
theorem Same1.pput {p a : Addr} {H0 H : Hp} {o : HO} (s : Same1 p H0 H) (h : H0 a = Option.none) : Same1 p H0 (upd H a o) := fun b u n e => by rw [upd_ne (ne_of_none e h)]; exact s b u n e
theorem p26 : (26 : Int) ^ (12 : Int).toNat = 26 ^ 12 := by decide
def sp_lnames : Sp := fun vs H Q _ => ∃ (a : Addr) (many : Nat), vs = [.ref a, .int (many : Nat)] ∧ Pool H a ∧ 1 ≤ many ∧ many ≤ 4 ∧
  ∀ (c : Addr) (names : List Str) (H' : Hp), H c = none → Same1 a H H' → Pool H' a → H' c = some (.lst (names.map .str)) → names.length = many → (∀ x ∈ names, NameOk x) → Q (.ref c) H'
theorem ok__law_names (T : Tx K mg) : C8.Cal P w K mg base 2 "_law_names" sp_lnames [] := cal__law_names T (fun vs H Q E ⟨_, _, h, _⟩ => by rw [h]; rfl) fun cdv A outer s H vs Q E hr h => by
  refine ⟨_, (pss_cons (ps_set (i := 2) sc__law_names.nd rfl (Or.inl rfl) (pe_lst pa_nil))
    (C8.pss_cut (ps_for PassesOwn.never rfl (pi_range1 (by rfl) T.f_range (pa_cons (pv 1) pa_nil)) (pg_name (i := 3) sc__law_names.nd rfl (Or.inl rfl))
      (pss_cons (ps_set (i := 4) sc__law_names.nd rfl (Or.inl rfl) (C8.pe_c (ok__law_draw T) hr (by decide) (by rfl) (pa_cons (pv 0) (pa_cons pe_int pa_nil))))
    (C8.pss_cut (ps_if (pt_cmpR op_eq (C8.pe_c (ok__law_draw T) hr (by decide) (by rfl) (pa_cons (pv 0) (pa_cons pe_int pa_nil))) pe_int (nomark _)) (pss_one (ps_set (i := 4) sc__law_names.nd rfl (Or.inl rfl) (C8.pe_c (ok__law_draw T) hr (by decide) (by rfl) (pa_cons (pv 0) (pa_cons (pe_op op_pow pe_int pe_int) pa_nil))))) pss_nil)
    (C8.pss_cut (ps_for PassesOwn.never rfl (pi_range1 (by rfl) T.f_range (pa_cons (pv 3) pa_nil)) (pg_name (i := 5) sc__law_names.nd rfl (Or.inl rfl))
      (pss_one (ps_if (pt_cmpR op_in_seq (pv 4) (pv 2) (by rfl)) (pss_one (ps_set (i := 4) sc__law_names.nd rfl (Or.inl rfl) (pe_op op_mod (pe_callTy call_int1 (by rfl) T.f_int b_int (pa_cons (pe_op op_add (pv 4) pe_int) pa_nil)) (pe_op op_pow pe_int pe_int)))) pss_nil)))
    (pss_one (ps_expr (pe_bm PySem.F.plainAttrs_list PySem.F.slot_list_append PySem.F.type_list_append mt_append (pv 2) (pa_cons (pv 4) pa_nil))))))))
    (pss_one (ps_ret (pe_lc (own := [("_law_number", 4)]) (g := gName 4) (tt := tYes) (by rfl) sc__law_names.nd (pi_list (pv 2)) (blkOk_by (own := [("_law_number", 4)]) (N := n__law_names) (sc := defScope s__law_names) (by decide +kernel)) (fun _ _ _ _ _ => pg_name (i := 4) sc__law_names.nd rfl (Or.inl rfl)) (fun _ _ _ _ _ => pts_nil) (fun _ _ _ _ _ => (C8.pe_c (ok__law_name (P := P) (w := w) (base := base) T) hr (by decide) (by rfl) (pa_cons (pv 4) pa_nil)))))))), ?_⟩
  obtain ⟨a, many, rfl, hp, m1, m4, q⟩ := h
  nested_keys
  refine ⟨Nat.zero_le _, fun nl hnl => ?_⟩
  have na := hp.ne hnl
  have s0 : Same1 a H (upd H nl (.lst [])) := (Same.new hnl).one
  refine ⟨fun σ' H' => Same1 a H H' ∧ Pool H' a ∧ (∃ ns : List Int, H' nl = some (.lst (ns.map .int)) ∧ ns.length = many ∧ ∀ n ∈ ns, 0 ≤ n ∧ n < 26 ^ 12) ∧ ∃ u3 u4 u5, σ' = [some (V.ref a), some (.int (many : Nat)), some (.ref nl), u3, u4, u5], ?_, ?_⟩
  · nested_keys
    refine ⟨by omega, by omega, ?_⟩
    refine for_it walk_range (fun i σ' H' => Same1 a H H' ∧ Pool H' a ∧ (∃ ns : List Int, H' nl = some (.lst (ns.map .int)) ∧ ns.length = i ∧ ∀ n ∈ ns, 0 ≤ n ∧ n < 26 ^ 12) ∧ ∃ u3 u4 u5, σ' = [some (V.ref a), some (.int (many : Nat)), some (.ref nl), u3, u4, u5]) ⟨s0, hp.put na, ⟨[], upd_same, rfl, by simp⟩, _, _, _, rfl⟩ (fun _ _ _ _ _ => trivial) ?_ ?_
    · rintro i x σ2 H2 H3 hi ⟨sm, hp2, ⟨ns, hk, ln, rg⟩, u3, u4, u5, rfl⟩ ⟨rfl, rfl⟩
      have i4 : i < 4 := by
        have : (((many : Nat) : Int)).toNat = many := by omega
        omega
      nested_keys
      refine ⟨a, 26, rfl, hp2, by decide, by decide, fun d1 H4 d10 d11 t4 hp4 => ?_⟩
      refine ⟨fun σ' H' => Same1 a H H' ∧ Pool H' a ∧ H' nl = some (.lst (ns.map .int)) ∧ ∃ n0 : Int, 0 ≤ n0 ∧ n0 < 26 ^ 12 ∧ ∃ u5, σ' = [some (V.ref a), some (.int (many : Nat)), some (.ref nl), some (.int (0 + (i : Nat))), some (.int n0), u5], ?_, ?_⟩
      · nested_keys
        refine ⟨a, 4, rfl, hp4, by decide, by decide, fun d2 H5 d20 d21 t5 hp5 => ?_⟩
        have sm5 := (sm.trans t4).trans t5
        have hk5 : H5 nl = some (.lst (ns.map .int)) := t5 _ _ na (t4 _ _ na hk)
        have lt26 : (26 : Int) ≤ 26 ^ 12 := by decide
        nested_keys
        refine iteD (fun c => ?_) fun c => ?_
        · nested_keys
          refine ⟨⟨by decide, by decide, by decide⟩, ?_⟩
          refine ⟨a, _, rfl, hp5, by decide, by decide, fun d3 H6 d30 d31 t6 hp6 => ?_⟩
          nested_keys
          exact ⟨sm5.trans t6, hp6, t6 _ _ na hk5, d3, d30, d31, _, rfl⟩
        · nested_keys
          exact ⟨sm5, hp5, hk5, d1, d10, by omega, _, rfl⟩
      · rintro σ5 H5 ⟨sm5, hp5, hk5, n0, n00, n01, u5', rfl⟩
        refine ⟨fun σ' H' => H' = H5 ∧ ∃ n0 : Int, 0 ≤ n0 ∧ n0 < 26 ^ 12 ∧ ∃ u5, σ' = [some (V.ref a), some (.int (many : Nat)), some (.ref nl), some (.int (0 + (i : Nat))), some (.int n0), u5], ?_, ?_⟩
        · nested_keys
          refine ⟨by omega, by omega, ?_⟩
          refine for_it walk_range (fun k σ' H' => H' = H5 ∧ ∃ n0 : Int, 0 ≤ n0 ∧ n0 < 26 ^ 12 ∧ ∃ u5, σ' = [some (V.ref a), some (.int (many : Nat)), some (.ref nl), some (.int (0 + (i : Nat))), some (.int n0), u5]) ⟨rfl, n0, n00, n01, _, rfl⟩ (fun _ _ _ _ _ => trivial) ?_ fun _ _ k => k
          rintro k x σ6 H6 H7 hk6 ⟨rfl, n1, n10, n11, u6, rfl⟩ ⟨rfl, rfl⟩
          nested_keys
          refine ⟨nl, _, rfl, .inl (SqL.of hk5), rfl, flat_ints _, ?_⟩
          rw [inV_num]
          nested_keys
          refine iteD (fun c => ?_) fun c => ?_
          · nested_keys
            refine .inl ⟨_, rfl, ?_⟩
            nested_keys
            refine ⟨⟨by decide, by decide, by decide⟩, ?_⟩
            nested_keys
            refine ⟨by show (0 : Int) < 26 ^ 12; decide, ?_⟩
            exact ⟨rfl, _, Int.emod_nonneg _ (by decide), Int.emod_lt_of_pos _ (by decide), _, rfl⟩
          · exact ⟨rfl, n1, n10, n11, _, rfl⟩
        · rintro σ6 H6 ⟨rfl, n1, n10, n11, u6, rfl⟩
          nested_keys
          refine ⟨.inl ⟨rfl, _, SqL.of hk5⟩, ?_⟩
          nested_keys
          refine ⟨nl, _, _, rfl, rfl, hk5, by rw [List.length_map]; exact line24 (m := 4) (by omega), ?_⟩
          refine ⟨sm5.pput hnl, hp5.put na, ⟨ns ++ [n1], by rw [upd_same, List.map_append]; rfl, by rw [List.length_append, ln]; rfl, fun n hn => ?_⟩, _, _, _, rfl⟩
          rw [List.mem_append, List.mem_singleton] at hn
          rcases hn with hn | rfl
          · exact rg n hn
          · exact ⟨n10, n11⟩
    · rintro σ2 H2 ⟨sm, hp2, ⟨ns, hk, ln, rg⟩, k⟩
      exact ⟨sm, hp2, ⟨ns, hk, by omega, rg⟩, k⟩
  · rintro σ2 H2 ⟨sm, hp2, ⟨ns, hk, ln, rg⟩, u3, u4, u5, rfl⟩
    nested_keys
    refine ⟨⟨_, SqL.of hk⟩, fun D hD => ?_⟩
    have nD := hp2.ne hD
    refine lc_it (walk_li (ns.map V.int)) (fun i H' => Same1 a H H' ∧ Pool H' a ∧ H' nl = some (.lst (ns.map .int)) ∧ ∃ zs : List Str, H' D = some (.lst (zs.map .str)) ∧ zs.length = i ∧ ∀ z ∈ zs, NameOk z) ?_ (fun _ _ _ k => SqL.of k.2.2.1) ?_ ?_
    · exact ⟨sm.put hD, hp2.put nD, by rw [upd_ne (ne_of_none hk hD)]; exact hk, [], upd_same, rfl, by simp⟩
    · rintro i x H3 H4 hi ⟨sm3, hp3, hk3, zs, hz, lz, okz⟩ ⟨rfl, hx⟩
      rw [List.getElem?_map] at hx
      obtain ⟨n, hn, rfl⟩ := Option.map_eq_some_iff.mp hx
      obtain ⟨r0, r1⟩ := rg n (List.mem_of_getElem? hn)
      have i4 : i < 4 := by
        have := (List.getElem?_eq_some_iff.mp hn).1
        omega
      nested_keys
      refine ⟨r0, r1, fun z hzz => ?_⟩
      refine ⟨_, hz, by rw [List.length_map]; exact line24 (m := 4) (by omega), sm3.pput (sm.none nD hD), hp3.put nD, by rw [upd_ne (fun e => by rw [e, hD] at hk; cases hk)]; exact hk3, zs ++ [z], by rw [upd_same, List.map_append]; rfl, by rw [List.length_append, lz]; rfl, ?_⟩
      intro y hy
      rw [List.mem_append, List.mem_singleton] at hy
      rcases hy with hy | rfl
      · exact okz y hy
      · exact hzz
    · rintro H3 ⟨sm3, hp3, hk3, zs, hz, lz, okz⟩
      exact q D zs _ (sm.none nD hD) sm3 hp3 hz (by rw [lz, List.length_map, ln]) okz
end NS
/-! G28: the walk of _law_steps. -/
namespace NS
open PySem PySem.Spec PyProof.Rows L2
local macro_rules | `(tactic| nested_keys) => `(tactic| repeat (first | refine ⟨_, rfl, ?_⟩ | refine ⟨_, _, rfl, rfl, ?_⟩ | refine ⟨rfl, ?_⟩ | with_reducible refine iteT ?_ | with_reducible refine iteF ?_))
variable {N : Addr → Prop} {P : Program} {w : World} {K : PySem.W.Frag} {mg : Str → Option Value} {base : Heap}
/-- a pool and what it does not touch -/
structure Drw (a : Addr) (H H' : Hp) : Prop where
  s : Same1 a H H'
  p : Pool H' a
theorem Drw.at {a b : Addr} {H H' : Hp} {o : HO} (d : Drw a H H') (h : H b = some o) (n : b ≠ a) : H' b = some o := d.s b o n h
theorem Pool.no {H : Hp} {a b : Addr} (p : Pool H a) {xs : List V} (h : H b = some (.tup xs)) : b ≠ a := fun z => by
  obtain ⟨x, y, u, h1⟩ := p
  rw [z, h1] at h
  cases h
theorem Same1.tups {a : Addr} {H H' : Hp} (s : Same1 a H H') (p : Pool H a) : Tups H H' := fun b xs e => s b _ (p.no e) e
theorem pick {α : Type} {l : List α} {d : Int} (h0 : 0 ≤ d) (h1 : d < (l.length : Int)) : ∃ (k : Nat) (x : α), d = ((k : Nat) : Int) ∧ l[k]? = some x := by
  obtain ⟨k, rfl⟩ : ∃ k : Nat, d = ((k : Nat) : Int) := ⟨d.toNat, by omega⟩
  exact ⟨k, l[k]'(by omega), rfl, List.getElem?_eq_getElem (by omega)⟩
theorem small26 {n : Nat} (h : n ≤ 100) : ((n : Nat) : Int) ≤ 26 ^ 12 := by
  have : (100 : Int) ≤ 26 ^ 12 := by decide
  omega
def sp_lsteps : Sp := fun vs H Q _ => ∃ (a nl sl : Addr) (names : List Str) (states : List Int) (many : Nat), vs = [.ref a, .ref nl, .ref sl, .int (many : Nat)] ∧ Pool H a ∧ H nl = some (.lst (names.map .str)) ∧ nl ≠ a ∧ H sl = some (.lst (states.map .int)) ∧ sl ≠ a ∧
  1 ≤ names.length ∧ names.length ≤ 4 ∧ 1 ≤ states.length ∧ states.length ≤ 3 ∧ many ≤ 5 ∧ (∀ x ∈ names, NameOk x) ∧ (∀ s ∈ states, StateOk s) ∧
  ∀ (c : Addr) (ss : List Stp) (H' : Hp), H c = none → Same1 a H H' → Pool H' a → Ls H' c (ss.map dStep) → ss.length ≤ many → (1 ≤ many → 1 ≤ ss.length) → (∀ s ∈ ss, s.1 ∈ states ∧ s.2.1 ∈ names ∧ s.2.2 ∈ states) → Q (.ref c) H'
theorem step_fine {names : List Str} {states : List Int} (h1 : ∀ x ∈ names, NameOk x) (h2 : ∀ s ∈ states, StateOk s) {s : Stp} (h : s.1 ∈ states ∧ s.2.1 ∈ names ∧ s.2.2 ∈ states) : Fine (dStep s) := fine_step ⟨h2 _ h.1, h1 _ h.2.1, h2 _ h.2.2⟩
theorem ok__law_steps (T : Tx K mg) : C8.Cal P w K mg base 2 "_law_steps" sp_lsteps [] := cal__law_steps T (fun vs H Q E ⟨_, _, _, _, _, _, h, _⟩ => by rw [h]; rfl) fun cdv A outer s H vs Q E hr h => by
  refine ⟨_, (pss_cons (ps_set (i := 4) sc__law_steps.nd rfl (Or.inl rfl) (pe_lst pa_nil))
    (C8.pss_cut (ps_for PassesOwn.never rfl (pi_range1 (by rfl) T.f_range (pa_cons (pv 3) pa_nil)) (pg_name (i := 5) sc__law_steps.nd rfl (Or.inl rfl))
      (pss_cons (ps_set (i := 6) sc__law_steps.nd rfl (Or.inr rfl) (pe_ix ix_list (pv 2) (C8.pe_c (ok__law_draw T) hr (by decide) (by rfl) (pa_cons (pv 0) (pa_cons (pe_callB call_len_seq (by rfl) T.f_len b_len (pa_cons (pv 2) pa_nil)) pa_nil))) (fun _ _ => rfl)))
    (pss_cons (ps_set (i := 7) sc__law_steps.nd rfl (Or.inl rfl) (pe_ix ix_list (pv 1) (C8.pe_c (ok__law_draw T) hr (by decide) (by rfl) (pa_cons (pv 0) (pa_cons (pe_callB call_len_seq (by rfl) T.f_len b_len (pa_cons (pv 1) pa_nil)) pa_nil))) (fun _ _ => rfl)))
    (pss_cons (ps_set (i := 8) sc__law_steps.nd rfl (Or.inl rfl) (pe_tup (pa_cons (pv 6) (pa_cons (pv 7) (pa_cons (pe_ix ix_list (pv 2) (C8.pe_c (ok__law_draw T) hr (by decide) (by rfl) (pa_cons (pv 0) (pa_cons (pe_callB call_len_seq (by rfl) T.f_len b_len (pa_cons (pv 2) pa_nil)) pa_nil))) (fun _ _ => rfl)) pa_nil)))))
    (pss_one (ps_if (PW.pt (pw_and (pt_cmpR (op_ninL (u65 hr)) (pv 8) (pv 4) (by rfl)) (pw_and1 (pt_cmpR op_lt (pe_callB call_len_seq (by rfl) T.f_len b_len (pa_cons (pe_lc (own := [("_law_one", 9)]) (g := gName 9) (by rfl) sc__law_steps.nd (pi_list (pv 4)) (blkOk_by (own := [("_law_one", 9)]) (N := n__law_steps) (sc := defScope s__law_steps) (by decide +kernel)) (fun _ _ _ _ _ => pg_name (i := 9) sc__law_steps.nd rfl (Or.inl rfl)) (fun _ _ _ _ _ => pts_one (pt_cmpR op_eq (pe_ix (ix_tupB (K := K) rfl) (pv 9) pe_int (fun _ _ => rfl)) (pv 6) (nomark _))) (fun _ _ _ _ _ => (pv 9))) pa_nil)) pe_int (nomark _))))) (pss_one (ps_expr (pe_bm PySem.F.plainAttrs_list PySem.F.slot_list_append PySem.F.type_list_append mt_append (pv 4) (pa_cons (pv 8) pa_nil)))) pss_nil))))))
    (pss_one (ps_ret (pv 4))))), ?_⟩
  obtain ⟨a, nl, sl, names, states, many, rfl, hp, hnl, nna, hsl, nsa, n1, n4, t1, t3, m5, nok, sok, q⟩ := h
  nested_keys
  refine ⟨Nat.zero_le _, fun c hc => ?_⟩
  have nca := hp.ne hc
  refine ⟨fun σ' H' => Same1 a H H' ∧ Pool H' a ∧ (∃ ss : List Stp, Ls H' c (ss.map dStep) ∧ ss.length ≤ many ∧ (1 ≤ many → 1 ≤ ss.length) ∧ ∀ s ∈ ss, s.1 ∈ states ∧ s.2.1 ∈ names ∧ s.2.2 ∈ states) ∧ ∃ u5 u6 u7 u8 u9, σ' = [some (V.ref a), some (.ref nl), some (.ref sl), some (.int (many : Nat)), some (.ref c), u5, u6, u7, u8, u9], ?_, ?_⟩
  · nested_keys
    refine ⟨by omega, by omega, ?_⟩
    refine for_it walk_range (fun i σ' H' => Same1 a H H' ∧ Pool H' a ∧ (∃ ss : List Stp, Ls H' c (ss.map dStep) ∧ ss.length ≤ i ∧ (1 ≤ i → 1 ≤ ss.length) ∧ ∀ s ∈ ss, s.1 ∈ states ∧ s.2.1 ∈ names ∧ s.2.2 ∈ states) ∧ ∃ u5 u6 u7 u8 u9, σ' = [some (V.ref a), some (.ref nl), some (.ref sl), some (.int (many : Nat)), some (.ref c), u5, u6, u7, u8, u9]) ⟨(Same.new hc).one, hp.put nca, ⟨[], ⟨[], upd_same, .nil⟩, by simp, by simp, by simp⟩, _, _, _, _, _, rfl⟩ (fun _ _ _ _ _ => trivial) ?_ ?_
    · rintro i x σ2 H2 H3 hi ⟨sm, hp3, ⟨ss, ⟨sv, hc3, rc3⟩, ls, one, oks⟩, u5, u6, u7, u8, u9, rfl⟩ ⟨rfl, rfl⟩
      have i5 : i < 5 := by omega
      have nsl : sl ≠ a := nsa
      have fin : ∀ s ∈ ss, Fine (dStep s) := fun s hs => step_fine nok sok (oks s hs)
      nested_keys
      refine ⟨sl, _, rfl, .inl (SqL.of (sm _ _ nsa hsl)), ?_⟩
      refine ⟨a, _, rfl, hp3, by rw [List.length_map]; omega, by rw [List.length_map]; exact small26 (by omega), fun d1 H4 d10 d11 t4 hp4 => ?_⟩
      rw [List.length_map] at d11
      obtain ⟨k1, x1, rfl, hx1⟩ := pick d10 d11
      have sm4 := sm.trans t4
      nested_keys
      refine ⟨sl, _, _, _, rfl, rfl, SqL.of (sm4 _ _ nsa hsl), atI_nat (by rw [List.getElem?_map, hx1]; rfl), ?_⟩
      nested_keys
      refine ⟨nl, _, rfl, .inl (SqL.of (sm4 _ _ nna hnl)), ?_⟩
      refine ⟨a, _, rfl, hp4, by rw [List.length_map]; omega, by rw [List.length_map]; exact small26 (by omega), fun d2 H5 d20 d21 t5 hp5 => ?_⟩
      rw [List.length_map] at d21
      obtain ⟨k2, x2, rfl, hx2⟩ := pick d20 d21
      have sm5 := sm4.trans t5
      nested_keys
      refine ⟨nl, _, _, _, rfl, rfl, SqL.of (sm5 _ _ nna hnl), atI_nat (by rw [List.getElem?_map, hx2]; rfl), ?_⟩
      nested_keys
      refine ⟨sl, _, rfl, .inl (SqL.of (sm5 _ _ nsa hsl)), ?_⟩
      refine ⟨a, _, rfl, hp5, by rw [List.length_map]; omega, by rw [List.length_map]; exact small26 (by omega), fun d3 H6 d30 d31 t6 hp6 => ?_⟩
      rw [List.length_map] at d31
      obtain ⟨k3, x3, rfl, hx3⟩ := pick d30 d31
      have sm6 := sm5.trans t6
      refine ⟨sl, _, _, _, rfl, rfl, SqL.of (sm6 _ _ nsa hsl), atI_nat (by rw [List.getElem?_map, hx3]; rfl), ?_⟩
      refine ⟨by show 3 ≤ sizeLine; decide, fun t ht => ?_⟩
      have s67 : Same H6 (upd H6 t (.tup [.int x1, .str x2, .int x3])) := Same.new ht
      have t37 : Same1 a H3 (upd H6 t (.tup [.int x1, .str x2, .int x3])) := ((t4.trans t5).trans t6).then s67
      have tp37 : Tups H3 (upd H6 t (.tup [.int x1, .str x2, .int x3])) := t37.tups hp3
      have sm7 : Same1 a H (upd H6 t (.tup [.int x1, .str x2, .int x3])) := sm6.then s67
      have hp7 : Pool (upd H6 t (.tup [.int x1, .str x2, .int x3])) a := hp6.put (hp6.ne ht)
      have hc7 := t37 _ _ nca hc3
      have rc7 := rc3.at tp37
      have rt7 : Rk (upd H6 t (.tup [.int x1, .str x2, .int x3])) (dStep (x1, x2, x3)) (.ref t) := Rk.ofStep upd_same
      generalize upd H6 t (.tup [.int x1, .str x2, .int x3]) = H7 at s67 t37 tp37 sm7 hp7 hc7 rc7 rt7 |-
      have okN : x1 ∈ states ∧ x2 ∈ names ∧ x3 ∈ states := ⟨List.mem_of_getElem? hx1, List.mem_of_getElem? hx2, List.mem_of_getElem? hx3⟩
      nested_keys
      refine ⟨_, _, c, _, rt7, rfl, SqL.of hc7, rc7, step_fine (s := (x1, x2, x3)) nok sok okN, (fun j hj => by
        obtain ⟨z, hz, rfl⟩ := List.mem_map.mp hj
        exact fin z hz), ?_⟩
      have keep : ∀ H', 1 ≤ ss.length → Same H7 H' → Same1 a H H' ∧ Pool H' a ∧ (∃ ss : List Stp, Ls H' c (ss.map dStep) ∧ ss.length ≤ i + 1 ∧ (1 ≤ i + 1 → 1 ≤ ss.length) ∧ ∀ s ∈ ss, s.1 ∈ states ∧ s.2.1 ∈ names ∧ s.2.2 ∈ states) := fun H' one1 s => by
        refine ⟨sm7.then s, ?_, ss, ⟨sv, s _ _ hc7, s.rks rc7⟩, by omega, fun _ => one1, oks⟩
        obtain ⟨x, y, z, h⟩ := hp7
        exact ⟨x, y, z, s _ _ h⟩
      nested_keys
      cases e : decide (dStep (x1, x2, x3) ∈ ss.map dStep) with
      | true =>
        nested_keys
        have one1 : 1 ≤ ss.length := by
          cases ss with
          | nil => simp at e
          | cons _ _ => simp
        obtain ⟨k1, k2, k3⟩ := keep H7 one1 Same.refl'
        exact ⟨k1, k2, k3, _, _, _, _, _, rfl⟩
      | false =>
        nested_keys
        refine ⟨⟨_, SqL.of hc7⟩, fun D hD => ?_⟩
        refine lc_it (walk_li sv) (fun k H' => Same H7 H' ∧ ∃ us, H' D = some (.lst us) ∧ us.length ≤ k) ⟨Same.new hD, [], upd_same, Nat.le_refl _⟩ (fun _ _ _ k => SqL.of (k.1 _ _ hc7)) ?_ ?_
        · rintro k x H8 H9 hk ⟨sm8, us, hD8, lus⟩ ⟨rfl, hx⟩
          obtain ⟨st, g1, g2⟩ := rc7.mapV hx
          obtain ⟨bb, rfl, hbb⟩ := (sm8.rk g2).step
          have k5 : k < 5 := by
            have := (List.getElem?_eq_some_iff.mp g1).1
            omega
          nested_keys
          refine ⟨bb, _, _, _, rfl, rfl, SqT.of hbb, rfl, ?_⟩
          nested_keys
          refine iteD (fun cc => ?_) fun cc => ?_
          · nested_keys
            exact ⟨us, hD8, line24 (m := 5) (by omega), sm8.put hD, _, upd_same, by rw [List.length_append]; simp only [List.length_cons, List.length_nil]; omega⟩
          · exact ⟨sm8, us, hD8, by omega⟩
        · rintro H8 ⟨sm8, us, hD8, lus⟩
          refine ⟨D, us, rfl, .inl (SqL.of hD8), ?_⟩
          nested_keys
          refine iteD (fun cc => ?_) fun cc => ?_
          · nested_keys
            have hc8 := sm8 _ _ hc7
            refine ⟨.inl ⟨rfl, _, SqL.of hc8⟩, ?_⟩
            nested_keys
            refine ⟨c, sv, _, rfl, rfl, hc8, by rw [rc7.len]; exact line24 (m := 5) (by omega), ?_⟩
            have tt := Tups.put (o := .lst (sv ++ [.ref t])) hc8 (fun xs z => by cases z)
            have hp8 : Pool H8 a := by
              obtain ⟨x, y, z, h⟩ := hp7
              exact ⟨x, y, z, sm8 _ _ h⟩
            refine ⟨(sm7.then sm8).pput hc, hp8.put nca, ⟨ss ++ [(x1, x2, x3)], ⟨_, upd_same, ?_⟩, by rw [List.length_append]; simp only [List.length_cons, List.length_nil]; omega, fun _ => by rw [List.length_append]; simp, fun s hs => ?_⟩, _, _, _, _, _, rfl⟩
            · rw [List.map_append]
              exact ((sm8.rks rc7).at tt).append (.cons ((sm8.rk rt7).at tt) .nil)
            · rw [List.mem_append, List.mem_singleton] at hs
              rcases hs with hs | rfl
              · exact oks s hs
              · exact okN
          · nested_keys
            obtain ⟨k1, k2, k3⟩ := keep H8 (by rw [rc7.len] at lus; omega) sm8
            exact ⟨k1, k2, k3, _, _, _, _, _, rfl⟩
    · rintro σ2 H2 ⟨sm, hp2, ⟨ss, hk, ln, on, rg⟩, k⟩
      exact ⟨sm, hp2, ⟨ss, hk, by omega, fun z => on (by omega), rg⟩, k⟩
  · rintro σ2 H2 ⟨sm, hp2, ⟨ss, hk, ln, on, rg⟩, u5, u6, u7, u8, u9, rfl⟩
    nested_keys
    exact q c ss _ hc sm hp2 hk ln on rg
end NS
/-! G29: the walk of _law_hand. -/
namespace NS
open PySem PySem.Spec PyProof.Rows L2
local macro_rules | `(tactic| nested_keys) => `(tactic| repeat (first | refine ⟨_, rfl, ?_⟩ | refine ⟨_, _, rfl, rfl, ?_⟩ | refine ⟨rfl, ?_⟩ | with_reducible refine iteT ?_ | with_reducible refine iteF ?_))
variable {N : Addr → Prop} {P : Program} {w : World} {K : PySem.W.Frag} {mg : Str → Option Value} {base : Heap}
/-- what a row of the law says of a hand -/
structure RowOk (names : List Str) (start : Int) (ss : List Stp) : Prop where
  st : StepsOk ss
  pool : ∃ pool : List Int, pool.length ≤ 3 ∧ start ∈ pool ∧ (∀ s ∈ ss, s.1 ∈ pool ∧ s.2.2 ∈ pool) ∧ ∀ s ∈ pool, StateOk s
  wd : ∀ s ∈ ss, s.2.1 ∈ names
/-- steps in the making -/
structure StepsIn (names : List Str) (sts : List Int) (ss : List Stp) : Prop where
  few : ss.length ≤ 5
  nd : ss.Nodup
  four : ∀ s, leaves ss s ≤ 4
  ok : ∀ s ∈ ss, s.1 ∈ sts ∧ s.2.1 ∈ names ∧ s.2.2 ∈ sts
theorem leaves_snoc (ss : List Stp) (x : Stp) (s : Int) : leaves (ss ++ [x]) s = leaves ss s + (if x.1 = s then 1 else 0) := by
  unfold leaves
  rw [List.filter_append, List.length_append]
  by_cases h : x.1 = s <;> simp [h]
theorem StepsIn.snoc {names : List Str} {sts : List Int} {ss : List Stp} (k : StepsIn names sts ss) {x : Stp} (hx : x.1 ∈ sts ∧ x.2.1 ∈ names ∧ x.2.2 ∈ sts) (no : x ∉ ss) (l4 : leaves ss x.1 < 4) (l5 : ss.length < 5) : StepsIn names sts (ss ++ [x]) := by
  refine ⟨by rw [List.length_append]; simp only [List.length_cons, List.length_nil]; omega, ?_, fun s => ?_, fun s hs => ?_⟩
  · rw [List.nodup_append]
    exact ⟨k.nd, by simp, fun a ha b hb e => by
      rw [List.mem_singleton] at hb
      exact no (hb ▸ e ▸ ha)⟩
  · rw [leaves_snoc]
    split
    · rename_i e
      subst e
      omega
    · exact k.four s
  · rw [List.mem_append, List.mem_singleton] at hs
    rcases hs with hs | rfl
    · exact k.ok s hs
    · exact hx
theorem leaves_zero {ss : List Stp} {s : Int} (h : s ∉ ss.map (·.1)) : leaves ss s = 0 := by
  unfold leaves
  rw [List.length_eq_zero_iff, List.filter_eq_nil_iff]
  intro x hx z
  exact h (List.mem_map.mpr ⟨x, hx, of_decide_eq_true z⟩)
def sp_lhand : Sp := fun vs H Q _ => ∃ (a nl : Addr) (names : List Str), vs = [.ref a, .ref nl, .int 3, .int 5] ∧ Pool H a ∧ H nl = some (.lst (names.map .str)) ∧ nl ≠ a ∧ 1 ≤ names.length ∧ names.length ≤ 4 ∧ (∀ x ∈ names, NameOk x) ∧
  ∀ (t sl : Addr) (start : Int) (ss : List Stp) (H' : Hp), Same1 a H H' → Pool H' a → H' t = some (.tup [.int start, .ref sl]) → Ls H' sl (ss.map dStep) → H sl = none → RowOk names start ss → Q (.ref t) H'
theorem ok__law_hand (T : Tx K mg) : C8.Cal P w K mg base 3 "_law_hand" sp_lhand [] := cal__law_hand T (fun vs H Q E ⟨_, _, _, h, _⟩ => by rw [h]; rfl) fun cdv A outer s H vs Q E hr h => by
  refine ⟨_, (pss_cons (ps_set (i := 4) sc__law_hand.nd rfl (Or.inl rfl) (C8.pe_c (ok__law_draw T) hr (by decide) (by rfl) (pa_cons (pv 0) (pa_cons pe_int pa_nil))))
    (pss_cons (ps_set (i := 5) sc__law_hand.nd rfl (Or.inr rfl) (C8.pe_c (ok__law_draw T) hr (by decide) (by rfl) (pa_cons (pv 0) (pa_cons pe_int pa_nil))))
    (pss_cons (ps_set (i := 6) sc__law_hand.nd rfl (Or.inr rfl) (pe_op op_add pe_int (C8.pe_c (ok__law_draw T) hr (by decide) (by rfl) (pa_cons (pv 0) (pa_cons pe_int pa_nil)))))
    (pss_cons (ps_setLc (i := 8) (own := [("_law_k", 7)]) (g := gName 7) (tt := tYes) (by rfl) sc__law_hand.nd rfl rfl (sw_true rfl rfl rfl (by decide +kernel)) (pi_range1 (by rfl) T.f_range (pa_cons (pe_op op_add pe_int (C8.pe_c (ok__law_draw T) hr (by decide) (by rfl) (pa_cons (pv 0) (pa_cons (pv 2) pa_nil)))) pa_nil)) (blkOk_by (own := [("_law_k", 7)]) (N := n__law_hand) (sc := defScope s__law_hand) (by decide +kernel)) (fun _ _ _ _ _ => pg_name (i := 7) sc__law_hand.nd rfl (Or.inl rfl)) (fun _ _ _ _ _ => pts_nil) (fun _ _ _ _ _ => (pe_op op_add (pv 5) (pe_op op_mul (pv 6) (pv 7)))))
    (pss_cons (ps_set (i := 9) sc__law_hand.nd rfl (Or.inl rfl) (pe_ix ix_list (pv 8) (C8.pe_c (ok__law_draw T) hr (by decide) (by rfl) (pa_cons (pv 0) (pa_cons (pe_callB call_len_seq (by rfl) T.f_len b_len (pa_cons (pv 8) pa_nil)) pa_nil))) (fun _ _ => rfl)))
    (pss_cons (ps_set (i := 10) sc__law_hand.nd rfl (Or.inl rfl) (pe_lst pa_nil))
    (C8.pss_cut (ps_if (pt_cmpR op_gt (pv 4) pe_int (nomark _)) (pss_one (ps_for PassesOwn.never rfl (pi_range1 (by rfl) T.f_range (pa_cons (pe_callB call_len_seq (by rfl) T.f_len b_len (pa_cons (pv 8) pa_nil)) pa_nil)) (pg_name (i := 7) sc__law_hand.nd rfl (Or.inl rfl))
      (pss_cons (ps_set (i := 11) sc__law_hand.nd rfl (Or.inl rfl) (pe_ix ix_list (pv 1) (C8.pe_c (ok__law_draw T) hr (by decide) (by rfl) (pa_cons (pv 0) (pa_cons (pe_callB call_len_seq (by rfl) T.f_len b_len (pa_cons (pv 1) pa_nil)) pa_nil))) (fun _ _ => rfl)))
    (pss_one (ps_expr (pe_bm PySem.F.plainAttrs_list PySem.F.slot_list_append PySem.F.type_list_append mt_append (pv 10) (pa_cons (pe_tup (pa_cons (pe_ix ix_list (pv 8) (pv 7) (fun _ _ => rfl)) (pa_cons (pv 11) (pa_cons (pe_ix ix_list (pv 8) (pe_op op_mod (pe_callTy call_int1 (by rfl) T.f_int b_int (pa_cons (pe_op op_add (pv 7) pe_int) pa_nil)) (pe_callB call_len_seq (by rfl) T.f_len b_len (pa_cons (pv 8) pa_nil))) (fun _ _ => rfl)) pa_nil)))) pa_nil))))))) pss_nil)
    (C8.pss_cut (ps_for PassesOwn.never rfl (pi_list (C8.pe_c (ok__law_steps T) hr (by decide) (by rfl) (pa_cons (pv 0) (pa_cons (pv 1) (pa_cons (pv 8) (pa_cons (pe_op op_add pe_int (C8.pe_c (ok__law_draw T) hr (by decide) (by rfl) (pa_cons (pv 0) (pa_cons (pv 3) pa_nil)))) pa_nil)))))) (pg_name (i := 12) sc__law_hand.nd rfl (Or.inr rfl))
      (pss_cons (ps_set (i := 13) sc__law_hand.nd rfl (Or.inl rfl) (pe_callB call_len_seq (by rfl) T.f_len b_len (pa_cons (pe_lc (own := [("_law_one", 14)]) (g := gName 14) (by rfl) sc__law_hand.nd (pi_list (pv 10)) (blkOk_by (own := [("_law_one", 14)]) (N := n__law_hand) (sc := defScope s__law_hand) (by decide +kernel)) (fun _ _ _ _ _ => pg_name (i := 14) sc__law_hand.nd rfl (Or.inl rfl)) (fun _ _ _ _ _ => pts_one (pt_cmpR op_eq (pe_ix (ix_tupB (K := K) rfl) (pv 14) pe_int (fun _ _ => rfl)) (pe_ix (ix_tupB (K := K) rfl) (pv 12) pe_int (fun _ _ => rfl)) (nomark _))) (fun _ _ _ _ _ => (pv 14))) pa_nil)))
    (pss_one (ps_if (PW.pt (pw_and (pt_cmpR (op_ninL (u65 hr)) (pv 12) (pv 10) (by rfl)) (pw_and (pt_cmpR op_lt (pv 13) pe_int (nomark _)) (pw_and1 (pt_cmpR op_lt (pe_callB call_len_seq (by rfl) T.f_len b_len (pa_cons (pv 10) pa_nil)) (pv 3) (nomark _)))))) (pss_one (ps_expr (pe_bm PySem.F.plainAttrs_list PySem.F.slot_list_append PySem.F.type_list_append mt_append (pv 10) (pa_cons (pv 12) pa_nil)))) pss_nil))))
    (pss_one (ps_ret (pe_tup (pa_cons (pv 9) (pa_cons (pv 10) pa_nil))))))))))))), ?_⟩
  obtain ⟨a, nl, names, rfl, hp, hnl, nna, n1, n4, nok, q⟩ := h
  nested_keys
  refine ⟨a, 3, rfl, hp, by decide, by decide, fun d1 H1 d10 d11 t1 hp1 => ?_⟩
  nested_keys
  refine ⟨a, 79, rfl, hp1, by decide, by decide, fun d2 H2 d20 d21 t2 hp2 => ?_⟩
  nested_keys
  refine ⟨a, 3, rfl, hp2, by decide, by decide, fun d3 H3 d30 d31 t3 hp3 => ?_⟩
  nested_keys
  refine ⟨a, 3, rfl, hp3, by decide, by decide, fun d4 H4 d40 d41 t4 hp4 => ?_⟩
  have sm4 := ((t1.trans t2).trans t3).trans t4
  clear t1 t2 t3 t4 hp1 hp2 hp3
  obtain ⟨n, en⟩ : ∃ n : Nat, 1 + d4 = ((n : Nat) : Int) := ⟨(1 + d4).toNat, by omega⟩
  nested_keys
  refine ⟨by omega, by omega, fun D hD => ?_⟩
  have nDa := hp4.ne hD
  refine lc_it walk_range (fun i H' => Same H4 H' ∧ H' D = some (.lst (((List.range i).map fun k : Nat => d2 + (1 + d3) * (0 + (k : Int))).map V.int))) ⟨Same.new hD, upd_same⟩ (fun _ _ _ _ => trivial) ?_ ?_
  · rintro i x H5 H6 hi ⟨sm5, hk⟩ ⟨rfl, rfl⟩
    nested_keys
    refine ⟨.inl ⟨by omega, by omega⟩, ?_⟩
    nested_keys
    refine ⟨_, hk, by rw [List.length_map, List.length_map, List.length_range]; exact line24 (m := 10) (by omega), sm5.put hD, ?_⟩
    rw [upd_same, List.range_succ, List.map_append, List.map_append]
    rfl
  · rintro H5 ⟨sm5, hD5⟩
    rw [show (1 + d4).toNat = n by omega] at hD5
    have sl0 : ((List.range n).map fun k : Nat => d2 + (1 + d3) * (0 + (k : Int))).length = n := by rw [List.length_map, List.length_range]
    have sok : ∀ s ∈ (List.range n).map fun k : Nat => d2 + (1 + d3) * (0 + (k : Int)), StateOk s := fun s hs => by
      obtain ⟨k, hk, rfl⟩ := List.mem_map.mp hs
      have hk := List.mem_range.mp hk
      have k2 : (k : Int) ≤ 2 := by omega
      have h1 : (1 + d3) * (0 + (k : Int)) ≤ 3 * 2 := Int.le_trans (Int.mul_le_mul_of_nonneg_right (by omega : 1 + d3 ≤ 3) (by omega)) (by omega)
      have h2 : 0 ≤ (1 + d3) * (0 + (k : Int)) := Int.mul_nonneg (by omega) (by omega)
      exact ⟨by omega, by omega⟩
    have snd : ((List.range n).map fun k : Nat => d2 + (1 + d3) * (0 + (k : Int))).Nodup := by
      refine List.pairwise_map.mpr ((List.nodup_range (n := n)).imp fun {i j} ne e => ne ?_)
      have h1 : (1 + d3) * (0 + (i : Int)) = (1 + d3) * (0 + (j : Int)) := by omega
      have h2 := Int.eq_of_mul_eq_mul_left (by omega : (1 + d3) ≠ 0) h1
      omega
    generalize ((List.range n).map fun k : Nat => d2 + (1 + d3) * (0 + (k : Int))) = sts at hD5 sl0 sok snd |-
    have n1' : 1 ≤ n := by omega
    have n3' : n ≤ 3 := by omega
    have hp5 : Pool H5 a := by
      obtain ⟨x, y, z, h⟩ := hp4
      exact ⟨x, y, z, sm5 _ _ h⟩
    have smH5 := sm4.then sm5
    nested_keys
    refine ⟨D, _, rfl, .inl (SqL.of hD5), ?_⟩
    refine ⟨a, _, rfl, hp5, by rw [List.length_map]; omega, by rw [List.length_map]; exact small26 (by omega), fun d5 H6 d50 d51 t6 hp6 => ?_⟩
    rw [List.length_map] at d51
    obtain ⟨k5, start, rfl, hst⟩ := pick d50 d51
    have hD6 := t6 _ _ nDa hD5
    have sm6 := smH5.trans t6
    nested_keys
    refine ⟨D, _, _, _, rfl, rfl, SqL.of hD6, atI_nat (by rw [List.getElem?_map, hst]; rfl), ?_⟩
    nested_keys
    refine ⟨Nat.zero_le _, fun sl hsl => ?_⟩
    have nsa := hp6.ne hsl
    have slD : D ≠ sl := fun z => by rw [z, hsl] at hD6; cases hD6
    have slN : H sl = none := sm6.none nsa hsl
    have sm7 : Same1 a H (upd H6 sl (.lst [])) := sm6.put hsl
    have hp7 : Pool (upd H6 sl (.lst [])) a := hp6.put nsa
    have hD7 : upd H6 sl (.lst []) D = some (.lst (sts.map .int)) := by rw [upd_ne slD]; exact hD6
    have hsl7 : Ls (upd H6 sl (.lst [])) sl (([] : List Stp).map dStep) := ⟨[], upd_same, .nil⟩
    generalize upd H6 sl (.lst []) = H7 at sm7 hp7 hD7 hsl7 |-
    nested_keys
    refine ⟨fun σ' H' => Same1 a H H' ∧ Pool H' a ∧ H' D = some (.lst (sts.map .int)) ∧ (∃ ss : List Stp, Ls H' sl (ss.map dStep) ∧ StepsIn names sts ss) ∧ ∃ u5 u6 u7 u11 u12 u13 u14, σ' = [some (V.ref a), some (.ref nl), some (.int 3), some (.int 5), some (.int d1), u5, u6, u7, some (.ref D), some (.int start), some (.ref sl), u11, u12, u13, u14], ?_, ?_⟩
    · nested_keys
      refine iteD (fun cc => ?_) fun cc => ?_
      · nested_keys
        refine ⟨D, _, rfl, .inl (SqL.of hD7), ?_⟩
        nested_keys
        refine ⟨by rw [List.length_map]; omega, by rw [List.length_map]; omega, ?_⟩
        refine for_it walk_range (fun i σ' H' => Same1 a H H' ∧ Pool H' a ∧ H' D = some (.lst (sts.map .int)) ∧ (∃ ss : List Stp, Ls H' sl (ss.map dStep) ∧ StepsIn names sts ss ∧ ss.length = i ∧ ss.map (·.1) = sts.take i) ∧ ∃ u5 u6 u7 u11 u12 u13 u14, σ' = [some (V.ref a), some (.ref nl), some (.int 3), some (.int 5), some (.int d1), u5, u6, u7, some (.ref D), some (.int start), some (.ref sl), u11, u12, u13, u14]) ⟨sm7, hp7, hD7, ⟨[], hsl7, ⟨by simp, by simp, by simp [leaves], by simp⟩, rfl, rfl⟩, _, _, _, _, _, _, _, rfl⟩ (fun _ _ _ _ _ => trivial) ?_ ?_
        · rintro i x σ8 H8 H9 hi ⟨sm8, hp8, hD8, ⟨ss, ⟨sv, hs8, rs8⟩, in8, len8, fst8⟩, u5, u6, u7, u11, u12, u13, u14, rfl⟩ ⟨rfl, rfl⟩
          rw [List.length_map] at hi
          have hi' : i < sts.length := by omega
          nested_keys
          refine ⟨nl, _, rfl, .inl (SqL.of (sm8 _ _ nna hnl)), ?_⟩
          refine ⟨a, _, rfl, hp8, by rw [List.length_map]; omega, by rw [List.length_map]; exact small26 (by omega), fun d6 H10 d60 d61 t10 hp10 => ?_⟩
          rw [List.length_map] at d61
          obtain ⟨k6, wd, rfl, hwd⟩ := pick d60 d61
          have sm10 := sm8.trans t10
          have hD10 := t10 _ _ nDa hD8
          have hs10 := t10 _ _ nsa hs8
          have rs10 := rs8.at (t10.tups hp8)
          nested_keys
          refine ⟨nl, _, _, _, rfl, rfl, SqL.of (sm10 _ _ nna hnl), atI_nat (by rw [List.getElem?_map, hwd]; rfl), ?_⟩
          nested_keys
          refine ⟨.inl ⟨rfl, _, SqL.of hs10⟩, ?_⟩
          nested_keys
          refine ⟨D, _, _, _, rfl, rfl, SqL.of hD10, by rw [Int.zero_add]; exact atI_nat (by rw [List.getElem?_map, List.getElem?_eq_getElem hi']; rfl), ?_⟩
          nested_keys
          refine .inl ⟨_, rfl, ?_⟩
          nested_keys
          refine ⟨D, _, rfl, .inl (SqL.of hD10), ?_⟩
          nested_keys
          refine ⟨by rw [List.length_map]; omega, ?_⟩
          have e1 := Int.emod_nonneg (0 + (i : Int) + 1) (b := ((sts.map V.int).length : Int)) (by rw [List.length_map]; omega)
          have e2 := Int.emod_lt_of_pos (0 + (i : Int) + 1) (b := ((sts.map V.int).length : Int)) (by rw [List.length_map]; omega)
          obtain ⟨k7, s7, e7, hs7⟩ := pick (l := sts) e1 (by rw [List.length_map] at e2 ⊢; exact e2)
          refine ⟨D, _, _, V.int s7, rfl, rfl, SqL.of hD10, (congrArg (atI _) e7).trans (atI_nat (by rw [List.getElem?_map, hs7]; rfl)), ?_⟩
          refine ⟨by show 3 ≤ sizeLine; decide, fun t ht => ?_⟩
          have s11 : Same H10 (upd H10 t (.tup [.int sts[i], .str wd, .int s7])) := Same.new ht
          have hs11 := s11 _ _ hs10
          refine ⟨sl, _, _, rfl, rfl, hs11, by rw [rs10.len]; exact line24 (m := 10) (by omega), ?_⟩
          have tt := Tups.put (o := .lst (sv ++ [.ref t])) hs11 (fun xs z => by cases z)
          have nf : sts[i] ∉ ss.map (·.1) := by
            rw [fst8]
            exact nodup_take snd (List.getElem?_eq_getElem hi')
          refine ⟨(sm10.then s11).pput slN, (hp10.put (hp10.ne ht)).put nsa, by rw [upd_ne slD]; exact s11 _ _ hD10, ⟨ss ++ [(sts[i], wd, s7)], ⟨_, upd_same, ?_⟩, in8.snoc ⟨List.getElem_mem hi', List.mem_of_getElem? hwd, List.mem_of_getElem? hs7⟩ (fun z => nf (List.mem_map.mpr ⟨_, z, rfl⟩)) (by rw [leaves_zero nf]; decide) (by omega), by rw [List.length_append, len8]; rfl, ?_⟩, _, _, _, _, _, _, _, rfl⟩
          · rw [List.map_append]
            exact ((rs10.at s11.tups).at tt).append (.cons (Rk.ofStep (s := (sts[i], wd, s7)) (tt _ _ upd_same)) .nil)
          · rw [List.map_append, fst8, take_snoc (List.getElem?_eq_getElem hi')]
            rfl
        · rintro σ8 H8 ⟨a1, a2, a3, ⟨ss, a4, a5, _⟩, k⟩
          exact ⟨a1, a2, a3, ⟨ss, a4, a5⟩, k⟩
      · nested_keys
        exact ⟨sm7, hp7, hD7, ⟨[], hsl7, ⟨by simp, by simp, by simp [leaves], by simp⟩⟩, _, _, _, _, _, _, _, rfl⟩
    · rintro σ8 H8 ⟨sm8, hp8, hD8, ⟨ss, hs8, in8⟩, u5, u6, u7, u11, u12, u13, u14, rfl⟩
      refine ⟨fun σ' H' => Same1 a H H' ∧ Pool H' a ∧ (∃ ss : List Stp, Ls H' sl (ss.map dStep) ∧ StepsIn names sts ss ∧ 1 ≤ ss.length) ∧ ∃ u5 u6 u7 u11 u12 u13 u14, σ' = [some (V.ref a), some (.ref nl), some (.int 3), some (.int 5), some (.int d1), u5, u6, u7, some (.ref D), some (.int start), some (.ref sl), u11, u12, u13, u14], ?_, ?_⟩
      · nested_keys
        refine ⟨a, 5, rfl, hp8, by decide, by decide, fun d6 H9 d60 d61 t9 hp9 => ?_⟩
        obtain ⟨m, em⟩ : ∃ m : Nat, 1 + d6 = ((m : Nat) : Int) := ⟨(1 + d6).toNat, by omega⟩
        have sm9 := sm8.trans t9
        have hD9 := t9 _ _ nDa hD8
        nested_keys
        refine ⟨a, nl, D, names, sts, m, (show [V.ref a, V.ref nl, V.ref D, V.int (1 + d6)] = _ by rw [em]), hp9, sm9 _ _ nna hnl, nna, hD9, nDa, n1, n4, by omega, by omega, by omega, nok, sok, fun c2 ss2 H10 nc2 t10 hp10 hc2 l2 one2 ok2 => ?_⟩
        obtain ⟨cv, hcv, rcv⟩ := hc2
        have sm10 := sm9.trans t10
        obtain ⟨sv8, hs8, rs8⟩ := hs8
        have hs10 := t10 _ _ nsa (t9 _ _ nsa hs8)
        have rs10 := (rs8.at (t9.tups hp8)).at (t10.tups hp9)
        have cs : c2 ≠ sl := fun z => by rw [z, t9 _ _ nsa hs8] at nc2; cases nc2
        have nca := hp9.ne nc2
        nested_keys
        refine ⟨⟨_, SqL.of hcv⟩, for_it (walk_li cv) (fun i σ' H' => Same1 a H H' ∧ Pool H' a ∧ H' c2 = some (.lst cv) ∧ Tups H10 H' ∧ (∃ ss : List Stp, Ls H' sl (ss.map dStep) ∧ StepsIn names sts ss ∧ (1 ≤ i → 1 ≤ ss.length)) ∧ ∃ u5 u6 u7 u11 u12 u13 u14, σ' = [some (V.ref a), some (.ref nl), some (.int 3), some (.int 5), some (.int d1), u5, u6, u7, some (.ref D), some (.int start), some (.ref sl), u11, u12, u13, u14]) ⟨sm10, hp10, hcv, Tups.refl, ⟨ss, ⟨_, hs10, rs10⟩, in8, by omega⟩, _, _, _, _, _, _, _, rfl⟩ (fun _ _ _ _ k => SqL.of k.2.2.1) ?_ ?_⟩
        · rintro i v σ11 H11 H12 hi ⟨sm11, hp11, hcv11, t1011, ⟨ss', ⟨sv', hs11, rs11⟩, in11, one11⟩, w5, w6, w7, w11, w12, w13, w14, rfl⟩ ⟨rfl, hv⟩
          obtain ⟨st, g1, g2⟩ := rcv.mapV hv
          have fit := ok2 st (List.mem_of_getElem? g1)
          have kst := g2.at t1011
          obtain ⟨tb, rfl, htb⟩ := kst.step
          nested_keys
          refine ⟨⟨_, SqL.of hs11⟩, fun E hE => ?_⟩
          refine lc_it (walk_li sv') (fun k H' => Same H12 H' ∧ ∃ us, H' E = some (.lst us) ∧ us.length = leaves (ss'.take k) st.1) ⟨Same.new hE, [], upd_same, rfl⟩ (fun _ _ _ k => SqL.of (k.1 _ _ hs11)) ?_ ?_
          · rintro k x H13 H14 hk ⟨sm13, us, hE13, lus⟩ ⟨rfl, hx⟩
            obtain ⟨z, y1, y2⟩ := rs11.mapV hx
            obtain ⟨zb, rfl, hzb⟩ := (sm13.rk y2).step
            have l5 : us.length ≤ 5 := by
              rw [lus]
              exact Nat.le_trans (List.length_filter_le _ _) (Nat.le_trans (List.length_take_le' _ _) in11.few)
            nested_keys
            refine ⟨zb, _, _, _, rfl, rfl, SqT.of hzb, rfl, ?_⟩
            nested_keys
            refine ⟨tb, _, _, _, rfl, rfl, SqT.of (sm13 _ _ htb), rfl, ?_⟩
            nested_keys
            refine iteD (fun cc => ?_) fun cc => ?_
            · have c' : z.1 = st.1 := by injection cc
              nested_keys
              refine ⟨us, hE13, line24 (m := 5) l5, sm13.put hE, _, upd_same, ?_⟩
              rw [take_snoc y1, leaves_snoc, if_pos c', List.length_append, lus]
              rfl
            · have c' : ¬ z.1 = st.1 := fun e => cc (by rw [e])
              refine ⟨sm13, us, hE13, ?_⟩
              rw [take_snoc y1, leaves_snoc, if_neg c', lus]
              rfl
          · rintro H13 ⟨sm13, us, hE13, lus⟩
            rw [rs11.len, List.take_length] at lus
            refine ⟨E, us, rfl, .inl (SqL.of hE13), ?_⟩
            have hs13 := sm13 _ _ hs11
            have rs13 := sm13.rks rs11
            have k13 := sm13.rk kst
            have hp13 : Pool H13 a := by
              obtain ⟨x, y, z, h⟩ := hp11
              exact ⟨x, y, z, sm13 _ _ h⟩
            have stay : 1 ≤ ss'.length → Same1 a H H13 ∧ Pool H13 a ∧ H13 c2 = some (.lst cv) ∧ Tups H10 H13 ∧ (∃ ss : List Stp, Ls H13 sl (ss.map dStep) ∧ StepsIn names sts ss ∧ (1 ≤ i + 1 → 1 ≤ ss.length)) := fun o1 => ⟨sm11.then sm13, hp13, sm13 _ _ hcv11, t1011.trans sm13.tups, ss', ⟨sv', hs13, rs13⟩, in11, fun _ => o1⟩
            nested_keys
            refine ⟨_, _, sl, _, k13, rfl, SqL.of hs13, rs13, step_fine (s := st) nok sok fit, (fun j hj => by
              obtain ⟨z, hz, rfl⟩ := List.mem_map.mp hj
              exact step_fine nok sok (in11.ok z hz)), ?_⟩
            nested_keys
            cases e : decide (dStep st ∈ ss'.map dStep) with
            | true =>
              nested_keys
              obtain ⟨k1, k2, k3, k4, k5⟩ := stay (by
                cases ss' with
                | nil => simp at e
                | cons _ _ => simp)
              exact ⟨k1, k2, k3, k4, k5, _, _, _, _, _, _, _, rfl⟩
            | false =>
              have no : st ∉ ss' := fun z => by
                rw [decide_eq_true (List.mem_map.mpr ⟨st, z, rfl⟩)] at e
                cases e
              nested_keys
              refine iteD (fun c4 => ?_) fun c4 => ?_
              · nested_keys
                refine ⟨sl, _, rfl, .inl (SqL.of hs13), ?_⟩
                nested_keys
                refine iteD (fun c5 => ?_) fun c5 => ?_
                · rw [rs13.len] at c5
                  nested_keys
                  refine ⟨.inl ⟨rfl, _, SqL.of hs13⟩, ?_⟩
                  nested_keys
                  refine ⟨sl, sv', _, rfl, rfl, hs13, by rw [rs13.len]; exact line24 (m := 5) in11.few, ?_⟩
                  have tt := Tups.put (o := .lst (sv' ++ [.ref tb])) hs13 (fun xs z => by cases z)
                  refine ⟨(sm11.then sm13).pput slN, hp13.put nsa, by rw [upd_ne cs]; exact sm13 _ _ hcv11, (t1011.trans sm13.tups).trans tt, ⟨ss' ++ [st], ⟨_, upd_same, ?_⟩, in11.snoc fit no (by omega) (by omega), fun _ => by rw [List.length_append]; simp⟩, _, _, _, _, _, _, _, rfl⟩
                  rw [List.map_append]
                  exact (rs13.at tt).append (.cons (k13.at tt) .nil)
                · rw [rs13.len] at c5
                  nested_keys
                  obtain ⟨k1, k2, k3, k4, k5⟩ := stay (by omega)
                  exact ⟨k1, k2, k3, k4, k5, _, _, _, _, _, _, _, rfl⟩
              · nested_keys
                obtain ⟨k1, k2, k3, k4, k5⟩ := stay (by
                  have h1 : leaves ss' st.1 ≤ ss'.length := List.length_filter_le _ _
                  omega)
                exact ⟨k1, k2, k3, k4, k5, _, _, _, _, _, _, _, rfl⟩
        · rintro σ11 H11 ⟨a1, a2, a3, a4, ⟨ss', a5, a6, a7⟩, k⟩
          exact ⟨a1, a2, ⟨ss', a5, a6, a7 (by rw [rcv.len]; exact one2 (by omega))⟩, k⟩
      · rintro σ9 H9 ⟨sm9, hp9, ⟨ss9, hs9, in9, one9⟩, v5, v6, v7, v11, v12, v13, v14, rfl⟩
        nested_keys
        refine ⟨by show 2 ≤ sizeLine; decide, fun t ht => ?_⟩
        have s9 : Same H9 (upd H9 t (.tup [.int start, .ref sl])) := Same.new ht
        refine q t sl start ss9 _ (sm9.then s9) (hp9.put (hp9.ne ht)) upd_same (hs9.same s9) slN ⟨⟨one9, in9.few, fun s hs => ⟨sok _ (in9.ok s hs).1, nok _ (in9.ok s hs).2.1, sok _ (in9.ok s hs).2.2⟩, in9.nd, in9.four⟩, ⟨sts, by omega, List.mem_of_getElem? hst, fun s hs => ⟨(in9.ok s hs).1, (in9.ok s hs).2.2⟩, sok⟩, fun s hs => (in9.ok s hs).2.1⟩
end NS
/-! G30: the walk of _law_rows. -/
namespace NS
open PySem PySem.Spec PyProof.Rows L2
local macro_rules | `(tactic| nested_keys) => `(tactic| repeat (first | refine ⟨_, rfl, ?_⟩ | refine ⟨_, _, rfl, rfl, ?_⟩ | refine ⟨rfl, ?_⟩ | with_reducible refine iteT ?_ | with_reducible refine iteF ?_))
variable {N : Addr → Prop} {P : Program} {w : World} {K : PySem.W.Frag} {mg : Str → Option Value} {base : Heap}
abbrev RowM := Int × List Stp
def RowAt (H : Hp) (a : Addr) (v : V) (r : RowM) : Prop := ∃ t sl, v = .ref t ∧ sl ≠ a ∧ H t = some (.tup [.int r.1, .ref sl]) ∧ Ls H sl (r.2.map dStep)
theorem RowAt.at {H H' : Hp} {a : Addr} {v : V} {r : RowM} (s : Seqs H H') (x : RowAt H a v r) : RowAt H' a v r := by
  obtain ⟨t, sl, h1, h0, h2, h3⟩ := x
  exact ⟨t, sl, h1, h0, s.t _ _ h2, h3.at s⟩
def RowsAt (H : Hp) (a : Addr) (rs : List RowM) : Prop := ∃ vs, H a = some (.lst vs) ∧ Paired (RowAt H a) vs rs
theorem RowsAt.at {H H' : Hp} {a : Addr} {rs : List RowM} (s : Seqs H H') (x : RowsAt H a rs) : RowsAt H' a rs := by
  obtain ⟨vs, h1, h2⟩ := x
  exact ⟨vs, s.l _ _ h1, L2.Paired.mapP h2 fun _ _ y => y.at s⟩
theorem Same.sqL {H H' : Hp} {a : Addr} {xs : List V} (s : Same H H') (x : SqL K H a xs) : SqL K H' a xs := by
  rcases x with (x | ⟨o, x⟩) | x
  · exact .inl (.inl (s _ _ x))
  · exact .inl (.inr ⟨o, s _ _ x⟩)
  · exact .inr x
structure RowsOk (names : List Str) (rs : List RowM) (ds : List Int) : Prop where
  n4 : names.length ≤ 4
  nok : ∀ x ∈ names, NameOk x
  some_ : 1 ≤ rs.length
  few : rs.length ≤ 3
  row : ∀ r ∈ rs, RowOk names r.1 r.2
  nd : ds.Nodup
  rg : ∀ d ∈ ds, 0 ≤ d ∧ d < (rs.length : Int)
def sp_lrows (K : PySem.W.Frag) : Sp := fun vs H Q _ => ∃ (s : Addr) (cells : List Int), vs = [.ref s, .int 3, .int 4, .int 3, .int 5] ∧ SqL K H s (cells.map .int) ∧
  ∀ (t ra ca : Addr) (names : List Str) (rs : List RowM) (ds : List Int) (H' : Hp), Same H H' → H' t = some (.tup [.ref ra, .ref ca]) → RowsAt H' ra rs → H' ca = some (.lst (ds.map .int)) → RowsOk names rs ds → Q (.ref t) H'
theorem ok__law_rows (T : Tx K mg) : C8.Cal P w K mg base 4 "_law_rows" (sp_lrows K) [] := cal__law_rows T (fun vs H Q E ⟨_, _, h, _⟩ => by rw [h]; rfl) fun cdv A outer s0 H vs Q E hr h => by
  refine ⟨_, (pss_cons (ps_set (i := 5) sc__law_rows.nd rfl (Or.inr rfl) (C8.pe_c (ok__law_pool T) hr (by decide) (by rfl) (pa_cons (C8.pe_c (ok__law_cell T) hr (by decide) (by rfl) (pa_cons (pv 0) (pa_cons pe_int pa_nil))) pa_nil)))
    (pss_cons (ps_set (i := 6) sc__law_rows.nd rfl (Or.inl rfl) (pe_op op_add pe_int (C8.pe_c (ok__law_draw T) hr (by decide) (by rfl) (pa_cons (pv 5) (pa_cons (pv 1) pa_nil)))))
    (pss_cons (ps_set (i := 8) sc__law_rows.nd rfl (Or.inr rfl) (pe_lc (own := [("_law_k", 7)]) (g := gName 7) (tt := tYes) (by rfl) sc__law_rows.nd (pi_range1 (by rfl) T.f_range (pa_cons (pv 6) pa_nil)) (blkOk_by (own := [("_law_k", 7)]) (N := n__law_rows) (sc := defScope s__law_rows) (by decide +kernel)) (fun _ _ _ _ _ => pg_name (i := 7) sc__law_rows.nd rfl (Or.inl rfl)) (fun _ _ _ _ _ => pts_nil) (fun _ _ _ _ _ => (C8.pe_c (ok__law_draw (P := P) (w := w) (base := base) T) hr (by decide) (by rfl) (pa_cons (pv 5) (pa_cons pe_int pa_nil))))))
    (pss_cons (ps_set (i := 9) sc__law_rows.nd rfl (Or.inl rfl) (C8.pe_c (ok__law_names T) hr (by decide) (by rfl) (pa_cons (pv 5) (pa_cons (pe_op op_add pe_int (C8.pe_c (ok__law_draw T) hr (by decide) (by rfl) (pa_cons (pv 5) (pa_cons (pv 2) pa_nil)))) pa_nil))))
    (pss_cons (ps_set (i := 10) sc__law_rows.nd rfl (Or.inl rfl) (pe_lst pa_nil))
    (C8.pss_cut (ps_for PassesOwn.never rfl (pi_range1 (by rfl) T.f_range (pa_cons (pv 6) pa_nil)) (pg_name (i := 7) sc__law_rows.nd rfl (Or.inl rfl))
      (pss_one (ps_expr (pe_bm PySem.F.plainAttrs_list PySem.F.slot_list_append PySem.F.type_list_append mt_append (pv 10) (pa_cons (C8.pe_c (ok__law_hand T) hr (by decide) (by rfl) (pa_cons (C8.pe_c (ok__law_pool T) hr (by decide) (by rfl) (pa_cons (C8.pe_c (ok__law_cell T) hr (by decide) (by rfl) (pa_cons (pv 0) (pa_cons (pe_op op_add pe_int (pv 7)) pa_nil))) pa_nil)) (pa_cons (pv 9) (pa_cons (pv 3) (pa_cons (pv 4) pa_nil))))) pa_nil)))))
    (pss_one (ps_ret (pe_tup (pa_cons (pv 10) (pa_cons (pe_lc (own := [("_law_k", 7)]) (g := gName 7) (by rfl) sc__law_rows.nd (pi_range1 (by rfl) T.f_range (pa_cons (pv 6) pa_nil)) (blkOk_by (own := [("_law_k", 7)]) (N := n__law_rows) (sc := defScope s__law_rows) (by decide +kernel)) (fun _ _ _ _ _ => pg_name (i := 7) sc__law_rows.nd rfl (Or.inl rfl)) (fun _ _ _ _ _ => pts_one (pt_cmpR op_gt (pe_ix (ix_listB (K := K) rfl) (pv 8) (pv 7) (fun _ _ => rfl)) pe_int (nomark _))) (fun _ _ _ _ _ => (pv 7))) pa_nil))))))))))), ?_⟩
  obtain ⟨s, cells, rfl, hs, q⟩ := h
  nested_keys
  refine ⟨s, cells, 0, rfl, hs, by decide, fun i0 => ?_⟩
  nested_keys
  refine fun pa H1 npa s1 hp1 => ?_
  nested_keys
  refine ⟨pa, 3, rfl, hp1, by decide, by decide, fun d1 H2 d10 d11 t2 hp2 => ?_⟩
  obtain ⟨m, em⟩ : ∃ m : Nat, 1 + d1 = ((m : Nat) : Int) := ⟨(1 + d1).toNat, by omega⟩
  have m1 : 1 ≤ m := by omega
  have m3 : m ≤ 3 := by omega
  have sH2 : Same H H2 := Same1.back s1 npa t2
  nested_keys
  refine ⟨by omega, by omega, fun E hE => ?_⟩
  have nEp := hp2.ne hE
  have em' : (1 + d1).toNat = m := by omega
  refine lc_it walk_range (fun i H' => Same1 pa H2 H' ∧ Pool H' pa ∧ ∃ es : List Int, H' E = some (.lst (es.map .int)) ∧ es.length = i) ⟨(Same.new hE).one, hp2.put nEp, [], upd_same, rfl⟩ (fun _ _ _ _ => trivial) ?_ ?_
  · rintro i x H3 H4 hi ⟨sm3, hp3, es, hes, les⟩ ⟨rfl, rfl⟩
    nested_keys
    refine ⟨pa, 3, rfl, hp3, by decide, by decide, fun d2 H5 d20 d21 t5 hp5 => ?_⟩
    have hes5 := t5 _ _ nEp hes
    exact ⟨_, hes5, by rw [List.length_map]; exact line24 (m := 3) (by omega), (sm3.trans t5).pput hE, hp5.put nEp, es ++ [d2], by rw [upd_same, List.map_append]; rfl, by rw [List.length_append, les]; rfl⟩
  · rintro H3 ⟨sm3, hp3, es, hes, les⟩
    rw [em'] at les
    nested_keys
    refine ⟨pa, 4, rfl, hp3, by decide, by decide, fun d2 H4 d20 d21 t4 hp4 => ?_⟩
    obtain ⟨mw, emw⟩ : ∃ mw : Nat, 1 + d2 = ((mw : Nat) : Int) := ⟨(1 + d2).toNat, by omega⟩
    have hes4 := t4 _ _ nEp hes
    nested_keys
    refine ⟨pa, mw, (show [V.ref pa, V.int (1 + d2)] = _ by rw [emw]), hp4, by omega, by omega, fun nl names H5 nnl t5 hp5 hnl lnm nok => ?_⟩
    have hes5 := t5 _ _ nEp hes4
    have sH5 : Same H H5 := Same1.back s1 npa (((t2.trans sm3).trans t4).trans t5)
    nested_keys
    refine ⟨Nat.zero_le _, fun ra hra => ?_⟩
    have era : E ≠ ra := fun z => by rw [z, hra] at hes5; cases hes5
    refine ⟨fun σ' H' => Same H5 H' ∧ (∃ rs : List RowM, RowsAt H' ra rs ∧ rs.length = m ∧ ∀ r ∈ rs, RowOk names r.1 r.2) ∧ ∃ u7, σ' = [some (V.ref s), some (.int 3), some (.int 4), some (.int 3), some (.int 5), some (.ref pa), some (.int (m : Nat)), u7, some (.ref E), some (.ref nl), some (.ref ra)], ?_, ?_⟩
    · nested_keys
      refine ⟨by omega, by omega, ?_⟩
      rw [em']
      refine for_it walk_range (fun i σ' H' => Same H5 H' ∧ (∃ rs : List RowM, RowsAt H' ra rs ∧ rs.length = i ∧ ∀ r ∈ rs, RowOk names r.1 r.2) ∧ ∃ u7, σ' = [some (V.ref s), some (.int 3), some (.int 4), some (.int 3), some (.int 5), some (.ref pa), some (.int (m : Nat)), u7, some (.ref E), some (.ref nl), some (.ref ra)]) ⟨Same.new hra, ⟨[], ⟨[], upd_same, .nil⟩, rfl, by simp⟩, none, by rw [← em]; rfl⟩ (fun _ _ _ _ _ => trivial) ?_ fun _ _ k => k
      rintro i x σ6 H6 H7 hi ⟨sm6, ⟨rs, ⟨rv, hra6, prs⟩, lrs, okr⟩, u7, rfl⟩ ⟨rfl, rfl⟩
      have sH7 := Same.trans' sH5 sm6
      nested_keys
      refine ⟨.inl ⟨rfl, _, SqL.of hra6⟩, ?_⟩
      nested_keys
      refine ⟨s, cells, _, rfl, Same.sqL sH7 hs, by omega, fun i1 => ?_⟩
      nested_keys
      refine fun pb H8 npb s8 hp8 => ?_
      nested_keys
      have hnl8 := s8 _ _ (sm6 _ _ hnl)
      have nlb : nl ≠ pb := fun z => by
        obtain ⟨x, y, u, h⟩ := hp8
        rw [z, h] at hnl8
        rw [← z, sm6 _ _ hnl] at npb
        cases npb
      refine ⟨pb, nl, names, rfl, hp8, hnl8, nlb, by omega, by omega, nok, fun t sl start ss H9 t9 hp9 ht hls nsl rok => ?_⟩
      have s79 : Same H7 H9 := Same1.back s8 npb t9
      have hra9 := s79 _ _ hra6
      refine ⟨ra, rv, _, rfl, rfl, hra9, by rw [pairedLen prs]; exact line24 (m := 10) (by omega), ?_⟩
      have sla : sl ≠ ra := fun z => by rw [z, s8 _ _ hra6] at nsl; cases nsl
      have tt := Tups.put (o := .lst (rv ++ [.ref t])) hra9 (fun xs z => by cases z)
      have mv : ∀ {v : V} {r : RowM}, RowAt H9 ra v r → RowAt (upd H9 ra (.lst (rv ++ [.ref t]))) ra v r := fun x => by
        obtain ⟨t', sl', h1, h0, h2, vs, h3, h4⟩ := x
        exact ⟨t', sl', h1, h0, tt _ _ h2, vs, by rw [upd_ne h0]; exact h3, h4.at tt⟩
      refine ⟨(Same.trans' sm6 s79).put hra, ⟨rs ++ [(start, ss)], ⟨_, upd_same, (L2.Paired.mapP prs fun _ _ y => mv (y.at s79.seqs)).snoc (mv ⟨t, sl, rfl, sla, ht, hls⟩)⟩, by rw [List.length_append, lrs]; rfl, fun r hr => ?_⟩, _, rfl⟩
      rw [List.mem_append, List.mem_singleton] at hr
      rcases hr with hr | rfl
      · exact okr r hr
      · exact rok
    · rintro σ6 H6 ⟨sm6, ⟨rs, hrs, lrs, okr⟩, u7, rfl⟩
      have sH6 := Same.trans' sH5 sm6
      have hes6 := sm6 _ _ hes5
      nested_keys
      refine ⟨by omega, by omega, fun D hD => ?_⟩
      refine lc_it walk_range (fun i H' => Same H6 H' ∧ ∃ ds : List Int, H' D = some (.lst (ds.map .int)) ∧ ds.length ≤ i ∧ ds.Nodup ∧ ∀ d ∈ ds, 0 ≤ d ∧ d < (i : Int)) ⟨Same.new hD, [], upd_same, Nat.le_refl _, by simp, by simp⟩ (fun _ _ _ _ => trivial) ?_ ?_
      · rintro i x H7 H8 hi ⟨sm7, ds, hds, lds, nds, rds⟩ ⟨rfl, rfl⟩
        have hi' : i < es.length := by omega
        nested_keys
        refine ⟨E, _, _, _, rfl, rfl, SqL.of (sm7 _ _ hes6), by rw [Int.zero_add]; exact atI_nat (by rw [List.getElem?_map, List.getElem?_eq_getElem hi']; rfl), ?_⟩
        nested_keys
        refine iteD (fun cc => ?_) fun cc => ?_
        · nested_keys
          refine ⟨_, hds, by rw [List.length_map]; exact line24 (m := 10) (by omega), sm7.put hD, ds ++ [0 + (i : Int)], by rw [upd_same, List.map_append]; rfl, by rw [List.length_append]; simp only [List.length_cons, List.length_nil]; omega, ?_, fun d hd => ?_⟩
          · rw [List.nodup_append]
            exact ⟨nds, by simp, fun a ha b hb e => by
              rw [List.mem_singleton] at hb
              have := (rds a ha).2
              omega⟩
          · rw [List.mem_append, List.mem_singleton] at hd
            rcases hd with hd | rfl
            · have := rds d hd
              omega
            · omega
        · exact ⟨sm7, ds, hds, by omega, nds, fun d hd => by have := rds d hd; omega⟩
      · rintro H7 ⟨sm7, ds, hds, lds, nds, rds⟩
        refine ⟨by show 2 ≤ sizeLine; decide, fun t ht => ?_⟩
        have s8 : Same H7 (upd H7 t (.tup [.ref ra, .ref D])) := Same.new ht
        refine q t ra D names rs ds _ (Same.trans' (Same.trans' sH6 sm7) s8) upd_same ((hrs.at sm7.seqs).at s8.seqs) (s8 _ _ hds) ⟨by omega, nok, by omega, by omega, okr, nds, fun d hd => by have := rds d hd; omega⟩
end NS
/-! G31: the walk of _law_system. -/
namespace NS
open PySem PySem.Spec PyProof.Rows L2
local macro_rules | `(tactic| nested_keys) => `(tactic| repeat (first | refine ⟨_, rfl, ?_⟩ | refine ⟨_, _, rfl, rfl, ?_⟩ | refine ⟨rfl, ?_⟩ | with_reducible refine iteT ?_ | with_reducible refine iteF ?_))
variable {N : Addr → Prop} {P : Program} {w : World} {K : PySem.W.Frag} {mg : Str → Option Value} {base : Heap}
/-- the system of the law's rows -/
structure SysRows (S : SysM) (rs : List RowM) : Prop where
  len : S.hands.length = rs.length
  row : ∀ (i : Nat) h r, S.hands[i]? = some h → rs[i]? = some r → h.start = r.1 ∧ h.steps = r.2
def sp_lsystem (K : PySem.W.Frag) : Sp := fun vs H Q _ => ∃ (ra ca : Addr) (names : List Str) (rs : List RowM) (ds : List Int), vs = [.ref ra, .ref ca] ∧ RowsAt H ra rs ∧ H ca = some (.lst (ds.map .int)) ∧ RowsOk names rs ds ∧
  ∀ (p : Addr) (S : SysM) (H' : Hp), Same H H' → SysAt K H' p S → SysG S → SysRows S rs → Q (.ref p) H'
theorem ok__law_system (T : Tx K mg) : C8.Cal P w K mg base 7 "_law_system" (sp_lsystem K) [] := cal__law_system T (fun vs H Q E ⟨_, _, _, _, _, h, _⟩ => by rw [h]; rfl) fun cdv A outer s0 H vs Q E hr h => by
  refine ⟨_, (pss_one (ps_ret (C8.pe_mk (ok_System_init T) hr (by decide) (by rfl) (pa_cons (pe_lc (own := [("_law_row", 2)]) (g := gName 2) (tt := tYes) (by rfl) sc__law_system.nd (pi_list (pv 0)) (blkOk_by (own := [("_law_row", 2)]) (N := n__law_system) (sc := defScope s__law_system) (by decide +kernel)) (fun _ _ _ _ _ => pg_name (i := 2) sc__law_system.nd rfl (Or.inl rfl)) (fun _ _ _ _ _ => pts_nil) (fun _ _ _ _ _ => (C8.pe_mk (ok_Hand_init (P := P) (w := w) (base := base) T) hr (by decide) (by rfl) (pa_cons (pe_ix (ix_tupB (K := K) rfl) (pv 2) pe_int (fun _ _ => rfl)) (pa_cons (pe_callTy (call_list_ofB (K := K) rfl) (by rfl) T.f_list b_list (pa_cons (pe_ix (ix_tupB (K := K) rfl) (pv 2) pe_int (fun _ _ => rfl)) pa_nil)) pa_nil))))) (pa_cons (pe_callTy call_list_of (by rfl) T.f_list b_list (pa_cons (pv 1) pa_nil)) pa_nil))))), ?_⟩
  obtain ⟨ra, ca, names, rs, ds, rfl, ⟨rv, hra, prs⟩, hca, ok, q⟩ := h
  have lrv := pairedLen prs
  nested_keys
  refine ⟨⟨_, SqL.of hra⟩, fun D hD => ?_⟩
  refine lc_it (walk_li rv) (fun n H2 => Same H H2 ∧ ∃ (qs : List Addr) (hs : List HandM), H2 D = some (.lst (qs.map .ref)) ∧ hs.length = n ∧ HandsAt K H2 qs hs ∧ (∀ h ∈ hs, HandG h) ∧ ∀ (i : Nat) h r, hs[i]? = some h → rs[i]? = some r → h.start = r.1 ∧ h.steps = r.2) ⟨Same.new hD, [], [], upd_same, rfl, .nil, by simp, by simp⟩ (fun _ _ _ k => SqL.of (k.1 _ _ hra)) ?_ ?_
  · rintro n y H2 H3 hi ⟨sm, qs, hs, hD2, ln, hh, hg, hst⟩ ⟨rfl, hy⟩
    obtain ⟨r, hr1, hr2⟩ := pairedAt prs n y hy
    obtain ⟨t, sl, rfl, sla, ht, sv, hsl, rsl⟩ := hr2.at sm.seqs
    have ro := ok.row r (List.mem_of_getElem? hr1)
    obtain ⟨pool, pl, p1, p2, p3⟩ := ro.pool
    have n3 : n < 3 := by
      have := (List.getElem?_eq_some_iff.mp hr1).1
      have := ok.few
      omega
    nested_keys
    refine ⟨t, _, _, _, rfl, rfl, SqT.of ht, rfl, ?_⟩
    nested_keys
    refine ⟨t, _, _, _, rfl, rfl, SqT.of ht, rfl, ?_⟩
    refine ⟨sl, _, rfl, .inl (SqL.of hsl), fun l hl => ?_⟩
    have s4 : Same H3 (upd H3 l (.lst sv)) := Same.new hl
    intro x ndx nx nn ne
    have s5 : Same (upd H3 l (.lst sv)) (upd (upd (upd H3 l (.lst sv)) ndx (.own x)) x (.ins (He.ga K "Hand") ndx [])) := (Same.new nn).put nx
    refine ⟨x, ndx, r.1, l, sv, r.2, pool, rfl, upd_same, .inl (s5 _ _ upd_same), (s5.rks (s4.rks rsl)), ro.st, pl, p1, fun s hs => (p2 s hs).2, p3, fun h' H6 g1 g2 g3 t6 hat => ?_⟩
    have s6 : Same (upd H3 l (.lst sv)) H6 := Same1.back s5 nx t6
    have s36 := Same.trans' s4 s6
    have hD6 := s36 _ _ hD2
    nested_keys
    refine ⟨_, hD6, by rw [List.length_map, pairedLen hh, ln]; exact line24 (m := 3) (by omega), (Same.trans' sm s36).put hD, qs ++ [x], hs ++ [h'], by rw [upd_same, List.map_append]; rfl, by rw [List.length_append, ln]; rfl, ?_, ?_, ?_⟩
    · have mv : ∀ {q : Addr} {h : HandM}, HandAt K H6 q h → HandAt K (upd H6 D (.lst (qs.map V.ref ++ [.ref x]))) q h := by
        rintro q h ⟨c1, c2, c3, c4, k1, k2, k3, k4⟩
        have nd : ∀ {c : Addr} {o : HO}, H6 c = some o → (∀ l, o ≠ .lst l) → c ≠ D := fun e no z => by rw [z, hD6] at e; cases e; exact no _ rfl
        exact ⟨c1, c2, c3, c4, by rw [upd_ne (nd k1 (fun _ z => by cases z))]; exact k1, k2.at (fun b xs e => by rw [upd_ne (nd e (fun _ z => by cases z))]; exact e), by rw [upd_ne (nd k3 (fun _ z => by cases z))]; exact k3, by rw [upd_ne (nd k4 (fun _ z => by cases z))]; exact k4⟩
      exact (L2.Paired.mapP (hh.same s36) fun _ _ y => mv y).snoc (mv hat)
    · intro k hk
      rw [List.mem_append, List.mem_singleton] at hk
      rcases hk with hk | rfl
      · exact hg k hk
      · exact g1
    · intro i k k' q1 q2
      by_cases hin : i < hs.length
      · rw [List.getElem?_append_left hin] at q1
        exact hst i k k' q1 q2
      · have hle : i < (hs ++ [h']).length := (List.getElem?_eq_some_iff.mp q1).1
        rw [List.length_append, List.length_singleton] at hle
        have : i = n := by omega
        subst this
        rw [← ln, List.getElem?_append_right (Nat.le_refl _), Nat.sub_self] at q1
        cases q1
        rw [hr1] at q2
        cases q2
        exact ⟨g2, g3⟩
  · rintro H2 ⟨sm, qs, hs, hD2, ln, hh, hg, hst⟩
    rw [lrv] at ln
    nested_keys
    refine ⟨ca, _, rfl, .inl (SqL.of (sm _ _ hca)), fun l hl => ?_⟩
    have s3 : Same H2 (upd H2 l (.lst (ds.map V.int))) := Same.new hl
    intro x ndx nx nn ne
    have s4 : Same (upd H2 l (.lst (ds.map V.int))) (upd (upd (upd H2 l (.lst (ds.map V.int))) ndx (.own x)) x (.ins (He.ga K "System") ndx [])) := (Same.new nn).put nx
    have s24 := Same.trans' s3 s4
    have lds : ds.length ≤ 3 := Nat.le_trans (nodup_le ds ((List.range 3).map fun k : Nat => (k : Int)) ok.nd fun d hd => by
      have := ok.rg d hd
      have := ok.few
      exact List.mem_map.mpr ⟨d.toNat, List.mem_range.mpr (by omega), by omega⟩) (by simp)
    refine ⟨x, ndx, D, qs, hs, l, ds, names, rfl, upd_same, s24 _ _ hD2, hh.same s24, hg, by rw [ln]; exact ok.some_, by rw [ln]; exact ok.few, .inl (s4 _ _ upd_same), ok.nd, by rw [ln]; exact ok.rg, lds, ok.n4, fun h' hm w hw => ?_, fun S' H5 g1 g2 g3 t5 sat => ?_⟩
    · obtain ⟨i, hi⟩ := List.getElem?_of_mem hm
      have li : i < rs.length := by rw [← ln]; exact (List.getElem?_eq_some_iff.mp hi).1
      obtain ⟨_, e2⟩ := hst i h' _ hi (List.getElem?_eq_getElem li)
      obtain ⟨st, k1, k2⟩ := ((hg h' hm).ok.mem w).mp hw
      rw [e2] at k1
      exact k2 ▸ (ok.row _ (List.getElem_mem li)).wd st k1
    · have s5 : Same (upd H2 l (.lst (ds.map V.int))) H5 := Same1.back s4 nx t5
      nested_keys
      refine q x S' H5 (Same.trans' sm (Same.trans' s3 s5)) sat g1 ⟨by rw [g2, ln], fun i h r k1 k2 => hst i h r (by rw [← g2]; exact k1) k2⟩
end NS
/-! G32: the walks of _law_start, _law_within, _law_words, _law_numbers, _law_behind. -/
namespace NS
open PySem PySem.Spec PyProof.Rows L2
local macro_rules | `(tactic| nested_keys) => `(tactic| repeat (first | refine ⟨_, rfl, ?_⟩ | refine ⟨_, _, rfl, rfl, ?_⟩ | refine ⟨rfl, ?_⟩ | with_reducible refine iteT ?_ | with_reducible refine iteF ?_))
variable {N : Addr → Prop} {P : Program} {w : World} {K : PySem.W.Frag} {mg : Str → Option Value} {base : Heap}
/-! ### rows and their system -/
theorem SysRows.hand {S : SysM} {rs : List RowM} (k : SysRows S rs) {i : Nat} {r : RowM} (h : rs[i]? = some r) : ∃ h, S.hands[i]? = some h ∧ h.start = r.1 ∧ h.steps = r.2 := by
  have l := (List.getElem?_eq_some_iff.mp h).1
  rw [← k.len] at l
  obtain ⟨a, b⟩ := k.row i _ _ (List.getElem?_eq_getElem l) h
  exact ⟨_, List.getElem?_eq_getElem l, a, b⟩
theorem SysRows.few {S : SysM} {rs : List RowM} (g : SysG S) (k : SysRows S rs) : ∀ r ∈ rs, r.2.length ≤ 5 := fun r hr => by
  obtain ⟨i, hi⟩ := List.getElem?_of_mem hr
  obtain ⟨h, h1, _, h3⟩ := k.hand hi
  rw [← h3]
  exact (g.hands h (List.mem_of_getElem? h1)).ok.few
theorem SysRows.starts {S : SysM} {rs : List RowM} (g : SysG S) (k : SysRows S rs) : rs.map (·.1) = S.start := by
  rw [g.ok.start]
  refine List.ext_getElem? fun i => ?_
  rw [List.getElem?_map, List.getElem?_map]
  cases e : rs[i]? with
  | none =>
    have l := List.getElem?_eq_none_iff.mp e
    rw [← k.len] at l
    rw [List.getElem?_eq_none_iff.mpr l]
    rfl
  | some r =>
    obtain ⟨h, h1, h2, _⟩ := k.hand e
    rw [h1]
    show some r.1 = some h.start
    rw [h2]
def wordsIn (rs : List RowM) : List Str := rs.flatMap fun r => r.2.map (·.2.1)
theorem wordsIn_snoc {rs : List RowM} {i : Nat} {r : RowM} (h : rs[i]? = some r) : wordsIn (rs.take (i + 1)) = wordsIn (rs.take i) ++ r.2.map (·.2.1) := by
  rw [take_snoc h, wordsIn, List.flatMap_append]
  simp [wordsIn]
theorem SysRows.words {S : SysM} {rs : List RowM} (g : SysG S) (k : SysRows S rs) (x : Str) : x ∈ wordsIn rs ↔ x ∈ S.words := by
  rw [g.ok.mem]
  constructor
  · intro h
    obtain ⟨r, hr, hx⟩ := List.mem_flatMap.mp h
    obtain ⟨s, hs, e⟩ := List.mem_map.mp hx
    obtain ⟨i, hi⟩ := List.getElem?_of_mem hr
    obtain ⟨h', h1, _, h3⟩ := k.hand hi
    have hm := List.mem_of_getElem? h1
    exact ⟨h', hm, ((g.ok.hand h' hm).mem x).mpr ⟨s, by rw [h3]; exact hs, e⟩⟩
  · rintro ⟨h', hm, hx⟩
    obtain ⟨s, hs, e⟩ := ((g.ok.hand h' hm).mem x).mp hx
    obtain ⟨i, hi⟩ := List.getElem?_of_mem hm
    have l := (List.getElem?_eq_some_iff.mp hi).1
    rw [k.len] at l
    obtain ⟨_, b⟩ := k.row i _ _ hi (List.getElem?_eq_getElem l)
    refine List.mem_flatMap.mpr ⟨_, List.getElem_mem l, List.mem_map.mpr ⟨s, ?_, e⟩⟩
    rw [← b]
    exact hs
/-! ### _law_start -/
def sp_lstart : Sp := fun vs H Q _ => ∃ (ra : Addr) (rs : List RowM), vs = [.ref ra] ∧ RowsAt H ra rs ∧ rs.length ≤ 3 ∧
  ∀ (t : Addr) (H' : Hp), Same H H' → H' t = some (.tup ((rs.map (·.1)).map .int)) → Q (.ref t) H'
theorem ok__law_start (T : Tx K mg) : C8.Cal P w K mg base 1 "_law_start" sp_lstart [] := cal__law_start T (fun vs H Q E ⟨_, _, h, _⟩ => by rw [h]; rfl) fun cdv A outer s0 H vs Q E hr h => by
  refine ⟨_, (pss_one (ps_ret (pe_callTy call_tuple_of (by rfl) T.f_tuple b_tuple (pa_cons (pe_lc (own := [("_law_row", 1)]) (g := gName 1) (tt := tYes) (by rfl) sc__law_start.nd (pi_list (pv 0)) (blkOk_by (own := [("_law_row", 1)]) (N := n__law_start) (sc := defScope s__law_start) (by decide +kernel)) (fun _ _ _ _ _ => pg_name (i := 1) sc__law_start.nd rfl (Or.inl rfl)) (fun _ _ _ _ _ => pts_nil) (fun _ _ _ _ _ => (pe_ix (ix_tupB (K := K) rfl) (pv 1) pe_int (fun _ _ => rfl)))) pa_nil)))), ?_⟩
  obtain ⟨ra, rs, rfl, ⟨rv, hra, prs⟩, few, q⟩ := h
  have lrv := pairedLen prs
  nested_keys
  refine ⟨⟨_, SqL.of hra⟩, fun D hD => ?_⟩
  refine lc_it (walk_li rv) (fun n H2 => Same H H2 ∧ H2 D = some (.lst (((rs.take n).map (·.1)).map .int))) ⟨Same.new hD, upd_same⟩ (fun _ _ _ k => SqL.of (k.1 _ _ hra)) ?_ ?_
  · rintro n y H2 H3 hi ⟨sm, hk⟩ ⟨rfl, hy⟩
    obtain ⟨r, hr1, hr2⟩ := pairedAt prs n y hy
    obtain ⟨t, sl, rfl, sla, ht, hsl⟩ := hr2.at sm.seqs
    nested_keys
    refine ⟨t, _, _, _, rfl, rfl, SqT.of ht, rfl, ?_⟩
    refine ⟨_, hk, ?_, sm.put hD, ?_⟩
    · rw [List.length_map, List.length_map]
      exact line24 (m := 3) (Nat.le_trans (List.length_take_le' _ _) few)
    · rw [upd_same, take_snoc hr1, List.map_append, List.map_append]
      rfl
  · rintro H2 ⟨sm, hk⟩
    rw [lrv, List.take_length] at hk
    exact ⟨D, _, rfl, .inl ⟨SqL.of hk, fun t ht => q t _ (sm.put (sm.none ht)) upd_same⟩⟩
/-! ### _law_within -/
def sp_within : Sp := fun vs H Q _ => ∃ (a b : Addr) (xs ys : List Str), vs = [.ref a, .ref b] ∧ H a = some (.lst (xs.map .str)) ∧ H b = some (.lst (ys.map .str)) ∧ (∀ x ∈ xs, x ∈ ys) ∧
  ∀ H' : Hp, Same H H' → Q (.bl true) H'
theorem ok__law_within (T : Tx K mg) : C8.Cal P w K mg base 1 "_law_within" sp_within [] := cal__law_within T (fun vs H Q E ⟨_, _, _, _, h, _⟩ => by rw [h]; rfl) fun cdv A outer s0 H vs Q E hr h => by
  refine ⟨_, (pss_one (ps_ret (pe_cmpR op_eq (pe_callB call_len_seq (by rfl) T.f_len b_len (pa_cons (pe_lc (own := [("_law_word", 2)]) (g := gName 2) (by rfl) sc__law_within.nd (pi_list (pv 0)) (blkOk_by (own := [("_law_word", 2)]) (N := n__law_within) (sc := defScope s__law_within) (by decide +kernel)) (fun _ _ _ _ _ => pg_name (i := 2) sc__law_within.nd rfl (Or.inl rfl)) (fun _ _ _ _ _ => pts_one (pt_cmpR (op_notIn_seqB (K := K) rfl) (pv 2) (pv 1) (by rfl))) (fun _ _ _ _ _ => (pv 2))) pa_nil)) pe_int (nomark _)))), ?_⟩
  obtain ⟨a, b, xs, ys, rfl, ha, hb, sub, q⟩ := h
  nested_keys
  refine ⟨⟨_, SqL.of ha⟩, fun D hD => ?_⟩
  refine lc_it (walk_li (xs.map V.str)) (fun n H2 => Same H H2 ∧ H2 D = some (.lst [])) ⟨Same.new hD, upd_same⟩ (fun _ _ _ k => SqL.of (k.1 _ _ ha)) ?_ ?_
  · rintro n y H2 H3 hi ⟨sm, hk⟩ ⟨rfl, hy⟩
    rw [List.getElem?_map] at hy
    obtain ⟨x, hx, rfl⟩ := Option.map_eq_some_iff.mp hy
    nested_keys
    refine ⟨b, _, rfl, .inl (SqL.of (sm _ _ hb)), rfl, flat_strs _, ?_⟩
    rw [inV_text, decide_eq_true (sub x (List.mem_of_getElem? hx))]
    nested_keys
    exact ⟨sm, hk⟩
  · rintro H2 ⟨sm, hk⟩
    nested_keys
    refine ⟨D, _, rfl, .inl (SqL.of hk), ?_⟩
    nested_keys
    exact q _ sm
/-! ### _law_words -/
def sp_lwords : Sp := fun vs H Q _ => ∃ (ra : Addr) (rs : List RowM) (S : SysM), vs = [.ref ra] ∧ RowsAt H ra rs ∧ SysG S ∧ SysRows S rs ∧
  ∀ (c : Addr) (H' : Hp), H c = none → Same H H' → H' c = some (.lst (S.words.map .str)) → Q (.ref c) H'
theorem ok__law_words (T : Tx K mg) : C8.Cal P w K mg base 1 "_law_words" sp_lwords [] := cal__law_words T (fun vs H Q E ⟨_, _, _, h, _⟩ => by rw [h]; rfl) fun cdv A outer s0 H vs Q E hr h => by
  refine ⟨_, (pss_cons (ps_set (i := 1) sc__law_words.nd rfl (Or.inl rfl) (pe_lst pa_nil))
    (C8.pss_cut (ps_for PassesOwn.never rfl (pi_list (pv 0)) (pg_name (i := 2) sc__law_words.nd rfl (Or.inl rfl))
      (pss_one (ps_set (i := 1) sc__law_words.nd rfl (Or.inl rfl) (pe_op op_cat (pv 1) (pe_lc (own := [("_law_step", 3)]) (g := gName 3) (tt := tYes) (by rfl) sc__law_words.nd (pi_list (pe_ix ix_tup (pv 2) pe_int (fun _ _ => rfl))) (blkOk_by (own := [("_law_step", 3)]) (N := n__law_words) (sc := defScope s__law_words) (by decide +kernel)) (fun _ _ _ _ _ => pg_name (i := 3) sc__law_words.nd rfl (Or.inl rfl)) (fun _ _ _ _ _ => pts_nil) (fun _ _ _ _ _ => (pe_ix (ix_tupB (K := K) rfl) (pv 3) pe_int (fun _ _ => rfl))))))))
    (pss_one (ps_ret (pe_callB (cr_sortS rfl) (by rfl) T.f_sorted b_sorted (pa_cons (pe_callTy (cr_setOf rfl emb_str) (by rfl) T.f_set b_set (pa_cons (pv 1) pa_nil)) pa_nil)))))), ?_⟩
  obtain ⟨ra, rs, S, rfl, ⟨rv, hra, prs⟩, hG, hR, q⟩ := h
  have lrv := pairedLen prs
  have l3 : rs.length ≤ 3 := by rw [← hR.len]; exact hG.ok.few
  have wl : ∀ n, (wordsIn (rs.take n)).length ≤ 15 := fun n => by
    have e1 := length_flat (fun r : RowM => r.2.map (·.2.1)) 5 (rs.take n) fun r hr => by rw [List.length_map]; exact hR.few hG r (List.mem_of_mem_take hr)
    have e2 : (rs.take n).length ≤ 3 := Nat.le_trans (List.length_take_le' _ _) l3
    show ((rs.take n).flatMap fun r : RowM => r.2.map (·.2.1)).length ≤ 15
    omega
  nested_keys
  refine ⟨Nat.zero_le _, fun F hF => ?_⟩
  refine ⟨fun σ' H' => Same H H' ∧ ∃ c, H' c = some (.lst ((wordsIn rs).map .str)) ∧ ∃ u2 u3, σ' = [some (V.ref ra), some (.ref c), u2, u3], ?_, ?_⟩
  · nested_keys
    refine ⟨⟨_, SqL.of ((Same.new hF) _ _ hra)⟩, for_it (walk_li rv) (fun n σ' H' => Same H H' ∧ ∃ c, H' c = some (.lst ((wordsIn (rs.take n)).map .str)) ∧ ∃ u2 u3, σ' = [some (V.ref ra), some (.ref c), u2, u3]) ⟨Same.new hF, F, upd_same, _, _, rfl⟩ (fun _ _ _ _ k => SqL.of (k.1 _ _ hra)) ?_ ?_⟩
    · rintro n y σ2 H3 H2 hi ⟨sm, c, hc, u2, u3, rfl⟩ ⟨rfl, hy⟩
      obtain ⟨r, hr1, hr2⟩ := pairedAt prs n y hy
      obtain ⟨t, sl, rfl, sla, ht, sv, hsl, rsl⟩ := hr2.at sm.seqs
      have r5 := hR.few hG r (List.mem_of_getElem? hr1)
      nested_keys
      refine ⟨t, _, _, _, rfl, rfl, SqT.of ht, rfl, ?_⟩
      nested_keys
      refine ⟨⟨_, SqL.of hsl⟩, fun D hD => ?_⟩
      refine lc_it (walk_li sv) (fun i H4 => Same H2 H4 ∧ H4 D = some (.lst (((r.2.take i).map (·.2.1)).map .str))) ⟨Same.new hD, upd_same⟩ (fun _ _ _ k => SqL.of (k.1 _ _ hsl)) ?_ ?_
      · rintro i z H4 H5 hi2 ⟨sm4, hk4⟩ ⟨rfl, hz⟩
        obtain ⟨s, hs1, hs2⟩ := rsl.mapV hz
        obtain ⟨sb, rfl, hsb⟩ := (sm4.rk hs2).step
        nested_keys
        refine ⟨sb, _, _, _, rfl, rfl, SqT.of hsb, rfl, ?_⟩
        refine ⟨_, hk4, ?_, sm4.put hD, ?_⟩
        · rw [List.length_map, List.length_map]
          exact line24 (m := 5) (Nat.le_trans (List.length_take_le' _ _) r5)
        · rw [upd_same, take_snoc hs1, List.map_append, List.map_append]
          rfl
      · rintro H4 ⟨sm4, hk4⟩
        rw [rsl.len, List.take_length] at hk4
        refine ⟨c, D, _, _, rfl, rfl, sm4 _ _ hc, hk4, ?_, fun p hp => ?_⟩
        · have := wl n
          rw [List.length_map, List.length_map, List.length_map]
          exact Nat.le_of_lt (line24 (m := 30) (by omega))
        · have s2 : Same H H4 := Same.trans' sm sm4
          refine ⟨s2.put (s2.none hp), p, ?_, _, _, rfl⟩
          rw [upd_same, wordsIn_snoc hr1, List.map_append]
    · rintro σ2 H2 ⟨sm, c, hc, k⟩
      rw [lrv, List.take_length] at hc
      exact ⟨sm, c, hc, k⟩
  · rintro σ2 H2 ⟨sm, c, hc, u2, u3, rfl⟩
    have l15 := wl rs.length
    rw [List.take_length] at l15
    nested_keys
    refine ⟨c, wordsIn rs, rfl, .inl (SqL.of hc), Nat.lt_of_le_of_lt (show _ ≤ 1001 by omega) (by decide), fun g hg => ?_⟩
    refine ⟨g, _, S.words, rfl, upd_same, hR.words hG, Nat.lt_of_le_of_lt hG.ok.few2 (by decide), fun ys c2 so nd mem2 hc2 => ?_⟩
    have sm3 := sm.put (o := gNO (strKind P w) g (wordsIn rs)) (sm.none hg)
    have e : ys = S.words := pw_unique (sorted_pw so nd) hG.ok.voc mem2
    refine q c2 _ (sm3.none hc2) (sm3.put (sm3.none hc2)) ?_
    rw [upd_same, e]
/-! ### _law_numbers -/
def sp_lnumbers : Sp := fun vs H Q _ => ∃ (a : Addr) (v : V) (r : RowM) (h : HandM) (i : Int) (x : Str), vs = [v, .int i, .str x] ∧ RowAt H a v r ∧ h.steps = r.2 ∧ HandOk h ∧
  ∀ (c : Addr) (H' : Hp), Same H H' → H' c = some (.lst ((stepNums h i x).map numV)) → Q (.ref c) H'
theorem ok__law_numbers (T : Tx K mg) : C8.Cal P w K mg base 1 "_law_numbers" sp_lnumbers [] := cal__law_numbers T (fun vs H Q E ⟨_, _, _, _, _, _, h, _⟩ => by rw [h]; rfl) fun cdv A outer s0 H vs Q E hr h => by
  refine ⟨_, (pss_cons (ps_if (pt_cmpR op_notIn_seq (pv 2) (pe_lc (own := [("_law_step", 3)]) (g := gName 3) (tt := tYes) (by rfl) sc__law_numbers.nd (pi_list (pe_ix ix_tup (pv 0) pe_int (fun _ _ => rfl))) (blkOk_by (own := [("_law_step", 3)]) (N := n__law_numbers) (sc := defScope s__law_numbers) (by decide +kernel)) (fun _ _ _ _ _ => pg_name (i := 3) sc__law_numbers.nd rfl (Or.inl rfl)) (fun _ _ _ _ _ => pts_nil) (fun _ _ _ _ _ => (pe_ix (ix_tupB (K := K) rfl) (pv 3) pe_int (fun _ _ => rfl)))) (by rfl)) (pss_one (ps_ret (pe_lst (pa_cons pe_non pa_nil)))) pss_nil)
    (pss_one (ps_ret (pe_lc (own := [("_law_k", 4)]) (g := gName 4) (by rfl) sc__law_numbers.nd (pi_range1 (by rfl) T.f_range (pa_cons (pe_callB call_len_seq (by rfl) T.f_len b_len (pa_cons (pe_ix ix_tup (pv 0) pe_int (fun _ _ => rfl)) pa_nil)) pa_nil)) (blkOk_by (own := [("_law_k", 4)]) (N := n__law_numbers) (sc := defScope s__law_numbers) (by decide +kernel)) (fun _ _ _ _ _ => pg_name (i := 4) sc__law_numbers.nd rfl (Or.inl rfl)) (fun _ _ _ _ _ => pts_one (PW.pt (pw_and (pt_cmpR op_eq (pe_ix (ix_tupB (K := K) rfl) (pe_ix (ix_listB (K := K) rfl) (pe_ix (ix_tupB (K := K) rfl) (pv 0) pe_int (fun _ _ => rfl)) (pv 4) (fun _ _ => rfl)) pe_int (fun _ _ => rfl)) (pv 1) (nomark _)) (pw_and1 (pt_cmpR op_eq (pe_ix (ix_tupB (K := K) rfl) (pe_ix (ix_listB (K := K) rfl) (pe_ix (ix_tupB (K := K) rfl) (pv 0) pe_int (fun _ _ => rfl)) (pv 4) (fun _ _ => rfl)) pe_int (fun _ _ => rfl)) (pv 2) (nomark _)))))) (fun _ _ _ _ _ => (pv 4)))))), ?_⟩
  obtain ⟨a, v, r, h, i, x, rfl, ⟨t, sl, rfl, _, ht, sv, hsl, rsl⟩, hst, hok, q⟩ := h
  have r5 : r.2.length ≤ 5 := by rw [← hst]; exact hok.few
  have l5 : sv.length ≤ 5 := by rw [rsl.len]; exact r5
  nested_keys
  refine ⟨t, _, _, _, rfl, rfl, SqT.of ht, rfl, ?_⟩
  nested_keys
  refine ⟨⟨_, SqL.of hsl⟩, fun D hD => ?_⟩
  refine lc_it (walk_li sv) (fun n H2 => Same H H2 ∧ H2 D = some (.lst (((r.2.take n).map (·.2.1)).map .str))) ⟨Same.new hD, upd_same⟩ (fun _ _ _ k => SqL.of (k.1 _ _ hsl)) ?_ ?_
  · rintro n z H2 H3 hi ⟨sm, hk⟩ ⟨rfl, hz⟩
    obtain ⟨s, hs1, hs2⟩ := rsl.mapV hz
    obtain ⟨sb, rfl, hsb⟩ := (sm.rk hs2).step
    nested_keys
    refine ⟨sb, _, _, _, rfl, rfl, SqT.of hsb, rfl, ?_⟩
    refine ⟨_, hk, ?_, sm.put hD, ?_⟩
    · rw [List.length_map, List.length_map]
      exact line24 (m := 5) (Nat.le_trans (List.length_take_le' _ _) r5)
    · rw [upd_same, take_snoc hs1, List.map_append, List.map_append]
      rfl
  · rintro H2 ⟨sm, hk⟩
    rw [rsl.len, List.take_length] at hk
    refine ⟨D, _, rfl, .inl (SqL.of hk), rfl, flat_strs _, ?_⟩
    rw [inV_text]
    have hw : x ∈ r.2.map (·.2.1) ↔ x ∈ h.words := by
      rw [hok.mem, hst, List.mem_map]
    by_cases hx : x ∈ h.words
    · rw [decide_eq_true (hw.mpr hx)]
      nested_keys
      refine ⟨t, _, _, _, rfl, rfl, SqT.of (sm _ _ ht), rfl, ?_⟩
      nested_keys
      refine ⟨sl, _, rfl, .inl (SqL.of (sm _ _ hsl)), ?_⟩
      nested_keys
      refine ⟨by omega, by omega, fun E hE => ?_⟩
      have hE0 : H E = none := sm.none hE
      refine lc_it walk_range (fun n H4 => Same H H4 ∧ H4 E = some (.lst ((idxs i x (r.2.take n) 0).map numV))) ⟨sm.put hE0, upd_same⟩ (fun _ _ _ _ => trivial) ?_ ?_
      · rintro n z H4 H5 hi ⟨sm4, hk4⟩ ⟨rfl, rfl⟩
        have hn : n < r.2.length := by rw [← rsl.len]; omega
        have hs1 := List.getElem?_eq_getElem hn
        generalize r.2[n] = s at hs1
        obtain ⟨y, hy1, hy2⟩ := rsl.get_map hs1
        obtain ⟨sb, rfl, hsb⟩ := (sm4.rk hy2).step
        have ht4 := sm4 _ _ ht
        have hsl4 := sm4 _ _ hsl
        have ln : (r.2.take n).length = n := by rw [List.length_take]; omega
        have en : idxs i x (r.2.take (n + 1)) 0 = idxs i x (r.2.take n) 0 ++ (if s.1 = i ∧ s.2.1 = x then [some ((n : Nat) : Int)] else []) := by
          rw [take_snoc hs1, idxs_snoc, ln, Nat.zero_add]
        nested_keys
        refine ⟨t, _, _, _, rfl, rfl, SqT.of ht4, rfl, ?_⟩
        nested_keys
        refine ⟨sl, _, _, _, rfl, rfl, SqL.of hsl4, by rw [Int.zero_add]; exact atI_nat hy1, ?_⟩
        nested_keys
        refine ⟨sb, _, _, _, rfl, rfl, SqT.of hsb, rfl, ?_⟩
        nested_keys
        refine iteD (fun c => ?_) fun c => ?_
        · have c' : s.1 = i := by injection c
          nested_keys
          refine ⟨t, _, _, _, rfl, rfl, SqT.of ht4, rfl, ?_⟩
          nested_keys
          refine ⟨sl, _, _, _, rfl, rfl, SqL.of hsl4, by rw [Int.zero_add]; exact atI_nat hy1, ?_⟩
          nested_keys
          refine ⟨sb, _, _, _, rfl, rfl, SqT.of hsb, rfl, ?_⟩
          nested_keys
          refine iteD (fun d => ?_) fun d => ?_
          · have d' : s.2.1 = x := by injection d
            nested_keys
            refine ⟨_, hk4, ?_, sm4.put hE0, ?_⟩
            · rw [List.length_map]
              exact line24 (m := 5) (Nat.le_trans (idxs_len _ _ _ _) (Nat.le_trans (List.length_take_le' _ _) r5))
            · rw [upd_same, en, if_pos ⟨c', d'⟩, List.map_append]
              show some (HO.lst (_ ++ [V.int (0 + (n : Int))])) = _
              rw [Int.zero_add]
              rfl
          · refine ⟨sm4, ?_⟩
            rw [hk4, en, if_neg fun z => d (by rw [z.2]), List.append_nil]
        · refine ⟨sm4, ?_⟩
          rw [hk4, en, if_neg fun z => c (by rw [z.1]), List.append_nil]
      · rintro H4 ⟨sm4, hk4⟩
        rw [show ((sv.length : Nat) : Int).toNat = r.2.length by rw [Int.toNat_natCast, rsl.len], List.take_length] at hk4
        exact q E _ sm4 (by rw [hk4, stepNums, if_pos hx, hst])
    · rw [decide_eq_false (fun z => hx (hw.mp z))]
      nested_keys
      refine ⟨by show 1 ≤ sizeLine; decide, fun c hc => ?_⟩
      exact q c _ (sm.put (sm.none hc)) (by rw [upd_same, stepNums, if_neg hx]; rfl)
end NS
/-! G33: the walks of _law_behind, _law_moves. -/
namespace NS
open PySem PySem.Spec PyProof.Rows L2
local macro_rules | `(tactic| nested_keys) => `(tactic| repeat (first | refine ⟨_, rfl, ?_⟩ | refine ⟨_, _, rfl, rfl, ?_⟩ | refine ⟨rfl, ?_⟩ | with_reducible refine iteT ?_ | with_reducible refine iteF ?_))
variable {N : Addr → Prop} {P : Program} {w : World} {K : PySem.W.Frag} {mg : Str → Option Value} {base : Heap}
/-! ### _law_behind -/
def sp_lbehind : Sp := fun vs H Q _ => ∃ (ra b : Addr) (v : V) (rs : List RowM) (S : SysM) (st : Stg) (m : Move), vs = [.ref ra, .ref b, v] ∧ RowsAt H ra rs ∧ SysG S ∧ SysRows S rs ∧ H b = some (.tup (st.map .int)) ∧ StOk S st ∧ Rk H (dMove m) v ∧ MvOk S st m ∧
  ∀ c H', Same H H' → H' c = some (.tup ((ledTo S st m).map .int)) → Q (.ref c) H'
theorem ok__law_behind (T : Tx K mg) : C8.Cal P w K mg base 1 "_law_behind" sp_lbehind [] := cal__law_behind T (fun vs H Q E ⟨_, _, _, _, _, _, _, h, _⟩ => by rw [h]; rfl) fun cdv A outer s H vs Q E hr h => by
  refine ⟨_, (pss_cons (ps_set (i := 3) sc__law_behind.nd rfl (Or.inl rfl) (pe_lst pa_nil))
    (C8.pss_cut (ps_for PassesOwn.never rfl (pi_range1 (by rfl) T.f_range (pa_cons (pe_callB call_len_seq (by rfl) T.f_len b_len (pa_cons (pv 0) pa_nil)) pa_nil)) (pg_name (i := 4) sc__law_behind.nd rfl (Or.inl rfl))
      (pss_one (ps_if (pt_cmpR op_isN (pe_ix ix_tup (pe_ix ix_tup (pv 2) pe_int (fun _ _ => rfl)) (pv 4) (fun _ _ => rfl)) pe_non (nomark _)) (pss_one (ps_expr (pe_bm PySem.F.plainAttrs_list PySem.F.slot_list_append PySem.F.type_list_append mt_append (pv 3) (pa_cons (pe_ix ix_tup (pv 1) (pv 4) (fun _ _ => rfl)) pa_nil)))) (pss_one (ps_expr (pe_bm PySem.F.plainAttrs_list PySem.F.slot_list_append PySem.F.type_list_append mt_append (pv 3) (pa_cons (pe_ix ix_tup (pe_ix ix_list (pe_ix ix_tup (pe_ix ix_list (pv 0) (pv 4) (fun _ _ => rfl)) pe_int (fun _ _ => rfl)) (pe_ix ix_tup (pe_ix ix_tup (pv 2) pe_int (fun _ _ => rfl)) (pv 4) (fun _ _ => rfl)) (fun _ _ => rfl)) pe_int (fun _ _ => rfl)) pa_nil)))))))
    (pss_one (ps_ret (pe_callTy call_tuple_of (by rfl) T.f_tuple b_tuple (pa_cons (pv 3) pa_nil)))))), ?_⟩
  obtain ⟨ra, b, v, rs, S, st, m, rfl, ⟨rv, hra, prs⟩, hG, hR, hb, ok, hm, mo, q⟩ := h
  obtain ⟨mb, mc, rfl, hmb, hmc⟩ := hm.move
  have lrv := pairedLen prs
  have l3 : rs.length ≤ 3 := by rw [← hR.len]; exact hG.ok.few
  have ll := length_ledTo ok.len mo.len
  nested_keys
  refine ⟨Nat.zero_le _, fun F hF => ?_⟩
  have sF : Same H (upd H F (.lst [])) := Same.new hF
  refine ⟨fun σ' H' => Same H H' ∧ H' F = some (.lst ((ledTo S st m).map .int)) ∧ ∃ u1, σ' = [some (V.ref ra), some (V.ref b), some (V.ref mb), some (V.ref F), u1], ?_, ?_⟩
  · nested_keys
    refine ⟨ra, _, rfl, .inl (SqL.of (sF _ _ hra)), ?_⟩
    nested_keys
    refine ⟨by omega, by omega, ?_⟩
    refine for_it walk_range (fun n σ' H' => Same H H' ∧ H' F = some (.lst (((ledTo S st m).take n).map .int)) ∧ ∃ u1, σ' = [some (V.ref ra), some (V.ref b), some (V.ref mb), some (V.ref F), u1]) ⟨sF, upd_same, _, rfl⟩ (fun _ _ _ _ _ => trivial) ?_ ?_
    · rintro n y σ2 H2 H3 hi ⟨sm, hk, u1, rfl⟩ ⟨rfl, rfl⟩
      have hn : n < rs.length := by omega
      have hr1 := List.getElem?_eq_getElem hn
      generalize rs[n] = r at hr1
      obtain ⟨h, h1, h2, h3⟩ := hR.hand hr1
      have hn2 : n < rv.length := by omega
      have hv1 := List.getElem?_eq_getElem hn2
      generalize rv[n] = rvv at hv1
      obtain ⟨r', hr', t, sl, rfl, sla, ht, sv, hsl, rsl⟩ := pairedAt prs n _ hv1
      rw [hr1] at hr'
      cases hr'
      obtain ⟨x, e1, e2⟩ := ok.get h1
      obtain ⟨z, e3, e4⟩ := mo.get h1 e1
      have e5 := getElem_ledTo h1 e1 e3
      have few : ((ledTo S st m).take n).length < sizeLine := line24 (m := 3) (Nat.le_trans (List.length_take_le' _ _) (by rw [ll]; exact hG.ok.few))
      nested_keys
      refine ⟨mb, _, _, _, rfl, rfl, SqT.of (sm _ _ hmb), rfl, ?_⟩
      nested_keys
      refine ⟨mc, _, _, _, rfl, rfl, SqT.of (sm _ _ hmc), by rw [Int.zero_add]; exact atI_nat (by rw [List.getElem?_map, e3]; rfl), ?_⟩
      cases z with
      | none =>
        nested_keys
        refine ⟨.inl ⟨rfl, _, SqL.of hk⟩, ?_⟩
        nested_keys
        refine ⟨b, _, _, _, rfl, rfl, SqT.of (sm _ _ hb), by rw [Int.zero_add]; exact atI_nat (by rw [List.getElem?_map, e1]; rfl), ?_⟩
        refine ⟨F, _, _, rfl, rfl, hk, by rw [List.length_map]; exact few, sm.put hF, ?_, _, rfl⟩
        rw [upd_same, take_snoc e5, List.map_append]
        rfl
      | some z =>
        have hw : m.1 ∈ h.words := by
          unfold stepNums at e4
          split at e4
          · assumption
          · simp at e4
        rw [stepNums, if_pos hw] at e4
        obtain ⟨j, sp, k1, k2, k3, k4⟩ := mem_idxs.mp e4
        have ez : z = ((j : Nat) : Int) := by simpa using k4
        rw [h3] at k1
        obtain ⟨sv2, k5, k6⟩ := rsl.get_map k1
        obtain ⟨sb, rfl, hsb⟩ := k6.step
        have ea : after h x (some z) = sp.2.2 := by
          rw [ez]
          show ((h.steps[((j : Nat) : Int).toNat]?).map (·.2.2)).getD x = sp.2.2
          rw [Int.toNat_natCast, h3, k1]
          rfl
        nested_keys
        refine ⟨.inl ⟨rfl, _, SqL.of hk⟩, ?_⟩
        nested_keys
        refine ⟨ra, _, _, _, rfl, rfl, SqL.of (sm _ _ hra), by rw [Int.zero_add]; exact atI_nat hv1, ?_⟩
        nested_keys
        refine ⟨t, _, _, _, rfl, rfl, SqT.of (sm _ _ ht), rfl, ?_⟩
        nested_keys
        refine ⟨mb, _, _, _, rfl, rfl, SqT.of (sm _ _ hmb), rfl, ?_⟩
        nested_keys
        refine ⟨mc, _, _, _, rfl, rfl, SqT.of (sm _ _ hmc), by rw [Int.zero_add]; exact atI_nat (by rw [List.getElem?_map, e3]; rfl), ?_⟩
        refine ⟨sl, _, _, _, rfl, rfl, SqL.of (sm _ _ hsl), by rw [ez]; exact atI_nat k5, ?_⟩
        nested_keys
        refine ⟨sb, _, _, _, rfl, rfl, SqT.of (sm _ _ hsb), rfl, ?_⟩
        refine ⟨F, _, _, rfl, rfl, hk, by rw [List.length_map]; exact few, sm.put hF, ?_, _, rfl⟩
        rw [upd_same, take_snoc e5, ea, List.map_append]
        rfl
    · rintro σ2 H2 ⟨sm, hk, k⟩
      rw [show ((rv.length : Nat) : Int).toNat = (ledTo S st m).length by rw [Int.toNat_natCast, ll, lrv, hR.len], List.take_length] at hk
      exact ⟨sm, hk, k⟩
  · rintro σ2 H2 ⟨sm, hk, u1, rfl⟩
    nested_keys
    exact ⟨F, _, rfl, .inl ⟨SqL.of hk, fun t ht => q t _ (sm.put (sm.none ht)) upd_same⟩⟩
end NS
/-! G34: the walk of _law_moves. -/
namespace NS
open PySem PySem.Spec PyProof.Rows L2
local macro_rules | `(tactic| nested_keys) => `(tactic| repeat (first | refine ⟨_, rfl, ?_⟩ | refine ⟨_, _, rfl, rfl, ?_⟩ | refine ⟨rfl, ?_⟩ | with_reducible refine iteT ?_ | with_reducible refine iteF ?_))
variable {N : Addr → Prop} {P : Program} {w : World} {K : PySem.W.Frag} {mg : Str → Option Value} {base : Heap}
def sp_lmoves : Sp := fun vs H Q _ => ∃ (ra b : Addr) (rs : List RowM) (S : SysM) (st : Stg), vs = [.ref ra, .ref b] ∧ RowsAt H ra rs ∧ SysG S ∧ SysRows S rs ∧ H b = some (.tup (st.map .int)) ∧ StOk S st ∧
  ∀ (c : Addr) (H' : Hp), H c = none → Same H H' → Ls H' c ((movesOf S st).map dMove) → Q (.ref c) H'
theorem ok__law_moves (T : Tx K mg) : C8.Cal P w K mg base 2 "_law_moves" sp_lmoves [] := cal__law_moves T (fun vs H Q E ⟨_, _, _, _, _, h, _⟩ => by rw [h]; rfl) fun cdv A outer s H vs Q E hr h => by
  refine ⟨_, (pss_cons (ps_set (i := 2) sc__law_moves.nd rfl (Or.inl rfl) (pe_lst pa_nil))
    (C8.pss_cut (ps_for PassesOwn.never rfl (pi_list (C8.pe_c (ok__law_words T) hr (by decide) (by rfl) (pa_cons (pv 0) pa_nil))) (pg_name (i := 3) sc__law_moves.nd rfl (Or.inr rfl))
      (pss_cons (ps_set (i := 4) sc__law_moves.nd rfl (Or.inl rfl) (pe_lst (pa_cons (pe_tup pa_nil) pa_nil)))
    (C8.pss_cut (ps_for PassesOwn.never rfl (pi_range1 (by rfl) T.f_range (pa_cons (pe_callB call_len_seq (by rfl) T.f_len b_len (pa_cons (pv 0) pa_nil)) pa_nil)) (pg_name (i := 5) sc__law_moves.nd rfl (Or.inl rfl))
      (pss_cons (ps_set (i := 6) sc__law_moves.nd rfl (Or.inl rfl) (pe_lst pa_nil))
    (C8.pss_cut (ps_for PassesOwn.never rfl (pi_list (pv 4)) (pg_name (i := 7) sc__law_moves.nd rfl (Or.inr rfl))
      (pss_one (ps_set (i := 6) sc__law_moves.nd rfl (Or.inl rfl) (pe_op op_cat (pv 6) (pe_lc (own := [("_law_k", 8)]) (g := gName 8) (tt := tYes) (by rfl) sc__law_moves.nd (pi_list (C8.pe_c (ok__law_numbers T) hr (by decide) (by rfl) (pa_cons (pe_ix ix_list (pv 0) (pv 5) (fun _ _ => rfl)) (pa_cons (pe_ix ix_tup (pv 1) (pv 5) (fun _ _ => rfl)) (pa_cons (pv 3) pa_nil))))) (blkOk_by (own := [("_law_k", 8)]) (N := n__law_moves) (sc := defScope s__law_moves) (by decide +kernel)) (fun _ _ _ _ _ => pg_name (i := 8) sc__law_moves.nd rfl (Or.inl rfl)) (fun _ _ _ _ _ => pts_nil) (fun _ _ _ _ _ => (pe_op (op_catAB (K := K) rfl) (pv 7) (pe_tup (pa_cons (pv 8) pa_nil)))))))))
    (pss_one (ps_set (i := 4) sc__law_moves.nd rfl (Or.inl rfl) (pv 6))))))
    (pss_one (ps_set (i := 2) sc__law_moves.nd rfl (Or.inl rfl) (pe_op op_cat (pv 2) (pe_lc (own := [("_law_line", 7)]) (g := gName 7) (tt := tYes) (by rfl) sc__law_moves.nd (pi_list (pv 4)) (blkOk_by (own := [("_law_line", 7)]) (N := n__law_moves) (sc := defScope s__law_moves) (by decide +kernel)) (fun _ _ _ _ _ => pg_name (i := 7) sc__law_moves.nd rfl (Or.inl rfl)) (fun _ _ _ _ _ => pts_nil) (fun _ _ _ _ _ => (pe_tup (pa_cons (pv 3) (pa_cons (pv 7) pa_nil)))))))))))
    (pss_one (ps_ret (pv 2))))), ?_⟩
  obtain ⟨ra, b, rs, S, st, rfl, hrows, hG, hR, hb, ok, q⟩ := h
  obtain ⟨rv, hra, prs⟩ := id hrows
  have lrv := pairedLen prs
  have l3 : rs.length ≤ 3 := by rw [← hR.len]; exact hG.ok.few
  have zl : (S.hands.zip st).length = rv.length := by rw [List.length_zip, ok.len, Nat.min_self, lrv, hR.len]
  nested_keys
  refine ⟨Nat.zero_le _, fun F0 hF0 => ?_⟩
  have sF0 : Same H (upd H F0 (.lst [])) := Same.new hF0
  refine ⟨fun σ' H' => Same H H' ∧ ∃ F, H F = none ∧ Ls H' F ((movesOf S st).map dMove) ∧ ∃ u3 u4 u5 u6 u7 u8, σ' = [some (V.ref ra), some (V.ref b), some (V.ref F), u3, u4, u5, u6, u7, u8], ?_, ?_⟩
  · nested_keys
    refine ⟨ra, rs, S, rfl, hrows.at sF0.seqs, hG, hR, fun wl H1 _ s1 hwl => ?_⟩
    have sH1 := Same.trans' sF0 s1
    nested_keys
    refine ⟨⟨_, SqL.of hwl⟩, for_it (walk_li (S.words.map V.str)) (fun n σ' H' => Same H1 H' ∧ ∃ F, H F = none ∧ Ls H' F ((movesFor S st (S.words.take n)).map dMove) ∧ ∃ u3 u4 u5 u6 u7 u8, σ' = [some (V.ref ra), some (V.ref b), some (V.ref F), u3, u4, u5, u6, u7, u8]) ⟨fun _ _ e => e, F0, hF0, ⟨[], s1 _ _ upd_same, .nil⟩, _, _, _, _, _, _, rfl⟩ (fun _ _ _ _ k => SqL.of (k.1 _ _ hwl)) ?_ ?_⟩
    · rintro n v σ2 H2' H2 hi ⟨sm, F, nF, ⟨fv, hF2, rF⟩, u3, u4, u5, u6, u7, u8, rfl⟩ ⟨rfl, hv⟩
      rw [List.getElem?_map] at hv
      obtain ⟨x, hx, rfl⟩ := Option.map_eq_some_iff.mp hv
      have sH2 := Same.trans' sH1 sm
      nested_keys
      refine ⟨Nat.zero_le _, fun e he => ?_⟩
      refine ⟨by show 1 ≤ sizeLine; decide, fun r hr' => ?_⟩
      have s4 : Same H2 (upd (upd H2 e (.tup [])) r (.lst [.ref e])) := (Same.new he).put ((Same.new he).none hr')
      have he4 : upd (upd H2 e (.tup [])) r (.lst [.ref e]) e = some (.tup []) := by rw [upd_ne (ne_of_none upd_same hr')]; exact upd_same
      have hr4 : upd (upd H2 e (.tup [])) r (.lst [.ref e]) r = some (.lst [.ref e]) := upd_same
      generalize upd (upd H2 e (.tup [])) r (.lst [.ref e]) = H4 at s4 he4 hr4 |-
      have sH4 := Same.trans' sH2 s4
      have sm4 := Same.trans' sm s4
      refine ⟨fun σ' H' => Same H4 H' ∧ ∃ r, Ls H' r ((rowsOf x (S.hands.zip st) [[]]).map dLine) ∧ ∃ u5 u6 u7 u8, σ' = [some (V.ref ra), some (V.ref b), some (V.ref F), some (.str x), some (.ref r), u5, u6, u7, u8], ?_, ?_⟩
      · nested_keys
        refine ⟨ra, _, rfl, .inl (SqL.of (sH4 _ _ hra)), ?_⟩
        nested_keys
        refine ⟨by omega, by omega, ?_⟩
        refine for_it walk_range (fun i σ' H' => Same H4 H' ∧ ∃ r, Ls H' r ((rowsOf x ((S.hands.zip st).take i) [[]]).map dLine) ∧ ∃ u5 u6 u7 u8, σ' = [some (V.ref ra), some (V.ref b), some (V.ref F), some (.str x), some (.ref r), u5, u6, u7, u8]) ⟨fun _ _ e => e, r, ⟨_, hr4, .cons (.tup he4 .nil) .nil⟩, _, _, _, _, rfl⟩ (fun _ _ _ _ _ => trivial) ?_ ?_
        · rintro i y σ5 H5' H5 hi ⟨sm5, r5, ⟨lv, hr5, rr5⟩, v5, v6, v7, v8, rfl⟩ ⟨rfl, rfl⟩
          have hn : i < rs.length := by omega
          have hr1 := List.getElem?_eq_getElem hn
          generalize rs[i] = row at hr1
          obtain ⟨h, h1, h2, h3⟩ := hR.hand hr1
          have hn2 : i < rv.length := by omega
          have hv1 := List.getElem?_eq_getElem hn2
          generalize rv[i] = rvv at hv1
          obtain ⟨row', hrow', hat⟩ := pairedAt prs i _ hv1
          rw [hr1] at hrow'
          cases hrow'
          obtain ⟨z, e1, e2⟩ := ok.get h1
          have hok := (hG.hands h (List.mem_of_getElem? h1)).ok
          have few := hok.few
          have sH5 := Same.trans' sH4 sm5
          have rl := rows_len hG.ok st x i
          have el : rowsOf x ((S.hands.zip st).take (i + 1)) [[]] = rowsMore (rowsOf x ((S.hands.zip st).take i) [[]]) (stepNums h z x) := by
            rw [take_snoc ((List.getElem?_zip_eq_some (z := (h, z))).mpr ⟨h1, e1⟩), rowsOf_snoc]
          have nl : (stepNums h z x).length ≤ 5 := stepNums_len few
          have rsl : ∀ r ∈ rowsOf x ((S.hands.zip st).take i) [[]], r.length ≤ 3 := fun r hr => by
            have l1 := rowsOf_row x ((S.hands.zip st).take i) [[]] 0 (by simp) r hr
            have l2 : ((S.hands.zip st).take i).length ≤ 3 := by
              have := hG.ok.few
              rw [List.length_take, List.length_zip]
              omega
            omega
          rw [el]
          generalize hrows' : rowsOf x ((S.hands.zip st).take i) [[]] = rows at rr5 rl rsl |-
          nested_keys
          refine ⟨Nat.zero_le _, fun g0 hg0 => ?_⟩
          have s6 : Same H5 (upd H5 g0 (.lst [])) := Same.new hg0
          have hg06 : upd H5 g0 (.lst []) g0 = some (.lst []) := upd_same
          generalize upd H5 g0 (.lst []) = H6 at s6 hg06 |-
          have sH6 := Same.trans' sH5 s6
          have hr6 := s6 _ _ hr5
          have rr6 := s6.rks rr5
          refine ⟨fun σ' H' => Same H6 H' ∧ ∃ g, Ls H' g ((rowsMore rows (stepNums h z x)).map dLine) ∧ ∃ u7 u8, σ' = [some (V.ref ra), some (V.ref b), some (V.ref F), some (.str x), some (.ref r5), some (.int (0 + (i : Int))), some (.ref g), u7, u8], ?_, ?_⟩
          · nested_keys
            refine ⟨⟨_, SqL.of hr6⟩, for_it (walk_li lv) (fun k σ' H' => Same H6 H' ∧ ∃ g, Ls H' g ((rowsMore (rows.take k) (stepNums h z x)).map dLine) ∧ ∃ u7 u8, σ' = [some (V.ref ra), some (V.ref b), some (V.ref F), some (.str x), some (.ref r5), some (.int (0 + (i : Int))), some (.ref g), u7, u8]) ⟨fun _ _ e => e, g0, ⟨[], hg06, .nil⟩, _, _, rfl⟩ (fun _ _ _ _ k => SqL.of (k.1 _ _ hr6)) ?_ ?_⟩
            · rintro k y7 σ7 H7' H7 hk ⟨sm7, g, ⟨gv, hg7, rg7⟩, u7, u8, rfl⟩ ⟨rfl, hy⟩
              obtain ⟨line, g1, g2⟩ := rr6.mapV hy
              obtain ⟨lb, rfl, hlb⟩ := (sm7.rk g2).nums
              have sH7 := Same.trans' sH6 sm7
              nested_keys
              refine ⟨ra, _, _, _, rfl, rfl, SqL.of (sH7 _ _ hra), by rw [Int.zero_add]; exact atI_nat hv1, ?_⟩
              nested_keys
              refine ⟨b, _, _, _, rfl, rfl, SqT.of (sH7 _ _ hb), by rw [Int.zero_add]; exact atI_nat (by rw [List.getElem?_map, e1]; rfl), ?_⟩
              nested_keys
              refine ⟨ra, rvv, row, h, z, x, rfl, hat.at sH7.seqs, h3, hok, fun nc H9 s9 hnc => ?_⟩
              generalize hnums : stepNums h z x = nums at hnc nl rg7 |-
              nested_keys
              refine ⟨⟨_, SqL.of hnc⟩, fun D hD => ?_⟩
              have hlb9 := s9 _ _ hlb
              refine lc_it (walk_li (nums.map numV)) (fun j H' => Same H9 H' ∧ Ls H' D (((nums.take j).map fun n => line ++ [n]).map dLine)) ⟨Same.new hD, ⟨[], upd_same, .nil⟩⟩ (fun _ _ _ k => SqL.of (k.1 _ _ hnc)) ?_ ?_
              · rintro j w9 HX' HX hj ⟨sm9, dv, hD9, rD9⟩ ⟨rfl, hw9⟩
                rw [List.getElem?_map] at hw9
                obtain ⟨nn, hnn, rfl⟩ := Option.map_eq_some_iff.mp hw9
                have hlb11 := sm9 _ _ hlb9
                have size : dv.length < sizeLine := by
                  rw [rD9.len, List.length_map]
                  exact line24 (m := 5) (Nat.le_trans (List.length_take_le' _ _) nl)
                have ed : ∀ {H' : Hp} {v : V}, Tups HX H' → Rk H' (dLine (line ++ [nn])) v → Rks H' (((nums.take (j + 1)).map fun n => line ++ [n]).map dLine) (dv ++ [v]) := fun t r => by
                  rw [take_snoc hnn, List.map_append, List.map_append]
                  exact (rD9.at t).append (.cons r .nil)
                nested_keys
                refine ⟨by show 1 ≤ sizeLine; decide, fun q1 hq1 => ?_⟩
                have sq1 : Same HX (upd HX q1 (.tup [numV nn])) := Same.new hq1
                refine ⟨lb, q1, _, _, rfl, rfl, SqT.of (sq1 _ _ hlb11), SqT.of upd_same, ?_, ?_, ?_, ?_⟩
                · have := rsl line (List.mem_of_getElem? g1)
                  rw [List.length_map]
                  exact Nat.le_of_lt (line24 (m := 4) (by show line.length + 1 ≤ 4; omega))
                · intro e0
                  have e0' : line = [] := by simpa using e0
                  subst e0'
                  refine ⟨_, sq1 _ _ hD9, size, ?_, _, upd_same, ed ?_ ?_⟩
                  · exact fun b o e => by
                      rw [upd_ne (fun z => by rw [z, hD] at e; cases e)]
                      exact sq1 _ _ (sm9 _ _ e)
                  · exact fun b xs e => by
                      rw [upd_ne (fun z => by rw [z, hD9] at e; cases e)]
                      exact sq1 _ _ e
                  · refine .tup (by rw [upd_ne (fun z => by rw [z, hD9] at hq1; cases hq1)]; exact upd_same) (rks_num [nn])
                · intro _ e0
                  cases e0
                · intro n1 n2 q2 hq2
                  have sq2 : Same HX (upd (upd HX q1 (.tup [numV nn])) q2 (.tup (line.map numV ++ [numV nn]))) := sq1.put (sq1.none hq2)
                  refine ⟨_, sq2 _ _ hD9, size, ?_, _, upd_same, ed ?_ ?_⟩
                  · exact fun b o e => by
                      rw [upd_ne (fun z => by rw [z, hD] at e; cases e)]
                      exact sq2 _ _ (sm9 _ _ e)
                  · exact fun b xs e => by
                      rw [upd_ne (fun z => by rw [z, hD9] at e; cases e)]
                      exact sq2 _ _ e
                  · refine .tup (xs := (line ++ [nn]).map numV) (by rw [upd_ne (fun z => by rw [z, sq1 _ _ hD9] at hq2; cases hq2), upd_same, List.map_append]; rfl) (rks_num _)
              · rintro H10 ⟨sm10, dv, hD10, rD10⟩
                rw [List.length_map, List.take_length] at rD10
                have hg10 := sm10 _ _ (s9 _ _ hg7)
                have rg10 := sm10.rks (s9.rks rg7)
                have s710 := Same.trans' s9 sm10
                refine ⟨g, D, _, _, rfl, rfl, hg10, hD10, ?_, fun p hp => ?_⟩
                · rw [rg10.len, rD10.len, rowsMore_len, List.length_map]
                  have l1 : (rows.take k).length ≤ 125 := Nat.le_trans (List.length_take_le' _ _) rl
                  have l3 := Nat.mul_le_mul l1 nl
                  exact Nat.le_of_lt (line24 (m := 630) (by omega))
                · have sp : Same H10 (upd H10 p (.lst (gv ++ dv))) := Same.new hp
                  refine ⟨Same.trans' sm7 (Same.trans' s710 sp), p, ⟨_, upd_same, ?_⟩, _, _, rfl⟩
                  rw [rowsMore_snoc g1, List.map_append]
                  exact (sp.rks rg10).append (sp.rks rD10)
            · rintro σ7 H7 ⟨sm7, g, hg7, k⟩
              rw [rr6.len, List.take_length] at hg7
              exact ⟨sm7, g, hg7, k⟩
          · rintro σ7 H7 ⟨sm7, g, hg7, u7, u8, rfl⟩
            nested_keys
            exact ⟨Same.trans' sm5 (Same.trans' s6 sm7), g, hg7, _, _, _, _, rfl⟩
        · rintro σ5 H5 ⟨sm5, r5, hr5, k⟩
          rw [show ((rv.length : Nat) : Int).toNat = (S.hands.zip st).length by rw [Int.toNat_natCast, zl], List.take_length] at hr5
          exact ⟨sm5, r5, hr5, k⟩
      · rintro σ5 H5 ⟨sm5, r5, ⟨lv, hr5, rr5⟩, v5, v6, v7, v8, rfl⟩
        have hF5 := sm5 _ _ (s4 _ _ hF2)
        have rF5 := sm5.rks (s4.rks rF)
        have rl := rows_len hG.ok st x (S.hands.zip st).length
        rw [List.take_length] at rl
        nested_keys
        refine ⟨⟨_, SqL.of hr5⟩, fun D hD => ?_⟩
        refine lc_it (walk_li lv) (fun k H8 => Same H5 H8 ∧ Ls H8 D ((((rowsOf x (S.hands.zip st) [[]]).take k).map fun r => ((x, r) : Move)).map dMove)) ⟨Same.new hD, ⟨[], upd_same, .nil⟩⟩ (fun _ _ _ k => SqL.of (k.1 _ _ hr5)) ?_ ?_
        · rintro k w8 H8' H8 hk ⟨sm8, dv, hD8, rD8⟩ ⟨rfl, hw8⟩
          obtain ⟨row, g1, g2⟩ := rr5.mapV hw8
          obtain ⟨rb, rfl, hrb⟩ := (sm8.rk g2).nums
          have size : dv.length < sizeLine := by
            rw [rD8.len, List.length_map]
            exact line24 (m := 125) (Nat.le_trans (List.length_take_le' _ _) rl)
          nested_keys
          refine ⟨by show 2 ≤ sizeLine; decide, fun q1 hq1 => ?_⟩
          have sq1 : Same H8 (upd H8 q1 (.tup [.str x, .ref rb])) := Same.new hq1
          have nDq : q1 ≠ D := fun z => by rw [z, hD8] at hq1; cases hq1
          refine ⟨dv, sq1 _ _ hD8, size, ?_, _, upd_same, ?_⟩
          · exact fun b o e => by
              rw [upd_ne (fun z => by rw [z, hD] at e; cases e)]
              exact sq1 _ _ (sm8 _ _ e)
          · have tt : Tups H8 (upd (upd H8 q1 (.tup [.str x, .ref rb])) D (.lst (dv ++ [.ref q1]))) := fun b xs e => by
              rw [upd_ne (fun z => by rw [z, hD8] at e; cases e)]
              exact sq1 _ _ e
            rw [take_snoc g1, List.map_append, List.map_append]
            refine (rD8.at tt).append (.cons (Rk.ofMove (c := rb) ?_ (tt _ _ hrb)) .nil)
            rw [upd_ne nDq, upd_same]
        · rintro H8 ⟨sm8, dv, hD8, rD8⟩
          rw [rr5.len, List.take_length] at rD8
          have hF8 := sm8 _ _ hF5
          have rF8 : Rks H8 ((movesFor S st (S.words.take n)).map dMove) fv := sm8.rks rF5
          have s18 := Same.trans' sm4 (Same.trans' sm5 sm8)
          refine ⟨F, D, _, _, rfl, rfl, hF8, hD8, ?_, fun p hp => ?_⟩
          · rw [rF8.len, rD8.len, List.length_map]
            have m1 := movesFor_len hG.ok st (S.words.take n)
            have m2 : (S.words.take n).length ≤ 4 := Nat.le_trans (List.length_take_le' _ _) hG.ok.few2
            exact Nat.le_of_lt (line24 (m := 1000) (by omega))
          · have sp : Same H8 (upd H8 p (.lst (fv ++ dv))) := Same.new hp
            refine ⟨Same.trans' s18 sp, p, (Same.trans' sH1 s18).none hp, ⟨_, upd_same, ?_⟩, _, _, _, _, _, _, rfl⟩
            rw [movesFor_snoc hx, List.map_append]
            exact (sp.rks rF8).append (sp.rks rD8)
    · rintro σ2 H2 ⟨sm, F, nF, hk, k⟩
      rw [List.length_map, List.take_length] at hk
      exact ⟨Same.trans' sH1 sm, F, nF, hk, k⟩
  · rintro σ2 H2 ⟨sm, F, nF, hk, u3, u4, u5, u6, u7, u8, rfl⟩
    nested_keys
    exact q F _ nF sm hk
end NS
/-! G35: the walk of _law_walk. -/
namespace NS
open PySem PySem.Spec PyProof.Rows L2
local macro_rules | `(tactic| nested_keys) => `(tactic| repeat (first | refine ⟨_, rfl, ?_⟩ | refine ⟨_, _, rfl, rfl, ?_⟩ | refine ⟨rfl, ?_⟩ | with_reducible refine iteT ?_ | with_reducible refine iteF ?_))
variable {N : Addr → Prop} {P : Program} {w : World} {K : PySem.W.Frag} {mg : Str → Option Value} {base : Heap}
/-- the standings of a run -/
def placesOf (S : SysM) (st : Stg) (ms : List Move) : List Stg := (List.range (ms.length + 1)).map fun k => atS S st (ms.take k)
theorem placesOf_snoc (S : SysM) (st : Stg) (ms : List Move) (m : Move) : placesOf S st (ms ++ [m]) = placesOf S st ms ++ [atS S st (ms ++ [m])] := by
  unfold placesOf
  rw [List.length_append, List.length_singleton, List.range_succ (n := ms.length + 1), List.map_append]
  congr 1
  · refine List.map_congr_left fun k hk => ?_
    have := List.mem_range.mp hk
    rw [List.take_append_of_le_length (by omega)]
  · rw [List.map_singleton, List.take_of_length_le (by simp)]
theorem RunOk.snoc {S : SysM} {st : Stg} {ms : List Move} {m : Move} (r : RunOk S st ms) (h : MvOk S (atS S st ms) m) : RunOk S st (ms ++ [m]) := fun k x hx => by
  by_cases hk : k < ms.length
  · rw [List.getElem?_append_left hk] at hx
    rw [List.take_append_of_le_length (by omega)]
    exact r k x hx
  · have l := (List.getElem?_eq_some_iff.mp hx).1
    rw [List.length_append, List.length_singleton] at l
    have e : k = ms.length := by omega
    subst e
    rw [List.getElem?_append_right (Nat.le_refl _), Nat.sub_self] at hx
    cases hx
    rw [List.take_append_of_le_length (Nat.le_refl _), List.take_length]
    exact h
/-- what the law's walk carries: the standing at b, the run v, the places at pl -/
structure WalkAt (S : SysM) (H : Hp) (b : Addr) (v : V) (pl : Addr) (ms : List Move) : Prop where
  at_ : H b = some (.tup ((atS S S.start ms).map .int))
  run : ∃ rb, v = .ref rb ∧ ∃ us, H rb = some (.tup us) ∧ Rks H (ms.map dMove) us
  pls : Ls H pl ((placesOf S S.start ms).map dI)
  ok : RunOk S S.start ms
theorem WalkAt.same {S : SysM} {H H' : Hp} {b : Addr} {v : V} {pl : Addr} {ms : List Move} (x : WalkAt S H b v pl ms) (s : Seqs H H') : WalkAt S H' b v pl ms := by
  obtain ⟨h1, ⟨rb, h2, us, h3, h4⟩, h5, h6⟩ := x
  exact ⟨s.t _ _ h1, ⟨rb, h2, us, s.t _ _ h3, h4.at s.t⟩, h5.at s, h6⟩
def sp_lwalk : Sp := fun vs H Q _ => ∃ (ra ca : Addr) (rs : List RowM) (cells : List Int) (S : SysM), vs = [.ref ra, .ref ca] ∧ RowsAt H ra rs ∧ H ca = some (.lst (cells.map .int)) ∧ cells.length ≤ 40 ∧ SysG S ∧ SysRows S rs ∧
  ∀ (t rb pl : Addr) (ms : List Move) (H' : Hp), Same H H' → H' t = some (.tup [.ref rb, .ref pl]) → Rk H' (.tup (ms.map dMove)) (.ref rb) → Ls H' pl ((placesOf S S.start ms).map dI) → RunOk S S.start ms → ms.length ≤ 120 → Q (.ref t) H'
theorem ok__law_walk (T : Tx K mg) : C8.Cal P w K mg base 3 "_law_walk" sp_lwalk [] := cal__law_walk T (fun vs H Q E ⟨_, _, _, _, _, h, _⟩ => by rw [h]; rfl) fun cdv A outer s H vs Q E hr h => by
  refine ⟨_, (pss_cons (ps_set (i := 2) sc__law_walk.nd rfl (Or.inl rfl) (C8.pe_c (ok__law_start T) hr (by decide) (by rfl) (pa_cons (pv 0) pa_nil)))
    (pss_cons (ps_set (i := 3) sc__law_walk.nd rfl (Or.inl rfl) (pe_tup pa_nil))
    (pss_cons (ps_set (i := 4) sc__law_walk.nd rfl (Or.inl rfl) (pe_lst (pa_cons (pv 2) pa_nil)))
    (C8.pss_cut (ps_for PassesOwn.never rfl (pi_list (pv 1)) (pg_name (i := 5) sc__law_walk.nd rfl (Or.inl rfl))
      (pss_cons (ps_set (i := 6) sc__law_walk.nd rfl (Or.inl rfl) (C8.pe_c (ok__law_pool T) hr (by decide) (by rfl) (pa_cons (pv 5) pa_nil)))
    (pss_one (ps_for PassesOwn.never rfl (pi_range1 (by rfl) T.f_range (pa_cons (pe_op op_add pe_int (C8.pe_c (ok__law_draw T) hr (by decide) (by rfl) (pa_cons (pv 6) (pa_cons pe_int pa_nil)))) pa_nil)) (pg_name (i := 7) sc__law_walk.nd rfl (Or.inl rfl))
      (pss_cons (ps_set (i := 8) sc__law_walk.nd rfl (Or.inl rfl) (C8.pe_c (ok__law_moves T) hr (by decide) (by rfl) (pa_cons (pv 0) (pa_cons (pv 2) pa_nil))))
    (pss_one (ps_if (pt_cmpR op_gt (pe_callB call_len_seq (by rfl) T.f_len b_len (pa_cons (pv 8) pa_nil)) pe_int (nomark _)) (pss_cons (ps_set (i := 9) sc__law_walk.nd rfl (Or.inl rfl) (pe_ix ix_list (pv 8) (C8.pe_c (ok__law_draw T) hr (by decide) (by rfl) (pa_cons (pv 6) (pa_cons (pe_callB call_len_seq (by rfl) T.f_len b_len (pa_cons (pv 8) pa_nil)) pa_nil))) (fun _ _ => rfl)))
    (pss_cons (ps_set (i := 3) sc__law_walk.nd rfl (Or.inl rfl) (pe_op op_catA (pv 3) (pe_tup (pa_cons (pv 9) pa_nil))))
    (pss_cons (ps_set (i := 2) sc__law_walk.nd rfl (Or.inl rfl) (C8.pe_c (ok__law_behind T) hr (by decide) (by rfl) (pa_cons (pv 0) (pa_cons (pv 2) (pa_cons (pv 9) pa_nil)))))
    (pss_one (ps_expr (pe_bm PySem.F.plainAttrs_list PySem.F.slot_list_append PySem.F.type_list_append mt_append (pv 4) (pa_cons (pv 2) pa_nil))))))) pss_nil)))))))
    (pss_one (ps_ret (pe_tup (pa_cons (pv 3) (pa_cons (pv 4) pa_nil))))))))), ?_⟩
  obtain ⟨ra, ca, rs, cells, S, rfl, hrows, hca, c40, hG, hR, q⟩ := h
  have l3 : rs.length ≤ 3 := by rw [← hR.len]; exact hG.ok.few
  nested_keys
  refine ⟨ra, rs, rfl, hrows, l3, fun b0 H1 s1 hb0 => ?_⟩
  rw [hR.starts hG] at hb0
  nested_keys
  refine ⟨Nat.zero_le _, fun rb0 hrb0 => ?_⟩
  have s2 : Same H1 (upd H1 rb0 (.tup [])) := Same.new hrb0
  nested_keys
  refine ⟨by show 1 ≤ sizeLine; decide, fun pl hpl => ?_⟩
  have s3 : Same (upd H1 rb0 (.tup [])) (upd (upd H1 rb0 (.tup [])) pl (.lst [.ref b0])) := Same.new hpl
  have sH3 := Same.trans' s1 (Same.trans' s2 s3)
  have npl : H pl = none := (Same.trans' s1 s2).none hpl
  have w0 : WalkAt S (upd (upd H1 rb0 (.tup [])) pl (.lst [.ref b0])) b0 (.ref rb0) pl [] := by
    have hb3 := s3 _ _ (s2 _ _ hb0)
    exact ⟨hb3, ⟨rb0, rfl, [], s3 _ _ upd_same, .nil⟩, ⟨_, upd_same, .cons (Rk.ofInts hb3) .nil⟩, fun k m z => by cases k <;> cases z⟩
  generalize upd (upd H1 rb0 (.tup [])) pl (.lst [.ref b0]) = H3 at sH3 w0 |-
  refine ⟨fun σ' H' => Same H H' ∧ (∃ b rb ms, WalkAt S H' b (.ref rb) pl ms ∧ ms.length ≤ 120 ∧ ∃ u5 u6 u7 u8 u9, σ' = [some (V.ref ra), some (V.ref ca), some (V.ref b), some (V.ref rb), some (V.ref pl), u5, u6, u7, u8, u9]), ?_, ?_⟩
  · nested_keys
    refine ⟨⟨_, SqL.of (sH3 _ _ hca)⟩, for_it (walk_li (cells.map V.int)) (fun n σ' H' => Same H H' ∧ (∃ b rb ms, WalkAt S H' b (.ref rb) pl ms ∧ ms.length ≤ 3 * n ∧ ∃ u5 u6 u7 u8 u9, σ' = [some (V.ref ra), some (V.ref ca), some (V.ref b), some (V.ref rb), some (V.ref pl), u5, u6, u7, u8, u9])) ⟨sH3, b0, rb0, [], w0, Nat.le_refl _, _, _, _, _, _, rfl⟩ (fun _ _ _ _ k => SqL.of (k.1 _ _ hca)) ?_ ?_⟩
    · rintro n y σ4 H4' H4 hi ⟨sm4, b, rb, ms, w4, l4, u5, u6, u7, u8, u9, rfl⟩ ⟨rfl, hy⟩
      rw [List.getElem?_map] at hy
      obtain ⟨cell, hcell, rfl⟩ := Option.map_eq_some_iff.mp hy
      have n40 : n < 40 := by
        have := (List.getElem?_eq_some_iff.mp hcell).1
        omega
      nested_keys
      refine fun pa H5 npa s5 hp5 => ?_
      nested_keys
      have npa0 : H pa = none := sm4.none npa
      have papl : pl ≠ pa := fun z => by
        obtain ⟨vs, h1, _⟩ := w4.pls
        rw [z, npa] at h1
        cases h1
      refine ⟨pa, 3, rfl, hp5, by decide, by decide, fun d1 H6 d10 d11 t6 hp6 => ?_⟩
      have sH6 : Same H H6 := Same1.back (Same.trans' sm4 s5) npa0 t6
      have s46 : Same H4 H6 := Same1.back s5 npa t6
      have w6 := w4.same s46.seqs
      obtain ⟨m, em⟩ : ∃ m : Nat, 1 + d1 = ((m : Nat) : Int) := ⟨(1 + d1).toNat, by omega⟩
      have m3 : m ≤ 3 := by omega
      have em' : (1 + d1).toNat = m := by omega
      nested_keys
      refine ⟨by omega, by omega, ?_⟩
      rw [em']
      refine for_it walk_range (fun i σ' H' => Same H H' ∧ Pool H' pa ∧ (∃ b rb ms', WalkAt S H' b (.ref rb) pl ms' ∧ ms'.length ≤ ms.length + i ∧ ∃ u7 u8 u9, σ' = [some (V.ref ra), some (V.ref ca), some (V.ref b), some (V.ref rb), some (V.ref pl), some (.int cell), some (.ref pa), u7, u8, u9])) ⟨sH6, hp6, b, rb, ms, w6, Nat.le_refl _, _, _, _, rfl⟩ (fun _ _ _ _ _ => trivial) ?_ ?_
      · rintro i y σ7 H7' H7 hi7 ⟨sm7, hp7, b7, rb7, ms7, w7, l7, v7, v8, v9, rfl⟩ ⟨rfl, rfl⟩
        have st7 : StOk S (atS S S.start ms7) := by
          have := w7.ok.st hG.ok hG.ok.startOk ms7.length (Nat.le_refl _)
          rwa [List.take_length] at this
        nested_keys
        refine ⟨ra, b7, rs, S, _, rfl, hrows.at sm7.seqs, hG, hR, w7.at_, st7, fun mc H8 nmc s8 hmc => ?_⟩
        have sH8 := Same.trans' sm7 s8
        have w8 := w7.same s8.seqs
        obtain ⟨mv, hmc1, hmc2⟩ := hmc
        have lmv := hmc2.len
        have paH8 : Pool H8 pa := by
          obtain ⟨x, y, z, e⟩ := hp7
          exact ⟨x, y, z, s8 _ _ e⟩
        nested_keys
        refine ⟨mc, _, rfl, .inl (SqL.of hmc1), ?_⟩
        nested_keys
        refine iteD (fun c => ?_) fun c => ?_
        · have mv1 : 0 < mv.length := by omega
          nested_keys
          refine ⟨mc, _, rfl, .inl (SqL.of hmc1), ?_⟩
          have lw : (movesOf S (atS S S.start ms7)).length ≤ 500 := by
            have := waysOf_len hG.ok (atS S S.start ms7)
            unfold waysOf at this
            rwa [List.length_map] at this
          nested_keys
          refine ⟨pa, (mv.length : Nat), rfl, paH8, by omega, ?_, fun d2 H9 d20 d21 t9 hp9 => ?_⟩
          · have e26 : (26 : Int) ^ 12 = 95428956661682176 := by decide
            omega
          have sH9 : Same H H9 := Same1.back sH8 npa0 t9
          have mcpa : mc ≠ pa := fun z => by
            obtain ⟨x, y, u, e⟩ := hp7
            rw [z, e] at nmc
            cases nmc
          have keep : ∀ {a : Addr} {o : HO}, H8 a = some o → a ≠ pa → H9 a = some o := fun e n => t9 _ _ n e
          have tt9 : Tups H8 H9 := fun a xs e => t9 a _ (fun z => by
            obtain ⟨x, y, u, e'⟩ := paH8
            rw [z, e'] at e
            cases e) e
          have w9 : WalkAt S H9 b7 (.ref rb7) pl ms7 := by
            obtain ⟨h1, ⟨rb', h2, us, h3, h4⟩, ⟨vs, h5, h6⟩, h7⟩ := w8
            exact ⟨tt9 _ _ h1, ⟨rb', h2, us, tt9 _ _ h3, h4.at tt9⟩, ⟨vs, keep h5 papl, h6.at tt9⟩, h7⟩
          obtain ⟨d, ed⟩ : ∃ d : Nat, d2 = ((d : Nat) : Int) := ⟨d2.toNat, by omega⟩
          subst ed
          have hd : d < mv.length := by omega
          obtain ⟨move, hmv1, hmv2⟩ := hmc2.mapV (List.getElem?_eq_getElem hd)
          generalize hx : mv[d] = x at hmv2
          have mok : MvOk S (atS S S.start ms7) move := (mem_moves st7.len).mp (List.mem_of_getElem? hmv1)
          have hmv9 := hmv2.at tt9
          obtain ⟨h1, ⟨rb', h2, us, h3, h4⟩, ⟨pvs, h5, h6⟩, h7⟩ := w9
          obtain rfl : rb7 = rb' := by injection h2
          nested_keys
          refine ⟨mc, _, _, x, rfl, rfl, SqL.of (keep hmc1 mcpa), atI_nat (by rw [← hx]; exact List.getElem?_eq_getElem hd), ?_⟩
          nested_keys
          have lms7 : ms7.length ≤ 120 := by omega
          -- run + (move,)
          have rest : ∀ (rb9 : Addr) (H10 : Hp), Same H9 H10 → (∃ us', H10 rb9 = some (.tup us') ∧ Rks H10 ((ms7 ++ [move]).map dMove) us') → ∀ (b9 : Addr) (H11 : Hp), Same H10 H11 → H11 b9 = some (.tup ((ledTo S (atS S S.start ms7) move).map .int)) →
              WalkAt S (upd H11 pl (.lst (pvs ++ [.ref b9]))) b9 (.ref rb9) pl (ms7 ++ [move]) := by
            rintro rb9 H10 s10 ⟨us', g1, g2⟩ b9 H11 s11 g3
            have s911 := Same.trans' s10 s11
            have hpl11 := s911 _ _ h5
            have tt := Tups.put (o := .lst (pvs ++ [.ref b9])) hpl11 (fun xs z => by cases z)
            refine ⟨?_, ⟨rb9, rfl, us', tt _ _ (s11 _ _ g1), (s11.rks g2).at tt⟩, ⟨_, upd_same, ?_⟩, h7.snoc mok⟩
            · rw [atS_snoc]
              exact tt _ _ g3
            · rw [placesOf_snoc, List.map_append]
              refine ((s911.rks h6).at tt).append (.cons (Rk.ofInts ?_) .nil)
              rw [atS_snoc]
              exact tt _ _ g3
          refine ⟨by show 1 ≤ sizeLine; decide, fun q1 hq1 => ?_⟩
          have sq1 : Same H9 (upd H9 q1 (.tup [x])) := Same.new hq1
          refine ⟨rb7, q1, _, _, rfl, rfl, SqT.of (sq1 _ _ h3), SqT.of upd_same, ?_, ?_, ?_, ?_⟩
          · rw [h4.len]
            exact Nat.le_of_lt (line24 (m := 130) (by show ms7.length + 1 ≤ 130; omega))
          · intro e0
            have e1 : ms7 = [] := by
              have := h4.len
              rw [e0] at this
              exact List.eq_nil_of_length_eq_zero this.symm
            have g2 : Rks (upd H9 q1 (.tup [x])) ((ms7 ++ [move]).map dMove) [x] := by
              rw [e1]
              exact .cons (sq1.rk hmv9) .nil
            nested_keys
            refine ⟨ra, b7, x, rs, S, _, move, rfl, hrows.at (Same.trans' sH9 sq1).seqs, hG, hR, (sq1 _ _ h1), st7, sq1.rk hmv9, mok, fun b9 H11 s11 hb9 => ?_⟩
            have s911 := Same.trans' sq1 s11
            have hpl11 := s911 _ _ h5
            nested_keys
            refine ⟨.inl ⟨rfl, _, SqL.of hpl11⟩, ?_⟩
            nested_keys
            refine ⟨pl, _, _, rfl, rfl, hpl11, ?_, (Same.trans' sH9 s911).put npl, ?_, b9, q1, ms7 ++ [move], rest _ _ sq1 ⟨_, upd_same, g2⟩ b9 H11 s11 hb9, ?_, _, _, _, rfl⟩
            · rw [h6.len, placesOf, List.length_map, List.length_range]
              exact line24 (m := 200) (by omega)
            · obtain ⟨x, y, z, e⟩ := hp9
              exact ⟨x, y, z, by rw [upd_ne papl.symm]; exact s911 _ _ e⟩
            · rw [List.length_append, List.length_singleton]
              omega
          · intro _ e0
            cases e0
          · intro n1 n2 q2 hq2
            have sq2 : Same H9 (upd (upd H9 q1 (.tup [x])) q2 (.tup (us ++ [x]))) := sq1.put (sq1.none hq2)
            have g2 : Rks (upd (upd H9 q1 (.tup [x])) q2 (.tup (us ++ [x]))) ((ms7 ++ [move]).map dMove) (us ++ [x]) := by
              rw [List.map_append]
              exact (sq2.rks h4).append (.cons (sq2.rk hmv9) .nil)
            nested_keys
            refine ⟨ra, b7, x, rs, S, _, move, rfl, hrows.at (Same.trans' sH9 sq2).seqs, hG, hR, (sq2 _ _ h1), st7, sq2.rk hmv9, mok, fun b9 H11 s11 hb9 => ?_⟩
            have s911 := Same.trans' sq2 s11
            have hpl11 := s911 _ _ h5
            nested_keys
            refine ⟨.inl ⟨rfl, _, SqL.of hpl11⟩, ?_⟩
            nested_keys
            refine ⟨pl, _, _, rfl, rfl, hpl11, ?_, (Same.trans' sH9 s911).put npl, ?_, b9, q2, ms7 ++ [move], rest _ _ sq2 ⟨_, upd_same, g2⟩ b9 H11 s11 hb9, ?_, _, _, _, rfl⟩
            · rw [h6.len, placesOf, List.length_map, List.length_range]
              exact line24 (m := 200) (by omega)
            · obtain ⟨x, y, z, e⟩ := hp9
              exact ⟨x, y, z, by rw [upd_ne papl.symm]; exact s911 _ _ e⟩
            · rw [List.length_append, List.length_singleton]
              omega
        · nested_keys
          exact ⟨sH8, paH8, b7, rb7, ms7, w8, by omega, _, _, _, rfl⟩
      · rintro σ7 H7 ⟨sm7, hp7, b7, rb7, ms7, w7, l7, v7, v8, v9, rfl⟩
        exact ⟨sm7, b7, rb7, ms7, w7, by omega, _, _, _, _, _, rfl⟩
    · rintro σ4 H4 ⟨sm4, b, rb, ms, w4, l4, k⟩
      rw [List.length_map] at l4
      exact ⟨sm4, b, rb, ms, w4, by omega, k⟩
  · rintro σ4 H4 ⟨sm4, b, rb, ms, w4, l4, u5, u6, u7, u8, u9, rfl⟩
    obtain ⟨h1, ⟨rb', h2, us, h3, h4⟩, h5, h7⟩ := w4
    obtain rfl : rb = rb' := by injection h2
    nested_keys
    refine ⟨by show 2 ≤ sizeLine; decide, fun t ht => ?_⟩
    have s5 : Same H4 (upd H4 t (.tup [.ref rb, .ref pl])) := Same.new ht
    exact q t rb pl ms _ (Same.trans' sm4 s5) upd_same (.tup (s5 _ _ h3) (s5.rks h4)) (h5.same s5) h7 l4
end NS
/-! G36: the walk of _law_same: of texts, of lists of texts, of tuples of such. -/
namespace NS
open PySem PySem.Spec PyProof.Rows L2
local macro_rules | `(tactic| nested_keys) => `(tactic| repeat (first | refine ⟨_, rfl, ?_⟩ | refine ⟨_, _, rfl, rfl, ?_⟩ | refine ⟨rfl, ?_⟩ | with_reducible refine iteT ?_ | with_reducible refine iteF ?_))
variable {N : Addr → Prop} {P : Program} {w : World} {K : PySem.W.Frag} {mg : Str → Option Value} {base : Heap}
theorem iteNot {c A B : Prop} [Decidable c] (hc : c) (h : B) : if (!decide c) = true then A else B := by
  rw [if_neg (by simp [hc])]
  exact h
def sp_same0 : Sp := fun vs H Q _ => ∃ (x : Str), vs = [.str x, .str x] ∧ ∀ H' : Hp, Same H H' → Q (.bl true) H'
theorem ok_same0 (T : Tx K mg) : C8.Cal P w K mg base 1 "_law_same" sp_same0 [] := cal__law_same T (fun vs H Q E ⟨_, h, _⟩ => by rw [h]; rfl) fun cdv A outer s0 H vs Q E hr h => by
  refine ⟨_, (pss_cons (ps_if (pt_cmpR op_isN (pv 1) pe_non (nomark _)) (pss_one (ps_ret (pe_cmpR op_isN (pv 0) pe_non (nomark _)))) pss_nil)
    (pss_cons (ps_if (pt_val (pe_callB call_isi (by rfl) T.f_isinstance b_isinstance (pa_cons (pv 1) (pa_cons (pe_bt (by rfl) T.f_bool b_bool) pa_nil)))) (pss_one (ps_ret (pe_and (pe_callB call_isi (by rfl) T.f_isinstance b_isinstance (pa_cons (pv 0) (pa_cons (pe_bt (by rfl) T.f_bool b_bool) pa_nil))) (pe_one (pe_cmpR op_eq (pv 0) (pv 1) (nomark _)))))) pss_nil)
    (pss_cons (ps_if (pt_val (pe_callB call_isi (by rfl) T.f_isinstance b_isinstance (pa_cons (pv 1) (pa_cons (pe_bt (by rfl) T.f_int b_int) pa_nil)))) (pss_one (ps_ret (pe_and (pe_callB call_isi (by rfl) T.f_isinstance b_isinstance (pa_cons (pv 0) (pa_cons (pe_bt (by rfl) T.f_int b_int) pa_nil))) (pe_and (pe_not (pe_callB call_isi (by rfl) T.f_isinstance b_isinstance (pa_cons (pv 0) (pa_cons (pe_bt (by rfl) T.f_bool b_bool) pa_nil)))) (pe_one (pe_cmpR op_eq (pv 0) (pv 1) (nomark _))))))) pss_nil)
    (pss_cons (ps_if (pt_val (pe_callB call_isi (by rfl) T.f_isinstance b_isinstance (pa_cons (pv 1) (pa_cons (pe_bt (by rfl) T.f_str b_str) pa_nil)))) (pss_one (ps_ret (pe_and (pe_callB call_isi (by rfl) T.f_isinstance b_isinstance (pa_cons (pv 0) (pa_cons (pe_bt (by rfl) T.f_str b_str) pa_nil))) (pe_one (pe_cmpR op_eq (pv 0) (pv 1) (nomark _)))))) pss_nil)
    (pss_cons (ps_if (PW.pt (pw_and (pt_val (pe_callB call_isi (by rfl) T.f_isinstance b_isinstance (pa_cons (pv 1) (pa_cons (pe_bt (by rfl) T.f_list b_list) pa_nil)))) (pw_and1 (pt_not (pt_val (pe_callB call_isi (by rfl) T.f_isinstance b_isinstance (pa_cons (pv 0) (pa_cons (pe_bt (by rfl) T.f_list b_list) pa_nil)))))))) (pss_one (ps_ret pe_bl)) pss_nil)
    (pss_cons (ps_if (PW.pt (pw_and (pt_val (pe_callB call_isi (by rfl) T.f_isinstance b_isinstance (pa_cons (pv 1) (pa_cons (pe_bt (by rfl) T.f_tuple b_tuple) pa_nil)))) (pw_and1 (pt_not (pt_val (pe_callB call_isi (by rfl) T.f_isinstance b_isinstance (pa_cons (pv 0) (pa_cons (pe_bt (by rfl) T.f_tuple b_tuple) pa_nil)))))))) (pss_one (ps_ret pe_bl)) pss_nil)
    (pss_cons (ps_if (pt_val (pe_callB call_isi (by rfl) T.f_isinstance b_isinstance (pa_cons (pv 1) (pa_cons (pe_bt (by rfl) T.f_dict b_dict) pa_nil)))) (pss_one (ps_ret (pe_and (pe_callB call_isi (by rfl) T.f_isinstance b_isinstance (pa_cons (pv 0) (pa_cons (pe_bt (by rfl) T.f_dict b_dict) pa_nil))) (pe_one (pe_cmpR op_eq (pv 0) (pv 1) (nomark _)))))) pss_nil)
    (pss_cons (ps_if (pt_cmpR op_ne (pe_callB call_len_seq (by rfl) T.f_len b_len (pa_cons (pv 0) pa_nil)) (pe_callB call_len_seq (by rfl) T.f_len b_len (pa_cons (pv 1) pa_nil)) (nomark _)) (pss_one (ps_ret pe_bl)) pss_nil)
    (C8.pss_cut ps_never
    (pss_one (ps_ret pe_bl))))))))))), ?_⟩
  obtain ⟨x, rfl, q⟩ := h
  nested_keys
  refine ⟨_, _, _, _, _, rfl, .ty _, tyStr, kit_ty k_str_bool, ?_⟩
  nested_keys
  refine ⟨_, _, _, _, _, rfl, .ty _, tyStr, kit_ty k_str_int, ?_⟩
  nested_keys
  refine ⟨_, _, _, _, _, rfl, .ty _, tyStr, kit_ty k_str_str, ?_⟩
  nested_keys
  refine ⟨_, _, _, _, _, rfl, .ty _, tyStr, kit_ty k_str_str, ?_⟩
  nested_keys
  show Q (.bl (decide (V.str x = V.str x))) H
  rw [decide_eq_true rfl]
  exact q H fun _ _ e => e
def sp_same1 : Sp := fun vs H Q _ => ∃ (a b : Addr) (xs : List Str), vs = [.ref a, .ref b] ∧ H a = some (.lst (xs.map .str)) ∧ H b = some (.lst (xs.map .str)) ∧ xs.length ≤ 1000 ∧ ∀ H' : Hp, Same H H' → Q (.bl true) H'
theorem ok_same1 (T : Tx K mg) : C8.Cal P w K mg base 2 "_law_same" sp_same1 [] := cal__law_same T (fun vs H Q E ⟨_, _, _, h, _⟩ => by rw [h]; rfl) fun cdv A outer s0 H vs Q E hr h => by
  refine ⟨_, (pss_cons (ps_if (pt_cmpR op_isN (pv 1) pe_non (nomark _)) (pss_one (ps_ret (pe_cmpR op_isN (pv 0) pe_non (nomark _)))) pss_nil)
    (pss_cons (ps_if (pt_val (pe_callB call_isi (by rfl) T.f_isinstance b_isinstance (pa_cons (pv 1) (pa_cons (pe_bt (by rfl) T.f_bool b_bool) pa_nil)))) (pss_one (ps_ret (pe_and (pe_callB call_isi (by rfl) T.f_isinstance b_isinstance (pa_cons (pv 0) (pa_cons (pe_bt (by rfl) T.f_bool b_bool) pa_nil))) (pe_one (pe_cmpR op_eq (pv 0) (pv 1) (nomark _)))))) pss_nil)
    (pss_cons (ps_if (pt_val (pe_callB call_isi (by rfl) T.f_isinstance b_isinstance (pa_cons (pv 1) (pa_cons (pe_bt (by rfl) T.f_int b_int) pa_nil)))) (pss_one (ps_ret (pe_and (pe_callB call_isi (by rfl) T.f_isinstance b_isinstance (pa_cons (pv 0) (pa_cons (pe_bt (by rfl) T.f_int b_int) pa_nil))) (pe_and (pe_not (pe_callB call_isi (by rfl) T.f_isinstance b_isinstance (pa_cons (pv 0) (pa_cons (pe_bt (by rfl) T.f_bool b_bool) pa_nil)))) (pe_one (pe_cmpR op_eq (pv 0) (pv 1) (nomark _))))))) pss_nil)
    (pss_cons (ps_if (pt_val (pe_callB call_isi (by rfl) T.f_isinstance b_isinstance (pa_cons (pv 1) (pa_cons (pe_bt (by rfl) T.f_str b_str) pa_nil)))) (pss_one (ps_ret (pe_and (pe_callB call_isi (by rfl) T.f_isinstance b_isinstance (pa_cons (pv 0) (pa_cons (pe_bt (by rfl) T.f_str b_str) pa_nil))) (pe_one (pe_cmpR op_eq (pv 0) (pv 1) (nomark _)))))) pss_nil)
    (pss_cons (ps_if (PW.pt (pw_and (pt_val (pe_callB call_isi (by rfl) T.f_isinstance b_isinstance (pa_cons (pv 1) (pa_cons (pe_bt (by rfl) T.f_list b_list) pa_nil)))) (pw_and1 (pt_not (pt_val (pe_callB call_isi (by rfl) T.f_isinstance b_isinstance (pa_cons (pv 0) (pa_cons (pe_bt (by rfl) T.f_list b_list) pa_nil)))))))) (pss_one (ps_ret pe_bl)) pss_nil)
    (pss_cons (ps_if (PW.pt (pw_and (pt_val (pe_callB call_isi (by rfl) T.f_isinstance b_isinstance (pa_cons (pv 1) (pa_cons (pe_bt (by rfl) T.f_tuple b_tuple) pa_nil)))) (pw_and1 (pt_not (pt_val (pe_callB call_isi (by rfl) T.f_isinstance b_isinstance (pa_cons (pv 0) (pa_cons (pe_bt (by rfl) T.f_tuple b_tuple) pa_nil)))))))) (pss_one (ps_ret pe_bl)) pss_nil)
    (pss_cons (ps_if (pt_val (pe_callB call_isi (by rfl) T.f_isinstance b_isinstance (pa_cons (pv 1) (pa_cons (pe_bt (by rfl) T.f_dict b_dict) pa_nil)))) (pss_one (ps_ret (pe_and (pe_callB call_isi (by rfl) T.f_isinstance b_isinstance (pa_cons (pv 0) (pa_cons (pe_bt (by rfl) T.f_dict b_dict) pa_nil))) (pe_one (pe_cmpR op_eq (pv 0) (pv 1) (nomark _)))))) pss_nil)
    (pss_cons (ps_if (pt_cmpR op_ne (pe_callB call_len_seq (by rfl) T.f_len b_len (pa_cons (pv 0) pa_nil)) (pe_callB call_len_seq (by rfl) T.f_len b_len (pa_cons (pv 1) pa_nil)) (nomark _)) (pss_one (ps_ret pe_bl)) pss_nil)
    (C8.pss_cut (ps_for PassesOwn.never rfl (pi_range1 (by rfl) T.f_range (pa_cons (pe_callB call_len_seq (by rfl) T.f_len b_len (pa_cons (pv 1) pa_nil)) pa_nil)) (pg_name (i := 2) sc__law_same.nd rfl (Or.inl rfl))
      (pss_one (ps_if (pt_not (pt_val (C8.pe_c (ok_same0 T) hr (by decide) (by rfl) (pa_cons (pe_ix ix_list (pv 0) (pv 2) (fun _ _ => rfl)) (pa_cons (pe_ix ix_list (pv 1) (pv 2) (fun _ _ => rfl)) pa_nil))))) (pss_one (ps_ret pe_bl)) pss_nil)))
    (pss_one (ps_ret pe_bl))))))))))), ?_⟩
  obtain ⟨a, b, xs, rfl, ha, hb, few, q⟩ := h
  nested_keys
  refine ⟨_, _, _, _, _, rfl, .ty _, (tyLst hb), kit_ty k_lst_bool, ?_⟩
  nested_keys
  refine ⟨_, _, _, _, _, rfl, .ty _, (tyLst hb), kit_ty k_lst_int, ?_⟩
  nested_keys
  refine ⟨_, _, _, _, _, rfl, .ty _, (tyLst hb), kit_ty k_lst_str, ?_⟩
  nested_keys
  refine ⟨_, _, _, _, _, rfl, .ty _, (tyLst hb), kit_ty k_lst_lst, ?_⟩
  nested_keys
  refine ⟨_, _, _, _, _, rfl, .ty _, (tyLst ha), kit_ty k_lst_lst, ?_⟩
  nested_keys
  refine ⟨_, _, _, _, _, rfl, .ty _, (tyLst hb), kit_ty k_lst_tup, ?_⟩
  nested_keys
  refine ⟨_, _, _, _, _, rfl, .ty _, (tyLst hb), kit_ty k_lst_dict, ?_⟩
  nested_keys
  refine ⟨a, _, rfl, .inl (SqL.of ha), ?_⟩
  nested_keys
  refine ⟨b, _, rfl, .inl (SqL.of hb), ?_⟩
  nested_keys
  refine iteNot rfl ?_
  refine ⟨fun σ' H' => Same H H' ∧ ∃ u2, σ' = [some (V.ref a), some (V.ref b), u2], ?_, ?_⟩
  · nested_keys
    refine ⟨b, _, rfl, .inl (SqL.of hb), ?_⟩
    nested_keys
    refine ⟨by rw [List.length_map]; omega, by rw [List.length_map]; omega, ?_⟩
    refine for_it walk_range (fun i σ' H' => Same H H' ∧ ∃ u2, σ' = [some (V.ref a), some (V.ref b), u2]) ⟨fun _ _ e => e, _, rfl⟩ (fun _ _ _ _ _ => trivial) ?_ fun _ _ k => k
    rintro i y σ2 H2' H2 hi ⟨sm, u2, rfl⟩ ⟨rfl, rfl⟩
    have hn : i < xs.length := by rw [List.length_map] at hi; omega
    have hx : (xs.map V.str)[i]? = some (.str xs[i]) := by rw [List.getElem?_map, List.getElem?_eq_getElem hn]; rfl
    nested_keys
    refine ⟨a, _, _, _, rfl, rfl, SqL.of (sm _ _ ha), by rw [Int.zero_add]; exact atI_nat hx, ?_⟩
    nested_keys
    refine ⟨b, _, _, _, rfl, rfl, SqL.of (sm _ _ hb), by rw [Int.zero_add]; exact atI_nat hx, ?_⟩
    nested_keys
    refine fun H3 s3 => ?_
    nested_keys
    exact ⟨Same.trans' sm s3, _, rfl⟩
  · rintro σ2 H2 ⟨sm, u2, rfl⟩
    nested_keys
    exact q _ sm
def sp_same2 : Sp := fun vs H Q _ => ∃ (t u : Addr) (ps qs : List Addr), vs = [.ref t, .ref u] ∧ H t = some (.tup (ps.map .ref)) ∧ H u = some (.tup (qs.map .ref)) ∧ ps.length = qs.length ∧ qs.length ≤ 3 ∧
  (∀ (i : Nat) p q, ps[i]? = some p → qs[i]? = some q → ∃ xs : List Str, H p = some (.lst (xs.map .str)) ∧ H q = some (.lst (xs.map .str)) ∧ xs.length ≤ 1000) ∧ ∀ H' : Hp, Same H H' → Q (.bl true) H'
theorem ok_same2 (T : Tx K mg) : C8.Cal P w K mg base 3 "_law_same" sp_same2 [] := cal__law_same T (fun vs H Q E ⟨_, _, _, _, h, _⟩ => by rw [h]; rfl) fun cdv A outer s0 H vs Q E hr h => by
  refine ⟨_, (pss_cons (ps_if (pt_cmpR op_isN (pv 1) pe_non (nomark _)) (pss_one (ps_ret (pe_cmpR op_isN (pv 0) pe_non (nomark _)))) pss_nil)
    (pss_cons (ps_if (pt_val (pe_callB call_isi (by rfl) T.f_isinstance b_isinstance (pa_cons (pv 1) (pa_cons (pe_bt (by rfl) T.f_bool b_bool) pa_nil)))) (pss_one (ps_ret (pe_and (pe_callB call_isi (by rfl) T.f_isinstance b_isinstance (pa_cons (pv 0) (pa_cons (pe_bt (by rfl) T.f_bool b_bool) pa_nil))) (pe_one (pe_cmpR op_eq (pv 0) (pv 1) (nomark _)))))) pss_nil)
    (pss_cons (ps_if (pt_val (pe_callB call_isi (by rfl) T.f_isinstance b_isinstance (pa_cons (pv 1) (pa_cons (pe_bt (by rfl) T.f_int b_int) pa_nil)))) (pss_one (ps_ret (pe_and (pe_callB call_isi (by rfl) T.f_isinstance b_isinstance (pa_cons (pv 0) (pa_cons (pe_bt (by rfl) T.f_int b_int) pa_nil))) (pe_and (pe_not (pe_callB call_isi (by rfl) T.f_isinstance b_isinstance (pa_cons (pv 0) (pa_cons (pe_bt (by rfl) T.f_bool b_bool) pa_nil)))) (pe_one (pe_cmpR op_eq (pv 0) (pv 1) (nomark _))))))) pss_nil)
    (pss_cons (ps_if (pt_val (pe_callB call_isi (by rfl) T.f_isinstance b_isinstance (pa_cons (pv 1) (pa_cons (pe_bt (by rfl) T.f_str b_str) pa_nil)))) (pss_one (ps_ret (pe_and (pe_callB call_isi (by rfl) T.f_isinstance b_isinstance (pa_cons (pv 0) (pa_cons (pe_bt (by rfl) T.f_str b_str) pa_nil))) (pe_one (pe_cmpR op_eq (pv 0) (pv 1) (nomark _)))))) pss_nil)
    (pss_cons (ps_if (PW.pt (pw_and (pt_val (pe_callB call_isi (by rfl) T.f_isinstance b_isinstance (pa_cons (pv 1) (pa_cons (pe_bt (by rfl) T.f_list b_list) pa_nil)))) (pw_and1 (pt_not (pt_val (pe_callB call_isi (by rfl) T.f_isinstance b_isinstance (pa_cons (pv 0) (pa_cons (pe_bt (by rfl) T.f_list b_list) pa_nil)))))))) (pss_one (ps_ret pe_bl)) pss_nil)
    (pss_cons (ps_if (PW.pt (pw_and (pt_val (pe_callB call_isi (by rfl) T.f_isinstance b_isinstance (pa_cons (pv 1) (pa_cons (pe_bt (by rfl) T.f_tuple b_tuple) pa_nil)))) (pw_and1 (pt_not (pt_val (pe_callB call_isi (by rfl) T.f_isinstance b_isinstance (pa_cons (pv 0) (pa_cons (pe_bt (by rfl) T.f_tuple b_tuple) pa_nil)))))))) (pss_one (ps_ret pe_bl)) pss_nil)
    (pss_cons (ps_if (pt_val (pe_callB call_isi (by rfl) T.f_isinstance b_isinstance (pa_cons (pv 1) (pa_cons (pe_bt (by rfl) T.f_dict b_dict) pa_nil)))) (pss_one (ps_ret (pe_and (pe_callB call_isi (by rfl) T.f_isinstance b_isinstance (pa_cons (pv 0) (pa_cons (pe_bt (by rfl) T.f_dict b_dict) pa_nil))) (pe_one (pe_cmpR op_eq (pv 0) (pv 1) (nomark _)))))) pss_nil)
    (pss_cons (ps_if (pt_cmpR op_ne (pe_callB call_len_seq (by rfl) T.f_len b_len (pa_cons (pv 0) pa_nil)) (pe_callB call_len_seq (by rfl) T.f_len b_len (pa_cons (pv 1) pa_nil)) (nomark _)) (pss_one (ps_ret pe_bl)) pss_nil)
    (C8.pss_cut (ps_for PassesOwn.never rfl (pi_range1 (by rfl) T.f_range (pa_cons (pe_callB call_len_seq (by rfl) T.f_len b_len (pa_cons (pv 1) pa_nil)) pa_nil)) (pg_name (i := 2) sc__law_same.nd rfl (Or.inl rfl))
      (pss_one (ps_if (pt_not (pt_val (C8.pe_c (ok_same1 T) hr (by decide) (by rfl) (pa_cons (pe_ix ix_tup (pv 0) (pv 2) (fun _ _ => rfl)) (pa_cons (pe_ix ix_tup (pv 1) (pv 2) (fun _ _ => rfl)) pa_nil))))) (pss_one (ps_ret pe_bl)) pss_nil)))
    (pss_one (ps_ret pe_bl))))))))))), ?_⟩
  obtain ⟨t, u, ps, qs, rfl, ht, hu, ln, few, each, q⟩ := h
  nested_keys
  refine ⟨_, _, _, _, _, rfl, .ty _, (tyTup hu), kit_ty k_tup_bool, ?_⟩
  nested_keys
  refine ⟨_, _, _, _, _, rfl, .ty _, (tyTup hu), kit_ty k_tup_int, ?_⟩
  nested_keys
  refine ⟨_, _, _, _, _, rfl, .ty _, (tyTup hu), kit_ty k_tup_str, ?_⟩
  nested_keys
  refine ⟨_, _, _, _, _, rfl, .ty _, (tyTup hu), kit_ty k_tup_lst, ?_⟩
  nested_keys
  refine ⟨_, _, _, _, _, rfl, .ty _, (tyTup hu), kit_ty k_tup_tup, ?_⟩
  nested_keys
  refine ⟨_, _, _, _, _, rfl, .ty _, (tyTup ht), kit_ty k_tup_tup, ?_⟩
  nested_keys
  refine ⟨_, _, _, _, _, rfl, .ty _, (tyTup hu), kit_ty k_tup_dict, ?_⟩
  nested_keys
  refine ⟨t, _, rfl, .inr (SqT.of ht), ?_⟩
  nested_keys
  refine ⟨u, _, rfl, .inr (SqT.of hu), ?_⟩
  nested_keys
  refine iteNot (by rw [List.length_map, List.length_map, ln]) ?_
  refine ⟨fun σ' H' => Same H H' ∧ ∃ u2, σ' = [some (V.ref t), some (V.ref u), u2], ?_, ?_⟩
  · nested_keys
    refine ⟨u, _, rfl, .inr (SqT.of hu), ?_⟩
    nested_keys
    refine ⟨by rw [List.length_map]; omega, by rw [List.length_map]; omega, ?_⟩
    refine for_it walk_range (fun i σ' H' => Same H H' ∧ ∃ u2, σ' = [some (V.ref t), some (V.ref u), u2]) ⟨fun _ _ e => e, _, rfl⟩ (fun _ _ _ _ _ => trivial) ?_ fun _ _ k => k
    rintro i y σ2 H2' H2 hi ⟨sm, u2, rfl⟩ ⟨rfl, rfl⟩
    have hn : i < qs.length := by rw [List.length_map] at hi; omega
    have hn2 : i < ps.length := by omega
    obtain ⟨xs, e1, e2, e3⟩ := each i _ _ (List.getElem?_eq_getElem hn2) (List.getElem?_eq_getElem hn)
    nested_keys
    refine ⟨t, _, _, _, rfl, rfl, SqT.of (sm _ _ ht), by rw [Int.zero_add]; exact atI_nat (by rw [List.getElem?_map, List.getElem?_eq_getElem hn2]; rfl), ?_⟩
    nested_keys
    refine ⟨u, _, _, _, rfl, rfl, SqT.of (sm _ _ hu), by rw [Int.zero_add]; exact atI_nat (by rw [List.getElem?_map, List.getElem?_eq_getElem hn]; rfl), ?_⟩
    refine ⟨_, _, xs, rfl, sm _ _ e1, sm _ _ e2, e3, fun H3 s3 => ?_⟩
    nested_keys
    exact ⟨Same.trans' sm s3, _, rfl⟩
  · rintro σ2 H2 ⟨sm, u2, rfl⟩
    nested_keys
    exact q _ sm
end NS
/-! M7: the nodes along a run. -/
namespace NS
open PySem PySem.Spec PyProof.Rows L2
def doneL (S : SysM) (ms : List Move) : List Str := S.words.filter fun x => decide (x ∈ ms.map (·.1))
def nodeAt (S : SysM) (ms : List Move) (n : Nat) : Nod := (atS S S.start (ms.take n), doneL S (ms.take n))
theorem atS_app (S : SysM) (st : Stg) (a b : List Move) : atS S st (a ++ b) = atS S (atS S st a) b := by
  unfold atS
  rw [List.foldl_append]
theorem RunOk.word {S : SysM} {st : Stg} {ms : List Move} (r : RunOk S st ms) : ∀ m ∈ ms, m.1 ∈ S.words := fun m hm => by
  obtain ⟨k, hk⟩ := List.getElem?_of_mem hm
  exact (r k m hk).word
theorem RunOk.app {S : SysM} {st : Stg} {a b : List Move} (r : RunOk S st (a ++ b)) : RunOk S st a ∧ RunOk S (atS S st a) b := by
  refine ⟨fun k m hk => ?_, fun k m hk => ?_⟩
  · have l := (List.getElem?_eq_some_iff.mp hk).1
    have := r k m (by rw [List.getElem?_append_left l]; exact hk)
    rwa [List.take_append_of_le_length (by omega)] at this
  · have := r (a.length + k) m (by rw [List.getElem?_append_right (by omega), Nat.add_sub_cancel_left]; exact hk)
    rwa [List.take_length_add_append, atS_app] at this
theorem RunOk.takeN {S : SysM} {st : Stg} {ms : List Move} (r : RunOk S st ms) (n : Nat) : RunOk S st (ms.take n) := by
  rw [← List.take_append_drop n ms] at r
  exact r.app.1
theorem mem_doneL {S : SysM} {st : Stg} {ms : List Move} (r : RunOk S st ms) {x : Str} : x ∈ doneL S ms ↔ ∃ m ∈ ms, m.1 = x := by
  unfold doneL
  rw [List.mem_filter, decide_eq_true_iff, List.mem_map]
  exact ⟨fun h => h.2, fun h => ⟨by obtain ⟨m, h1, h2⟩ := h; exact h2 ▸ r.word m h1, h⟩⟩
theorem doneL_pw {S : SysM} (g : SysG S) (ms : List Move) : (doneL S ms).Pairwise SLt := g.ok.voc.filter _
theorem node_reach {S : SysM} (g : SysG S) {ms : List Move} (r : RunOk S S.start ms) (n : Nat) : Rch (Pe S) (S.start, []) (nodeAt S ms n) :=
  run_end g (r.takeN n) (doneL_pw g _) fun _ => mem_doneL (r.takeN n)
theorem node_ok {S : SysM} (g : SysG S) {ms : List Move} (r : RunOk S S.start ms) (n : Nat) : NodOk S (nodeAt S ms n) := (nod0 g.ok).reach g.ok (node_reach g r n)
theorem node_step {S : SysM} (g : SysG S) {ms : List Move} (r : RunOk S S.start ms) {n m : Nat} (h : n ≤ m) : Rch (Pe S) (nodeAt S ms n) (nodeAt S ms m) := by
  have e : ms.take m = ms.take n ++ (ms.take m).drop n := by
    have := List.take_append_drop n (ms.take m)
    rw [List.take_take, Nat.min_eq_left h] at this
    exact this.symm
  have rm := r.takeN m
  have r2 := rm
  rw [e] at r2
  have k := node_ok g r n
  obtain ⟨d', h1, h2⟩ := run_reach g.ok (run_of_ok g.ok _ _ k.st r2.app.2) (doneL S (ms.take n)) k
  replace h1 : Rch (Pe S) (nodeAt S ms n) (atS S (atS S S.start (ms.take n)) ((ms.take m).drop n), d') := h1
  rw [← atS_app, ← e] at h1
  have nd := k.reach g.ok h1
  have ed : d' = doneL S (ms.take m) := pw_unique nd.pw (doneL_pw g _) fun x => by
    rw [h2 x, mem_doneL rm, mem_doneL (r.takeN n), List.mem_map]
    conv => rhs; rw [e]
    constructor
    · rintro (⟨q, h3, h4⟩ | ⟨y, h3, h4⟩)
      · exact ⟨q, List.mem_append_left _ h3, h4⟩
      · exact ⟨y, List.mem_append_right _ h3, h4⟩
    · rintro ⟨q, h3, h4⟩
      rcases List.mem_append.mp h3 with h3 | h3
      · exact .inl ⟨q, h3, h4⟩
      · exact .inr ⟨q, h3, h4⟩
  rw [ed] at h1
  exact h1
theorem places_at {S : SysM} {st : Stg} {ms : List Move} {n : Nat} (h : n ≤ ms.length) : (placesOf S st ms)[n]? = some (atS S st (ms.take n)) := by
  unfold placesOf
  rw [List.getElem?_map, List.getElem?_range (by omega)]
  rfl
end NS
set_option maxHeartbeats 2000000
/-! G37: the walk of law. -/
namespace NS
open PySem PySem.Spec PyProof.Rows L2
local macro_rules | `(tactic| nested_keys) => `(tactic| repeat (first | refine ⟨_, rfl, ?_⟩ | refine ⟨_, _, rfl, rfl, ?_⟩ | refine ⟨rfl, ?_⟩ | with_reducible refine iteT ?_ | with_reducible refine iteF ?_))
variable {N : Addr → Prop} {P : Program} {w : World} {K : PySem.W.Frag} {mg : Str → Option Value} {base : Heap}
theorem ExtN.own {H0 H : Hp} {a : Addr} {o : HO} (s : LamX.ExtN H0 H) (h : NoneN H0 a) : LamX.ExtN H0 (upd H a o) := fun b u e n => by
  have z : b ≠ a := fun z => by
    obtain ⟨ps, hp⟩ := h u (z ▸ e)
    exact n ps hp
  rw [upd_ne z]
  exact s b u e n
theorem TabI.upd {H : Hp} {a : Addr} {xs ys : List V} (t : TabI K H) (h : H a = some (.lst xs)) : TabI K (upd H a (.lst ys)) := by
  have ne : ∀ {b : Addr} {o : HO}, H b = some o → (∀ l, o ≠ .lst l) → L2.upd H a (.lst ys) b = some o := fun {b o} e n => by
    rw [upd_ne (fun z => by rw [z, h] at e; exact n _ (Option.some.inj e).symm)]
    exact e
  obtain ⟨ps, h1, h2, h3⟩ := t
  refine ⟨ps, ne h1 (fun l z => by cases z), h2, fun pos cv hc => ?_⟩
  obtain ⟨c, e1, e2⟩ := h3 pos cv hc
  exact ⟨c, e1, ne e2 (fun l z => by unfold LamX.CodeO at z; cases z)⟩
/-- what was sure stays sure, what was out stays out -/
def Grown (S : SysM) (ms : List Move) (szs : List Nat) (k : Nat) (A B : List Str) : Prop := ∀ n, (∀ j z, j < k → szs[j]? = some z → z ≤ n) → (∀ x ∈ A, x ∈ sureL S (nodeAt S ms n)) ∧ ∀ x ∈ B, x ∈ outL S (nodeAt S ms n)
theorem Grown.next {S : SysM} (g : SysG S) {ms : List Move} (r : RunOk S S.start ms) {szs : List Nat} {k n : Nat} (h : szs[k]? = some n) : Grown S ms szs (k + 1) (sureL S (nodeAt S ms n)) (outL S (nodeAt S ms n)) := fun m hm => by
  have st := node_step g r (hm k n (Nat.lt_succ_self _) h)
  exact ⟨fun x hx => sure_grows st x hx, fun x hx => out_grows st x hx⟩
theorem Grown.here {S : SysM} {ms : List Move} {szs : List Nat} {k n : Nat} {A B : List Str} (G : Grown S ms szs k A B) (asc : szs.Pairwise (· ≤ ·)) (h : szs[k]? = some n) : (∀ x ∈ A, x ∈ sureL S (nodeAt S ms n)) ∧ ∀ x ∈ B, x ∈ outL S (nodeAt S ms n) :=
  G n fun j z hj hz => by
    obtain ⟨l1, e1⟩ := List.getElem?_eq_some_iff.mp hz
    obtain ⟨l2, e2⟩ := List.getElem?_eq_some_iff.mp h
    have := List.pairwise_iff_getElem.mp asc j k l1 l2 hj
    omega
/-- what stands while the law's loop runs -/
structure Base (K : PySem.W.Frag) (H : Hp) (S : SysM) (ms : List Move) (p wt rb pl wl : Addr) : Prop where
  sys : SysAt K H p S
  pair : H wt = some (.tup [.ref rb, .ref pl])
  run : ∃ us, H rb = some (.tup us) ∧ Rks H (ms.map dMove) us
  pls : ∃ vs, H pl = some (.lst vs) ∧ Rks H ((placesOf S S.start ms).map dI) vs
  wds : H wl = some (.lst (S.words.map .str))
theorem Base.ext {H H' : Hp} {S : SysM} {ms : List Move} {p wt rb pl wl : Addr} (b : Base K H S ms p wt rb pl wl) (s : LamX.ExtN H H') : Base K H' S ms p wt rb pl wl := by
  obtain ⟨h1, h2, ⟨us, h3, h4⟩, ⟨vs, h5, h6⟩, h7⟩ := b
  exact ⟨SysAt.extN s h1, s _ _ h2 (fun ps z => by cases z), ⟨us, s _ _ h3 (fun ps z => by cases z), h4.at (ExtN.tups s)⟩, ⟨vs, s _ _ h5 (fun ps z => by cases z), h6.at (ExtN.tups s)⟩, s _ _ h7 (fun ps z => by cases z)⟩
theorem each3 {R : Addr → Addr → Prop} {a b c a' b' c' : Addr} (h1 : R a a') (h2 : R b b') (h3 : R c c') : ∀ (i : Nat) p q, [a, b, c][i]? = some p → [a', b', c'][i]? = some q → R p q
  | 0, _, _, e1, e2 => by cases e1; cases e2; exact h1
  | 1, _, _, e1, e2 => by cases e1; cases e2; exact h2
  | 2, _, _, e1, e2 => by cases e1; cases e2; exact h3
  | _ + 3, _, _, e1, _ => by cases e1
def sp_law (K : PySem.W.Frag) : Sp := fun vs H Q _ => ∃ (a : Addr) (ns : List Int), vs = [.ref a] ∧ SqL K H a (ns.map .int) ∧ TabI K H ∧ ∀ H' : Hp, Q (.bl true) H'
theorem walk_law (T : Tx K mg) (B : TbI K mg base) : Walk P w K mg base 9 n_law "law" s_law (He.ga K "law") (sp_law K) := fun cdv A outer s0 H vs Q E hr h => by
  refine ⟨_, (pss_cons (ps_set (i := 1) sc_law.nd rfl (Or.inl rfl) (C8.pe_c (ok__law_rows T) hr (by decide) (by rfl) (pa_cons (pv 0) (pa_cons pe_int (pa_cons pe_int (pa_cons pe_int (pa_cons pe_int pa_nil)))))))
    (pss_cons (ps_set (i := 2) sc_law.nd rfl (Or.inl rfl) (C8.pe_c (ok__law_system T) hr (by decide) (by rfl) (pa_cons (pe_ix ix_tup (pv 1) pe_int (fun _ _ => rfl)) (pa_cons (pe_ix ix_tup (pv 1) pe_int (fun _ _ => rfl)) pa_nil))))
    (pss_cons (ps_set (i := 3) sc_law.nd rfl (Or.inl rfl) (C8.pe_c (ok__law_walk T) hr (by decide) (by rfl) (pa_cons (pe_ix ix_tup (pv 1) pe_int (fun _ _ => rfl)) (pa_cons (pe_slice sl_list (pv 0) (po_some pe_int) (po_some pe_int)) pa_nil))))
    (pss_cons (ps_set (i := 4) sc_law.nd rfl (Or.inl rfl) (C8.pe_c (ok__law_words T) hr (by decide) (by rfl) (pa_cons (pe_ix ix_tup (pv 1) pe_int (fun _ _ => rfl)) pa_nil)))
    (pss_cons (ps_set (i := 5) sc_law.nd rfl (Or.inl rfl) (C8.pe_c (ok__law_pool T) hr (by decide) (by rfl) (pa_cons (C8.pe_c (ok__law_cell T) hr (by decide) (by rfl) (pa_cons (pv 0) (pa_cons pe_int pa_nil))) pa_nil)))
    (pss_cons (ps_set (i := 6) sc_law.nd rfl (Or.inl rfl) (pe_callB call_len_seq (by rfl) T.f_len b_len (pa_cons (pe_ix ix_tup (pv 3) pe_int (fun _ _ => rfl)) pa_nil)))
    (pss_cons (ps_set (i := 7) sc_law.nd rfl (Or.inl rfl) (C8.pe_c (ok__law_draw T) hr (by decide) (by rfl) (pa_cons (pv 5) (pa_cons (pe_op op_add (pv 6) pe_int) pa_nil))))
    (pss_cons (ps_set (i := 8) sc_law.nd rfl (Or.inl rfl) (pe_lst pa_nil))
    (pss_cons (ps_set (i := 9) sc_law.nd rfl (Or.inl rfl) (pe_lst pa_nil))
    (C8.pss_cut (ps_for PassesOwn.never rfl (pi_list (pe_lst (pa_cons pe_int (pa_cons (pe_op op_fdivW (pv 7) pe_int) (pa_cons (pv 7) (pa_cons (pv 6) pa_nil)))))) (pg_name (i := 10) sc_law.nd rfl (Or.inl rfl))
      (C8.pss_cut (ps_set (i := 11) sc_law.nd rfl (Or.inl rfl) (pe_slice sl_tupA (pe_ix ix_tup (pv 3) pe_int (fun _ _ => rfl)) po_none (po_some (pv 10))))
    (C8.pss_cut (ps_set (i := 12) sc_law.nd rfl (Or.inl rfl) (C8.pe_mt (ok_System_started_at T) hr (by decide) (pv 2) (pa_cons (pe_ix ix_list (pe_ix ix_tup (pv 3) pe_int (fun _ _ => rfl)) (pv 10) (fun _ _ => rfl)) pa_nil)))
    (C8.pss_cut (ps_set (i := 13) sc_law.nd rfl (Or.inr rfl) (pe_callB (cr_sortS rfl) (by rfl) T.f_sorted b_sorted (pa_cons (pe_callTy (cr_setOf rfl emb_str) (by rfl) T.f_set b_set (pa_cons (pe_op op_cat (pe_lc (own := [("_law_move", 18)]) (g := gName 18) (tt := tYes) (by rfl) sc_law.nd (pi_tup (pv 11)) (blkOk_by (own := [("_law_move", 18)]) (N := n_law) (sc := defScope s_law) (by decide +kernel)) (fun _ _ _ _ _ => pg_name (i := 18) sc_law.nd rfl (Or.inl rfl)) (fun _ _ _ _ _ => pts_nil) (fun _ _ _ _ _ => (pe_ix (ix_tupB (K := K) rfl) (pv 18) pe_int (fun _ _ => rfl)))) (C8.pe_c (ok_always T B) hr (by decide) (by rfl) (pa_cons (pv 12) pa_nil))) pa_nil)) pa_nil)))
    (C8.pss_cut (ps_set (i := 14) sc_law.nd rfl (Or.inr rfl) (C8.pe_c (ok_possible T B) hr (by decide) (by rfl) (pa_cons (pv 12) pa_nil)))
    (C8.pss_cut (ps_setLc (i := 15) (own := [("_law_word", 19)]) (g := gName 19) (by rfl) sc_law.nd rfl rfl (sw_true rfl rfl rfl (by decide +kernel)) (pi_list (pv 14)) (blkOk_by (own := [("_law_word", 19)]) (N := n_law) (sc := defScope s_law) (by decide +kernel)) (fun _ _ _ _ _ => pg_name (i := 19) sc_law.nd rfl (Or.inl rfl)) (fun _ _ _ _ _ => pts_one (pt_cmpR (op_notIn_seqB (K := K) rfl) (pv 19) (pv 13) (by rfl))) (fun _ _ _ _ _ => (pv 19)))
    (C8.pss_cut (ps_setLc (i := 16) (own := [("_law_word", 19)]) (g := gName 19) (by rfl) sc_law.nd rfl rfl (sw_true rfl rfl rfl (by decide +kernel)) (pi_list (pv 4)) (blkOk_by (own := [("_law_word", 19)]) (N := n_law) (sc := defScope s_law) (by decide +kernel)) (fun _ _ _ _ _ => pg_name (i := 19) sc_law.nd rfl (Or.inl rfl)) (fun _ _ _ _ _ => pts_one (PW.pt (pw_and (pt_cmpR (op_notIn_seqB (K := K) rfl) (pv 19) (pv 13) (by rfl)) (pw_and1 (pt_cmpR (op_notIn_seqB (K := K) rfl) (pv 19) (pv 14) (by rfl)))))) (fun _ _ _ _ _ => (pv 19)))
    (C8.pss_cut (ps_set (i := 17) sc_law.nd rfl (Or.inl rfl) (C8.pe_c (ok_future T) hr (by decide) (by rfl) (pa_cons (pv 2) (pa_cons (pv 11) pa_nil))))
    (pss_cons (ps_if (pt_not (pt_val (C8.pe_c (ok_same2 T) hr (by decide) (by rfl) (pa_cons (pv 17) (pa_cons (pe_tup (pa_cons (pv 13) (pa_cons (pv 15) (pa_cons (pv 16) pa_nil)))) pa_nil))))) (pss_one (ps_ret pe_bl)) pss_nil)
    (pss_cons (ps_if (PW.pt (pw_or (pt_not (pt_val (C8.pe_c (ok__law_within T) hr (by decide) (by rfl) (pa_cons (pv 8) (pa_cons (pe_ix ix_tup (pv 17) pe_int (fun _ _ => rfl)) pa_nil))))) (pw_or1 (pt_not (pt_val (C8.pe_c (ok__law_within T) hr (by decide) (by rfl) (pa_cons (pv 9) (pa_cons (pe_ix ix_tup (pv 17) pe_int (fun _ _ => rfl)) pa_nil)))))))) (pss_one (ps_ret pe_bl)) pss_nil)
    (pss_cons (ps_set (i := 8) sc_law.nd rfl (Or.inl rfl) (pe_callTy call_list_of (by rfl) T.f_list b_list (pa_cons (pe_ix ix_tup (pv 17) pe_int (fun _ _ => rfl)) pa_nil)))
    (pss_cons (ps_set (i := 9) sc_law.nd rfl (Or.inl rfl) (pe_callTy call_list_of (by rfl) T.f_list b_list (pa_cons (pe_ix ix_tup (pv 17) pe_int (fun _ _ => rfl)) pa_nil)))
    (pss_cons (ps_expr (pe_bm PySem.F.plainAttrs_list PySem.F.slot_list_append PySem.F.type_list_append mt_append (pe_ix ix_tup (pv 17) pe_int (fun _ _ => rfl)) (pa_cons pe_str pa_nil)))
    (pss_cons (ps_expr (pe_bm0 PySem.F.plainAttrs_list PySem.F.slot_list_clear PySem.F.type_list_clear mt_clear (pe_ix ix_tup (pv 17) pe_int (fun _ _ => rfl))))
    (pss_one (ps_if (pt_not (pt_val (C8.pe_c (ok_same2 T) hr (by decide) (by rfl) (pa_cons (C8.pe_c (ok_future T) hr (by decide) (by rfl) (pa_cons (pv 2) (pa_cons (pv 11) pa_nil))) (pa_cons (pe_tup (pa_cons (pv 13) (pa_cons (pv 15) (pa_cons (pv 16) pa_nil)))) pa_nil))))) (pss_one (ps_ret pe_bl)) pss_nil))))))))))))))))
    (pss_one (ps_ret pe_bl)))))))))))), ?_⟩
  obtain ⟨a, ns, rfl, ha, tab, q⟩ := h
  nested_keys
  refine ⟨a, ns, rfl, ha, fun t ra ca names rs ds H1 s1 ht hrows hca rok => ?_⟩
  nested_keys
  refine ⟨t, _, _, _, rfl, rfl, SqT.of ht, rfl, ?_⟩
  nested_keys
  refine ⟨t, _, _, _, rfl, rfl, SqT.of ht, rfl, ?_⟩
  refine ⟨ra, ca, names, rs, ds, rfl, hrows, hca, rok, fun p S H2 s2 hS hG hR => ?_⟩
  nested_keys
  refine ⟨t, _, _, _, rfl, rfl, SqT.of (s2 _ _ ht), rfl, ?_⟩
  have sH2 := Same.trans' s1 s2
  nested_keys
  refine ⟨a, _, rfl, Same.sqL sH2 ha, fun c hc => ?_⟩
  have s3 : Same H2 (upd H2 c (.lst (cutV (ns.map V.int) (some 5) (some 45)))) := Same.new hc
  have sH3 := Same.trans' sH2 s3
  obtain ⟨cells, ec, lc⟩ : ∃ cells : List Int, cutV (ns.map V.int) (some 5) (some 45) = cells.map V.int ∧ cells.length ≤ 40 := by
    refine ⟨(ns.drop (HT.sIx (ns.map V.int).length 0 (some 5))).take (HT.sIx (ns.map V.int).length (ns.map V.int).length (some 45) - HT.sIx (ns.map V.int).length 0 (some 5)), ?_, ?_⟩
    · unfold cutV
      rw [List.map_take, List.map_drop]
    · have e1 := HT.sIx_nat (ns.map V.int).length 0 5
      have e2 := HT.sIx_nat (ns.map V.int).length (ns.map V.int).length 45
      rw [List.length_take]
      have e1' : HT.sIx (ns.map V.int).length 0 (some 5) = min 5 (ns.map V.int).length := e1
      have e2' : HT.sIx (ns.map V.int).length (ns.map V.int).length (some 45) = min 45 (ns.map V.int).length := e2
      rw [e1', e2', List.length_drop]
      omega
  refine ⟨ra, c, rs, cells, S, rfl, (hrows.at s2.seqs).at s3.seqs, (show upd H2 c _ c = _ by rw [upd_same]; exact congrArg (fun z => some (HO.lst z)) ec), lc, hG, hR, fun wt rb pl ms H4 s4 hwt hrun hpls rok2 l120 => ?_⟩
  have sH4 := Same.trans' sH3 s4
  have s24 := Same.trans' s3 s4
  nested_keys
  refine ⟨t, _, _, _, rfl, rfl, SqT.of (s24 _ _ (s2 _ _ ht)), rfl, ?_⟩
  refine ⟨ra, rs, S, rfl, (hrows.at s2.seqs).at s24.seqs, hG, hR, fun wl H5 nwl s5 hwl => ?_⟩
  have sH5 := Same.trans' sH4 s5
  nested_keys
  refine ⟨a, ns, 4, rfl, Same.sqL sH5 ha, by decide, fun i4 => ?_⟩
  nested_keys
  refine fun pa H6 npa s6 hp6 => ?_
  nested_keys
  have hwt6 := s6 _ _ (s5 _ _ hwt)
  refine ⟨wt, _, _, _, rfl, rfl, SqT.of hwt6, rfl, ?_⟩
  obtain ⟨rb', us, erb, hrb, rus⟩ := hrun.tup_eq
  obtain rfl : rb = rb' := by injection erb
  have lus : us.length = ms.length := rus.len
  have hrb6 := s6 _ _ (s5 _ _ hrb)
  refine ⟨rb, _, rfl, .inr (SqT.of hrb6), ?_⟩
  nested_keys
  have sH6 := Same.trans' sH5 s6
  refine ⟨pa, ((us.length : Nat) : Int) + 1, rfl, hp6, by omega, by have : (26 : Int) ^ 12 = 95428956661682176 := by decide
                                                                    omega, fun md H7 md0 md1 t7 hp7 => ?_⟩
  have npa0 : H pa = none := sH5.none npa
  have sH7 : Same H H7 := Same1.back sH6 npa0 t7
  have s57 : Same H5 H7 := Same1.back s6 npa t7
  obtain ⟨mid, emid⟩ : ∃ mid : Nat, md = ((mid : Nat) : Int) := ⟨md.toNat, by omega⟩
  subst emid
  have lmid : mid ≤ ms.length := by omega
  have b7 : Base K H7 S ms p wt rb pl wl := by
    obtain ⟨pvs, hpl1, hpl2⟩ := hpls
    exact ⟨((hS.same s24).same s5).same s57, s57 _ _ (s5 _ _ hwt), ⟨us, s57 _ _ (s5 _ _ hrb), s57.rks (s5.rks rus)⟩, ⟨pvs, s57 _ _ (s5 _ _ hpl1), s57.rks (s5.rks hpl2)⟩, s57 _ _ hwl⟩
  have tab7 : TabI K H7 := TabI.same tab sH7
  nested_keys
  refine ⟨Nat.zero_le _, fun sb0 hsb0 => ?_⟩
  have s8 : Same H7 (upd H7 sb0 (.lst [])) := Same.new hsb0
  nested_keys
  refine ⟨Nat.zero_le _, fun ob0 hob0 => ?_⟩
  have s9 : Same (upd H7 sb0 (.lst [])) (upd (upd H7 sb0 (.lst [])) ob0 (.lst [])) := Same.new hob0
  have hsb9 : upd (upd H7 sb0 (.lst [])) ob0 (.lst []) sb0 = some (.lst []) := s9 _ _ upd_same
  have hob9 : upd (upd H7 sb0 (.lst [])) ob0 (.lst []) ob0 = some (.lst []) := upd_same
  have s79 := Same.trans' s8 s9
  generalize upd (upd H7 sb0 (.lst [])) ob0 (.lst []) = H9 at s79 hsb9 hob9 |-
  have b9 := b7.ext s79.extN
  have tab9 := TabI.same tab7 s79
  refine ⟨fun σ' H' => True ∧ ∃ u0 u1 u2 u3 u4 u5 u6 u7 u8 u9 u10 u11 u12 u13 u14 u15 u16 u17 u18 u19, σ' = [u0, u1, u2, u3, u4, u5, u6, u7, u8, u9, u10, u11, u12, u13, u14, u15, u16, u17, u18, u19], ?_, ?_⟩
  · nested_keys
    refine ⟨wide_div (b := 64) (by decide) (by decide) (by decide) (by decide), ?_⟩
    nested_keys
    refine ⟨by show 4 ≤ sizeLine; decide, fun ls hls => ?_⟩
    have sA : Same H9 (upd H9 ls (.lst [.int 0, .int ((mid : Nat) / 2), .int (mid : Nat), .int (us.length : Nat)])) := Same.new hls
    have hlsA : upd H9 ls (.lst [.int 0, .int ((mid : Nat) / 2), .int (mid : Nat), .int (us.length : Nat)]) ls = some (.lst ([0, mid / 2, mid, ms.length].map fun n : Nat => V.int (n : Nat))) := by
      rw [upd_same, lus]
      show _ = some (HO.lst [V.int ((0 : Nat) : Int), V.int ((mid / 2 : Nat) : Int), V.int (mid : Nat), V.int (ms.length : Nat)])
      rw [show ((mid / 2 : Nat) : Int) = (mid : Int) / 2 by omega]
      rfl
    have hsbA := sA _ _ hsb9
    have hobA := sA _ _ hob9
    have bA := b9.ext sA.extN
    have tabA := TabI.same tab9 sA
    have asc : [0, mid / 2, mid, ms.length].Pairwise (· ≤ ·) := by
      simp
      omega
    have lszs : ∀ z ∈ [0, mid / 2, mid, ms.length], z ≤ ms.length := fun z hz => by
      simp at hz
      omega
    nested_keys
    generalize hszs : [0, mid / 2, mid, ms.length] = szs at hlsA asc lszs |-
    generalize hHA : upd H9 ls (.lst [.int 0, .int ((mid : Nat) / 2), .int (mid : Nat), .int (us.length : Nat)]) = HA at hsbA hobA bA tabA hlsA |-
    refine ⟨⟨_, SqL.of hlsA⟩, for_it (walk_li (szs.map fun n : Nat => V.int (n : Nat))) (fun k σ' H' => LamX.ExtN HA H' ∧ TabI K H' ∧ (∃ (sb ob : Addr) (A B : List Str), H' sb = some (.lst (A.map .str)) ∧ H' ob = some (.lst (B.map .str)) ∧ Grown S ms szs k A B ∧ ∃ u10 u11 u12 u13 u14 u15 u16 u17 u18 u19, σ' = [some (V.ref a), some (.ref t), some (.ref p), some (.ref wt), some (.ref wl), some (.ref pa), some (.int (us.length : Nat)), some (.int (mid : Nat)), some (.ref sb), some (.ref ob), u10, u11, u12, u13, u14, u15, u16, u17, u18, u19])) ?_ (fun _ _ _ _ k => SqL.of (k.1 _ _ hlsA (fun ps z => by cases z))) ?_ ?_⟩
    · exact ⟨LamX.ExtN.refl _, tabA, sb0, ob0, [], [], hsbA, hobA, fun n _ => ⟨by simp, by simp⟩, _, _, _, _, _, _, _, _, _, _, rfl⟩
    · rintro k y σB HB' HB hk ⟨eB, tabB, sb, ob, A, O, hsb, hob, G, u10, u11, u12, u13, u14, u15, u16, u17, u18, u19, rfl⟩ ⟨rfl, hy⟩
      rw [List.getElem?_map] at hy
      obtain ⟨n, hn, rfl⟩ := Option.map_eq_some_iff.mp hy
      have ln : n ≤ ms.length := lszs n (List.mem_of_getElem? hn)
      have bB := bA.ext eB
      refine ⟨fun σ' H' => Same HB H' ∧ ∃ r, Rk H' (.tup ((ms.take n).map dMove)) (.ref r) ∧ ∃ u12 u13 u14 u15 u16 u17 u18 u19, σ' = [some (V.ref a), some (.ref t), some (.ref p), some (.ref wt), some (.ref wl), some (.ref pa), some (.int (us.length : Nat)), some (.int (mid : Nat)), some (.ref sb), some (.ref ob), some (.int (n : Nat)), some (.ref r), u12, u13, u14, u15, u16, u17, u18, u19], ?_, ?_⟩
      · obtain ⟨us2, hrb2, rus2⟩ := bB.run
        have l2 := rus2.len
        nested_keys
        refine ⟨wt, _, _, _, rfl, rfl, SqT.of bB.pair, rfl, ?_⟩
        nested_keys
        have e0 : HT.sIx us2.length us2.length (some ((n : Nat) : Int)) = n := by
          rw [HT.sIx_nat]
          omega
        refine ⟨rb, us2, rfl, SqT.of hrb2, fun w1 => ?_, fun _ r hr' => ?_⟩
        · rw [e0] at w1
          refine ⟨fun _ _ e => e, rb, ?_, _, _, _, _, _, _, _, _, rfl⟩
          rw [List.take_of_length_le (by omega)]
          exact .tup hrb2 rus2
        · have ec : cutV us2 none (some ((n : Nat) : Int)) = us2.take n := by
            unfold cutV
            rw [e0]
            rfl
          rw [ec]
          have sr : Same HB (upd HB r (.tup (us2.take n))) := Same.new hr'
          refine ⟨sr, r, .tup upd_same ?_, _, _, _, _, _, _, _, _, rfl⟩
          rw [List.map_take]
          exact (sr.rks rus2).take n
      · rintro σC HC ⟨sC, r, hrk, u12, u13, u14, u15, u16, u17, u18, u19, rfl⟩
        have bC := bB.ext sC.extN
        have tabC := TabI.same tabB sC
        have hsbC := sC _ _ hsb
        have hobC := sC _ _ hob
        obtain ⟨sdx, a1, a2, a3, a4, ps, i1, i2, i3, i4', i5, i6⟩ := id bC.sys
        obtain ⟨pvs, hplC, rplC⟩ := bC.pls
        obtain ⟨pv1, hpv1, rpv1⟩ := rplC.get_map (places_at (S := S) (st := S.start) ln)
        obtain ⟨bst, rfl, hbst⟩ := rpv1.ints
        have rk3 := rok2.takeN n
        have nok := node_ok hG rok2 n
        -- later
        refine ⟨fun σ' H' => Same HC H' ∧ ∃ lt S', SysAt K H' lt S' ∧ SysG S' ∧ Later S S' ∧ S'.start = (nodeAt S ms n).1 ∧ ∃ u13 u14 u15 u16 u17 u18 u19, σ' = [some (V.ref a), some (.ref t), some (.ref p), some (.ref wt), some (.ref wl), some (.ref pa), some (.int (us.length : Nat)), some (.int (mid : Nat)), some (.ref sb), some (.ref ob), some (.int (n : Nat)), some (.ref r), some (.ref lt), u13, u14, u15, u16, u17, u18, u19], ?_, ?_⟩
        · nested_keys
          refine ⟨p, sdx, _, rfl, i1, fSys_no (by decide +kernel) (by decide +kernel) (by decide +kernel) (by decide +kernel), ?_⟩
          nested_keys
          refine ⟨wt, _, _, _, rfl, rfl, SqT.of bC.pair, rfl, ?_⟩
          nested_keys
          refine ⟨pl, _, _, _, rfl, rfl, SqL.of hplC, atI_nat hpv1, ?_⟩
          refine ⟨p, bst, S, _, rfl, bC.sys, hG, hbst, nok.st, fun lt S' HD sD hS' hG' later est => ?_⟩
          exact ⟨sD, lt, S', hS', hG', later, est, _, _, _, _, _, _, _, rfl⟩
        rintro σD HD ⟨sD, lt, S', hS', hG', later, est, u13, u14, u15, u16, u17, u18, u19, rfl⟩
        have bD := bC.ext sD.extN
        have tabD := TabI.same tabC sD
        have hrkD := sD.rk hrk
        have hsbD := sD _ _ hsbC
        have hobD := sD _ _ hobC
        obtain ⟨r', rvs, er, hrD, rrD⟩ := hrkD.tup_eq
        obtain rfl : r = r' := by injection er
        have ltk : (ms.take n).length = n := by rw [List.length_take]; omega
        have k' : StOk S' (nodeAt S ms n).1 := est ▸ hG'.ok.startOk
        have ed : nodeAt S ms n = ((nodeAt S ms n).1, doneL S (ms.take n)) := rfl
        -- sure
        refine ⟨fun σ' H' => LamX.ExtN HD H' ∧ TabI K H' ∧ ∃ su, NoneN HD su ∧ H' su = some (.lst ((sureL S (nodeAt S ms n)).map .str)) ∧ ∃ u14 u15 u16 u17 u18 u19, σ' = [some (V.ref a), some (.ref t), some (.ref p), some (.ref wt), some (.ref wl), some (.ref pa), some (.int (us.length : Nat)), some (.int (mid : Nat)), some (.ref sb), some (.ref ob), some (.int (n : Nat)), some (.ref r), some (.ref lt), some (.ref su), u14, u15, u16, u17, u18, u19], ?_, ?_⟩
        · nested_keys
          refine ⟨⟨_, SqT.of hrD⟩, fun D hD => ?_⟩
          refine lc_it (walk_tu rvs) (fun i H' => Same HD H' ∧ H' D = some (.lst ((((ms.take n).take i).map (·.1)).map .str))) ⟨Same.new hD, upd_same⟩ (fun _ _ _ k => SqT.of (k.1 _ _ hrD)) ?_ ?_
          · rintro i z HX' HX hi ⟨smX, hkX⟩ ⟨rfl, hz⟩
            obtain ⟨m, hm1, hm2⟩ := rrD.mapV hz
            obtain ⟨mb, mc, rfl, hmb, hmc⟩ := (smX.rk hm2).move
            nested_keys
            refine ⟨mb, _, _, _, rfl, rfl, SqT.of hmb, rfl, ?_⟩
            refine ⟨_, hkX, ?_, smX.put hD, ?_⟩
            · rw [List.length_map, List.length_map]
              exact line24 (m := 120) (Nat.le_trans (List.length_take_le' _ _) (by omega))
            · rw [upd_same, take_snoc hm1, List.map_append, List.map_append]
              rfl
          · rintro HE ⟨sE, hDE⟩
            rw [rrD.len, List.take_length] at hDE
            have tabE := TabI.same tabD sE
            nested_keys
            refine ⟨lt, S', rfl, hS'.same sE, hG', tabE, fun bl HF nbl eF tabF hbl => ?_⟩
            have hDF := eF _ _ hDE (fun ps z => by cases z)
            rw [est] at hbl
            have eDF : LamX.ExtN HD HF := sE.extN.trans eF
            have l4 : (sureL S' ((nodeAt S ms n).1, [])).length ≤ 4 := Nat.le_trans filt_len hG'.ok.few2
            have lmm : ((ms.take n).map (·.1)).length ≤ 120 := by rw [List.length_map, ltk]; omega
            refine ⟨D, bl, _, _, rfl, rfl, hDF, hbl, ?_, fun cl hcl => ?_⟩
            · rw [List.length_map, List.length_map (as := sureL S' ((nodeAt S ms n).1, []))]
              exact Nat.le_of_lt (line24 (m := 200) (Nat.le_trans (Nat.add_le_add lmm l4) (by decide)))
            have mm : ∀ x, x ∈ (ms.take n).map (·.1) ++ sureL S' ((nodeAt S ms n).1, []) ↔ x ∈ doneL S (ms.take n) ∨ x ∈ sureL S' ((nodeAt S ms n).1, []) := fun x => by
              rw [List.mem_append, mem_doneL rk3, List.mem_map]
            have inS : ∀ x, x ∈ (ms.take n).map (·.1) ++ sureL S' ((nodeAt S ms n).1, []) → x ∈ S.words := fun x hx => by
              rcases (mm x).mp hx with h | h
              · exact (List.mem_filter.mp h).1
              · rw [← later.words]
                exact (mem_filt.mp h).1
            refine ⟨cl, (ms.take n).map (·.1) ++ sureL S' ((nodeAt S ms n).1, []), rfl, .inl (SqL.of (by rw [upd_same, List.map_append])), Nat.lt_of_le_of_lt (show _ ≤ 200 by rw [List.length_append]; omega) (by decide), fun g hg => ?_⟩
            refine ⟨g, _, S.words.filter fun x => decide (x ∈ (ms.take n).map (·.1) ++ sureL S' ((nodeAt S ms n).1, [])), rfl, upd_same, fun x => ?_, Nat.lt_of_le_of_lt (Nat.le_trans (List.length_filter_le _ _) hG.ok.few2) (by decide), fun ys su so nd mem2 hsu => ?_⟩
            · rw [List.mem_filter, decide_eq_true_iff]
              exact ⟨fun h => ⟨inS x h, h⟩, fun h => h.2⟩
            have ey : ys = sureL S (nodeAt S ms n) := by
              rw [ed]
              refine law_sure hG.ok hG'.ok later nok k' (sorted_pw so nd) fun x => ?_
              rw [mem2, List.mem_filter, decide_eq_true_iff, mm]
              exact ⟨fun h => h.2, fun h => ⟨inS x ((mm x).mpr h), h⟩⟩
            have e2 : LamX.ExtN HD (upd HF cl (.lst (((ms.take n).map (·.1)).map V.str ++ (sureL S' ((nodeAt S ms n).1, [])).map V.str))) := ExtN.put eDF hcl
            have t2 : TabI K (upd HF cl (.lst (((ms.take n).map (·.1)).map V.str ++ (sureL S' ((nodeAt S ms n).1, [])).map V.str))) := TabI.same tabF (Same.new hcl)
            refine ⟨ExtN.put (ExtN.put e2 hg) hsu, TabI.same (TabI.same t2 (Same.new hg)) (Same.new hsu), su, NoneN.of (ExtN.put e2 hg) hsu, by rw [upd_same, ey], _, _, _, _, _, _, rfl⟩
        rintro σE HE ⟨eE, tabE, su, nsu, hsuE, u14, u15, u16, u17, u18, u19, rfl⟩
        have eAE : LamX.ExtN HA HE := ((eB.trans sC.extN).trans sD.extN).trans eE
        have bE := bD.ext eE
        have hS'E := SysAt.extN eE hS'
        have hrkE := hrkD.at (ExtN.tups eE)
        have hsbE := eE _ _ hsbD (fun ps z => by cases z)
        have hobE := eE _ _ hobD (fun ps z => by cases z)
        clear hsbD hobD hrD rrD hS' tabD sD bD hsbC hobC tabC bC sC i1 i2 i3 i4' i5 i6 hplC rplC hpv1 rpv1 hbst hrk eB tabB hsb hob bB
        have l4 : ∀ {q : Str → Prop}, (filt q S.words).length ≤ 4 := Nat.le_trans filt_len hG.ok.few2
        -- some
        refine ⟨fun σ' H' => LamX.ExtN HE H' ∧ TabI K H' ∧ ∃ so, H' so = some (.lst ((someL S' ((nodeAt S ms n).1, [])).map .str)) ∧ ∃ u15 u16 u17 u18 u19, σ' = [some (V.ref a), some (.ref t), some (.ref p), some (.ref wt), some (.ref wl), some (.ref pa), some (.int (us.length : Nat)), some (.int (mid : Nat)), some (.ref sb), some (.ref ob), some (.int (n : Nat)), some (.ref r), some (.ref lt), some (.ref su), some (.ref so), u15, u16, u17, u18, u19], ?_, ?_⟩
        · nested_keys
          refine ⟨lt, S', rfl, hS'E, hG', tabE, fun so HF nso eF tabF hso => ?_⟩
          rw [est] at hso
          exact ⟨eF, tabF, so, hso, _, _, _, _, _, rfl⟩
        rintro σF HF ⟨eF, tabF, so, hso, u15, u16, u17, u18, u19, rfl⟩
        have eAF := eAE.trans eF
        have hsuF := eF _ _ hsuE (fun ps z => by cases z)
        have bF := bE.ext eF
        have lso : (someL S' ((nodeAt S ms n).1, [])).length ≤ 4 := Nat.le_trans filt_len hG'.ok.few2
        -- free
        refine ⟨fun σ' H' => Same HF H' ∧ ∃ fe, H' fe = some (.lst ((freeL S (nodeAt S ms n)).map .str)) ∧ ∃ u16 u17 u18 u19, σ' = [some (V.ref a), some (.ref t), some (.ref p), some (.ref wt), some (.ref wl), some (.ref pa), some (.int (us.length : Nat)), some (.int (mid : Nat)), some (.ref sb), some (.ref ob), some (.int (n : Nat)), some (.ref r), some (.ref lt), some (.ref su), some (.ref so), some (.ref fe), u16, u17, u18, u19], ?_, ?_⟩
        · nested_keys
          refine ⟨⟨_, SqL.of hso⟩, fun fe hfe => ?_⟩
          refine lc_it (walk_li ((someL S' ((nodeAt S ms n).1, [])).map V.str)) (fun i H' => Same HF H' ∧ H' fe = some (.lst ((filt (fun w => w ∉ sureL S (nodeAt S ms n)) ((someL S' ((nodeAt S ms n).1, [])).take i)).map .str))) ⟨Same.new hfe, upd_same⟩ (fun _ _ _ k => SqL.of (k.1 _ _ hso)) ?_ ?_
          · rintro i x HX' HX hi ⟨smX, hkX⟩ ⟨rfl, hx⟩
            rw [List.getElem?_map] at hx
            obtain ⟨z, hz, rfl⟩ := Option.map_eq_some_iff.mp hx
            nested_keys
            refine ⟨su, _, rfl, .inl (SqL.of (smX _ _ hsuF)), rfl, flat_strs _, ?_⟩
            rw [inV_text]
            by_cases m : z ∈ sureL S (nodeAt S ms n)
            · rw [decide_eq_true m]
              nested_keys
              refine ⟨smX, ?_⟩
              rw [hkX, take_snoc hz, filt_snoc' (p := fun w => w ∉ sureL S (nodeAt S ms n)) (fun h => h m)]
            · rw [decide_eq_false m]
              nested_keys
              refine ⟨_, hkX, by rw [List.length_map]; exact line24 (m := 4) (Nat.le_trans filt_len (Nat.le_trans (List.length_take_le' _ _) lso)), smX.put hfe, ?_⟩
              rw [upd_same, take_snoc hz, filt_snoc (p := fun w => w ∉ sureL S (nodeAt S ms n)) m, List.map_append]
              rfl
          · rintro HX ⟨smX, hkX⟩
            rw [List.length_map, List.take_length] at hkX
            refine ⟨smX, fe, ?_, _, _, _, _, rfl⟩
            rw [hkX, ed]
            exact congrArg (fun z : List Str => some (HO.lst (z.map V.str))) (law_free hG.ok hG'.ok later nok k')
        rintro σG HG ⟨sG, fe, hfe, u16, u17, u18, u19, rfl⟩
        have eAG := eAF.trans sG.extN
        have tabG := TabI.same tabF sG
        have hsuG := sG _ _ hsuF
        have hsoG := sG _ _ hso
        have bG := bF.ext sG.extN
        -- out
        refine ⟨fun σ' H' => Same HG H' ∧ ∃ oe, H' oe = some (.lst ((outL S (nodeAt S ms n)).map .str)) ∧ ∃ u17 u18 u19, σ' = [some (V.ref a), some (.ref t), some (.ref p), some (.ref wt), some (.ref wl), some (.ref pa), some (.int (us.length : Nat)), some (.int (mid : Nat)), some (.ref sb), some (.ref ob), some (.int (n : Nat)), some (.ref r), some (.ref lt), some (.ref su), some (.ref so), some (.ref fe), some (.ref oe), u17, u18, u19], ?_, ?_⟩
        · nested_keys
          refine ⟨⟨_, SqL.of bG.wds⟩, fun oe hoe => ?_⟩
          refine lc_it (walk_li (S.words.map V.str)) (fun i H' => Same HG H' ∧ H' oe = some (.lst ((filt (fun w => w ∉ sureL S (nodeAt S ms n) ∧ w ∉ someL S' ((nodeAt S ms n).1, [])) (S.words.take i)).map .str))) ⟨Same.new hoe, upd_same⟩ (fun _ _ _ k => SqL.of (k.1 _ _ bG.wds)) ?_ ?_
          · rintro i x HX' HX hi ⟨smX, hkX⟩ ⟨rfl, hx⟩
            rw [List.getElem?_map] at hx
            obtain ⟨z, hz, rfl⟩ := Option.map_eq_some_iff.mp hx
            nested_keys
            refine ⟨su, _, rfl, .inl (SqL.of (smX _ _ hsuG)), rfl, flat_strs _, ?_⟩
            rw [inV_text]
            by_cases m : z ∈ sureL S (nodeAt S ms n)
            · rw [decide_eq_true m]
              nested_keys
              refine ⟨smX, ?_⟩
              rw [hkX, take_snoc hz, filt_snoc' (p := fun w => w ∉ sureL S (nodeAt S ms n) ∧ w ∉ someL S' ((nodeAt S ms n).1, [])) (fun h => h.1 m)]
            · rw [decide_eq_false m]
              nested_keys
              refine ⟨so, _, rfl, .inl (SqL.of (smX _ _ hsoG)), rfl, flat_strs _, ?_⟩
              rw [inV_text]
              by_cases m2 : z ∈ someL S' ((nodeAt S ms n).1, [])
              · rw [decide_eq_true m2]
                nested_keys
                refine ⟨smX, ?_⟩
                rw [hkX, take_snoc hz, filt_snoc' (p := fun w => w ∉ sureL S (nodeAt S ms n) ∧ w ∉ someL S' ((nodeAt S ms n).1, [])) (fun h => h.2 m2)]
              · rw [decide_eq_false m2]
                nested_keys
                refine ⟨_, hkX, by rw [List.length_map]; exact line24 (m := 4) (Nat.le_trans filt_len (Nat.le_trans (List.length_take_le' _ _) hG.ok.few2)), smX.put hoe, ?_⟩
                rw [upd_same, take_snoc hz, filt_snoc (p := fun w => w ∉ sureL S (nodeAt S ms n) ∧ w ∉ someL S' ((nodeAt S ms n).1, [])) ⟨m, m2⟩, List.map_append]
                rfl
          · rintro HX ⟨smX, hkX⟩
            rw [List.length_map, List.take_length] at hkX
            refine ⟨smX, oe, ?_, _, _, _, rfl⟩
            rw [hkX, ed]
            exact congrArg (fun z : List Str => some (HO.lst (z.map V.str))) (law_out hG.ok hG'.ok later nok k')
        rintro σI HI ⟨sI, oe, hoe, u17, u18, u19, rfl⟩
        have eAI := eAG.trans sI.extN
        have tabI := TabI.same tabG sI
        have hsuI := sI _ _ hsuG
        have hfeI := sI _ _ hfe
        have bI := bG.ext sI.extN
        have hrkI := ((hrkE.at (ExtN.tups eF)).at sG.tups).at sI.tups
        have hsbI := sI _ _ (sG _ _ (eF _ _ hsbE (fun ps z => by cases z)))
        have hobI := sI _ _ (sG _ _ (eF _ _ hobE (fun ps z => by cases z)))
        clear hsbE hobE hrkE hsuE hsuF hsuG hsoG hso hfe bE bF bG tabE tabF tabG hS'E
        -- told
        have eyL : ∀ {ys : List Str}, ys.Pairwise SLt → (∀ x, x ∈ ys ↔ ∃ m ∈ ms.take n, m.1 = x) → ys = doneL S (ms.take n) := fun pw mem => pw_unique pw (doneL_pw hG _) fun w => by rw [mem, mem_doneL rk3]
        have lr : (ms.take n).length ≤ 1000 := by rw [ltk]; omega
        refine ⟨fun σ' H' => Same HI H' ∧ ∃ t3 x y z, H' t3 = some (.tup [.ref x, .ref y, .ref z]) ∧ HI x = none ∧ HI z = none ∧ x ≠ y ∧ y ≠ z ∧ x ≠ z ∧ H' x = some (.lst ((sureL S (nodeAt S ms n)).map .str)) ∧ H' y = some (.lst ((freeL S (nodeAt S ms n)).map .str)) ∧ H' z = some (.lst ((outL S (nodeAt S ms n)).map .str)) ∧ ∃ u18 u19, σ' = [some (V.ref a), some (.ref t), some (.ref p), some (.ref wt), some (.ref wl), some (.ref pa), some (.int (us.length : Nat)), some (.int (mid : Nat)), some (.ref sb), some (.ref ob), some (.int (n : Nat)), some (.ref r), some (.ref lt), some (.ref su), some (.ref so), some (.ref fe), some (.ref oe), some (.ref t3), u18, u19], ?_, ?_⟩
        · nested_keys
          refine ⟨p, .ref r, S, ms.take n, rfl, bI.sys, hG, hrkI, rk3, lr, fun t3 x y z ys HJ sJ pw mem ht3 nx nz nxy nyz nxz hx hy hz => ?_⟩
          obtain rfl := eyL pw mem
          exact ⟨sJ, t3, x, y, z, ht3, nx, nz, nxy, nyz, nxz, hx, hy, hz, _, _, rfl⟩
        rintro σJ HJ ⟨sJ, t3, x, y, z, ht3, nx, nz, nxy, nyz, nxz, hx, hy, hz, u18, u19, rfl⟩
        have eAJ := eAI.trans sJ.extN
        have tabJ := TabI.same tabI sJ
        have hsuJ := sJ _ _ hsuI
        have hfeJ := sJ _ _ hfeI
        have hoeJ := sJ _ _ hoe
        have bJ := bI.ext sJ.extN
        have hrkJ := sJ.rk hrkI
        have hsbJ := sJ _ _ hsbI
        have hobJ := sJ _ _ hobI
        have nAx : NoneN HA x := NoneN.of eAI nx
        have nAz : NoneN HA z := NoneN.of eAI nz
        have few1 : (sureL S (nodeAt S ms n)).length ≤ 1000 := Nat.le_trans l4 (by decide)
        have few2 : (freeL S (nodeAt S ms n)).length ≤ 1000 := Nat.le_trans filt_len (Nat.le_trans l4 (by decide))
        have few3 : (outL S (nodeAt S ms n)).length ≤ 1000 := Nat.le_trans l4 (by decide)
        obtain ⟨gr1, gr2⟩ := G.here asc hn
        nested_keys
        refine ⟨by show 3 ≤ sizeLine; decide, fun uu huu => ?_⟩
        have sK : Same HJ (upd HJ uu (.tup [.ref su, .ref fe, .ref oe])) := Same.new huu
        refine ⟨t3, uu, [x, y, z], [su, fe, oe], rfl, sK _ _ ht3, upd_same, rfl, Nat.le_refl _, each3 (R := fun p q => ∃ xs : List Str, upd HJ uu (.tup [.ref su, .ref fe, .ref oe]) p = some (.lst (xs.map .str)) ∧ upd HJ uu (.tup [.ref su, .ref fe, .ref oe]) q = some (.lst (xs.map .str)) ∧ xs.length ≤ 1000) ⟨_, sK _ _ hx, sK _ _ hsuJ, few1⟩ ⟨_, sK _ _ hy, sK _ _ hfeJ, few2⟩ ⟨_, sK _ _ hz, sK _ _ hoeJ, few3⟩, fun HL sL => ?_⟩
        have sJL := Same.trans' sK sL
        nested_keys
        refine ⟨t3, _, _, _, rfl, rfl, SqT.of (sJL _ _ ht3), rfl, ?_⟩
        refine ⟨sb, x, A, _, rfl, sJL _ _ hsbJ, sJL _ _ hx, gr1, fun HM sM => ?_⟩
        have sJM := Same.trans' sJL sM
        nested_keys
        refine ⟨t3, _, _, _, rfl, rfl, SqT.of (sJM _ _ ht3), rfl, ?_⟩
        refine ⟨ob, z, O, _, rfl, sJM _ _ hobJ, sJM _ _ hz, gr2, fun HN sN => ?_⟩
        have sJN := Same.trans' sJM sN
        clear sM sN sL sJM sJL sK
        nested_keys
        refine ⟨t3, _, _, _, rfl, rfl, SqT.of (sJN _ _ ht3), rfl, ?_⟩
        refine ⟨x, _, rfl, .inl (SqL.of (sJN _ _ hx)), fun sb' hsb' => ?_⟩
        have sO : Same HN (upd HN sb' (.lst ((sureL S (nodeAt S ms n)).map V.str))) := Same.new hsb'
        have hsbO : upd HN sb' (.lst ((sureL S (nodeAt S ms n)).map V.str)) sb' = some (.lst ((sureL S (nodeAt S ms n)).map V.str)) := upd_same
        have xsb : x ≠ sb' := fun z => by rw [← z, sJN _ _ hx] at hsb'; cases hsb'
        have zsb : z ≠ sb' := fun y => by rw [← y, sJN _ _ hz] at hsb'; cases hsb'
        generalize upd HN sb' (.lst ((sureL S (nodeAt S ms n)).map V.str)) = HO' at sO hsbO |-
        have sJO := Same.trans' sJN sO
        nested_keys
        refine ⟨t3, _, _, _, rfl, rfl, SqT.of (sJO _ _ ht3), rfl, ?_⟩
        refine ⟨z, _, rfl, .inl (SqL.of (sJO _ _ hz)), fun ob' hob' => ?_⟩
        have sP : Same HO' (upd HO' ob' (.lst ((outL S (nodeAt S ms n)).map V.str))) := Same.new hob'
        have hobP : upd HO' ob' (.lst ((outL S (nodeAt S ms n)).map V.str)) ob' = some (.lst ((outL S (nodeAt S ms n)).map V.str)) := upd_same
        have xob : x ≠ ob' := fun y => by rw [← y, sJO _ _ hx] at hob'; cases hob'
        have zob : z ≠ ob' := fun y => by rw [← y, sJO _ _ hz] at hob'; cases hob'
        generalize upd HO' ob' (.lst ((outL S (nodeAt S ms n)).map V.str)) = HP' at sP hobP |-
        have sJP := Same.trans' sJO sP
        have hsbP := sP _ _ hsbO
        nested_keys
        refine ⟨t3, _, _, _, rfl, rfl, SqT.of (sJP _ _ ht3), rfl, ?_⟩
        have hxP := sJP _ _ hx
        have hzP := sJP _ _ hz
        have eAP := eAJ.trans sJP.extN
        have tabP := TabI.same tabJ sJP
        refine ⟨.inl ⟨rfl, _, SqL.of hxP⟩, ?_⟩
        nested_keys
        refine ⟨x, _, _, rfl, rfl, hxP, by rw [List.length_map]; exact line24 (m := 1000) few1, ?_⟩
        have tabR := TabI.upd (ys := (sureL S (nodeAt S ms n)).map V.str ++ [.str "zz"]) tabP hxP
        have eAR : LamX.ExtN HA (upd HP' x (.lst ((sureL S (nodeAt S ms n)).map V.str ++ [.str "zz"]))) := ExtN.own eAP nAx
        have keepR : ∀ {q : Addr} {o : HO}, HP' q = some o → q ≠ x → upd HP' x (.lst ((sureL S (nodeAt S ms n)).map V.str ++ [.str "zz"])) q = some o := fun e ne => by rw [upd_ne ne]; exact e
        generalize upd HP' x (.lst ((sureL S (nodeAt S ms n)).map V.str ++ [.str "zz"])) = HR at tabR eAR keepR |-
        have t3x : t3 ≠ x := fun y => by rw [y, hx] at ht3; cases ht3
        have t3z : t3 ≠ z := fun y => by rw [y, hz] at ht3; cases ht3
        have ht3R := keepR (sJP _ _ ht3) t3x
        have hzR := keepR hzP nxz.symm
        nested_keys
        refine ⟨t3, _, _, _, rfl, rfl, SqT.of ht3R, rfl, ?_⟩
        refine ⟨.inl ⟨rfl, _, SqL.of hzR⟩, ?_⟩
        refine ⟨z, _, rfl, rfl, hzR, ?_⟩
        have tabS := TabI.upd (ys := []) tabR hzR
        have eAS : LamX.ExtN HA (upd HR z (.lst [])) := ExtN.own eAR nAz
        have keepS : ∀ {q : Addr} {o : HO}, HP' q = some o → q ≠ x → q ≠ z → upd HR z (.lst []) q = some o := fun e n1 n2 => by rw [upd_ne n2]; exact keepR e n1
        generalize upd HR z (.lst []) = HS at tabS eAS keepS |-
        have sux : su ≠ x := fun y => by rw [← y, hsuI] at nx; cases nx
        have suz : su ≠ z := fun y => by rw [← y, hsuI] at nz; cases nz
        have fex : fe ≠ x := fun y => by rw [← y, hfeI] at nx; cases nx
        have fez : fe ≠ z := fun y => by rw [← y, hfeI] at nz; cases nz
        have oex : oe ≠ x := fun y => by rw [← y, hoe] at nx; cases nx
        have oez : oe ≠ z := fun y => by rw [← y, hoe] at nz; cases nz
        have hsuS := keepS (sJP _ _ hsuJ) sux suz
        have hfeS := keepS (sJP _ _ hfeJ) fex fez
        have hoeS := keepS (sJP _ _ hoeJ) oex oez
        have hsbS := keepS hsbP xsb.symm zsb.symm
        have hobS := keepS hobP xob.symm zob.symm
        have bS := bA.ext eAS
        have ttS : Tups HJ HS := fun q xs e => keepS (sJP _ _ e) (fun y => by rw [y, hx] at e; cases e) (fun y => by rw [y, hz] at e; cases e)
        have hrkS := hrkJ.at ttS
        nested_keys
        refine ⟨p, .ref r, S, ms.take n, rfl, bS.sys, hG, hrkS, rk3, lr, fun t4 x2 y2 z2 ys HT sT pw mem ht4 nx2 nz2 nxy2 nyz2 nxz2 hx2 hy2 hz2 => ?_⟩
        obtain rfl := eyL pw mem
        have hsuT := sT _ _ hsuS
        have hfeT := sT _ _ hfeS
        have hoeT := sT _ _ hoeS
        nested_keys
        refine ⟨by show 3 ≤ sizeLine; decide, fun u4 hu4 => ?_⟩
        have sU : Same HT (upd HT u4 (.tup [.ref su, .ref fe, .ref oe])) := Same.new hu4
        refine ⟨t4, u4, [x2, y2, z2], [su, fe, oe], rfl, sU _ _ ht4, upd_same, rfl, Nat.le_refl _, each3 (R := fun p q => ∃ xs : List Str, upd HT u4 (.tup [.ref su, .ref fe, .ref oe]) p = some (.lst (xs.map .str)) ∧ upd HT u4 (.tup [.ref su, .ref fe, .ref oe]) q = some (.lst (xs.map .str)) ∧ xs.length ≤ 1000) ⟨_, sU _ _ hx2, sU _ _ hsuT, few1⟩ ⟨_, sU _ _ hy2, sU _ _ hfeT, few2⟩ ⟨_, sU _ _ hz2, sU _ _ hoeT, few3⟩, fun HV sV => ?_⟩
        have sSV := Same.trans' sT (Same.trans' sU sV)
        nested_keys
        exact ⟨eAS.trans sSV.extN, TabI.same tabS sSV, sb', ob', _, _, sSV _ _ hsbS, sSV _ _ hobS, Grown.next hG rok2 hn, _, _, _, _, _, _, _, _, _, _, rfl⟩
    · rintro σB HB ⟨_, _, sb, ob, A, B, _, _, _, u10, u11, u12, u13, u14, u15, u16, u17, u18, u19, rfl⟩
      exact ⟨trivial, _, _, _, _, _, _, _, _, _, _, _, _, _, _, _, _, _, _, _, _, rfl⟩
  · rintro σ2 H2' ⟨_, u0, u1, u2, u3, u4, u5, u6, u7, u8, u9, u10, u11, u12, u13, u14, u15, u16, u17, u18, u19, rfl⟩
    nested_keys
    exact q _
end NS
set_option maxHeartbeats 0
/-! G38: the end. -/
namespace NS
open PySem PySem.Spec PyProof.Rows L2
theorem endX {w : World} {K : PySem.W.Frag} {h : Heap} {mg : Str → Option Value} {f : Addr} (X : K.In h) (G : h.Ns mainGlobals mg) (hfa : mg ("law" : Str) = some (.ref f)) (c : He.SaysX faL fnL [] tfL exL w h K) :
    LamX.LawAtS PySem.Challenge.rw_surelydone_k39_whole_the_future_of_a_run w K L2.CX0 10 63 "_law_script" mg f h := by
  have T : Tx K mg := ⟨congrArg (fun z : He.AlT => z.1) c.t, c.more, ⟨h, X, G⟩⟩
  obtain ⟨fd, F⟩ := T.says.def_ 55 (d := dd_law) rfl
  have e := hfa.symm.trans T.g_law
  cases e
  have b := FunD.bindsA (ps := ["_law_script"]) F fun _ _ _ _ _ _ us hl => match us, hl with | [_], _ => rfl
  have one : ∀ {p : Addr × Addr}, p ∈ [He.cT K inOrd] → p = He.cT K inOrd := fun hp => List.mem_singleton.mp hp
  have it : inOrd ∈ tfL := List.mem_singleton.mpr rfl
  refine ⟨fd, [He.cT K inOrd], sp_law K, fun p hp => ?_, fun p hp => ?_, fun p hp => ?_, fun s u => b s [u] rfl, fun H a ns _ _ hT hS => ?_, fun base _ _ hB => ?_⟩
  · rw [one hp]
    exact c.empty _ it
  · rw [one hp]
    exact c.out _ it
  · rw [one hp]
    exact PySem.W.codeHd_of_K X (c.hd _ it)
  · exact ⟨a, ns, rfl, hS, LamX.TabS.nil (hT _ (List.mem_singleton.mpr rfl)), fun _ => rfl⟩
  · exact funOk F sc_law (fun vs H Q E ⟨_, _, h, _⟩ => by rw [h]; rfl) (walk_law T (hB _ (List.mem_singleton.mpr rfl)))
end NS
open PySem PySem.W PySem.Calls PyProof.Rows
theorem PySem.Challenge.cw_surelydone_k39_whole_the_future_of_a_run_holds : PySem.Challenge.rw_surelydone_k39_whole_the_future_of_a_run.Holds := by
  w_on; o_law
  refine HandSHeadRun.head_any (r := NS.lawR) (q := view NS.lawR.prog [89]) (H := NS.hkX) (ob := NS.obX) (M := 7000) (loose := NS.looseL) (d := HandSHeadRun.topDef NS.lawR.prog 89) (kwd := []) NS.obX_eq
    (by kernel_rfl) (fun s => by kernel_rfl) NS.runX (by kernel_rfl) (by kernel_rfl) (by kernel_rfl) (by rfl) (by first | assumption | decide +kernel) (by decide +kernel) ⟨rfl, rfl, rfl, rfl, rfl, by decide +kernel⟩ ?hw ?hc
  case hw => w_witness2
  case hc =>
    refine LamX.walk_ofTsE (l := PySem.Challenge.rw_surelydone_k39_whole_the_future_of_a_run) (n := 63) (k := 10) (x := "_law_script") (CX := fun _ => L2.CX0) rfl (by decide) (by kernel_rfl) ⟨rfl, by decide, by decide⟩ ?F (fun _ _ _ _ _ z => z)
    intro w mg fa h Y G hmg0
    obtain ⟨K, KX, c⟩ := Y
    have hmg : mg ("law" : PySem.Str) = some (.ref fa) := by
      have e : (HandSHeadRun.topDef NS.lawR.prog 89).name = ("law" : PySem.Str) := by kernel_rfl
      rw [← e]
      exact hmg0
    exact ⟨K, KX, NS.endX KX G hmg c⟩
