import PyProof.Rows.All
import Wide.All
import OpenK.AllK
import Wide.FinOn
import HandS.ForMost
import HandS.Defaults
import HandS.HeadEnd
import HandS.HeadHook1
import HandS.HeadHook2
import HandS.HeadHook3
import HandS.HeadHook4
import HandS.Codes
import PySem.Challenge.RW_resampler_k93_whole_values_renamed
import KE.KStateDown
import HandS.Head0
import HandS.Head1
import HandS.Head2
import HandS.Deep
import HandS.OwnEq
import HandS.DictComp
import HandS.ListItems
import HandS.IsInst
import HandS.Wide
import HandS.WideMore
import HandS.Flow
import HandS.Style
import HandS.Conv
import HandS.TupAny
import HandS.TupLe
import HandS.CallLocal
import HandS.Finally
import HandS.Zip
import HandS.TupSets
import HandS.SortKw
import HandS.More
import HandS.Small
import HandS.Walk
import KE.GoesMore
import KE.KDictZip
import HandS.MakeKwOnly
import HandS.Lambda
import KE.KSortKeyAny
import HandS.HeadWalk
/-! text Rtext -/
set_option Elab.async false
set_option linter.all false
set_option maxRecDepth 100000
namespace Rs
open PySem L2
def top (i : Nat) : Stmt := PySem.Challenge.pw_resampler_k93_whole_values_renamed.main.body.getD i (.Pass ⟨0, 0, 0, 0⟩)
/-! ### the text by places -/
abbrev s_need_integer : Stmt := top 23
abbrev s_greatest_divisor : Stmt := top 24
abbrev s_Ratio_init : Stmt := inClass (top 25) 0
abbrev s_Ratio_num : Stmt := inClass (top 25) 1
abbrev s_Ratio_den : Stmt := inClass (top 25) 2
abbrev s_Ratio_add : Stmt := inClass (top 25) 4
abbrev s_Ratio_subtract : Stmt := inClass (top 25) 5
abbrev s_Ratio_multiply : Stmt := inClass (top 25) 6
abbrev s_Ratio_eq : Stmt := inClass (top 25) 9
abbrev s_need_ratio : Stmt := top 26
abbrev s_need_ratios : Stmt := top 27
abbrev s_ratio_sum : Stmt := top 28
abbrev s_ratio_product : Stmt := top 29
abbrev s_is_list : Stmt := top 33
abbrev s_is_name : Stmt := top 34
abbrev s_is_integer : Stmt := top 35
abbrev s_is_variable_row : Stmt := top 42
abbrev s_is_event_row : Stmt := top 43
abbrev s_check_distinct : Stmt := top 44
abbrev s_check_variables : Stmt := top 45
abbrev s_check_scope : Stmt := top 46
abbrev s_are_bad_tuples : Stmt := top 47
abbrev s_check_events : Stmt := top 48
abbrev s_Problem_init : Stmt := inClass (top 49) 0
abbrev s_Problem_check_event : Stmt := inClass (top 49) 5
abbrev s_Problem_check_assignment : Stmt := inClass (top 49) 6
abbrev s_Problem_variables : Stmt := inClass (top 49) 7
abbrev s_Problem_events : Stmt := inClass (top 49) 8
abbrev s_Problem_size : Stmt := inClass (top 49) 9
abbrev s_Problem_scope : Stmt := inClass (top 49) 10
abbrev s_Problem_bad_tuples : Stmt := inClass (top 49) 11
abbrev s_Problem_are_adjacent : Stmt := inClass (top 49) 12
abbrev s_Problem_neighbors : Stmt := inClass (top 49) 13
abbrev s_Problem_is_assignment : Stmt := inClass (top 49) 14
abbrev s_Problem_values_in_scope : Stmt := inClass (top 49) 15
abbrev s_Problem_occurs : Stmt := inClass (top 49) 16
abbrev s_Problem_occurring : Stmt := inClass (top 49) 17
abbrev s_Problem_tuple_count : Stmt := inClass (top 49) 19
abbrev s_Problem_probability : Stmt := inClass (top 49) 20
abbrev s_check_problem : Stmt := top 50
abbrev s_common_assignment : Stmt := top 51
abbrev s_find_overlap : Stmt := top 52
abbrev s_is_exclusive : Stmt := top 53
abbrev s_shows_overlap : Stmt := top 54
abbrev s_is_value_list : Stmt := top 59
abbrev s_check_tapes : Stmt := top 60
abbrev s_Sampler_init : Stmt := inClass (top 61) 0
abbrev s_Sampler_assignment : Stmt := inClass (top 61) 5
abbrev s_Sampler_occurring : Stmt := inClass (top 61) 9
abbrev s_Sampler_first_exhausted : Stmt := inClass (top 61) 10
abbrev s_Sampler_ready : Stmt := inClass (top 61) 11
abbrev s_Sampler_is_valid : Stmt := inClass (top 61) 12
abbrev s_Sampler_check_idle : Stmt := inClass (top 61) 14
abbrev s_Sampler_perform : Stmt := inClass (top 61) 15
abbrev s_Sampler_history : Stmt := inClass (top 61) 17
abbrev s_chosen_event : Stmt := top 62
abbrev s_run_sampler : Stmt := top 63
abbrev s_choose_last : Stmt := top 64
abbrev s_is_piece : Stmt := top 69
abbrev s_check_pieces : Stmt := top 70
abbrev s_layers_of : Stmt := top 72
abbrev s_Heap_init : Stmt := inClass (top 73) 0
abbrev s_Heap_problem : Stmt := inClass (top 73) 5
abbrev s_Heap_layers : Stmt := inClass (top 73) 6
abbrev s_Heap_pieces : Stmt := inClass (top 73) 7
abbrev s_need_problem : Stmt := top 76
abbrev s_need_size : Stmt := top 77
abbrev s_independent_tuples : Stmt := top 78
abbrev s_independent_sets : Stmt := top 79
abbrev s_event_sign : Stmt := top 80
abbrev s_signed_counts : Stmt := top 81
abbrev s_heap_counts : Stmt := top 82
abbrev s_scope_count : Stmt := top 83
abbrev s_heap_weight : Stmt := top 84
abbrev s_signed_probability : Stmt := top 85
abbrev s_weights_by_size : Stmt := top 86
abbrev s__law_cell : Stmt := top 88
abbrev s__law_box : Stmt := top 89
abbrev s__law_take : Stmt := top 90
abbrev s__law_names : Stmt := top 91
abbrev s__law_data : Stmt := top 92
abbrev s__law_exchange : Stmt := top 93
abbrev s__law_moved : Stmt := top 94
abbrev s__law_pieces : Stmt := top 95
abbrev s__law_heaps_right : Stmt := top 96
abbrev s__law_runs_right : Stmt := top 97
abbrev s__law_overlap_right : Stmt := top 98
abbrev s_law : Stmt := top 99
def d_need_integer : He.DefD := ⟨("need_integer", none), "need_integer", "need_integer", defArgs s_need_integer, defBody s_need_integer, defScope s_need_integer, [], []⟩
def d_greatest_divisor : He.DefD := ⟨("greatest_divisor", none), "greatest_divisor", "greatest_divisor", defArgs s_greatest_divisor, defBody s_greatest_divisor, defScope s_greatest_divisor, [], []⟩
def d_Ratio_init : He.DefD := ⟨("Ratio", some "__init__"), "__init__", "Ratio.__init__", defArgs s_Ratio_init, defBody s_Ratio_init, defScope s_Ratio_init, [.int 1], []⟩
def d_Ratio_num : He.DefD := ⟨("Ratio", some "num"), "num", "Ratio.num", defArgs s_Ratio_num, defBody s_Ratio_num, defScope s_Ratio_num, [], []⟩
def d_Ratio_den : He.DefD := ⟨("Ratio", some "den"), "den", "Ratio.den", defArgs s_Ratio_den, defBody s_Ratio_den, defScope s_Ratio_den, [], []⟩
def d_Ratio_add : He.DefD := ⟨("Ratio", some "add"), "add", "Ratio.add", defArgs s_Ratio_add, defBody s_Ratio_add, defScope s_Ratio_add, [], []⟩
def d_Ratio_subtract : He.DefD := ⟨("Ratio", some "subtract"), "subtract", "Ratio.subtract", defArgs s_Ratio_subtract, defBody s_Ratio_subtract, defScope s_Ratio_subtract, [], []⟩
def d_Ratio_multiply : He.DefD := ⟨("Ratio", some "multiply"), "multiply", "Ratio.multiply", defArgs s_Ratio_multiply, defBody s_Ratio_multiply, defScope s_Ratio_multiply, [], []⟩
def d_Ratio_eq : He.DefD := ⟨("Ratio", some "__eq__"), "__eq__", "Ratio.__eq__", defArgs s_Ratio_eq, defBody s_Ratio_eq, defScope s_Ratio_eq, [], []⟩
def d_need_ratio : He.DefD := ⟨("need_ratio", none), "need_ratio", "need_ratio", defArgs s_need_ratio, defBody s_need_ratio, defScope s_need_ratio, [], []⟩
def d_need_ratios : He.DefD := ⟨("need_ratios", none), "need_ratios", "need_ratios", defArgs s_need_ratios, defBody s_need_ratios, defScope s_need_ratios, [], []⟩
def d_ratio_sum : He.DefD := ⟨("ratio_sum", none), "ratio_sum", "ratio_sum", defArgs s_ratio_sum, defBody s_ratio_sum, defScope s_ratio_sum, [], [("start", .non)]⟩
def d_ratio_product : He.DefD := ⟨("ratio_product", none), "ratio_product", "ratio_product", defArgs s_ratio_product, defBody s_ratio_product, defScope s_ratio_product, [], []⟩
def d_is_list : He.DefD := ⟨("is_list", none), "is_list", "is_list", defArgs s_is_list, defBody s_is_list, defScope s_is_list, [], []⟩
def d_is_name : He.DefD := ⟨("is_name", none), "is_name", "is_name", defArgs s_is_name, defBody s_is_name, defScope s_is_name, [], []⟩
def d_is_integer : He.DefD := ⟨("is_integer", none), "is_integer", "is_integer", defArgs s_is_integer, defBody s_is_integer, defScope s_is_integer, [], []⟩
def d_is_variable_row : He.DefD := ⟨("is_variable_row", none), "is_variable_row", "is_variable_row", defArgs s_is_variable_row, defBody s_is_variable_row, defScope s_is_variable_row, [], []⟩
def d_is_event_row : He.DefD := ⟨("is_event_row", none), "is_event_row", "is_event_row", defArgs s_is_event_row, defBody s_is_event_row, defScope s_is_event_row, [], []⟩
def d_check_distinct : He.DefD := ⟨("check_distinct", none), "check_distinct", "check_distinct", defArgs s_check_distinct, defBody s_check_distinct, defScope s_check_distinct, [], []⟩
def d_check_variables : He.DefD := ⟨("check_variables", none), "check_variables", "check_variables", defArgs s_check_variables, defBody s_check_variables, defScope s_check_variables, [], []⟩
def d_check_scope : He.DefD := ⟨("check_scope", none), "check_scope", "check_scope", defArgs s_check_scope, defBody s_check_scope, defScope s_check_scope, [], []⟩
def d_are_bad_tuples : He.DefD := ⟨("are_bad_tuples", none), "are_bad_tuples", "are_bad_tuples", defArgs s_are_bad_tuples, defBody s_are_bad_tuples, defScope s_are_bad_tuples, [], []⟩
def d_check_events : He.DefD := ⟨("check_events", none), "check_events", "check_events", defArgs s_check_events, defBody s_check_events, defScope s_check_events, [], []⟩
def d_Problem_init : He.DefD := ⟨("Problem", some "__init__"), "__init__", "Problem.__init__", defArgs s_Problem_init, defBody s_Problem_init, defScope s_Problem_init, [.adr (He.dflAt ("Problem", some "__init__") 0)], []⟩
def d_Problem_check_event : He.DefD := ⟨("Problem", some "check_event"), "check_event", "Problem.check_event", defArgs s_Problem_check_event, defBody s_Problem_check_event, defScope s_Problem_check_event, [], []⟩
def d_Problem_check_assignment : He.DefD := ⟨("Problem", some "check_assignment"), "check_assignment", "Problem.check_assignment", defArgs s_Problem_check_assignment, defBody s_Problem_check_assignment, defScope s_Problem_check_assignment, [], []⟩
def d_Problem_variables : He.DefD := ⟨("Problem", some "variables"), "variables", "Problem.variables", defArgs s_Problem_variables, defBody s_Problem_variables, defScope s_Problem_variables, [], []⟩
def d_Problem_events : He.DefD := ⟨("Problem", some "events"), "events", "Problem.events", defArgs s_Problem_events, defBody s_Problem_events, defScope s_Problem_events, [], []⟩
def d_Problem_size : He.DefD := ⟨("Problem", some "size"), "size", "Problem.size", defArgs s_Problem_size, defBody s_Problem_size, defScope s_Problem_size, [], []⟩
def d_Problem_scope : He.DefD := ⟨("Problem", some "scope"), "scope", "Problem.scope", defArgs s_Problem_scope, defBody s_Problem_scope, defScope s_Problem_scope, [], []⟩
def d_Problem_bad_tuples : He.DefD := ⟨("Problem", some "bad_tuples"), "bad_tuples", "Problem.bad_tuples", defArgs s_Problem_bad_tuples, defBody s_Problem_bad_tuples, defScope s_Problem_bad_tuples, [], []⟩
def d_Problem_are_adjacent : He.DefD := ⟨("Problem", some "are_adjacent"), "are_adjacent", "Problem.are_adjacent", defArgs s_Problem_are_adjacent, defBody s_Problem_are_adjacent, defScope s_Problem_are_adjacent, [], []⟩
def d_Problem_neighbors : He.DefD := ⟨("Problem", some "neighbors"), "neighbors", "Problem.neighbors", defArgs s_Problem_neighbors, defBody s_Problem_neighbors, defScope s_Problem_neighbors, [], []⟩
def d_Problem_is_assignment : He.DefD := ⟨("Problem", some "is_assignment"), "is_assignment", "Problem.is_assignment", defArgs s_Problem_is_assignment, defBody s_Problem_is_assignment, defScope s_Problem_is_assignment, [], []⟩
def d_Problem_values_in_scope : He.DefD := ⟨("Problem", some "values_in_scope"), "values_in_scope", "Problem.values_in_scope", defArgs s_Problem_values_in_scope, defBody s_Problem_values_in_scope, defScope s_Problem_values_in_scope, [], []⟩
def d_Problem_occurs : He.DefD := ⟨("Problem", some "occurs"), "occurs", "Problem.occurs", defArgs s_Problem_occurs, defBody s_Problem_occurs, defScope s_Problem_occurs, [], []⟩
def d_Problem_occurring : He.DefD := ⟨("Problem", some "occurring"), "occurring", "Problem.occurring", defArgs s_Problem_occurring, defBody s_Problem_occurring, defScope s_Problem_occurring, [], []⟩
def d_Problem_tuple_count : He.DefD := ⟨("Problem", some "tuple_count"), "tuple_count", "Problem.tuple_count", defArgs s_Problem_tuple_count, defBody s_Problem_tuple_count, defScope s_Problem_tuple_count, [], []⟩
def d_Problem_probability : He.DefD := ⟨("Problem", some "probability"), "probability", "Problem.probability", defArgs s_Problem_probability, defBody s_Problem_probability, defScope s_Problem_probability, [], []⟩
def d_check_problem : He.DefD := ⟨("check_problem", none), "check_problem", "check_problem", defArgs s_check_problem, defBody s_check_problem, defScope s_check_problem, [], []⟩
def d_common_assignment : He.DefD := ⟨("common_assignment", none), "common_assignment", "common_assignment", defArgs s_common_assignment, defBody s_common_assignment, defScope s_common_assignment, [], []⟩
def d_find_overlap : He.DefD := ⟨("find_overlap", none), "find_overlap", "find_overlap", defArgs s_find_overlap, defBody s_find_overlap, defScope s_find_overlap, [], []⟩
def d_is_exclusive : He.DefD := ⟨("is_exclusive", none), "is_exclusive", "is_exclusive", defArgs s_is_exclusive, defBody s_is_exclusive, defScope s_is_exclusive, [], []⟩
def d_shows_overlap : He.DefD := ⟨("shows_overlap", none), "shows_overlap", "shows_overlap", defArgs s_shows_overlap, defBody s_shows_overlap, defScope s_shows_overlap, [], []⟩
def d_is_value_list : He.DefD := ⟨("is_value_list", none), "is_value_list", "is_value_list", defArgs s_is_value_list, defBody s_is_value_list, defScope s_is_value_list, [], [("least", .int 1)]⟩
def d_check_tapes : He.DefD := ⟨("check_tapes", none), "check_tapes", "check_tapes", defArgs s_check_tapes, defBody s_check_tapes, defScope s_check_tapes, [], []⟩
def d_Sampler_init : He.DefD := ⟨("Sampler", some "__init__"), "__init__", "Sampler.__init__", defArgs s_Sampler_init, defBody s_Sampler_init, defScope s_Sampler_init, [], []⟩
def d_Sampler_assignment : He.DefD := ⟨("Sampler", some "assignment"), "assignment", "Sampler.assignment", defArgs s_Sampler_assignment, defBody s_Sampler_assignment, defScope s_Sampler_assignment, [], []⟩
def d_Sampler_occurring : He.DefD := ⟨("Sampler", some "occurring"), "occurring", "Sampler.occurring", defArgs s_Sampler_occurring, defBody s_Sampler_occurring, defScope s_Sampler_occurring, [], []⟩
def d_Sampler_first_exhausted : He.DefD := ⟨("Sampler", some "first_exhausted"), "first_exhausted", "Sampler.first_exhausted", defArgs s_Sampler_first_exhausted, defBody s_Sampler_first_exhausted, defScope s_Sampler_first_exhausted, [], []⟩
def d_Sampler_ready : He.DefD := ⟨("Sampler", some "ready"), "ready", "Sampler.ready", defArgs s_Sampler_ready, defBody s_Sampler_ready, defScope s_Sampler_ready, [], []⟩
def d_Sampler_is_valid : He.DefD := ⟨("Sampler", some "is_valid"), "is_valid", "Sampler.is_valid", defArgs s_Sampler_is_valid, defBody s_Sampler_is_valid, defScope s_Sampler_is_valid, [], []⟩
def d_Sampler_check_idle : He.DefD := ⟨("Sampler", some "check_idle"), "check_idle", "Sampler.check_idle", defArgs s_Sampler_check_idle, defBody s_Sampler_check_idle, defScope s_Sampler_check_idle, [], []⟩
def d_Sampler_perform : He.DefD := ⟨("Sampler", some "perform"), "perform", "Sampler.perform", defArgs s_Sampler_perform, defBody s_Sampler_perform, defScope s_Sampler_perform, [], []⟩
def d_Sampler_history : He.DefD := ⟨("Sampler", some "history"), "history", "Sampler.history", defArgs s_Sampler_history, defBody s_Sampler_history, defScope s_Sampler_history, [], []⟩
def d_chosen_event : He.DefD := ⟨("chosen_event", none), "chosen_event", "chosen_event", defArgs s_chosen_event, defBody s_chosen_event, defScope s_chosen_event, [], []⟩
def d_run_sampler : He.DefD := ⟨("run_sampler", none), "run_sampler", "run_sampler", defArgs s_run_sampler, defBody s_run_sampler, defScope s_run_sampler, [.non], [("max_steps", .int 240)]⟩
def d_choose_last : He.DefD := ⟨("choose_last", none), "choose_last", "choose_last", defArgs s_choose_last, defBody s_choose_last, defScope s_choose_last, [], []⟩
def d_is_piece : He.DefD := ⟨("is_piece", none), "is_piece", "is_piece", defArgs s_is_piece, defBody s_is_piece, defScope s_is_piece, [], []⟩
def d_check_pieces : He.DefD := ⟨("check_pieces", none), "check_pieces", "check_pieces", defArgs s_check_pieces, defBody s_check_pieces, defScope s_check_pieces, [], []⟩
def d_layers_of : He.DefD := ⟨("layers_of", none), "layers_of", "layers_of", defArgs s_layers_of, defBody s_layers_of, defScope s_layers_of, [], []⟩
def d_Heap_init : He.DefD := ⟨("Heap", some "__init__"), "__init__", "Heap.__init__", defArgs s_Heap_init, defBody s_Heap_init, defScope s_Heap_init, [.adr (He.dflAt ("Heap", some "__init__") 0)], []⟩
def d_Heap_problem : He.DefD := ⟨("Heap", some "problem"), "problem", "Heap.problem", defArgs s_Heap_problem, defBody s_Heap_problem, defScope s_Heap_problem, [], []⟩
def d_Heap_layers : He.DefD := ⟨("Heap", some "layers"), "layers", "Heap.layers", defArgs s_Heap_layers, defBody s_Heap_layers, defScope s_Heap_layers, [], []⟩
def d_Heap_pieces : He.DefD := ⟨("Heap", some "pieces"), "pieces", "Heap.pieces", defArgs s_Heap_pieces, defBody s_Heap_pieces, defScope s_Heap_pieces, [], []⟩
def d_need_problem : He.DefD := ⟨("need_problem", none), "need_problem", "need_problem", defArgs s_need_problem, defBody s_need_problem, defScope s_need_problem, [], []⟩
def d_need_size : He.DefD := ⟨("need_size", none), "need_size", "need_size", defArgs s_need_size, defBody s_need_size, defScope s_need_size, [], []⟩
def d_independent_tuples : He.DefD := ⟨("independent_tuples", none), "independent_tuples", "independent_tuples", defArgs s_independent_tuples, defBody s_independent_tuples, defScope s_independent_tuples, [], []⟩
def d_independent_sets : He.DefD := ⟨("independent_sets", none), "independent_sets", "independent_sets", defArgs s_independent_sets, defBody s_independent_sets, defScope s_independent_sets, [], []⟩
def d_event_sign : He.DefD := ⟨("event_sign", none), "event_sign", "event_sign", defArgs s_event_sign, defBody s_event_sign, defScope s_event_sign, [], []⟩
def d_signed_counts : He.DefD := ⟨("signed_counts", none), "signed_counts", "signed_counts", defArgs s_signed_counts, defBody s_signed_counts, defScope s_signed_counts, [], []⟩
def d_heap_counts : He.DefD := ⟨("heap_counts", none), "heap_counts", "heap_counts", defArgs s_heap_counts, defBody s_heap_counts, defScope s_heap_counts, [], [("up_to", .int 12)]⟩
def d_scope_count : He.DefD := ⟨("scope_count", none), "scope_count", "scope_count", defArgs s_scope_count, defBody s_scope_count, defScope s_scope_count, [], []⟩
def d_heap_weight : He.DefD := ⟨("heap_weight", none), "heap_weight", "heap_weight", defArgs s_heap_weight, defBody s_heap_weight, defScope s_heap_weight, [], []⟩
def d_signed_probability : He.DefD := ⟨("signed_probability", none), "signed_probability", "signed_probability", defArgs s_signed_probability, defBody s_signed_probability, defScope s_signed_probability, [], []⟩
def d_weights_by_size : He.DefD := ⟨("weights_by_size", none), "weights_by_size", "weights_by_size", defArgs s_weights_by_size, defBody s_weights_by_size, defScope s_weights_by_size, [], [("up_to", .int 12)]⟩
def d__law_cell : He.DefD := ⟨("_law_cell", none), "_law_cell", "_law_cell", defArgs s__law_cell, defBody s__law_cell, defScope s__law_cell, [], []⟩
def d__law_box : He.DefD := ⟨("_law_box", none), "_law_box", "_law_box", defArgs s__law_box, defBody s__law_box, defScope s__law_box, [], []⟩
def d__law_take : He.DefD := ⟨("_law_take", none), "_law_take", "_law_take", defArgs s__law_take, defBody s__law_take, defScope s__law_take, [], []⟩
def d__law_names : He.DefD := ⟨("_law_names", none), "_law_names", "_law_names", defArgs s__law_names, defBody s__law_names, defScope s__law_names, [], []⟩
def d__law_data : He.DefD := ⟨("_law_data", none), "_law_data", "_law_data", defArgs s__law_data, defBody s__law_data, defScope s__law_data, [], []⟩
def d__law_exchange : He.DefD := ⟨("_law_exchange", none), "_law_exchange", "_law_exchange", defArgs s__law_exchange, defBody s__law_exchange, defScope s__law_exchange, [], []⟩
def d__law_moved : He.DefD := ⟨("_law_moved", none), "_law_moved", "_law_moved", defArgs s__law_moved, defBody s__law_moved, defScope s__law_moved, [], []⟩
def d__law_pieces : He.DefD := ⟨("_law_pieces", none), "_law_pieces", "_law_pieces", defArgs s__law_pieces, defBody s__law_pieces, defScope s__law_pieces, [], []⟩
def d__law_heaps_right : He.DefD := ⟨("_law_heaps_right", none), "_law_heaps_right", "_law_heaps_right", defArgs s__law_heaps_right, defBody s__law_heaps_right, defScope s__law_heaps_right, [], []⟩
def d__law_runs_right : He.DefD := ⟨("_law_runs_right", none), "_law_runs_right", "_law_runs_right", defArgs s__law_runs_right, defBody s__law_runs_right, defScope s__law_runs_right, [], []⟩
def d__law_overlap_right : He.DefD := ⟨("_law_overlap_right", none), "_law_overlap_right", "_law_overlap_right", defArgs s__law_overlap_right, defBody s__law_overlap_right, defScope s__law_overlap_right, [], []⟩
def d_law : He.DefD := ⟨("law", none), "law", "law", defArgs s_law, defBody s_law, defScope s_law, [], []⟩
def fn0 : List He.DefD := [d_need_integer, d_greatest_divisor, d_Ratio_init, d_Ratio_num, d_Ratio_den, d_Ratio_add, d_Ratio_subtract, d_Ratio_multiply, d_Ratio_eq, d_need_ratio, d_need_ratios, d_ratio_sum, d_ratio_product, d_is_list, d_is_name, d_is_integer, d_is_variable_row, d_is_event_row, d_check_distinct, d_check_variables, d_check_scope, d_are_bad_tuples, d_check_events, d_Problem_init, d_Problem_check_event]
def fn1 : List He.DefD := [d_Problem_check_assignment, d_Problem_variables, d_Problem_events, d_Problem_size, d_Problem_scope, d_Problem_bad_tuples, d_Problem_are_adjacent, d_Problem_neighbors, d_Problem_is_assignment, d_Problem_values_in_scope, d_Problem_occurs, d_Problem_occurring, d_Problem_tuple_count, d_Problem_probability, d_check_problem, d_common_assignment, d_find_overlap, d_is_exclusive, d_shows_overlap, d_is_value_list, d_check_tapes, d_Sampler_init, d_Sampler_assignment, d_Sampler_occurring, d_Sampler_first_exhausted]
def fn2 : List He.DefD := [d_Sampler_ready, d_Sampler_is_valid, d_Sampler_check_idle, d_Sampler_perform, d_Sampler_history, d_chosen_event, d_run_sampler, d_choose_last, d_is_piece, d_check_pieces, d_layers_of, d_Heap_init, d_Heap_problem, d_Heap_layers, d_Heap_pieces, d_need_problem, d_need_size, d_independent_tuples, d_independent_sets, d_event_sign, d_signed_counts, d_heap_counts, d_scope_count, d_heap_weight, d_signed_probability]
def fn3 : List He.DefD := [d_weights_by_size, d__law_cell, d__law_box, d__law_take, d__law_names, d__law_data, d__law_exchange, d__law_moved, d__law_pieces, d__law_heaps_right, d__law_runs_right, d__law_overlap_right, d_law]
def fn : List He.DefD := fn0 ++ fn1 ++ fn2 ++ fn3
def fa0 : List He.Fa := [.glo "need_integer", .glo "greatest_divisor", .glo "need_ratio", .glo "need_ratios", .glo "ratio_sum", .glo "ratio_product", .glo "is_list", .glo "is_name", .glo "is_integer", .glo "is_variable_row", .glo "is_event_row", .glo "check_distinct", .glo "check_variables", .glo "check_scope", .glo "are_bad_tuples", .glo "check_events", .glo "check_problem", .glo "common_assignment", .glo "find_overlap", .glo "is_exclusive", .glo "shows_overlap", .glo "is_value_list", .glo "check_tapes", .glo "chosen_event", .glo "run_sampler", .glo "choose_last", .glo "is_piece", .glo "check_pieces", .glo "layers_of", .glo "need_problem"]
def fa1 : List He.Fa := [.glo "need_size", .glo "independent_tuples", .glo "independent_sets", .glo "event_sign", .glo "signed_counts", .glo "heap_counts", .glo "scope_count", .glo "heap_weight", .glo "signed_probability", .glo "weights_by_size", .glo "_law_cell", .glo "_law_box", .glo "_law_take", .glo "_law_names", .glo "_law_data", .glo "_law_exchange", .glo "_law_moved", .glo "_law_pieces", .glo "_law_heaps_right", .glo "_law_runs_right", .glo "_law_overlap_right", .glo "law", .glo "Ratio", .cls "Ratio", .mkr "Ratio", .meth "Ratio" "num", .meth "Ratio" "den", .meth "Ratio" "add", .meth "Ratio" "subtract", .meth "Ratio" "multiply"]
def fa2 : List He.Fa := [.meth "Ratio" "__eq__", .noat "Ratio" "ratio_num", .noat "Ratio" "ratio_den", .glo "Problem", .cls "Problem", .mkr "Problem", .meth "Problem" "check_event", .meth "Problem" "check_assignment", .meth "Problem" "variables", .meth "Problem" "events", .meth "Problem" "size", .meth "Problem" "scope", .meth "Problem" "bad_tuples", .meth "Problem" "are_adjacent", .meth "Problem" "neighbors", .meth "Problem" "is_assignment", .meth "Problem" "values_in_scope", .meth "Problem" "occurs", .meth "Problem" "occurring", .meth "Problem" "tuple_count", .meth "Problem" "probability", .noat "Problem" "size_by_name", .noat "Problem" "scope_by_event", .noat "Problem" "tuples_by_event", .glo "Sampler", .cls "Sampler", .mkr "Sampler", .meth "Sampler" "assignment", .meth "Sampler" "occurring", .meth "Sampler" "first_exhausted"]
def fa3 : List He.Fa := [.meth "Sampler" "ready", .meth "Sampler" "is_valid", .meth "Sampler" "check_idle", .meth "Sampler" "perform", .meth "Sampler" "history", .noat "Sampler" "own_problem", .noat "Sampler" "tape_table", .noat "Sampler" "position_table", .noat "Sampler" "step_list", .noat "Sampler" "run_active", .glo "Heap", .cls "Heap", .mkr "Heap", .meth "Heap" "problem", .meth "Heap" "layers", .meth "Heap" "pieces", .noat "Heap" "own_problem", .noat "Heap" "own_layers", .int "LONGEST_NAME" 8, .int "MOST_VARIABLES" 8, .int "MOST_EVENTS" 8, .int "MOST_SIZE" 6, .int "MOST_SCOPE" 4, .int "MOST_TUPLES" 12, .int "MAX_TAPE" 40, .int "MAX_VALUES" 200, .int "MAX_STEPS" 240, .int "MOST_PIECES" 240, .int "MOST_VALUE" 5, .int "MAX_SIZE" 12]
def fa4 : List He.Fa := [.str "LETTERS" "abcdefghijklmnopqrstuvwxyz", .free "len", .free "isinstance", .free "all", .free "any", .free "sorted", .free "list", .free "tuple", .free "dict", .free "enumerate", .free "zip", .free "range", .free "sum", .free "max", .free "min", .free "int", .free "str", .free "bool", .free "abs"]
def fa : List He.Fa := fa0 ++ fa1 ++ fa2 ++ fa3 ++ fa4
def nm0 : List PySem.Str := ["_wall", "ResampleError", "MissingError", "StateError", "InvalidInteger", "InvalidRatio", "InvalidVariables", "InvalidEvents", "InvalidProblem", "InvalidAssignment", "InvalidTapes", "InvalidSampler", "InvalidChoice", "InvalidPieces", "InvalidHistory", "InvalidHeap", "DuplicateName", "TooLarge", "UnknownVariable", "UnknownEvent", "SamplerBusy", "need_integer", "greatest_divisor", "Ratio", "need_ratio", "need_ratios", "ratio_sum", "ratio_product", "LETTERS", "LONGEST_NAME"]
def nm1 : List PySem.Str := ["is_list", "is_name", "is_integer", "MOST_VARIABLES", "MOST_EVENTS", "MOST_SIZE", "MOST_SCOPE", "MOST_TUPLES", "is_variable_row", "is_event_row", "check_distinct", "check_variables", "check_scope", "are_bad_tuples", "check_events", "Problem", "check_problem", "common_assignment", "find_overlap", "is_exclusive", "shows_overlap", "MAX_TAPE", "MAX_VALUES", "MAX_STEPS", "is_value_list", "check_tapes", "Sampler", "chosen_event", "run_sampler", "choose_last"]
def nm2 : List PySem.Str := ["MOST_PIECES", "MOST_ORDERS", "MOST_VALUE", "is_piece", "check_pieces", "piece_text", "layers_of", "Heap", "MAX_SIZE", "need_problem", "need_size", "independent_tuples", "independent_sets", "event_sign", "signed_counts", "heap_counts", "scope_count", "heap_weight", "signed_probability", "weights_by_size", "_law_cell", "_law_box", "_law_take", "_law_names", "_law_data", "_law_exchange", "_law_moved", "_law_pieces", "_law_heaps_right", "_law_runs_right"]
def nm3 : List PySem.Str := ["_law_overlap_right"]
def names : List PySem.Str := nm0 ++ nm1 ++ nm2 ++ nm3
end Rs
/-! text Rhook -/
set_option Elab.async false
set_option linter.all false
set_option maxRecDepth 100000
set_option maxHeartbeats 4000000
namespace Rs
open PySem PySem.W PySem.Calls PyProof.Rows L2
/-! ### a hook over a literal list of addresses, one more Bool, one empty table -/
/-- what isinstance asks of an own class, and what != asks -/
def clsMore (K : PySem.W.Frag) (x : PySem.Str) : Bool :=
  He.eqO (PySem.W.findIn K (.ref (He.ga K x)) "__class__") (some (some (.builtin "object.__class__"))) && (decide (PySem.W.mroIn K (He.ga K x) (.type "object") = some true) && decide (PySem.W.kitOne K (.ref (He.ga K x)) (.ref (He.ga K x)) = some true))
def exB (K : PySem.W.Frag) : Bool :=
  clsMore K "Ratio" && (clsMore K "Problem" && (clsMore K "Sampler" && (clsMore K "Heap" && He.eqO (PySem.W.findIn K (.ref (He.ga K "Ratio")) "__ne__") (some (some (.builtin "object.__ne__"))))))
abbrev AlL : Type := He.AlD × Bool
def tabAt (g : Addr → Option Obj) (p : Addr) : Bool := match g p with
  | some o => He.emptyTab o
  | none => false
def obsLG (as : List Addr) (pt : Addr) (fa : List He.Fa) (fn : List He.DefD) (g : Addr → Option Obj) : AlL :=
  (He.obsD fa fn (He.frG g as), exB (He.frG g as) && (tabAt g pt && (decide (pt ∉ as) && PySem.W.codeHdIn (He.frG g as) (He.codeOf (He.frG g as) ("layers_of", none)) pt)))
def valL (fn : List He.DefD) : AlL := (He.valD fn, true)
theorem frG_lookup_out {g : Addr → Option Obj} {a : Addr} : ∀ {as : List Addr}, a ∉ as → (He.frG g as).lookup a = none
  | [], _ => rfl
  | b :: r, h => by
    have hb : ¬ a = b := fun e => h (by rw [e]; exact List.mem_cons_self ..)
    have hr : a ∉ r := fun e => h (List.mem_cons_of_mem _ e)
    have ih := frG_lookup_out (g := g) hr
    unfold He.frG at ih ⊢
    rw [List.filterMap_cons]
    cases q : g b with
    | none => exact ih
    | some o =>
      show (match a == b with | true => some o | false => _) = none
      rw [show (a == b) = false from beq_false_of_ne hb]
      exact ih
/-- what the head tells -/
structure Said (fa : List He.Fa) (fn : List He.DefD) (pt : Addr) (h : Heap) (K : PySem.W.Frag) : Prop where
  d : He.SaysD fa fn K
  ex : exB K = true
  tab : h.get? pt = some { cls := .none, data := .fields #[] }
  out : K.lookup pt = none
  hd : PySem.W.codeHdIn K (He.codeOf K ("layers_of", none)) pt = true
theorem said_of {as : List Addr} {pt : Addr} {fa : List He.Fa} {fn : List He.DefD} {h : Heap} (e : obsLG as pt fa fn h.get? = valL fn) : Said fa fn pt h (He.frG h.get? as) := by
  have e1 : He.obsD fa fn (He.frG h.get? as) = He.valD fn := congrArg (fun z : AlL => z.1) e
  have e2 := (congrArg (fun z : AlL => z.2) e : (exB (He.frG h.get? as) && (tabAt h.get? pt && (decide (pt ∉ as) && PySem.W.codeHdIn (He.frG h.get? as) (He.codeOf (He.frG h.get? as) ("layers_of", none)) pt))) = true)
  obtain ⟨h1, h2⟩ := He.ba e2
  obtain ⟨h3, h4⟩ := He.ba h2
  obtain ⟨h5, h6⟩ := He.ba h4
  refine ⟨e1, h1, ?_, frG_lookup_out (of_decide_eq_true h5), h6⟩
  unfold tabAt at h3
  cases q : h.get? pt with
  | none =>
    rw [q] at h3
    cases h3
  | some o =>
    rw [q] at h3
    rw [He.emptyTab_eq h3]
def hookL (as : List Addr) (pt : Addr) (fa : List He.Fa) (fn : List He.DefD) : PySem.W.Hook where
  α := AlL
  obs := fun s => obsLG as pt fa fn s.heap.get?
  val := fun _ => valL fn
  says := fun _ h => ∃ K : PySem.W.Frag, K.In h ∧ Said fa fn pt h K
  of := fun _ _ e => ⟨_, He.frG_in, said_of e⟩
  keeps := fun _ _ _ ⟨K, hK, c⟩ k => ⟨K, PySem.W.Frag.In.keeps hK k, ⟨c.d, c.ex, k _ _ c.tab, c.out, c.hd⟩⟩
theorem obsLG_eq {as : List Addr} {pt : Addr} {fa : List He.Fa} {fn : List He.DefD} {g : Addr → Option Obj} {s : Shared} (h : ∀ a, g a = s.heap.get? a) : obsLG as pt fa fn g = (hookL as pt fa fn).obs s := by
  have e : g = s.heap.get? := funext h
  rw [e] <;> rfl
end Rs
/-! text Rrun -/
set_option Elab.async false
set_option linter.all false
set_option maxRecDepth 100000
set_option maxHeartbeats 0
namespace Rs
open PySem PySem.W PySem.Calls PyProof.Rows L2
def as0 : List Addr := [3, 492, 491, 732, 731, 920, 919, 1128, 1127, 412, 411, 405, 419, 418, 426, 425, 440, 439, 447, 446, 454, 453, 475, 474, 601, 600, 596, 634, 633, 641, 640, 648, 647, 655, 654]
def as1 : List Addr := [662, 661, 669, 668, 676, 675, 681, 680, 686, 685, 691, 690, 696, 695, 703, 702, 708, 707, 722, 721, 729, 728, 790, 789, 823, 822, 851, 850, 858, 857, 863, 862, 870, 869, 884]
def as2 : List Addr := [883, 889, 888, 903, 902, 985, 984, 978, 1018, 1017, 1023, 1022, 1028, 1027, 1213, 1212, 1206, 1205, 1230, 1229, 1237, 1236, 1252, 1251, 1242, 1241, 1225, 1224, 1264, 1263, 1247, 1246, 1257, 1256, 1220]
def as3 : List Addr := [1219, 582, 581, 565, 564, 587, 586, 959, 958, 743, 742, 577, 576, 778, 777, 570, 569, 947, 946, 931, 930, 748, 747, 1163, 1162, 755, 754, 397, 396, 1176, 1175, 1171, 1188, 1187, 1156]
def as4 : List Addr := [1155, 1151, 1150, 558, 557, 762, 761, 544, 543, 532, 531, 537, 536, 952, 951, 773, 772, 768, 551, 550, 1269, 1268, 969, 968, 390, 389, 1139, 1138, 503, 502, 510, 509, 1146, 1145, 525]
def as5 : List Addr := [524, 518, 517, 511, 940, 939, 932, 933, 1183, 1182, 767, 766, 1170, 1169, 1193, 1192, 1199, 1198, 1194]
def as : List Addr := as0 ++ as1 ++ as2 ++ as3 ++ as4 ++ as5
abbrev R : PySem.W.OpenRow := PySem.W.OpenLaw.row PySem.Challenge.rw_resampler_k93_whole_values_renamed
abbrev hk : PySem.W.Hook := hookL as 966 fa fn
def ob (s : PySem.W.SharedT) : AlL := obsLG as 966 fa fn (HandSHeadRun.getT s)
theorem ob_eq (s : PySem.W.SharedT) : ob s = hk.obs s.abs := obsLG_eq (HandSHeadRun.getT_eq s)
theorem run (w : World) : HandSHeadRun.RunEq R (PySem.W.view R.prog [99]) hk ob 20000 names w := by
  intro os
  kernel_rfl
end Rs
/-! text Rfact -/
set_option Elab.async false
set_option linter.all false
set_option maxRecDepth 100000
set_option maxHeartbeats 4000000
namespace Rs
open PySem L2
/-- what the walk leans on: the written part, the module's names, what the head tells -/
structure Tx (K : PySem.W.Frag) (mg : Str → Option Value) (h : Heap) : Prop where
  X : K.In h
  G : h.Ns mainGlobals mg
  d : He.SaysD fa fn K
  ex : exB K = true

abbrev a_Ratio (K : PySem.W.Frag) : Addr := He.ga K "Ratio"
abbrev a_Problem (K : PySem.W.Frag) : Addr := He.ga K "Problem"
abbrev a_Sampler (K : PySem.W.Frag) : Addr := He.ga K "Sampler"
abbrev a_Heap (K : PySem.W.Frag) : Addr := He.ga K "Heap"
section
variable {K : PySem.W.Frag} {mg : Str → Option Value} {h : Heap}
theorem Tx.fr_len (T : Tx K mg h) : mg "len" = none := He.free_ok T.X T.G (x := "len") (T.d.fact 121 rfl)
theorem Tx.fr_isinstance (T : Tx K mg h) : mg "isinstance" = none := He.free_ok T.X T.G (x := "isinstance") (T.d.fact 122 rfl)
theorem Tx.fr_all (T : Tx K mg h) : mg "all" = none := He.free_ok T.X T.G (x := "all") (T.d.fact 123 rfl)
theorem Tx.fr_any (T : Tx K mg h) : mg "any" = none := He.free_ok T.X T.G (x := "any") (T.d.fact 124 rfl)
theorem Tx.fr_sorted (T : Tx K mg h) : mg "sorted" = none := He.free_ok T.X T.G (x := "sorted") (T.d.fact 125 rfl)
theorem Tx.fr_list (T : Tx K mg h) : mg "list" = none := He.free_ok T.X T.G (x := "list") (T.d.fact 126 rfl)
theorem Tx.fr_tuple (T : Tx K mg h) : mg "tuple" = none := He.free_ok T.X T.G (x := "tuple") (T.d.fact 127 rfl)
theorem Tx.fr_dict (T : Tx K mg h) : mg "dict" = none := He.free_ok T.X T.G (x := "dict") (T.d.fact 128 rfl)
theorem Tx.fr_enumerate (T : Tx K mg h) : mg "enumerate" = none := He.free_ok T.X T.G (x := "enumerate") (T.d.fact 129 rfl)
theorem Tx.fr_zip (T : Tx K mg h) : mg "zip" = none := He.free_ok T.X T.G (x := "zip") (T.d.fact 130 rfl)
theorem Tx.fr_range (T : Tx K mg h) : mg "range" = none := He.free_ok T.X T.G (x := "range") (T.d.fact 131 rfl)
theorem Tx.fr_sum (T : Tx K mg h) : mg "sum" = none := He.free_ok T.X T.G (x := "sum") (T.d.fact 132 rfl)
theorem Tx.fr_max (T : Tx K mg h) : mg "max" = none := He.free_ok T.X T.G (x := "max") (T.d.fact 133 rfl)
theorem Tx.fr_min (T : Tx K mg h) : mg "min" = none := He.free_ok T.X T.G (x := "min") (T.d.fact 134 rfl)
theorem Tx.fr_int (T : Tx K mg h) : mg "int" = none := He.free_ok T.X T.G (x := "int") (T.d.fact 135 rfl)
theorem Tx.fr_str (T : Tx K mg h) : mg "str" = none := He.free_ok T.X T.G (x := "str") (T.d.fact 136 rfl)
theorem Tx.fr_bool (T : Tx K mg h) : mg "bool" = none := He.free_ok T.X T.G (x := "bool") (T.d.fact 137 rfl)
theorem Tx.fr_abs (T : Tx K mg h) : mg "abs" = none := He.free_ok T.X T.G (x := "abs") (T.d.fact 138 rfl)
theorem Tx.k_LONGEST_NAME (T : Tx K mg h) : ∃ u, mg "LONGEST_NAME" = some u ∧ RelV (.int 8) u := by
  obtain ⟨t, e⟩ := He.int_ok T.X T.G (x := "LONGEST_NAME") (i := 8) (T.d.fact 108 rfl)
  exact ⟨_, e, t, rfl⟩
theorem Tx.k_MOST_VARIABLES (T : Tx K mg h) : ∃ u, mg "MOST_VARIABLES" = some u ∧ RelV (.int 8) u := by
  obtain ⟨t, e⟩ := He.int_ok T.X T.G (x := "MOST_VARIABLES") (i := 8) (T.d.fact 109 rfl)
  exact ⟨_, e, t, rfl⟩
theorem Tx.k_MOST_EVENTS (T : Tx K mg h) : ∃ u, mg "MOST_EVENTS" = some u ∧ RelV (.int 8) u := by
  obtain ⟨t, e⟩ := He.int_ok T.X T.G (x := "MOST_EVENTS") (i := 8) (T.d.fact 110 rfl)
  exact ⟨_, e, t, rfl⟩
theorem Tx.k_MOST_SIZE (T : Tx K mg h) : ∃ u, mg "MOST_SIZE" = some u ∧ RelV (.int 6) u := by
  obtain ⟨t, e⟩ := He.int_ok T.X T.G (x := "MOST_SIZE") (i := 6) (T.d.fact 111 rfl)
  exact ⟨_, e, t, rfl⟩
theorem Tx.k_MOST_SCOPE (T : Tx K mg h) : ∃ u, mg "MOST_SCOPE" = some u ∧ RelV (.int 4) u := by
  obtain ⟨t, e⟩ := He.int_ok T.X T.G (x := "MOST_SCOPE") (i := 4) (T.d.fact 112 rfl)
  exact ⟨_, e, t, rfl⟩
theorem Tx.k_MOST_TUPLES (T : Tx K mg h) : ∃ u, mg "MOST_TUPLES" = some u ∧ RelV (.int 12) u := by
  obtain ⟨t, e⟩ := He.int_ok T.X T.G (x := "MOST_TUPLES") (i := 12) (T.d.fact 113 rfl)
  exact ⟨_, e, t, rfl⟩
theorem Tx.k_MAX_TAPE (T : Tx K mg h) : ∃ u, mg "MAX_TAPE" = some u ∧ RelV (.int 40) u := by
  obtain ⟨t, e⟩ := He.int_ok T.X T.G (x := "MAX_TAPE") (i := 40) (T.d.fact 114 rfl)
  exact ⟨_, e, t, rfl⟩
theorem Tx.k_MAX_VALUES (T : Tx K mg h) : ∃ u, mg "MAX_VALUES" = some u ∧ RelV (.int 200) u := by
  obtain ⟨t, e⟩ := He.int_ok T.X T.G (x := "MAX_VALUES") (i := 200) (T.d.fact 115 rfl)
  exact ⟨_, e, t, rfl⟩
theorem Tx.k_MAX_STEPS (T : Tx K mg h) : ∃ u, mg "MAX_STEPS" = some u ∧ RelV (.int 240) u := by
  obtain ⟨t, e⟩ := He.int_ok T.X T.G (x := "MAX_STEPS") (i := 240) (T.d.fact 116 rfl)
  exact ⟨_, e, t, rfl⟩
theorem Tx.k_MOST_PIECES (T : Tx K mg h) : ∃ u, mg "MOST_PIECES" = some u ∧ RelV (.int 240) u := by
  obtain ⟨t, e⟩ := He.int_ok T.X T.G (x := "MOST_PIECES") (i := 240) (T.d.fact 117 rfl)
  exact ⟨_, e, t, rfl⟩
theorem Tx.k_MOST_VALUE (T : Tx K mg h) : ∃ u, mg "MOST_VALUE" = some u ∧ RelV (.int 5) u := by
  obtain ⟨t, e⟩ := He.int_ok T.X T.G (x := "MOST_VALUE") (i := 5) (T.d.fact 118 rfl)
  exact ⟨_, e, t, rfl⟩
theorem Tx.k_MAX_SIZE (T : Tx K mg h) : ∃ u, mg "MAX_SIZE" = some u ∧ RelV (.int 12) u := by
  obtain ⟨t, e⟩ := He.int_ok T.X T.G (x := "MAX_SIZE") (i := 12) (T.d.fact 119 rfl)
  exact ⟨_, e, t, rfl⟩
theorem Tx.k_LETTERS (T : Tx K mg h) : ∃ u, mg "LETTERS" = some u ∧ RelV (.str "abcdefghijklmnopqrstuvwxyz") u := by
  obtain ⟨t, e⟩ := He.str_ok T.X T.G (x := "LETTERS") (z := "abcdefghijklmnopqrstuvwxyz") (T.d.fact 120 rfl)
  exact ⟨_, e, t, rfl⟩
theorem Tx.g_Ratio (T : Tx K mg h) : ∃ u, mg "Ratio" = some u ∧ RelV (.ref (a_Ratio K)) u := ⟨_, He.glo_ok T.X T.G (x := "Ratio") (T.d.fact 52 rfl), rfl⟩
theorem Tx.m_Ratio (T : Tx K mg h) : mg "Ratio" = some (.ref (a_Ratio K)) := He.glo_ok T.X T.G (x := "Ratio") (T.d.fact 52 rfl)
theorem Tx.cl_Ratio (T : Tx K mg h) : Cls K (a_Ratio K) := He.cls_ok (x := "Ratio") (T.d.fact 53 rfl)
theorem Tx.mk_Ratio (T : Tx K mg h) : Mk K (a_Ratio K) (He.ma K (a_Ratio K) "__init__") := He.mkr_ok (x := "Ratio") (T.d.fact 54 rfl)
theorem Tx.me_Ratio_num (T : Tx K mg h) : Meth K (a_Ratio K) "num" (He.ma K (a_Ratio K) "num") := He.meth_ok (x := "Ratio") (m := "num") (T.d.fact 55 rfl)
theorem Tx.me_Ratio_den (T : Tx K mg h) : Meth K (a_Ratio K) "den" (He.ma K (a_Ratio K) "den") := He.meth_ok (x := "Ratio") (m := "den") (T.d.fact 56 rfl)
theorem Tx.me_Ratio_add (T : Tx K mg h) : Meth K (a_Ratio K) "add" (He.ma K (a_Ratio K) "add") := He.meth_ok (x := "Ratio") (m := "add") (T.d.fact 57 rfl)
theorem Tx.me_Ratio_subtract (T : Tx K mg h) : Meth K (a_Ratio K) "subtract" (He.ma K (a_Ratio K) "subtract") := He.meth_ok (x := "Ratio") (m := "subtract") (T.d.fact 58 rfl)
theorem Tx.me_Ratio_multiply (T : Tx K mg h) : Meth K (a_Ratio K) "multiply" (He.ma K (a_Ratio K) "multiply") := He.meth_ok (x := "Ratio") (m := "multiply") (T.d.fact 59 rfl)
theorem Tx.me_Ratio_eq (T : Tx K mg h) : Meth K (a_Ratio K) "__eq__" (He.ma K (a_Ratio K) "__eq__") := He.meth_ok (x := "Ratio") (m := "__eq__") (T.d.fact 60 rfl)
theorem Tx.na_Ratio_ratio_num (T : Tx K mg h) : NoAttr K (a_Ratio K) "ratio_num" := He.noat_ok (x := "Ratio") (f := "ratio_num") (T.d.fact 61 rfl)
theorem Tx.na_Ratio_ratio_den (T : Tx K mg h) : NoAttr K (a_Ratio K) "ratio_den" := He.noat_ok (x := "Ratio") (f := "ratio_den") (T.d.fact 62 rfl)
theorem Tx.g_Problem (T : Tx K mg h) : ∃ u, mg "Problem" = some u ∧ RelV (.ref (a_Problem K)) u := ⟨_, He.glo_ok T.X T.G (x := "Problem") (T.d.fact 63 rfl), rfl⟩
theorem Tx.m_Problem (T : Tx K mg h) : mg "Problem" = some (.ref (a_Problem K)) := He.glo_ok T.X T.G (x := "Problem") (T.d.fact 63 rfl)
theorem Tx.cl_Problem (T : Tx K mg h) : Cls K (a_Problem K) := He.cls_ok (x := "Problem") (T.d.fact 64 rfl)
theorem Tx.mk_Problem (T : Tx K mg h) : Mk K (a_Problem K) (He.ma K (a_Problem K) "__init__") := He.mkr_ok (x := "Problem") (T.d.fact 65 rfl)
theorem Tx.me_Problem_check_event (T : Tx K mg h) : Meth K (a_Problem K) "check_event" (He.ma K (a_Problem K) "check_event") := He.meth_ok (x := "Problem") (m := "check_event") (T.d.fact 66 rfl)
theorem Tx.me_Problem_check_assignment (T : Tx K mg h) : Meth K (a_Problem K) "check_assignment" (He.ma K (a_Problem K) "check_assignment") := He.meth_ok (x := "Problem") (m := "check_assignment") (T.d.fact 67 rfl)
theorem Tx.me_Problem_variables (T : Tx K mg h) : Meth K (a_Problem K) "variables" (He.ma K (a_Problem K) "variables") := He.meth_ok (x := "Problem") (m := "variables") (T.d.fact 68 rfl)
theorem Tx.me_Problem_events (T : Tx K mg h) : Meth K (a_Problem K) "events" (He.ma K (a_Problem K) "events") := He.meth_ok (x := "Problem") (m := "events") (T.d.fact 69 rfl)
theorem Tx.me_Problem_size (T : Tx K mg h) : Meth K (a_Problem K) "size" (He.ma K (a_Problem K) "size") := He.meth_ok (x := "Problem") (m := "size") (T.d.fact 70 rfl)
theorem Tx.me_Problem_scope (T : Tx K mg h) : Meth K (a_Problem K) "scope" (He.ma K (a_Problem K) "scope") := He.meth_ok (x := "Problem") (m := "scope") (T.d.fact 71 rfl)
theorem Tx.me_Problem_bad_tuples (T : Tx K mg h) : Meth K (a_Problem K) "bad_tuples" (He.ma K (a_Problem K) "bad_tuples") := He.meth_ok (x := "Problem") (m := "bad_tuples") (T.d.fact 72 rfl)
theorem Tx.me_Problem_are_adjacent (T : Tx K mg h) : Meth K (a_Problem K) "are_adjacent" (He.ma K (a_Problem K) "are_adjacent") := He.meth_ok (x := "Problem") (m := "are_adjacent") (T.d.fact 73 rfl)
theorem Tx.me_Problem_neighbors (T : Tx K mg h) : Meth K (a_Problem K) "neighbors" (He.ma K (a_Problem K) "neighbors") := He.meth_ok (x := "Problem") (m := "neighbors") (T.d.fact 74 rfl)
theorem Tx.me_Problem_is_assignment (T : Tx K mg h) : Meth K (a_Problem K) "is_assignment" (He.ma K (a_Problem K) "is_assignment") := He.meth_ok (x := "Problem") (m := "is_assignment") (T.d.fact 75 rfl)
theorem Tx.me_Problem_values_in_scope (T : Tx K mg h) : Meth K (a_Problem K) "values_in_scope" (He.ma K (a_Problem K) "values_in_scope") := He.meth_ok (x := "Problem") (m := "values_in_scope") (T.d.fact 76 rfl)
theorem Tx.me_Problem_occurs (T : Tx K mg h) : Meth K (a_Problem K) "occurs" (He.ma K (a_Problem K) "occurs") := He.meth_ok (x := "Problem") (m := "occurs") (T.d.fact 77 rfl)
theorem Tx.me_Problem_occurring (T : Tx K mg h) : Meth K (a_Problem K) "occurring" (He.ma K (a_Problem K) "occurring") := He.meth_ok (x := "Problem") (m := "occurring") (T.d.fact 78 rfl)
theorem Tx.me_Problem_tuple_count (T : Tx K mg h) : Meth K (a_Problem K) "tuple_count" (He.ma K (a_Problem K) "tuple_count") := He.meth_ok (x := "Problem") (m := "tuple_count") (T.d.fact 79 rfl)
theorem Tx.me_Problem_probability (T : Tx K mg h) : Meth K (a_Problem K) "probability" (He.ma K (a_Problem K) "probability") := He.meth_ok (x := "Problem") (m := "probability") (T.d.fact 80 rfl)
theorem Tx.na_Problem_size_by_name (T : Tx K mg h) : NoAttr K (a_Problem K) "size_by_name" := He.noat_ok (x := "Problem") (f := "size_by_name") (T.d.fact 81 rfl)
theorem Tx.na_Problem_scope_by_event (T : Tx K mg h) : NoAttr K (a_Problem K) "scope_by_event" := He.noat_ok (x := "Problem") (f := "scope_by_event") (T.d.fact 82 rfl)
theorem Tx.na_Problem_tuples_by_event (T : Tx K mg h) : NoAttr K (a_Problem K) "tuples_by_event" := He.noat_ok (x := "Problem") (f := "tuples_by_event") (T.d.fact 83 rfl)
theorem Tx.g_Sampler (T : Tx K mg h) : ∃ u, mg "Sampler" = some u ∧ RelV (.ref (a_Sampler K)) u := ⟨_, He.glo_ok T.X T.G (x := "Sampler") (T.d.fact 84 rfl), rfl⟩
theorem Tx.m_Sampler (T : Tx K mg h) : mg "Sampler" = some (.ref (a_Sampler K)) := He.glo_ok T.X T.G (x := "Sampler") (T.d.fact 84 rfl)
theorem Tx.cl_Sampler (T : Tx K mg h) : Cls K (a_Sampler K) := He.cls_ok (x := "Sampler") (T.d.fact 85 rfl)
theorem Tx.mk_Sampler (T : Tx K mg h) : Mk K (a_Sampler K) (He.ma K (a_Sampler K) "__init__") := He.mkr_ok (x := "Sampler") (T.d.fact 86 rfl)
theorem Tx.me_Sampler_assignment (T : Tx K mg h) : Meth K (a_Sampler K) "assignment" (He.ma K (a_Sampler K) "assignment") := He.meth_ok (x := "Sampler") (m := "assignment") (T.d.fact 87 rfl)
theorem Tx.me_Sampler_occurring (T : Tx K mg h) : Meth K (a_Sampler K) "occurring" (He.ma K (a_Sampler K) "occurring") := He.meth_ok (x := "Sampler") (m := "occurring") (T.d.fact 88 rfl)
theorem Tx.me_Sampler_first_exhausted (T : Tx K mg h) : Meth K (a_Sampler K) "first_exhausted" (He.ma K (a_Sampler K) "first_exhausted") := He.meth_ok (x := "Sampler") (m := "first_exhausted") (T.d.fact 89 rfl)
theorem Tx.me_Sampler_ready (T : Tx K mg h) : Meth K (a_Sampler K) "ready" (He.ma K (a_Sampler K) "ready") := He.meth_ok (x := "Sampler") (m := "ready") (T.d.fact 90 rfl)
theorem Tx.me_Sampler_is_valid (T : Tx K mg h) : Meth K (a_Sampler K) "is_valid" (He.ma K (a_Sampler K) "is_valid") := He.meth_ok (x := "Sampler") (m := "is_valid") (T.d.fact 91 rfl)
theorem Tx.me_Sampler_check_idle (T : Tx K mg h) : Meth K (a_Sampler K) "check_idle" (He.ma K (a_Sampler K) "check_idle") := He.meth_ok (x := "Sampler") (m := "check_idle") (T.d.fact 92 rfl)
theorem Tx.me_Sampler_perform (T : Tx K mg h) : Meth K (a_Sampler K) "perform" (He.ma K (a_Sampler K) "perform") := He.meth_ok (x := "Sampler") (m := "perform") (T.d.fact 93 rfl)
theorem Tx.me_Sampler_history (T : Tx K mg h) : Meth K (a_Sampler K) "history" (He.ma K (a_Sampler K) "history") := He.meth_ok (x := "Sampler") (m := "history") (T.d.fact 94 rfl)
theorem Tx.na_Sampler_own_problem (T : Tx K mg h) : NoAttr K (a_Sampler K) "own_problem" := He.noat_ok (x := "Sampler") (f := "own_problem") (T.d.fact 95 rfl)
theorem Tx.na_Sampler_tape_table (T : Tx K mg h) : NoAttr K (a_Sampler K) "tape_table" := He.noat_ok (x := "Sampler") (f := "tape_table") (T.d.fact 96 rfl)
theorem Tx.na_Sampler_position_table (T : Tx K mg h) : NoAttr K (a_Sampler K) "position_table" := He.noat_ok (x := "Sampler") (f := "position_table") (T.d.fact 97 rfl)
theorem Tx.na_Sampler_step_list (T : Tx K mg h) : NoAttr K (a_Sampler K) "step_list" := He.noat_ok (x := "Sampler") (f := "step_list") (T.d.fact 98 rfl)
theorem Tx.na_Sampler_run_active (T : Tx K mg h) : NoAttr K (a_Sampler K) "run_active" := He.noat_ok (x := "Sampler") (f := "run_active") (T.d.fact 99 rfl)
theorem Tx.g_Heap (T : Tx K mg h) : ∃ u, mg "Heap" = some u ∧ RelV (.ref (a_Heap K)) u := ⟨_, He.glo_ok T.X T.G (x := "Heap") (T.d.fact 100 rfl), rfl⟩
theorem Tx.m_Heap (T : Tx K mg h) : mg "Heap" = some (.ref (a_Heap K)) := He.glo_ok T.X T.G (x := "Heap") (T.d.fact 100 rfl)
theorem Tx.cl_Heap (T : Tx K mg h) : Cls K (a_Heap K) := He.cls_ok (x := "Heap") (T.d.fact 101 rfl)
theorem Tx.mk_Heap (T : Tx K mg h) : Mk K (a_Heap K) (He.ma K (a_Heap K) "__init__") := He.mkr_ok (x := "Heap") (T.d.fact 102 rfl)
theorem Tx.me_Heap_problem (T : Tx K mg h) : Meth K (a_Heap K) "problem" (He.ma K (a_Heap K) "problem") := He.meth_ok (x := "Heap") (m := "problem") (T.d.fact 103 rfl)
theorem Tx.me_Heap_layers (T : Tx K mg h) : Meth K (a_Heap K) "layers" (He.ma K (a_Heap K) "layers") := He.meth_ok (x := "Heap") (m := "layers") (T.d.fact 104 rfl)
theorem Tx.me_Heap_pieces (T : Tx K mg h) : Meth K (a_Heap K) "pieces" (He.ma K (a_Heap K) "pieces") := He.meth_ok (x := "Heap") (m := "pieces") (T.d.fact 105 rfl)
theorem Tx.na_Heap_own_problem (T : Tx K mg h) : NoAttr K (a_Heap K) "own_problem" := He.noat_ok (x := "Heap") (f := "own_problem") (T.d.fact 106 rfl)
theorem Tx.na_Heap_own_layers (T : Tx K mg h) : NoAttr K (a_Heap K) "own_layers" := He.noat_ok (x := "Heap") (f := "own_layers") (T.d.fact 107 rfl)
theorem oc_get (K : PySem.W.Frag) : PySem.W.specialIn K (.builtin "object.__class__") "__get__" = some (some (.builtin "getset_descriptor.__get__")) := by kernel_rfl
theorem oc_takes (K : PySem.W.Frag) : PySem.W.takesIn K (.builtin "object.__class__") = some true := by kernel_rfl
theorem clsMore_ok {x : Str} (c : clsMore K x = true) (cl : Cls K (He.ga K x)) : C8.InsC K (He.ga K x) := by
  obtain ⟨c1, c⟩ := He.ba c
  obtain ⟨c2, c3⟩ := He.ba c
  exact ⟨cl, He.eqO_ok c1, oc_get K, oc_takes K, of_decide_eq_true c2, of_decide_eq_true c3⟩
theorem Tx.i_Ratio (T : Tx K mg h) : C8.InsC K (a_Ratio K) := clsMore_ok (x := "Ratio") (He.ba T.ex).1 T.cl_Ratio
theorem Tx.i_Problem (T : Tx K mg h) : C8.InsC K (a_Problem K) := clsMore_ok (x := "Problem") (He.ba (He.ba T.ex).2).1 T.cl_Problem
theorem Tx.i_Sampler (T : Tx K mg h) : C8.InsC K (a_Sampler K) := clsMore_ok (x := "Sampler") (He.ba (He.ba (He.ba T.ex).2).2).1 T.cl_Sampler
theorem Tx.i_Heap (T : Tx K mg h) : C8.InsC K (a_Heap K) := clsMore_ok (x := "Heap") (He.ba (He.ba (He.ba (He.ba T.ex).2).2).2).1 T.cl_Heap
theorem Tx.ne_Ratio (T : Tx K mg h) : PySem.W.findIn K (.ref (a_Ratio K)) "__ne__" = some (some (.builtin "object.__ne__")) := He.eqO_ok (He.ba (He.ba (He.ba (He.ba T.ex).2).2).2).2

theorem Tx.fd_need_integer (T : Tx K mg h) : ∃ fd, FunD K "need_integer" "need_integer" (defArgs s_need_integer) (defBody s_need_integer) (defScope s_need_integer) [] [] (He.ga K "need_integer") fd := T.d.def_ 0 (d := d_need_integer) rfl
theorem Tx.fd_greatest_divisor (T : Tx K mg h) : ∃ fd, FunD K "greatest_divisor" "greatest_divisor" (defArgs s_greatest_divisor) (defBody s_greatest_divisor) (defScope s_greatest_divisor) [] [] (He.ga K "greatest_divisor") fd := T.d.def_ 1 (d := d_greatest_divisor) rfl
theorem Tx.fd_Ratio_init (T : Tx K mg h) : ∃ fd, FunD K "__init__" "Ratio.__init__" (defArgs s_Ratio_init) (defBody s_Ratio_init) (defScope s_Ratio_init) [.int 1] [] (He.ma K (He.ga K "Ratio") "__init__") fd := T.d.def_ 2 (d := d_Ratio_init) rfl
theorem Tx.fd_Ratio_num (T : Tx K mg h) : ∃ fd, FunD K "num" "Ratio.num" (defArgs s_Ratio_num) (defBody s_Ratio_num) (defScope s_Ratio_num) [] [] (He.ma K (He.ga K "Ratio") "num") fd := T.d.def_ 3 (d := d_Ratio_num) rfl
theorem Tx.fd_Ratio_den (T : Tx K mg h) : ∃ fd, FunD K "den" "Ratio.den" (defArgs s_Ratio_den) (defBody s_Ratio_den) (defScope s_Ratio_den) [] [] (He.ma K (He.ga K "Ratio") "den") fd := T.d.def_ 4 (d := d_Ratio_den) rfl
theorem Tx.fd_Ratio_add (T : Tx K mg h) : ∃ fd, FunD K "add" "Ratio.add" (defArgs s_Ratio_add) (defBody s_Ratio_add) (defScope s_Ratio_add) [] [] (He.ma K (He.ga K "Ratio") "add") fd := T.d.def_ 5 (d := d_Ratio_add) rfl
theorem Tx.fd_Ratio_subtract (T : Tx K mg h) : ∃ fd, FunD K "subtract" "Ratio.subtract" (defArgs s_Ratio_subtract) (defBody s_Ratio_subtract) (defScope s_Ratio_subtract) [] [] (He.ma K (He.ga K "Ratio") "subtract") fd := T.d.def_ 6 (d := d_Ratio_subtract) rfl
theorem Tx.fd_Ratio_multiply (T : Tx K mg h) : ∃ fd, FunD K "multiply" "Ratio.multiply" (defArgs s_Ratio_multiply) (defBody s_Ratio_multiply) (defScope s_Ratio_multiply) [] [] (He.ma K (He.ga K "Ratio") "multiply") fd := T.d.def_ 7 (d := d_Ratio_multiply) rfl
theorem Tx.fd_Ratio_eq (T : Tx K mg h) : ∃ fd, FunD K "__eq__" "Ratio.__eq__" (defArgs s_Ratio_eq) (defBody s_Ratio_eq) (defScope s_Ratio_eq) [] [] (He.ma K (He.ga K "Ratio") "__eq__") fd := T.d.def_ 8 (d := d_Ratio_eq) rfl
theorem Tx.fd_need_ratio (T : Tx K mg h) : ∃ fd, FunD K "need_ratio" "need_ratio" (defArgs s_need_ratio) (defBody s_need_ratio) (defScope s_need_ratio) [] [] (He.ga K "need_ratio") fd := T.d.def_ 9 (d := d_need_ratio) rfl
theorem Tx.fd_need_ratios (T : Tx K mg h) : ∃ fd, FunD K "need_ratios" "need_ratios" (defArgs s_need_ratios) (defBody s_need_ratios) (defScope s_need_ratios) [] [] (He.ga K "need_ratios") fd := T.d.def_ 10 (d := d_need_ratios) rfl
theorem Tx.fd_ratio_sum (T : Tx K mg h) : ∃ fd, FunD K "ratio_sum" "ratio_sum" (defArgs s_ratio_sum) (defBody s_ratio_sum) (defScope s_ratio_sum) [] [("start", .non)] (He.ga K "ratio_sum") fd := T.d.def_ 11 (d := d_ratio_sum) rfl
theorem Tx.fd_ratio_product (T : Tx K mg h) : ∃ fd, FunD K "ratio_product" "ratio_product" (defArgs s_ratio_product) (defBody s_ratio_product) (defScope s_ratio_product) [] [] (He.ga K "ratio_product") fd := T.d.def_ 12 (d := d_ratio_product) rfl
theorem Tx.fd_is_list (T : Tx K mg h) : ∃ fd, FunD K "is_list" "is_list" (defArgs s_is_list) (defBody s_is_list) (defScope s_is_list) [] [] (He.ga K "is_list") fd := T.d.def_ 13 (d := d_is_list) rfl
theorem Tx.fd_is_name (T : Tx K mg h) : ∃ fd, FunD K "is_name" "is_name" (defArgs s_is_name) (defBody s_is_name) (defScope s_is_name) [] [] (He.ga K "is_name") fd := T.d.def_ 14 (d := d_is_name) rfl
theorem Tx.fd_is_integer (T : Tx K mg h) : ∃ fd, FunD K "is_integer" "is_integer" (defArgs s_is_integer) (defBody s_is_integer) (defScope s_is_integer) [] [] (He.ga K "is_integer") fd := T.d.def_ 15 (d := d_is_integer) rfl
theorem Tx.fd_is_variable_row (T : Tx K mg h) : ∃ fd, FunD K "is_variable_row" "is_variable_row" (defArgs s_is_variable_row) (defBody s_is_variable_row) (defScope s_is_variable_row) [] [] (He.ga K "is_variable_row") fd := T.d.def_ 16 (d := d_is_variable_row) rfl
theorem Tx.fd_is_event_row (T : Tx K mg h) : ∃ fd, FunD K "is_event_row" "is_event_row" (defArgs s_is_event_row) (defBody s_is_event_row) (defScope s_is_event_row) [] [] (He.ga K "is_event_row") fd := T.d.def_ 17 (d := d_is_event_row) rfl
theorem Tx.fd_check_distinct (T : Tx K mg h) : ∃ fd, FunD K "check_distinct" "check_distinct" (defArgs s_check_distinct) (defBody s_check_distinct) (defScope s_check_distinct) [] [] (He.ga K "check_distinct") fd := T.d.def_ 18 (d := d_check_distinct) rfl
theorem Tx.fd_check_variables (T : Tx K mg h) : ∃ fd, FunD K "check_variables" "check_variables" (defArgs s_check_variables) (defBody s_check_variables) (defScope s_check_variables) [] [] (He.ga K "check_variables") fd := T.d.def_ 19 (d := d_check_variables) rfl
theorem Tx.fd_check_scope (T : Tx K mg h) : ∃ fd, FunD K "check_scope" "check_scope" (defArgs s_check_scope) (defBody s_check_scope) (defScope s_check_scope) [] [] (He.ga K "check_scope") fd := T.d.def_ 20 (d := d_check_scope) rfl
theorem Tx.fd_are_bad_tuples (T : Tx K mg h) : ∃ fd, FunD K "are_bad_tuples" "are_bad_tuples" (defArgs s_are_bad_tuples) (defBody s_are_bad_tuples) (defScope s_are_bad_tuples) [] [] (He.ga K "are_bad_tuples") fd := T.d.def_ 21 (d := d_are_bad_tuples) rfl
theorem Tx.fd_check_events (T : Tx K mg h) : ∃ fd, FunD K "check_events" "check_events" (defArgs s_check_events) (defBody s_check_events) (defScope s_check_events) [] [] (He.ga K "check_events") fd := T.d.def_ 22 (d := d_check_events) rfl
theorem Tx.fd_Problem_init (T : Tx K mg h) : ∃ fd, FunD K "__init__" "Problem.__init__" (defArgs s_Problem_init) (defBody s_Problem_init) (defScope s_Problem_init) [.ref (He.dflAt ("Problem", some "__init__") 0 K)] [] (He.ma K (He.ga K "Problem") "__init__") fd := T.d.def_ 23 (d := d_Problem_init) rfl
theorem Tx.fd_Problem_check_event (T : Tx K mg h) : ∃ fd, FunD K "check_event" "Problem.check_event" (defArgs s_Problem_check_event) (defBody s_Problem_check_event) (defScope s_Problem_check_event) [] [] (He.ma K (He.ga K "Problem") "check_event") fd := T.d.def_ 24 (d := d_Problem_check_event) rfl
theorem Tx.fd_Problem_check_assignment (T : Tx K mg h) : ∃ fd, FunD K "check_assignment" "Problem.check_assignment" (defArgs s_Problem_check_assignment) (defBody s_Problem_check_assignment) (defScope s_Problem_check_assignment) [] [] (He.ma K (He.ga K "Problem") "check_assignment") fd := T.d.def_ 25 (d := d_Problem_check_assignment) rfl
theorem Tx.fd_Problem_variables (T : Tx K mg h) : ∃ fd, FunD K "variables" "Problem.variables" (defArgs s_Problem_variables) (defBody s_Problem_variables) (defScope s_Problem_variables) [] [] (He.ma K (He.ga K "Problem") "variables") fd := T.d.def_ 26 (d := d_Problem_variables) rfl
theorem Tx.fd_Problem_events (T : Tx K mg h) : ∃ fd, FunD K "events" "Problem.events" (defArgs s_Problem_events) (defBody s_Problem_events) (defScope s_Problem_events) [] [] (He.ma K (He.ga K "Problem") "events") fd := T.d.def_ 27 (d := d_Problem_events) rfl
theorem Tx.fd_Problem_size (T : Tx K mg h) : ∃ fd, FunD K "size" "Problem.size" (defArgs s_Problem_size) (defBody s_Problem_size) (defScope s_Problem_size) [] [] (He.ma K (He.ga K "Problem") "size") fd := T.d.def_ 28 (d := d_Problem_size) rfl
theorem Tx.fd_Problem_scope (T : Tx K mg h) : ∃ fd, FunD K "scope" "Problem.scope" (defArgs s_Problem_scope) (defBody s_Problem_scope) (defScope s_Problem_scope) [] [] (He.ma K (He.ga K "Problem") "scope") fd := T.d.def_ 29 (d := d_Problem_scope) rfl
theorem Tx.fd_Problem_bad_tuples (T : Tx K mg h) : ∃ fd, FunD K "bad_tuples" "Problem.bad_tuples" (defArgs s_Problem_bad_tuples) (defBody s_Problem_bad_tuples) (defScope s_Problem_bad_tuples) [] [] (He.ma K (He.ga K "Problem") "bad_tuples") fd := T.d.def_ 30 (d := d_Problem_bad_tuples) rfl
theorem Tx.fd_Problem_are_adjacent (T : Tx K mg h) : ∃ fd, FunD K "are_adjacent" "Problem.are_adjacent" (defArgs s_Problem_are_adjacent) (defBody s_Problem_are_adjacent) (defScope s_Problem_are_adjacent) [] [] (He.ma K (He.ga K "Problem") "are_adjacent") fd := T.d.def_ 31 (d := d_Problem_are_adjacent) rfl
theorem Tx.fd_Problem_neighbors (T : Tx K mg h) : ∃ fd, FunD K "neighbors" "Problem.neighbors" (defArgs s_Problem_neighbors) (defBody s_Problem_neighbors) (defScope s_Problem_neighbors) [] [] (He.ma K (He.ga K "Problem") "neighbors") fd := T.d.def_ 32 (d := d_Problem_neighbors) rfl
theorem Tx.fd_Problem_is_assignment (T : Tx K mg h) : ∃ fd, FunD K "is_assignment" "Problem.is_assignment" (defArgs s_Problem_is_assignment) (defBody s_Problem_is_assignment) (defScope s_Problem_is_assignment) [] [] (He.ma K (He.ga K "Problem") "is_assignment") fd := T.d.def_ 33 (d := d_Problem_is_assignment) rfl
theorem Tx.fd_Problem_values_in_scope (T : Tx K mg h) : ∃ fd, FunD K "values_in_scope" "Problem.values_in_scope" (defArgs s_Problem_values_in_scope) (defBody s_Problem_values_in_scope) (defScope s_Problem_values_in_scope) [] [] (He.ma K (He.ga K "Problem") "values_in_scope") fd := T.d.def_ 34 (d := d_Problem_values_in_scope) rfl
theorem Tx.fd_Problem_occurs (T : Tx K mg h) : ∃ fd, FunD K "occurs" "Problem.occurs" (defArgs s_Problem_occurs) (defBody s_Problem_occurs) (defScope s_Problem_occurs) [] [] (He.ma K (He.ga K "Problem") "occurs") fd := T.d.def_ 35 (d := d_Problem_occurs) rfl
theorem Tx.fd_Problem_occurring (T : Tx K mg h) : ∃ fd, FunD K "occurring" "Problem.occurring" (defArgs s_Problem_occurring) (defBody s_Problem_occurring) (defScope s_Problem_occurring) [] [] (He.ma K (He.ga K "Problem") "occurring") fd := T.d.def_ 36 (d := d_Problem_occurring) rfl
theorem Tx.fd_Problem_tuple_count (T : Tx K mg h) : ∃ fd, FunD K "tuple_count" "Problem.tuple_count" (defArgs s_Problem_tuple_count) (defBody s_Problem_tuple_count) (defScope s_Problem_tuple_count) [] [] (He.ma K (He.ga K "Problem") "tuple_count") fd := T.d.def_ 37 (d := d_Problem_tuple_count) rfl
theorem Tx.fd_Problem_probability (T : Tx K mg h) : ∃ fd, FunD K "probability" "Problem.probability" (defArgs s_Problem_probability) (defBody s_Problem_probability) (defScope s_Problem_probability) [] [] (He.ma K (He.ga K "Problem") "probability") fd := T.d.def_ 38 (d := d_Problem_probability) rfl
theorem Tx.fd_check_problem (T : Tx K mg h) : ∃ fd, FunD K "check_problem" "check_problem" (defArgs s_check_problem) (defBody s_check_problem) (defScope s_check_problem) [] [] (He.ga K "check_problem") fd := T.d.def_ 39 (d := d_check_problem) rfl
theorem Tx.fd_common_assignment (T : Tx K mg h) : ∃ fd, FunD K "common_assignment" "common_assignment" (defArgs s_common_assignment) (defBody s_common_assignment) (defScope s_common_assignment) [] [] (He.ga K "common_assignment") fd := T.d.def_ 40 (d := d_common_assignment) rfl
theorem Tx.fd_find_overlap (T : Tx K mg h) : ∃ fd, FunD K "find_overlap" "find_overlap" (defArgs s_find_overlap) (defBody s_find_overlap) (defScope s_find_overlap) [] [] (He.ga K "find_overlap") fd := T.d.def_ 41 (d := d_find_overlap) rfl
theorem Tx.fd_is_exclusive (T : Tx K mg h) : ∃ fd, FunD K "is_exclusive" "is_exclusive" (defArgs s_is_exclusive) (defBody s_is_exclusive) (defScope s_is_exclusive) [] [] (He.ga K "is_exclusive") fd := T.d.def_ 42 (d := d_is_exclusive) rfl
theorem Tx.fd_shows_overlap (T : Tx K mg h) : ∃ fd, FunD K "shows_overlap" "shows_overlap" (defArgs s_shows_overlap) (defBody s_shows_overlap) (defScope s_shows_overlap) [] [] (He.ga K "shows_overlap") fd := T.d.def_ 43 (d := d_shows_overlap) rfl
theorem Tx.fd_is_value_list (T : Tx K mg h) : ∃ fd, FunD K "is_value_list" "is_value_list" (defArgs s_is_value_list) (defBody s_is_value_list) (defScope s_is_value_list) [] [("least", .int 1)] (He.ga K "is_value_list") fd := T.d.def_ 44 (d := d_is_value_list) rfl
theorem Tx.fd_check_tapes (T : Tx K mg h) : ∃ fd, FunD K "check_tapes" "check_tapes" (defArgs s_check_tapes) (defBody s_check_tapes) (defScope s_check_tapes) [] [] (He.ga K "check_tapes") fd := T.d.def_ 45 (d := d_check_tapes) rfl
theorem Tx.fd_Sampler_init (T : Tx K mg h) : ∃ fd, FunD K "__init__" "Sampler.__init__" (defArgs s_Sampler_init) (defBody s_Sampler_init) (defScope s_Sampler_init) [] [] (He.ma K (He.ga K "Sampler") "__init__") fd := T.d.def_ 46 (d := d_Sampler_init) rfl
theorem Tx.fd_Sampler_assignment (T : Tx K mg h) : ∃ fd, FunD K "assignment" "Sampler.assignment" (defArgs s_Sampler_assignment) (defBody s_Sampler_assignment) (defScope s_Sampler_assignment) [] [] (He.ma K (He.ga K "Sampler") "assignment") fd := T.d.def_ 47 (d := d_Sampler_assignment) rfl
theorem Tx.fd_Sampler_occurring (T : Tx K mg h) : ∃ fd, FunD K "occurring" "Sampler.occurring" (defArgs s_Sampler_occurring) (defBody s_Sampler_occurring) (defScope s_Sampler_occurring) [] [] (He.ma K (He.ga K "Sampler") "occurring") fd := T.d.def_ 48 (d := d_Sampler_occurring) rfl
theorem Tx.fd_Sampler_first_exhausted (T : Tx K mg h) : ∃ fd, FunD K "first_exhausted" "Sampler.first_exhausted" (defArgs s_Sampler_first_exhausted) (defBody s_Sampler_first_exhausted) (defScope s_Sampler_first_exhausted) [] [] (He.ma K (He.ga K "Sampler") "first_exhausted") fd := T.d.def_ 49 (d := d_Sampler_first_exhausted) rfl
theorem Tx.fd_Sampler_ready (T : Tx K mg h) : ∃ fd, FunD K "ready" "Sampler.ready" (defArgs s_Sampler_ready) (defBody s_Sampler_ready) (defScope s_Sampler_ready) [] [] (He.ma K (He.ga K "Sampler") "ready") fd := T.d.def_ 50 (d := d_Sampler_ready) rfl
theorem Tx.fd_Sampler_is_valid (T : Tx K mg h) : ∃ fd, FunD K "is_valid" "Sampler.is_valid" (defArgs s_Sampler_is_valid) (defBody s_Sampler_is_valid) (defScope s_Sampler_is_valid) [] [] (He.ma K (He.ga K "Sampler") "is_valid") fd := T.d.def_ 51 (d := d_Sampler_is_valid) rfl
theorem Tx.fd_Sampler_check_idle (T : Tx K mg h) : ∃ fd, FunD K "check_idle" "Sampler.check_idle" (defArgs s_Sampler_check_idle) (defBody s_Sampler_check_idle) (defScope s_Sampler_check_idle) [] [] (He.ma K (He.ga K "Sampler") "check_idle") fd := T.d.def_ 52 (d := d_Sampler_check_idle) rfl
theorem Tx.fd_Sampler_perform (T : Tx K mg h) : ∃ fd, FunD K "perform" "Sampler.perform" (defArgs s_Sampler_perform) (defBody s_Sampler_perform) (defScope s_Sampler_perform) [] [] (He.ma K (He.ga K "Sampler") "perform") fd := T.d.def_ 53 (d := d_Sampler_perform) rfl
theorem Tx.fd_Sampler_history (T : Tx K mg h) : ∃ fd, FunD K "history" "Sampler.history" (defArgs s_Sampler_history) (defBody s_Sampler_history) (defScope s_Sampler_history) [] [] (He.ma K (He.ga K "Sampler") "history") fd := T.d.def_ 54 (d := d_Sampler_history) rfl
theorem Tx.fd_chosen_event (T : Tx K mg h) : ∃ fd, FunD K "chosen_event" "chosen_event" (defArgs s_chosen_event) (defBody s_chosen_event) (defScope s_chosen_event) [] [] (He.ga K "chosen_event") fd := T.d.def_ 55 (d := d_chosen_event) rfl
theorem Tx.fd_run_sampler (T : Tx K mg h) : ∃ fd, FunD K "run_sampler" "run_sampler" (defArgs s_run_sampler) (defBody s_run_sampler) (defScope s_run_sampler) [.non] [("max_steps", .int 240)] (He.ga K "run_sampler") fd := T.d.def_ 56 (d := d_run_sampler) rfl
theorem Tx.fd_choose_last (T : Tx K mg h) : ∃ fd, FunD K "choose_last" "choose_last" (defArgs s_choose_last) (defBody s_choose_last) (defScope s_choose_last) [] [] (He.ga K "choose_last") fd := T.d.def_ 57 (d := d_choose_last) rfl
theorem Tx.fd_is_piece (T : Tx K mg h) : ∃ fd, FunD K "is_piece" "is_piece" (defArgs s_is_piece) (defBody s_is_piece) (defScope s_is_piece) [] [] (He.ga K "is_piece") fd := T.d.def_ 58 (d := d_is_piece) rfl
theorem Tx.fd_check_pieces (T : Tx K mg h) : ∃ fd, FunD K "check_pieces" "check_pieces" (defArgs s_check_pieces) (defBody s_check_pieces) (defScope s_check_pieces) [] [] (He.ga K "check_pieces") fd := T.d.def_ 59 (d := d_check_pieces) rfl
theorem Tx.fd_layers_of (T : Tx K mg h) : ∃ fd, FunD K "layers_of" "layers_of" (defArgs s_layers_of) (defBody s_layers_of) (defScope s_layers_of) [] [] (He.ga K "layers_of") fd := T.d.def_ 60 (d := d_layers_of) rfl
theorem Tx.fd_Heap_init (T : Tx K mg h) : ∃ fd, FunD K "__init__" "Heap.__init__" (defArgs s_Heap_init) (defBody s_Heap_init) (defScope s_Heap_init) [.ref (He.dflAt ("Heap", some "__init__") 0 K)] [] (He.ma K (He.ga K "Heap") "__init__") fd := T.d.def_ 61 (d := d_Heap_init) rfl
theorem Tx.fd_Heap_problem (T : Tx K mg h) : ∃ fd, FunD K "problem" "Heap.problem" (defArgs s_Heap_problem) (defBody s_Heap_problem) (defScope s_Heap_problem) [] [] (He.ma K (He.ga K "Heap") "problem") fd := T.d.def_ 62 (d := d_Heap_problem) rfl
theorem Tx.fd_Heap_layers (T : Tx K mg h) : ∃ fd, FunD K "layers" "Heap.layers" (defArgs s_Heap_layers) (defBody s_Heap_layers) (defScope s_Heap_layers) [] [] (He.ma K (He.ga K "Heap") "layers") fd := T.d.def_ 63 (d := d_Heap_layers) rfl
theorem Tx.fd_Heap_pieces (T : Tx K mg h) : ∃ fd, FunD K "pieces" "Heap.pieces" (defArgs s_Heap_pieces) (defBody s_Heap_pieces) (defScope s_Heap_pieces) [] [] (He.ma K (He.ga K "Heap") "pieces") fd := T.d.def_ 64 (d := d_Heap_pieces) rfl
theorem Tx.fd_need_problem (T : Tx K mg h) : ∃ fd, FunD K "need_problem" "need_problem" (defArgs s_need_problem) (defBody s_need_problem) (defScope s_need_problem) [] [] (He.ga K "need_problem") fd := T.d.def_ 65 (d := d_need_problem) rfl
theorem Tx.fd_need_size (T : Tx K mg h) : ∃ fd, FunD K "need_size" "need_size" (defArgs s_need_size) (defBody s_need_size) (defScope s_need_size) [] [] (He.ga K "need_size") fd := T.d.def_ 66 (d := d_need_size) rfl
theorem Tx.fd_independent_tuples (T : Tx K mg h) : ∃ fd, FunD K "independent_tuples" "independent_tuples" (defArgs s_independent_tuples) (defBody s_independent_tuples) (defScope s_independent_tuples) [] [] (He.ga K "independent_tuples") fd := T.d.def_ 67 (d := d_independent_tuples) rfl
theorem Tx.fd_independent_sets (T : Tx K mg h) : ∃ fd, FunD K "independent_sets" "independent_sets" (defArgs s_independent_sets) (defBody s_independent_sets) (defScope s_independent_sets) [] [] (He.ga K "independent_sets") fd := T.d.def_ 68 (d := d_independent_sets) rfl
theorem Tx.fd_event_sign (T : Tx K mg h) : ∃ fd, FunD K "event_sign" "event_sign" (defArgs s_event_sign) (defBody s_event_sign) (defScope s_event_sign) [] [] (He.ga K "event_sign") fd := T.d.def_ 69 (d := d_event_sign) rfl
theorem Tx.fd_signed_counts (T : Tx K mg h) : ∃ fd, FunD K "signed_counts" "signed_counts" (defArgs s_signed_counts) (defBody s_signed_counts) (defScope s_signed_counts) [] [] (He.ga K "signed_counts") fd := T.d.def_ 70 (d := d_signed_counts) rfl
theorem Tx.fd_heap_counts (T : Tx K mg h) : ∃ fd, FunD K "heap_counts" "heap_counts" (defArgs s_heap_counts) (defBody s_heap_counts) (defScope s_heap_counts) [] [("up_to", .int 12)] (He.ga K "heap_counts") fd := T.d.def_ 71 (d := d_heap_counts) rfl
theorem Tx.fd_scope_count (T : Tx K mg h) : ∃ fd, FunD K "scope_count" "scope_count" (defArgs s_scope_count) (defBody s_scope_count) (defScope s_scope_count) [] [] (He.ga K "scope_count") fd := T.d.def_ 72 (d := d_scope_count) rfl
theorem Tx.fd_heap_weight (T : Tx K mg h) : ∃ fd, FunD K "heap_weight" "heap_weight" (defArgs s_heap_weight) (defBody s_heap_weight) (defScope s_heap_weight) [] [] (He.ga K "heap_weight") fd := T.d.def_ 73 (d := d_heap_weight) rfl
theorem Tx.fd_signed_probability (T : Tx K mg h) : ∃ fd, FunD K "signed_probability" "signed_probability" (defArgs s_signed_probability) (defBody s_signed_probability) (defScope s_signed_probability) [] [] (He.ga K "signed_probability") fd := T.d.def_ 74 (d := d_signed_probability) rfl
theorem Tx.fd_weights_by_size (T : Tx K mg h) : ∃ fd, FunD K "weights_by_size" "weights_by_size" (defArgs s_weights_by_size) (defBody s_weights_by_size) (defScope s_weights_by_size) [] [("up_to", .int 12)] (He.ga K "weights_by_size") fd := T.d.def_ 75 (d := d_weights_by_size) rfl
theorem Tx.fd__law_cell (T : Tx K mg h) : ∃ fd, FunD K "_law_cell" "_law_cell" (defArgs s__law_cell) (defBody s__law_cell) (defScope s__law_cell) [] [] (He.ga K "_law_cell") fd := T.d.def_ 76 (d := d__law_cell) rfl
theorem Tx.fd__law_box (T : Tx K mg h) : ∃ fd, FunD K "_law_box" "_law_box" (defArgs s__law_box) (defBody s__law_box) (defScope s__law_box) [] [] (He.ga K "_law_box") fd := T.d.def_ 77 (d := d__law_box) rfl
theorem Tx.fd__law_take (T : Tx K mg h) : ∃ fd, FunD K "_law_take" "_law_take" (defArgs s__law_take) (defBody s__law_take) (defScope s__law_take) [] [] (He.ga K "_law_take") fd := T.d.def_ 78 (d := d__law_take) rfl
theorem Tx.fd__law_names (T : Tx K mg h) : ∃ fd, FunD K "_law_names" "_law_names" (defArgs s__law_names) (defBody s__law_names) (defScope s__law_names) [] [] (He.ga K "_law_names") fd := T.d.def_ 79 (d := d__law_names) rfl
theorem Tx.fd__law_data (T : Tx K mg h) : ∃ fd, FunD K "_law_data" "_law_data" (defArgs s__law_data) (defBody s__law_data) (defScope s__law_data) [] [] (He.ga K "_law_data") fd := T.d.def_ 80 (d := d__law_data) rfl
theorem Tx.fd__law_exchange (T : Tx K mg h) : ∃ fd, FunD K "_law_exchange" "_law_exchange" (defArgs s__law_exchange) (defBody s__law_exchange) (defScope s__law_exchange) [] [] (He.ga K "_law_exchange") fd := T.d.def_ 81 (d := d__law_exchange) rfl
theorem Tx.fd__law_moved (T : Tx K mg h) : ∃ fd, FunD K "_law_moved" "_law_moved" (defArgs s__law_moved) (defBody s__law_moved) (defScope s__law_moved) [] [] (He.ga K "_law_moved") fd := T.d.def_ 82 (d := d__law_moved) rfl
theorem Tx.fd__law_pieces (T : Tx K mg h) : ∃ fd, FunD K "_law_pieces" "_law_pieces" (defArgs s__law_pieces) (defBody s__law_pieces) (defScope s__law_pieces) [] [] (He.ga K "_law_pieces") fd := T.d.def_ 83 (d := d__law_pieces) rfl
theorem Tx.fd__law_heaps_right (T : Tx K mg h) : ∃ fd, FunD K "_law_heaps_right" "_law_heaps_right" (defArgs s__law_heaps_right) (defBody s__law_heaps_right) (defScope s__law_heaps_right) [] [] (He.ga K "_law_heaps_right") fd := T.d.def_ 84 (d := d__law_heaps_right) rfl
theorem Tx.fd__law_runs_right (T : Tx K mg h) : ∃ fd, FunD K "_law_runs_right" "_law_runs_right" (defArgs s__law_runs_right) (defBody s__law_runs_right) (defScope s__law_runs_right) [] [] (He.ga K "_law_runs_right") fd := T.d.def_ 85 (d := d__law_runs_right) rfl
theorem Tx.fd__law_overlap_right (T : Tx K mg h) : ∃ fd, FunD K "_law_overlap_right" "_law_overlap_right" (defArgs s__law_overlap_right) (defBody s__law_overlap_right) (defScope s__law_overlap_right) [] [] (He.ga K "_law_overlap_right") fd := T.d.def_ 86 (d := d__law_overlap_right) rfl
theorem Tx.fd_law (T : Tx K mg h) : ∃ fd, FunD K "law" "law" (defArgs s_law) (defBody s_law) (defScope s_law) [] [] (He.ga K "law") fd := T.d.def_ 87 (d := d_law) rfl
theorem Tx.gl_need_integer (T : Tx K mg h) : mg "need_integer" = some (.ref (He.ga K "need_integer")) := He.glo_ok T.X T.G (x := "need_integer") (T.d.fact 0 rfl)
theorem Tx.gl_greatest_divisor (T : Tx K mg h) : mg "greatest_divisor" = some (.ref (He.ga K "greatest_divisor")) := He.glo_ok T.X T.G (x := "greatest_divisor") (T.d.fact 1 rfl)
theorem Tx.gl_need_ratio (T : Tx K mg h) : mg "need_ratio" = some (.ref (He.ga K "need_ratio")) := He.glo_ok T.X T.G (x := "need_ratio") (T.d.fact 2 rfl)
theorem Tx.gl_need_ratios (T : Tx K mg h) : mg "need_ratios" = some (.ref (He.ga K "need_ratios")) := He.glo_ok T.X T.G (x := "need_ratios") (T.d.fact 3 rfl)
theorem Tx.gl_ratio_sum (T : Tx K mg h) : mg "ratio_sum" = some (.ref (He.ga K "ratio_sum")) := He.glo_ok T.X T.G (x := "ratio_sum") (T.d.fact 4 rfl)
theorem Tx.gl_ratio_product (T : Tx K mg h) : mg "ratio_product" = some (.ref (He.ga K "ratio_product")) := He.glo_ok T.X T.G (x := "ratio_product") (T.d.fact 5 rfl)
theorem Tx.gl_is_list (T : Tx K mg h) : mg "is_list" = some (.ref (He.ga K "is_list")) := He.glo_ok T.X T.G (x := "is_list") (T.d.fact 6 rfl)
theorem Tx.gl_is_name (T : Tx K mg h) : mg "is_name" = some (.ref (He.ga K "is_name")) := He.glo_ok T.X T.G (x := "is_name") (T.d.fact 7 rfl)
theorem Tx.gl_is_integer (T : Tx K mg h) : mg "is_integer" = some (.ref (He.ga K "is_integer")) := He.glo_ok T.X T.G (x := "is_integer") (T.d.fact 8 rfl)
theorem Tx.gl_is_variable_row (T : Tx K mg h) : mg "is_variable_row" = some (.ref (He.ga K "is_variable_row")) := He.glo_ok T.X T.G (x := "is_variable_row") (T.d.fact 9 rfl)
theorem Tx.gl_is_event_row (T : Tx K mg h) : mg "is_event_row" = some (.ref (He.ga K "is_event_row")) := He.glo_ok T.X T.G (x := "is_event_row") (T.d.fact 10 rfl)
theorem Tx.gl_check_distinct (T : Tx K mg h) : mg "check_distinct" = some (.ref (He.ga K "check_distinct")) := He.glo_ok T.X T.G (x := "check_distinct") (T.d.fact 11 rfl)
theorem Tx.gl_check_variables (T : Tx K mg h) : mg "check_variables" = some (.ref (He.ga K "check_variables")) := He.glo_ok T.X T.G (x := "check_variables") (T.d.fact 12 rfl)
theorem Tx.gl_check_scope (T : Tx K mg h) : mg "check_scope" = some (.ref (He.ga K "check_scope")) := He.glo_ok T.X T.G (x := "check_scope") (T.d.fact 13 rfl)
theorem Tx.gl_are_bad_tuples (T : Tx K mg h) : mg "are_bad_tuples" = some (.ref (He.ga K "are_bad_tuples")) := He.glo_ok T.X T.G (x := "are_bad_tuples") (T.d.fact 14 rfl)
theorem Tx.gl_check_events (T : Tx K mg h) : mg "check_events" = some (.ref (He.ga K "check_events")) := He.glo_ok T.X T.G (x := "check_events") (T.d.fact 15 rfl)
theorem Tx.gl_check_problem (T : Tx K mg h) : mg "check_problem" = some (.ref (He.ga K "check_problem")) := He.glo_ok T.X T.G (x := "check_problem") (T.d.fact 16 rfl)
theorem Tx.gl_common_assignment (T : Tx K mg h) : mg "common_assignment" = some (.ref (He.ga K "common_assignment")) := He.glo_ok T.X T.G (x := "common_assignment") (T.d.fact 17 rfl)
theorem Tx.gl_find_overlap (T : Tx K mg h) : mg "find_overlap" = some (.ref (He.ga K "find_overlap")) := He.glo_ok T.X T.G (x := "find_overlap") (T.d.fact 18 rfl)
theorem Tx.gl_is_exclusive (T : Tx K mg h) : mg "is_exclusive" = some (.ref (He.ga K "is_exclusive")) := He.glo_ok T.X T.G (x := "is_exclusive") (T.d.fact 19 rfl)
theorem Tx.gl_shows_overlap (T : Tx K mg h) : mg "shows_overlap" = some (.ref (He.ga K "shows_overlap")) := He.glo_ok T.X T.G (x := "shows_overlap") (T.d.fact 20 rfl)
theorem Tx.gl_is_value_list (T : Tx K mg h) : mg "is_value_list" = some (.ref (He.ga K "is_value_list")) := He.glo_ok T.X T.G (x := "is_value_list") (T.d.fact 21 rfl)
theorem Tx.gl_check_tapes (T : Tx K mg h) : mg "check_tapes" = some (.ref (He.ga K "check_tapes")) := He.glo_ok T.X T.G (x := "check_tapes") (T.d.fact 22 rfl)
theorem Tx.gl_chosen_event (T : Tx K mg h) : mg "chosen_event" = some (.ref (He.ga K "chosen_event")) := He.glo_ok T.X T.G (x := "chosen_event") (T.d.fact 23 rfl)
theorem Tx.gl_run_sampler (T : Tx K mg h) : mg "run_sampler" = some (.ref (He.ga K "run_sampler")) := He.glo_ok T.X T.G (x := "run_sampler") (T.d.fact 24 rfl)
theorem Tx.gl_choose_last (T : Tx K mg h) : mg "choose_last" = some (.ref (He.ga K "choose_last")) := He.glo_ok T.X T.G (x := "choose_last") (T.d.fact 25 rfl)
theorem Tx.gl_is_piece (T : Tx K mg h) : mg "is_piece" = some (.ref (He.ga K "is_piece")) := He.glo_ok T.X T.G (x := "is_piece") (T.d.fact 26 rfl)
theorem Tx.gl_check_pieces (T : Tx K mg h) : mg "check_pieces" = some (.ref (He.ga K "check_pieces")) := He.glo_ok T.X T.G (x := "check_pieces") (T.d.fact 27 rfl)
theorem Tx.gl_layers_of (T : Tx K mg h) : mg "layers_of" = some (.ref (He.ga K "layers_of")) := He.glo_ok T.X T.G (x := "layers_of") (T.d.fact 28 rfl)
theorem Tx.gl_need_problem (T : Tx K mg h) : mg "need_problem" = some (.ref (He.ga K "need_problem")) := He.glo_ok T.X T.G (x := "need_problem") (T.d.fact 29 rfl)
theorem Tx.gl_need_size (T : Tx K mg h) : mg "need_size" = some (.ref (He.ga K "need_size")) := He.glo_ok T.X T.G (x := "need_size") (T.d.fact 30 rfl)
theorem Tx.gl_independent_tuples (T : Tx K mg h) : mg "independent_tuples" = some (.ref (He.ga K "independent_tuples")) := He.glo_ok T.X T.G (x := "independent_tuples") (T.d.fact 31 rfl)
theorem Tx.gl_independent_sets (T : Tx K mg h) : mg "independent_sets" = some (.ref (He.ga K "independent_sets")) := He.glo_ok T.X T.G (x := "independent_sets") (T.d.fact 32 rfl)
theorem Tx.gl_event_sign (T : Tx K mg h) : mg "event_sign" = some (.ref (He.ga K "event_sign")) := He.glo_ok T.X T.G (x := "event_sign") (T.d.fact 33 rfl)
theorem Tx.gl_signed_counts (T : Tx K mg h) : mg "signed_counts" = some (.ref (He.ga K "signed_counts")) := He.glo_ok T.X T.G (x := "signed_counts") (T.d.fact 34 rfl)
theorem Tx.gl_heap_counts (T : Tx K mg h) : mg "heap_counts" = some (.ref (He.ga K "heap_counts")) := He.glo_ok T.X T.G (x := "heap_counts") (T.d.fact 35 rfl)
theorem Tx.gl_scope_count (T : Tx K mg h) : mg "scope_count" = some (.ref (He.ga K "scope_count")) := He.glo_ok T.X T.G (x := "scope_count") (T.d.fact 36 rfl)
theorem Tx.gl_heap_weight (T : Tx K mg h) : mg "heap_weight" = some (.ref (He.ga K "heap_weight")) := He.glo_ok T.X T.G (x := "heap_weight") (T.d.fact 37 rfl)
theorem Tx.gl_signed_probability (T : Tx K mg h) : mg "signed_probability" = some (.ref (He.ga K "signed_probability")) := He.glo_ok T.X T.G (x := "signed_probability") (T.d.fact 38 rfl)
theorem Tx.gl_weights_by_size (T : Tx K mg h) : mg "weights_by_size" = some (.ref (He.ga K "weights_by_size")) := He.glo_ok T.X T.G (x := "weights_by_size") (T.d.fact 39 rfl)
theorem Tx.gl__law_cell (T : Tx K mg h) : mg "_law_cell" = some (.ref (He.ga K "_law_cell")) := He.glo_ok T.X T.G (x := "_law_cell") (T.d.fact 40 rfl)
theorem Tx.gl__law_box (T : Tx K mg h) : mg "_law_box" = some (.ref (He.ga K "_law_box")) := He.glo_ok T.X T.G (x := "_law_box") (T.d.fact 41 rfl)
theorem Tx.gl__law_take (T : Tx K mg h) : mg "_law_take" = some (.ref (He.ga K "_law_take")) := He.glo_ok T.X T.G (x := "_law_take") (T.d.fact 42 rfl)
theorem Tx.gl__law_names (T : Tx K mg h) : mg "_law_names" = some (.ref (He.ga K "_law_names")) := He.glo_ok T.X T.G (x := "_law_names") (T.d.fact 43 rfl)
theorem Tx.gl__law_data (T : Tx K mg h) : mg "_law_data" = some (.ref (He.ga K "_law_data")) := He.glo_ok T.X T.G (x := "_law_data") (T.d.fact 44 rfl)
theorem Tx.gl__law_exchange (T : Tx K mg h) : mg "_law_exchange" = some (.ref (He.ga K "_law_exchange")) := He.glo_ok T.X T.G (x := "_law_exchange") (T.d.fact 45 rfl)
theorem Tx.gl__law_moved (T : Tx K mg h) : mg "_law_moved" = some (.ref (He.ga K "_law_moved")) := He.glo_ok T.X T.G (x := "_law_moved") (T.d.fact 46 rfl)
theorem Tx.gl__law_pieces (T : Tx K mg h) : mg "_law_pieces" = some (.ref (He.ga K "_law_pieces")) := He.glo_ok T.X T.G (x := "_law_pieces") (T.d.fact 47 rfl)
theorem Tx.gl__law_heaps_right (T : Tx K mg h) : mg "_law_heaps_right" = some (.ref (He.ga K "_law_heaps_right")) := He.glo_ok T.X T.G (x := "_law_heaps_right") (T.d.fact 48 rfl)
theorem Tx.gl__law_runs_right (T : Tx K mg h) : mg "_law_runs_right" = some (.ref (He.ga K "_law_runs_right")) := He.glo_ok T.X T.G (x := "_law_runs_right") (T.d.fact 49 rfl)
theorem Tx.gl__law_overlap_right (T : Tx K mg h) : mg "_law_overlap_right" = some (.ref (He.ga K "_law_overlap_right")) := He.glo_ok T.X T.G (x := "_law_overlap_right") (T.d.fact 50 rfl)
theorem Tx.gl_law (T : Tx K mg h) : mg "law" = some (.ref (He.ga K "law")) := He.glo_ok T.X T.G (x := "law") (T.d.fact 51 rfl)
theorem Tx.g_choose_last (T : Tx K mg h) : ∃ u, mg "choose_last" = some u ∧ RelV (.ref (He.ga K "choose_last")) u := ⟨_, T.gl_choose_last, rfl⟩
end
end Rs
/-! text Rk -/
set_option Elab.async false
set_option linter.all false
set_option maxRecDepth 100000
set_option maxHeartbeats 4000000
namespace Rs
open PySem PySem.Spec PyProof.Rows L2

/-! ### heaps: F is what never changes any more, H all that is tracked; M: what may be changed -/
structure Gr (M : Addr → Prop) (F H F' H' : Hp) : Prop where
  f : Same F F'
  fh : Same F' H'
  h : ∀ b o, ¬ M b → H b = some o → H' b = some o
  dom : ∀ b, H' b = none → H b = none
  nw : ∀ b, F b = none → H b ≠ none → F' b = none
abbrev NoM : Addr → Prop := fun _ => False
abbrev Pu (F H F' H' : Hp) : Prop := Gr NoM F H F' H'
theorem Gr.refl {M : Addr → Prop} {F H : Hp} (e : Same F H) : Gr M F H F H := ⟨Same.refl _, e, fun _ _ _ h => h, fun _ h => h, fun _ h _ => h⟩
theorem Gr.trans {M : Addr → Prop} {F H F1 H1 F2 H2 : Hp} (a : Gr M F H F1 H1) (b : Gr M F1 H1 F2 H2) : Gr M F H F2 H2 :=
  ⟨a.f.trans b.f, b.fh, fun c o m h => b.h c o m (a.h c o m h), fun c h => a.dom c (b.dom c h), fun c h n => b.nw c (a.nw c h n) fun z => n (a.dom c z)⟩
theorem Gr.mono {M M' : Addr → Prop} {F H F' H' : Hp} (a : Gr M F H F' H') (hm : ∀ b, M b → M' b) : Gr M' F H F' H' := ⟨a.f, a.fh, fun b o m h => a.h b o (fun z => m (hm b z)) h, a.dom, a.nw⟩
theorem Gr.pu {M : Addr → Prop} {F H F' H' : Hp} (a : Pu F H F' H') : Gr M F H F' H' := a.mono fun _ z => z.elim
theorem Gr.hh {F H F' H' : Hp} (a : Pu F H F' H') : Same H H' := fun b o h => a.h b o (fun z => z) h
theorem upd_new {H : Hp} {p : Addr} {o : HO} (h : H p = none) : Same H (upd H p o) := fun a u e => by rw [upd_ne (ne_of_none e h)]; exact e
theorem upd_some {H : Hp} {p b : Addr} {o : HO} (h : upd H p o b = none) : H b = none := by
  by_cases e : b = p
  · rw [e, upd_same] at h
    cases h
  · rw [upd_ne e] at h
    exact h
/-- a new thing, frozen at once -/
theorem Gr.new {M : Addr → Prop} {F H : Hp} {p : Addr} {o : HO} (e : Same F H) (h : H p = none) : Gr M F H (upd F p o) (upd H p o) := by
  have hF : F p = none := e.free h
  refine ⟨upd_new hF, fun b u hb => ?_, fun b u _ hb => upd_new h b u hb, fun b hb => upd_some hb, fun b hb n => ?_⟩
  · by_cases q : b = p
    · rw [q, upd_same] at hb ⊢
      exact hb
    · rw [upd_ne q] at hb ⊢
      exact e b u hb
  · rw [upd_ne (fun z => n (by rw [z]; exact h))]
    exact hb
/-- a new thing that may change -/
theorem Gr.newm {M : Addr → Prop} {F H : Hp} {p : Addr} {o : HO} (e : Same F H) (h : H p = none) : Gr M F H F (upd H p o) :=
  ⟨Same.refl _, e.trans (upd_new h), fun b u _ hb => upd_new h b u hb, fun b hb => upd_some hb, fun _ hb _ => hb⟩
/-- a store into a thing of our own, new since F0, H0 -/
theorem Gr.mut {M : Addr → Prop} {F0 H0 F H : Hp} {p : Addr} {o : HO} (g : Gr M F0 H0 F H) (hF : F p = none) (h0 : H0 p = none) : Gr M F0 H0 F (upd H p o) := by
  refine ⟨g.f, fun b u hb => ?_, fun b u m hb => ?_, fun b hb => g.dom b (upd_some hb), g.nw⟩
  · rw [upd_ne (ne_of_none hb hF)]
    exact g.fh b u hb
  · rw [upd_ne (ne_of_none hb h0)]
    exact g.h b u m hb
/-- a store into a thing that may change -/
theorem Gr.set {M : Addr → Prop} {F0 H0 F H : Hp} {p : Addr} {o : HO} (g : Gr M F0 H0 F H) (hF : F p = none) (hm : M p) : Gr M F0 H0 F (upd H p o) := by
  refine ⟨g.f, fun b u hb => ?_, fun b u m hb => ?_, fun b hb => g.dom b (upd_some hb), g.nw⟩
  · rw [upd_ne (ne_of_none hb hF)]
    exact g.fh b u hb
  · rw [upd_ne (fun z => m (by rw [z]; exact hm))]
    exact g.h b u m hb
/-- a thing of our own is frozen -/
theorem Gr.frz {M : Addr → Prop} {F0 H0 F H : Hp} {p : Addr} {o : HO} (g : Gr M F0 H0 F H) (hF : F p = none) (h0 : H0 p = none) (hp : H p = some o) : Gr M F0 H0 (upd F p o) H := by
  refine ⟨g.f.trans (upd_new hF), fun b u hb => ?_, g.h, g.dom, fun b hb n => ?_⟩
  · by_cases q : b = p
    · rw [q, upd_same] at hb
      rw [q, hp]
      exact hb
    · rw [upd_ne q] at hb
      exact g.fh b u hb
  · rw [upd_ne (fun z => n (by rw [z]; exact h0))]
    exact g.nw b hb n
/-- many new things, frozen at once -/
def fz (F H' : Hp) (S : Addr → Bool) : Hp := fun b => match F b with
  | some o => some o
  | none => if S b = true then H' b else none
theorem fz_old {F H' : Hp} {S : Addr → Bool} {b : Addr} {o : HO} (h : F b = some o) : fz F H' S b = some o := by unfold fz; rw [h]
theorem fz_new {F H' : Hp} {S : Addr → Bool} {b : Addr} (h : F b = none) (hs : S b = true) : fz F H' S b = H' b := by
  unfold fz
  rw [h]
  show (if S b = true then H' b else none) = H' b
  rw [if_pos hs]
theorem Gr.many {M : Addr → Prop} {F H H' : Hp} (S : Addr → Bool) (e : Same F H) (e' : Same H H') (hn : ∀ b, S b = true → H b = none) : Gr M F H (fz F H' S) H' := by
  refine ⟨fun b o h => fz_old h, fun b o h => ?_, fun b o _ h => e' b o h, fun b h => e'.free h, fun b h n => ?_⟩
  · cases q : F b with
    | some u =>
      rw [fz_old q] at h
      cases h
      exact e' b _ (e b _ q)
    | none =>
      unfold fz at h
      rw [q] at h
      have h' : (if S b = true then H' b else none) = some o := h
      by_cases hs : S b = true
      · rw [if_pos hs] at h'
        exact h'
      · rw [if_neg hs] at h'
        cases h'
  · unfold fz
    rw [h]
    show (if S b = true then H' b else none) = none
    rw [if_neg fun z => n (hn b z)]
/-- what may change, as it stands -/
structure Mt (F H : Hp) (p : Addr) (o : HO) : Prop where
  n : F p = none
  h : H p = some o
theorem Mt.up {M : Addr → Prop} {F H F' H' : Hp} {p : Addr} {o : HO} (m : Mt F H p o) (g : Gr M F H F' H') (hm : ¬ M p) : Mt F' H' p o :=
  ⟨g.nw p m.n (by rw [m.h]; exact fun z => nomatch z), g.h p o hm m.h⟩
theorem Mt.pu {F H F' H' : Hp} {p : Addr} {o : HO} (m : Mt F H p o) (g : Pu F H F' H') : Mt F' H' p o := m.up g fun z => z
theorem Mt.new {F H : Hp} {p : Addr} {o : HO} (e : Same F H) (h : H p = none) : Mt F (upd H p o) p o := ⟨e.free h, upd_same⟩
theorem Mt.set {F H : Hp} {p : Addr} {o u : HO} (m : Mt F H p o) : Mt F (upd H p u) p u := ⟨m.n, upd_same⟩
theorem Mt.other {F H : Hp} {p q : Addr} {o u : HO} (m : Mt F H p o) (h : p ≠ q) : Mt F (upd H q u) p o := ⟨m.n, by rw [upd_ne h]; exact m.h⟩
theorem Mt.ne {F H : Hp} {p q : Addr} {o u : HO} (m : Mt F H p o) (h : F q = some u) : q ≠ p := ne_of_none h m.n
theorem Mt.ne' {F H : Hp} {p q : Addr} {o u : HO} (m : Mt F H p o) (m' : Mt F H q u) (h : o ≠ u) : p ≠ q := ne_of m.h m'.h h

/-! ### what is read alike -/
structure XF (F F' : Hp) : Prop where
  l : ∀ a xs, Rd F a (.lst xs) → Rd F' a (.lst xs)
  t : ∀ a xs, Rd F a (.tup xs) → Rd F' a (.tup xs)
  d : ∀ a kvs, Rd F a (.dK kvs) → Rd F' a (.dK kvs)
  i : ∀ a C dx fs, F a = some (.ins C dx fs) → F' a = some (.ins C dx fs)
theorem Rd.same {F F' : Hp} (e : Same F F') {a : Addr} {u : HO} (h : Rd F a u) : Rd F' a u := by
  rcases h with h | ⟨o, h⟩
  · exact .inl (e _ _ h)
  · exact .inr ⟨o, e _ _ h⟩
theorem XF.of {F F' : Hp} (e : Same F F') : XF F F' := ⟨fun _ _ h => Rd.same e h, fun _ _ h => Rd.same e h, fun _ _ h => Rd.same e h, fun _ _ _ _ h => e _ _ h⟩
theorem XF.trans {F F1 F2 : Hp} (a : XF F F1) (b : XF F1 F2) : XF F F2 := ⟨fun p xs h => b.l p xs (a.l p xs h), fun p xs h => b.t p xs (a.t p xs h), fun p xs h => b.d p xs (a.d p xs h), fun p C dx fs h => b.i p C dx fs (a.i p C dx fs h)⟩
theorem Gr.x {M : Addr → Prop} {F H F' H' : Hp} (g : Gr M F H F' H') : Same F F' := g.f
theorem rd_lock {F : Hp} {d a : Addr} {u v : HO} {o : Obj} (hd : F d = some u) (h : Rd F a v) (nv : ∀ o w, v ≠ .frz o w) (nu : ∀ o w, u ≠ .frz o w) : Rd (upd F d (.frz o u)) a v := by
  by_cases e : a = d
  · subst e
    rcases h with h | ⟨o', h⟩
    · rw [hd] at h
      cases h
      exact .inr ⟨o, upd_same⟩
    · rw [hd] at h
      exact absurd (Option.some.inj h) (nu _ _)
  · rcases h with h | ⟨o', h⟩
    · exact .inl (by rw [upd_ne e]; exact h)
    · exact .inr ⟨o', by rw [upd_ne e]; exact h⟩
theorem rd_unlock {F : Hp} {d a : Addr} {u v : HO} {o : Obj} (hd : F d = some (.frz o u)) (h : Rd F a v) (nv : ∀ o w, v ≠ .frz o w) : Rd (upd F d u) a v := by
  by_cases e : a = d
  · subst e
    rcases h with h | ⟨o', h⟩
    · rw [hd] at h
      exact absurd (Option.some.inj h).symm (nv _ _)
    · rw [hd] at h
      cases h
      exact .inl upd_same
  · rcases h with h | ⟨o', h⟩
    · exact .inl (by rw [upd_ne e]; exact h)
    · exact .inr ⟨o', by rw [upd_ne e]; exact h⟩
theorem XF.lock {F : Hp} {d : Addr} {kvs : List (Key × V)} {o : Obj} (hd : F d = some (.dK kvs)) : XF F (upd F d (.frz o (.dK kvs))) :=
  ⟨fun a xs h => rd_lock hd h (fun _ _ z => nomatch z) (fun _ _ z => nomatch z), fun a xs h => rd_lock hd h (fun _ _ z => nomatch z) (fun _ _ z => nomatch z), fun a xs h => rd_lock hd h (fun _ _ z => nomatch z) (fun _ _ z => nomatch z),
    fun a C dx fs h => by rw [upd_ne (ne_of h hd (fun z => nomatch z))]; exact h⟩
theorem XF.unlock {F : Hp} {d : Addr} {kvs : List (Key × V)} {o : Obj} (hd : F d = some (.frz o (.dK kvs))) : XF F (upd F d (.dK kvs)) :=
  ⟨fun a xs h => rd_unlock hd h (fun _ _ z => nomatch z), fun a xs h => rd_unlock hd h (fun _ _ z => nomatch z), fun a xs h => rd_unlock hd h (fun _ _ z => nomatch z),
    fun a C dx fs h => by rw [upd_ne (ne_of h hd (fun z => nomatch z))]; exact h⟩

/-! ### readings of values as data -/
abbrev Rep (α : Type) := Hp → V → α → Prop
/-- it stays when all that is frozen stays -/
class Up {α : Type} (R : Rep α) : Prop where
  up : ∀ {F F' : Hp} {v : V} {a : α}, Same F F' → R F v a → R F' v a
/-- it stays when a dict is locked or set free, too -/
class Ux {α : Type} (R : Rep α) : Prop where
  ux : ∀ {F F' : Hp} {v : V} {a : α}, XF F F' → R F v a → R F' v a
instance {α : Type} {R : Rep α} [Ux R] : Up R := ⟨fun e h => Ux.ux (.of e) h⟩
def rI : Rep Int := fun _ v i => v = .int i
def rS : Rep Str := fun _ v s => v = .str s
def rB : Rep Bool := fun _ v b => v = .bl b
instance : Ux rI := ⟨fun _ h => h⟩
instance : Ux rS := ⟨fun _ h => h⟩
instance : Ux rB := ⟨fun _ h => h⟩
theorem sql_x {K : PySem.W.Frag} {F F' : Hp} {a : Addr} {xs : List V} (e : XF F F') (h : SqL K F a xs) : SqL K F' a xs := h.elim (fun h => .inl (e.l _ _ h)) .inr
theorem sqt_x {K : PySem.W.Frag} {F F' : Hp} {a : Addr} {xs : List V} (e : XF F F') (h : SqT K F a xs) : SqT K F' a xs := h.elim (fun h => .inl (e.t _ _ h)) .inr
theorem sql_s {K : PySem.W.Frag} {F F' : Hp} {a : Addr} {xs : List V} (e : Same F F') (h : SqL K F a xs) : SqL K F' a xs := sql_x (.of e) h
theorem sqt_s {K : PySem.W.Frag} {F F' : Hp} {a : Addr} {xs : List V} (e : Same F F') (h : SqT K F a xs) : SqT K F' a xs := sqt_x (.of e) h
abbrev All2 {α : Type} (R : Rep α) (F : Hp) (xs : List V) (l : List α) : Prop := Paired (fun v a => R F v a) xs l
theorem All2.up {α : Type} {R : Rep α} [Up R] {F F' : Hp} {xs : List V} {l : List α} (e : Same F F') (h : All2 R F xs l) : All2 R F' xs l := Paired.mapP h fun _ _ q => Up.up e q
theorem All2.ux {α : Type} {R : Rep α} [Ux R] {F F' : Hp} {xs : List V} {l : List α} (e : XF F F') (h : All2 R F xs l) : All2 R F' xs l := Paired.mapP h fun _ _ q => Ux.ux e q
theorem All2.length {α : Type} {R : Rep α} {F : Hp} {xs : List V} {l : List α} (h : All2 R F xs l) : xs.length = l.length := Paired.length h
theorem All2.get {α : Type} {R : Rep α} {F : Hp} : ∀ {xs : List V} {l : List α}, All2 R F xs l → ∀ {i : Nat} {x : V}, xs[i]? = some x → ∃ a, l[i]? = some a ∧ R F x a
  | _, _, Paired.nil, i, x, h => by cases h
  | _, _, Paired.cons r t, 0, x, h => ⟨_, rfl, by have e := Option.some.inj h; subst e; exact r⟩
  | _, _, Paired.cons r t, i + 1, x, h => All2.get (xs := _) t h
theorem All2.tog {α : Type} {R : Rep α} {F : Hp} : ∀ {xs : List V} {l : List α}, All2 R F xs l → ∀ {i : Nat} {a : α}, l[i]? = some a → ∃ x, xs[i]? = some x ∧ R F x a
  | _, _, Paired.nil, i, x, h => by cases h
  | _, _, Paired.cons r t, 0, x, h => ⟨_, rfl, by have e := Option.some.inj h; subst e; exact r⟩
  | _, _, Paired.cons r t, i + 1, x, h => All2.tog (xs := _) t h
theorem All2.snoc {α : Type} {R : Rep α} {F : Hp} {xs : List V} {l : List α} {x : V} {a : α} (h : All2 R F xs l) (r : R F x a) : All2 R F (xs ++ [x]) (l ++ [a]) := Paired.snoc h r
theorem All2.nil {α : Type} {R : Rep α} {F : Hp} : All2 R F [] [] := Paired.nil
theorem All2.append {α : Type} {R : Rep α} {F : Hp} : ∀ {xs : List V} {l : List α} {ys : List V} {m : List α}, All2 R F xs l → All2 R F ys m → All2 R F (xs ++ ys) (l ++ m)
  | _, _, _, _, Paired.nil, h => h
  | _, _, _, _, Paired.cons r t, h => Paired.cons r (All2.append t h)
theorem All2.take {α : Type} {R : Rep α} {F : Hp} : ∀ {xs : List V} {l : List α} (n : Nat), All2 R F xs l → All2 R F (xs.take n) (l.take n)
  | _, _, 0, _ => Paired.nil
  | _, _, _ + 1, Paired.nil => Paired.nil
  | _, _, n + 1, Paired.cons r t => Paired.cons r (All2.take n t)
theorem All2.drop {α : Type} {R : Rep α} {F : Hp} : ∀ {xs : List V} {l : List α} (n : Nat), All2 R F xs l → All2 R F (xs.drop n) (l.drop n)
  | _, _, 0, h => h
  | _, _, _ + 1, Paired.nil => Paired.nil
  | _, _, n + 1, Paired.cons r t => All2.drop n t
theorem All2.set {α : Type} {R : Rep α} {F : Hp} {y : V} {b : α} (r : R F y b) : ∀ {xs : List V} {l : List α} (n : Nat), All2 R F xs l → All2 R F (xs.set n y) (l.set n b)
  | _, _, _, Paired.nil => Paired.nil
  | _, _, 0, Paired.cons q t => Paired.cons r t
  | _, _, n + 1, Paired.cons q t => Paired.cons q (All2.set r n t)
theorem All2.eraseIdx {α : Type} {R : Rep α} {F : Hp} : ∀ {xs : List V} {l : List α} (n : Nat), All2 R F xs l → All2 R F (xs.eraseIdx n) (l.eraseIdx n)
  | _, _, _, Paired.nil => Paired.nil
  | _, _, 0, Paired.cons q t => t
  | _, _, n + 1, Paired.cons q t => Paired.cons q (All2.eraseIdx n t)
theorem All2.mapV {α : Type} {R : Rep α} {F : Hp} {c : α → V} (hc : ∀ v a, R F v a → v = c a) : ∀ {xs : List V} {l : List α}, All2 R F xs l → xs = l.map c
  | _, _, Paired.nil => rfl
  | _, _, Paired.cons r t => by rw [List.map_cons, hc _ _ r, All2.mapV hc t]
theorem All2.ofMap {α : Type} {R : Rep α} {F : Hp} {c : α → V} (hc : ∀ a, R F (c a) a) : ∀ (l : List α), All2 R F (l.map c) l
  | [] => Paired.nil
  | a :: l => Paired.cons (hc a) (All2.ofMap hc l)
theorem All2.imp {α β : Type} {R : Rep α} {S : Rep β} {F : Hp} {f : α → β} (hf : ∀ v a, R F v a → S F v (f a)) : ∀ {xs : List V} {l : List α}, All2 R F xs l → All2 S F xs (l.map f)
  | _, _, Paired.nil => Paired.nil
  | _, _, Paired.cons r t => Paired.cons (hf _ _ r) (All2.imp hf t)
theorem all2_int {F : Hp} {xs : List V} {l : List Int} (h : All2 rI F xs l) : xs = l.map V.int := h.mapV fun _ _ q => q
theorem all2_str {F : Hp} {xs : List V} {l : List Str} (h : All2 rS F xs l) : xs = l.map V.str := h.mapV fun _ _ q => q
theorem all2_bl {F : Hp} {xs : List V} {l : List Bool} (h : All2 rB F xs l) : xs = l.map V.bl := h.mapV fun _ _ q => q
theorem int_all2 {F : Hp} (l : List Int) : All2 rI F (l.map V.int) l := All2.ofMap (fun _ => rfl) l
theorem str_all2 {F : Hp} (l : List Str) : All2 rS F (l.map V.str) l := All2.ofMap (fun _ => rfl) l
section
variable (K : PySem.W.Frag)
/-- a list of such -/
def rL {α : Type} (R : Rep α) : Rep (List α) := fun F v l => ∃ a xs, v = .ref a ∧ SqL K F a xs ∧ All2 R F xs l
/-- a tuple of such, all alike -/
def rU {α : Type} (R : Rep α) : Rep (List α) := fun F v l => ∃ a xs, v = .ref a ∧ SqT K F a xs ∧ All2 R F xs l
def r2 {α β : Type} (R : Rep α) (S : Rep β) : Rep (α × β) := fun F v p => ∃ a x y, v = .ref a ∧ SqT K F a [x, y] ∧ R F x p.1 ∧ S F y p.2
def r3 {α β γ : Type} (R : Rep α) (S : Rep β) (T : Rep γ) : Rep (α × β × γ) := fun F v p => ∃ a x y z, v = .ref a ∧ SqT K F a [x, y, z] ∧ R F x p.1 ∧ S F y p.2.1 ∧ T F z p.2.2
/-- a dict with text keys, its pairs in order -/
def rD {α : Type} (R : Rep α) : Rep (List (Str × α)) := fun F v l => ∃ a kvs, v = .ref a ∧ Rd F a (.dK kvs) ∧ Paired (fun (kv : Key × V) (q : Str × α) => kv.1 = Sum.inr q.1 ∧ R F kv.2 q.2) kvs l
end
section
variable {K : PySem.W.Frag} {α β γ : Type} {R : Rep α} {S : Rep β} {T : Rep γ}
instance [Up R] : Up (rL K R) := ⟨fun e ⟨a, xs, h1, h2, h3⟩ => ⟨a, xs, h1, sql_s e h2, h3.up e⟩⟩
instance [Up R] : Up (rU K R) := ⟨fun e ⟨a, xs, h1, h2, h3⟩ => ⟨a, xs, h1, sqt_s e h2, h3.up e⟩⟩
instance [Up R] [Up S] : Up (r2 K R S) := ⟨fun e ⟨a, x, y, h1, h2, h3, h4⟩ => ⟨a, x, y, h1, sqt_s e h2, Up.up e h3, Up.up e h4⟩⟩
instance [Up R] [Up S] [Up T] : Up (r3 K R S T) := ⟨fun e ⟨a, x, y, z, h1, h2, h3, h4, h5⟩ => ⟨a, x, y, z, h1, sqt_s e h2, Up.up e h3, Up.up e h4, Up.up e h5⟩⟩
instance [Up R] : Up (rD R) := ⟨fun e ⟨a, kvs, h1, h2, h3⟩ => ⟨a, kvs, h1, Rd.same e h2, Paired.mapP h3 fun _ _ q => ⟨q.1, Up.up e q.2⟩⟩⟩
instance [Ux R] : Ux (rL K R) := ⟨fun e ⟨a, xs, h1, h2, h3⟩ => ⟨a, xs, h1, sql_x e h2, h3.ux e⟩⟩
instance [Ux R] : Ux (rU K R) := ⟨fun e ⟨a, xs, h1, h2, h3⟩ => ⟨a, xs, h1, sqt_x e h2, h3.ux e⟩⟩
instance [Ux R] [Ux S] : Ux (r2 K R S) := ⟨fun e ⟨a, x, y, h1, h2, h3, h4⟩ => ⟨a, x, y, h1, sqt_x e h2, Ux.ux e h3, Ux.ux e h4⟩⟩
instance [Ux R] [Ux S] [Ux T] : Ux (r3 K R S T) := ⟨fun e ⟨a, x, y, z, h1, h2, h3, h4, h5⟩ => ⟨a, x, y, z, h1, sqt_x e h2, Ux.ux e h3, Ux.ux e h4, Ux.ux e h5⟩⟩
instance [Ux R] : Ux (rD R) := ⟨fun e ⟨a, kvs, h1, h2, h3⟩ => ⟨a, kvs, h1, e.d _ _ h2, Paired.mapP h3 fun _ _ q => ⟨q.1, Ux.ux e q.2⟩⟩⟩
end

/-! ### a def of the text, by its body -/
section
variable {P : Program} {w : World} {K : PySem.W.Frag} {mg : Str → Option Value} {base : Heap} {f : Addr} {fd : FuncData} {x qual : Str} {st : Stmt} {N ps : List Str} {k : Nat} {sp : Sp} {C : Addr} {dvs : List V} {kws : List (Str × V)}
abbrev Body (P : Program) (w : World) (K : PySem.W.Frag) (mg : Str → Option Value) (base : Heap) (N : List Str) (qual : Str) (st : Stmt) (f : Addr) (k : Nat) (sp : Sp) : Prop :=
  ∀ (cdv : Value) (A : Around) (outer : List Env) (s : Shared) (H : Hp) (vs : List V) (Q : VK) (E : XK), Room k (A.deeper (envOfC qual (defScope st) s.heap.objs.size f cdv)) → sp vs H Q E →
    ∃ t, PSs (cxOf C8.CX0 P w K mg base N qual (defScope st) f cdv A outer s H E).nox (defBody st) t ∧ t { nx := fun _ H' => Q .non H', rt := Q } (start N vs) H
theorem fnok_of (F : FunD K x qual (defArgs st) (defBody st) (defScope st) dvs kws f fd) (S : FnScope N ps (defScope st)) (len : ∀ vs H Q E, sp vs H Q E → vs.length = ps.length) (hb : Body P w K mg base N qual st f k sp) : FnOk P w K mg base C8.CX0 (k + 1) f fd ps sp :=
  F.ok S len fun cdv A outer s H vs Q E hr h => let ⟨t, ht, q⟩ := hb cdv A outer s H vs Q E hr h; ⟨t, ht.nox, q⟩
theorem mkCal (gl : mg x = some (.ref f)) (F : FunD K x x (defArgs st) (defBody st) (defScope st) [] [] f fd) (S : FnScope N ps (defScope st))
    (b : ∀ (kV doc pm : Value) (an : Option Addr) (cdv ct : Value) (us : List Value), us.length = ps.length → bindArgs (PySem.W.fnOf x x (defArgs st) (defBody st) (defScope st) .none kV doc pm an cdv ct) ⟨us, []⟩ = pure (ps.zip us))
    (len : ∀ vs H Q E, sp vs H Q E → vs.length = ps.length) (hb : Body P w K mg base N x st f k sp) : C8.Cal P w K mg base (k + 1) x sp [] :=
  ⟨f, fd, ps, [], fnok_of F S len hb, gl, F.kp, F.bindsN b, .nil⟩
theorem mkMet (c : Cls K C) (m : Meth K C x f) (F : FunD K x qual (defArgs st) (defBody st) (defScope st) [] [] f fd) (S : FnScope N ps (defScope st))
    (b : ∀ (kV doc pm : Value) (an : Option Addr) (cdv ct : Value) (us : List Value), us.length = ps.length → bindArgs (PySem.W.fnOf x qual (defArgs st) (defBody st) (defScope st) .none kV doc pm an cdv ct) ⟨us, []⟩ = pure (ps.zip us))
    (len : ∀ vs H Q E, sp vs H Q E → vs.length = ps.length) (hb : Body P w K mg base N qual st f k sp) : C8.Met P w K mg base (k + 1) C x sp [] :=
  ⟨f, fd, ps, [], c, m, fnok_of F S len hb, F.bindsN b, .nil⟩
end
end Rs
/-! text R1 -/
set_option Elab.async false
set_option linter.all false
set_option maxRecDepth 100000
set_option maxHeartbeats 4000000
namespace Rs
open PySem PySem.Spec PyProof.Rows L2
/-! ### is it of a type -/
theorem ki (K : PySem.W.Frag) : PySem.W.kitOne K (.type "int") (.type "int") = some true := by kernel_rfl
theorem kib (K : PySem.W.Frag) : PySem.W.kitOne K (.type "int") (.type "bool") = some false := by kernel_rfl
theorem ks (K : PySem.W.Frag) : PySem.W.kitOne K (.type "str") (.type "str") = some true := by kernel_rfl
theorem kt (K : PySem.W.Frag) : PySem.W.kitOne K (.type "tuple") (.type "tuple") = some true := by kernel_rfl
theorem kd (K : PySem.W.Frag) : PySem.W.kitOne K (.type "dict") (.type "dict") = some true := by kernel_rfl
theorem kl2 (K : PySem.W.Frag) : PySem.W.kitAny K (.type "list") [.type "list", .type "tuple"] = some true := by kernel_rfl
theorem kt2 (K : PySem.W.Frag) : PySem.W.kitAny K (.type "tuple") [.type "list", .type "tuple"] = some true := by kernel_rfl
theorem tyx_l {K : PySem.W.Frag} {H : Hp} {a : Addr} {xs : List V} (h : SqL K H a xs) : TyX K H (.ref a) (.type "list") := by
  rcases h with (h | ⟨o, h⟩) | ⟨o, its, n, h, c, _⟩
  · exact .base (.lst h)
  · exact .base (.frz h)
  · exact .kList h c
theorem tyx_t {K : PySem.W.Frag} {H : Hp} {a : Addr} {xs : List V} (h : SqT K H a xs) : TyX K H (.ref a) (.type "tuple") := by
  rcases h with (h | ⟨o, h⟩) | ⟨o, its, n, h, c, _⟩
  · exact .base (.tup h)
  · exact .fTuple h
  · exact .kTuple h c
theorem tyx_d {K : PySem.W.Frag} {H : Hp} {a : Addr} {kvs : List (Key × V)} (h : Rd H a (.dK kvs)) : TyX K H (.ref a) (.type "dict") := by
  rcases h with h | ⟨o, h⟩
  · exact .base (.dK h)
  · exact .fDict h
/-! ### fields -/
theorem lk0 {k : Str} {v : V} {r : List (Str × V)} : ((k, v) :: r).lookup k = some v := by simp [List.lookup]
theorem lk1 {k k' : Str} {v : V} {r : List (Str × V)} (h : ¬ k' = k) : ((k, v) :: r).lookup k' = r.lookup k' := by
  show (match k' == k with | true => some v | false => r.lookup k') = r.lookup k'
  rw [show (k' == k) = false from beq_false_of_ne h]
theorem lkn {k : Str} : ([] : List (Str × V)).lookup k = none := rfl
theorem putF_nil {f : Str} {v : V} : putF f v [] = [(f, v)] := rfl
theorem putF_ne {f g : Str} {v u : V} {r : List (Str × V)} (h : ¬ g = f) : putF f v ((g, u) :: r) = (g, u) :: putF f v r := by
  show (if g = f then _ else _) = _
  rw [if_neg h]
theorem putF_eq {f : Str} {v u : V} {r : List (Str × V)} : putF f v ((f, u) :: r) = (f, v) :: r := by
  show (if f = f then _ else _) = _
  rw [if_pos rfl]
/-! ### ratios -/
def sp_need_integer : Sp := fun vs H Q _ => match vs with
  | [v] => ∃ i : Int, v = .int i ∧ Q .non H
  | _ => False
theorem sc_need_integer : FnScope ["value"] ["value"] (defScope s_need_integer) := C8.fnScope_by (by decide +kernel)
theorem c_need_integer {P : Program} {w : World} {K : PySem.W.Frag} {mg : Str → Option Value} {base hp : Heap} (T : Tx K mg hp) : C8.Cal P w K mg base 1 "need_integer" sp_need_integer [] := by
  obtain ⟨fd, F⟩ := T.fd_need_integer
  refine mkCal T.gl_need_integer F sc_need_integer (fun _ _ _ _ _ _ us hl => match us, hl with | [_], _ => rfl) (fun vs H Q E h => by unfold sp_need_integer at h; split at h <;> first | rfl | exact h.elim) (fun cdv A outer s H vs Q E hr h => ?_)
  have nd := sc_need_integer.nd
  have hu := hu_of hr
  unfold sp_need_integer at h
  split at h
  case h_2 => exact h.elim
  obtain ⟨i, rfl, k⟩ := h
  refine ⟨_, (pss_one (ps_if (PW.pt (pw_or (pt_val (pe_callB call_isi (by rfl) T.fr_isinstance (by decide +kernel) (pa_cons (pv 0) (pa_cons (pe_bltn (v := .ty "bool") (u := .type "bool") (by rfl) T.fr_bool (by decide +kernel) rfl) pa_nil)))) (pw_or1 (pt_not (pt_val (pe_callB call_isi (by rfl) T.fr_isinstance (by decide +kernel) (pa_cons (pv 0) (pa_cons (pe_bltn (v := .ty "int") (u := .type "int") (by rfl) T.fr_int (by decide +kernel) rfl) pa_nil)))))))) pss_never pss_nil)), ?_⟩
  exact ⟨_, rfl, _, _, _, _, _, rfl, .ty _, .base (.int _), kib K, _, rfl, iteF ⟨_, rfl, _, _, _, _, _, rfl, .ty _, .base (.int _), ki K, _, rfl, iteF k⟩⟩
def gcdI (a b : Int) : Int := (Int.gcd a b : Nat)
def sp_greatest_divisor : Sp := fun vs H Q _ => match vs with
  | [v, u] => ∃ a b : Int, v = .int a ∧ u = .int b ∧ 0 ≤ a ∧ 0 ≤ b ∧ Q (.int (gcdI a b)) H
  | _ => False
theorem gcd_turn {x y : Int} (hx : 0 ≤ x) (hy : 0 < y) : Int.gcd y (x % y) = Int.gcd x y := by
  obtain ⟨m, rfl⟩ := Int.eq_ofNat_of_zero_le hx
  obtain ⟨n, rfl⟩ := Int.eq_ofNat_of_zero_le (Int.le_of_lt hy)
  show Nat.gcd n (m % n) = Nat.gcd m n
  rw [Nat.gcd_comm n, ← Nat.gcd_rec, Nat.gcd_comm]
theorem sc_greatest_divisor : FnScope ["one", "other"] ["one", "other"] (defScope s_greatest_divisor) := C8.fnScope_by (by decide +kernel)
theorem c_greatest_divisor {P : Program} {w : World} {K : PySem.W.Frag} {mg : Str → Option Value} {base hp : Heap} (T : Tx K mg hp) : C8.Cal P w K mg base 1 "greatest_divisor" sp_greatest_divisor [] := by
  obtain ⟨fd, F⟩ := T.fd_greatest_divisor
  refine mkCal T.gl_greatest_divisor F sc_greatest_divisor (fun _ _ _ _ _ _ us hl => match us, hl with | [_, _], _ => rfl) (fun vs H Q E h => by unfold sp_greatest_divisor at h; split at h <;> first | rfl | exact h.elim) (fun cdv A outer s H vs Q E hr h => ?_)
  have nd := sc_greatest_divisor.nd
  have hu := hu_of hr
  unfold sp_greatest_divisor at h
  split at h
  case h_2 => exact h.elim
  obtain ⟨a, b, rfl, rfl, ha, hb, k⟩ := h
  refine ⟨_, (pss_cons (ps_while PassesOwn.never (pt_cmpR op_gt (pv 1) pe_int (nomark _)) (pss_one (ps_par (i := 0) (j := 1) rfl nd rfl rfl (by decide) rfl rfl (pa_cons (pv 1) (pa_cons (pe_op op_mod (pv 0) (pv 1)) pa_nil)) (by rfl))))
      (pss_one (ps_ret (pv 0)))), ?_⟩
  refine ⟨fun m σ H' => ∃ x y : Int, σ = [some (.int x), some (.int y)] ∧ 0 ≤ x ∧ 0 ≤ y ∧ Int.gcd x y = Int.gcd a b ∧ m = y.toNat ∧ H' = H, ⟨_, a, b, rfl, ha, hb, rfl, rfl, rfl⟩, ?_⟩
  rintro m σ H' ⟨x, y, rfl, hx, hy, e, rfl, rfl⟩
  refine ⟨_, rfl, _, _, rfl, rfl, _, rfl, ?_⟩
  refine ite2 (fun c => ?_) (fun c => ?_)
  · have c := of_decide_eq_true c
    refine ⟨fun σ' H'' => σ' = [some (.int y), some (.int (x % y))] ∧ H'' = H', fun σ' H'' ⟨e1, e2⟩ => ?_, ?_⟩
    · have h1 := Int.emod_nonneg x (Int.ne_of_gt c)
      have h2 := Int.emod_lt_of_pos x c
      exact ⟨_, by omega, y, x % y, e1, hy, h1, (gcd_turn hx c).trans e, rfl, e2⟩
    · exact ⟨_, rfl, _, rfl, _, rfl, _, _, rfl, rfl, c, _, _, rfl, rfl, rfl⟩
  · have c : ¬ (0 < y) := fun z => c (decide_eq_true z)
    have : y = 0 := by omega
    subst this
    refine ⟨_, rfl, ?_⟩
    have e2 : x = gcdI a b := by
      unfold gcdI
      rw [← e, Int.gcd_zero_right]
      omega
    rw [e2]
    exact k
end Rs
/-! text R2 -/
set_option Elab.async false
set_option linter.all false
set_option maxRecDepth 100000
set_option maxHeartbeats 4000000
namespace Rs
open PySem PySem.Spec PyProof.Rows L2
/-! ### ratios as instances -/
theorem rden_num : ¬ (("ratio_den" : Str) = "ratio_num") := by decide +kernel
theorem rnum_den : ¬ (("ratio_num" : Str) = "ratio_den") := by decide +kernel
def rfs (p : Int × Int) : List (Str × V) := [("ratio_num", .int p.1), ("ratio_den", .int p.2)]
theorem rfs_num (p : Int × Int) : (rfs p).lookup ("ratio_num" : Str) = some (.int p.1) := lk0
theorem rfs_den (p : Int × Int) : (rfs p).lookup ("ratio_den" : Str) = some (.int p.2) := (lk1 rden_num).trans lk0
theorem rfs_no {p : Int × Int} {m : Str} (h1 : ¬ m = "ratio_num") (h2 : ¬ m = "ratio_den") : (rfs p).lookup m = none := (lk1 h1).trans (lk1 h2)
def rR (K : PySem.W.Frag) : Rep (Int × Int) := fun F v p => ∃ a dx, v = .ref a ∧ F a = some (.ins (a_Ratio K) dx (rfs p))
instance {K : PySem.W.Frag} : Ux (rR K) := ⟨fun e ⟨a, dx, h1, h2⟩ => ⟨a, dx, h1, e.i _ _ _ _ h2⟩⟩
/-- in lowest terms -/
def nrm (n d : Int) : Int × Int := (n / gcdI n d, d / gcdI n d)
theorem gcdI_abs (n d : Int) : gcdI (if n < 0 then -n else n) (if d < 0 then -d else d) = gcdI n d := by
  unfold gcdI
  split <;> split <;> simp [Int.gcd_neg, Int.neg_gcd]
theorem gcdI_pos {n d : Int} (h : 0 < d) : 0 < gcdI n d := by
  unfold gcdI
  have : 0 < Int.gcd n d := Int.gcd_pos_of_ne_zero_right _ (Int.ne_of_gt h)
  omega
theorem gcdI_le {n d : Int} (h : 0 < d) : gcdI n d ≤ d := by
  unfold gcdI
  exact Int.le_of_dvd h (Int.gcd_dvd_right _ _)
theorem gcdI_bd {n d : Int} {b : Nat} (h : 0 < d) (hb : d.natAbs < 2 ^ b) : (gcdI n d).natAbs < 2 ^ b := by
  have h1 := gcdI_pos (n := n) h
  have h2 := gcdI_le (n := n) h
  omega
def sp_Ratio (K : PySem.W.Frag) : Sp := fun vs H Q _ => match vs with
  | [v0, v1, v2] => ∃ (p dx : Addr) (n d : Int), v0 = .ref p ∧ v1 = .int n ∧ v2 = .int d ∧ H p = some (.ins (a_Ratio K) dx []) ∧ 0 < d ∧ d.natAbs < 2 ^ 8000 ∧ ∀ H', H' = upd H p (.ins (a_Ratio K) dx (rfs (nrm n d))) → Q .non H'
  | _ => False
theorem sc_Ratio_init : FnScope ["self", "numerator", "denominator", "shared"] ["self", "numerator", "denominator"] (defScope s_Ratio_init) := C8.fnScope_by (by decide +kernel)
abbrev FRatio (K : PySem.W.Frag) (fd : FuncData) : Prop := FunD K "__init__" "Ratio.__init__" (defArgs s_Ratio_init) (defBody s_Ratio_init) (defScope s_Ratio_init) [.int 1] [] (He.ma K (He.ga K "Ratio") "__init__") fd
theorem f_Ratio {P : Program} {w : World} {K : PySem.W.Frag} {mg : Str → Option Value} {base hp : Heap} {fd : FuncData} (T : Tx K mg hp) (F : FRatio K fd) : FnOk P w K mg base C8.CX0 2 (He.ma K (He.ga K "Ratio") "__init__") fd ["self", "numerator", "denominator"] (sp_Ratio K) := by
  refine fnok_of F sc_Ratio_init (fun vs H Q E h => by unfold sp_Ratio at h; split at h <;> first | rfl | exact h.elim) (fun cdv A outer s H vs Q E hr h => ?_)
  have nd := sc_Ratio_init.nd
  have hu := hu_of hr
  unfold sp_Ratio at h
  split at h
  case h_2 => exact h.elim
  obtain ⟨p, dx, n, d, rfl, rfl, rfl, hp, hd, hb, k⟩ := h
  refine ⟨_, (pss_cons (ps_expr (C8.pe_c (c_need_integer T) hr (by decide) (by rfl) (pa_cons (pv 1) pa_nil)))
      (pss_cons (ps_expr (C8.pe_c (c_need_integer T) hr (by decide) (by rfl) (pa_cons (pv 2) pa_nil)))
      (pss_cons (ps_if (pt_cmpR op_eq (pv 2) pe_int (nomark _)) pss_never pss_nil)
      (pss_cons (ps_set (i := 3) nd rfl (Or.inl rfl) (C8.pe_c (c_greatest_divisor T) hr (by decide) (by rfl) (pa_cons (pe_callB call_abs (by rfl) T.fr_abs (by decide +kernel) (pa_cons (pv 1) pa_nil)) (pa_cons (pe_callB call_abs (by rfl) T.fr_abs (by decide +kernel) (pa_cons (pv 2) pa_nil)) pa_nil))))
      (pss_cons (ps_if (pt_cmpR op_lt (pv 2) pe_int (nomark _)) (pss_one (ps_set (i := 3) nd rfl (Or.inl rfl) (pe_un un_neg (pv 3)))) pss_nil)
      (pss_cons (ps_fld (pv 0) (pe_op op_fdivW (pv 1) (pv 3)) rfl)
      (pss_one (ps_fld (pv 0) (pe_op op_fdivW (pv 2) (pv 3)) rfl)))))))), ?_⟩
  have gp := gcdI_pos (n := n) hd
  have gb := gcdI_bd (n := n) hd hb
  refine ⟨_, rfl, n, rfl, _, rfl, d, rfl, _, rfl, rfl, _, rfl, ?_⟩
  rw [decide_eq_false (show ¬ (V.int d = V.int 0) from fun z => by cases z; exact absurd hd (by decide))]
  refine iteF ⟨_, rfl, _, rfl, _, rfl, _, rfl, _, _, rfl, rfl, ?_, ?_, _, rfl, _, _, rfl, rfl, _, rfl, ?_⟩
  · split <;> omega
  · split <;> omega
  rw [gcdI_abs, decide_eq_false (show ¬ (d < 0) by omega)]
  refine iteF ⟨_, rfl, _, rfl, _, _, rfl, rfl, wide_div gp gb (by decide) (by decide), _, rfl, p, _, dx, _, rfl, hp, T.cl_Ratio, T.na_Ratio_ratio_num, by decide, ?_⟩
  refine ⟨_, rfl, _, rfl, _, _, rfl, rfl, wide_div gp gb (by decide) (by decide), _, rfl, p, _, dx, _, rfl, upd_same, T.cl_Ratio, T.na_Ratio_ratio_den, (by show 1 < 1000; decide), ?_⟩
  refine k _ ?_
  rw [upd_upd, putF_nil, putF_ne rnum_den, putF_nil]
  rfl
theorem c_Ratio {P : Program} {w : World} {K : PySem.W.Frag} {mg : Str → Option Value} {base hp : Heap} (T : Tx K mg hp) : C8.Mak P w K mg base 2 "Ratio" (a_Ratio K) (sp_Ratio K) [] := by
  obtain ⟨fd, F⟩ := T.fd_Ratio_init
  obtain ⟨its, hv, hb⟩ := F.binds1 (ps := ["self", "numerator", "denominator"]) 3 1 (by simp) rfl fun T kV doc pm an cdv ct us its hu hi => match us, its, hu, hi with | [_, _, _], [_], _, _ => ⟨_, rfl, rfl⟩
  exact ⟨_, fd, _, its, T.mk_Ratio, f_Ratio T F, T.m_Ratio, hb, hv⟩
theorem c_Ratio1 {P : Program} {w : World} {K : PySem.W.Frag} {mg : Str → Option Value} {base hp : Heap} (T : Tx K mg hp) : C8.Mak P w K mg base 2 "Ratio" (a_Ratio K) (sp_Ratio K) [.int 1] := by
  obtain ⟨fd, F⟩ := T.fd_Ratio_init
  obtain ⟨its, hv, hb⟩ := F.binds1 (ps := ["self", "numerator", "denominator"]) 2 0 (by simp) rfl fun T kV doc pm an cdv ct us its hu hi => match us, its, hu, hi with | [_, _], [_], _, _ => ⟨_, rfl, rfl⟩
  exact ⟨_, fd, _, its, T.mk_Ratio, f_Ratio T F, T.m_Ratio, hb, hv⟩
/-- a new instance, frozen when its __init__ has run -/
theorem Gr.made {M : Addr → Prop} {F H : Hp} {x dx : Addr} {o0 o : HO} (e : Same F H) (hx : H x = none) (hdx : H dx = none) (ne : dx ≠ x) : Gr M F H (upd (upd F dx (.own x)) x o) (upd (upd (upd H dx (.own x)) x o0) x o) := by
  rw [upd_upd]
  have g1 : Gr M F H (upd F dx (.own x)) (upd H dx (.own x)) := Gr.new e hdx
  exact g1.trans (Gr.new g1.fh (by rw [upd_ne ne.symm]; exact hx))
theorem made_at {F : Hp} {x dx : Addr} {o : HO} : (upd (upd F dx (.own x)) x o) x = some o := upd_same
/-! ### the methods -/
def sp_Ratio_num (K : PySem.W.Frag) : Sp := fun vs H Q _ => match vs with
  | [v] => ∃ p, rR K H v p ∧ Q (.int p.1) H
  | _ => False
theorem sc_Ratio_num : FnScope ["self"] ["self"] (defScope s_Ratio_num) := C8.fnScope_by (by decide +kernel)
theorem c_Ratio_num {P : Program} {w : World} {K : PySem.W.Frag} {mg : Str → Option Value} {base hp : Heap} (T : Tx K mg hp) : C8.Met P w K mg base 1 (a_Ratio K) "num" (sp_Ratio_num K) [] := by
  obtain ⟨fd, F⟩ := T.fd_Ratio_num
  refine mkMet T.cl_Ratio T.me_Ratio_num F sc_Ratio_num (fun _ _ _ _ _ _ us hl => match us, hl with | [_], _ => rfl) (fun vs H Q E h => by unfold sp_Ratio_num at h; split at h <;> first | rfl | exact h.elim) (fun cdv A outer s H vs Q E hr h => ?_)
  have nd := sc_Ratio_num.nd
  have hu := hu_of hr
  unfold sp_Ratio_num at h
  split at h
  case h_2 => exact h.elim
  obtain ⟨p, ⟨a, dx, rfl, ha⟩, k⟩ := h
  refine ⟨_, (pss_one (ps_ret (pe_fld (pv 0) rfl))), ?_⟩
  exact ⟨_, rfl, a, _, dx, _, _, rfl, ha, T.cl_Ratio, T.na_Ratio_ratio_num, rfs_num p, k⟩
def sp_Ratio_den (K : PySem.W.Frag) : Sp := fun vs H Q _ => match vs with
  | [v] => ∃ p, rR K H v p ∧ Q (.int p.2) H
  | _ => False
theorem sc_Ratio_den : FnScope ["self"] ["self"] (defScope s_Ratio_den) := C8.fnScope_by (by decide +kernel)
theorem c_Ratio_den {P : Program} {w : World} {K : PySem.W.Frag} {mg : Str → Option Value} {base hp : Heap} (T : Tx K mg hp) : C8.Met P w K mg base 1 (a_Ratio K) "den" (sp_Ratio_den K) [] := by
  obtain ⟨fd, F⟩ := T.fd_Ratio_den
  refine mkMet T.cl_Ratio T.me_Ratio_den F sc_Ratio_den (fun _ _ _ _ _ _ us hl => match us, hl with | [_], _ => rfl) (fun vs H Q E h => by unfold sp_Ratio_den at h; split at h <;> first | rfl | exact h.elim) (fun cdv A outer s H vs Q E hr h => ?_)
  have nd := sc_Ratio_den.nd
  have hu := hu_of hr
  unfold sp_Ratio_den at h
  split at h
  case h_2 => exact h.elim
  obtain ⟨p, ⟨a, dx, rfl, ha⟩, k⟩ := h
  refine ⟨_, (pss_one (ps_ret (pe_fld (pv 0) rfl))), ?_⟩
  exact ⟨_, rfl, a, _, dx, _, _, rfl, ha, T.cl_Ratio, T.na_Ratio_ratio_den, rfs_den p, k⟩
def sp_need_ratio (K : PySem.W.Frag) : Sp := fun vs H Q _ => match vs with
  | [v] => ∃ p, rR K H v p ∧ Q .non H
  | _ => False
theorem sc_need_ratio : FnScope ["value"] ["value"] (defScope s_need_ratio) := C8.fnScope_by (by decide +kernel)
theorem c_need_ratio {P : Program} {w : World} {K : PySem.W.Frag} {mg : Str → Option Value} {base hp : Heap} (T : Tx K mg hp) : C8.Cal P w K mg base 1 "need_ratio" (sp_need_ratio K) [] := by
  obtain ⟨fd, F⟩ := T.fd_need_ratio
  refine mkCal T.gl_need_ratio F sc_need_ratio (fun _ _ _ _ _ _ us hl => match us, hl with | [_], _ => rfl) (fun vs H Q E h => by unfold sp_need_ratio at h; split at h <;> first | rfl | exact h.elim) (fun cdv A outer s H vs Q E hr h => ?_)
  have nd := sc_need_ratio.nd
  have hu := hu_of hr
  unfold sp_need_ratio at h
  split at h
  case h_2 => exact h.elim
  obtain ⟨p, ⟨a, dx, rfl, ha⟩, k⟩ := h
  refine ⟨_, (pss_one (ps_if (pt_not (pt_val (pe_callB (C8.call_isC T.i_Ratio) (by rfl) T.fr_isinstance (by decide +kernel) (pa_cons (pv 0) (pa_cons (C8.pe_gc (by rfl) T.g_Ratio) pa_nil))))) pss_never pss_nil)), ?_⟩
  exact ⟨_, rfl, a, dx, _, rfl, ha, _, rfl, iteF k⟩
def bdR (p : Int × Int) : Prop := 0 < p.2 ∧ p.1.natAbs < 2 ^ 3000 ∧ p.2.natAbs < 2 ^ 3000
def mulR (p q : Int × Int) : Int × Int := nrm (p.1 * q.1) (p.2 * q.2)
def addR (p q : Int × Int) : Int × Int := nrm (p.1 * q.2 + q.1 * p.2) (p.2 * q.2)
def subR (p q : Int × Int) : Int × Int := nrm (p.1 * q.2 - q.1 * p.2) (p.2 * q.2)
def spR2 (K : PySem.W.Frag) (g : Int × Int → Int × Int → Int × Int) : Sp := fun vs H Q _ => match vs with
  | [v, u] => ∃ F p q, Same F H ∧ rR K F v p ∧ rR K F u q ∧ bdR p ∧ bdR q ∧ ∀ v F' H', Pu F H F' H' → rR K F' v (g p q) → Q v H'
  | _ => False
theorem rR_h {K : PySem.W.Frag} {F H : Hp} {v : V} {p : Int × Int} (e : Same F H) (h : rR K F v p) : rR K H v p := Up.up e h
set_option exponentiation.threshold 20000
theorem den_bd {p q : Int × Int} (hp : bdR p) (hq : bdR q) : 0 < p.2 * q.2 ∧ (p.2 * q.2).natAbs < 2 ^ 8000 :=
  ⟨Int.mul_pos hp.1 hq.1, Nat.lt_of_lt_of_le (wide_lt hp.2.2 hq.2.2) (Nat.pow_le_pow_right (by decide) (by decide))⟩
theorem mul_bd {i j : Int} (hi : i.natAbs < 2 ^ 3000) (hj : j.natAbs < 2 ^ 3000) : CMulW i j := wide_mul hi hj (by decide) (by decide) (by decide)
theorem rno {p : Int × Int} {m : Str} (h : ¬ m = "ratio_num" ∧ ¬ m = "ratio_den") : (rfs p).lookup m = none := rfs_no h.1 h.2
theorem no_num : ¬ (("num" : Str) = "ratio_num") ∧ ¬ (("num" : Str) = "ratio_den") := by decide +kernel
theorem no_den : ¬ (("den" : Str) = "ratio_num") ∧ ¬ (("den" : Str) = "ratio_den") := by decide +kernel
theorem no_add : ¬ (("add" : Str) = "ratio_num") ∧ ¬ (("add" : Str) = "ratio_den") := by decide +kernel
theorem no_sub : ¬ (("subtract" : Str) = "ratio_num") ∧ ¬ (("subtract" : Str) = "ratio_den") := by decide +kernel
theorem no_mul : ¬ (("multiply" : Str) = "ratio_num") ∧ ¬ (("multiply" : Str) = "ratio_den") := by decide +kernel
theorem sc_Ratio_multiply : FnScope ["self", "other"] ["self", "other"] (defScope s_Ratio_multiply) := C8.fnScope_by (by decide +kernel)
theorem c_Ratio_multiply {P : Program} {w : World} {K : PySem.W.Frag} {mg : Str → Option Value} {base hp : Heap} (T : Tx K mg hp) : C8.Met P w K mg base 4 (a_Ratio K) "multiply" (spR2 K mulR) [] := by
  obtain ⟨fd, F⟩ := T.fd_Ratio_multiply
  refine mkMet T.cl_Ratio T.me_Ratio_multiply F sc_Ratio_multiply (fun _ _ _ _ _ _ us hl => match us, hl with | [_, _], _ => rfl) (fun vs H Q E h => by unfold spR2 at h; split at h <;> first | rfl | exact h.elim) (fun cdv A outer s H vs Q E hr h => ?_)
  have nd := sc_Ratio_multiply.nd
  have hu := hu_of hr
  unfold spR2 at h
  split at h
  case h_2 => exact h.elim
  obtain ⟨F, p, q, e, hp, hq, bp, bq, k⟩ := h
  refine ⟨_, (pss_cons (ps_expr (C8.pe_c (c_need_ratio T) hr (by decide) (by rfl) (pa_cons (pv 1) pa_nil)))
      (pss_one (ps_ret (C8.pe_mk (c_Ratio T) hr (by decide) (by rfl) (pa_cons (pe_op op_mulW (C8.pe_mt0 (c_Ratio_num T) hr (by decide) (pv 0)) (C8.pe_mt0 (c_Ratio_num T) hr (by decide) (pv 1))) (pa_cons (pe_op op_mulW (C8.pe_mt0 (c_Ratio_den T) hr (by decide) (pv 0)) (C8.pe_mt0 (c_Ratio_den T) hr (by decide) (pv 1))) pa_nil)))))), ?_⟩
  have hp' := rR_h e hp
  have hq' := rR_h e hq
  obtain ⟨a, dx, rfl, ha⟩ := id hp'
  obtain ⟨b, dy, rfl, hb⟩ := id hq'
  refine ⟨_, rfl, q, hq', _, rfl, a, dx, _, rfl, ha, rno no_num, p, hp', _, rfl, b, dy, _, rfl, hb, rno no_num, q, hq', _, _, rfl, rfl, mul_bd bp.2.1 bq.2.1, ?_⟩
  refine ⟨_, rfl, a, dx, _, rfl, ha, rno no_den, p, hp', _, rfl, b, dy, _, rfl, hb, rno no_den, q, hq', _, _, rfl, rfl, mul_bd bp.2.2 bq.2.2, fun x dz nx nz ne => ?_⟩
  refine ⟨x, dz, _, _, rfl, rfl, rfl, upd_same, (den_bd bp bq).1, (den_bd bp bq).2, fun H' e' => ⟨rfl, ?_⟩⟩
  subst e'
  exact k _ _ _ (Gr.made e nx nz ne) ⟨x, dz, rfl, upd_same⟩
theorem sc_Ratio_add : FnScope ["self", "other"] ["self", "other"] (defScope s_Ratio_add) := C8.fnScope_by (by decide +kernel)
theorem c_Ratio_add {P : Program} {w : World} {K : PySem.W.Frag} {mg : Str → Option Value} {base hp : Heap} (T : Tx K mg hp) : C8.Met P w K mg base 4 (a_Ratio K) "add" (spR2 K addR) [] := by
  obtain ⟨fd, F⟩ := T.fd_Ratio_add
  refine mkMet T.cl_Ratio T.me_Ratio_add F sc_Ratio_add (fun _ _ _ _ _ _ us hl => match us, hl with | [_, _], _ => rfl) (fun vs H Q E h => by unfold spR2 at h; split at h <;> first | rfl | exact h.elim) (fun cdv A outer s H vs Q E hr h => ?_)
  have nd := sc_Ratio_add.nd
  have hu := hu_of hr
  unfold spR2 at h
  split at h
  case h_2 => exact h.elim
  obtain ⟨F, p, q, e, hp, hq, bp, bq, k⟩ := h
  refine ⟨_, (pss_cons (ps_expr (C8.pe_c (c_need_ratio T) hr (by decide) (by rfl) (pa_cons (pv 1) pa_nil)))
      (pss_one (ps_ret (C8.pe_mk (c_Ratio T) hr (by decide) (by rfl) (pa_cons (pe_op op_add (pe_op op_mulW (C8.pe_mt0 (c_Ratio_num T) hr (by decide) (pv 0)) (C8.pe_mt0 (c_Ratio_den T) hr (by decide) (pv 1))) (pe_op op_mulW (C8.pe_mt0 (c_Ratio_num T) hr (by decide) (pv 1)) (C8.pe_mt0 (c_Ratio_den T) hr (by decide) (pv 0)))) (pa_cons (pe_op op_mulW (C8.pe_mt0 (c_Ratio_den T) hr (by decide) (pv 0)) (C8.pe_mt0 (c_Ratio_den T) hr (by decide) (pv 1))) pa_nil)))))), ?_⟩
  have hp' := rR_h e hp
  have hq' := rR_h e hq
  obtain ⟨a, dx, rfl, ha⟩ := id hp'
  obtain ⟨b, dy, rfl, hb⟩ := id hq'
  refine ⟨_, rfl, q, hq', _, rfl, a, dx, _, rfl, ha, rno no_num, p, hp', _, rfl, b, dy, _, rfl, hb, rno no_den, q, hq', _, _, rfl, rfl, mul_bd bp.2.1 bq.2.2, ?_⟩
  refine ⟨_, rfl, b, dy, _, rfl, hb, rno no_num, q, hq', _, rfl, a, dx, _, rfl, ha, rno no_den, p, hp', _, _, rfl, rfl, mul_bd bq.2.1 bp.2.2, _, _, rfl, rfl, ?_⟩
  refine ⟨_, rfl, a, dx, _, rfl, ha, rno no_den, p, hp', _, rfl, b, dy, _, rfl, hb, rno no_den, q, hq', _, _, rfl, rfl, mul_bd bp.2.2 bq.2.2, fun x dz nx nz ne => ?_⟩
  refine ⟨x, dz, _, _, rfl, rfl, rfl, upd_same, (den_bd bp bq).1, (den_bd bp bq).2, fun H' e' => ⟨rfl, ?_⟩⟩
  subst e'
  exact k _ _ _ (Gr.made e nx nz ne) ⟨x, dz, rfl, upd_same⟩
theorem sc_Ratio_subtract : FnScope ["self", "other"] ["self", "other"] (defScope s_Ratio_subtract) := C8.fnScope_by (by decide +kernel)
theorem c_Ratio_subtract {P : Program} {w : World} {K : PySem.W.Frag} {mg : Str → Option Value} {base hp : Heap} (T : Tx K mg hp) : C8.Met P w K mg base 4 (a_Ratio K) "subtract" (spR2 K subR) [] := by
  obtain ⟨fd, F⟩ := T.fd_Ratio_subtract
  refine mkMet T.cl_Ratio T.me_Ratio_subtract F sc_Ratio_subtract (fun _ _ _ _ _ _ us hl => match us, hl with | [_, _], _ => rfl) (fun vs H Q E h => by unfold spR2 at h; split at h <;> first | rfl | exact h.elim) (fun cdv A outer s H vs Q E hr h => ?_)
  have nd := sc_Ratio_subtract.nd
  have hu := hu_of hr
  unfold spR2 at h
  split at h
  case h_2 => exact h.elim
  obtain ⟨F, p, q, e, hp, hq, bp, bq, k⟩ := h
  refine ⟨_, (pss_cons (ps_expr (C8.pe_c (c_need_ratio T) hr (by decide) (by rfl) (pa_cons (pv 1) pa_nil)))
      (pss_one (ps_ret (C8.pe_mk (c_Ratio T) hr (by decide) (by rfl) (pa_cons (pe_op op_sub (pe_op op_mulW (C8.pe_mt0 (c_Ratio_num T) hr (by decide) (pv 0)) (C8.pe_mt0 (c_Ratio_den T) hr (by decide) (pv 1))) (pe_op op_mulW (C8.pe_mt0 (c_Ratio_num T) hr (by decide) (pv 1)) (C8.pe_mt0 (c_Ratio_den T) hr (by decide) (pv 0)))) (pa_cons (pe_op op_mulW (C8.pe_mt0 (c_Ratio_den T) hr (by decide) (pv 0)) (C8.pe_mt0 (c_Ratio_den T) hr (by decide) (pv 1))) pa_nil)))))), ?_⟩
  have hp' := rR_h e hp
  have hq' := rR_h e hq
  obtain ⟨a, dx, rfl, ha⟩ := id hp'
  obtain ⟨b, dy, rfl, hb⟩ := id hq'
  refine ⟨_, rfl, q, hq', _, rfl, a, dx, _, rfl, ha, rno no_num, p, hp', _, rfl, b, dy, _, rfl, hb, rno no_den, q, hq', _, _, rfl, rfl, mul_bd bp.2.1 bq.2.2, ?_⟩
  refine ⟨_, rfl, b, dy, _, rfl, hb, rno no_num, q, hq', _, rfl, a, dx, _, rfl, ha, rno no_den, p, hp', _, _, rfl, rfl, mul_bd bq.2.1 bp.2.2, _, _, rfl, rfl, ?_⟩
  refine ⟨_, rfl, a, dx, _, rfl, ha, rno no_den, p, hp', _, rfl, b, dy, _, rfl, hb, rno no_den, q, hq', _, _, rfl, rfl, mul_bd bp.2.2 bq.2.2, fun x dz nx nz ne => ?_⟩
  refine ⟨x, dz, _, _, rfl, rfl, rfl, upd_same, (den_bd bp bq).1, (den_bd bp bq).2, fun H' e' => ⟨rfl, ?_⟩⟩
  subst e'
  exact k _ _ _ (Gr.made e nx nz ne) ⟨x, dz, rfl, upd_same⟩
/-- == of two ratios that are alike -/
def spReq (K : PySem.W.Frag) : Sp := fun vs H Q _ => match vs with
  | [v, u] => ∃ p, rR K H v p ∧ rR K H u p ∧ Q (.bl true) H
  | _ => False
theorem sc_Ratio_eq : FnScope ["self", "other"] ["self", "other"] (defScope s_Ratio_eq) := C8.fnScope_by (by decide +kernel)
theorem c_Ratio_eq {P : Program} {w : World} {K : PySem.W.Frag} {mg : Str → Option Value} {base hp : Heap} (T : Tx K mg hp) : C8.Met P w K mg base 2 (a_Ratio K) "__eq__" (spReq K) [] := by
  obtain ⟨fd, F⟩ := T.fd_Ratio_eq
  refine mkMet T.cl_Ratio T.me_Ratio_eq F sc_Ratio_eq (fun _ _ _ _ _ _ us hl => match us, hl with | [_, _], _ => rfl) (fun vs H Q E h => by unfold spReq at h; split at h <;> first | rfl | exact h.elim) (fun cdv A outer s H vs Q E hr h => ?_)
  have nd := sc_Ratio_eq.nd
  have hu := hu_of hr
  unfold spReq at h
  split at h
  case h_2 => exact h.elim
  obtain ⟨p, hp, hq, k⟩ := h
  refine ⟨_, (pss_one (ps_ret (pe_and (pe_callB (C8.call_isC T.i_Ratio) (by rfl) T.fr_isinstance (by decide +kernel) (pa_cons (pv 1) (pa_cons (C8.pe_gc (by rfl) T.g_Ratio) pa_nil))) (pe_and (pe_cmpR op_eq (C8.pe_mt0 (c_Ratio_num T) hr (by decide) (pv 0)) (C8.pe_mt0 (c_Ratio_num T) hr (by decide) (pv 1)) (nomark _)) (pe_one (pe_cmpR op_eq (C8.pe_mt0 (c_Ratio_den T) hr (by decide) (pv 0)) (C8.pe_mt0 (c_Ratio_den T) hr (by decide) (pv 1)) (nomark _))))))), ?_⟩
  obtain ⟨a, dx, rfl, ha⟩ := id hp
  obtain ⟨b, dy, rfl, hb⟩ := id hq
  refine ⟨_, rfl, b, dy, _, rfl, hb, _, rfl, iteT ?_⟩
  refine ⟨_, rfl, a, dx, _, rfl, ha, rno no_num, p, hp, _, rfl, b, dy, _, rfl, hb, rno no_num, p, hq, rfl, _, rfl, ?_⟩
  rw [decide_eq_true rfl]
  refine iteT ⟨_, rfl, a, dx, _, rfl, ha, rno no_den, p, hp, _, rfl, b, dy, _, rfl, hb, rno no_den, p, hq, rfl, ?_⟩
  rw [decide_eq_true rfl]
  exact k
end Rs
/-! text R3 -/
set_option Elab.async false
set_option linter.all false
set_option maxRecDepth 100000
set_option maxHeartbeats 4000000
namespace Rs
open PySem PySem.Spec PyProof.Rows L2
theorem sz2 : 2 ≤ sizeLine := by decide
def sp_need_ratios (K : PySem.W.Frag) : Sp := fun vs H Q _ => match vs with
  | [v] => ∃ F l, Same F H ∧ rL K (rR K) F v l ∧ ∀ F' H', Pu F H F' H' → Q .non H'
  | _ => False
theorem sc_need_ratios : FnScope ["values", "value"] ["values"] (defScope s_need_ratios) := C8.fnScope_by (by decide +kernel)
theorem c_need_ratios {P : Program} {w : World} {K : PySem.W.Frag} {mg : Str → Option Value} {base hp : Heap} (T : Tx K mg hp) : C8.Cal P w K mg base 2 "need_ratios" (sp_need_ratios K) [] := by
  obtain ⟨fd, F⟩ := T.fd_need_ratios
  refine mkCal T.gl_need_ratios F sc_need_ratios (fun _ _ _ _ _ _ us hl => match us, hl with | [_], _ => rfl) (fun vs H Q E h => by unfold sp_need_ratios at h; split at h <;> first | rfl | exact h.elim) (fun cdv A outer s H vs Q E hr h => ?_)
  have nd := sc_need_ratios.nd
  have hu := hu_of hr
  unfold sp_need_ratios at h
  split at h
  case h_2 => exact h.elim
  obtain ⟨F, l, e, ⟨a, xs, rfl, ha, hl⟩, k⟩ := h
  refine ⟨_, (pss_cons (ps_if (pt_not (pt_val (pe_callB call_isiT (by rfl) T.fr_isinstance (by decide +kernel) (pa_cons (pv 0) (pa_cons (pe_tup (pa_cons (pe_bltn (v := .ty "list") (u := .type "list") (by rfl) T.fr_list (by decide +kernel) rfl) (pa_cons (pe_bltn (v := .ty "tuple") (u := .type "tuple") (by rfl) T.fr_tuple (by decide +kernel) rfl) pa_nil))) pa_nil))))) pss_never pss_nil)
      (pss_one (ps_for PassesOwn.never rfl (pi_list (pv 0)) (pg_name (i := 1) nd rfl (Or.inl rfl)) (pss_one (ps_expr (C8.pe_c (c_need_ratio T) hr (by decide) (by rfl) (pa_cons (pv 1) pa_nil))))))), ?_⟩
  refine ⟨_, rfl, sz2, fun tp nt => ⟨_, tp, _, _, _, _, rfl, upd_same, .cons (.ty _) (.cons (.ty _) .nil), tyx_l (sql_s (upd_new nt) (sql_s e ha)), kl2 K, _, rfl, iteF ?_⟩⟩
  have g : Pu F H F (upd H tp (.tup [.ty "list", .ty "tuple"])) := Gr.newm e nt
  refine ⟨_, rfl, a, rfl, ⟨xs, sql_s g.fh ha⟩, for_list (K := K) (a := a) (xs := xs) (fun i σ H' => (∃ v, σ = [some (.ref a), v]) ∧ H' = upd H tp (.tup [.ty "list", .ty "tuple"])) ⟨⟨_, rfl⟩, rfl⟩ (fun i σ H' _ ⟨_, z⟩ => by rw [z]; exact sql_s g.fh ha) ?_ ?_⟩
  · rintro i y σ H' hi ⟨⟨v, rfl⟩, rfl⟩
    obtain ⟨p, _, hp⟩ := hl.get hi
    exact ⟨_, rfl, p, rR_h g.fh hp, ⟨_, rfl⟩, rfl⟩
  · rintro σ H' ⟨⟨v, rfl⟩, rfl⟩
    exact k _ _ g
def sumR (l : List (Int × Int)) : Int × Int := l.foldl addR (0, 1)
def prodR (l : List (Int × Int)) : Int × Int := l.foldl mulR (1, 1)
theorem nrm_01 : nrm 0 1 = (0, 1) := by decide +kernel
theorem nrm_11 : nrm 1 1 = (1, 1) := by decide +kernel
theorem fold_take {α β : Type} (f : β → α → β) (b : β) {l : List α} {i : Nat} {a : α} (h : l[i]? = some a) : (l.take (i + 1)).foldl f b = f ((l.take i).foldl f b) a := by
  rw [List.take_succ, h, List.foldl_append]
  rfl
def bdL (g : Int × Int → Int × Int → Int × Int) (b : Int × Int) (l : List (Int × Int)) : Prop := (∀ p ∈ l, bdR p) ∧ ∀ i, i ≤ l.length → bdR ((l.take i).foldl g b)
def sp_ratio_sum (K : PySem.W.Frag) : Sp := fun vs H Q _ => match vs with
  | [v, u] => ∃ F l, u = .non ∧ Same F H ∧ rL K (rR K) F v l ∧ bdL addR (0, 1) l ∧ ∀ v F' H', Pu F H F' H' → rR K F' v (sumR l) → Q v H'
  | _ => False
theorem sc_ratio_sum : FnScope ["values", "start", "total", "value"] ["values", "start"] (defScope s_ratio_sum) := C8.fnScope_by (by decide +kernel)
theorem c_ratio_sum {P : Program} {w : World} {K : PySem.W.Frag} {mg : Str → Option Value} {base hp : Heap} (T : Tx K mg hp) : C8.Cal P w K mg base 5 "ratio_sum" (sp_ratio_sum K) [.non] := by
  obtain ⟨fd, F⟩ := T.fd_ratio_sum
  obtain ⟨ks, hv, hb⟩ := F.binds0 (ps := ["values", "start"]) 1 (by simp) rfl fun D doc pm an cdv ct us ks hu hk => match us, ks, hu, hk with | [_], [_], _, _ => ⟨_, _, _, _, _, _, rfl, rfl, rfl⟩
  refine ⟨_, fd, _, ks, fnok_of F sc_ratio_sum (fun vs H Q E h => by unfold sp_ratio_sum at h; split at h <;> first | rfl | exact h.elim) (fun cdv A outer s H vs Q E hr h => ?_), T.gl_ratio_sum, F.kp, hb, hv⟩
  have nd := sc_ratio_sum.nd
  have hu := hu_of hr
  unfold sp_ratio_sum at h
  split at h
  case h_2 => exact h.elim
  obtain ⟨F, l, rfl, e, hL, ⟨bl, bs⟩, k⟩ := h
  refine ⟨_, (pss_cons (ps_expr (C8.pe_c (c_need_ratios T) hr (by decide) (by rfl) (pa_cons (pv 0) pa_nil)))
      (pss_cons (ps_if (pt_cmpR op_notN (pv 1) pe_non (nomark _)) (pss_one (ps_expr (C8.pe_c (c_need_ratio T) hr (by decide) (by rfl) (pa_cons (pv 1) pa_nil)))) pss_nil)
      (pss_cons (ps_set (i := 2) nd rfl (Or.inl rfl) (pe_ifExp (pt_cmpR op_isN (pv 1) pe_non (nomark _)) (C8.pe_mk (c_Ratio1 T) hr (by decide) (by rfl) (pa_cons pe_int pa_nil)) (pv 1)))
      (pss_cons (ps_for PassesOwn.never rfl (pi_list (pv 0)) (pg_name (i := 3) nd rfl (Or.inl rfl)) (pss_one (ps_set (i := 2) nd rfl (Or.inl rfl) (C8.pe_mt (c_Ratio_add T) hr (by decide) (pv 2) (pa_cons (pv 3) pa_nil)))))
      (pss_one (ps_ret (pv 2))))))), ?_⟩
  obtain ⟨a, xs, rfl, ha, hl⟩ := id hL
  refine ⟨_, rfl, F, l, e, hL, fun F1 H1 g1 => ?_⟩
  refine ⟨_, rfl, rfl, _, rfl, iteF ⟨_, rfl, rfl, _, rfl, iteT ?_⟩⟩
  refine fun x dz nx nz ne => ⟨x, dz, _, _, rfl, rfl, rfl, upd_same, by decide, (by show 1 < 2 ^ 8000; exact Nat.one_lt_two_pow (by decide)), fun H' e' => ⟨rfl, ?_⟩⟩
  subst e'
  have g2 := g1.trans (Gr.made (o0 := .ins (a_Ratio K) dz []) (o := .ins (a_Ratio K) dz (rfs (nrm 0 1))) g1.fh nx nz ne)
  refine ⟨_, rfl, a, rfl, ⟨xs, sql_s g2.fh (sql_s g2.f ha)⟩, for_list (K := K) (a := a) (xs := xs) (fun i σ H' => ∃ F' v t, σ = [some (.ref a), some .non, some t, v] ∧ Pu F H F' H' ∧ rR K F' t ((l.take i).foldl addR (0, 1)))
    ⟨_, _, _, rfl, g2, x, dz, rfl, (made_at (o := .ins (a_Ratio K) dz (rfs (nrm 0 1)))).trans (by rw [nrm_01]; rfl)⟩ (fun i σ H' _ ⟨F', v, t, _, g, _⟩ => sql_s g.fh (sql_s g.f ha)) ?_ ?_⟩
  · rintro i y σ H' hi ⟨F', v, t, rfl, g, ht⟩
    obtain ⟨p, hp, rp⟩ := hl.get hi
    have hi' : i ≤ l.length := Nat.le_of_lt (List.getElem?_eq_some_iff.mp hp).1
    obtain ⟨b, dx, rfl, hb⟩ := id ht
    have rp' := Up.up g.f rp
    refine ⟨_, rfl, b, dx, _, rfl, g.fh _ _ hb, rno no_add, _, rfl, F', _, p, g.fh, ht, rp', bs i hi', bl p (List.mem_of_getElem? hp), fun v' F2 H2 g3 hv => ?_⟩
    exact ⟨F2, _, v', rfl, g.trans g3, by rw [fold_take _ _ hp]; exact hv⟩
  · rintro σ H' ⟨F', v, t, rfl, g, ht⟩
    refine ⟨t, rfl, k t F' H' g ?_⟩
    have e2 : l.take xs.length = l := List.take_of_length_le (by rw [hl.length]; exact Nat.le_refl _)
    rw [e2] at ht
    exact ht
def sp_ratio_product (K : PySem.W.Frag) : Sp := fun vs H Q _ => match vs with
  | [v] => ∃ F l, Same F H ∧ rL K (rR K) F v l ∧ bdL mulR (1, 1) l ∧ ∀ v F' H', Pu F H F' H' → rR K F' v (prodR l) → Q v H'
  | _ => False
theorem sc_ratio_product : FnScope ["values", "product", "value"] ["values"] (defScope s_ratio_product) := C8.fnScope_by (by decide +kernel)
theorem c_ratio_product {P : Program} {w : World} {K : PySem.W.Frag} {mg : Str → Option Value} {base hp : Heap} (T : Tx K mg hp) : C8.Cal P w K mg base 5 "ratio_product" (sp_ratio_product K) [] := by
  obtain ⟨fd, F⟩ := T.fd_ratio_product
  refine mkCal T.gl_ratio_product F sc_ratio_product (fun _ _ _ _ _ _ us hl => match us, hl with | [_], _ => rfl) (fun vs H Q E h => by unfold sp_ratio_product at h; split at h <;> first | rfl | exact h.elim) (fun cdv A outer s H vs Q E hr h => ?_)
  have nd := sc_ratio_product.nd
  have hu := hu_of hr
  unfold sp_ratio_product at h
  split at h
  case h_2 => exact h.elim
  obtain ⟨F, l, e, hL, ⟨bl, bs⟩, k⟩ := h
  refine ⟨_, (pss_cons (ps_expr (C8.pe_c (c_need_ratios T) hr (by decide) (by rfl) (pa_cons (pv 0) pa_nil)))
      (pss_cons (ps_set (i := 1) nd rfl (Or.inl rfl) (C8.pe_mk (c_Ratio1 T) hr (by decide) (by rfl) (pa_cons pe_int pa_nil)))
      (pss_cons (ps_for PassesOwn.never rfl (pi_list (pv 0)) (pg_name (i := 2) nd rfl (Or.inl rfl)) (pss_one (ps_set (i := 1) nd rfl (Or.inl rfl) (C8.pe_mt (c_Ratio_multiply T) hr (by decide) (pv 1) (pa_cons (pv 2) pa_nil)))))
      (pss_one (ps_ret (pv 1)))))), ?_⟩
  obtain ⟨a, xs, rfl, ha, hl⟩ := id hL
  refine ⟨_, rfl, F, l, e, hL, fun F1 H1 g1 => ?_⟩
  refine fun x dz nx nz ne => ⟨x, dz, _, _, rfl, rfl, rfl, upd_same, by decide, (by show 1 < 2 ^ 8000; exact Nat.one_lt_two_pow (by decide)), fun H' e' => ⟨rfl, ?_⟩⟩
  subst e'
  have g2 := g1.trans (Gr.made (o0 := .ins (a_Ratio K) dz []) (o := .ins (a_Ratio K) dz (rfs (nrm 1 1))) g1.fh nx nz ne)
  refine ⟨_, rfl, a, rfl, ⟨xs, sql_s g2.fh (sql_s g2.f ha)⟩, for_list (K := K) (a := a) (xs := xs) (fun i σ H' => ∃ F' v t, σ = [some (.ref a), some t, v] ∧ Pu F H F' H' ∧ rR K F' t ((l.take i).foldl mulR (1, 1)))
    ⟨_, _, _, rfl, g2, x, dz, rfl, (made_at (o := .ins (a_Ratio K) dz (rfs (nrm 1 1)))).trans (by rw [nrm_11]; rfl)⟩ (fun i σ H' _ ⟨F', v, t, _, g, _⟩ => sql_s g.fh (sql_s g.f ha)) ?_ ?_⟩
  · rintro i y σ H' hi ⟨F', v, t, rfl, g, ht⟩
    obtain ⟨p, hp, rp⟩ := hl.get hi
    have hi' : i ≤ l.length := Nat.le_of_lt (List.getElem?_eq_some_iff.mp hp).1
    obtain ⟨b, dx, rfl, hb⟩ := id ht
    have rp' := Up.up g.f rp
    refine ⟨_, rfl, b, dx, _, rfl, g.fh _ _ hb, rno no_mul, _, rfl, F', _, p, g.fh, ht, rp', bs i hi', bl p (List.mem_of_getElem? hp), fun v' F2 H2 g3 hv => ?_⟩
    exact ⟨F2, _, v', rfl, g.trans g3, by rw [fold_take _ _ hp]; exact hv⟩
  · rintro σ H' ⟨F', v, t, rfl, g, ht⟩
    refine ⟨t, rfl, k t F' H' g ?_⟩
    have e2 : l.take xs.length = l := List.take_of_length_le (by rw [hl.length]; exact Nat.le_refl _)
    rw [e2] at ht
    exact ht
end Rs
/-! text Rk2 -/
set_option Elab.async false
set_option linter.all false
set_option maxRecDepth 100000
set_option maxHeartbeats 4000000
namespace Rs
open PySem PySem.Spec PyProof.Rows L2
theorem lt_line {n : Nat} (h : n ≤ 1000000) : n < sizeLine := Nat.lt_of_le_of_lt h (by decide)
theorem le_line {n : Nat} (h : n ≤ 1000000) : n ≤ sizeLine := Nat.le_trans h (by decide)
/-- a list under construction at D, new since F, H -/
structure Acc {α : Type} (M : Addr → Prop) (R : Rep α) (F H F' H' : Hp) (D : Addr) (l : List α) : Prop where
  g : Gr M F H F' H'
  n0 : H D = none
  n : F' D = none
  ex : ∃ acc, H' D = some (.lst acc) ∧ All2 R F' acc l
theorem Acc.begin {α : Type} {M : Addr → Prop} {R : Rep α} {F H : Hp} {D : Addr} (e : Same F H) (hD : H D = none) : Acc M R F H F (upd H D (.lst [])) D [] :=
  ⟨Gr.newm e hD, hD, e.free hD, [], upd_same, Paired.nil⟩
theorem Acc.up {α : Type} {M : Addr → Prop} {R : Rep α} [Up R] {F H F1 H1 F2 H2 : Hp} {D : Addr} {l : List α} (a : Acc M R F H F1 H1 D l) (g : Gr M F1 H1 F2 H2) (hm : ¬ M D) : Acc M R F H F2 H2 D l := by
  obtain ⟨acc, h1, h2⟩ := a.ex
  exact ⟨a.g.trans g, a.n0, g.nw D a.n (by rw [h1]; exact fun z => nomatch z), acc, g.h D _ hm h1, h2.up g.x⟩
theorem Acc.push {α : Type} {M : Addr → Prop} {R : Rep α} {F H F1 H1 : Hp} {D : Addr} {l : List α} {v : V} {y : α} (a : Acc M R F H F1 H1 D l) (hv : R F1 v y) :
    ∃ acc, H1 D = some (.lst acc) ∧ acc.length = l.length ∧ Acc M R F H F1 (upd H1 D (.lst (acc ++ [v]))) D (l ++ [y]) := by
  obtain ⟨acc, h1, h2⟩ := a.ex
  exact ⟨acc, h1, h2.length, a.g.mut a.n a.n0, a.n0, a.n, _, upd_same, h2.snoc hv⟩
theorem Acc.done {α : Type} {M : Addr → Prop} {K : PySem.W.Frag} {R : Rep α} [Up R] {F H F1 H1 : Hp} {D : Addr} {l : List α} (a : Acc M R F H F1 H1 D l) : ∃ F2, Gr M F H F2 H1 ∧ Same F1 F2 ∧ rL K R F2 (.ref D) l := by
  obtain ⟨acc, h1, h2⟩ := a.ex
  exact ⟨_, a.g.frz a.n a.n0 h1, upd_new a.n, D, acc, rfl, SqL.of upd_same, h2.up (upd_new a.n)⟩
/-- a comprehension over anything that is walked; each turn makes objects only -/
theorem lcW {J : It} {n : Nat} {G : Hp → Prop} {Y : Nat → Hp → V → Hp → Prop} {K : PySem.W.Frag} {α β : Type} {RA : Rep α} {R : Rep β} [Up R] {g : TG} {tt : TT} {te : TE} {vs : List Nat} {σ : L2.St} {F H : Hp} {Q : Addr → Hp → Prop} (w : Walk J n G Y) (src : List α) (f : α → β) (p : α → Bool)
    (e : Same F H) (hn : n = src.length) (hz : n ≤ 1000000) (hG : ∀ F1 H1, Pu F H F1 H1 → G H1)
    (hsrc : ∀ i x F1 H1 H2, i < n → Pu F H F1 H1 → Y i H1 x H2 → ∃ y F2, src[i]? = some y ∧ Pu F1 H1 F2 H2 ∧ RA F2 x y)
    (hs : ∀ y x F1 H1, y ∈ src → Pu F H F1 H1 → RA F1 x y → ∀ (Kt : V → Hp → Prop) (Kf : Hp → Prop), (p y = true → ∀ v F2 H2, Pu F1 H1 F2 H2 → R F2 v (f y) → Kt v H2) → (p y = false → ∀ F2 H2, Pu F1 H1 F2 H2 → Kf H2) →
      g x (wipe σ vs) H1 fun σ2 H2 => wipe σ2 vs = wipe σ vs ∧ tt σ2 H2 fun b H3 => if b = true then te σ2 H3 Kt else Kf H3)
    (hd : ∀ D F' H', Pu F H F' H' → rL K R F' (.ref D) ((src.filter p).map f) → Q D H') :
    ∀ D, H D = none → ∃ W : Nat → Nat → Hp → Prop, (∃ m, W 0 m (upd H D (.lst []))) ∧ ∀ i m H, W i m H →
      (J.stop i H ∧ Q D H) ∨ (J.go i H ∧ ∃ Nx : Hp → Prop, (∀ H', Nx H' → ∃ m', m' < m ∧ W (i + 1) m' H') ∧ ∀ x H', J.yld i H x H' → g x (wipe σ vs) H' fun σ2 H2 => wipe σ2 vs = wipe σ vs ∧ tt σ2 H2 fun b H3 =>
        if b = true then te σ2 H3 fun y H4 => ∃ acc, H4 D = some (.lst acc) ∧ acc.length < sizeLine ∧ Nx (upd H4 D (.lst (acc ++ [y]))) else Nx H3) := by
  intro D hD
  refine lc_it w (fun i H' => ∃ F', Acc NoM R F H F' H' D (((src.take i).filter p).map f)) ⟨F, Acc.begin e hD⟩ (fun i H' _ ⟨F', a⟩ => hG F' H' a.g) ?_ ?_
  · rintro i x H1 H2 hi ⟨F1, a⟩ y
    obtain ⟨z, F2, hz1, g1, rz⟩ := hsrc i x F1 H1 H2 hi a.g y
    have a2 := a.up g1 (fun z => z)
    refine hs z x F2 H2 (List.mem_of_getElem? hz1) a2.g rz _ _ (fun hp v F3 H3 g2 hv => ?_) (fun hp F3 H3 g2 => ?_)
    · obtain ⟨acc, h1, h2, h3⟩ := (a2.up g2 (fun z => z)).push hv
      refine ⟨acc, h1, ?_, F3, ?_⟩
      · rw [h2, List.length_map]
        refine lt_line (Nat.le_trans (List.length_filter_le _ _) ?_)
        rw [List.length_take]
        omega
      · rw [List.take_succ, hz1, List.filter_append, List.map_append]
        have e1 : (List.filter p (some z).toList).map f = [f z] := by
          show (List.filter p [z]).map f = [f z]
          rw [List.filter_cons, if_pos hp]
          rfl
        rw [e1]
        exact h3
    · refine ⟨F3, ?_⟩
      rw [List.take_succ, hz1, List.filter_append, List.map_append]
      have e1 : (List.filter p (some z).toList).map f = [] := by
        show (List.filter p [z]).map f = []
        rw [List.filter_cons, if_neg (by rw [hp]; exact Bool.false_ne_true)]
        rfl
      rw [e1, List.append_nil]
      exact a2.up g2 (fun z => z)
  · rintro H' ⟨F', a⟩
    obtain ⟨F2, g2, _, h2⟩ := a.done (K := K)
    rw [List.take_of_length_le (by omega)] at h2
    exact hd D F2 H' g2 h2
/-- .. over a list -/
theorem lcL {K : PySem.W.Frag} {α β : Type} {RA : Rep α} [Up RA] {R : Rep β} [Up R] {g : TG} {tt : TT} {te : TE} {vs : List Nat} {σ : L2.St} {F H : Hp} {Q : Addr → Hp → Prop} {a : Addr} {xs : List V} {l : List α} (f : α → β) (p : α → Bool)
    (e : Same F H) (hx : SqL K F a xs) (hl : All2 RA F xs l) (hz : l.length ≤ 1000000)
    (hs : ∀ y x F1 H1, y ∈ l → Pu F H F1 H1 → RA F1 x y → ∀ (Kt : V → Hp → Prop) (Kf : Hp → Prop), (p y = true → ∀ v F2 H2, Pu F1 H1 F2 H2 → R F2 v (f y) → Kt v H2) → (p y = false → ∀ F2 H2, Pu F1 H1 F2 H2 → Kf H2) →
      g x (wipe σ vs) H1 fun σ2 H2 => wipe σ2 vs = wipe σ vs ∧ tt σ2 H2 fun b H3 => if b = true then te σ2 H3 Kt else Kf H3)
    (hd : ∀ D F' H', Pu F H F' H' → rL K R F' (.ref D) ((l.filter p).map f) → Q D H') :
    ∀ D, H D = none → ∃ W : Nat → Nat → Hp → Prop, (∃ m, W 0 m (upd H D (.lst []))) ∧ ∀ i m H, W i m H →
      ((Itl K a).stop i H ∧ Q D H) ∨ ((Itl K a).go i H ∧ ∃ Nx : Hp → Prop, (∀ H', Nx H' → ∃ m', m' < m ∧ W (i + 1) m' H') ∧ ∀ x H', (Itl K a).yld i H x H' → g x (wipe σ vs) H' fun σ2 H2 => wipe σ2 vs = wipe σ vs ∧ tt σ2 H2 fun b H3 =>
        if b = true then te σ2 H3 fun y H4 => ∃ acc, H4 D = some (.lst acc) ∧ acc.length < sizeLine ∧ Nx (upd H4 D (.lst (acc ++ [y]))) else Nx H3) :=
  lcW (walk_list (K := K) (a := a) (xs := xs)) l f p e hl.length (by rw [hl.length]; exact hz) (fun F1 H1 g => sql_s g.fh (sql_s g.f hx))
    (fun i x F1 H1 H2 hi g ⟨e2, hx2⟩ => by
      obtain ⟨y, h1, h2⟩ := hl.get hx2
      subst e2
      exact ⟨y, F1, h1, Gr.refl g.fh, Up.up g.x h2⟩) hs hd
theorem lcT {K : PySem.W.Frag} {α β : Type} {RA : Rep α} [Up RA] {R : Rep β} [Up R] {g : TG} {tt : TT} {te : TE} {vs : List Nat} {σ : L2.St} {F H : Hp} {Q : Addr → Hp → Prop} {a : Addr} {xs : List V} {l : List α} (f : α → β) (p : α → Bool)
    (e : Same F H) (hx : SqT K F a xs) (hl : All2 RA F xs l) (hz : l.length ≤ 1000000)
    (hs : ∀ y x F1 H1, y ∈ l → Pu F H F1 H1 → RA F1 x y → ∀ (Kt : V → Hp → Prop) (Kf : Hp → Prop), (p y = true → ∀ v F2 H2, Pu F1 H1 F2 H2 → R F2 v (f y) → Kt v H2) → (p y = false → ∀ F2 H2, Pu F1 H1 F2 H2 → Kf H2) →
      g x (wipe σ vs) H1 fun σ2 H2 => wipe σ2 vs = wipe σ vs ∧ tt σ2 H2 fun b H3 => if b = true then te σ2 H3 Kt else Kf H3)
    (hd : ∀ D F' H', Pu F H F' H' → rL K R F' (.ref D) ((l.filter p).map f) → Q D H') :
    ∀ D, H D = none → ∃ W : Nat → Nat → Hp → Prop, (∃ m, W 0 m (upd H D (.lst []))) ∧ ∀ i m H, W i m H →
      ((Itt K a).stop i H ∧ Q D H) ∨ ((Itt K a).go i H ∧ ∃ Nx : Hp → Prop, (∀ H', Nx H' → ∃ m', m' < m ∧ W (i + 1) m' H') ∧ ∀ x H', (Itt K a).yld i H x H' → g x (wipe σ vs) H' fun σ2 H2 => wipe σ2 vs = wipe σ vs ∧ tt σ2 H2 fun b H3 =>
        if b = true then te σ2 H3 fun y H4 => ∃ acc, H4 D = some (.lst acc) ∧ acc.length < sizeLine ∧ Nx (upd H4 D (.lst (acc ++ [y]))) else Nx H3) :=
  lcW (walk_tup (K := K) (a := a) (xs := xs)) l f p e hl.length (by rw [hl.length]; exact hz) (fun F1 H1 g => sqt_s g.fh (sqt_s g.f hx))
    (fun i x F1 H1 H2 hi g ⟨e2, hx2⟩ => by
      obtain ⟨y, h1, h2⟩ := hl.get hx2
      subst e2
      exact ⟨y, F1, h1, Gr.refl g.fh, Up.up g.x h2⟩) hs hd
/-- .. over a text -/
def rC : Rep Nat := fun _ v c => v = .str ⟨#[c]⟩
instance : Ux rC := ⟨fun _ h => h⟩
theorem lcS {K : PySem.W.Frag} {β : Type} {R : Rep β} [Up R] {g : TG} {tt : TT} {te : TE} {vs : List Nat} {σ : L2.St} {F H : Hp} {Q : Addr → Hp → Prop} {z : Str} (f : Nat → β) (p : Nat → Bool)
    (e : Same F H) (hz : z.cps.size ≤ 1000000)
    (hs : ∀ y x F1 H1, y ∈ z.cps.toList → Pu F H F1 H1 → rC F1 x y → ∀ (Kt : V → Hp → Prop) (Kf : Hp → Prop), (p y = true → ∀ v F2 H2, Pu F1 H1 F2 H2 → R F2 v (f y) → Kt v H2) → (p y = false → ∀ F2 H2, Pu F1 H1 F2 H2 → Kf H2) →
      g x (wipe σ vs) H1 fun σ2 H2 => wipe σ2 vs = wipe σ vs ∧ tt σ2 H2 fun b H3 => if b = true then te σ2 H3 Kt else Kf H3)
    (hd : ∀ D F' H', Pu F H F' H' → rL K R F' (.ref D) ((z.cps.toList.filter p).map f) → Q D H') :
    ∀ D, H D = none → ∃ W : Nat → Nat → Hp → Prop, (∃ m, W 0 m (upd H D (.lst []))) ∧ ∀ i m H, W i m H →
      ((Its z).stop i H ∧ Q D H) ∨ ((Its z).go i H ∧ ∃ Nx : Hp → Prop, (∀ H', Nx H' → ∃ m', m' < m ∧ W (i + 1) m' H') ∧ ∀ x H', (Its z).yld i H x H' → g x (wipe σ vs) H' fun σ2 H2 => wipe σ2 vs = wipe σ vs ∧ tt σ2 H2 fun b H3 =>
        if b = true then te σ2 H3 fun y H4 => ∃ acc, H4 D = some (.lst acc) ∧ acc.length < sizeLine ∧ Nx (upd H4 D (.lst (acc ++ [y]))) else Nx H3) :=
  lcW (walk_str (z := z)) z.cps.toList f p e (by simp) hz (fun F1 H1 g => trivial)
    (fun i x F1 H1 H2 hi g ⟨e2, c, hc, hx2⟩ => by
      subst e2
      exact ⟨c, F1, by simpa using hc, Gr.refl g.fh, hx2⟩) hs hd
/-- .. over a range -/
theorem lcR {K : PySem.W.Frag} {β : Type} {R : Rep β} [Up R] {g : TG} {tt : TT} {te : TE} {vs : List Nat} {σ : L2.St} {F H : Hp} {Q : Addr → Hp → Prop} {lo : Int} {n : Nat} (f : Nat → β) (p : Nat → Bool)
    (e : Same F H) (hz : n ≤ 1000000)
    (hs : ∀ y F1 H1, y < n → Pu F H F1 H1 → ∀ (Kt : V → Hp → Prop) (Kf : Hp → Prop), (p y = true → ∀ v F2 H2, Pu F1 H1 F2 H2 → R F2 v (f y) → Kt v H2) → (p y = false → ∀ F2 H2, Pu F1 H1 F2 H2 → Kf H2) →
      g (.int (lo + (y : Int))) (wipe σ vs) H1 fun σ2 H2 => wipe σ2 vs = wipe σ vs ∧ tt σ2 H2 fun b H3 => if b = true then te σ2 H3 Kt else Kf H3)
    (hd : ∀ D F' H', Pu F H F' H' → rL K R F' (.ref D) (((List.range n).filter p).map f) → Q D H') :
    ∀ D, H D = none → ∃ W : Nat → Nat → Hp → Prop, (∃ m, W 0 m (upd H D (.lst []))) ∧ ∀ i m H, W i m H →
      ((Itr lo n).stop i H ∧ Q D H) ∨ ((Itr lo n).go i H ∧ ∃ Nx : Hp → Prop, (∀ H', Nx H' → ∃ m', m' < m ∧ W (i + 1) m' H') ∧ ∀ x H', (Itr lo n).yld i H x H' → g x (wipe σ vs) H' fun σ2 H2 => wipe σ2 vs = wipe σ vs ∧ tt σ2 H2 fun b H3 =>
        if b = true then te σ2 H3 fun y H4 => ∃ acc, H4 D = some (.lst acc) ∧ acc.length < sizeLine ∧ Nx (upd H4 D (.lst (acc ++ [y]))) else Nx H3) :=
  lcW (RA := fun _ v (i : Nat) => v = .int (lo + (i : Int)) ∧ i < n) (walk_range (lo := lo) (n := n)) (List.range n) f p e (by simp) hz (fun F1 H1 g => trivial)
    (fun i x F1 H1 H2 hi g ⟨e2, hx2⟩ => by
      subst e2
      exact ⟨i, F1, by simp [hi], Gr.refl g.fh, hx2, hi⟩) (fun y x F1 H1 hy g ⟨hx, hi⟩ => by rw [hx]; exact hs y F1 H1 hi g) hd
theorem ptrue {α : Type} (l : List α) : l.filter (fun _ => true) = l := List.filter_eq_self.mpr fun _ _ => rfl
/-- what a boolean list says -/
theorem rlb {K : PySem.W.Frag} {F : Hp} {v : V} {l : List Bool} (h : rL K rB F v l) : ∃ a, v = .ref a ∧ SqL K F a (l.map V.bl) := by
  obtain ⟨a, xs, rfl, h1, h2⟩ := h
  rw [all2_bl h2] at h1
  exact ⟨a, rfl, h1⟩
theorem rls {K : PySem.W.Frag} {F : Hp} {v : V} {l : List Str} (h : rL K rS F v l) : ∃ a, v = .ref a ∧ SqL K F a (l.map V.str) := by
  obtain ⟨a, xs, rfl, h1, h2⟩ := h
  rw [all2_str h2] at h1
  exact ⟨a, rfl, h1⟩
theorem rli {K : PySem.W.Frag} {F : Hp} {v : V} {l : List Int} (h : rL K rI F v l) : ∃ a, v = .ref a ∧ SqL K F a (l.map V.int) := by
  obtain ⟨a, xs, rfl, h1, h2⟩ := h
  rw [all2_int h2] at h1
  exact ⟨a, rfl, h1⟩
theorem rls_of {K : PySem.W.Frag} {F : Hp} {a : Addr} {l : List Str} (h : SqL K F a (l.map V.str)) : rL K rS F (.ref a) l := ⟨a, _, rfl, h, str_all2 l⟩
theorem rli_of {K : PySem.W.Frag} {F : Hp} {a : Addr} {l : List Int} (h : SqL K F a (l.map V.int)) : rL K rI F (.ref a) l := ⟨a, _, rfl, h, int_all2 l⟩
/-- len of a dict, locked or not -/
theorem call_lenR {X : Cx} : CallR X (.builtin "len") (fun xs H Q => ∃ a kvs, xs = [V.ref a] ∧ Rd H a (.dK kvs) ∧ Q (.int kvs.length) H) := by
  intro pins s σ H xs us Q I r h
  obtain ⟨a, kvs, rfl, ha, q⟩ := h
  obtain ⟨u, rfl, ru⟩ := vals1 r
  cases ru
  exact d_len I ha fun t s' I' => ⟨.int kvs.length, H, I', ⟨t, rfl⟩, q⟩
/-- is a text in a list of texts -/
theorem inv_str (x : Str) : ∀ l : List Str, inV (.str x) (l.map V.str) = decide (x ∈ l)
  | [] => by simp [inV]
  | y :: l => by
    have ih := inv_str x l
    unfold inV at ih ⊢
    rw [List.map_cons, List.any_cons, ih]
    show (eqV (.str y) (.str x) || decide (x ∈ l)) = decide (x ∈ y :: l)
    have e : eqV (.str y) (.str x) = decide (y = x) := rfl
    rw [e]
    by_cases h : y = x
    · subst h; simp
    · have h' : ¬ x = y := fun z => h z.symm
      simp [h, h']
theorem flat_strs (l : List Str) : (l.map V.str).all flatV = true := by
  rw [List.all_eq_true]
  intro v hv
  obtain ⟨s, _, rfl⟩ := List.mem_map.mp hv
  rfl
theorem op_in_seqK {X : Cx} {K : PySem.W.Frag} (h : X.K = K) : OpR X (compareOp .In) (rIn K false) := h ▸ op_in_seq
theorem op_notIn_seqK {X : Cx} {K : PySem.W.Frag} (h : X.K = K) : OpR X (compareOp .NotIn) (rIn K true) := h ▸ op_notIn_seq
end Rs
/-! text R4 -/
set_option Elab.async false
set_option linter.all false
set_option maxRecDepth 100000
set_option maxHeartbeats 4000000
namespace Rs
open PySem PySem.Spec PyProof.Rows L2
def sp_is_list (K : PySem.W.Frag) : Sp := fun vs H Q _ => match vs with
  | [v] => ∃ F a xs, v = .ref a ∧ Same F H ∧ SqL K H a xs ∧ ∀ F' H', Pu F H F' H' → Q (.bl true) H'
  | _ => False
theorem sc_is_list : FnScope ["value"] ["value"] (defScope s_is_list) := C8.fnScope_by (by decide +kernel)
theorem c_is_list {P : Program} {w : World} {K : PySem.W.Frag} {mg : Str → Option Value} {base hp : Heap} (T : Tx K mg hp) : C8.Cal P w K mg base 1 "is_list" (sp_is_list K) [] := by
  obtain ⟨fd, F⟩ := T.fd_is_list
  refine mkCal T.gl_is_list F sc_is_list (fun _ _ _ _ _ _ us hl => match us, hl with | [_], _ => rfl) (fun vs H Q E h => by unfold sp_is_list at h; split at h <;> first | rfl | exact h.elim) (fun cdv A outer s H vs Q E hr h => ?_)
  have nd := sc_is_list.nd
  have hu := hu_of hr
  unfold sp_is_list at h
  split at h
  case h_2 => exact h.elim
  obtain ⟨F, a, xs, rfl, e, ha, k⟩ := h
  refine ⟨_, (pss_one (ps_ret (pe_callB call_isiT (by rfl) T.fr_isinstance (by decide +kernel) (pa_cons (pv 0) (pa_cons (pe_tup (pa_cons (pe_bltn (v := .ty "list") (u := .type "list") (by rfl) T.fr_list (by decide +kernel) rfl) (pa_cons (pe_bltn (v := .ty "tuple") (u := .type "tuple") (by rfl) T.fr_tuple (by decide +kernel) rfl) pa_nil))) pa_nil))))), ?_⟩
  exact ⟨_, rfl, sz2, fun tp nt => ⟨_, tp, _, _, _, _, rfl, upd_same, .cons (.ty _) (.cons (.ty _) .nil), tyx_l (sql_s (upd_new nt) ha), kl2 K, k _ _ (Gr.newm e nt)⟩⟩
def sp_is_integer : Sp := fun vs H Q _ => match vs with
  | [v, a, b] => ∃ i lo hi : Int, v = .int i ∧ a = .int lo ∧ b = .int hi ∧ Q (.bl (decide (lo ≤ i) && decide (i ≤ hi))) H
  | _ => False
theorem sc_is_integer : FnScope ["value", "low", "high"] ["value", "low", "high"] (defScope s_is_integer) := C8.fnScope_by (by decide +kernel)
theorem c_is_integer {P : Program} {w : World} {K : PySem.W.Frag} {mg : Str → Option Value} {base hp : Heap} (T : Tx K mg hp) : C8.Cal P w K mg base 1 "is_integer" sp_is_integer [] := by
  obtain ⟨fd, F⟩ := T.fd_is_integer
  refine mkCal T.gl_is_integer F sc_is_integer (fun _ _ _ _ _ _ us hl => match us, hl with | [_, _, _], _ => rfl) (fun vs H Q E h => by unfold sp_is_integer at h; split at h <;> first | rfl | exact h.elim) (fun cdv A outer s H vs Q E hr h => ?_)
  have nd := sc_is_integer.nd
  have hu := hu_of hr
  unfold sp_is_integer at h
  split at h
  case h_2 => exact h.elim
  obtain ⟨i, lo, hi, rfl, rfl, rfl, k⟩ := h
  refine ⟨_, (pss_one (ps_ret (pe_and (pe_callB call_isi (by rfl) T.fr_isinstance (by decide +kernel) (pa_cons (pv 0) (pa_cons (pe_bltn (v := .ty "int") (u := .type "int") (by rfl) T.fr_int (by decide +kernel) rfl) pa_nil))) (pe_and (pe_not (pe_callB call_isi (by rfl) T.fr_isinstance (by decide +kernel) (pa_cons (pv 0) (pa_cons (pe_bltn (v := .ty "bool") (u := .type "bool") (by rfl) T.fr_bool (by decide +kernel) rfl) pa_nil)))) (pe_one (pe_chain op_le op_le (pv 1) (pv 0) (pv 2))))))), ?_⟩
  refine ⟨_, rfl, _, _, _, _, _, rfl, .ty _, .base (.int _), ki K, _, rfl, iteT ⟨_, rfl, _, _, _, _, _, rfl, .ty _, .base (.int _), kib K, _, rfl, _, rfl, iteT ⟨_, rfl, _, rfl, _, _, rfl, rfl, _, rfl, ?_⟩⟩⟩
  refine ite2 (fun c => ?_) (fun c => ?_)
  · refine ⟨_, rfl, _, _, rfl, rfl, ?_⟩
    rw [c, Bool.true_and] at k
    exact k
  · rw [Bool.not_eq_true] at c
    rw [c, Bool.false_and] at k
    exact k
def isName (x : Str) : Prop := 1 ≤ x.length ∧ x.length ≤ 8 ∧ ∀ c ∈ x.cps.toList, c ∈ ("abcdefghijklmnopqrstuvwxyz" : Str).cps.toList
def sp_is_name (K : PySem.W.Frag) : Sp := fun vs H Q _ => match vs with
  | [v] => ∃ F x, v = .str x ∧ Same F H ∧ isName x ∧ ∀ F' H', Pu F H F' H' → Q (.bl true) H'
  | _ => False
theorem sc_is_name : FnScope ["value", "letter"] ["value"] (defScope s_is_name) := C8.fnScope_by (by decide +kernel)
theorem c_is_name {P : Program} {w : World} {K : PySem.W.Frag} {mg : Str → Option Value} {base hp : Heap} (T : Tx K mg hp) : C8.Cal P w K mg base 1 "is_name" (sp_is_name K) [] := by
  obtain ⟨fd, F⟩ := T.fd_is_name
  refine mkCal T.gl_is_name F sc_is_name (fun _ _ _ _ _ _ us hl => match us, hl with | [_], _ => rfl) (fun vs H Q E h => by unfold sp_is_name at h; split at h <;> first | rfl | exact h.elim) (fun cdv A outer s H vs Q E hr h => ?_)
  have nd := sc_is_name.nd
  have hu := hu_of hr
  unfold sp_is_name at h
  split at h
  case h_2 => exact h.elim
  obtain ⟨F, x, rfl, e, ⟨h1, h2, h3⟩, k⟩ := h
  refine ⟨_, (pss_cons (ps_if (PW.pt (pw_or (pt_not (pt_val (pe_callB call_isi (by rfl) T.fr_isinstance (by decide +kernel) (pa_cons (pv 0) (pa_cons (pe_bltn (v := .ty "str") (u := .type "str") (by rfl) T.fr_str (by decide +kernel) rfl) pa_nil))))) (pw_or1 (pt_not (pt_chain op_le op_le pe_int (pe_callB call_len_str (by rfl) T.fr_len (by decide +kernel) (pa_cons (pv 0) pa_nil)) (C8.pe_gc (by rfl) T.k_LONGEST_NAME)))))) (pss_one (ps_ret pe_bl)) pss_nil)
      (pss_one (ps_ret (pe_callB (cr_all rfl) (by rfl) T.fr_all (by decide +kernel) (pa_cons (pe_lc (own := [("letter", 1)]) (g := (gName 1)) rfl nd (pi_str (pv 0)) (blkOk_by (own := [("letter", 1)]) (N := ["value", "letter"]) (sc := defScope s_is_name) (by decide +kernel)) (fun _ _ _ _ _ => (pg_name (i := 1) nd rfl (Or.inl rfl))) (fun _ _ _ _ _ => pts_nil) (fun _ _ _ _ _ => (pe_cmpR op_in_sign (pv 1) (C8.pe_gc (by rfl) T.k_LETTERS) rfl))) pa_nil))))), ?_⟩
  have hx : x.length ≤ sizeLine := le_line (by omega)
  refine ⟨_, rfl, _, _, _, _, _, rfl, .ty _, .base (.str _), ks K, _, rfl, iteF ⟨_, rfl, _, rfl, hx, _, _, rfl, rfl, _, rfl, ?_⟩⟩
  rw [decide_eq_true (show (1 : Int) ≤ (x.length : Int) by omega)]
  refine iteT ⟨_, _, rfl, rfl, _, rfl, ?_⟩
  rw [decide_eq_true (show (x.length : Int) ≤ 8 by omega)]
  refine iteF ⟨_, rfl, x, rfl, ?_⟩
  refine lcS (K := K) (R := rB) (f := fun c => decide (c ∈ ("abcdefghijklmnopqrstuvwxyz" : Str).cps.toList)) (p := fun _ => true) e (Nat.le_trans (show x.cps.size ≤ 8 from h2) (by decide)) (fun y v F1 H1 hy g hv Kt Kf h1 h2 => ?_) (fun D F' H' g hD => ?_)
  · cases hv
    exact ⟨rfl, _, rfl, _, _, rfl, rfl, h1 rfl _ F1 H1 (Gr.refl g.fh) rfl⟩
  · obtain ⟨a, ea, hl⟩ := rlb hD
    cases ea
    refine ⟨D, _, rfl, sql_s g.fh hl, ?_⟩
    rw [show ((x.cps.toList.filter fun _ => true).map fun c => decide (c ∈ ("abcdefghijklmnopqrstuvwxyz" : Str).cps.toList)).all id = true by
      rw [List.all_eq_true]
      intro b hb
      obtain ⟨c, hc, rfl⟩ := List.mem_map.mp hb
      exact decide_eq_true (h3 c (List.mem_filter.mp hc).1)]
    exact k _ _ g
theorem cut_to {xs : List V} {i : Nat} (h : i ≤ xs.length) : cutV xs none (some (i : Int)) = xs.take i := by
  unfold cutV
  rw [HT.sIx_none, HT.sIx_nat, Nat.min_eq_left h, List.drop_zero, Nat.sub_zero]
theorem str_at {l : List Str} {i : Nat} {x : V} (h : (l.map V.str)[i]? = some x) : ∃ s, l[i]? = some s ∧ x = .str s := by
  rw [List.getElem?_map] at h
  obtain ⟨s, h1, h2⟩ := Option.map_eq_some_iff.mp h
  exact ⟨s, h1, h2.symm⟩
def sp_check_distinct (K : PySem.W.Frag) : Sp := fun vs H Q _ => match vs with
  | [v] => ∃ F l, Same F H ∧ rL K rS F v l ∧ l.Nodup ∧ ∀ F' H', Pu F H F' H' → Q .non H'
  | _ => False
theorem sc_check_distinct : FnScope ["names", "index", "name"] ["names"] (defScope s_check_distinct) := C8.fnScope_by (by decide +kernel)
theorem c_check_distinct {P : Program} {w : World} {K : PySem.W.Frag} {mg : Str → Option Value} {base hp : Heap} (T : Tx K mg hp) : C8.Cal P w K mg base 1 "check_distinct" (sp_check_distinct K) [] := by
  obtain ⟨fd, F⟩ := T.fd_check_distinct
  refine mkCal T.gl_check_distinct F sc_check_distinct (fun _ _ _ _ _ _ us hl => match us, hl with | [_], _ => rfl) (fun vs H Q E h => by unfold sp_check_distinct at h; split at h <;> first | rfl | exact h.elim) (fun cdv A outer s H vs Q E hr h => ?_)
  have nd := sc_check_distinct.nd
  have hu := hu_of hr
  unfold sp_check_distinct at h
  split at h
  case h_2 => exact h.elim
  obtain ⟨F, l, e, hL, hn, k⟩ := h
  refine ⟨_, (pss_one (ps_for PassesOwn.never rfl (pi_enum (by rfl) T.fr_enumerate (pa_cons (pv 0) pa_nil)) (pg_tup rfl (pgs_cons (pg_name (i := 1) nd rfl (Or.inl rfl)) (pgs_cons (pg_name (i := 2) nd rfl (Or.inl rfl)) pgs_nil))) (pss_one (ps_if (pt_cmpR (op_in_seqK (K := K) rfl) (pv 2) (pe_slice sl_list (pv 0) po_none (po_some (pv 1))) rfl) pss_never pss_nil)))), ?_⟩
  obtain ⟨a, rfl, ha⟩ := rls hL
  refine ⟨_, rfl, a, _, rfl, sql_s e ha, ?_⟩
  refine for_it (walk_enum (K := K) (a := a) (xs := l.map V.str)) (fun i σ H' => ∃ F' u v, σ = [some (.ref a), u, v] ∧ Pu F H F' H') ⟨F, _, _, rfl, Gr.refl e⟩ (fun i σ H' _ ⟨F', u, v, _, g⟩ => sql_s g.fh (sql_s g.f ha)) ?_ ?_
  · rintro i y σ H1 H2 hi ⟨F1, u, v, rfl, g⟩ ⟨T', x1, x2, rfl, nT, rfl, hx1, hx2⟩
    cases hx1
    obtain ⟨s0, hs0, rfl⟩ := str_at hx2
    have g2 := g.trans (Gr.newm (o := .tup [.int (i : Nat), .str s0]) g.fh nT)
    have hi' : i ≤ (l.map V.str).length := Nat.le_of_lt hi
    refine ⟨T', [_, _], rfl, SqT.of upd_same, rfl, _, [_], rfl, _, [], rfl, rfl, _, rfl, _, rfl, _, rfl, _, rfl, a, _, rfl, sql_s g2.fh (sql_s g2.f ha), fun p np => ?_⟩
    refine ⟨p, _, rfl, .inl (SqL.of upd_same), rfl, ?_, _, rfl, ?_⟩
    · rw [cut_to hi', ← List.map_take]
      exact flat_strs _
    · rw [cut_to hi', ← List.map_take, inv_str, decide_eq_false]
      · exact iteF ⟨F1, _, _, rfl, g2.trans (Gr.newm g2.fh np)⟩
      · intro hm
        obtain ⟨j, hj, ej⟩ := List.mem_iff_getElem.mp hm
        rw [List.getElem_take] at ej
        rw [List.length_take] at hj
        obtain ⟨hi2, ei⟩ := List.getElem?_eq_some_iff.mp hs0
        have := (List.getElem_inj hn).mp (ej.trans ei.symm)
        omega
  · rintro σ H' ⟨F', u, v, rfl, g⟩
    exact k _ _ g
end Rs
/-! text R5 -/
set_option Elab.async false
set_option linter.all false
set_option maxRecDepth 100000
set_option maxHeartbeats 4000000
namespace Rs
open PySem PySem.Spec PyProof.Rows L2
theorem iteY {c A B : Prop} [Decidable c] (h : c) (a : A) : if decide c = true then A else B := by
  rw [decide_eq_true h]
  exact iteT a
theorem iteN {c A B : Prop} [Decidable c] (h : ¬ c) (b : B) : if decide c = true then A else B := by
  rw [decide_eq_false h]
  exact iteF b
theorem iteYn {c A B : Prop} [Decidable c] (h : c) (b : B) : if (!decide c) = true then A else B := by
  rw [decide_eq_true h]
  exact iteF b
theorem iteNn {c A B : Prop} [Decidable c] (h : ¬ c) (a : A) : if (!decide c) = true then A else B := by
  rw [decide_eq_false h]
  exact iteT a
theorem iteB {c : Bool} {A B : Prop} (h : c = true) (a : A) : if c = true then A else B := by rw [if_pos h]; exact a
theorem iteC {c : Bool} {A B : Prop} (h : c = false) (b : B) : if c = true then A else B := by rw [h]; exact iteF b
/-! ### looking up in a dict -/
theorem lookup_mem {α : Type} {x : Str} : ∀ {l : List (Str × α)}, x ∈ l.map (·.1) → ∃ y, l.lookup x = some y
  | [], h => by cases h
  | (k, v) :: l, h => by
    by_cases e : x = k
    · subst e
      exact ⟨v, by simp [List.lookup]⟩
    · obtain ⟨y, hy⟩ := lookup_mem (l := l) ((List.mem_cons.mp h).resolve_left e)
      refine ⟨y, ?_⟩
      show (match x == k with | true => some v | false => l.lookup x) = some y
      rw [beq_false_of_ne e]
      exact hy
theorem lookup_none {α : Type} {x : Str} : ∀ {l : List (Str × α)}, x ∉ l.map (·.1) → l.lookup x = none
  | [], _ => rfl
  | (k, v) :: l, h => by
    have e : ¬ x = k := fun e => h (by rw [e]; exact List.mem_cons_self ..)
    show (match x == k with | true => some v | false => l.lookup x) = none
    rw [beq_false_of_ne e]
    exact lookup_none fun z => h (List.mem_cons_of_mem _ z)
theorem mem_lookup' {α : Type} {x : Str} {y : α} : ∀ {l : List (Str × α)}, l.lookup x = some y → (x, y) ∈ l
  | [], h => by cases h
  | (k, v) :: l, h => by
    by_cases e : x = k
    · subst e
      have : v = y := by simpa [List.lookup] using h
      rw [this]
      exact List.mem_cons_self ..
    · have h2 : l.lookup x = some y := by
        have h1 : (match x == k with | true => some v | false => l.lookup x) = some y := h
        rw [beq_false_of_ne e] at h1
        exact h1
      exact List.mem_cons_of_mem _ (mem_lookup' h2)
theorem lookup_nd {α : Type} {x : Str} {y : α} : ∀ {l : List (Str × α)}, (l.map (·.1)).Nodup → (x, y) ∈ l → l.lookup x = some y
  | [], _, h => by cases h
  | (k, v) :: l, hn, h => by
    have hn' := List.nodup_cons.mp hn
    rcases List.mem_cons.mp h with e | h
    · cases e
      simp [List.lookup]
    · have e : ¬ x = k := fun e => hn'.1 (by rw [← e]; exact List.mem_map.mpr ⟨_, h, rfl⟩)
      show (match x == k with | true => some v | false => l.lookup x) = some y
      rw [beq_false_of_ne e]
      exact lookup_nd hn'.2 h
theorem paired_look {α : Type} {R : Rep α} {F : Hp} {x : Str} : ∀ {kvs : List (Key × V)} {l : List (Str × α)}, Paired (fun (kv : Key × V) (q : Str × α) => kv.1 = Sum.inr q.1 ∧ R F kv.2 q.2) kvs l →
    (∀ y, l.lookup x = some y → ∃ u, valV kvs (Sum.inr x) = some u ∧ R F u y) ∧ (l.lookup x = none → valV kvs (Sum.inr x) = none)
  | _, _, Paired.nil => ⟨fun _ h => (by cases h), fun _ => rfl⟩
  | (k1, v1) :: kvs, (k2, v2) :: l, Paired.cons ⟨h1, h2⟩ t => by
    have ih := paired_look (x := x) t
    by_cases e : x = k2
    · subst e
      refine ⟨fun y h => ?_, fun h => ?_⟩
      · have : v2 = y := by simpa [List.lookup] using h
        subst this
        exact ⟨v1, valV_pos h1, h2⟩
      · simp [List.lookup] at h
    · have e1 : ((k2, v2) :: l).lookup x = l.lookup x := by
        show (match x == k2 with | true => some v2 | false => l.lookup x) = _
        rw [beq_false_of_ne e]
      have e2 : valV ((k1, v1) :: kvs) (Sum.inr x) = valV kvs (Sum.inr x) := valV_neg fun z => e (by
        have z' : k1 = Sum.inr x := z
        rw [show k1 = Sum.inr k2 from h1] at z'
        exact (Sum.inr.inj z').symm)
      rw [e1, e2]
      exact ih
theorem dget {α : Type} {R : Rep α} {F H : Hp} {v : V} {l : List (Str × α)} (e : Same F H) (h : rD R F v l) (x : Str) :
    ∃ a o, v = .ref a ∧ DGet H a (.str x) o ∧ (∀ y, l.lookup x = some y → ∃ u, o = some u ∧ R F u y) ∧ (l.lookup x = none → o = none) := by
  obtain ⟨a, kvs, rfl, h1, h2⟩ := h
  exact ⟨a, valV kvs (Sum.inr x), rfl, .inl ⟨kvs, Sum.inr x, Rd.same e h1, rfl, rfl⟩, (paired_look h2).1, (paired_look h2).2⟩
/-- .. of a key that is there -/
theorem dgot {α : Type} {R : Rep α} {F H : Hp} {v : V} {l : List (Str × α)} {x : Str} {y : α} (e : Same F H) (h : rD R F v l) (hy : l.lookup x = some y) : ∃ a u, v = .ref a ∧ DGet H a (.str x) (some u) ∧ R F u y := by
  obtain ⟨a, o, rfl, h1, h2, _⟩ := dget e h x
  obtain ⟨u, rfl, hu⟩ := h2 y hy
  exact ⟨a, u, rfl, h1, hu⟩
/-! ### rows -/
def sp_is_variable_row (K : PySem.W.Frag) : Sp := fun vs H Q _ => match vs with
  | [v] => ∃ F q, Same F H ∧ r2 K rS rI F v q ∧ isName q.1 ∧ 1 ≤ q.2 ∧ q.2 ≤ 6 ∧ ∀ F' H', Pu F H F' H' → Q (.bl true) H'
  | _ => False
theorem sc_is_variable_row : FnScope ["value"] ["value"] (defScope s_is_variable_row) := C8.fnScope_by (by decide +kernel)
theorem c_is_variable_row {P : Program} {w : World} {K : PySem.W.Frag} {mg : Str → Option Value} {base hp : Heap} (T : Tx K mg hp) : C8.Cal P w K mg base 2 "is_variable_row" (sp_is_variable_row K) [] := by
  obtain ⟨fd, F⟩ := T.fd_is_variable_row
  refine mkCal T.gl_is_variable_row F sc_is_variable_row (fun _ _ _ _ _ _ us hl => match us, hl with | [_], _ => rfl) (fun vs H Q E h => by unfold sp_is_variable_row at h; split at h <;> first | rfl | exact h.elim) (fun cdv A outer s H vs Q E hr h => ?_)
  have nd := sc_is_variable_row.nd
  have hu := hu_of hr
  unfold sp_is_variable_row at h
  split at h
  case h_2 => exact h.elim
  obtain ⟨F, ⟨x, n⟩, e, ⟨a, v0, v1, rfl, ha, hx, hn⟩, nx, n1, n6, k⟩ := h
  cases hx
  cases hn
  refine ⟨_, (pss_one (ps_ret (pe_and (pe_callB call_isi (by rfl) T.fr_isinstance (by decide +kernel) (pa_cons (pv 0) (pa_cons (pe_bltn (v := .ty "tuple") (u := .type "tuple") (by rfl) T.fr_tuple (by decide +kernel) rfl) pa_nil))) (pe_and (pe_cmpR op_eq (pe_callB call_len_seq (by rfl) T.fr_len (by decide +kernel) (pa_cons (pv 0) pa_nil)) pe_int (nomark _)) (pe_and (C8.pe_c (c_is_name T) hr (by decide) (by rfl) (pa_cons (pe_ix ix_tup (pv 0) pe_int (fun _ _ => rfl)) pa_nil)) (pe_one (C8.pe_c (c_is_integer T) hr (by decide) (by rfl) (pa_cons (pe_ix ix_tup (pv 0) pe_int (fun _ _ => rfl)) (pa_cons pe_int (pa_cons (C8.pe_gc (by rfl) T.k_MOST_SIZE) pa_nil)))))))))), ?_⟩
  have ha' := sqt_s e ha
  refine ⟨_, rfl, _, _, _, _, _, rfl, .ty _, tyx_t ha', kt K, _, rfl, iteT ⟨_, rfl, a, _, rfl, .inr ha', rfl, _, rfl, iteY rfl ?_⟩⟩
  refine ⟨_, rfl, a, _, _, _, rfl, rfl, ha', atI_nat (j := 0) rfl, F, x, rfl, e, nx, fun F1 H1 g => ⟨_, rfl, iteT ?_⟩⟩
  refine ⟨_, rfl, a, _, _, _, rfl, rfl, sqt_s g.fh (sqt_s g.f ha), atI_nat (j := 1) rfl, _, _, _, rfl, rfl, rfl, ?_⟩
  rw [decide_eq_true n1, decide_eq_true n6]
  exact k _ _ g
abbrev rEv (K : PySem.W.Frag) : Rep (Str × List Str × List (List Int)) := r3 K rS (rL K rS) (rL K (rU K rI))
def sp_is_event_row (K : PySem.W.Frag) : Sp := fun vs H Q _ => match vs with
  | [v] => ∃ F q, Same F H ∧ rEv K F v q ∧ isName q.1 ∧ 1 ≤ q.2.1.length ∧ q.2.1.length ≤ 4 ∧ q.2.2.length ≤ 12 ∧ ∀ F' H', Pu F H F' H' → Q (.bl true) H'
  | _ => False
theorem sc_is_event_row : FnScope ["value", "name", "scope", "bad_tuples"] ["value"] (defScope s_is_event_row) := C8.fnScope_by (by decide +kernel)
theorem c_is_event_row {P : Program} {w : World} {K : PySem.W.Frag} {mg : Str → Option Value} {base hp : Heap} (T : Tx K mg hp) : C8.Cal P w K mg base 2 "is_event_row" (sp_is_event_row K) [] := by
  obtain ⟨fd, F⟩ := T.fd_is_event_row
  refine mkCal T.gl_is_event_row F sc_is_event_row (fun _ _ _ _ _ _ us hl => match us, hl with | [_], _ => rfl) (fun vs H Q E h => by unfold sp_is_event_row at h; split at h <;> first | rfl | exact h.elim) (fun cdv A outer s H vs Q E hr h => ?_)
  have nd := sc_is_event_row.nd
  have hu := hu_of hr
  unfold sp_is_event_row at h
  split at h
  case h_2 => exact h.elim
  obtain ⟨F, ⟨x, sc, bad⟩, e, ⟨a, v0, v1, v2, rfl, ha, hx, hs, hb⟩, nx, n1, n4, n12, k⟩ := h
  cases hx
  have n1 : 1 ≤ sc.length := n1
  have n4 : sc.length ≤ 4 := n4
  have n12 : bad.length ≤ 12 := n12
  obtain ⟨b, rfl, hb1⟩ := rls hs
  obtain ⟨c, ys, rfl, hc1, hc2⟩ := hb
  refine ⟨_, (pss_cons (ps_if (PW.pt (pw_or (pt_not (pt_val (pe_callB call_isi (by rfl) T.fr_isinstance (by decide +kernel) (pa_cons (pv 0) (pa_cons (pe_bltn (v := .ty "tuple") (u := .type "tuple") (by rfl) T.fr_tuple (by decide +kernel) rfl) pa_nil))))) (pw_or1 (pt_cmpR op_ne (pe_callB call_len_seq (by rfl) T.fr_len (by decide +kernel) (pa_cons (pv 0) pa_nil)) pe_int (nomark _))))) (pss_one (ps_ret pe_bl)) pss_nil)
      (pss_cons (ps_asg (pv 0) (pg_tup rfl (pgs_cons (pg_name (i := 1) nd rfl (Or.inl rfl)) (pgs_cons (pg_name (i := 2) nd rfl (Or.inl rfl)) (pgs_cons (pg_name (i := 3) nd rfl (Or.inl rfl)) pgs_nil)))))
      (pss_cons (ps_if (PW.pt (pw_or (pt_not (pt_val (C8.pe_c (c_is_name T) hr (by decide) (by rfl) (pa_cons (pv 1) pa_nil)))) (pw_or (pt_not (pt_val (C8.pe_c (c_is_list T) hr (by decide) (by rfl) (pa_cons (pv 2) pa_nil)))) (pw_or1 (pt_not (pt_chain op_le op_le pe_int (pe_callB call_len_seq (by rfl) T.fr_len (by decide +kernel) (pa_cons (pv 2) pa_nil)) (C8.pe_gc (by rfl) T.k_MOST_SCOPE))))))) (pss_one (ps_ret pe_bl)) pss_nil)
      (pss_one (ps_ret (pe_and (C8.pe_c (c_is_list T) hr (by decide) (by rfl) (pa_cons (pv 3) pa_nil)) (pe_one (pe_cmpR op_le (pe_callB call_len_seq (by rfl) T.fr_len (by decide +kernel) (pa_cons (pv 3) pa_nil)) (C8.pe_gc (by rfl) T.k_MOST_TUPLES) (nomark _))))))))), ?_⟩
  have ha' := sqt_s e ha
  refine ⟨_, rfl, _, _, _, _, _, rfl, .ty _, tyx_t ha', kt K, _, rfl, iteF ⟨_, rfl, a, _, rfl, .inr ha', rfl, _, rfl, iteYn rfl ?_⟩⟩
  refine ⟨_, rfl, a, _, rfl, ha', rfl, _, _, rfl, _, _, rfl, _, _, rfl, rfl, ?_⟩
  refine ⟨_, rfl, F, x, rfl, e, nx, fun F1 H1 g1 => ⟨_, rfl, iteF ?_⟩⟩
  refine ⟨_, rfl, F1, b, _, rfl, g1.fh, sql_s g1.fh (sql_s g1.f hb1), fun F2 H2 g2 => ⟨_, rfl, iteF ?_⟩⟩
  have g := g1.trans g2
  refine ⟨_, rfl, b, _, rfl, .inl (sql_s g.fh (sql_s g.f hb1)), _, _, rfl, rfl, _, rfl, iteY (by rw [List.length_map]; omega) ⟨_, _, rfl, rfl, _, rfl, ?_⟩⟩
  rw [decide_eq_true (show (((sc.map V.str).length : Nat) : Int) ≤ 4 by rw [List.length_map]; omega)]
  refine iteF ⟨_, rfl, F2, c, _, rfl, g.fh, sql_s g.fh (sql_s g.f hc1), fun F3 H3 g3 => ⟨_, rfl, iteT ?_⟩⟩
  have g4 := g.trans g3
  refine ⟨_, rfl, c, _, rfl, .inl (sql_s g4.fh (sql_s g4.f hc1)), _, _, rfl, rfl, ?_⟩
  show Q (.bl (decide (((ys.length : Nat) : Int) ≤ 12))) H3
  rw [decide_eq_true (show ((ys.length : Nat) : Int) ≤ 12 by rw [hc2.length]; show ((bad.length : Nat) : Int) ≤ 12; omega)]
  exact k _ _ g4
def okVars (l : List (Str × Int)) : Prop := (1 ≤ l.length ∧ l.length ≤ 8) ∧ (∀ q ∈ l, isName q.1 ∧ 1 ≤ q.2 ∧ q.2 ≤ 6) ∧ (l.map (·.1)).Nodup
def sp_check_variables (K : PySem.W.Frag) : Sp := fun vs H Q _ => match vs with
  | [v] => ∃ F l, Same F H ∧ rL K (r2 K rS rI) F v l ∧ okVars l ∧ ∀ F' H', Pu F H F' H' → Q .non H'
  | _ => False
theorem sc_check_variables : FnScope ["variables", "row", "name", "size"] ["variables"] (defScope s_check_variables) := C8.fnScope_by (by decide +kernel)
theorem c_check_variables {P : Program} {w : World} {K : PySem.W.Frag} {mg : Str → Option Value} {base hp : Heap} (T : Tx K mg hp) : C8.Cal P w K mg base 3 "check_variables" (sp_check_variables K) [] := by
  obtain ⟨fd, F⟩ := T.fd_check_variables
  refine mkCal T.gl_check_variables F sc_check_variables (fun _ _ _ _ _ _ us hl => match us, hl with | [_], _ => rfl) (fun vs H Q E h => by unfold sp_check_variables at h; split at h <;> first | rfl | exact h.elim) (fun cdv A outer s H vs Q E hr h => ?_)
  have nd := sc_check_variables.nd
  have hu := hu_of hr
  unfold sp_check_variables at h
  split at h
  case h_2 => exact h.elim
  obtain ⟨F, l, e, ⟨a, xs, rfl, ha, hl⟩, ⟨⟨l1, l8⟩, hq, hn⟩, k⟩ := h
  refine ⟨_, (pss_cons (ps_if (PW.pt (pw_or (pt_not (pt_val (C8.pe_c (c_is_list T) hr (by decide) (by rfl) (pa_cons (pv 0) pa_nil)))) (pw_or1 (pt_not (pt_chain op_le op_le pe_int (pe_callB call_len_seq (by rfl) T.fr_len (by decide +kernel) (pa_cons (pv 0) pa_nil)) (C8.pe_gc (by rfl) T.k_MOST_VARIABLES)))))) pss_never pss_nil)
      (pss_cons (ps_if (pt_not (pt_val (pe_callB (cr_all rfl) (by rfl) T.fr_all (by decide +kernel) (pa_cons (pe_lc (own := [("row", 1)]) (g := (gName 1)) rfl nd (pi_list (pv 0)) (blkOk_by (own := [("row", 1)]) (N := ["variables", "row", "name", "size"]) (sc := defScope s_check_variables) (by decide +kernel)) (fun _ _ _ _ _ => (pg_name (i := 1) nd rfl (Or.inl rfl))) (fun _ _ _ _ _ => pts_nil) (fun _ _ _ _ _ => (C8.pe_c (c_is_variable_row T) hr (by decide) (by rfl) (pa_cons (pv 1) pa_nil)))) pa_nil)))) pss_never pss_nil)
      (pss_one (ps_expr (C8.pe_c (c_check_distinct T) hr (by decide) (by rfl) (pa_cons (pe_lc (own := [("name", 2), ("size", 3)]) (g := (gTup K 2 (gCons (gName 2) (gCons (gName 3) gNil)))) rfl nd (pi_list (pv 0)) (blkOk_by (own := [("name", 2), ("size", 3)]) (N := ["variables", "row", "name", "size"]) (sc := defScope s_check_variables) (by decide +kernel)) (fun _ _ _ _ _ => (pg_tup rfl (pgs_cons (pg_name (i := 2) nd rfl (Or.inl rfl)) (pgs_cons (pg_name (i := 3) nd rfl (Or.inl rfl)) pgs_nil)))) (fun _ _ _ _ _ => pts_nil) (fun _ _ _ _ _ => (pv 2))) pa_nil)))))), ?_⟩
  have el : xs.length = l.length := hl.length
  refine ⟨_, rfl, F, a, _, rfl, e, sql_s e ha, fun F1 H1 g1 => ⟨_, rfl, iteF ⟨_, rfl, a, _, rfl, .inl (sql_s g1.fh (sql_s g1.f ha)), _, _, rfl, rfl, _, rfl, iteY (by omega) ⟨_, _, rfl, rfl, _, rfl, ?_⟩⟩⟩⟩
  rw [decide_eq_true (show ((xs.length : Nat) : Int) ≤ 8 by omega)]
  refine iteF ⟨_, rfl, a, rfl, ⟨_, sql_s g1.fh (sql_s g1.f ha)⟩, ?_⟩
  refine lcL (K := K) (RA := r2 K rS rI) (R := rB) (f := fun _ => true) (p := fun _ => true) g1.fh (sql_s g1.f ha) (hl.up g1.x) (by omega) (fun y v F2 H2 hy g hv Kt Kf h1 h2 => ?_) (fun D F2 H2 g2 hD => ?_)
  · obtain ⟨b1, b2, b3⟩ := hq y hy
    exact ⟨rfl, _, rfl, F2, y, g.fh, hv, b1, b2, b3, fun F3 H3 g3 => h1 rfl _ F3 H3 g3 rfl⟩
  · obtain ⟨d, ed, hd⟩ := rlb hD
    cases ed
    refine ⟨D, _, rfl, sql_s g2.fh hd, _, rfl, ?_⟩
    rw [show ((l.filter fun _ => true).map fun _ => true).all id = true by
      rw [List.all_eq_true]
      intro b hb
      obtain ⟨c, hc, rfl⟩ := List.mem_map.mp hb
      rfl]
    have g3 := g1.trans g2
    refine iteF ⟨_, rfl, a, rfl, ⟨_, sql_s g3.fh (sql_s g3.f ha)⟩, ?_⟩
    refine lcL (K := K) (RA := r2 K rS rI) (R := rS) (f := fun q => q.1) (p := fun _ => true) g3.fh (sql_s g3.f ha) (hl.up g3.x) (by omega) (fun y v F4 H4 hy g hv Kt Kf h1 h2 => ?_) (fun D F4 H4 g4 hD => ?_)
    · obtain ⟨b, v0, v1, rfl, hb, h3, h4⟩ := hv
      exact ⟨b, _, rfl, sqt_s g.fh hb, rfl, _, _, rfl, _, _, rfl, rfl, rfl, _, rfl, h1 rfl _ F4 H4 (Gr.refl g.fh) h3⟩
    · rw [ptrue] at hD
      exact ⟨F4, _, g4.fh, hD, hn, fun F5 H5 g5 => k _ _ ((g3.trans g4).trans g5)⟩
end Rs
/-! text R6 -/
set_option Elab.async false
set_option linter.all false
set_option maxRecDepth 100000
set_option maxHeartbeats 4000000
namespace Rs
open PySem PySem.Spec PyProof.Rows L2
/-! ### problems as data -/
structure PD where
  vars : List (Str × Int)
  evs : List (Str × List Str × List (List Int))
def PD.names (D : PD) : List Str := D.evs.map (·.1)
def PD.scopes (D : PD) : List (Str × List Str) := D.evs.map fun e => (e.1, e.2.1)
def PD.tups (D : PD) : List (Str × List (List Int)) := D.evs.map fun e => (e.1, e.2.2)
def okScope (vars : List (Str × Int)) (sc : List Str) : Prop := (1 ≤ sc.length ∧ sc.length ≤ 4) ∧ sc.Nodup ∧ ∀ x ∈ sc, x ∈ vars.map (·.1)
def okTuple (vars : List (Str × Int)) (sc : List Str) (t : List Int) : Prop := t.length = sc.length ∧ ∀ q ∈ sc.zip t, ∃ n, vars.lookup q.1 = some n ∧ 0 ≤ q.2 ∧ q.2 < n
def okTuples (vars : List (Str × Int)) (sc : List Str) (ts : List (List Int)) : Prop := ts.length ≤ 12 ∧ ts.Nodup ∧ ∀ t ∈ ts, okTuple vars sc t
structure PD.Ok (D : PD) : Prop where
  v : okVars D.vars
  n8 : D.evs.length ≤ 8
  en : ∀ e ∈ D.evs, isName e.1
  nd : (D.evs.map (·.1)).Nodup
  sc : ∀ e ∈ D.evs, okScope D.vars e.2.1
  tp : ∀ e ∈ D.evs, okTuples D.vars e.2.1 e.2.2
theorem n12_ : ¬ (("scope_by_event" : Str) = "size_by_name") := by decide +kernel
theorem n13_ : ¬ (("tuples_by_event" : Str) = "size_by_name") := by decide +kernel
theorem n23_ : ¬ (("tuples_by_event" : Str) = "scope_by_event") := by decide +kernel
def pfs (d1 d2 d3 : Addr) : List (Str × V) := [("size_by_name", .ref d1), ("scope_by_event", .ref d2), ("tuples_by_event", .ref d3)]
section
variable {d1 d2 d3 : Addr}
theorem pfs1 : (pfs d1 d2 d3).lookup ("size_by_name" : Str) = some (.ref d1) := lk0
theorem pfs2 : (pfs d1 d2 d3).lookup ("scope_by_event" : Str) = some (.ref d2) := (lk1 n12_).trans lk0
theorem pfs3 : (pfs d1 d2 d3).lookup ("tuples_by_event" : Str) = some (.ref d3) := (lk1 n13_).trans ((lk1 n23_).trans lk0)
def noP (m : Str) : Prop := ¬ m = "size_by_name" ∧ ¬ m = "scope_by_event" ∧ ¬ m = "tuples_by_event"
instance (m : Str) : Decidable (noP m) := by unfold noP; infer_instance
theorem pfsn {m : Str} (h : noP m) : (pfs d1 d2 d3).lookup m = none := (lk1 h.1).trans ((lk1 h.2.1).trans ((lk1 h.2.2).trans rfl))
end
/-- a problem stands at p; its dicts may be locked -/
structure PAt (K : PySem.W.Frag) (F : Hp) (p dx d1 d2 d3 : Addr) (D : PD) : Prop where
  ob : F p = some (.ins (a_Problem K) dx (pfs d1 d2 d3))
  s1 : rD rI F (.ref d1) D.vars
  s2 : rD (rL K rS) F (.ref d2) D.scopes
  s3 : rD (rL K (rU K rI)) F (.ref d3) D.tups
  ok : D.Ok
def rPl (K : PySem.W.Frag) : Rep PD := fun F v D => ∃ p dx d1 d2 d3, v = .ref p ∧ PAt K F p dx d1 d2 d3 D
/-- .. no dict of it is locked -/
def rP (K : PySem.W.Frag) : Rep PD := fun F v D => ∃ p dx d1 d2 d3, v = .ref p ∧ PAt K F p dx d1 d2 d3 D ∧ (∃ kvs, F d1 = some (.dK kvs)) ∧ ∃ kvs, F d2 = some (.dK kvs)
/-- .. the sizes are not locked -/
def rP1 (K : PySem.W.Frag) : Rep PD := fun F v D => ∃ p dx d1 d2 d3, v = .ref p ∧ PAt K F p dx d1 d2 d3 D ∧ ∃ kvs, F d1 = some (.dK kvs)
theorem PAt.up {K : PySem.W.Frag} {F F' : Hp} {p dx d1 d2 d3 : Addr} {D : PD} (h : PAt K F p dx d1 d2 d3 D) (e : XF F F') : PAt K F' p dx d1 d2 d3 D := ⟨e.i _ _ _ _ h.ob, Ux.ux e h.s1, Ux.ux e h.s2, Ux.ux e h.s3, h.ok⟩
instance {K : PySem.W.Frag} : Ux (rPl K) := ⟨fun e ⟨p, dx, d1, d2, d3, h1, h2⟩ => ⟨p, dx, d1, d2, d3, h1, h2.up e⟩⟩
instance {K : PySem.W.Frag} : Up (rP K) := ⟨fun e ⟨p, dx, d1, d2, d3, h1, h2, ⟨kvs, h3⟩, ⟨kvs', h4⟩⟩ => ⟨p, dx, d1, d2, d3, h1, h2.up (.of e), ⟨kvs, e _ _ h3⟩, ⟨kvs', e _ _ h4⟩⟩⟩
instance {K : PySem.W.Frag} : Up (rP1 K) := ⟨fun e ⟨p, dx, d1, d2, d3, h1, h2, ⟨kvs, h3⟩⟩ => ⟨p, dx, d1, d2, d3, h1, h2.up (.of e), kvs, e _ _ h3⟩⟩
theorem rP1.w {K : PySem.W.Frag} {F : Hp} {v : V} {D : PD} (h : rP1 K F v D) : rPl K F v D := let ⟨p, dx, d1, d2, d3, h1, h2, _⟩ := h; ⟨p, dx, d1, d2, d3, h1, h2⟩
theorem rP.w1 {K : PySem.W.Frag} {F : Hp} {v : V} {D : PD} (h : rP K F v D) : rP1 K F v D := let ⟨p, dx, d1, d2, d3, h1, h2, h3, _⟩ := h; ⟨p, dx, d1, d2, d3, h1, h2, h3⟩
theorem rP.w {K : PySem.W.Frag} {F : Hp} {v : V} {D : PD} (h : rP K F v D) : rPl K F v D := let ⟨p, dx, d1, d2, d3, h1, h2, _⟩ := h; ⟨p, dx, d1, d2, d3, h1, h2⟩
theorem PAt.h {K : PySem.W.Frag} {F H : Hp} {p dx d1 d2 d3 : Addr} {D : PD} (h : PAt K F p dx d1 d2 d3 D) (e : Same F H) : H p = some (.ins (a_Problem K) dx (pfs d1 d2 d3)) := e _ _ h.ob
theorem names_scopes (D : PD) : D.scopes.map (·.1) = D.names := by
  unfold PD.scopes PD.names
  rw [List.map_map]
  rfl
theorem names_tups (D : PD) : D.tups.map (·.1) = D.names := by
  unfold PD.tups PD.names
  rw [List.map_map]
  rfl
/-! ### simple checks and getters -/
def sp_check_problem (K : PySem.W.Frag) : Sp := fun vs H Q _ => match vs with
  | [v] => ∃ D, rPl K H v D ∧ Q .non H
  | _ => False
theorem sc_check_problem : FnScope ["value"] ["value"] (defScope s_check_problem) := C8.fnScope_by (by decide +kernel)
theorem c_check_problem {P : Program} {w : World} {K : PySem.W.Frag} {mg : Str → Option Value} {base hp : Heap} (T : Tx K mg hp) : C8.Cal P w K mg base 1 "check_problem" (sp_check_problem K) [] := by
  obtain ⟨fd, F⟩ := T.fd_check_problem
  refine mkCal T.gl_check_problem F sc_check_problem (fun _ _ _ _ _ _ us hl => match us, hl with | [_], _ => rfl) (fun vs H Q E h => by unfold sp_check_problem at h; split at h <;> first | rfl | exact h.elim) (fun cdv A outer s H vs Q E hr h => ?_)
  have nd := sc_check_problem.nd
  have hu := hu_of hr
  unfold sp_check_problem at h
  split at h
  case h_2 => exact h.elim
  obtain ⟨D, ⟨p, dx, d1, d2, d3, rfl, h⟩, k⟩ := h
  refine ⟨_, (pss_one (ps_if (pt_not (pt_val (pe_callB (C8.call_isC T.i_Problem) (by rfl) T.fr_isinstance (by decide +kernel) (pa_cons (pv 0) (pa_cons (C8.pe_gc (by rfl) T.g_Problem) pa_nil))))) pss_never pss_nil)), ?_⟩
  exact ⟨_, rfl, p, dx, _, rfl, h.ob, _, rfl, iteF k⟩
theorem sc_need_problem : FnScope ["value"] ["value"] (defScope s_need_problem) := C8.fnScope_by (by decide +kernel)
theorem c_need_problem {P : Program} {w : World} {K : PySem.W.Frag} {mg : Str → Option Value} {base hp : Heap} (T : Tx K mg hp) : C8.Cal P w K mg base 1 "need_problem" (sp_check_problem K) [] := by
  obtain ⟨fd, F⟩ := T.fd_need_problem
  refine mkCal T.gl_need_problem F sc_need_problem (fun _ _ _ _ _ _ us hl => match us, hl with | [_], _ => rfl) (fun vs H Q E h => by unfold sp_check_problem at h; split at h <;> first | rfl | exact h.elim) (fun cdv A outer s H vs Q E hr h => ?_)
  have nd := sc_need_problem.nd
  have hu := hu_of hr
  unfold sp_check_problem at h
  split at h
  case h_2 => exact h.elim
  obtain ⟨D, ⟨p, dx, d1, d2, d3, rfl, h⟩, k⟩ := h
  refine ⟨_, (pss_one (ps_if (pt_not (pt_val (pe_callB (C8.call_isC T.i_Problem) (by rfl) T.fr_isinstance (by decide +kernel) (pa_cons (pv 0) (pa_cons (C8.pe_gc (by rfl) T.g_Problem) pa_nil))))) pss_never pss_nil)), ?_⟩
  exact ⟨_, rfl, p, dx, _, rfl, h.ob, _, rfl, iteF k⟩
def sp_check_event (K : PySem.W.Frag) : Sp := fun vs H Q _ => match vs with
  | [v, u] => ∃ D e, rPl K H v D ∧ u = .str e ∧ e ∈ D.names ∧ Q .non H
  | _ => False
theorem sc_Problem_check_event : FnScope ["self", "event"] ["self", "event"] (defScope s_Problem_check_event) := C8.fnScope_by (by decide +kernel)
theorem c_Problem_check_event {P : Program} {w : World} {K : PySem.W.Frag} {mg : Str → Option Value} {base hp : Heap} (T : Tx K mg hp) : C8.Met P w K mg base 1 (a_Problem K) "check_event" (sp_check_event K) [] := by
  obtain ⟨fd, F⟩ := T.fd_Problem_check_event
  refine mkMet T.cl_Problem T.me_Problem_check_event F sc_Problem_check_event (fun _ _ _ _ _ _ us hl => match us, hl with | [_, _], _ => rfl) (fun vs H Q E h => by unfold sp_check_event at h; split at h <;> first | rfl | exact h.elim) (fun cdv A outer s H vs Q E hr h => ?_)
  have nd := sc_Problem_check_event.nd
  have hu := hu_of hr
  unfold sp_check_event at h
  split at h
  case h_2 => exact h.elim
  obtain ⟨D, e, ⟨p, dx, d1, d2, d3, rfl, h⟩, rfl, he, k⟩ := h
  refine ⟨_, (pss_one (ps_if (PW.pt (pw_or (pt_not (pt_val (pe_callB call_isi (by rfl) T.fr_isinstance (by decide +kernel) (pa_cons (pv 1) (pa_cons (pe_bltn (v := .ty "str") (u := .type "str") (by rfl) T.fr_str (by decide +kernel) rfl) pa_nil))))) (pw_or1 (pt_cmp (pc_dnotin hu (pv 1) (pe_fld (pv 0) rfl)))))) pss_never pss_nil)), ?_⟩
  obtain ⟨y, hy⟩ := lookup_mem (l := D.scopes) (x := e) (by rw [names_scopes]; exact he)
  obtain ⟨a, u, ea, hd, _⟩ := dgot (Same.refl H) h.s2 hy
  cases ea
  exact ⟨_, rfl, _, _, _, _, _, rfl, .ty _, .base (.str _), ks K, _, rfl, iteF ⟨_, rfl, _, rfl, p, _, dx, _, _, rfl, h.ob, T.cl_Problem, T.na_Problem_scope_by_event, pfs2, d2, _, rfl, hd, _, rfl, iteF k⟩⟩
def sp_events (K : PySem.W.Frag) : Sp := fun vs H Q _ => match vs with
  | [v] => ∃ F D, Same F H ∧ rPl K F v D ∧ ∀ v F' H', Pu F H F' H' → rL K rS F' v D.names → Q v H'
  | _ => False
theorem keys_scopes {K : PySem.W.Frag} {F : Hp} {α : Type} {R : Rep α} : ∀ {kvs : List (Key × V)} {l : List (Str × α)}, Paired (fun (kv : Key × V) (q : Str × α) => kv.1 = Sum.inr q.1 ∧ R F kv.2 q.2) kvs l → (kvs.map fun kv => kV kv.1) = (l.map (·.1)).map V.str
  | _, _, Paired.nil => rfl
  | _, _, Paired.cons h t => by rw [List.map_cons, h.1, keys_scopes (K := K) t]; rfl
theorem sc_Problem_events : FnScope ["self"] ["self"] (defScope s_Problem_events) := C8.fnScope_by (by decide +kernel)
theorem c_Problem_events {P : Program} {w : World} {K : PySem.W.Frag} {mg : Str → Option Value} {base hp : Heap} (T : Tx K mg hp) : C8.Met P w K mg base 1 (a_Problem K) "events" (sp_events K) [] := by
  obtain ⟨fd, F⟩ := T.fd_Problem_events
  refine mkMet T.cl_Problem T.me_Problem_events F sc_Problem_events (fun _ _ _ _ _ _ us hl => match us, hl with | [_], _ => rfl) (fun vs H Q E h => by unfold sp_events at h; split at h <;> first | rfl | exact h.elim) (fun cdv A outer s H vs Q E hr h => ?_)
  have nd := sc_Problem_events.nd
  have hu := hu_of hr
  unfold sp_events at h
  split at h
  case h_2 => exact h.elim
  obtain ⟨F, D, e, ⟨p, dx, d1, d2, d3, rfl, h⟩, k⟩ := h
  refine ⟨_, (pss_one (ps_ret (pe_callTy (call_listD rfl) (by rfl) T.fr_list (by decide +kernel) (pa_cons (pe_fld (pv 0) rfl) pa_nil)))), ?_⟩
  obtain ⟨d, kvs, ed, hd, hk⟩ := h.s2
  cases ed
  refine ⟨_, rfl, p, _, dx, _, _, rfl, h.h e, T.cl_Problem, T.na_Problem_scope_by_event, pfs2, d2, kvs, rfl, Rd.same e hd, fun q nq => ?_⟩
  rw [keys_scopes (K := K) hk, names_scopes]
  exact k _ _ _ (Gr.new e nq) (rls_of (SqL.of upd_same))
def sp_size (K : PySem.W.Frag) : Sp := fun vs H Q _ => match vs with
  | [v, u] => ∃ D x n, rPl K H v D ∧ u = .str x ∧ D.vars.lookup x = some n ∧ Q (.int n) H
  | _ => False
theorem sc_Problem_size : FnScope ["self", "variable"] ["self", "variable"] (defScope s_Problem_size) := C8.fnScope_by (by decide +kernel)
theorem c_Problem_size {P : Program} {w : World} {K : PySem.W.Frag} {mg : Str → Option Value} {base hp : Heap} (T : Tx K mg hp) : C8.Met P w K mg base 1 (a_Problem K) "size" (sp_size K) [] := by
  obtain ⟨fd, F⟩ := T.fd_Problem_size
  refine mkMet T.cl_Problem T.me_Problem_size F sc_Problem_size (fun _ _ _ _ _ _ us hl => match us, hl with | [_, _], _ => rfl) (fun vs H Q E h => by unfold sp_size at h; split at h <;> first | rfl | exact h.elim) (fun cdv A outer s H vs Q E hr h => ?_)
  have nd := sc_Problem_size.nd
  have hu := hu_of hr
  unfold sp_size at h
  split at h
  case h_2 => exact h.elim
  obtain ⟨D, x, n, ⟨p, dx, d1, d2, d3, rfl, h⟩, rfl, hx, k⟩ := h
  refine ⟨_, (pss_cons (ps_if (PW.pt (pw_or (pt_not (pt_val (pe_callB call_isi (by rfl) T.fr_isinstance (by decide +kernel) (pa_cons (pv 1) (pa_cons (pe_bltn (v := .ty "str") (u := .type "str") (by rfl) T.fr_str (by decide +kernel) rfl) pa_nil))))) (pw_or1 (pt_cmp (pc_dnotin hu (pv 1) (pe_fld (pv 0) rfl)))))) pss_never pss_nil)
      (pss_one (ps_ret (pe_dget hu (pe_fld (pv 0) rfl) (pv 1) (fun _ _ => rfl))))), ?_⟩
  obtain ⟨a, u, ea, hd, hu⟩ := dgot (Same.refl H) h.s1 hx
  cases ea
  cases hu
  refine ⟨_, rfl, _, _, _, _, _, rfl, .ty _, .base (.str _), ks K, _, rfl, iteF ⟨_, rfl, _, rfl, p, _, dx, _, _, rfl, h.ob, T.cl_Problem, T.na_Problem_size_by_name, pfs1, d1, _, rfl, hd, _, rfl, iteF ?_⟩⟩
  exact ⟨_, rfl, p, _, dx, _, _, rfl, h.ob, T.cl_Problem, T.na_Problem_size_by_name, pfs1, _, rfl, d1, _, rfl, hd, k⟩
def sp_scope (K : PySem.W.Frag) : Sp := fun vs H Q _ => match vs with
  | [v, u] => ∃ F D e sc, Same F H ∧ rPl K F v D ∧ u = .str e ∧ D.scopes.lookup e = some sc ∧ ∀ v F' H', Pu F H F' H' → rL K rS F' v sc → Q v H'
  | _ => False
theorem mem_names {D : PD} {e : Str} {sc : List Str} (h : D.scopes.lookup e = some sc) : e ∈ D.names := by
  rw [← names_scopes]
  exact List.mem_map.mpr ⟨_, mem_lookup' h, rfl⟩
theorem mem_names' {D : PD} {e : Str} {ts : List (List Int)} (h : D.tups.lookup e = some ts) : e ∈ D.names := by
  rw [← names_tups]
  exact List.mem_map.mpr ⟨_, mem_lookup' h, rfl⟩
theorem sc_Problem_scope : FnScope ["self", "event"] ["self", "event"] (defScope s_Problem_scope) := C8.fnScope_by (by decide +kernel)
theorem c_Problem_scope {P : Program} {w : World} {K : PySem.W.Frag} {mg : Str → Option Value} {base hp : Heap} (T : Tx K mg hp) : C8.Met P w K mg base 2 (a_Problem K) "scope" (sp_scope K) [] := by
  obtain ⟨fd, F⟩ := T.fd_Problem_scope
  refine mkMet T.cl_Problem T.me_Problem_scope F sc_Problem_scope (fun _ _ _ _ _ _ us hl => match us, hl with | [_, _], _ => rfl) (fun vs H Q E h => by unfold sp_scope at h; split at h <;> first | rfl | exact h.elim) (fun cdv A outer s H vs Q E hr h => ?_)
  have nd := sc_Problem_scope.nd
  have hu := hu_of hr
  unfold sp_scope at h
  split at h
  case h_2 => exact h.elim
  obtain ⟨F, D, ev, sc, e, hP, rfl, hs, k⟩ := h
  obtain ⟨p, dx, d1, d2, d3, rfl, h⟩ := id hP
  refine ⟨_, (pss_cons (ps_expr (C8.pe_mt (c_Problem_check_event T) hr (by decide) (pv 0) (pa_cons (pv 1) pa_nil)))
      (pss_one (ps_ret (pe_callTy call_list_of (by rfl) T.fr_list (by decide +kernel) (pa_cons (pe_dget hu (pe_fld (pv 0) rfl) (pv 1) (fun _ _ => rfl)) pa_nil))))), ?_⟩
  obtain ⟨a, u, ea, hd, hu⟩ := dgot e h.s2 hs
  cases ea
  obtain ⟨b, rfl, hb⟩ := rls hu
  refine ⟨_, rfl, p, dx, _, rfl, h.h e, pfsn (by decide +kernel), _, rfl, D, ev, Up.up e hP, rfl, mem_names hs, ?_⟩
  refine ⟨_, rfl, p, _, dx, _, _, rfl, h.h e, T.cl_Problem, T.na_Problem_scope_by_event, pfs2, _, rfl, d2, _, rfl, hd, b, _, rfl, .inl (sql_s e hb), fun q nq => ?_⟩
  exact k _ _ _ (Gr.new e nq) (rls_of (SqL.of upd_same))
def sp_bad_tuples (K : PySem.W.Frag) : Sp := fun vs H Q _ => match vs with
  | [v, u] => ∃ F D e ts, Same F H ∧ rPl K F v D ∧ u = .str e ∧ D.tups.lookup e = some ts ∧ ∀ v F' H', Pu F H F' H' → rL K (rU K rI) F' v ts → Q v H'
  | _ => False
theorem sc_Problem_bad_tuples : FnScope ["self", "event"] ["self", "event"] (defScope s_Problem_bad_tuples) := C8.fnScope_by (by decide +kernel)
theorem c_Problem_bad_tuples {P : Program} {w : World} {K : PySem.W.Frag} {mg : Str → Option Value} {base hp : Heap} (T : Tx K mg hp) : C8.Met P w K mg base 2 (a_Problem K) "bad_tuples" (sp_bad_tuples K) [] := by
  obtain ⟨fd, F⟩ := T.fd_Problem_bad_tuples
  refine mkMet T.cl_Problem T.me_Problem_bad_tuples F sc_Problem_bad_tuples (fun _ _ _ _ _ _ us hl => match us, hl with | [_, _], _ => rfl) (fun vs H Q E h => by unfold sp_bad_tuples at h; split at h <;> first | rfl | exact h.elim) (fun cdv A outer s H vs Q E hr h => ?_)
  have nd := sc_Problem_bad_tuples.nd
  have hu := hu_of hr
  unfold sp_bad_tuples at h
  split at h
  case h_2 => exact h.elim
  obtain ⟨F, D, ev, ts, e, hP, rfl, hs, k⟩ := h
  obtain ⟨p, dx, d1, d2, d3, rfl, h⟩ := id hP
  refine ⟨_, (pss_cons (ps_expr (C8.pe_mt (c_Problem_check_event T) hr (by decide) (pv 0) (pa_cons (pv 1) pa_nil)))
      (pss_one (ps_ret (pe_callTy call_list_of (by rfl) T.fr_list (by decide +kernel) (pa_cons (pe_dget hu (pe_fld (pv 0) rfl) (pv 1) (fun _ _ => rfl)) pa_nil))))), ?_⟩
  obtain ⟨a, u, ea, hd, b, ys, rfl, hb, hy⟩ := dgot e h.s3 hs
  cases ea
  refine ⟨_, rfl, p, dx, _, rfl, h.h e, pfsn (by decide +kernel), _, rfl, D, ev, Up.up e hP, rfl, mem_names' hs, ?_⟩
  refine ⟨_, rfl, p, _, dx, _, _, rfl, h.h e, T.cl_Problem, T.na_Problem_tuples_by_event, pfs3, _, rfl, d3, _, rfl, hd, b, _, rfl, .inl (sql_s e hb), fun q nq => ?_⟩
  have g : Pu F H (upd F q (.lst ys)) (upd H q (.lst ys)) := Gr.new e nq
  exact k _ _ _ g ⟨q, ys, rfl, SqL.of upd_same, hy.up g.f⟩
end Rs
/-! text R7 -/
set_option Elab.async false
set_option linter.all false
set_option maxRecDepth 100000
set_option maxHeartbeats 4000000
namespace Rs
open PySem PySem.Spec PyProof.Rows L2
theorem ip_mulW {X : Cx} : PIp X .Mult (L2.rI CMul fun i j => .int (i * j)) := iop_mul
theorem scope_of {D : PD} {e : Str} {sc : List Str} (ok : D.Ok) (h : D.scopes.lookup e = some sc) : okScope D.vars sc := by
  obtain ⟨ev, h1, h2⟩ := List.mem_map.mp (mem_lookup' h)
  cases h2
  exact ok.sc ev h1
theorem tups_of {D : PD} {e : Str} {sc : List Str} {ts : List (List Int)} (ok : D.Ok) (h : D.scopes.lookup e = some sc) (ht : D.tups.lookup e = some ts) : okTuples D.vars sc ts := by
  obtain ⟨ev, h1, h2⟩ := List.mem_map.mp (mem_lookup' h)
  obtain ⟨ev', h1', h2'⟩ := List.mem_map.mp (mem_lookup' ht)
  have e1 : ev.1 = e := congrArg Prod.fst h2
  have e2 : ev'.1 = e := congrArg Prod.fst h2'
  have : ev = ev' := by
    have a := lookup_nd (x := e) (y := ev.2) ok.nd (by rw [← e1]; exact h1)
    have b := lookup_nd (x := e) (y := ev'.2) ok.nd (by rw [← e2]; exact h1')
    rw [a] at b
    exact Prod.ext (e1.trans e2.symm) (Option.some.inj b)
  subst this
  cases h2
  cases h2'
  exact ok.tp ev h1
theorem var_of {vars : List (Str × Int)} {x : Str} (ok : okVars vars) (h : x ∈ vars.map (·.1)) : ∃ n, vars.lookup x = some n ∧ 1 ≤ n ∧ n ≤ 6 := by
  obtain ⟨n, hn⟩ := lookup_mem h
  exact ⟨n, hn, (ok.2.1 _ (mem_lookup' hn)).2⟩
def tcount (vars : List (Str × Int)) (sc : List Str) : Int := sc.foldl (fun c x => c * (vars.lookup x).getD 1) 1
theorem tcount_bd {vars : List (Str × Int)} (ok : okVars vars) : ∀ (sc : List Str) (c : Int), (∀ x ∈ sc, x ∈ vars.map (·.1)) → 1 ≤ c → c ≤ sc.foldl (fun c x => c * (vars.lookup x).getD 1) c ∧ sc.foldl (fun c x => c * (vars.lookup x).getD 1) c ≤ c * 6 ^ sc.length
  | [], c, _, hc => ⟨Int.le_refl _, by show c ≤ c * 6 ^ 0; omega⟩
  | x :: sc, c, h, hc => by
    obtain ⟨n, hn, h1, h6⟩ := var_of ok (h x (List.mem_cons_self ..))
    have e : (vars.lookup x).getD 1 = n := by rw [hn]; rfl
    have c1 : 1 ≤ c * n := by
      have := Int.mul_le_mul_of_nonneg_left h1 (show 0 ≤ c by omega)
      omega
    obtain ⟨a, b⟩ := tcount_bd ok sc (c * n) (fun y hy => h y (List.mem_cons_of_mem _ hy)) c1
    rw [List.foldl_cons, e]
    refine ⟨?_, ?_⟩
    · have := Int.mul_le_mul_of_nonneg_left h1 (show 0 ≤ c by omega)
      omega
    · refine Int.le_trans b ?_
      rw [List.length_cons, Int.pow_succ, Int.mul_assoc, Int.mul_comm (6 ^ sc.length) 6]
      refine Int.mul_le_mul_of_nonneg_left ?_ (by omega)
      exact Int.mul_le_mul_of_nonneg_right h6 (Int.pow_nonneg (by decide))
theorem tcount_in {vars : List (Str × Int)} (ok : okVars vars) {sc : List Str} (h : okScope vars sc) (i : Nat) : 1 ≤ tcount vars (sc.take i) ∧ tcount vars (sc.take i) ≤ 1296 := by
  obtain ⟨⟨_, h4⟩, _, hm⟩ := h
  obtain ⟨a, b⟩ := tcount_bd ok (sc.take i) 1 (fun x hx => hm x (List.mem_of_mem_take hx)) (Int.le_refl _)
  refine ⟨a, Int.le_trans b ?_⟩
  have hl : (sc.take i).length ≤ 4 := Nat.le_trans (by rw [List.length_take]; omega) h4
  have : (6 : Int) ^ (sc.take i).length ≤ 6 ^ 4 := by
    generalize (sc.take i).length = m at hl
    match m, hl with
    | 0, _ => decide
    | 1, _ => decide
    | 2, _ => decide
    | 3, _ => decide
    | 4, _ => decide
  omega
theorem tcount_take {vars : List (Str × Int)} {sc : List Str} {i : Nat} {x : Str} (h : sc[i]? = some x) : tcount vars (sc.take (i + 1)) = tcount vars (sc.take i) * (vars.lookup x).getD 1 := by
  unfold tcount
  rw [fold_take _ _ h]
def sp_tuple_count (K : PySem.W.Frag) : Sp := fun vs H Q _ => match vs with
  | [v, u] => ∃ F D e sc, Same F H ∧ rPl K F v D ∧ u = .str e ∧ D.scopes.lookup e = some sc ∧ ∀ F' H', Pu F H F' H' → Q (.int (tcount D.vars sc)) H'
  | _ => False
theorem sc_Problem_tuple_count : FnScope ["self", "event", "count", "variable"] ["self", "event"] (defScope s_Problem_tuple_count) := C8.fnScope_by (by decide +kernel)
theorem c_Problem_tuple_count {P : Program} {w : World} {K : PySem.W.Frag} {mg : Str → Option Value} {base hp : Heap} (T : Tx K mg hp) : C8.Met P w K mg base 3 (a_Problem K) "tuple_count" (sp_tuple_count K) [] := by
  obtain ⟨fd, F⟩ := T.fd_Problem_tuple_count
  refine mkMet T.cl_Problem T.me_Problem_tuple_count F sc_Problem_tuple_count (fun _ _ _ _ _ _ us hl => match us, hl with | [_, _], _ => rfl) (fun vs H Q E h => by unfold sp_tuple_count at h; split at h <;> first | rfl | exact h.elim) (fun cdv A outer s H vs Q E hr h => ?_)
  have nd := sc_Problem_tuple_count.nd
  have hu := hu_of hr
  unfold sp_tuple_count at h
  split at h
  case h_2 => exact h.elim
  obtain ⟨F, D, ev, sc, e, hP, rfl, hs, k⟩ := h
  obtain ⟨p, dx, d1, d2, d3, rfl, h⟩ := id hP
  refine ⟨_, (pss_cons (ps_set (i := 2) nd rfl (Or.inl rfl) pe_int)
      (pss_cons (ps_for PassesOwn.never rfl (pi_list (C8.pe_mt (c_Problem_scope T) hr (by decide) (pv 0) (pa_cons (pv 1) pa_nil))) (pg_name (i := 3) nd rfl (Or.inl rfl)) (pss_one (ps_aug (i := 2) nd rfl (Or.inl rfl) (pe_dget hu (pe_fld (pv 0) rfl) (pv 3) (fun _ _ => rfl)) ip_mulW)))
      (pss_one (ps_ret (pv 2))))), ?_⟩
  have osc := scope_of h.ok hs
  refine ⟨_, rfl, p, dx, _, rfl, h.h e, pfsn (by decide +kernel), _, rfl, F, D, ev, sc, e, hP, rfl, hs, fun v F1 H1 g1 hv => ?_⟩
  obtain ⟨a, rfl, ha⟩ := rls hv
  refine ⟨a, rfl, ⟨_, sql_s g1.fh ha⟩, for_list (K := K) (a := a) (xs := sc.map V.str) (fun i σ H' => (∃ w, σ = [some (.ref p), some (.str ev), some (.int (tcount D.vars (sc.take i))), w]) ∧ H' = H1) ⟨⟨_, rfl⟩, rfl⟩ (fun i σ H' _ ⟨_, z⟩ => by rw [z]; exact sql_s g1.fh ha) ?_ ?_⟩
  · rintro i y σ H' hi ⟨⟨w, rfl⟩, rfl⟩
    obtain ⟨x, hx, rfl⟩ := str_at hi
    obtain ⟨n, hn, n1, n6⟩ := var_of h.ok.v (osc.2.2 x (List.mem_of_getElem? hx))
    have h1 := h.up (.of g1.f)
    obtain ⟨b, u, eb, hd, hu⟩ := dgot g1.fh h1.s1 hn
    cases eb
    cases hu
    have bd := tcount_in h.ok.v osc i
    refine ⟨_, rfl, _, rfl, p, _, dx, _, _, rfl, h1.h g1.fh, T.cl_Problem, T.na_Problem_size_by_name, pfs1, _, rfl, d1, _, rfl, hd, _, _, rfl, rfl, .inl ⟨by omega, by omega⟩, ⟨some (.str x), ?_⟩, rfl⟩
    rw [tcount_take hx, hn]
    rfl
  · rintro σ H' ⟨⟨w, rfl⟩, rfl⟩
    refine ⟨_, rfl, ?_⟩
    rw [List.length_map, List.take_of_length_le (Nat.le_refl _)]
    exact k _ _ g1
def sp_probability (K : PySem.W.Frag) : Sp := fun vs H Q _ => match vs with
  | [v, u] => ∃ F D e sc ts, Same F H ∧ rPl K F v D ∧ u = .str e ∧ D.scopes.lookup e = some sc ∧ D.tups.lookup e = some ts ∧ ∀ v F' H', Pu F H F' H' → rR K F' v (nrm (ts.length : Int) (tcount D.vars sc)) → Q v H'
  | _ => False
theorem sc_Problem_probability : FnScope ["self", "event"] ["self", "event"] (defScope s_Problem_probability) := C8.fnScope_by (by decide +kernel)
theorem c_Problem_probability {P : Program} {w : World} {K : PySem.W.Frag} {mg : Str → Option Value} {base hp : Heap} (T : Tx K mg hp) : C8.Met P w K mg base 4 (a_Problem K) "probability" (sp_probability K) [] := by
  obtain ⟨fd, F⟩ := T.fd_Problem_probability
  refine mkMet T.cl_Problem T.me_Problem_probability F sc_Problem_probability (fun _ _ _ _ _ _ us hl => match us, hl with | [_, _], _ => rfl) (fun vs H Q E h => by unfold sp_probability at h; split at h <;> first | rfl | exact h.elim) (fun cdv A outer s H vs Q E hr h => ?_)
  have nd := sc_Problem_probability.nd
  have hu := hu_of hr
  unfold sp_probability at h
  split at h
  case h_2 => exact h.elim
  obtain ⟨F, D, ev, sc, ts, e, hP, rfl, hs, ht, k⟩ := h
  obtain ⟨p, dx, d1, d2, d3, rfl, h⟩ := id hP
  refine ⟨_, (pss_one (ps_ret (C8.pe_mk (c_Ratio T) hr (by decide) (by rfl) (pa_cons (pe_callB call_len_seq (by rfl) T.fr_len (by decide +kernel) (pa_cons (C8.pe_mt (c_Problem_bad_tuples T) hr (by decide) (pv 0) (pa_cons (pv 1) pa_nil)) pa_nil)) (pa_cons (C8.pe_mt (c_Problem_tuple_count T) hr (by decide) (pv 0) (pa_cons (pv 1) pa_nil)) pa_nil))))), ?_⟩
  have osc := scope_of h.ok hs
  have bd := tcount_in h.ok.v osc sc.length
  rw [List.take_of_length_le (Nat.le_refl _)] at bd
  refine ⟨_, rfl, p, dx, _, rfl, h.h e, pfsn (by decide +kernel), _, rfl, F, D, ev, ts, e, hP, rfl, ht, fun v F1 H1 g1 hv => ?_⟩
  obtain ⟨b, ys, rfl, hb, hy⟩ := hv
  refine ⟨b, _, rfl, .inl (sql_s g1.fh hb), ?_⟩
  refine ⟨_, rfl, p, dx, _, rfl, (h.up (.of g1.f)).h g1.fh, pfsn (by decide +kernel), _, rfl, F1, D, ev, sc, g1.fh, Up.up g1.f hP, rfl, hs, fun F2 H2 g2 => fun x dz nx nz ne => ?_⟩
  have g := g1.trans g2
  refine ⟨x, dz, _, _, rfl, rfl, rfl, upd_same, by omega, Nat.lt_of_lt_of_le (show (tcount D.vars sc).natAbs < 2 ^ 11 by omega) (Nat.pow_le_pow_right (by decide) (by decide)), fun H' e' => ⟨rfl, ?_⟩⟩
  subst e'
  refine k _ _ _ (g.trans (Gr.made g.fh nx nz ne)) ⟨x, dz, rfl, ?_⟩
  rw [hy.length]
  exact upd_same
def adjS (s1 s2 : List Str) : Bool := (s2.map fun x => decide (x ∈ s1)).any id
def sp_are_adjacent (K : PySem.W.Frag) : Sp := fun vs H Q _ => match vs with
  | [v, u1, u2] => ∃ F D e1 e2 s1 s2, Same F H ∧ rPl K F v D ∧ u1 = .str e1 ∧ u2 = .str e2 ∧ D.scopes.lookup e1 = some s1 ∧ D.scopes.lookup e2 = some s2 ∧ ∀ F' H', Pu F H F' H' → Q (.bl (adjS s1 s2)) H'
  | _ => False
theorem sc_Problem_are_adjacent : FnScope ["self", "one", "other", "scope", "variable"] ["self", "one", "other"] (defScope s_Problem_are_adjacent) := C8.fnScope_by (by decide +kernel)
theorem c_Problem_are_adjacent {P : Program} {w : World} {K : PySem.W.Frag} {mg : Str → Option Value} {base hp : Heap} (T : Tx K mg hp) : C8.Met P w K mg base 3 (a_Problem K) "are_adjacent" (sp_are_adjacent K) [] := by
  obtain ⟨fd, F⟩ := T.fd_Problem_are_adjacent
  refine mkMet T.cl_Problem T.me_Problem_are_adjacent F sc_Problem_are_adjacent (fun _ _ _ _ _ _ us hl => match us, hl with | [_, _, _], _ => rfl) (fun vs H Q E h => by unfold sp_are_adjacent at h; split at h <;> first | rfl | exact h.elim) (fun cdv A outer s H vs Q E hr h => ?_)
  have nd := sc_Problem_are_adjacent.nd
  have hu := hu_of hr
  unfold sp_are_adjacent at h
  split at h
  case h_2 => exact h.elim
  obtain ⟨F, D, e1, e2, s1, s2, e, hP, rfl, rfl, h1, h2, k⟩ := h
  obtain ⟨p, dx, d1, d2, d3, rfl, h⟩ := id hP
  refine ⟨_, (pss_cons (ps_set (i := 3) nd rfl (Or.inr rfl) (C8.pe_mt (c_Problem_scope T) hr (by decide) (pv 0) (pa_cons (pv 1) pa_nil)))
      (pss_one (ps_ret (pe_callB (cr_any rfl) (by rfl) T.fr_any (by decide +kernel) (pa_cons (pe_lc (own := [("variable", 4)]) (g := (gName 4)) rfl nd (pi_list (C8.pe_mt (c_Problem_scope T) hr (by decide) (pv 0) (pa_cons (pv 2) pa_nil))) (blkOk_by (own := [("variable", 4)]) (N := ["self", "one", "other", "scope", "variable"]) (sc := defScope s_Problem_are_adjacent) (by decide +kernel)) (fun _ _ _ _ _ => (pg_name (i := 4) nd rfl (Or.inl rfl))) (fun _ _ _ _ _ => pts_nil) (fun _ _ _ _ _ => (pe_cmpR (op_in_seqK (K := K) rfl) (pv 4) (pv 3) rfl))) pa_nil))))), ?_⟩
  have o2 := scope_of h.ok h2
  refine ⟨_, rfl, p, dx, _, rfl, h.h e, pfsn (by decide +kernel), _, rfl, F, D, e1, s1, e, hP, rfl, h1, fun v F1 H1 g1 hv => ?_⟩
  obtain ⟨a, rfl, ha⟩ := rls hv
  refine ⟨_, rfl, p, dx, _, rfl, (h.up (.of g1.f)).h g1.fh, pfsn (by decide +kernel), _, rfl, F1, D, e2, s2, g1.fh, Up.up g1.f hP, rfl, h2, fun v F2 H2 g2 hv => ?_⟩
  obtain ⟨b, rfl, hb⟩ := rls hv
  have g := g1.trans g2
  refine ⟨b, rfl, ⟨_, sql_s g2.fh hb⟩, ?_⟩
  refine lcL (K := K) (RA := rS) (R := rB) (f := fun x => decide (x ∈ s1)) (p := fun _ => true) g2.fh hb (str_all2 s2) (Nat.le_trans o2.1.2 (by decide)) (fun y v F3 H3 hy g3 hv Kt Kf k1 k2 => ?_) (fun Dl F3 H3 g3 hD => ?_)
  · cases hv
    have g4 := g2.trans g3
    refine ⟨rfl, _, rfl, _, rfl, a, _, rfl, .inl (sql_s g3.fh (sql_s g4.f ha)), rfl, flat_strs s1, k1 rfl _ F3 H3 (Gr.refl g3.fh) ?_⟩
    show V.bl (inV (.str y) (s1.map V.str)) = V.bl (decide (y ∈ s1))
    rw [inv_str]
  · rw [ptrue] at hD
    obtain ⟨c, ec, hc⟩ := rlb hD
    cases ec
    exact ⟨Dl, _, rfl, sql_s g3.fh hc, k _ _ (g.trans g3)⟩
end Rs
/-! text Rz -/
set_option Elab.async false
set_option linter.all false
set_option maxRecDepth 100000
set_option maxHeartbeats 4000000
namespace Rs
open PySem PySem.Spec PyProof.Rows L2
section
variable {prog : Program} {w : World} {Kk : Type} [DecidableEq Kk] {knd : KeyKind prog w Kk} {A : Around} {E : Value → Shared → Prop} {s : Shared}
theorem nextOf_values_item {it d : Addr} {i ep : Nat} {kvs : List (Kk × Value)} {k : Kk} {v : Value} {Q : Value → Shared → Prop} (hit : s.heap.IsValIter it d i kvs.length ep)
    (hm : s.heap.DictAt knd d kvs ep) (hx : kvs[i]? = some (k, v))
    (hQ : ∀ h', h'.IsValIter it d (i + 1) kvs.length ep → Heap.SameBut it s.heap h' → Q v { s with heap := h' }) :
    wpAny (model prog w) A (Builtin.SmallTypes.nextOf (.ref it)) Q E s := by
  obtain ⟨o, ho, hc, hd⟩ := id hit
  obtain ⟨od, es, hod, hcd, hdd, hk, hp, hn⟩ := id hm
  unfold Builtin.SmallTypes.nextOf
  refine wpAny_bind (wpAny_callSpecial?_slot (name := Str.ofString "__next__") hit.typeIs F.slot_dict_valueiterator_next
    (wpAny_call_entry F.slot_dict_valueiterator_next hit.typeIs F.entry_dict_valueiterator_next ?_ (F.args_dict_valueiterator_next_1 _)))
  refine wpAny_bind (wpAny_pure ?_)
  refine wpAny_bind ?_
  refine wpAny_bind ?_
  first | refine wpAny_bind (wpAny_typeNameOfWhole_valiter hit.typeIs (wpAny_pure ?_)) | refine wpAny_bind (wpAny_typeNameOf_valiter hit.typeIs (wpAny_pure ?_))
  refine wpAny_bind (wpAny_fieldsOf ho hd ?_)
  have hown : Builtin.Dict_items.ownsTuple "dict_valueiterator" = false := by decide
  simp only [hown, Bool.false_eq_true, if_false]
  show wpAny _ _ (if (Value.ref d == Value.none) = true then _ else _) _ _ s
  rw [if_neg (show ¬ ((Value.ref d == Value.none) = true) from Bool.false_ne_true)]
  refine wpAny_bind (wpAny_pure ?_)
  refine wpAny_bind (wpAny_dictEntries hod hdd ?_)
  have hsz : es.size = kvs.length := by rw [← hp.length]; simp
  rw [if_neg (by rw [hsz]; simp)]
  refine wpAny_bind (wpAny_pure ?_)
  refine wpAny_bind (wpAny_dictEpoch hod hdd ?_)
  rw [if_neg (by simp)]
  refine wpAny_pure ?_
  have hlt : i < kvs.length := by
    rcases Nat.lt_or_ge i kvs.length with h | h
    · exact h
    · simp [List.getElem?_eq_none h] at hx
  have hlt' : i < es.size := by rw [hsz]; exact hlt
  have hval : es[i].val = v := (hp.get? (e := es[i]) (by simp [hlt']) hx).2
  simp only [show ¬ ((i : Int) < 0) from by omega, if_false, Int.toNat_natCast, Array.getElem?_eq_getElem hlt']
  refine wpAny_bind ?_
  first | refine wpAny_bind (wpAny_typeNameOfWhole_valiter hit.typeIs (wpAny_pure ?_)) | refine wpAny_bind (wpAny_typeNameOf_valiter hit.typeIs (wpAny_pure ?_))
  refine wpAny_bind (wpAny_isOneOf_valiter hit.typeIs ?_)
  show wpAny _ _ (setField (.ref it) 1 (rawInt ((i : Int) + 1)) >>= _) _ _ s
  refine wpAny_bind (wpAny_setField ho hd (by simp) ?_)
  have hit' : (s.heap.update it (Obj.mapFields (·.setIfInBounds 1 (rawInt ((i : Int) + 1))))).IsValIter it d (i + 1) kvs.length ep :=
    ⟨_, Heap.get?_update_self _ ho (Obj.isFreed_of_fields (Obj.data_mapFields hd _)), (Obj.cls_mapFields ..).trans hc, by rw [Obj.data_mapFields hd]; simp [rawInt]⟩
  refine wpAny_bind (wpAny_holding ?_)
  refine wpAny_bind (wpAny_isOneOf_valiter (s := { s with heap := s.heap.update it (Obj.mapFields (·.setIfInBounds 1 (rawInt ((i : Int) + 1)))) }) hit'.typeIs ?_)
  refine wpAny_bind (wpAny_isOneOf_valiter (s := { s with heap := s.heap.update it (Obj.mapFields (·.setIfInBounds 1 (rawInt ((i : Int) + 1)))) }) hit'.typeIs ?_)
  show wpAny _ _ (pure es[i].val) _ _ _
  exact wpAny_pure (wpAny_pure ⟨_, rfl, wpAny_pure (hval ▸ hQ _ hit' (Heap.SameBut.update ..))⟩)
theorem nextOf_values_end {it d : Addr} {i ep : Nat} {kvs : List (Kk × Value)} {Q : Value → Shared → Prop} (hh : A.handled = none) (hit : s.heap.IsValIter it d i kvs.length ep)
    (hm : s.heap.DictAt knd d kvs ep) (hx : kvs[i]? = none)
    (hE : ∀ h' e, Heap.ExtBut it s.heap h' → (∃ o, h'.get? e = some o ∧ o.cls = .type "StopIteration") → E (.ref e) { s with heap := h' }) : wpAny (model prog w) A (Builtin.SmallTypes.nextOf (.ref it)) Q E s := by
  obtain ⟨o, ho, hc, hd⟩ := id hit
  obtain ⟨od, es, hod, hcd, hdd, hk, hp, hn⟩ := id hm
  unfold Builtin.SmallTypes.nextOf
  refine wpAny_bind (wpAny_callSpecial?_slot (name := Str.ofString "__next__") hit.typeIs F.slot_dict_valueiterator_next
    (wpAny_call_entry F.slot_dict_valueiterator_next hit.typeIs F.entry_dict_valueiterator_next ?_ (F.args_dict_valueiterator_next_1 _)))
  refine wpAny_bind (wpAny_pure ?_)
  refine wpAny_bind ?_
  refine wpAny_bind ?_
  first | refine wpAny_bind (wpAny_typeNameOfWhole_valiter hit.typeIs (wpAny_pure ?_)) | refine wpAny_bind (wpAny_typeNameOf_valiter hit.typeIs (wpAny_pure ?_))
  refine wpAny_bind (wpAny_fieldsOf ho hd ?_)
  have hown : Builtin.Dict_items.ownsTuple "dict_valueiterator" = false := by decide
  simp only [hown, Bool.false_eq_true, if_false]
  show wpAny _ _ (if (Value.ref d == Value.none) = true then _ else _) _ _ s
  rw [if_neg (show ¬ ((Value.ref d == Value.none) = true) from Bool.false_ne_true)]
  refine wpAny_bind (wpAny_pure ?_)
  refine wpAny_bind (wpAny_dictEntries hod hdd ?_)
  have hsz : es.size = kvs.length := by rw [← hp.length]; simp
  rw [if_neg (by rw [hsz]; simp)]
  refine wpAny_bind (wpAny_pure ?_)
  refine wpAny_bind (wpAny_dictEpoch hod hdd ?_)
  rw [if_neg (by simp)]
  refine wpAny_pure ?_
  have hge : es.size ≤ i := by rw [hsz]; simpa using hx
  simp only [show ¬ ((i : Int) < 0) from by omega, if_false, Int.toNat_natCast, Array.getElem?_eq_none hge]
  refine wpAny_bind ?_
  first | refine wpAny_bind (wpAny_typeNameOfWhole_valiter hit.typeIs (wpAny_pure ?_)) | refine wpAny_bind (wpAny_typeNameOf_valiter hit.typeIs (wpAny_pure ?_))
  show wpAny _ _ (setField (.ref it) 0 .none >>= _) _ _ s
  refine wpAny_bind (wpAny_setField ho hd (by simp) ?_)
  show wpAny _ _ (newExc (.type "StopIteration") [] >>= _) _ _ _
  refine wpAny_bind ?_
  simp only [newExc, newTuple]
  refine wpAny_bind (wpAny_newObj_type ?_ (by size_fits))
  refine wpAny_bind (m := firstArgMember _ _) (wpAny_of_eq (a := Value.none) (by first | rfl | (simp only [firstArgMember]; rfl)) ?_)
  refine wpAny_newObj_type ?_ (by size_fits)
  simp only [raiseNew]
  refine wpAny_bind (wpAny_handled ?_)
  first | rw [show A.in1.handled = none from hh] | rw [hh]
  refine wpAny_bind (wpAny_pure (wpAny_throw ?_))
  exact hE _ _ (((Heap.SameBut.update ..).extBut.push _).push _) ⟨_, Heap.get?_push_size _ rfl, rfl⟩
theorem drawsVals (hh : A.handled = none) (it d : Addr) (hne : d ≠ it) (kvs : List (Kk × Value)) (ep : Nat) :
    Draws prog w A it [it, d] kvs.length (fun i v => ∃ k, kvs[i]? = some (k, v)) (fun i h => h.IsValIter it d i kvs.length ep ∧ h.DictAt knd d kvs ep) where
  live := fun _ _ st => let ⟨o, ho, _⟩ := st.1; ⟨o, ho⟩
  frame := fun _ _ _ st hk => ⟨st.1.at fun o e => hk it (by simp) o e, by
    obtain ⟨o, es, e, r⟩ := st.2
    exact ⟨o, es, hk d (by simp) o e, r⟩⟩
  item := fun i s Q E hi st hQ => by
    refine nextOf_values_item st.1 st.2 (k := (kvs[i]).1) (v := (kvs[i]).2) (by simp [hi]) fun h' hit' hs' => ?_
    refine hQ _ h' s.toks ⟨(kvs[i]).1, by simp [hi]⟩ ⟨hit', ?_⟩ hs'
    obtain ⟨o, es, e, r⟩ := st.2
    exact ⟨o, es, hs'.extBut d o hne e, r⟩
  done := fun s Q E st hE => nextOf_values_end hh st.1 st.2 (by simp) hE
end
/-- what a zip draws from: a list, a tuple, the values of a locked dict (by their view) -/
inductive Zk where
  | l (a : Addr) | t (a : Addr) | v (a d : Addr) (o : Obj)
def Zk.a : Zk → Addr
  | .l a => a | .t a => a | .v a _ _ => a
def Zk.here (K : PySem.W.Frag) : Zk → Hp → List V → Prop
  | .l a, H, xs => SqL K H a xs
  | .t a, H, xs => SqT K H a xs
  | .v _ d o, H, xs => ∃ kvs, H d = some (.frz o (.dK kvs)) ∧ xs = kvs.map (·.2)
def Zk.view : Zk → Hp → Prop
  | .v a d _, H => H a = some (.ext fun h => h.IsValuesView a d)
  | _, _ => True
def Zk.own : Zk → Addr → Nat → Heap → Prop
  | .l a, it, i, h => h.IsListIter it a i
  | .t a, it, i, h => h.IsTupleIter it a i
  | .v _ d o, it, i, h => ∃ es ep n, o.data = .dict es ep ∧ n = es.size ∧ h.IsValIter it d i n ep
theorem Zk.own_obj {z : Zk} {it : Addr} {i : Nat} {h : Heap} (q : z.own it i h) : ∃ o, h.get? it = some o ∧ ∀ v, o.data ≠ .cell v := by
  cases z with
  | l a => obtain ⟨o, e, _, d⟩ := q; exact ⟨o, e, fun v q => by rw [d] at q; cases q⟩
  | t a => obtain ⟨o, e, _, d⟩ := q; exact ⟨o, e, fun v q => by rw [d] at q; cases q⟩
  | v a d o => obtain ⟨_, _, _, _, _, o, e, _, d⟩ := q; exact ⟨o, e, fun v q => by rw [d] at q; cases q⟩
theorem Zk.own_at {z : Zk} {it : Addr} {i : Nat} {h h' : Heap} (q : z.own it i h) (k : ∀ o, h.get? it = some o → h'.get? it = some o) : z.own it i h' := by
  cases z with
  | l a => exact Heap.IsListIter.at q k
  | t a => exact Heap.IsTupleIter.at q k
  | v a d o => obtain ⟨es, ep, n, h1, h2, h3⟩ := q; exact ⟨es, ep, n, h1, h2, h3.at k⟩
section
variable {X : Cx} {pins : List (Addr × Obj)} {σ : L2.St} {H : Hp} {s : Shared}
theorem Zk.inj {z : Zk} {xs ys : List V} (I : Inv X pins σ H s) (h1 : z.here X.K H xs) (h2 : z.here X.K H ys) : xs = ys := by
  cases z with
  | l a => exact I.list_inj h1 h2
  | t a => exact I.tuple_inj h1 h2
  | v a d o =>
    obtain ⟨k1, e1, rfl⟩ := h1
    obtain ⟨k2, e2, rfl⟩ := h2
    rw [e1] at e2
    cases e2
    rfl
theorem vals_at {xs : List V} {us : List Value} (r : Vals xs us) {i : Nat} {x : Value} (h : us[i]? = some x) : ∃ v, xs[i]? = some v ∧ RelV v x := by
  have hl := r.length
  have hi : i < xs.length := by
    rw [hl]
    rcases Nat.lt_or_ge i us.length with q | q
    · exact q
    · rw [List.getElem?_eq_none q] at h; cases h
  obtain ⟨u, hu, ru⟩ := r.get (show xs[i]? = some xs[i] by simp [hi])
  rw [hu] at h
  cases h
  exact ⟨_, by simp [hi], ru⟩
def Zk.src : Zk → Addr
  | .l a => a | .t a => a | .v _ d _ => d
theorem Zk.src_lt {z : Zk} {xs : List V} (I : Inv X pins σ H s) (h : z.here X.K H xs) : z.src < s.heap.objs.size := by
  cases z with
  | l a => obtain ⟨its, rv, p, _⟩ := I.list h; exact p.lt
  | t a => obtain ⟨its, rv, ⟨o, ho, _⟩, _⟩ := I.tuple h; exact Heap.lt_size ho
  | v a d o => obtain ⟨kvs, e, _⟩ := h; obtain ⟨_, q, _⟩ := I.frzK e; exact Heap.lt_size q
theorem kvals {kvs : List (Key × V)} {vs : List (Key × Value)} (r : KV kvs vs) {i : Nat} {k : Key} {x : Value} (h : vs[i]? = some (k, x)) : ∃ v, (kvs.map (·.2))[i]? = some v ∧ RelV v x := by
  have hl : kvs.length = vs.length := Paired.length r
  have hi : i < kvs.length := by
    rw [hl]
    rcases Nat.lt_or_ge i vs.length with q | q
    · exact q
    · rw [List.getElem?_eq_none q] at h; cases h
  obtain ⟨u, hu, ru⟩ := kv_get r (show kvs[i]? = some ((kvs[i]).1, (kvs[i]).2) by simp [hi])
  rw [hu] at h
  cases h
  exact ⟨(kvs[i]).2, by simp [hi], ru⟩
theorem Zk.draws {z : Zk} {xs : List V} {it : Addr} {i : Nat} (A : Around) (hh : A.handled = none) (I : Inv X pins σ H s) (hx : z.here X.K H xs) (hi : z.own it i s.heap) (hne : z.src ≠ it) :
    ∃ (n : Nat) (Pn : Nat → Value → Prop) (Sn : Nat → Heap → Prop), Draws X.prog X.w A it [it, z.src] n Pn Sn ∧ n = xs.length ∧ Sn i s.heap ∧ (∀ j h', Sn j h' → z.own it j h') ∧
      ∀ j x, Pn j x → ∃ v, xs[j]? = some v ∧ RelV v x := by
  cases z with
  | l a =>
    obtain ⟨its, rv, p, _⟩ := I.list hx
    refine ⟨_, _, _, Draws.list hh it a hne its.toArray, by simp [rv.length], ⟨hi, p.isList⟩, fun j h' q => q.1, fun j x hj => ?_⟩
    exact vals_at rv (by simpa using hj)
  | t a =>
    obtain ⟨its, rv, p, _⟩ := I.tuple hx
    refine ⟨_, _, _, Draws.tuple hh it a hne its.toArray, by simp [rv.length], ⟨hi, p⟩, fun j h' q => q.1, fun j x hj => ?_⟩
    exact vals_at rv (by simpa using hj)
  | v a d o =>
    obtain ⟨kvs, hd, rfl⟩ := hx
    obtain ⟨hs, hgd, hx, es, ep, vs, hdt, hsz, kv, hm⟩ := I.frzK hd
    obtain ⟨es', ep', n, h1, h2, h3⟩ := hi
    obtain ⟨rfl, rfl⟩ := dict_ep hdt h1
    have hl : kvs.length = vs.length := Paired.length kv
    have hn : n = vs.length := by omega
    subst hn
    refine ⟨_, _, _, drawsVals hh it d hne vs ep', by simp [hl], ⟨h3, hm⟩, fun j h' q => ⟨es', ep', vs.length, h1, by omega, q.1⟩, fun j x ⟨k, hj⟩ => kvals kv hj⟩
/-- both sources, the items in new pairs -/
def ItG (K : PySem.W.Frag) (z1 z2 : Zk) : It :=
  ⟨fun i H => ∃ (xs ys : List V), z1.here K H xs ∧ z2.here K H ys ∧ i < xs.length ∧ i < ys.length,
    fun i H v H' => ∃ T x y, v = .ref T ∧ H T = none ∧ H' = upd H T (.tup [x, y]) ∧ (∀ xs, z1.here K H xs → xs[i]? = some x) ∧ ∀ ys, z2.here K H ys → ys[i]? = some y,
    fun i H => ∃ xs ys : List V, z1.here K H xs ∧ z2.here K H ys ∧ i ≤ xs.length ∧ i ≤ ys.length ∧ (i = xs.length ∨ i = ys.length)⟩
end
theorem turn_zipG {P : Program} {w : World} {K : PySem.W.Frag} {elts : List Expr} {kk : Nat} {tpos : Pos} {z1 z2 : Zk} {z TI TO i1 i2 : Addr} (D : ZipSep2 z TI TO i1 i2 [i1, z1.src] [i2, z2.src]) (n1 : z1.src ≠ i1) (n2 : z2.src ≠ i2) :
    Turn P w K (.Tuple elts kk tpos) (ItG K z1 z2) [z, TI, TO, i1, i2] z (fun i h => IsZip h z TI TO .none ∧ IsTupOf2 h TI (.ref i1) (.ref i2) ∧ (∃ x y, IsTupOf2 h TO x y) ∧ z1.own i1 i h ∧ z2.own i2 i h) where
  mem := by simp
  obj := fun i h st c hc => by
    obtain ⟨hz, hTI, ⟨x, y, hTO⟩, h1, h2⟩ := st
    have e' : c = z ∨ c = TI ∨ c = TO ∨ c = i1 ∨ c = i2 := by simpa using hc
    rcases e' with q | q | q | q | q
    · rw [q]; exact ⟨_, hz, fun v q => nomatch q⟩
    · rw [q]; exact ⟨_, hTI, fun v q => nomatch q⟩
    · rw [q]; exact ⟨_, hTO, fun v q => nomatch q⟩
    · rw [q]; exact Zk.own_obj h1
    · rw [q]; exact Zk.own_obj h2
  keep := fun i h h' st k => by
    obtain ⟨hz, hTI, ⟨x, y, hTO⟩, h1, h2⟩ := st
    exact ⟨k z (by simp) _ hz, k TI (by simp) _ hTI, ⟨x, y, k TO (by simp) _ hTO⟩, Zk.own_at h1 fun o q => k i1 (by simp) o q, Zk.own_at h2 fun o q => k i2 (by simp) o q⟩
  item := by
    intro X hP hw hK hc i pins s σ H E I hf st hg
    subst hP hw hK
    obtain ⟨hz, hTI, ⟨x0, y0, hTO⟩, h1, h2⟩ := st
    obtain ⟨xs, ys, hqx, hqy, hi1, hi2⟩ := hg
    obtain ⟨m1, P1, S1, D1, e1, st1, o1, p1⟩ := Zk.draws X.A.in1 (I.ok.hd hc) I hqx h1 n1
    obtain ⟨m2, P2, S2, D2, e2, st2, o2, p2⟩ := Zk.draws X.A.in1 (I.ok.hd hc) I hqy h2 n2
    subst e1 e2
    have hzl : z < s.heap.objs.size := Heap.lt_size hz
    refine wpAny_pyNext_zipD2_item D D1 D2 hz hTI hTO st1 st2 hi1 hi2 fun u u2 h' tk q1 q2 z' TO' h1' h2' hT hsz hk => ?_
    obtain ⟨x, hx, ru⟩ := p1 _ _ q1
    obtain ⟨y, hy, ru2⟩ := p2 _ _ q2
    refine ⟨_, rfl, wpAny_letOwnedTupleGo_zip (s := { s with heap := h', toks := tk }) z' fun h'' z'' sb => ?_⟩
    have hT2 : h''.get? s.heap.objs.size = some { cls := .type "tuple", data := .seq #[u, u2] } := (sb.2 _ (Nat.ne_of_gt hzl)).trans hT
    have new : ObjOk X.prog X.w (upd H s.heap.objs.size (.tup [x, y])) h'' s.heap.objs.size (.tup [x, y]) :=
      ⟨by show 2 ≤ sizeLine; decide, [u, u2], .cons ru (.cons ru2 .nil), ⟨_, hT2, rfl, _, rfl⟩⟩
    have I1 : Inv X pins σ (upd H s.heap.objs.size (.tup [x, y])) { s with heap := h'', toks := tk } :=
      I.turnedNew (t' := tk) (ch := [z, TI, TO, i1, i2]) (fun c o hb q => (sb.2 c (fun q' => hb (by simp [q']))).trans (hk c o (fun q' => hb (by simp [q'])) (fun q' => hb (by simp [q'])) (fun q' => hb (by simp [q'])) (fun q' => hb (by simp [q'])) q)) hf (Nat.le_refl _) new
    refine ⟨.ref s.heap.objs.size, _, I1, rfl, ⟨_, x, y, rfl, I.hok.fresh (Nat.le_refl _), rfl, fun l hl => by rw [Zk.inj I hl hqx]; exact hx, fun l hl => by rw [Zk.inj I hl hqy]; exact hy⟩, ⟨z'', ?_, ⟨u, u2, ?_⟩, ?_, ?_⟩, fun c hcm => ?_⟩
    · exact (sb.2 _ D.TIz).trans (hk _ _ D.TIz D.TITO D.TIi1 D.TIi2 hTI)
    · exact (sb.2 _ D.TOz).trans TO'
    · exact Zk.own_at (o1 _ _ h1') fun o q => (sb.2 _ (Ne.symm D.zi1)).trans q
    · exact Zk.own_at (o2 _ _ h2') fun o q => (sb.2 _ (Ne.symm D.zi2)).trans q
    · have hlt : c < s.heap.objs.size := by
        have e' : c = z ∨ c = TI ∨ c = TO ∨ c = i1 ∨ c = i2 := by simpa using hcm
        rcases e' with q | q | q | q | q
        · rw [q]; exact hzl
        · rw [q]; exact Heap.lt_size hTI
        · rw [q]; exact Heap.lt_size hTO
        · rw [q]; obtain ⟨_, e1, _⟩ := Zk.own_obj h1; exact Heap.lt_size e1
        · rw [q]; obtain ⟨_, e2, _⟩ := Zk.own_obj h2; exact Heap.lt_size e2
      rw [upd_ne (Nat.ne_of_lt hlt)]
      exact (hf c hcm).1
  done := by
    intro X hP hw hK hc i pins s σ H E I hf st hg
    subst hP hw hK
    obtain ⟨hz, hTI, ⟨x0, y0, hTO⟩, h1, h2⟩ := st
    obtain ⟨xs, ys, hqx, hqy, l1, l2, hend⟩ := hg
    obtain ⟨m1, P1, S1, D1, e1, st1, o1, p1⟩ := Zk.draws X.A.in1 (I.ok.hd hc) I hqx h1 n1
    obtain ⟨m2, P2, S2, D2, e2, st2, o2, p2⟩ := Zk.draws X.A.in1 (I.ok.hd hc) I hqy h2 n2
    subst e1 e2
    exact wpAny_pyNext_zipD2_end D D1 D2 hz hTI hTO st1 st2 l1 l2 hend fun h' tk hk => ⟨rfl, I.turnedL (t' := tk) (ch := [z, TI, TO, i1, i2]) (fun c o hb q =>
      hk c o (fun q' => hb (by simp [q'])) (fun q' => hb (by simp [q'])) (fun q' => hb (by simp [q'])) (fun q' => hb (by simp [q'])) q) hf⟩
  self := fun A i s Q E st h => wpAny_pyIter_zip st.1 h
theorem walk_zipG {K : PySem.W.Frag} {z1 z2 : Zk} {xs ys : List V} {n : Nat} (hn : n = min xs.length ys.length) : Walk (ItG K z1 z2) n (fun H => z1.here K H xs ∧ z2.here K H ys) (YPair (fun i => xs[i]?) (fun i => ys[i]?)) := by
  subst hn
  refine ⟨fun i _ hi q => ⟨xs, ys, q.1, q.2, by omega, by omega⟩, fun _ q => ⟨xs, ys, q.1, q.2, by omega, by omega, by omega⟩, fun i H v H' _ q y => ?_⟩
  obtain ⟨T, x, z, h1, h2, h3, h4, h5⟩ := y
  exact ⟨T, x, z, h1, h2, h3, h4 xs q.1, h5 ys q.2⟩
theorem nin2 {x a b : Nat} (h1 : x ≠ a) (h2 : x ≠ b) : (x : Addr) ∉ ([a, b] : List Addr) := by
  intro h
  cases h with
  | head => exact h1 rfl
  | tail _ h => cases h with
    | head => exact h2 rfl
    | tail _ h => cases h
theorem zsep (n l1 l2 : Nat) (h1 : l1 < n) (h2 : l2 < n) : ZipSep2 (n + 4) (n + 2) (n + 3) n (n + 1) [n, l1] [n + 1, l2] := by
  have e1 : n + 2 ≠ n + 4 := by omega
  have e2 : n + 3 ≠ n + 4 := by omega
  have e3 : n + 2 ≠ n + 3 := by omega
  have e4 : n + 2 ≠ n := by omega
  have e5 : n + 2 ≠ n + 1 := by omega
  have a1 : n + 4 ≠ n := by omega
  have a2 : n + 4 ≠ l1 := by omega
  have a3 : n + 3 ≠ n := by omega
  have a4 : n + 3 ≠ l1 := by omega
  have a5 : n + 4 ≠ n + 1 := by omega
  have a6 : n + 4 ≠ l2 := by omega
  have a7 : n + 3 ≠ n + 1 := by omega
  have a8 : n + 3 ≠ l2 := by omega
  have a9 : n ≠ n + 1 := by omega
  have b1 : n ≠ l2 := by omega
  have b2 : n + 1 ≠ n := by omega
  have b3 : n + 1 ≠ l1 := by omega
  exact ⟨e1, e2, e3, e4, List.mem_cons_self .., nin2 a1 a2, nin2 a3 a4, e5, List.mem_cons_self .., nin2 a5 a6, nin2 a7 a8, nin2 a9 b1, nin2 b2 b3⟩
theorem iter_values {prog : Program} {w : World} {A : Around} {E : Value → Shared → Prop} {s : Shared} {v d : Addr} {o : Obj} {es : Array DictEntry} {ep : Nat} {Q : Value → Shared → Prop} (hv : s.heap.IsValuesView v d) (ho : s.heap.get? d = some o) (hdat : o.data = .dict es ep)
    (hQ : Q (.ref s.heap.objs.size) { s with heap := s.heap.push { cls := .type "dict_valueiterator", data := .fields #[.ref d, .int 0 0, .int es.size 0, .int ep 0] } }) :
    wpAny (model prog w) A (pyIter (.ref v)) Q E s := by
  obtain ⟨ov, hov, hcv, hdv⟩ := id hv
  refine wpAny_pyIter_slot hv.typeIs F.slot_dict_values_iter (wpAny_call_entry F.slot_dict_values_iter hv.typeIs F.entry_dict_values_iter ?_ (F.args_dict_values_iter_1 _))
  unfold Builtin.«dict_values.__iter__»
  refine wpAny_bind (wpAny_pure ?_)
  refine wpAny_bind ?_
  unfold Builtin.Dict_items.dictOf
  refine wpAny_bind (wpAny_field hov hdv (x := .ref d) rfl (wpAny_pure ?_))
  refine wpAny_bind ?_
  unfold Builtin.Dict_items.newIterator
  refine wpAny_bind (wpAny_dictEntries ho hdat ?_)
  refine wpAny_bind (wpAny_dictEpoch ho hdat ?_)
  have hown : Builtin.Dict_items.ownsTuple "dict_valueiterator" = false := by decide
  simp only [hown, Bool.false_eq_true, if_false]
  refine wpAny_newObj_type (wpAny_pure ⟨_, rfl, "dict_valueiterator", _, ⟨_, Heap.get?_push_size _ rfl, rfl⟩, F.slot_dict_valueiterator_next.lookup, ?_⟩)
  simpa [rawInt] using hQ
section
variable {X : Cx} {pins : List (Addr × Obj)} {σ : L2.St} {H : Hp} {s : Shared}
theorem Zk.begins {z : Zk} {xs : List V} (I : Inv X pins σ H s) (h : z.here X.K H xs) (hv : z.view H) : ∃ (o : Obj) (Hh : Heap → Prop), Begins (.ref z.a) o Hh ∧ Hh s.heap ∧ ∀ h' it, h'.get? it = some o → z.own it 0 h' := by
  cases z with
  | l a =>
    obtain ⟨its, rv, p, _⟩ := I.list h
    exact ⟨_, _, begins_list a its.toArray, p.isList, fun h' it e => ⟨_, e, rfl, rfl⟩⟩
  | t a =>
    obtain ⟨its, rv, p, _⟩ := I.tuple h
    exact ⟨_, _, begins_tuple a its.toArray, p, fun h' it e => ⟨_, e, rfl, rfl⟩⟩
  | v a d o =>
    obtain ⟨kvs, hd, rfl⟩ := h
    obtain ⟨hs, hgd, hx, es, ep, vs, hdt, hsz, kv, hm⟩ := I.frzK hd
    obtain ⟨p, _, _⟩ := I.hok _ _ hv
    refine ⟨{ cls := .type "dict_valueiterator", data := .fields #[.ref d, .int 0 0, .int es.size 0, .int ep 0] }, fun h => h.IsValuesView a d ∧ h.get? d = some o, ⟨fun prog w A E s Q hh q => iter_values hh.1 hh.2 hdt q, fun h h' hh k => ?_, rfl⟩, ⟨p, hgd⟩, fun h' it e => ⟨es, ep, es.size, hdt, rfl, _, e, rfl, rfl⟩⟩
    obtain ⟨⟨ov, e, r⟩, q⟩ := hh
    exact ⟨⟨ov, k _ _ e, r⟩, k _ _ q⟩
def iZipG (K : PySem.W.Frag) (ta : TA) : TI := fun σ H R => ta σ H fun vs H1 => ∃ z1 z2 xs ys, vs = [.ref z1.a, .ref z2.a] ∧ z1.here K H1 xs ∧ z2.here K H1 ys ∧ z1.view H1 ∧ z2.view H1 ∧ R (ItG K z1 z2) H1
theorem zip_iter {H1 : Hp} {z1 z2 : Zk} {xs ys : List V} {R : It → Hp → Prop} {elts : List Expr} {kk : Nat} {tpos : Pos} {E : Value → Shared → Prop} (I1 : Inv X pins σ H1 s) (hx : z1.here X.K H1 xs) (hy : z2.here X.K H1 ys) (hv1 : z1.view H1) (hv2 : z2.view H1) (q : R (ItG X.K z1 z2) H1) :
    wpAny (model X.prog X.w) X.A (call (.type "zip") [.ref z1.a, .ref z2.a]) (fun v s1 => wpAny (model X.prog X.w) X.A (pyIter v) (PIE X pins σ (.Tuple elts kk tpos) R) E s1) E s := by
  obtain ⟨o1, Q1, b1, q1, w1⟩ := Zk.begins I1 hx hv1
  obtain ⟨o2, Q2, b2, q2, w2⟩ := Zk.begins I1 hy hv2
  have l1 := Zk.src_lt I1 hx
  have l2 := Zk.src_lt I1 hy
  refine zip_begins2 b1 b2 q1 q2 fun h' hz hTI hTO g1 g2 hsz hk => wpAny_pyIter_zip hz ?_
  have I2 : Inv X pins σ H1 { s with heap := h' } := I1.kept (t' := s.toks) hk
  have fresh5 : ∀ c, c ∈ [s.heap.objs.size + 4, s.heap.objs.size + 2, s.heap.objs.size + 3, s.heap.objs.size, s.heap.objs.size + 1] → FpOk X pins H1 c := fun c hcm => by
    have e' : c = s.heap.objs.size + 4 ∨ c = s.heap.objs.size + 2 ∨ c = s.heap.objs.size + 3 ∨ c = s.heap.objs.size ∨ c = s.heap.objs.size + 1 := by simpa using hcm
    have hle : s.heap.objs.size ≤ c := by omega
    exact I1.fpOk hle (I1.hok.fresh hle)
  refine ⟨s.heap.objs.size + 4, [s.heap.objs.size + 4, s.heap.objs.size + 2, s.heap.objs.size + 3, s.heap.objs.size, s.heap.objs.size + 1], _, _, H1, rfl, I2, turn_zipG (z1 := z1) (z2 := z2) (z := s.heap.objs.size + 4) (TI := s.heap.objs.size + 2) (TO := s.heap.objs.size + 3) (i1 := s.heap.objs.size) (i2 := s.heap.objs.size + 1) (zsep _ _ _ l1 l2) (Nat.ne_of_lt l1) (Nat.ne_of_lt (Nat.lt_succ_of_lt l2)), ⟨hz, hTI, ⟨_, _, hTO⟩, w1 _ _ g1, w2 _ _ g2⟩, fresh5, q⟩
theorem pi_zipG {e e2 : Expr} {ta : TA} {p pos tpos : Pos} {elts : List Expr} {kk : Nat} (hg : Gl X "zip") (hm : X.mg "zip" = none) (ha : PA X [e, e2] ta)
    (hs : starEach [e, e2] X.env = (false, eval e X.env) :: starEach [e2] X.env := by rfl) (hpl : (backTo pos (starEach [e2] X.env)).any (·.1) = false := by rfl) :
    PI X (.Tuple elts kk tpos) (.Call (.Name "zip" p) [e, e2] [] pos) (iZipG X.K ta) := by
  refine ⟨fun pins s σ H R I h => ?_⟩
  refine Call_ (ld_blt I hg hm PyProof.Rows.boot_zip (PyProof.Rows.callWith_type1 (thn (ha.run pos pins s σ H _ I h) fun us s1 ⟨vs, H1, I1, r1, q1⟩ => ?_) hs hpl))
  obtain ⟨z1, z2, xs, ys, ex, hx, hy, hv1, hv2, q⟩ := q1
  subst ex
  cases r1 with
  | cons r rr =>
    cases rr with
    | cons r' rr =>
      cases rr
      cases r
      cases r'
      exact zip_iter I1 hx hy hv1 hv2 q
/-- d.values(), a view (the dict is locked) -/
def tVals (td : TE) : TE := fun σ H Q => td σ H fun x H1 => ∃ d o kvs, x = .ref d ∧ H1 d = some (.frz o (.dK kvs)) ∧ ∀ a, H1 a = none → Q (.ref a) (upd H1 a (.ext fun h => h.IsValuesView a d))
theorem pe_values {e : Expr} {td : TE} {apos cpos : Pos} (he : PE X e td) (hbase : attributeBase e "values" X.env (eval e X.env) = eval e X.env := by rfl) (hline : (apos.endLine == cpos.line) = true := by rfl) : PE X (.Call (.Attribute e "values" apos) [] [] cpos) (tVals td) := by
  refine ⟨fun pins s σ H Q I h => ?_⟩
  refine wpAny_Call_method (T := "dict") (id := "dict.values") hbase rfl hline F.plainAttrs_dict F.slot_dict_values F.type_dict_values (thn (he.run pins s σ H _ I h) fun u s1 ⟨x, H1, I1, rx, d, o, kvs, ex, hd, q⟩ => ?_)
  subst ex
  obtain rfl : u = Value.ref d := rx
  obtain ⟨hs, hgd, hx, es, ep, vs, hdt, hsz, kv, hm⟩ := I1.frzK hd
  refine ⟨hm.dictOf.typeIs, hm.dictOf.mapOf.noDict, ?_⟩
  have hv : (s1.heap.push { cls := .type "dict_values", data := .fields #[.ref d] }).IsValuesView s1.heap.objs.size d := ⟨_, Heap.get?_push_size _ rfl, rfl, rfl⟩
  have I2 : Inv X pins σ (upd H1 s1.heap.objs.size (.ext fun h => h.IsValuesView s1.heap.objs.size d)) { s1 with heap := s1.heap.push { cls := .type "dict_values", data := .fields #[.ref d] } } :=
    I1.laid (t' := s1.toks) (fun b ob q => Heap.get?_push_of_some _ q) (Nat.le_refl _) ⟨hv, ⟨_, Heap.get?_push_size _ rfl⟩, fun h1 h2 ⟨ov, e, r⟩ k => ⟨ov, k _ e, r⟩⟩
  show wpAny _ _ (callWith cpos (.builtin "dict.values") [.ref d] [] []) _ X.xe s1
  exact method_meetsIn F.slot_dict_values F.entry_dict_values rfl (PySem.evalArgs_none ⟨rfl, hm.dictOf.typeIs, F.args_dict_values_1 _, _, meets_dict_values (mixKind X.prog X.w) d hs, ⟨vs, hm.dictOf⟩, ⟨.ref s1.heap.objs.size, _, I2, rfl, q _ (I1.hok.fresh (Nat.le_refl _))⟩⟩)
end
end Rs
/-! text Rd -/
set_option Elab.async false
set_option linter.all false
set_option maxRecDepth 100000
set_option maxHeartbeats 4000000
namespace Rs
open PySem PySem.Spec PyProof.Rows L2
section
variable {prog : Program} {w : World} {A : Around} {E : Value → Shared → Prop} {s : Shared} {z TI TO T i1 i2 : Addr} {fp1 fp2 : List Addr} {n1 n2 i : Nat} {P1 P2 : Nat → Value → Prop} {St1 St2 : Nat → Heap → Prop} {f : Bool} {oT : Obj}
theorem zipD_next_item_held {Q : Value → Shared → Prop} (S : ZipSep2 z TI TO i1 i2 fp1 fp2) (D1 : Draws prog w A i1 fp1 n1 P1 St1) (D2 : Draws prog w A i2 fp2 n2 P2 St2)
    (hz : IsZipHeld s.heap z TI TO T f) (hT : s.heap.get? T = some oT) (hTI : IsPair s.heap TI (.ref i1) (.ref i2)) (st1 : St1 i s.heap) (st2 : St2 i s.heap) (hlt1 : i < n1) (hlt2 : i < n2)
    (hQ : ∀ x y h' tk, P1 i x → P2 i y → IsZipHeld h' z TI TO T true → St1 (i + 1) h' → St2 (i + 1) h' → IsPair h' s.heap.objs.size x y → h'.objs.size = s.heap.objs.size + 1 →
      (∀ c o, c ≠ z → c ≠ i1 → c ≠ i2 → s.heap.get? c = some o → h'.get? c = some o) → Q (.ref s.heap.objs.size) { s with heap := h', toks := tk }) :
    wpAny (model prog w) A (Builtin.«zip.__next__» ⟨[.ref z], []⟩) (fun fin s' => ∃ v, fin = .done (.ret v) ∧ Q v s') E s := by
  obtain ⟨hp, g, d, tk0, os⟩ := s
  show wpAny _ _ (field (.ref z) 2 >>= _) _ _ _
  refine wpAny_bind (wpAny_field hz rfl (x := .bool false) rfl ?_)
  show wpAny _ _ (field (.ref z) 3 >>= _) _ _ _
  refine wpAny_bind (wpAny_field hz rfl (x := .ref TI) rfl ?_)
  refine wpAny_bind (wpAny_seqItems hTI rfl ?_)
  show wpAny _ _ (Builtin.SmallTypes.ownedTupleIsFree (.ref z) >>= _) _ _ _
  refine wpAny_bind (wpAny_tupleHeld_zip hz hT fun h₁ hz₁ hs₁ => ?_)
  replace hs₁ : Heap.SameBut z hp h₁ := hs₁
  replace hz₁ : IsZipHeld h₁ z TI TO T true := hz₁
  simp only [Bool.false_eq_true, if_false]
  refine wpAny_bind ?_
  rw [← Array.forIn_toList]
  simp only [List.forIn_cons, List.forIn_nil]
  refine wpAny_bind (wpAny_bind (wpAny_holding ?_))
  show wpAny _ _ (Builtin.SmallTypes.nextOf (.ref i1) >>= _) _ _ ⟨h₁, g, d, tk0, os⟩
  refine wpAny_bind (D1.item i _ _ _ hlt1 (D1.over st1 hs₁ S.zf1) fun x h₂ tk1 hx sn1 hs₂ => wpAny_pure ?_)
  replace hs₂ : Heap.SameBut i1 h₁ h₂ := hs₂
  refine wpAny_pure ?_
  refine wpAny_bind (wpAny_bind (wpAny_holding ?_))
  show wpAny _ _ (Builtin.SmallTypes.nextOf (.ref i2) >>= _) _ _ ⟨h₂, g, d, tk1, os⟩
  refine wpAny_bind (D2.item i _ _ _ hlt2 (D2.over (D2.over st2 hs₁ S.zf2) hs₂ S.sep1_2) fun y h₃ tk2 hy sn2 hs₃ => wpAny_pure ?_)
  replace hs₃ : Heap.SameBut i2 h₂ h₃ := hs₃
  refine wpAny_pure (wpAny_pure ?_)
  show wpAny _ _ (newTuple [x, y] >>= _) _ _ ⟨h₃, g, d, tk2, os⟩
  refine wpAny_bind (wpAny_newTuple ?_)
  have hsz : h₃.objs.size = hp.objs.size := by rw [hs₃.1, hs₂.1, hs₁.1]
  have hz₃ : IsZipHeld h₃ z TI TO T true := hs₃.extBut _ _ S.zi2 (hs₂.extBut _ _ S.zi1 hz₁)
  have hk : ∀ c o, c ≠ z → c ≠ i1 → c ≠ i2 → hp.get? c = some o → h₃.get? c = some o := fun c o c1 c2 c3 e => hs₃.extBut _ _ c3 (hs₂.extBut _ _ c2 (hs₁.extBut _ _ c1 e))
  have h1₃ : St1 (i + 1) h₃ := D1.over sn1 hs₃ S.sep2_1
  refine wpAny_pure ⟨_, rfl, ?_⟩
  show Q (.ref h₃.objs.size) _
  have hp' : IsPair (h₃.push { cls := .type "tuple", data := .seq #[x, y] }) h₃.objs.size x y := Heap.get?_push_size _ rfl
  have hz4 : (h₃.push { cls := .type "tuple", data := .seq #[x, y] }).objs.size = h₃.objs.size + 1 := Heap.size_push ..
  have g1 := D1.frame _ h₃ (h₃.push { cls := .type "tuple", data := .seq #[x, y] }) h1₃ fun b _ o e => Heap.get?_push_of_some _ e
  have g2 := D2.frame _ h₃ (h₃.push { cls := .type "tuple", data := .seq #[x, y] }) sn2 fun b _ o e => Heap.get?_push_of_some _ e
  rw [hsz] at hp' hz4 ⊢
  exact hQ x y _ _ hx hy (Heap.get?_push_of_some _ hz₃) g1 g2 hp' hz4 fun c o c1 c2 c3 e => Heap.get?_push_of_some _ (hk c o c1 c2 c3 e)
theorem zipD_next_end_held {Q : Fin → Shared → Prop} (S : ZipSep2 z TI TO i1 i2 fp1 fp2) (D1 : Draws prog w A i1 fp1 n1 P1 St1) (D2 : Draws prog w A i2 fp2 n2 P2 St2)
    (hz : IsZipHeld s.heap z TI TO T f) (hT : s.heap.get? T = some oT) (hTI : IsPair s.heap TI (.ref i1) (.ref i2)) (st1 : St1 i s.heap) (st2 : St2 i s.heap) (hle1 : i ≤ n1) (hle2 : i ≤ n2) (hend : i = n1 ∨ i = n2)
    (hE : ∀ h' tk e, (∀ c o, c ≠ z → c ≠ i1 → c ≠ i2 → s.heap.get? c = some o → h'.get? c = some o) → (∃ o, h'.get? e = some o ∧ o.cls = .type "StopIteration") → E (.ref e) { s with heap := h', toks := tk }) :
    wpAny (model prog w) A (Builtin.«zip.__next__» ⟨[.ref z], []⟩) Q E s := by
  obtain ⟨hp, g, d, tk0, os⟩ := s
  show wpAny _ _ (field (.ref z) 2 >>= _) _ _ _
  refine wpAny_bind (wpAny_field hz rfl (x := .bool false) rfl ?_)
  show wpAny _ _ (field (.ref z) 3 >>= _) _ _ _
  refine wpAny_bind (wpAny_field hz rfl (x := .ref TI) rfl ?_)
  refine wpAny_bind (wpAny_seqItems hTI rfl ?_)
  show wpAny _ _ (Builtin.SmallTypes.ownedTupleIsFree (.ref z) >>= _) _ _ _
  refine wpAny_bind (wpAny_tupleHeld_zip hz hT fun h₁ hz₁ hs₁ => ?_)
  replace hs₁ : Heap.SameBut z hp h₁ := hs₁
  replace hz₁ : IsZipHeld h₁ z TI TO T true := hz₁
  simp only [Bool.false_eq_true, if_false]
  refine wpAny_bind ?_
  rw [← Array.forIn_toList]
  simp only [List.forIn_cons, List.forIn_nil]
  refine wpAny_bind (wpAny_bind (wpAny_holding ?_))
  show wpAny _ _ (Builtin.SmallTypes.nextOf (.ref i1) >>= _) _ _ ⟨h₁, g, d, tk0, os⟩
  by_cases hlt1 : i < n1
  · refine wpAny_bind (D1.item i _ _ _ hlt1 (D1.over st1 hs₁ S.zf1) fun x h₂ tk1 hx sn1 hs₂ => wpAny_pure ?_)
    replace hs₂ : Heap.SameBut i1 h₁ h₂ := hs₂
    refine wpAny_pure ?_
    refine wpAny_bind (wpAny_bind (wpAny_holding ?_))
    show wpAny _ _ (Builtin.SmallTypes.nextOf (.ref i2) >>= _) _ _ ⟨h₂, g, d, tk1, os⟩
    have hi2 : i = n2 := by omega
    refine wpAny_bind (D2.done ⟨h₂, g, d, tk1, os⟩ _ _ (by rw [← hi2]; exact D2.over (D2.over st2 hs₁ S.zf2) hs₂ S.sep1_2) fun h₃ e hs₃ he => ?_)
    exact hE h₃ tk1 e (fun c o c1 c2 c3 x => hs₃ _ _ c3 (hs₂.extBut _ _ c2 (hs₁.extBut _ _ c1 x))) he
  · have hi1 : i = n1 := by omega
    refine wpAny_bind (D1.done ⟨h₁, g, d, tk0, os⟩ _ _ (by rw [← hi1]; exact D1.over st1 hs₁ S.zf1) fun h₂ e hs₂ he => ?_)
    exact hE h₂ tk0 e (fun c o c1 c2 _ x => hs₂ _ _ c2 (hs₁.extBut _ _ c1 x)) he
theorem pyNext_zipD_item_held {Q : Option Value → Shared → Prop} (S : ZipSep2 z TI TO i1 i2 fp1 fp2) (D1 : Draws prog w A.in1 i1 fp1 n1 P1 St1) (D2 : Draws prog w A.in1 i2 fp2 n2 P2 St2)
    (hz : IsZipHeld s.heap z TI TO T f) (hT : s.heap.get? T = some oT) (hTI : IsPair s.heap TI (.ref i1) (.ref i2)) (st1 : St1 i s.heap) (st2 : St2 i s.heap) (hlt1 : i < n1) (hlt2 : i < n2)
    (hQ : ∀ x y h' tk, P1 i x → P2 i y → IsZipHeld h' z TI TO T true → St1 (i + 1) h' → St2 (i + 1) h' → IsPair h' s.heap.objs.size x y → h'.objs.size = s.heap.objs.size + 1 →
      (∀ c o, c ≠ z → c ≠ i1 → c ≠ i2 → s.heap.get? c = some o → h'.get? c = some o) → Q (some (.ref s.heap.objs.size)) { s with heap := h', toks := tk }) :
    wpAny (model prog w) A (pyNext (.ref z)) Q E s := by
  have hTy : s.TypeIs (.ref z) "zip" := ⟨_, hz, rfl⟩
  unfold pyNext
  exact wpAny_bind (wpAny_attempt (wpAny_callSpecial?_slot (name := Str.ofString "__next__") hTy F.slot_zip_next
    (wpAny_call_entry F.slot_zip_next hTy F.entry_zip_next
      (zipD_next_item_held S D1 D2 hz hT hTI st1 st2 hlt1 hlt2 fun x y h' tk a1 a2 a3 a4 a5 a6 a7 a8 => wpAny_pure (hQ x y h' tk a1 a2 a3 a4 a5 a6 a7 a8)) (F.args_zip_next_1 _))))
theorem pyNext_zipD_end_held {Q : Option Value → Shared → Prop} (S : ZipSep2 z TI TO i1 i2 fp1 fp2) (D1 : Draws prog w A.in1 i1 fp1 n1 P1 St1) (D2 : Draws prog w A.in1 i2 fp2 n2 P2 St2)
    (hz : IsZipHeld s.heap z TI TO T f) (hT : s.heap.get? T = some oT) (hTI : IsPair s.heap TI (.ref i1) (.ref i2)) (st1 : St1 i s.heap) (st2 : St2 i s.heap) (hle1 : i ≤ n1) (hle2 : i ≤ n2) (hend : i = n1 ∨ i = n2)
    (hQ : ∀ h' tk, (∀ c o, c ≠ z → c ≠ i1 → c ≠ i2 → s.heap.get? c = some o → h'.get? c = some o) → Q none { s with heap := h', toks := tk }) : wpAny (model prog w) A (pyNext (.ref z)) Q E s := by
  have hTy : s.TypeIs (.ref z) "zip" := ⟨_, hz, rfl⟩
  unfold pyNext
  refine wpAny_bind (wpAny_attempt (wpAny_callSpecial?_slot (name := Str.ofString "__next__") hTy F.slot_zip_next
    (wpAny_call_entry F.slot_zip_next hTy F.entry_zip_next (zipD_next_end_held S D1 D2 hz hT hTI st1 st2 hle1 hle2 hend fun h' tk e hk he => ?_) (F.args_zip_next_1 _))))
  obtain ⟨o, ho, hc⟩ := he
  refine wpAny_bind (wpAny_isInstance (T := "StopIteration") (b := true) ⟨o, ho, hc⟩ isSubtype_stop ?_)
  exact wpAny_pure (hQ _ _ hk)
end
theorem pairZip {prog : Program} {w : World} (baseA : Around) (hB : baseA.handled = none) {z TI TO i1 i2 l1 l2 : Addr} {n1 n2 : Nat} {P1 P2 : Nat → Value → Prop} {St1 St2 : Nat → Heap → Prop} (S : ZipSep2 z TI TO i1 i2 [i1, l1] [i2, l2])
    (D1 : ∀ A : Around, A.handled = none → Draws prog w A i1 [i1, l1] n1 P1 St1) (D2 : ∀ A : Around, A.handled = none → Draws prog w A i2 [i2, l2] n2 P2 St2) :
    PairArg prog w "zip" z [z, TI, TO, i1, i2, l1, l2] [z, TO, i1, i2] (min n1 n2) (fun i k v => P1 i k ∧ P2 i v)
      (fun h => IsZip h z TI TO .none ∧ IsPair h TI (.ref i1) (.ref i2) ∧ (∃ a b, IsPair h TO a b) ∧ (St1 0 h ∧ St2 0 h) ∧ (∃ o, h.get? i1 = some o) ∧ (∃ o, h.get? i2 = some o) ∧ (∃ o, h.get? l1 = some o) ∧ ∃ o, h.get? l2 = some o) where
  type := fun s ok => ⟨_, ok.1, rfl⟩
  notDict := by decide
  keep := fun h h' ok hk => by
    obtain ⟨hz, hTI, ⟨a, b, hTO⟩, ⟨h1, h2⟩, ⟨o1, g1⟩, ⟨o2, g2⟩, ⟨o3, g3⟩, ⟨o4, g4⟩⟩ := ok
    exact ⟨hk _ _ hz, hk _ _ hTI, ⟨a, b, hk _ _ hTO⟩, ⟨(D1 baseA hB).frame _ _ _ h1 fun b _ o e => hk _ o e, (D2 baseA hB).frame _ _ _ h2 fun b _ o e => hk _ o e⟩, ⟨o1, hk _ _ g1⟩, ⟨o2, hk _ _ g2⟩, ⟨o3, hk _ _ g3⟩, ⟨o4, hk _ _ g4⟩⟩
  there := fun h ok b hb => by
    obtain ⟨hz, hTI, ⟨a, c, hTO⟩, ⟨h1, h2⟩, g1, g2, g3, g4⟩ := ok
    simp only [List.mem_cons, List.not_mem_nil, or_false] at hb
    rcases hb with rfl | rfl | rfl | rfl | rfl | rfl | rfl
    · exact ⟨_, hz⟩
    · exact ⟨_, hTI⟩
    · exact ⟨_, hTO⟩
    · exact g1
    · exact g2
    · exact g3
    · exact g4
  sub := fun b hb => by simp at hb ⊢; rcases hb with rfl | rfl | rfl | rfl <;> simp
  noKeys := fun A s Q E hA ok h => getAttrOr_miss_zip ok.1 rfl rfl rfl zip_no_keys (by decide +kernel) hA h
  iter := fun A s d Q E hA ok hd hdf h => by
    obtain ⟨hz, hTI, ⟨a, b, hTO⟩, ⟨h1, h2⟩, _⟩ := ok
    simp only [List.mem_cons, List.not_mem_nil, or_false, not_or] at hdf
    obtain ⟨dz, dTI, dTO, di1, di2, dl1, dl2⟩ := hdf
    refine wpAny_pyIter_zip hz (h z [z, TO, i1, i2] (fun i h => IsPair h TI (.ref i1) (.ref i2) ∧ (St1 i h ∧ St2 i h) ∧
      ((IsZip h z TI TO .none ∧ ∃ a b, IsPair h TO a b) ∨ ∃ T f oT, IsZipHeld h z TI TO T f ∧ h.get? T = some oT ∧ T ≠ z ∧ T ≠ i1 ∧ T ≠ i2 ∧ T ≠ d)) s.heap s.toks ?_
      ⟨hTI, ⟨h1, h2⟩, .inl ⟨hz, a, b, hTO⟩⟩ (fun _ _ e => e) fun b hb => .inl hb)
    exact {
      off := fun hm => by
        simp only [List.mem_cons, List.not_mem_nil, or_false] at hm
        rcases hm with e | e | e | e
        · exact dz e
        · exact dTO e
        · exact di1 e
        · exact di2 e
      frame := fun i h₁ h₂ st hk => by
        obtain ⟨hTI, ⟨h1, h2⟩, hz⟩ := st
        refine ⟨hk _ _ (Ne.symm dTI) hTI, ⟨(D1 baseA hB).frame _ _ _ h1 fun b hb o e => hk b o (fun q => ?_) e, (D2 baseA hB).frame _ _ _ h2 fun b hb o e => hk b o (fun q => ?_) e⟩, ?_⟩
        · subst q
          simp only [List.mem_cons, List.not_mem_nil, or_false] at hb
          rcases hb with q | q
          · exact di1 q
          · exact dl1 q
        · subst q
          simp only [List.mem_cons, List.not_mem_nil, or_false] at hb
          rcases hb with q | q
          · exact di2 q
          · exact dl2 q
        · rcases hz with ⟨hz, a, b, hTO⟩ | ⟨T, f, oT, hz, hT, r1, r2, r3, r4⟩
          · exact .inl ⟨hk _ _ (Ne.symm dz) hz, a, b, hk _ _ (Ne.symm dTO) hTO⟩
          · exact .inr ⟨T, f, oT, hk _ _ (Ne.symm dz) hz, hk _ _ r4 hT, r1, r2, r3, r4⟩
      item := fun i s₁ Q₁ E₁ hi st hds hQ => by
        obtain ⟨hTI, ⟨h1, h2⟩, hz⟩ := st
        have hix : i < n1 := Nat.lt_of_lt_of_le hi (Nat.min_le_left ..)
        have hiy : i < n2 := Nat.lt_of_lt_of_le hi (Nat.min_le_right ..)
        have lt : ∀ {c o}, s₁.heap.get? c = some o → s₁.heap.objs.size ≠ c := fun e => Nat.ne_of_gt (Heap.lt_size e)
        have n1 : s₁.heap.objs.size ≠ i1 := let ⟨_, e⟩ := (D1 A hA).live _ _ h1; lt e
        have n2 : s₁.heap.objs.size ≠ i2 := let ⟨_, e⟩ := (D2 A hA).live _ _ h2; lt e
        rcases hz with ⟨hz, a, b, hTO⟩ | ⟨T, f, oT, hz, hT, r1, r2, r3, r4⟩
        · refine wpAny_pyNext_zipD2_item S (D1 A.in1 hA) (D2 A.in1 hA) hz hTI hTO h1 h2 hix hiy fun x y h' tk q1 q2 a1 a2 a3 a4 a5 a6 hk => ?_
          exact hQ s₁.heap.objs.size _ _ h' tk ⟨q1, q2⟩ (.inl ⟨_, a5, rfl, _, rfl⟩)
            ⟨hk _ _ S.TIz S.TITO S.TIi1 S.TIi2 hTI, ⟨a3, a4⟩,
              .inr ⟨s₁.heap.objs.size, false, _, a1, a5, lt hz, n1, n2, Nat.ne_of_gt hds⟩⟩
            fun c o hc e => hk c o (fun x => hc (by simp [x])) (fun x => hc (by simp [x])) (fun x => hc (by simp [x])) (fun x => hc (by simp [x])) e
        · refine pyNext_zipD_item_held S (D1 A.in1 hA) (D2 A.in1 hA) hz hT hTI h1 h2 hix hiy fun x y h' tk q1 q2 a1 a3 a4 a5 a6 hk => ?_
          exact hQ s₁.heap.objs.size _ _ h' tk ⟨q1, q2⟩ (.inl ⟨_, a5, rfl, _, rfl⟩)
            ⟨hk _ _ S.TIz S.TIi1 S.TIi2 hTI, ⟨a3, a4⟩,
              .inr ⟨T, true, oT, a1, hk _ _ r1 r2 r3 hT, r1, r2, r3, r4⟩⟩
            fun c o hc e => hk c o (fun x => hc (by simp [x])) (fun x => hc (by simp [x])) (fun x => hc (by simp [x])) e
      done := fun s₁ Q₁ E₁ st hQ => by
        obtain ⟨hTI, ⟨h1, h2⟩, hz⟩ := st
        rcases hz with ⟨hz, a, b, hTO⟩ | ⟨T, f, oT, hz, hT, r1, r2, r3, r4⟩
        · exact wpAny_pyNext_zipD2_end S (D1 A.in1 hA) (D2 A.in1 hA) hz hTI hTO h1 h2 (Nat.min_le_left ..) (Nat.min_le_right ..) (by omega) fun h' tk hk => hQ h' tk fun c o hc e => hk c o (fun x => hc (by simp [x])) (fun x => hc (by simp [x])) (fun x => hc (by simp [x])) (fun x => hc (by simp [x])) e
        · exact pyNext_zipD_end_held S (D1 A.in1 hA) (D2 A.in1 hA) hz hT hTI h1 h2 (Nat.min_le_left ..) (Nat.min_le_right ..) (by omega) fun h' tk hk => hQ h' tk fun c o hc e => hk c o (fun x => hc (by simp [x])) (fun x => hc (by simp [x])) (fun x => hc (by simp [x])) e }
section
variable {prog : Program} {w : World} {Kk : Type} [DecidableEq Kk] {knd : KeyKind prog w Kk} {A : Around} {E : Value → Shared → Prop} {s : Shared}
theorem nextOf_keys_item {it d : Addr} {i ep : Nat} {kvs : List (Kk × Value)} {k : Kk} {v : Value} {Q : Value → Shared → Prop} (hit : s.heap.IsKeyIter it d i kvs.length ep)
    (hm : s.heap.DictAt knd d kvs ep) (hx : kvs[i]? = some (k, v))
    (hQ : ∀ key h', knd.is k key = true → h'.IsKeyIter it d (i + 1) kvs.length ep → Heap.SameBut it s.heap h' → Q key { s with heap := h' }) :
    wpAny (model prog w) A (Builtin.SmallTypes.nextOf (.ref it)) Q E s := by
  obtain ⟨o, ho, hc, hd⟩ := id hit
  obtain ⟨od, es, hod, hcd, hdd, hk, hp, hn⟩ := id hm
  unfold Builtin.SmallTypes.nextOf
  refine wpAny_bind (wpAny_callSpecial?_slot (name := Str.ofString "__next__") hit.typeIs F.slot_dict_keyiterator_next
    (wpAny_call_entry F.slot_dict_keyiterator_next hit.typeIs F.entry_dict_keyiterator_next ?_ (F.args_dict_keyiterator_next_1 _)))
  refine wpAny_bind (wpAny_pure ?_)
  refine wpAny_bind ?_
  refine wpAny_bind ?_
  first | refine wpAny_bind (wpAny_typeNameOfWhole_keyiter hit.typeIs (wpAny_pure ?_)) | refine wpAny_bind (wpAny_typeNameOf_keyiter hit.typeIs (wpAny_pure ?_))
  refine wpAny_bind (wpAny_fieldsOf ho hd ?_)
  have hown : Builtin.Dict_items.ownsTuple "dict_keyiterator" = false := by decide
  simp only [hown, Bool.false_eq_true, if_false]
  show wpAny _ _ (if (Value.ref d == Value.none) = true then _ else _) _ _ s
  rw [if_neg (show ¬ ((Value.ref d == Value.none) = true) from Bool.false_ne_true)]
  refine wpAny_bind (wpAny_pure ?_)
  refine wpAny_bind (wpAny_dictEntries hod hdd ?_)
  have hsz : es.size = kvs.length := by rw [← hp.length]; simp
  rw [if_neg (by rw [hsz]; simp)]
  refine wpAny_bind (wpAny_pure ?_)
  refine wpAny_bind (wpAny_dictEpoch hod hdd ?_)
  rw [if_neg (by simp)]
  refine wpAny_pure ?_
  have hlt : i < kvs.length := by
    rcases Nat.lt_or_ge i kvs.length with h | h
    · exact h
    · simp [List.getElem?_eq_none h] at hx
  have hlt' : i < es.size := by rw [hsz]; exact hlt
  have hkey : knd.is k es[i].key = true := (hp.get? (e := es[i]) (by simp [hlt']) hx).1
  simp only [show ¬ ((i : Int) < 0) from by omega, if_false, Int.toNat_natCast, Array.getElem?_eq_getElem hlt']
  refine wpAny_bind ?_
  first | refine wpAny_bind (wpAny_typeNameOfWhole_keyiter hit.typeIs (wpAny_pure ?_)) | refine wpAny_bind (wpAny_typeNameOf_keyiter hit.typeIs (wpAny_pure ?_))
  refine wpAny_bind (wpAny_isOneOf_keyiter hit.typeIs ?_)
  show wpAny _ _ (setField (.ref it) 1 (rawInt ((i : Int) + 1)) >>= _) _ _ s
  refine wpAny_bind (wpAny_setField ho hd (by simp) ?_)
  have hit' : (s.heap.update it (Obj.mapFields (·.setIfInBounds 1 (rawInt ((i : Int) + 1))))).IsKeyIter it d (i + 1) kvs.length ep :=
    ⟨_, Heap.get?_update_self _ ho (Obj.isFreed_of_fields (Obj.data_mapFields hd _)), (Obj.cls_mapFields ..).trans hc, by rw [Obj.data_mapFields hd]; simp [rawInt]⟩
  refine wpAny_bind (wpAny_holding ?_)
  refine wpAny_bind (wpAny_isOneOf_keyiter (s := { s with heap := s.heap.update it (Obj.mapFields (·.setIfInBounds 1 (rawInt ((i : Int) + 1)))) }) hit'.typeIs ?_)
  show wpAny _ _ (pure es[i].key) _ _ _
  exact wpAny_pure (wpAny_pure ⟨_, rfl, wpAny_pure (hQ _ _ hkey hit' (Heap.SameBut.update ..))⟩)
theorem nextOf_keys_end {it d : Addr} {i ep : Nat} {kvs : List (Kk × Value)} {Q : Value → Shared → Prop} (hh : A.handled = none) (hit : s.heap.IsKeyIter it d i kvs.length ep)
    (hm : s.heap.DictAt knd d kvs ep) (hx : kvs[i]? = none)
    (hE : ∀ h' e, Heap.ExtBut it s.heap h' → (∃ o, h'.get? e = some o ∧ o.cls = .type "StopIteration") → E (.ref e) { s with heap := h' }) : wpAny (model prog w) A (Builtin.SmallTypes.nextOf (.ref it)) Q E s := by
  obtain ⟨o, ho, hc, hd⟩ := id hit
  obtain ⟨od, es, hod, hcd, hdd, hk, hp, hn⟩ := id hm
  unfold Builtin.SmallTypes.nextOf
  refine wpAny_bind (wpAny_callSpecial?_slot (name := Str.ofString "__next__") hit.typeIs F.slot_dict_keyiterator_next
    (wpAny_call_entry F.slot_dict_keyiterator_next hit.typeIs F.entry_dict_keyiterator_next ?_ (F.args_dict_keyiterator_next_1 _)))
  refine wpAny_bind (wpAny_pure ?_)
  refine wpAny_bind ?_
  refine wpAny_bind ?_
  first | refine wpAny_bind (wpAny_typeNameOfWhole_keyiter hit.typeIs (wpAny_pure ?_)) | refine wpAny_bind (wpAny_typeNameOf_keyiter hit.typeIs (wpAny_pure ?_))
  refine wpAny_bind (wpAny_fieldsOf ho hd ?_)
  have hown : Builtin.Dict_items.ownsTuple "dict_keyiterator" = false := by decide
  simp only [hown, Bool.false_eq_true, if_false]
  show wpAny _ _ (if (Value.ref d == Value.none) = true then _ else _) _ _ s
  rw [if_neg (show ¬ ((Value.ref d == Value.none) = true) from Bool.false_ne_true)]
  refine wpAny_bind (wpAny_pure ?_)
  refine wpAny_bind (wpAny_dictEntries hod hdd ?_)
  have hsz : es.size = kvs.length := by rw [← hp.length]; simp
  rw [if_neg (by rw [hsz]; simp)]
  refine wpAny_bind (wpAny_pure ?_)
  refine wpAny_bind (wpAny_dictEpoch hod hdd ?_)
  rw [if_neg (by simp)]
  refine wpAny_pure ?_
  have hge : es.size ≤ i := by rw [hsz]; simpa using hx
  simp only [show ¬ ((i : Int) < 0) from by omega, if_false, Int.toNat_natCast, Array.getElem?_eq_none hge]
  refine wpAny_bind ?_
  first | refine wpAny_bind (wpAny_typeNameOfWhole_keyiter hit.typeIs (wpAny_pure ?_)) | refine wpAny_bind (wpAny_typeNameOf_keyiter hit.typeIs (wpAny_pure ?_))
  show wpAny _ _ (setField (.ref it) 0 .none >>= _) _ _ s
  refine wpAny_bind (wpAny_setField ho hd (by simp) ?_)
  show wpAny _ _ (newExc (.type "StopIteration") [] >>= _) _ _ _
  refine wpAny_bind ?_
  simp only [newExc, newTuple]
  refine wpAny_bind (wpAny_newObj_type ?_ (by size_fits))
  refine wpAny_bind (m := firstArgMember _ _) (wpAny_of_eq (a := Value.none) (by first | rfl | (simp only [firstArgMember]; rfl)) ?_)
  refine wpAny_newObj_type ?_ (by size_fits)
  simp only [raiseNew]
  refine wpAny_bind (wpAny_handled ?_)
  first | rw [show A.in1.handled = none from hh] | rw [hh]
  refine wpAny_bind (wpAny_pure (wpAny_throw ?_))
  exact hE _ _ (((Heap.SameBut.update ..).extBut.push _).push _) ⟨_, Heap.get?_push_size _ rfl, rfl⟩
theorem drawsKeys (hh : A.handled = none) (it d : Addr) (hne : d ≠ it) (kvs : List (Kk × Value)) (ep : Nat) :
    Draws prog w A it [it, d] kvs.length (fun i v => ∃ k x, kvs[i]? = some (k, x) ∧ knd.is k v = true) (fun i h => h.IsKeyIter it d i kvs.length ep ∧ h.DictAt knd d kvs ep) where
  live := fun _ _ st => let ⟨o, ho, _⟩ := st.1; ⟨o, ho⟩
  frame := fun _ _ _ st hk => ⟨st.1.at fun o e => hk it (by simp) o e, by
    obtain ⟨o, es, e, r⟩ := st.2
    exact ⟨o, es, hk d (by simp) o e, r⟩⟩
  item := fun i s Q E hi st hQ => by
    refine nextOf_keys_item st.1 st.2 (k := (kvs[i]).1) (v := (kvs[i]).2) (by simp [hi]) fun key h' hkey hit' hs' => ?_
    refine hQ _ h' s.toks ⟨(kvs[i]).1, (kvs[i]).2, by simp [hi], hkey⟩ ⟨hit', ?_⟩ hs'
    obtain ⟨o, es, e, r⟩ := st.2
    exact ⟨o, es, hs'.extBut d o hne e, r⟩
  done := fun s Q E st hE => nextOf_keys_end hh st.1 st.2 (by simp) hE
end
section
variable {X : Cx} {pins : List (Addr × Obj)} {σ : L2.St} {H : Hp} {s : Shared}
theorem zip_get {α β : Type} {xs : List α} {ys : List β} {i : Nat} {x : α} {y : β} (h1 : xs[i]? = some x) (h2 : ys[i]? = some y) : (xs.zip ys)[i]? = some (x, y) := by
  rw [List.getElem?_zip_eq_some]
  exact ⟨h1, h2⟩
theorem kv_zip {ks : List Key} : ∀ {xs : List V} {us : List Value}, Vals xs us → KV (ks.zip xs) (ks.zip us) := by
  induction ks with
  | nil => intro xs us _; exact .nil
  | cons k ks ih =>
    intro xs us r
    cases r with
    | nil => exact .nil
    | cons h t => exact .cons ⟨rfl, h⟩ (ih t)
def tDictZip (K : PySem.W.Frag) (ta : TA) : TE := fun σ H Q => ta σ H fun vs H1 => ∃ (a b : Addr) (ks : List Key) (xs : List V), vs = [.ref a, .ref b] ∧ (SqL K H1 a (ks.map kV) ∨ ∃ kvs, Rd H1 a (.dK kvs) ∧ ks = kvs.map (·.1)) ∧ SqT K H1 b xs ∧
  ∀ p, H1 p = none → Q (.ref p) (upd H1 p (.dK (mergeK [] (ks.zip xs))))
/-- what the keys are drawn from -/
theorem keys_src {a : Addr} {ks : List Key} (A0 : Around) (hA0 : A0.handled = none) (I : Inv X pins σ H s) (h : SqL X.K H a (ks.map kV) ∨ ∃ kvs, Rd H a (.dK kvs) ∧ ks = kvs.map (·.1)) :
    ∃ (o : Obj) (Hh : Heap → Prop), Begins (.ref a) o Hh ∧ Hh s.heap ∧ a < s.heap.objs.size ∧ ∀ it, a ≠ it → ∃ (n : Nat) (Pn : Nat → Value → Prop) (Sn : Nat → Heap → Prop), (∀ A : Around, A.handled = none → Draws X.prog X.w A it [it, a] n Pn Sn) ∧ n = ks.length ∧
      (∀ h', h'.get? it = some o → (∀ b o, s.heap.get? b = some o → h'.get? b = some o) → Sn 0 h') ∧ ∀ j x, Pn j x → ∃ k, ks[j]? = some k ∧ (mixKind X.prog X.w).is k x = true := by
  rcases h with h | ⟨kvs, h, rfl⟩
  · obtain ⟨its, rv, p, _⟩ := I.list h
    have hl := rv.length
    rw [List.length_map] at hl
    refine ⟨_, _, begins_list a its.toArray, p.isList, p.lt, fun it hne => ⟨_, _, _, fun A hA => Draws.list hA it a hne its.toArray, by simp [hl], fun h' e k => ⟨⟨_, e, rfl, rfl⟩, p.isList.at fun o q => k _ o q⟩, fun j x hj => ?_⟩⟩
    obtain ⟨v, hv, rv2⟩ := vals_at rv (show its[j]? = some x by simpa using hj)
    rw [List.getElem?_map] at hv
    cases hk : ks[j]? with
    | none => rw [hk] at hv; cases hv
    | some k =>
      rw [hk] at hv
      cases hv
      exact ⟨k, rfl, kV_is (P := X.prog) (w := X.w) rv2⟩
  · obtain ⟨z, hs, vs, kv, o, es, ep, ho, hx, hdt, r⟩ := h.ok I.hok
    have hl : kvs.length = vs.length := Paired.length kv
    have l1 := r.2.1.length
    have hsz : es.size = vs.length := by rw [← l1]; simp
    refine ⟨{ cls := .type "dict_keyiterator", data := .fields #[.ref a, .int 0 0, .int es.size 0, .int ep 0] }, fun h => h.get? a = some o, ⟨fun prog w A E s Q hh q => iter_keys hs hh hx hdt q, fun h h' hh k => k _ _ hh, rfl⟩, ho, Heap.lt_size ho, fun it hne => ⟨_, _, _, fun A hA => drawsKeys (knd := mixKind X.prog X.w) hA it a hne vs ep, by simp [hl], fun h' e k => ⟨?_, ?_⟩, fun j x ⟨k, y, hj, hk⟩ => ?_⟩⟩
    · rw [← hsz]
      exact ⟨_, e, rfl, rfl⟩
    · exact ⟨o, es, k _ _ ho, hx, hdt, r⟩
    · have hi : j < vs.length := by
        rcases Nat.lt_or_ge j vs.length with q | q
        · exact q
        · rw [List.getElem?_eq_none q] at hj; cases hj
      obtain ⟨u, hu, ru⟩ := kv_get kv (show kvs[j]? = some ((kvs[j]'(by omega)).1, (kvs[j]'(by omega)).2) by simp [hl, hi])
      rw [hu] at hj
      cases hj
      exact ⟨_, by simp [hl, hi], hk⟩
theorem pe_dictZip {e e2 : Expr} {ta : TA} {p pos p2 pos2 : Pos} (hcalm : X.calm = true) (hg : Gl X "dict") (hm : X.mg "dict" = none) (hg2 : Gl X "zip") (hm2 : X.mg "zip" = none) (ha : PA X [e, e2] ta)
    (hs : starEach [e, e2] X.env = (false, eval e X.env) :: starEach [e2] X.env := by rfl) (hpl : (backTo pos2 (starEach [e2] X.env)).any (·.1) = false := by rfl)
    (na : starEach [.Call (.Name "zip" p2) [e, e2] [] pos2] X.env = (false, eval (.Call (.Name "zip" p2) [e, e2] [] pos2) X.env) :: starEach [] X.env := by rfl) :
    PE X (.Call (.Name "dict" p) [.Call (.Name "zip" p2) [e, e2] [] pos2] [] pos) (tDictZip X.K ta) := by
  refine ⟨fun pins s σ H Q I h => ?_⟩
  refine Call_ (ld_blt I hg hm PyProof.Rows.boot_dict (PyProof.Rows.callWith_type1 (args_cons ?_ na) na))
  refine Call_ (ld_blt I hg2 hm2 PyProof.Rows.boot_zip (PyProof.Rows.callWith_type1 (thn (ha.run pos2 pins s σ H _ I h) fun us s1 ⟨vs, H1, I1, r1, q1⟩ => ?_) hs hpl))
  obtain ⟨a, b, ks, xs, ex, hk, hx, q⟩ := q1
  subst ex
  cases r1 with
  | cons r rr =>
    cases rr with
    | cons r' rr =>
      cases rr
      cases r
      cases r'
      have hh := I1.ok.hd hcalm
      obtain ⟨o1, Q1, b1, q1, l1, w1⟩ := keys_src X.A hh I1 hk
      obtain ⟨its, rv, pt, _⟩ := I1.tuple hx
      have l2 : b < s1.heap.objs.size := by obtain ⟨o, ho, _⟩ := pt; exact Heap.lt_size ho
      refine zip_begins2 b1 (begins_tuple b its.toArray) q1 pt fun h' hz hTI hTO g1 g2 hsz hkp => args_nil ?_
      obtain ⟨n, Pn, Sn, D1, en, st1, p1⟩ := w1 s1.heap.objs.size (Nat.ne_of_lt l1)
      have hle : s1.heap.objs.size ≤ h'.objs.size := by rw [hsz]; exact Nat.le_add_right _ _
      refine PySem.call_dict_pairs (knd := mixKind X.prog X.w) (kvs := ks.zip its) (s := { s1 with heap := h' }) (pairZip X.A hh (zsep _ _ _ l1 l2) D1 (fun A hA => Draws.tuple hA _ b (Nat.ne_of_lt (Nat.lt_succ_of_lt l2)) its.toArray)) hh
        ⟨hz, hTI, ⟨_, _, hTO⟩, ⟨st1 h' g1 hkp, ⟨_, g2, rfl, rfl⟩, Heap.IsTuple.at pt fun o q => hkp _ o q⟩, ⟨_, g1⟩, ⟨_, g2⟩, ?_, ?_⟩ ⟨?_, ?_⟩ ?_ fun h'' tk hd'' hk'' => ?_
      · obtain ⟨o, ho⟩ : ∃ o, s1.heap.get? a = some o := by
          rcases hk with hk | ⟨kvs, hk, _⟩
          · obtain ⟨its, rv, ⟨o, n, ho, _⟩, _⟩ := I1.list hk; exact ⟨o, ho⟩
          · obtain ⟨z, hs, vs, kv, o, es, ep, ho, hx, hdt, r⟩ := hk.ok I1.hok; exact ⟨o, ho⟩
        exact ⟨o, hkp _ _ ho⟩
      · obtain ⟨o, ho, _⟩ := pt
        exact ⟨o, hkp _ _ ho⟩
      · rw [List.length_zip, en]; simp
      · rintro i key v ⟨h1, h2⟩
        obtain ⟨k, hk1, hk2⟩ := p1 i key h1
        exact ⟨k, zip_get hk1 (by simpa using h2), hk2⟩
      · have := rv.length
        refine Nat.le_trans (Nat.min_le_right _ _) ?_
        show its.toArray.size ≤ _
        rw [List.size_toArray, ← this]
        assumption
      · have rel := kv_zip (ks := ks) rv
        have hlt : sysModules < s1.heap.objs.size := I1.big
        have hm : (h'.objs.size == sysModules) = false := beq_eq_false_iff_ne.mpr (Nat.ne_of_gt (Nat.lt_of_lt_of_le hlt hle))
        have hlen : (mergeK [] (ks.zip xs)).length ≤ sizeLine := by
          refine Nat.le_trans (length_mergeK _ []) ?_
          rw [List.length_nil, Nat.zero_add, List.length_zip]
          exact Nat.le_trans (Nat.min_le_right _ _) (by assumption)
        refine ⟨.ref h'.objs.size, upd H1 h'.objs.size (.dK (mergeK [] (ks.zip xs))), I1.laid (t' := tk) (fun b ob e => hk'' b ob (fun hm => ?_) (hkp b ob e)) hle (show ObjOk X.prog X.w _ _ _ (.dK (mergeK [] (ks.zip xs))) from ⟨hlen, hm, merged [] (ks.zip its), KV.merge rel .nil, hd''⟩), rfl, q _ (I1.hok.fresh hle)⟩
        have hb : b < s1.heap.objs.size := Heap.lt_size e
        simp only [List.mem_cons, List.not_mem_nil, or_false] at hm
        rcases hm with e | e | e | e
        · rw [e] at hb; exact absurd hb (Nat.not_lt.mpr (Nat.le_add_right _ _))
        · rw [e] at hb; exact absurd hb (Nat.not_lt.mpr (Nat.le_add_right _ _))
        · rw [e] at hb; exact absurd hb (Nat.lt_irrefl _)
        · rw [e] at hb; exact absurd hb (Nat.not_lt.mpr (Nat.le_add_right _ _))
end
end Rs
/-! text Re -/
set_option Elab.async false
set_option linter.all false
set_option maxRecDepth 100000
set_option maxHeartbeats 4000000
namespace Rs
open PySem PySem.Spec PyProof.Rows L2
section
variable {M : Model} {prog : Program} {w : World} {A : Around} {E : Value → Shared → Prop} {s : Shared} {K : PySem.W.Frag} {x C f : Addr} {b tb : Value} {ox : Obj} {od : Option Obj}
theorem ifBound_objNe {args : List Value} {Q : Option Value → Shared → Prop} (X : K.In s.heap) (I : PySem.W.InstAt s.heap x ox C od) (hs : PySem.W.findIn K (.ref C) "__ne__" = some (some (.builtin "object.__ne__")))
    (h : wpAny M A (call (.builtin "object.__ne__") (.ref x :: args)) (fun v => Q (some v)) E s) : wpAny M A (callSpecialIfBound? (.ref x) "__ne__" args) Q E s := by
  simp only [callSpecialIfBound?, bindSpecialIfBound?]
  refine wpAny_holding (wpAny_bind (wpAny_bind (wpAny_bind (I.type.here ((PySem.W.looks_findIn X hs).here ?_)))))
  refine wpAny_bind (wpAny_askSetting (wpAny_ite ?_))
  have fin : wpAny M A (call (.builtin "object.__ne__") ([.ref x] ++ args) >>= fun v => pure (some v)) Q E s := wpAny_bind (wpAny_mono h (fun v s' h' => wpAny_pure h') fun _ _ h' => h')
  split
  · exact wpAny_bind (wpAny_of_eq (F.cmp_object.ne.bind _) (wpAny_pure (by exact fin)))
  · exact wpAny_tryCatch (wpAny_bind (wpAny_of_eq (F.cmp_object.ne.bind _) (wpAny_pure (by exact fin))))
theorem objNe_entry_K (X : K.In s.heap) (I : PySem.W.InstAt s.heap x ox C od) (hs : PySem.W.findIn K (.ref C) "__eq__" = some (some (.ref f))) (hf : PySem.W.isFn K (.ref f) = true) (hu : A.units < cLine) {Q : Fin → Shared → Prop} {y : Addr}
    (hcall : wpAny (model prog w) A (call (.ref f) [.ref x, .ref y]) (fun v s' => v = .bool true ∧ Q (.done (.ret (.bool false))) s') E s) :
    wpAny (model prog w) A (Builtin.«object.__ne__» ⟨[.ref x, .ref y], []⟩) Q E s := by
  obtain ⟨hp, g, d, t, os⟩ := s
  unfold Builtin.«object.__ne__»
  repeat (first
    | with_reducible refine wpAny_cRoomFor hu ?_
    | (refine wpAny_bind (m := callSpecialIfBound? (.ref x) (Str.ofString "__eq__") [.ref y])
        (PySem.W.ifBound_K X I hs hf (wpAny_mono hcall (fun v s' hr => by
          obtain ⟨rfl, hq⟩ := hr
          repeat (first | exact hq | exact wpAny_pure hq | exact wpAny_truthy_bool hq | (refine wpAny_bind (m := truthy (.bool _)) (wpAny_truthy_bool ?_)) | wp_step)) fun _ _ e => e)))
    | wp_step)
/-- != of two instances of one class with an == of its own, which says True -/
theorem ne_K {Q : Value → Shared → Prop} (hu : A.units + 1 < cLine) (X : K.In s.heap) (I : PySem.W.InstAt s.heap x ox C od) {y : Addr} (hy : PySem.W.Looks (model prog w) s.heap (typeOf (.ref y)) (.ref C))
    (hm : PySem.W.mroIn K C (.type "object") = some true) (hn : PySem.W.findIn K (.ref C) "__ne__" = some (some (.builtin "object.__ne__"))) (hs : PySem.W.findIn K (.ref C) "__eq__" = some (some (.ref f))) (hf : PySem.W.isFn K (.ref f) = true)
    (h : wpAny (model prog w) A.in1 (call (.ref f) [.ref x, .ref y]) (fun v s' => v = .bool true ∧ Q (.bool false) s') E s) : wpAny (model prog w) A (richCompare .NotEq (.ref x) (.ref y)) Q E s := by
  have one : wpAny (model prog w) A (tryCompare (.ref x) "__ne__" (.ref y)) (fun r s' => ∃ v, r = some v ∧ Q v s') E s := by
    unfold tryCompare
    refine wpAny_bind (ifBound_objNe X I hn (wpAny_call (codeAny_call_builtin F.cmp_object.ne.plain F.cmpEntry_ne (PySem.W.check_slot F.cmpKind_ne F.cmpSplit_ne (I.type.andThen (PySem.W.looks_mroIn X hm)) (F.cmpArgs_ne _ _)
      (objNe_entry_K (A := A.in1) X I hs hf hu (wpAny_mono h (fun v s' hv => ?_) fun _ _ e => e))))))
    obtain ⟨rfl, hq⟩ := hv
    exact ⟨rfl, wpAny_pure ⟨_, rfl, hq⟩⟩
  unfold richCompare
  simp only [oneThing_ref]
  refine wpAny_holding (wpAny_bind (wpAny_cRoomFor (Nat.lt_of_succ_lt hu) ?_))
  refine wpAny_bind (I.type.here (wpAny_bind (hy.here ?_)))
  rw [show (Value.ref C != Value.ref C) = false from by simp]
  simp only [Bool.false_eq_true, if_false]
  refine wpAny_bind (wpAny_pure ?_)
  simp only [Bool.false_eq_true, if_false]
  refine wpAny_bind (wpAny_mono one (fun r s' z => ?_) fun _ _ e => e)
  obtain ⟨v, rfl, hq⟩ := z
  exact wpAny_pure hq
end
/-- two ratios that are alike -/
def DRat (K : PySem.W.Frag) : Eqv := fun x y H => ∃ p, rR K H x p ∧ rR K H y p
section
variable {X : Cx} {n k : Nat}
theorem mon_rat {K : PySem.W.Frag} : Mon (DRat K) := by
  rintro x y H H' e ⟨p, ⟨a, dx, rfl, ha⟩, ⟨b, dy, rfl, hb⟩⟩
  exact ⟨p, ⟨a, dx, rfl, e _ _ ha⟩, ⟨b, dy, rfl, e _ _ hb⟩⟩
theorem env_in {A : Around} {pins : List (Addr × Obj)} {σ : L2.St} {H : Hp} {s : Shared} (fr : A.frames = X.A.frames) (I : Inv X pins σ H s) : Env0 X.prog X.w X.K X.mg X.base A X.stack s H := by
  have e := I.env0
  exact ⟨by rw [fr]; exact e.frames, e.mod, e.bs, e.bsz, e.funs, e.frf, e.hok, e.bare⟩
theorem rat_call {A : Around} {pins : List (Addr × Obj)} {σ : L2.St} {H : Hp} {s : Shared} {f : Addr} {fd : FuncData} {ps : List Str} {a b : Addr} {Q : Value → Shared → Prop} (F : FnOk X.prog X.w X.K X.mg X.base C8.CX0 k f fd ps (spReq X.K)) (hb : Binds X.K fd ps []) (hr : Room k A) (fr : A.frames = X.A.frames) (I : Inv X pins σ H s) (d : DRat X.K (.ref a) (.ref b) H)
    (q : ∀ s', Inv X pins σ H s' → Q (.bool true) s') : wpAny (model X.prog X.w) A (call (.ref f) [.ref a, .ref b]) Q X.xe s := by
  obtain ⟨p, hp, hq⟩ := d
  have hsp : spReq X.K [.ref a, .ref b] H (fun v H' => v = .bl true ∧ H' = H) C8.E0 := ⟨p, hp, hq, rfl, rfl⟩
  have hl := F.len _ _ _ _ hsp
  have r2 : Vals [V.ref a, V.ref b] [Value.ref a, Value.ref b] := .cons rfl (.cons rfl .nil)
  refine wpAny_call (codeAny_mono (F.run A X.stack s H ⟨[.ref a, .ref b], []⟩ [.ref a, .ref b] [.ref a, .ref b] _ _ hr (env_in fr I) (by
    have := hb s [.ref a, .ref b] I.kIn (by simpa using hl)
    simpa using this) r2 hsp) fun r s' hq => ?_)
  cases r with
  | error e => exact C8.pass0 (X := X) (E := C8.E0) pins σ H s e s' I hq
  | ok fl =>
    cases fl with
    | ret w =>
      obtain ⟨z, H', I', rz, ez, ex⟩ := I.after hq
      subst ez
      subst ex
      cases rz
      exact q s' I'
    | next => exact False.elim hq
    | brk => exact False.elim hq
    | cont => exact False.elim hq
theorem rc_rat (c : C8.Met X.prog X.w X.K X.mg X.base k (a_Ratio X.K) "__eq__" (spReq X.K) []) : RcG X k (DRat X.K) := by
  intro A pins s σ H x y u v sb I rx ry d
  obtain ⟨f, fd, ps, ds, hc, hm, F, hb, hv⟩ := c.ex
  obtain ⟨p, ⟨a, dx, rfl, ha⟩, ⟨b, dy, rfl, hb'⟩⟩ := id d
  cases rx
  cases ry
  have ev : ds = [] := by
    have q : Vals [] ds := hv
    cases q
    rfl
  subst ev
  obtain ⟨mA, J, _⟩ := ins_get I.hok ha
  obtain ⟨mB, J', _⟩ := ins_get I.hok hb'
  obtain ⟨od, J, _⟩ := J.look
  obtain ⟨od', J', _⟩ := J'.look
  obtain ⟨m, hF⟩ := I.fr
  refine PySem.W.cmp_K (op := .Eq) (tb := .ref (a_Ratio X.K)) sb.room.units0 hF I.ok.mod.kin J J'.type (by simp [PySem.W.notFirst]) hm.at_ hm.fn ?_
  exact rat_call F hb sb.room sb.fr I d fun s' I' => ⟨rfl, H, I', Ext.rfl'⟩
theorem ne_rat (i : C8.InsC X.K (a_Ratio X.K)) (hn : PySem.W.findIn X.K (.ref (a_Ratio X.K)) "__ne__" = some (some (.builtin "object.__ne__"))) (c : C8.Met X.prog X.w X.K X.mg X.base k (a_Ratio X.K) "__eq__" (spReq X.K) []) (hr : Room (k + 1) X.A) (hu : X.A.units + 1 < cLine) :
    OpR X (compareOp .NotEq) (fun x y H Q => DRat X.K x y H ∧ Q (.bl false) H) := by
  intro pins s σ H x y v u Q I rx ry hq
  obtain ⟨d, q⟩ := hq
  obtain ⟨f, fd, ps, ds, hc, hm, F, hb, hv⟩ := c.ex
  obtain ⟨p, ⟨a, dx, rfl, ha⟩, ⟨b, dy, rfl, hb'⟩⟩ := id d
  cases rx
  cases ry
  have ev : ds = [] := by
    have q : Vals [] ds := hv
    cases q
    rfl
  subst ev
  obtain ⟨mA, J, _⟩ := ins_get I.hok ha
  obtain ⟨mB, J', _⟩ := ins_get I.hok hb'
  obtain ⟨od, J, _⟩ := J.look
  obtain ⟨od', J', _⟩ := J'.look
  show wpAny (model X.prog X.w) X.A (richCompare .NotEq (.ref a) (.ref b)) (EP X pins σ Q) X.xe s
  refine ne_K hu I.kIn J J'.type i.hm hn hm.at_ hm.fn ?_
  exact rat_call F hb hr.in1 rfl I d fun s' I' => ⟨rfl, .bl false, H, I', rfl, q⟩
end
/-! ### != of two lists whose items are equal -/
section
variable {prog : Program} {w : World} {A : Around} {E : Value → Shared → Prop} {R : Result → Shared → Prop}
def ListJ (prog : Program) (w : World) (A : Around) (E : Value → Shared → Prop) (l b : Addr) (N : Nat) (I : Nat → Shared → Prop) : Prop :=
  ∀ i s, I i s → ∃ (items items2 : Array Value) (n n2 : Nat) (sl sl2 : Array (Option Value)), s.heap.get? l = some { cls := .type "list", data := .seq items n, slots := sl } ∧ s.heap.get? b = some { cls := .type "list", data := .seq items2 n2, slots := sl2 } ∧ items.size = N ∧ items2.size = N ∧
    ∀ (h1 : i < items.size) (h2 : i < items2.size), wpAny (model prog w) A.in1 (eqBool items[i] items2[i]) (fun r s' => r = true ∧ I (i + 1) s') E s
theorem ne_loopG (l b : Addr) (N : Nat) (I : Nat → Shared → Prop) (hl : ListJ prog w A (fun e s' => R (.error e) s') l b N I)
    (fin : ∀ s, I N s → R (.ok (.ret (.bool false))) s) (k : Nat) :
    ∀ i : Nat, N - i = k → i ≤ N → ∀ s, I i s →
      wpAny (model prog w) A.in1 (Builtin.«list.__eq__.loop» ⟨[.ref l, .ref b, rawInt i, rawInt 3], []⟩) (GQ.FinOf prog w A R) (fun e s' => R (.error e) s') s := by
  induction k with
  | zero =>
    intro i hk hi s h
    obtain ⟨items, items2, n, n2, sl, sl2, hl1, hb1, hs1, hs2, _⟩ := hl _ _ h
    have hi' : i = N := by omega
    have hR : R (.ok (.ret (.bool false))) s := fin s (hi' ▸ h)
    obtain ⟨hp, g, d, tk, os⟩ := s
    wp_walk using AutoSeq1.wpAny_loadPart' hl1, AutoSeq1.wpAny_loadPart' hb1
    have hi1 : items[((i : Nat) : Int).toNat]? = none := by simp; omega
    have hi2 : items2[((i : Nat) : Int).toNat]? = none := by simp; omega
    rw [hi1, hi2]
    wp_walk using AutoSeq1.wpAny_loadPart' hl1, AutoSeq1.wpAny_loadPart' hb1
    show R (.ok (.ret (.bool (items.size != items2.size)))) _
    rw [hs1, hs2]
    simpa using hR
  | succ k ih =>
    intro i hk hi s h
    obtain ⟨items, items2, n, n2, sl, sl2, hl1, hb1, hs1, hs2, turn⟩ := hl _ _ h
    have hlt : i < items.size := by omega
    have hlt2 : i < items2.size := by omega
    have ht := turn hlt hlt2
    obtain ⟨hp, g, d, tk, os⟩ := s
    wp_walk using AutoSeq1.wpAny_loadPart' hl1, AutoSeq1.wpAny_loadPart' hb1
    have hi1 : items[((i : Nat) : Int).toNat]? = some items[i] := by simp [hlt]
    have hi2 : items2[((i : Nat) : Int).toNat]? = some items2[i] := by simp [hlt2]
    have hc : ((i : Int) + 1) = ((i + 1 : Nat) : Int) := by omega
    rw [hi1, hi2]
    refine wpAny_bind (wpAny_mono ht (fun r s2 h2 => ?_) fun _ _ x => x)
    obtain ⟨hr, h2⟩ := h2
    subst hr
    have hrec := ih (i + 1) (by omega) (by omega) s2 h2
    obtain ⟨hp2, g2, d2, tk2, os2⟩ := s2
    wp_walk
    rw [hc]
    exact ⟨plainId_quiet MeetsSeq3.plain_eq_loop _, codeAny_builtin MeetsSeq3.entry_eq_loop (by
      rw [Around.under_plainId MeetsSeq3.plain_eq_loop _]
      exact hrec)⟩
theorem list_neG (l b : Addr) (N : Nat) (I : Nat → Shared → Prop) (hl : ListJ prog w A (fun e s' => R (.error e) s') l b N I)
    (fin : ∀ s, I N s → R (.ok (.ret (.bool false))) s) {s : Shared} (h : I 0 s) :
    wpAny (model prog w) A.in1 (Builtin.«list.__ne__» ⟨[.ref l, .ref b], []⟩) (GQ.FinOf prog w A R) (fun e s' => R (.error e) s') s := by
  obtain ⟨items, items2, n, n2, sl, sl2, hl1, hb1, hs1, hs2, _⟩ := hl _ _ h
  have hrec := ne_loopG (A := A) (R := R) l b N I hl fin _ 0 rfl (Nat.zero_le _) s h
  obtain ⟨hp, g, d, tk, os⟩ := s
  have f3 := AutoSeq1.sub_list_list
  have hne : ¬ (items.size != items2.size) = true := by simp [hs1, hs2]
  wp_walk using AutoSeq1.wpAny_loadPart' hl1, AutoSeq1.wpAny_loadPart' hb1
  exact ⟨plainId_quiet MeetsSeq3.plain_eq_loop _, codeAny_builtin MeetsSeq3.entry_eq_loop (by
    rw [Around.under_plainId MeetsSeq3.plain_eq_loop _]
    exact hrec)⟩
theorem rne_listG {s : Shared} {l b : Addr} {N : Nat} {Q : Value → Shared → Prop} (hu : A.units < cLine) (I : Nat → Shared → Prop) (hl : ListJ prog w A E l b N I)
    (fin : ∀ s, I N s → Q (.bool false) s) (h : I 0 s) : wpAny (model prog w) A (richCompare .NotEq (.ref l) (.ref b)) Q E s := by
  obtain ⟨items, items2, n, n2, sl, sl2, hl1, hb1, _, _, _⟩ := hl _ _ h
  refine wpAny_richCompare_same_room (op := .NotEq) ⟨_, hl1, rfl⟩ ⟨_, hb1, rfl⟩ F.slot_list_ne (GQ.call_here F.slot_list_ne ⟨_, hl1, rfl⟩ F.entry_list_ne (F.args_list_ne_2 _ _) ?_) hu
  exact list_neG (R := wants (fun v s' => v ≠ .notImplemented ∧ Q v s') E) l b N I hl (fun s' q => ⟨(fun x => nomatch x), fin s' q⟩) h
end
section
variable {X : Cx} {n k : Nat} {D : Eqv}
/-- != of two lists (of the text's own or of the module's) whose items D says equal -/
theorem ne_listG (hD : Mon D) (h : EqG X n D) (hr : Room (n + 1) X.A) : OpR X (compareOp .NotEq) (fun x y H Q => ∃ a b xs ys, x = .ref a ∧ y = .ref b ∧ SqL X.K H a xs ∧ SqL X.K H b ys ∧ Prs D xs ys H ∧ ∀ H', Ext H H' → Q (.bl false) H') := by
  intro pins s σ H x y v u Q I rx ry hq
  obtain ⟨a, b, xs, ys, rfl, rfl, ha, hb, p, q⟩ := hq
  cases rx
  cases ry
  show wpAny (model X.prog X.w) X.A (richCompare .NotEq (.ref a) (.ref b)) (EP X pins σ Q) X.xe s
  refine rne_listG (N := xs.length) hr.units0 (fun _ s' => LoopI X pins σ H s') (fun i s' l => ?_) (fun s' ⟨H', I', e⟩ => ⟨.bl false, H', I', rfl, q H' e⟩) ⟨H, I, Ext.rfl'⟩
  obtain ⟨H1, I1, e1⟩ := id l
  obtain ⟨its, r, ⟨o, n1, g1, c1, d1, t1⟩, _⟩ := I1.list (SqL.ext ha e1)
  obtain ⟨its2, r2, ⟨o2, n2, g2, c2, d2, t2⟩, _⟩ := I1.list (SqL.ext hb e1)
  obtain ⟨cc, dd, dt, sl⟩ := o
  obtain ⟨cc2, dd2, dt2, sl2⟩ := o2
  simp only at c1 d1 t1 c2 d2 t2
  subst c1 d1 t1 c2 d2 t2
  refine ⟨its.toArray, its2.toArray, n1, n2, sl, sl2, g1, g2, by rw [List.size_toArray, ← r.length], by rw [List.size_toArray, ← r2.length, ← p.1], fun h1 h2 => ?_⟩
  exact turnG hD h ⟨hr, rfl⟩ p r r2 i h1 h2 s' l
/-- != of two lists of ratios -/
theorem ne_rats (c : C8.Met X.prog X.w X.K X.mg X.base k (a_Ratio X.K) "__eq__" (spReq X.K) []) (hr : Room (k + 1) X.A) : OpR X (compareOp .NotEq) (fun x y H Q => ∃ a b xs ys, x = .ref a ∧ y = .ref b ∧ SqL X.K H a xs ∧ SqL X.K H b ys ∧ Prs (DRat X.K) xs ys H ∧ ∀ H', Ext H H' → Q (.bl false) H') :=
  ne_listG mon_rat ((rc_rat c).eqG fun _ _ _ ⟨p, ⟨a, dx, h1, _⟩, ⟨b, dy, h2, _⟩⟩ => ⟨a, b, h1, h2⟩) hr
end
end Rs
/-! text Rm -/
set_option Elab.async false
set_option linter.all false
set_option maxRecDepth 100000
set_option maxHeartbeats 4000000
namespace Rs
open PySem PySem.Spec PyProof.Rows L2
section
variable {X : Cx}
/-- d.update(o), two dicts -/
def rUpdate : V → List V → Hp → VK → Prop := fun x vs H Q => ∃ (d o : Addr) (kvs more : List (Key × V)), x = .ref d ∧ vs = [.ref o] ∧ d ≠ o ∧ H d = some (.dK kvs) ∧ Rd H o (.dK more) ∧ kvs.length + more.length ≤ sizeLine ∧ Q .non (upd H d (.dK (mergeK kvs more)))
theorem mt_update : MtR X "dict.update" rUpdate := by
  intro pins s σ H x vs v us Q I rx rv h
  obtain ⟨d, o, kvs, more, rfl, rfl, hne, hd, ho, hz, q⟩ := h
  cases rx
  obtain ⟨u, rfl, ru⟩ := rv.one
  cases ru
  obtain ⟨z1, s1, vs1, r1, d1⟩ := dk_of I.hok hd
  obtain ⟨z2, s2, vs2, r2, d2⟩ := dk_rd I.hok ho
  have l1 : kvs.length = vs1.length := Paired.length r1
  have l2 : more.length = vs2.length := Paired.length r2
  refine call_meetsIn F.slot_dict_update d1.typeIs F.entry_dict_update (F.args_dict_update_2 _ _) (meets_dict_update (mixKind X.prog X.w) d o hne s2) ⟨vs1, vs2, d1, d2, by omega, fun h' hd' ho' sb => ?_⟩
  have hlen : (mergeK kvs more).length ≤ sizeLine := Nat.le_trans (length_mergeK _ _) hz
  refine ⟨.non, upd H d (.dK (mergeK kvs more)), I.write (x := d) (e := d) (t' := s.toks) (by rw [hd]; trivial) (.inl rfl) (fun b u hb q => sb.extBut b u hb q) ?_ ⟨hlen, s1, merged vs1 vs2, KV.merge r2 r1, hd'⟩, rfl, q⟩
  obtain ⟨ob, _, _, g, _⟩ := hd'
  exact ⟨ob, g⟩
/-- try: suite / finally: suite, where nothing raises and the first neither returns nor breaks -/
def tFin0 (tb tf : TS) : TS := fun D σ H => tb { nx := fun σ1 H1 => tf D σ1 H1, rt := fun _ _ => False, bk := fun _ _ => False, ct := fun _ _ => False } σ H
theorem ps_fin0 {body : List Stmt} {f₀ : Stmt} {fs : List Stmt} {pos : Pos} {tb tf : TS} (hb : PSs X.nox body tb) (hf : PSs X.nox (f₀ :: fs) tf) : PS X (.Try body [] [] (f₀ :: fs) pos) (tFin0 tb tf) := by
  refine ⟨fun pins s σ H D I h => ?_⟩
  refine wpAny_Try_finally (wpAny_mono (hb.run pins s σ H _ (I.wish _) h) (fun f s1 z => ?_) fun _ _ z => False.elim z)
  cases f with
  | next =>
    obtain ⟨σ1, H1, I1, q1⟩ := z
    refine wpAny_execs_nil (wpAny_mono (hf.run pins s1 σ1 H1 D I1 q1) (fun g s2 q => ?_) fun _ _ z => False.elim z)
    have q' : SP X pins D g s2 := SP.unwish q
    cases g <;> exact q'
  | brk => obtain ⟨_, _, _, q⟩ := z; exact q.elim
  | cont => obtain ⟨_, _, _, q⟩ := z; exact q.elim
  | ret v => obtain ⟨_, _, _, _, _, q⟩ := z; exact q.elim
/-- sorted(xs) of tuples of small ints; their length is the reading's choice -/
def rSortX (K : PySem.W.Frag) : List V → Hp → VK → Prop := fun vs H Q => ∃ d, 1 ≤ d ∧ rSortU K d 6 vs H Q
theorem sortedX : CallR X (.builtin "sorted") (rSortX X.K) := fun pins s σ H vs us Q I r ⟨d, hd, h⟩ => cr_sortT hd pins s σ H vs us Q I r h
end
/-- a def that is called with keywords: first the positional values, then the keywords' values -/
structure CalK (P : Program) (w : World) (K : PySem.W.Frag) (mg : Str → Option Value) (base : Heap) (k n : Nat) (ks : List Str) (x : Str) (sp : Sp) : Prop where
  ex : ∃ (f : Addr) (fd : FuncData) (ps : List Str), FnOk P w K mg base C8.CX0 k f fd ps sp ∧ mg x = some (.ref f) ∧ PySem.W.keepIn K (.ref f) = true ∧ KBn K fd ps n ks (fun us ws => us ++ ws) (fun vs zs => vs ++ zs)
section
variable {X : Cx} {k j n : Nat} {ks : List Str} {x : Str} {sp : Sp} {p pos : Pos} {e : Expr} {es : List Expr} {t tk : TA} {kws : List Keyword}
theorem pe_ck (c : CalK X.prog X.w X.K X.mg X.base k n ks x sp) (hr : Room j X.A) (hk : k ≤ j) (hg : Gl X x) (ha : PA X (e :: es) t) (hkw : PK X kws tk) (hall : (backToKw pos (keywordEach kws X.env)).all (·.1.isSome) = true := by rfl) (hks : (backToKw pos (keywordEach kws X.env)).filterMap (·.1) = ks := by rfl)
    (hdb : (x == ("__debug__" : Str)) = false := by decide) (he : starEach (e :: es) X.env = (false, eval e X.env) :: starEach es X.env := by rfl)
    (hpl : ((backTo pos (starEach (e :: es) X.env)).any (·.1) || (backToKw pos (keywordEach kws X.env)).any (·.1.isNone)) = false := by rfl) :
    PE X (.Call (.Name x p) (e :: es) kws pos) (L2.tCallN n ks.length sp (fun vs zs => vs ++ zs) C8.E0 t tk) := by
  obtain ⟨f, fd, ps, F, hm, kp, hb⟩ := c.ex
  exact pe_callN F (hr.mono hk) hg hm kp hb C8.pass0 ha hkw hall hks hdb he hpl
end
end Rs
/-! text Rlk -/
set_option Elab.async false
set_option linter.all false
set_option maxRecDepth 100000
set_option maxHeartbeats 4000000
namespace Rs
open PySem PySem.Spec PyProof.Rows L2
/-! ### a dict is locked, and free again -/
theorem Gr.unlock {M : Addr → Prop} {F H F1 H1 : Hp} {d : Addr} {u : HO} {od : Obj} (e : Same F H) (hF : F d = some u) (hm : ¬ M d) (g : Gr M (upd F d (.frz od u)) (upd H d (.frz od u)) F1 H1) :
    Gr M F H (upd F1 d u) (upd H1 d u) ∧ F1 d = some (.frz od u) ∧ H1 d = some (.frz od u) := by
  have f1 : F1 d = some (.frz od u) := g.f d _ upd_same
  have h1 : H1 d = some (.frz od u) := g.fh d _ f1
  refine ⟨⟨fun b o hb => ?_, fun b o hb => ?_, fun b o m hb => ?_, fun b hb => ?_, fun b hb n => ?_⟩, f1, h1⟩
  · by_cases q : b = d
    · rw [q] at hb ⊢
      rw [upd_same]
      exact hF.symm.trans hb
    · rw [upd_ne q]
      exact g.f b o (by rw [upd_ne q]; exact hb)
  · by_cases q : b = d
    · rw [q, upd_same] at hb ⊢
      exact hb
    · rw [upd_ne q] at hb ⊢
      exact g.fh b o hb
  · by_cases q : b = d
    · rw [q] at hb ⊢
      rw [upd_same]
      exact (e d u hF).symm.trans hb
    · rw [upd_ne q]
      exact g.h b o m (by rw [upd_ne q]; exact hb)
  · by_cases q : b = d
    · rw [q, upd_same] at hb
      cases hb
    · rw [upd_ne q] at hb
      have := g.dom b hb
      rw [upd_ne q] at this
      exact this
  · have q : b ≠ d := fun q => by rw [q, hF] at hb; cases hb
    rw [upd_ne q]
    refine g.nw b (by rw [upd_ne q]; exact hb) ?_
    rw [upd_ne q]
    exact n
theorem Same.lock {F H : Hp} (e : Same F H) {d : Addr} {o : HO} : Same (upd F d o) (upd H d o) := fun b u hb => by
  by_cases q : b = d
  · rw [q, upd_same] at hb ⊢
    exact hb
  · rw [upd_ne q] at hb ⊢
    exact e b u hb
/-- what is read while d is locked -/
theorem lockE {F H : Hp} {d : Addr} {kvs : List (Key × V)} {σ : L2.St} {t : TE} {Q : VK} (e : Same F H) (hF : F d = some (.dK kvs))
    (k : ∀ od F0 H0, F0 d = some (.frz od (.dK kvs)) → Same F0 H0 → XF F F0 → (∀ b, b ≠ d → F0 b = F b) → ∀ Q' : VK, (∀ v F1 H1, Pu F0 H0 F1 H1 → (∀ F2 H2, Pu F H F2 H2 → XF F1 F2 → Q v H2) → Q' v H1) → t σ H0 Q') : tLockE t σ H Q := by
  refine ⟨d, .dK kvs, e _ _ hF, trivial, fun od => ?_⟩
  refine k od (upd F d (.frz od (.dK kvs))) _ upd_same (Same.lock e) (XF.lock hF) (fun b hb => upd_ne hb) _ fun v F1 H1 g q => ?_
  obtain ⟨g2, f1, h1⟩ := Gr.unlock e hF (fun z => z) g
  exact ⟨h1, q _ _ g2 (XF.unlock f1)⟩
/-- a list is made by a comprehension over the keys of d -/
abbrev AllD {α : Type} (R : Rep α) (F : Hp) (kvs : List (Key × V)) (l : List (Str × α)) : Prop := Paired (fun (kv : Key × V) (q : Str × α) => kv.1 = Sum.inr q.1 ∧ R F kv.2 q.2) kvs l
theorem AllD.get {α : Type} {R : Rep α} {F : Hp} : ∀ {kvs : List (Key × V)} {l : List (Str × α)}, AllD R F kvs l → ∀ {i : Nat} {k : Key} {v : V}, kvs[i]? = some (k, v) → ∃ x a, l[i]? = some (x, a) ∧ k = Sum.inr x ∧ R F v a
  | _, _, Paired.nil, i, k, v, h => by cases h
  | _, _, Paired.cons (b := q) r t, 0, k, v, h => by
    cases h
    exact ⟨q.1, q.2, rfl, r.1, r.2⟩
  | _, _, Paired.cons r t, i + 1, k, v, h => AllD.get t (by simpa using h)
theorem AllD.length {α : Type} {R : Rep α} {F : Hp} {kvs : List (Key × V)} {l : List (Str × α)} (h : AllD R F kvs l) : kvs.length = l.length := Paired.length h
theorem AllD.up {α : Type} {R : Rep α} [Up R] {F F' : Hp} {kvs : List (Key × V)} {l : List (Str × α)} (e : Same F F') (h : AllD R F kvs l) : AllD R F' kvs l := Paired.mapP h fun _ _ q => ⟨q.1, Up.up e q.2⟩
theorem AllD.ux {α : Type} {R : Rep α} [Ux R] {F F' : Hp} {kvs : List (Key × V)} {l : List (Str × α)} (e : XF F F') (h : AllD R F kvs l) : AllD R F' kvs l := Paired.mapP h fun _ _ q => ⟨q.1, Ux.ux e q.2⟩
section
variable {K : PySem.W.Frag} {α β : Type} {R : Rep β} {g : TG} {tt : TT} {te : TE} {vs : List Nat} {σ : L2.St} {F H : Hp} {Q : Addr → Hp → Prop} {d : Addr} {o : Obj} {kvs : List (Key × V)}
/-- .. over the keys of a locked dict -/
theorem lcK [Up R] (l : List Str) (f : Str → β) (p : Str → Bool) (e : Same F H) (hd0 : F d = some (.frz o (.dK kvs))) (hl : kvs.map (·.1) = l.map Sum.inr) (hz : l.length ≤ 1000000)
    (hs : ∀ y F1 H1, y ∈ l → Pu F H F1 H1 → ∀ (Kt : V → Hp → Prop) (Kf : Hp → Prop), (p y = true → ∀ v F2 H2, Pu F1 H1 F2 H2 → R F2 v (f y) → Kt v H2) → (p y = false → ∀ F2 H2, Pu F1 H1 F2 H2 → Kf H2) →
      g (.str y) (wipe σ vs) H1 fun σ2 H2 => wipe σ2 vs = wipe σ vs ∧ tt σ2 H2 fun b H3 => if b = true then te σ2 H3 Kt else Kf H3)
    (hd : ∀ D F' H', Pu F H F' H' → rL K R F' (.ref D) ((l.filter p).map f) → Q D H') :
    ∀ D, H D = none → ∃ W : Nat → Nat → Hp → Prop, (∃ m, W 0 m (upd H D (.lst []))) ∧ ∀ i m H, W i m H →
      ((Itk d o kvs).stop i H ∧ Q D H) ∨ ((Itk d o kvs).go i H ∧ ∃ Nx : Hp → Prop, (∀ H', Nx H' → ∃ m', m' < m ∧ W (i + 1) m' H') ∧ ∀ x H', (Itk d o kvs).yld i H x H' → g x (wipe σ vs) H' fun σ2 H2 => wipe σ2 vs = wipe σ vs ∧ tt σ2 H2 fun b H3 =>
        if b = true then te σ2 H3 fun y H4 => ∃ acc, H4 D = some (.lst acc) ∧ acc.length < sizeLine ∧ Nx (upd H4 D (.lst (acc ++ [y]))) else Nx H3) := by
  have hn : kvs.length = l.length := by
    have := congrArg List.length hl
    simpa using this
  refine lcW (K := K) (RA := rS) (walk_keys (o := o) (d := d) (kvs := kvs)) l f p e hn (by omega) (fun F1 H1 g => g.fh _ _ (g.f _ _ hd0)) (fun i x F1 H1 H2 hi g ⟨e2, k, v, hk, hx⟩ => ?_) (fun y x F1 H1 hy g rx => by cases rx; exact hs y F1 H1 hy g) hd
  subst e2
  have q : (kvs.map (·.1))[i]? = some k := by rw [List.getElem?_map, hk]; rfl
  rw [hl, List.getElem?_map] at q
  cases hq : l[i]? with
  | none => rw [hq] at q; cases q
  | some y =>
    rw [hq] at q
    cases q
    exact ⟨y, F1, rfl, Gr.refl g.fh, hx⟩
/-- .. over the values of a locked dict -/
theorem lcV [Up R] {RA : Rep α} [Up RA] (l : List (Str × α)) (f : Str × α → β) (p : Str × α → Bool) (e : Same F H) (hd0 : F d = some (.frz o (.dK kvs))) (hl : AllD RA F kvs l) (hz : l.length ≤ 1000000)
    (hs : ∀ y x F1 H1, y ∈ l → Pu F H F1 H1 → RA F1 x y.2 → ∀ (Kt : V → Hp → Prop) (Kf : Hp → Prop), (p y = true → ∀ v F2 H2, Pu F1 H1 F2 H2 → R F2 v (f y) → Kt v H2) → (p y = false → ∀ F2 H2, Pu F1 H1 F2 H2 → Kf H2) →
      g x (wipe σ vs) H1 fun σ2 H2 => wipe σ2 vs = wipe σ vs ∧ tt σ2 H2 fun b H3 => if b = true then te σ2 H3 Kt else Kf H3)
    (hd : ∀ D F' H', Pu F H F' H' → rL K R F' (.ref D) ((l.filter p).map f) → Q D H') :
    ∀ D, H D = none → ∃ W : Nat → Nat → Hp → Prop, (∃ m, W 0 m (upd H D (.lst []))) ∧ ∀ i m H, W i m H →
      ((Itd d o kvs).stop i H ∧ Q D H) ∨ ((Itd d o kvs).go i H ∧ ∃ Nx : Hp → Prop, (∀ H', Nx H' → ∃ m', m' < m ∧ W (i + 1) m' H') ∧ ∀ x H', (Itd d o kvs).yld i H x H' → g x (wipe σ vs) H' fun σ2 H2 => wipe σ2 vs = wipe σ vs ∧ tt σ2 H2 fun b H3 =>
        if b = true then te σ2 H3 fun y H4 => ∃ acc, H4 D = some (.lst acc) ∧ acc.length < sizeLine ∧ Nx (upd H4 D (.lst (acc ++ [y]))) else Nx H3) := by
  have hn := hl.length
  refine lcW (K := K) (RA := fun F v y => RA F v y.2) (walk_values (o := o) (d := d) (kvs := kvs)) l f p e hn (by omega) (fun F1 H1 g => g.fh _ _ (g.f _ _ hd0)) (fun i x F1 H1 H2 hi g ⟨e2, k, hk⟩ => ?_) hs hd
  subst e2
  obtain ⟨y, a, h1, h2, h3⟩ := hl.get hk
  exact ⟨(y, a), F1, h1, Gr.refl g.fh, Up.up g.x h3⟩
/-- what comes as a new pair -/
def rPr {α γ : Type} (R : Rep α) (S : Rep γ) : Rep (α × γ) := fun F v p => ∃ T x y, v = .ref T ∧ F T = some (.tup [x, y]) ∧ R F x p.1 ∧ S F y p.2
/-- .. over anything that yields new pairs -/
theorem lcP {J : It} {n : Nat} {G : Hp → Prop} {xs ys : Nat → Option V} {γ : Type} [Up R] {RA : Rep α} [Up RA] {RC : Rep γ} [Up RC] (w : Walk J n G (YPair xs ys)) (src : List (α × γ)) (f : α × γ → β) (p : α × γ → Bool)
    (e : Same F H) (hn : n = src.length) (hz : n ≤ 1000000) (hG : ∀ F1 H1, Pu F H F1 H1 → G H1) (hx : ∀ i x, i < n → xs i = some x → ∃ q, src[i]? = some q ∧ RA F x q.1) (hy : ∀ i y, i < n → ys i = some y → ∃ q, src[i]? = some q ∧ RC F y q.2)
    (hs : ∀ q T x y F1 H1, q ∈ src → Pu F H F1 H1 → F1 T = some (.tup [x, y]) → RA F1 x q.1 → RC F1 y q.2 → ∀ (Kt : V → Hp → Prop) (Kf : Hp → Prop), (p q = true → ∀ v F2 H2, Pu F1 H1 F2 H2 → R F2 v (f q) → Kt v H2) → (p q = false → ∀ F2 H2, Pu F1 H1 F2 H2 → Kf H2) →
      g (.ref T) (wipe σ vs) H1 fun σ2 H2 => wipe σ2 vs = wipe σ vs ∧ tt σ2 H2 fun b H3 => if b = true then te σ2 H3 Kt else Kf H3)
    (hd : ∀ D F' H', Pu F H F' H' → rL K R F' (.ref D) ((src.filter p).map f) → Q D H') :
    ∀ D, H D = none → ∃ W : Nat → Nat → Hp → Prop, (∃ m, W 0 m (upd H D (.lst []))) ∧ ∀ i m H, W i m H →
      (J.stop i H ∧ Q D H) ∨ (J.go i H ∧ ∃ Nx : Hp → Prop, (∀ H', Nx H' → ∃ m', m' < m ∧ W (i + 1) m' H') ∧ ∀ x H', J.yld i H x H' → g x (wipe σ vs) H' fun σ2 H2 => wipe σ2 vs = wipe σ vs ∧ tt σ2 H2 fun b H3 =>
        if b = true then te σ2 H3 fun y H4 => ∃ acc, H4 D = some (.lst acc) ∧ acc.length < sizeLine ∧ Nx (upd H4 D (.lst (acc ++ [y]))) else Nx H3) := by
  refine lcW (K := K) (RA := rPr RA RC) w src f p e hn hz hG (fun i x F1 H1 H2 hi g y => ?_) (fun q x F1 H1 hq g rx => ?_) hd
  · obtain ⟨T, a, b, rfl, hT, rfl, ha, hb⟩ := y
    obtain ⟨q, q1, q2⟩ := hx i a hi ha
    obtain ⟨q', q1', q3⟩ := hy i b hi hb
    rw [q1] at q1'
    cases q1'
    have g2 : Pu F1 H1 (upd F1 T (.tup [a, b])) (upd H1 T (.tup [a, b])) := Gr.new g.fh hT
    exact ⟨q, _, q1, g2, T, a, b, rfl, upd_same, Up.up (g.f.trans g2.f) q2, Up.up (g.f.trans g2.f) q3⟩
  · obtain ⟨T, a, b, rfl, h1, h2, h3⟩ := rx
    exact hs q T a b F1 H1 hq g h1 h2 h3
end
section
variable {J : It} {n : Nat} {G : Hp → Prop} {Y : Nat → Hp → V → Hp → Prop}
/-- a dict comprehension over anything that is walked -/
theorem dc_it (w : Walk J n G Y) {g : TG} {tt : TT} {tk tv : TE} {vs : List Nat} {σ : L2.St} {H1 : Hp} {D : Addr} {Qd : Hp → Prop} (Pv : Nat → Hp → Prop) (h0 : Pv 0 (upd H1 D (.dK []))) (hG : ∀ i H, i ≤ n → Pv i H → G H)
    (hs : ∀ i x H H', i < n → Pv i H → Y i H x H' → g x (wipe σ vs) H' fun σ2 H2 => wipe σ2 vs = wipe σ vs ∧ tt σ2 H2 fun b H3 =>
      if b = true then tk σ2 H3 fun y H4 => tv σ2 H4 fun z H5 => ∃ kvs k, y = kV k ∧ H5 D = some (.dK kvs) ∧ kvs.length < sizeLine ∧ Pv (i + 1) (upd H5 D (.dK (putK kvs k z))) else Pv (i + 1) H3) (hd : ∀ H, Pv n H → Qd H) :
    ∃ W : Nat → Nat → Hp → Prop, (∃ m, W 0 m (upd H1 D (.dK []))) ∧ ∀ i m H, W i m H →
      (J.stop i H ∧ Qd H) ∨ (J.go i H ∧ ∃ Nx : Hp → Prop, (∀ H', Nx H' → ∃ m', m' < m ∧ W (i + 1) m' H') ∧ ∀ x H', J.yld i H x H' → g x (wipe σ vs) H' fun σ2 H2 => wipe σ2 vs = wipe σ vs ∧ tt σ2 H2 fun b H3 =>
        if b = true then tk σ2 H3 fun y H4 => tv σ2 H4 fun z H5 => ∃ kvs k, y = kV k ∧ H5 D = some (.dK kvs) ∧ kvs.length < sizeLine ∧ Nx (upd H5 D (.dK (putK kvs k z))) else Nx H3) := by
  refine ⟨fun i m H => m = n - i ∧ i ≤ n ∧ Pv i H, ⟨n, by simp, Nat.zero_le _, h0⟩, ?_⟩
  rintro i m H ⟨rfl, hi, p⟩
  have q := hG i H hi p
  by_cases hlt : i < n
  · exact .inr ⟨w.goes i H hlt q, Pv (i + 1), fun H' p' => ⟨n - (i + 1), by omega, rfl, hlt, p'⟩, fun x H' y => hs i x H H' hlt p (w.yields i H x H' hlt q y)⟩
  · have e : i = n := by omega
    subst e
    exact .inl ⟨w.stops H q, hd H p⟩
theorem valV_all {α : Type} {R : Rep α} {F : Hp} {x : Str} : ∀ {kvs : List (Key × V)} {l : List (Str × α)}, AllD R F kvs l → x ∉ l.map (·.1) → valV kvs (Sum.inr x) = none
  | _, _, Paired.nil, _ => rfl
  | _, _, Paired.cons (b := q) r t, h => by
    rw [List.map_cons, List.mem_cons, not_or] at h
    rw [valV_neg (by rw [r.1]; exact fun z => h.1 (Sum.inr.inj z).symm)]
    exact valV_all t h.2
/-- a dict under construction: keys all different, no tests -/
theorem dcW {K : PySem.W.Frag} {α β : Type} {RA : Rep α} {R : Rep β} [Up R] {g : TG} {tk tv : TE} {vs : List Nat} {σ : L2.St} {F H : Hp} {Q : Addr → Hp → Prop} (w : Walk J n G Y) (src : List α) (kf : α → Str) (f : α → β)
    (e : Same F H) (hn : n = src.length) (hz : n ≤ 1000000) (hnd : (src.map kf).Nodup) (hG : ∀ F1 H1, Pu F H F1 H1 → G H1)
    (hsrc : ∀ i x F1 H1 H2, i < n → Pu F H F1 H1 → Y i H1 x H2 → ∃ y F2, src[i]? = some y ∧ Pu F1 H1 F2 H2 ∧ RA F2 x y)
    (hs : ∀ y x F1 H1, y ∈ src → Pu F H F1 H1 → RA F1 x y → ∀ (Kt : V → V → Hp → Prop), (∀ v F2 H2, Pu F1 H1 F2 H2 → R F2 v (f y) → Kt (.str (kf y)) v H2) →
      g x (wipe σ vs) H1 fun σ2 H2 => wipe σ2 vs = wipe σ vs ∧ tk σ2 H2 fun z H4 => tv σ2 H4 (Kt z))
    (hd : ∀ D F' H' kvs, Pu F H F' H' → H D = none → F' D = none → H' D = some (.dK kvs) → AllD R F' kvs (src.map fun a => (kf a, f a)) → Q D H') :
    ∀ D, H D = none → ∃ W : Nat → Nat → Hp → Prop, (∃ m, W 0 m (upd H D (.dK []))) ∧ ∀ i m H, W i m H →
      (J.stop i H ∧ Q D H) ∨ (J.go i H ∧ ∃ Nx : Hp → Prop, (∀ H', Nx H' → ∃ m', m' < m ∧ W (i + 1) m' H') ∧ ∀ x H', J.yld i H x H' → g x (wipe σ vs) H' fun σ2 H2 => wipe σ2 vs = wipe σ vs ∧ tYes σ2 H2 fun b H3 =>
        if b = true then tk σ2 H3 fun y H4 => tv σ2 H4 fun z H5 => ∃ kvs k, y = kV k ∧ H5 D = some (.dK kvs) ∧ kvs.length < sizeLine ∧ Nx (upd H5 D (.dK (putK kvs k z))) else Nx H3) := by
  intro D hD
  refine dc_it w (fun i H' => ∃ F' kvs, Pu F H F' H' ∧ F' D = none ∧ H' D = some (.dK kvs) ∧ AllD R F' kvs ((src.take i).map fun a => (kf a, f a))) ⟨F, [], Gr.newm e hD, e.free hD, upd_same, Paired.nil⟩ (fun i H' _ ⟨F', _, a, _⟩ => hG F' H' a) ?_ ?_
  · rintro i x H1 H2 hi ⟨F1, kvs, g0, n0, h0, a0⟩ y
    obtain ⟨z, F2, hz1, g1, rz⟩ := hsrc i x F1 H1 H2 hi g0 y
    have m1 : Mt F1 H1 D (.dK kvs) := ⟨n0, h0⟩
    refine hs z x F2 H2 (List.mem_of_getElem? hz1) (g0.trans g1) rz (fun y z H5 => ∃ kvs k, y = kV k ∧ H5 D = some (.dK kvs) ∧ kvs.length < sizeLine ∧ ∃ F' kvs', Pu F H F' (upd H5 D (.dK (putK kvs k z))) ∧ F' D = none ∧ (upd H5 D (.dK (putK kvs k z))) D = some (.dK kvs') ∧ AllD R F' kvs' ((src.take (i + 1)).map fun a => (kf a, f a))) fun v F3 H3 g2 hv => ?_
    have m3 := (m1.pu g1).pu g2
    have a3 := a0.up (g1.trans g2).f
    have hk : kf z ∉ (src.take i).map kf := by
      intro hm
      have hzi : i < src.length := by omega
      have e1 : List.Sublist ((src.map kf).take i ++ [kf z]) (src.map kf) := by
        have : (src.map kf)[i]? = some (kf z) := by rw [List.getElem?_map, hz1]; rfl
        have h2 : (src.map kf).take (i + 1) = (src.map kf).take i ++ [kf z] := by rw [List.take_succ, this]; rfl
        rw [← h2]
        exact List.take_sublist _ _
      have e2 := hnd.sublist e1
      rw [List.nodup_append] at e2
      exact e2.2.2 (kf z) (by rw [← List.map_take]; exact hm) (kf z) (by simp) rfl
    have hnone : valV kvs (Sum.inr (kf z)) = none := valV_all a3 (by rw [List.map_map]; exact hk)
    have hlen := a3.length
    rw [List.length_map, List.length_take] at hlen
    refine ⟨kvs, Sum.inr (kf z), rfl, m3.h, lt_line (by omega), F3, kvs ++ [(Sum.inr (kf z), v)], ?_, m3.n, ?_, ?_⟩
    · exact (g0.trans (g1.trans g2)).mut m3.n hD
    · rw [upd_same, putK_new _ hnone]
    · rw [List.take_succ, hz1, List.map_append]
      exact Paired.snoc a3 ⟨rfl, hv⟩
  · rintro H' ⟨F', kvs, g, n0, h0, a⟩
    rw [List.take_of_length_le (by omega)] at a
    exact hd D F' H' kvs g hD n0 h0 a
end
end Rs
/-! text Rdp -/
set_option Elab.async false
set_option linter.all false
set_option maxRecDepth 100000
set_option maxHeartbeats 4000000
namespace Rs
open PySem PySem.Spec PyProof.Rows L2
theorem huD_of {A : Around} {k : Nat} (hr : Room k A) : A.units + 65 < cLine := by have := hr.un; omega
/-! ### data, compared -/
structure Enc (K : PySem.W.Frag) {α : Type} [DecidableEq α] (R : Rep α) (P : α → Prop) (n : Nat) (c : α → PyData) : Prop where
  dp : ∀ F v a, R F v a → Dp K F v (c a)
  eq : ∀ a b, PyData.eqv (c a) (c b) = decide (a = b)
  lay : ∀ a, P a → (c a).canLay0 = true
  dep : ∀ a, (c a).depth ≤ n
section
variable {K : PySem.W.Frag} {α β : Type} [DecidableEq α] [DecidableEq β] {R : Rep α} {S : Rep β} {P : α → Prop} {P' : β → Prop} {n m : Nat} {c : α → PyData} {c' : β → PyData}
theorem encI : Enc K rI (fun _ => True) 0 PyData.int :=
  ⟨fun F v a h => by cases h; exact .int a, fun a b => by simp only [PyData.eqv]; rfl, fun a _ => by simp only [PyData.canLay0], fun a => by simp only [PyData.depth]; exact Nat.le_refl _⟩
theorem encS : Enc K rS (fun x => PyData.canLay0 (.str x) = true) 0 PyData.str :=
  ⟨fun F v a h => by cases h; exact .str a, fun a b => by simp only [PyData.eqv]; rfl, fun a h => h, fun a => by simp only [PyData.depth]; exact Nat.le_refl _⟩
theorem dpAll_of (E : Enc K R P n c) {F : Hp} : ∀ {xs : List V} {l : List α}, All2 R F xs l → DpAll K F xs (l.map c)
  | _, _, Paired.nil => .nil
  | _, _, Paired.cons r t => .cons (E.dp _ _ _ r) (dpAll_of E t)
theorem eqvAll_of (E : Enc K R P n c) : ∀ a b : List α, PyData.eqvAll (a.map c) (b.map c) = decide (a = b)
  | [], [] => by simp [PyData.eqvAll]
  | [], y :: b => by simp [PyData.eqvAll]
  | x :: a, [] => by simp [PyData.eqvAll]
  | x :: a, y :: b => by
    simp only [List.map_cons, PyData.eqvAll]
    rw [E.eq, eqvAll_of E a b]
    by_cases h : x = y <;> by_cases h2 : a = b <;> simp [h, h2]
theorem layAll_of (E : Enc K R P n c) : ∀ l : List α, (∀ x ∈ l, P x) → PyData.canLayAll0 (l.map c) = true
  | [], _ => by simp [PyData.canLayAll0]
  | x :: l, h => by simp only [List.map_cons, PyData.canLayAll0, Bool.and_eq_true]; exact ⟨E.lay x (h x (List.mem_cons_self ..)), layAll_of E l fun y hy => h y (List.mem_cons_of_mem _ hy)⟩
theorem depAll_of (E : Enc K R P n c) : ∀ l : List α, PyData.depthAll (l.map c) ≤ n
  | [] => by simp [PyData.depthAll]
  | x :: l => by
    have h1 := E.dep x
    have h2 := depAll_of E l
    simp only [List.map_cons, PyData.depthAll]
    omega
theorem encU (E : Enc K R P n c) : Enc K (rU K R) (fun l => ∀ x ∈ l, P x) (n + 1) (fun l => .tuple (l.map c)) :=
  ⟨fun F v l ⟨a, xs, hv, h1, h2⟩ => by rw [hv]; exact .tup h1 (dpAll_of E h2), fun a b => by simp only [PyData.eqv]; exact eqvAll_of E a b, fun l h => by simp only [PyData.canLay0]; exact layAll_of E l h,
    fun l => by have := depAll_of E l; simp only [PyData.depth]; omega⟩
theorem encL (E : Enc K R P n c) : Enc K (rL K R) (fun l => ∀ x ∈ l, P x) (n + 1) (fun l => .list (l.map c)) :=
  ⟨fun F v l ⟨a, xs, hv, h1, h2⟩ => by rw [hv]; exact .lst h1 (dpAll_of E h2), fun a b => by simp only [PyData.eqv]; exact eqvAll_of E a b, fun l h => by simp only [PyData.canLay0]; exact layAll_of E l h,
    fun l => by have := depAll_of E l; simp only [PyData.depth]; omega⟩
theorem enc2 (E : Enc K R P n c) (E' : Enc K S P' n c') : Enc K (r2 K R S) (fun p => P p.1 ∧ P' p.2) (n + 1) (fun p => .tuple [c p.1, c' p.2]) :=
  ⟨fun F v p ⟨a, x, y, hv, h1, h2, h3⟩ => by rw [hv]; exact .tup h1 (.cons (E.dp _ _ _ h2) (.cons (E'.dp _ _ _ h3) .nil)),
    fun a b => by
      obtain ⟨a1, a2⟩ := a
      obtain ⟨b1, b2⟩ := b
      simp only [PyData.eqv, PyData.eqvAll]
      rw [E.eq, E'.eq]
      by_cases h : a1 = b1 <;> by_cases h2 : a2 = b2 <;> simp [h, h2],
    fun p h => by simp only [PyData.canLay0, PyData.canLayAll0, Bool.and_eq_true]; exact ⟨E.lay _ h.1, E'.lay _ h.2, trivial⟩,
    fun p => by have h1 := E.dep p.1; have h2 := E'.dep p.2; simp only [PyData.depth, PyData.depthAll]; omega⟩
theorem Enc.shaped (E : Enc K R P n c) (hn : n ≤ 64) {a : α} (h : P a) : SeqAt.shaped (c a) = true := by
  show ((c a).canLay0 && decide ((c a).depth ≤ 64)) = true
  rw [Bool.and_eq_true]
  exact ⟨E.lay a h, decide_eq_true (Nat.le_trans (E.dep a) hn)⟩
theorem any_enc (E : Enc K R P n c) (a : α) : ∀ l : List α, ((l.map c).any fun z => PyData.eqv z (c a)) = decide (a ∈ l)
  | [] => by simp
  | x :: l => by
    rw [List.map_cons, List.any_cons, any_enc E a l, E.eq]
    by_cases h : x = a
    · subst h; simp
    · by_cases h2 : a ∈ l <;> simp [h, h2, Ne.symm h]
/-- x in l -/
theorem inD {Q : VK} {F H : Hp} {x y : V} {a : α} {l : List α} [Up R] (E : Enc K R P n c) (hn : n ≤ 60) (e : Same F H) (hx : R F x a) (hy : rL K R F y l) (pa : P a) (pl : ∀ b ∈ l, P b) (q : ∀ b : Bool, (b = true ↔ a ∈ l) → Q (.bl b) H) : rInD K x y H Q :=
  ⟨c a, l.map c, E.dp _ _ _ (Up.up e hx), (encL E).dp _ _ _ (Up.up e hy), E.shaped (by omega) pa, (encL E).shaped (by omega) pl, by rw [any_enc E]; exact q _ decide_eq_true_iff⟩
theorem notInD {Q : VK} {F H : Hp} {x y : V} {a : α} {l : List α} [Up R] (E : Enc K R P n c) (hn : n ≤ 60) (e : Same F H) (hx : R F x a) (hy : rL K R F y l) (pa : P a) (pl : ∀ b ∈ l, P b) (q : ∀ b : Bool, (b = true ↔ a ∈ l) → Q (.bl (!b)) H) : rNotInD K x y H Q :=
  ⟨c a, l.map c, E.dp _ _ _ (Up.up e hx), (encL E).dp _ _ _ (Up.up e hy), E.shaped (by omega) pa, (encL E).shaped (by omega) pl, by rw [any_enc E]; exact q _ decide_eq_true_iff⟩
theorem eqD {Q : VK} {F H : Hp} {x y : V} {a b : α} [Up R] (E : Enc K R P n c) (hn : n ≤ 60) (e : Same F H) (hx : R F x a) (hy : R F y b) (pa : P a) (pb : P b) (q : ∀ r : Bool, (r = true ↔ a = b) → Q (.bl r) H) : rEqD K x y H Q :=
  ⟨c a, c b, E.dp _ _ _ (Up.up e hx), E.dp _ _ _ (Up.up e hy), E.shaped (by omega) pa, E.shaped (by omega) pb, by rw [E.eq]; exact q _ decide_eq_true_iff⟩
theorem neD {Q : VK} {F H : Hp} {x y : V} {a b : α} [Up R] (E : Enc K R P n c) (hn : n ≤ 60) (e : Same F H) (hx : R F x a) (hy : R F y b) (pa : P a) (pb : P b) (q : ∀ r : Bool, (r = true ↔ a = b) → Q (.bl (!r)) H) : rNeD K x y H Q :=
  ⟨c a, c b, E.dp _ _ _ (Up.up e hx), E.dp _ _ _ (Up.up e hy), E.shaped (by omega) pa, E.shaped (by omega) pb, by rw [E.eq]; exact q _ decide_eq_true_iff⟩
end
/-- tuples of ints -/
theorem encT {K : PySem.W.Frag} : Enc K (rU K rI) (fun _ => True) 1 (fun l => .tuple (l.map PyData.int)) :=
  ⟨(encU (K := K) encI).dp, (encU (K := K) encI).eq, fun a _ => (encU (K := K) encI).lay a fun _ _ => trivial, (encU (K := K) encI).dep⟩
end Rs
/-! text RK -/
set_option Elab.async false
set_option linter.all false
set_option maxRecDepth 100000
set_option maxHeartbeats 4000000
namespace Rs
open PySem PySem.Spec PyProof.Rows L2
/-! ### rules, told by K (within a comprehension's block) -/
section
variable {X : Cx} {K : PySem.W.Frag}
theorem op_catAK (h : X.K = K) : OpR X (binaryOp .Add) (rCatA K) := h ▸ op_catA
theorem op_inDK (h : X.K = K) (hu : X.A.units + 65 < cLine) : OpR X (compareOp .In) (rInD K) := h ▸ op_inD hu
theorem op_notInDK (h : X.K = K) (hu : X.A.units + 65 < cLine) : OpR X (compareOp .NotIn) (rNotInD K) := h ▸ op_notInD hu
theorem op_eqDK (h : X.K = K) (hu : X.A.units + 64 < cLine) : OpR X (compareOp .Eq) (rEqD K) := h ▸ op_eqD hu
theorem op_neDK (h : X.K = K) (hu : X.A.units + 64 < cLine) : OpR X (compareOp .NotEq) (rNeD K) := h ▸ op_neD hu
theorem call_len_seqK (h : X.K = K) : CallR X (.builtin "len") (fun xs H Q => ∃ p ys, xs = [V.ref p] ∧ (SqL K H p ys ∨ SqT K H p ys) ∧ Q (V.int (ys.length : Nat)) H) := h ▸ call_len_seq
theorem call_isiTK (h : X.K = K) : CallR X (.builtin "isinstance") (rIsiT K) := h ▸ call_isiT
theorem call_isiK (h : X.K = K) : CallR X (.builtin "isinstance") (rIsi K) := h ▸ call_isi
theorem cr_allK (h : X.K = K) (c : X.calm = true) : CallR X (.builtin "all") (rAll K) := h ▸ cr_all c
theorem cr_anyK (h : X.K = K) (c : X.calm = true) : CallR X (.builtin "any") (rAny K) := h ▸ cr_any c
theorem cr_sumK (h : X.K = K) (c : X.calm = true) : CallR X (.builtin "sum") (rSum K) := h ▸ cr_sum c
theorem call_list_ofK (h : X.K = K) : CallR X (.type "list") (fun xs H Q => ∃ p ys, xs = [V.ref p] ∧ (SqL K H p ys ∨ SqT K H p ys) ∧ ∀ l : Addr, H l = none → Q (V.ref l) (upd H l (.lst ys))) := h ▸ call_list_of
theorem call_tuple_ofK (h : X.K = K) : CallR X (.type "tuple") (fun xs H Q => ∃ p ys, xs = [V.ref p] ∧ ((SqL K H p ys ∧ ∀ l : Addr, H l = none → Q (V.ref l) (upd H l (.tup ys))) ∨ SqT K H p ys ∧ Q (V.ref p) H)) := h ▸ call_tuple_of
theorem ix_listK (h : X.K = K) : IxR X (rIxL K) := h ▸ ix_list
theorem ix_tupK (h : X.K = K) : IxR X (rIxT K) := h ▸ ix_tup
theorem sl_listK (h : X.K = K) : SlR X (rSlL K) := h ▸ sl_list
theorem sl_tupAK (h : X.K = K) : SlR X (rSlA K) := h ▸ sl_tupA
theorem mt_indexK (h : X.K = K) : MtR X "list.index" (rIndex K) := h ▸ mt_index
theorem sortedXK (h : X.K = K) : CallR X (.builtin "sorted") (rSortX K) := h ▸ sortedX
theorem pi_listK (h : X.K = K) {tg l : Expr} {tl : TE} (p : PE X l tl) : PI X tg l (iList K tl) := h ▸ pi_list p
theorem pi_tupK (h : X.K = K) {tg l : Expr} {tl : TE} (p : PE X l tl) : PI X tg l (iTup K tl) := h ▸ pi_tup p
theorem pe_fldK (h : X.K = K) {e : Expr} {f : Str} {pos : Pos} {ta : TE} (he : PE X e ta) (hb : attributeBase e f X.env (eval e X.env) = eval e X.env) : PE X (.Attribute e f pos) (tFld K ta f) := h ▸ pe_fld he hb
theorem pe_bmK (hK : X.K = K) {T : String} {name : Str} {id : String} {r : V → List V → Hp → VK → Prop} {o e : Expr} {es : List Expr} {to : TE} {t : TA} {apos cpos : Pos} (pa : PlainAttrs T) (slot : Slot T name id) (hty : typeOf (.builtin id) = pure (.type "method_descriptor")) (hm : MtR X id r) (ho : PE X o to) (ha : PA X (e :: es) t)
    (hbase : attributeBase o name X.env (eval o X.env) = eval o X.env := by rfl)
    (hfew : ((backTo cpos (starEach (e :: es) X.env)).all (fun x => !x.1) && (backToKw cpos (keywordEach [] X.env)).all (fun x => x.1.isSome)
      && decide ((e :: es).length + ([] : List Keyword).length + (if ([] : List Keyword).isEmpty then 0 else 1) < 30)) = true := by rfl)
    (hline : (apos.endLine == cpos.line) = true := by rfl) (hs : starEach (e :: es) X.env = (false, eval e X.env) :: starEach es X.env := by rfl) (hplain : (backTo cpos (starEach es X.env)).any (·.1) = false := by rfl) :
    PE X (.Call (.Attribute o name apos) (e :: es) [] cpos) (tBM K T r to t) := hK ▸ pe_bm pa slot hty hm ho ha hbase hfew hline hs hplain
/-- l[i], by values -/
def rGetL (K : PySem.W.Frag) : V → V → Hp → VK → Prop := fun x y H Q => ∃ (p : Addr) (xs : List V) (i : Nat) (v : V), x = .ref p ∧ y = .int (i : Int) ∧ SqL K H p xs ∧ xs[i]? = some v ∧ Q v H
theorem pget_list : PGet X (rGetL X.K) := by
  intro pins s σ H o i ov iv Q I ro ri h
  obtain ⟨p, xs, k, v, rfl, rfl, hq, hx, q⟩ := h
  cases ro
  obtain ⟨t, rfl⟩ := ri
  obtain ⟨its, r, pl, hz⟩ := I.list hq
  obtain ⟨u, hu, ru⟩ := r.get hx
  have hk : k < xs.length := (List.getElem?_eq_some_iff.mp hx).1
  have hn := line63
  exact wpAny_getItem_list pl.isList (by omega) (by omega) (by rw [Int.toNat_natCast]; simpa using hu) ⟨v, H, I, ru, q⟩
end
end Rs
/-! text R8 -/
set_option Elab.async false
set_option linter.all false
set_option maxRecDepth 100000
set_option maxHeartbeats 4000000
namespace Rs
open PySem PySem.Spec PyProof.Rows L2
def sp_check_scope (K : PySem.W.Frag) : Sp := fun vs H Q _ => match vs with
  | [v, u] => ∃ F sc vars, Same F H ∧ rL K rS F v sc ∧ rD rI F u vars ∧ okScope vars sc ∧ ∀ F' H', Pu F H F' H' → Q .non H'
  | _ => False
theorem sc_check_scope : FnScope ["scope", "sizes", "variable"] ["scope", "sizes"] (defScope s_check_scope) := C8.fnScope_by (by decide +kernel)
theorem c_check_scope {P : Program} {w : World} {K : PySem.W.Frag} {mg : Str → Option Value} {base hp : Heap} (T : Tx K mg hp) : C8.Cal P w K mg base 2 "check_scope" (sp_check_scope K) [] := by
  obtain ⟨fd, F⟩ := T.fd_check_scope
  refine mkCal T.gl_check_scope F sc_check_scope (fun _ _ _ _ _ _ us hl => match us, hl with | [_, _], _ => rfl) (fun vs H Q E h => by unfold sp_check_scope at h; split at h <;> first | rfl | exact h.elim) (fun cdv A outer s H vs Q E hr h => ?_)
  have nd := sc_check_scope.nd
  have hu := hu_of hr
  unfold sp_check_scope at h
  split at h
  case h_2 => exact h.elim
  obtain ⟨F, sc, vars, e, hL, hD, ok, k⟩ := h
  obtain ⟨a, rfl, ha⟩ := rls hL
  obtain ⟨d, kvs, rfl, hd, hk⟩ := id hD
  refine ⟨_, (pss_cons (ps_for PassesOwn.never rfl (pi_list (pv 0)) (pg_name (i := 2) nd rfl (Or.inl rfl)) (pss_one (ps_if (PW.pt (pw_or (pt_not (pt_val (pe_callB call_isi (by rfl) T.fr_isinstance (by decide +kernel) (pa_cons (pv 2) (pa_cons (pe_bltn (v := .ty "str") (u := .type "str") (by rfl) T.fr_str (by decide +kernel) rfl) pa_nil))))) (pw_or1 (pt_cmp (pc_dnotin hu (pv 2) (pv 1)))))) pss_never pss_nil)))
      (pss_one (ps_expr (C8.pe_c (c_check_distinct T) hr (by decide) (by rfl) (pa_cons (pe_callTy call_list_of (by rfl) T.fr_list (by decide +kernel) (pa_cons (pv 0) pa_nil)) pa_nil))))), ?_⟩
  refine ⟨_, rfl, a, rfl, ⟨_, sql_s e ha⟩, for_list (K := K) (a := a) (xs := sc.map V.str) (fun i σ H' => (∃ w, σ = [some (.ref a), some (.ref d), w]) ∧ H' = H) ⟨⟨_, rfl⟩, rfl⟩ (fun i σ H' _ ⟨_, z⟩ => by rw [z]; exact sql_s e ha) ?_ ?_⟩
  · rintro i y σ H' hi ⟨⟨w, rfl⟩, rfl⟩
    obtain ⟨x, hx, rfl⟩ := str_at hi
    obtain ⟨n, hn⟩ := lookup_mem (l := vars) (ok.2.2 x (List.mem_of_getElem? hx))
    obtain ⟨b, u, eb, hg, hu⟩ := dgot e hD hn
    cases eb
    exact ⟨_, rfl, _, _, _, _, _, rfl, .ty _, .base (.str _), ks K, _, rfl, iteF ⟨_, rfl, _, rfl, d, _, rfl, hg, _, rfl, iteF ⟨⟨_, rfl⟩, rfl⟩⟩⟩
  · rintro σ H' ⟨⟨w, rfl⟩, rfl⟩
    refine ⟨_, rfl, a, _, rfl, .inl (sql_s e ha), fun q nq => ?_⟩
    have g : Pu F H' (upd F q (.lst (sc.map V.str))) (upd H' q (.lst (sc.map V.str))) := Gr.new e nq
    exact ⟨_, sc, g.fh, rls_of (SqL.of upd_same), ok.2.1, fun F1 H1 g1 => k _ _ (g.trans g1)⟩
theorem ok_val {vars : List (Str × Int)} {sc : List Str} {t : List Int} (h : okTuple vars sc t) {q : Int × Str} (hq : q ∈ t.zip sc) : ∃ n, vars.lookup q.2 = some n ∧ 0 ≤ q.1 ∧ q.1 < n := by
  obtain ⟨i, hi, e⟩ := List.mem_iff_getElem.mp hq
  rw [List.getElem_zip] at e
  have h1 : i < t.length := by rw [List.length_zip] at hi; omega
  have h2 : i < sc.length := by rw [List.length_zip] at hi; omega
  have := h.2 (sc[i], t[i]) (List.mem_iff_getElem.mpr ⟨i, by rw [List.length_zip]; omega, by rw [List.getElem_zip]⟩)
  rw [← e]
  exact this
theorem zip_at {α β : Type} {as : List α} {bs : List β} {i : Nat} (h : i < min as.length bs.length) : ∃ a b, as[i]? = some a ∧ bs[i]? = some b ∧ (as.zip bs)[i]? = some (a, b) := by
  have h1 : i < as.length := by omega
  have h2 : i < bs.length := by omega
  refine ⟨as[i], bs[i], by simp [h1], by simp [h2], ?_⟩
  rw [List.getElem?_zip_eq_some]
  exact ⟨by simp [h1], by simp [h2]⟩
def sp_are_bad_tuples (K : PySem.W.Frag) : Sp := fun vs H Q _ => match vs with
  | [v, u, z] => ∃ F sc vars ts, Same F H ∧ rL K (rU K rI) F v ts ∧ rL K rS F u sc ∧ rD rI F z vars ∧ okScope vars sc ∧ okTuples vars sc ts ∧ ∀ F' H', Pu F H F' H' → Q (.bl true) H'
  | _ => False
theorem all_true {α : Type} (l : List α) : ((l.filter fun _ => true).map fun _ => true).all id = true := by
  rw [List.all_eq_true]
  intro b hb
  obtain ⟨c, hc, rfl⟩ := List.mem_map.mp hb
  rfl
theorem sc_are_bad_tuples : FnScope ["values", "scope", "sizes", "index", "value", "one", "variable"] ["values", "scope", "sizes"] (defScope s_are_bad_tuples) := C8.fnScope_by (by decide +kernel)
theorem c_are_bad_tuples {P : Program} {w : World} {K : PySem.W.Frag} {mg : Str → Option Value} {base hp : Heap} (T : Tx K mg hp) : C8.Cal P w K mg base 2 "are_bad_tuples" (sp_are_bad_tuples K) [] := by
  obtain ⟨fd, F⟩ := T.fd_are_bad_tuples
  refine mkCal T.gl_are_bad_tuples F sc_are_bad_tuples (fun _ _ _ _ _ _ us hl => match us, hl with | [_, _, _], _ => rfl) (fun vs H Q E h => by unfold sp_are_bad_tuples at h; split at h <;> first | rfl | exact h.elim) (fun cdv A outer s H vs Q E hr h => ?_)
  have nd := sc_are_bad_tuples.nd
  have hu := hu_of hr
  unfold sp_are_bad_tuples at h
  split at h
  case h_2 => exact h.elim
  obtain ⟨F, sc, vars, ts, e, hT, hL, hD, ok, okt, k⟩ := h
  obtain ⟨b, rfl, hb⟩ := rls hL
  obtain ⟨a, xs, rfl, ha, hx⟩ := id hT
  obtain ⟨d, kvs, rfl, hd, hk⟩ := id hD
  refine ⟨_, (pss_cons (ps_for PassesOwn.never rfl (pi_enum (by rfl) T.fr_enumerate (pa_cons (pv 0) pa_nil)) (pg_tup rfl (pgs_cons (pg_name (i := 3) nd rfl (Or.inl rfl)) (pgs_cons (pg_name (i := 4) nd rfl (Or.inl rfl)) pgs_nil))) (pss_cons (ps_if (PW.pt (pw_or (pt_not (pt_val (pe_callB call_isi (by rfl) T.fr_isinstance (by decide +kernel) (pa_cons (pv 4) (pa_cons (pe_bltn (v := .ty "tuple") (u := .type "tuple") (by rfl) T.fr_tuple (by decide +kernel) rfl) pa_nil))))) (pw_or1 (pt_cmpR op_ne (pe_callB call_len_seq (by rfl) T.fr_len (by decide +kernel) (pa_cons (pv 4) pa_nil)) (pe_callB call_len_seq (by rfl) T.fr_len (by decide +kernel) (pa_cons (pv 1) pa_nil)) (nomark _))))) (pss_one (ps_ret pe_bl)) pss_nil)
      (pss_cons (ps_if (pt_not (pt_val (pe_callB (cr_all rfl) (by rfl) T.fr_all (by decide +kernel) (pa_cons (pe_lc (own := [("one", 5), ("variable", 6)]) (g := (gTup K 2 (gCons (gName 5) (gCons (gName 6) gNil)))) rfl nd (pi_zipG (by rfl) T.fr_zip (pa_cons (pv 4) (pa_cons (pv 1) pa_nil))) (blkOk_by (own := [("one", 5), ("variable", 6)]) (N := ["values", "scope", "sizes", "index", "value", "one", "variable"]) (sc := defScope s_are_bad_tuples) (by decide +kernel)) (fun _ _ _ _ _ => (pg_tup rfl (pgs_cons (pg_name (i := 5) nd rfl (Or.inl rfl)) (pgs_cons (pg_name (i := 6) nd rfl (Or.inl rfl)) pgs_nil)))) (fun _ _ _ _ _ => pts_nil) (fun _ _ _ _ _ => (C8.pe_c (c_is_integer T) hr (by decide) (by rfl) (pa_cons (pv 5) (pa_cons pe_int (pa_cons (pe_op op_sub (pe_dget hu (pv 2) (pv 6) (fun _ _ => rfl)) pe_int) pa_nil)))))) pa_nil)))) (pss_one (ps_ret pe_bl)) pss_nil)
      (pss_one (ps_if (pt_cmpR (op_inD (huD_of hr)) (pv 4) (pe_slice sl_list (pv 0) po_none (po_some (pv 3))) rfl) (pss_one (ps_ret pe_bl)) pss_nil)))))
      (pss_one (ps_ret pe_bl))), ?_⟩
  refine ⟨_, rfl, a, _, rfl, sql_s e ha, ?_⟩
  refine for_it (walk_enum (K := K) (a := a) (xs := xs)) (fun i σ H' => ∃ F' w0 w1 w2 w3, σ = [some (.ref a), some (.ref b), some (.ref d), w0, w1, w2, w3] ∧ Pu F H F' H') ⟨F, _, _, _, _, rfl, Gr.refl e⟩ (fun i σ H' _ ⟨F', _, _, _, _, _, g⟩ => sql_s g.fh (sql_s g.f ha)) ?_ ?_
  · rintro i y σ H1 H2 hi ⟨F1, w0, w1, w2, w3, rfl, g⟩ ⟨T', x1, x2, rfl, nT, rfl, hx1, hx2⟩
    cases hx1
    obtain ⟨t, ht, hxt⟩ := hx.get hx2
    have okt1 := okt.2.2 t (List.mem_of_getElem? ht)
    have g2 := g.trans (Gr.newm (o := .tup [.int (i : Nat), x2]) g.fh nT)
    obtain ⟨c, us, rfl, hc, hcu⟩ := Up.up g2.f hxt
    rw [all2_int hcu] at hc
    have hc' := sqt_s g2.fh hc
    refine ⟨T', [_, _], rfl, SqT.of upd_same, rfl, _, [_], rfl, _, [], rfl, rfl, ?_⟩
    refine ⟨_, rfl, _, _, _, _, _, rfl, .ty _, tyx_t hc', kt K, _, rfl, iteF ⟨_, rfl, c, _, rfl, .inr hc', _, rfl, b, _, rfl, .inl (sql_s g2.fh (sql_s g2.f hb)), rfl, _, rfl, iteYn (by rw [List.length_map, List.length_map, okt1.1]) ?_⟩⟩
    refine ⟨_, rfl, _, rfl, .t c, .l b, _, _, rfl, hc', sql_s g2.fh (sql_s g2.f hb), trivial, trivial, ?_⟩
    refine lcP (K := K) (RA := rI) (RC := rS) (R := rB) (walk_zipG (K := K) (z1 := .t c) (z2 := .l b) (xs := t.map V.int) (ys := sc.map V.str) rfl) (t.zip sc) (fun _ => true) (fun _ => true) g2.fh (by rw [List.length_zip, List.length_map, List.length_map]) (by rw [List.length_map, List.length_map]; have := ok.1.2; omega) (fun F3 H3 g3 => ⟨sqt_s g3.fh (sqt_s g3.f hc), sql_s g3.fh (sql_s (g2.trans g3).f hb)⟩) ?_ ?_ ?_ ?_
    · intro i x hi he
      obtain ⟨p, q, h1, h2, h3⟩ := zip_at (as := t) (bs := sc) (i := i) (by rw [List.length_map, List.length_map] at hi; exact hi)
      rw [List.getElem?_map, h1] at he
      cases he
      exact ⟨_, h3, rfl⟩
    · intro i x hi he
      obtain ⟨p, q, h1, h2, h3⟩ := zip_at (as := t) (bs := sc) (i := i) (by rw [List.length_map, List.length_map] at hi; exact hi)
      rw [List.getElem?_map, h2] at he
      cases he
      exact ⟨_, h3, rfl⟩
    · intro q T x y F3 H3 hq g3 hT rx ry Kt Kf h1 h2
      cases rx
      cases ry
      obtain ⟨n, hn, n0, n1⟩ := ok_val okt1 hq
      have gg := g2.trans g3
      obtain ⟨b', u, eb, hg, hu⟩ := dgot gg.fh (Up.up gg.f hD) hn
      cases eb
      cases hu
      refine ⟨T, _, rfl, SqT.of (g3.fh _ _ hT), rfl, _, _, rfl, _, _, rfl, rfl, rfl, _, rfl, _, rfl, _, rfl, d, _, rfl, hg, _, _, rfl, rfl, _, _, _, rfl, rfl, rfl, ?_⟩
      rw [decide_eq_true n0, decide_eq_true (show q.1 ≤ n - 1 by omega)]
      exact h1 rfl _ F3 H3 (Gr.refl g3.fh) rfl
    · intro D F3 H3 g3 hD3
      obtain ⟨dd, ed, hd3⟩ := rlb hD3
      cases ed
      refine ⟨D, _, rfl, sql_s g3.fh hd3, _, rfl, ?_⟩
      rw [all_true]
      have gg := g2.trans g3
      refine iteF ⟨_, rfl, _, rfl, _, rfl, _, rfl, a, _, rfl, sql_s gg.fh (sql_s gg.f ha), fun p np => ?_⟩
      have hlen : i ≤ xs.length := Nat.le_of_lt hi
      rw [cut_to hlen]
      have g4 : Pu F3 H3 (upd F3 p (.lst (xs.take i))) (upd H3 p (.lst (xs.take i))) := Gr.new gg.fh np
      refine inD (a := t) (l := ts.take i) (encT (K := K)) (by decide) g4.fh (Up.up (g3.trans g4).f ⟨c, _, rfl, hc, int_all2 t⟩) ⟨p, _, rfl, SqL.of upd_same, (hx.up (gg.trans g4).f).take i⟩ trivial (fun _ _ => trivial) fun r hr => ⟨_, rfl, ?_⟩
      cases r with
      | false => exact iteF ⟨_, _, _, _, _, rfl, gg.trans g4⟩
      | true =>
        obtain ⟨j, hj, ej⟩ := List.mem_iff_getElem.mp (hr.mp rfl)
        rw [List.getElem_take] at ej
        rw [List.length_take] at hj
        obtain ⟨hi2, ei⟩ := List.getElem?_eq_some_iff.mp ht
        have := (List.getElem_inj okt.2.1).mp (ej.trans ei.symm)
        omega
  · rintro σ H' ⟨F', w0, w1, w2, w3, rfl, g⟩
    exact k _ _ g
def sp_check_events (K : PySem.W.Frag) : Sp := fun vs H Q _ => match vs with
  | [v, u] => ∃ F evs vars, Same F H ∧ rL K (rEv K) F v evs ∧ rD rI F u vars ∧ PD.Ok ⟨vars, evs⟩ ∧ ∀ F' H', Pu F H F' H' → Q .non H'
  | _ => False
theorem sc_check_events : FnScope ["events", "sizes", "seen", "name", "scope", "bad_tuples", "row"] ["events", "sizes"] (defScope s_check_events) := C8.fnScope_by (by decide +kernel)
theorem c_check_events {P : Program} {w : World} {K : PySem.W.Frag} {mg : Str → Option Value} {base hp : Heap} (T : Tx K mg hp) : C8.Cal P w K mg base 3 "check_events" (sp_check_events K) [] := by
  obtain ⟨fd, F⟩ := T.fd_check_events
  refine mkCal T.gl_check_events F sc_check_events (fun _ _ _ _ _ _ us hl => match us, hl with | [_, _], _ => rfl) (fun vs H Q E h => by unfold sp_check_events at h; split at h <;> first | rfl | exact h.elim) (fun cdv A outer s H vs Q E hr h => ?_)
  have nd := sc_check_events.nd
  have hu := hu_of hr
  unfold sp_check_events at h
  split at h
  case h_2 => exact h.elim
  obtain ⟨F, evs, vars, e, hL, hD, ok, k⟩ := h
  obtain ⟨a, xs, rfl, ha, hx⟩ := id hL
  obtain ⟨d, kvs, rfl, hd, hk⟩ := id hD
  refine ⟨_, (pss_cons (ps_if (PW.pt (pw_or (pt_not (pt_val (C8.pe_c (c_is_list T) hr (by decide) (by rfl) (pa_cons (pv 0) pa_nil)))) (pw_or (pt_cmpR op_gt (pe_callB call_len_seq (by rfl) T.fr_len (by decide +kernel) (pa_cons (pv 0) pa_nil)) (C8.pe_gc (by rfl) T.k_MOST_EVENTS) (nomark _)) (pw_or1 (pt_not (pt_val (pe_callB (cr_all rfl) (by rfl) T.fr_all (by decide +kernel) (pa_cons (pe_lc (own := [("row", 6)]) (g := (gName 6)) rfl nd (pi_list (pv 0)) (blkOk_by (own := [("row", 6)]) (N := ["events", "sizes", "seen", "name", "scope", "bad_tuples", "row"]) (sc := defScope s_check_events) (by decide +kernel)) (fun _ _ _ _ _ => (pg_name (i := 6) nd rfl (Or.inl rfl))) (fun _ _ _ _ _ => pts_nil) (fun _ _ _ _ _ => (C8.pe_c (c_is_event_row T) hr (by decide) (by rfl) (pa_cons (pv 6) pa_nil)))) pa_nil)))))))) pss_never pss_nil)
      (pss_cons (ps_set (i := 2) nd rfl (Or.inl rfl) (pe_lst pa_nil))
      (pss_one (ps_for PassesOwn.never rfl (pi_list (pv 0)) (pg_tup rfl (pgs_cons (pg_name (i := 3) nd rfl (Or.inl rfl)) (pgs_cons (pg_name (i := 4) nd rfl (Or.inl rfl)) (pgs_cons (pg_name (i := 5) nd rfl (Or.inl rfl)) pgs_nil)))) (pss_cons (ps_if (pt_cmpR (op_in_seqK (K := K) rfl) (pv 3) (pv 2) rfl) pss_never pss_nil)
      (pss_cons (ps_expr (pe_bm PySem.F.plainAttrs_list PySem.F.slot_list_append PySem.F.type_list_append mt_append (pv 2) (pa_cons (pv 3) pa_nil)))
      (pss_cons (ps_expr (C8.pe_c (c_check_scope T) hr (by decide) (by rfl) (pa_cons (pv 4) (pa_cons (pv 1) pa_nil))))
      (pss_one (ps_if (pt_not (pt_val (C8.pe_c (c_are_bad_tuples T) hr (by decide) (by rfl) (pa_cons (pv 5) (pa_cons (pv 4) (pa_cons (pv 1) pa_nil)))))) pss_never pss_nil))))))))), ?_⟩
  have el : xs.length = evs.length := hx.length
  have e8 : evs.length ≤ 8 := ok.n8
  refine ⟨_, rfl, F, a, _, rfl, e, sql_s e ha, fun F1 H1 g1 => ⟨_, rfl, iteF ⟨_, rfl, a, _, rfl, .inl (sql_s g1.fh (sql_s g1.f ha)), _, _, rfl, rfl, _, rfl, iteN (by omega) ⟨_, rfl, a, rfl, ⟨_, sql_s g1.fh (sql_s g1.f ha)⟩, ?_⟩⟩⟩⟩
  refine lcL (K := K) (RA := rEv K) (R := rB) (f := fun _ => true) (p := fun _ => true) g1.fh (sql_s g1.f ha) (hx.up g1.x) (by omega) (fun y v F2 H2 hy g hv Kt Kf h1 h2 => ?_) (fun D F2 H2 g2 hD2 => ?_)
  · have o1 := ok.en y hy
    have o2 := ok.sc y hy
    have o3 := ok.tp y hy
    exact ⟨rfl, _, rfl, F2, y, g.fh, hv, o1, o2.1.1, o2.1.2, o3.1, fun F3 H3 g3 => h1 rfl _ F3 H3 g3 rfl⟩
  · obtain ⟨dd, ed, hd2⟩ := rlb hD2
    cases ed
    refine ⟨D, _, rfl, sql_s g2.fh hd2, _, rfl, ?_⟩
    rw [all_true]
    have g3 := g1.trans g2
    refine iteF ⟨Nat.zero_le _, fun sn nsn => ?_⟩
    have g4 : Pu F H F2 (upd H2 sn (.lst [])) := g3.trans (Gr.newm g3.fh nsn)
    have n0 : H sn = none := g3.dom _ nsn
    refine ⟨_, rfl, a, rfl, ⟨_, sql_s g4.fh (sql_s g4.f ha)⟩, for_list (K := K) (a := a) (xs := xs) (fun i σ H' => ∃ F' w0 w1 w2, σ = [some (.ref a), some (.ref d), some (.ref sn), w0, w1, w2, none] ∧ Pu F H F' H' ∧ Mt F' H' sn (.lst (((evs.take i).map (·.1)).map V.str))) ⟨F2, _, _, _, rfl, g4, Mt.new g3.fh nsn⟩ (fun i σ H' _ ⟨F', _, _, _, _, g, _⟩ => sql_s g.fh (sql_s g.f ha)) ?_ ?_⟩
    · rintro i y σ H' hi ⟨F', w0, w1, w2, rfl, g, m⟩
      obtain ⟨⟨nm, sc, bad⟩, he, hy⟩ := hx.get hi
      have hmem := List.mem_of_getElem? he
      have o2 := ok.sc _ hmem
      have o3 := ok.tp _ hmem
      obtain ⟨c, v0, v1, v2, rfl, hc, hn, hs, hb⟩ := Up.up g.f hy
      cases hn
      refine ⟨c, _, rfl, sqt_s g.fh hc, rfl, _, _, rfl, _, _, rfl, _, _, rfl, rfl, ?_⟩
      refine ⟨_, rfl, _, rfl, sn, _, rfl, .inl (SqL.of m.h), rfl, flat_strs _, _, rfl, ?_⟩
      have nn : nm ∉ (evs.take i).map (·.1) := by
        intro hm
        obtain ⟨j, hj, ej⟩ := List.mem_iff_getElem.mp hm
        rw [List.getElem_map, List.getElem_take] at ej
        rw [List.length_map, List.length_take] at hj
        obtain ⟨hi2, ei⟩ := List.getElem?_eq_some_iff.mp he
        have h1 : (evs.map (·.1))[j]'(by rw [List.length_map]; omega) = (evs.map (·.1))[i]'(by rw [List.length_map]; omega) := by
          rw [List.getElem_map, List.getElem_map, ei]
          exact ej
        have := (List.getElem_inj ok.nd).mp h1
        omega
      rw [inv_str, decide_eq_false nn]
      have hlen : (((evs.take i).map (·.1)).map V.str).length < sizeLine := lt_line (by rw [List.length_map, List.length_map, List.length_take]; omega)
      refine iteF ⟨_, rfl, .inl ⟨rfl, _, SqL.of m.h⟩, _, rfl, sn, _, _, rfl, rfl, m.h, hlen, ?_⟩
      have m2 := m.set (u := .lst (((evs.take i).map (·.1)).map V.str ++ [.str nm]))
      have g5 := g.mut (o := .lst (((evs.take i).map (·.1)).map V.str ++ [.str nm])) m.n n0
      refine ⟨_, rfl, _, rfl, F', sc, vars, g5.fh, hs, Up.up g.f hD, o2, fun F2 H2 g6 => ?_⟩
      refine ⟨_, rfl, _, rfl, _, rfl, F2, sc, vars, bad, g6.fh, Up.up g6.f hb, Up.up g6.f hs, Up.up (g5.trans g6).f hD, o2, o3, fun F3 H3 g7 => ⟨_, rfl, iteF ⟨F3, _, _, _, rfl, (g5.trans g6).trans g7, ?_⟩⟩⟩
      have e1 : ((evs.take (i + 1)).map (·.1)).map V.str = ((evs.take i).map (·.1)).map V.str ++ [.str nm] := by
        rw [List.take_succ, he]
        simp
      rw [e1]
      exact (m2.pu g6).pu g7
    · rintro σ H' ⟨F', w0, w1, w2, rfl, g, m⟩
      exact k _ _ g
end Rs
/-! text R9 -/
set_option Elab.async false
set_option linter.all false
set_option maxRecDepth 100000
set_option maxHeartbeats 4000000
namespace Rs
open PySem PySem.Spec PyProof.Rows L2
/-! ### a problem is made -/
theorem pairs_of2 {K : PySem.W.Frag} {α : Type} {R : Rep α} {F : Hp} : ∀ {xs : List V} {l : List (Str × α)}, All2 (r2 K rS R) F xs l → ∃ (ps : List Addr) (kvs : List (Key × V)), xs = ps.map V.ref ∧ Paired (fun p kv => SqT K F p [kV kv.1, kv.2]) ps kvs ∧ AllD R F kvs l
  | _, _, Paired.nil => ⟨[], [], rfl, Paired.nil, Paired.nil⟩
  | _, _, Paired.cons (b := q) ⟨a, x, y, hv, h1, h2, h3⟩ t => by
    obtain ⟨ps, kvs, e1, e2, e3⟩ := pairs_of2 t
    cases h2
    exact ⟨a :: ps, (Sum.inr q.1, y) :: kvs, by rw [hv, e1]; rfl, Paired.cons h1 e2, Paired.cons ⟨rfl, h3⟩ e3⟩
theorem merge_nd {α : Type} {R : Rep α} {F : Hp} : ∀ {acc kvs : List (Key × V)} {m l : List (Str × α)}, AllD R F acc m → AllD R F kvs l → ((m ++ l).map (·.1)).Nodup → mergeK acc kvs = acc ++ kvs
  | acc, [], m, [], ha, Paired.nil, _ => by rw [List.append_nil]; rfl
  | acc, kv :: kvs, m, q :: l, ha, Paired.cons r t, hn => by
    have hq : q.1 ∉ m.map (·.1) := by
      intro hm
      rw [List.map_append, List.map_cons, List.nodup_append] at hn
      exact hn.2.2 q.1 hm q.1 (List.mem_cons_self ..) rfl
    have hv := valV_all ha hq
    obtain ⟨k, v⟩ := kv
    obtain ⟨rk, rv⟩ := r
    have rk : k = Sum.inr q.1 := rk
    subst rk
    show mergeK (putK acc (Sum.inr q.1) v) kvs = _
    rw [putK_new _ hv]
    have h2 : AllD R F (acc ++ [(Sum.inr q.1, v)]) (m ++ [q]) := Paired.snoc ha ⟨rfl, rv⟩
    rw [merge_nd h2 t (by rw [List.append_assoc]; exact hn), List.append_assoc]
    rfl
theorem all2_perm {α : Type} {R : Rep α} {F : Hp} {xs ys : List V} (h : ys.Perm xs) : ∀ {l : List α}, All2 R F xs l → ∃ l' : List α, l'.Perm l ∧ All2 R F ys l' := by
  induction h with
  | nil => intro l h; exact ⟨l, List.Perm.refl _, h⟩
  | cons x _ ih =>
    intro l h
    cases h with
    | cons r t =>
      obtain ⟨l', p, q⟩ := ih t
      exact ⟨_ :: l', p.cons _, Paired.cons r q⟩
  | swap x y t =>
    intro l h
    cases h with
    | cons r h => cases h with
      | cons r2 t => exact ⟨_, List.Perm.swap _ _ _, Paired.cons r2 (Paired.cons r t)⟩
  | trans _ _ ih1 ih2 =>
    intro l h
    obtain ⟨l2, p2, q2⟩ := ih2 h
    obtain ⟨l1, p1, q1⟩ := ih1 q2
    exact ⟨l1, p1.trans p2, q1⟩
/-- the same events, the bad tuples of each in another order -/
abbrev Srt (a b : List (Str × List Str × List (List Int))) : Prop := Paired (fun e e' => e'.1 = e.1 ∧ e'.2.1 = e.2.1 ∧ e'.2.2.Perm e.2.2) a b
theorem Srt.names : ∀ {a b : List (Str × List Str × List (List Int))}, Srt a b → b.map (·.1) = a.map (·.1)
  | _, _, Paired.nil => rfl
  | _, _, Paired.cons r t => by rw [List.map_cons, List.map_cons, r.1, Srt.names t]
theorem Srt.scopes : ∀ {a b : List (Str × List Str × List (List Int))}, Srt a b → (b.map fun e => (e.1, e.2.1)) = a.map fun e => (e.1, e.2.1)
  | _, _, Paired.nil => rfl
  | _, _, Paired.cons r t => by rw [List.map_cons, List.map_cons, r.1, r.2.1, Srt.scopes t]
theorem Srt.mem : ∀ {a b : List (Str × List Str × List (List Int))}, Srt a b → ∀ e' ∈ b, ∃ e ∈ a, e'.1 = e.1 ∧ e'.2.1 = e.2.1 ∧ e'.2.2.Perm e.2.2
  | _, _, Paired.nil, _, h => by cases h
  | _, _, Paired.cons (a := x) (b := y) r t, e', h => by
    rcases List.mem_cons.mp h with rfl | h
    · exact ⟨x, List.mem_cons_self .., r⟩
    · obtain ⟨e, h1, h2⟩ := Srt.mem t e' h
      exact ⟨e, List.mem_cons_of_mem _ h1, h2⟩
theorem Srt.ok {vars : List (Str × Int)} {a b : List (Str × List Str × List (List Int))} (s : Srt a b) (ok : PD.Ok ⟨vars, a⟩) : PD.Ok ⟨vars, b⟩ where
  v := ok.v
  n8 := by
    have h1 : a.length = b.length := Paired.length s
    have h2 : a.length ≤ 8 := ok.n8
    show b.length ≤ 8
    omega
  en := fun e' h => by
    obtain ⟨e, h1, h2, _⟩ := s.mem e' h
    rw [h2]
    exact ok.en e h1
  nd := by
    show (b.map (·.1)).Nodup
    rw [s.names]
    exact ok.nd
  sc := fun e' h => by
    obtain ⟨e, h1, h2, h3, _⟩ := s.mem e' h
    rw [h3]
    exact ok.sc e h1
  tp := fun e' h => by
    obtain ⟨e, h1, h2, h3, h4⟩ := s.mem e' h
    have o := ok.tp e h1
    refine ⟨by rw [h4.length_eq]; exact o.1, h4.nodup_iff.mpr o.2.1, fun t ht => ?_⟩
    rw [h3]
    exact o.2.2 t (h4.mem_iff.mp ht)
theorem ok_mem {vars : List (Str × Int)} {sc : List Str} {t : List Int} (h : okTuple vars sc t) {m : Int} (hm : m ∈ t) : ∃ n, (∃ x, vars.lookup x = some n) ∧ 0 ≤ m ∧ m < n := by
  obtain ⟨i, hi, rfl⟩ := List.mem_iff_getElem.mp hm
  have h2 : i < sc.length := by rw [← h.1]; exact hi
  obtain ⟨n, h3, h4⟩ := h.2 (sc[i], t[i]) (List.mem_iff_getElem.mpr ⟨i, by rw [List.length_zip]; omega, by rw [List.getElem_zip]⟩)
  exact ⟨n, ⟨_, h3⟩, h4⟩
/-- bad tuples in any order -/
def rTs (K : PySem.W.Frag) : Rep (List (List Int)) := fun F v ts => ∃ ts', ts'.Perm ts ∧ rL K (rU K rI) F v ts'
instance {K : PySem.W.Frag} : Up (rTs K) := ⟨fun e ⟨ts', h1, h2⟩ => ⟨ts', h1, Up.up e h2⟩⟩
theorem srt_of {K : PySem.W.Frag} {F : Hp} : ∀ {kvs : List (Key × V)} {evs : List (Str × List Str × List (List Int))}, AllD (rTs K) F kvs (evs.map fun e => (e.1, e.2.2)) → ∃ evs', Srt evs evs' ∧ AllD (rL K (rU K rI)) F kvs (evs'.map fun e => (e.1, e.2.2))
  | [], [], _ => ⟨[], Paired.nil, Paired.nil⟩
  | kv :: kvs, [], h => by cases h
  | [], e :: evs, h => by cases h
  | kv :: kvs, e :: evs, h => by
    cases h with
    | cons r t =>
      obtain ⟨evs', h1, h2⟩ := srt_of t
      obtain ⟨r1, ts', r2, r3⟩ := r
      exact ⟨(e.1, e.2.1, ts') :: evs', Paired.cons ⟨rfl, rfl, r2⟩ h1, Paired.cons ⟨r1, r3⟩ h2⟩
def sp_Problem (K : PySem.W.Frag) : Sp := fun vs H Q _ => match vs with
  | [u, v, z] => ∃ H1 F p dx vars evs, u = .ref p ∧ H = upd (upd H1 dx (.own p)) p (.ins (a_Problem K) dx []) ∧ H1 p = none ∧ H1 dx = none ∧ dx ≠ p ∧ Same F H1 ∧ rL K (r2 K rS rI) F v vars ∧ rL K (rEv K) F z evs ∧ PD.Ok ⟨vars, evs⟩ ∧
      ∀ F' H' evs', Pu F H1 F' H' → Srt evs evs' → rP K F' (.ref p) ⟨vars, evs'⟩ → Q .non H'
  | _ => False
theorem put1 {d1 : Addr} : putF ("size_by_name" : Str) (.ref d1) ([] : List (Str × V)) = ([(("size_by_name" : Str), V.ref d1)] : List (Str × V)) := rfl
theorem put2 {d1 d2 : Addr} : putF ("scope_by_event" : Str) (.ref d2) ([(("size_by_name" : Str), V.ref d1)] : List (Str × V)) = ([(("size_by_name" : Str), V.ref d1), (("scope_by_event" : Str), V.ref d2)] : List (Str × V)) := by
  rw [putF_ne (fun z => n12_ z.symm), putF_nil]
theorem put3 {d1 d2 d3 : Addr} : putF ("tuples_by_event" : Str) (.ref d3) ([(("size_by_name" : Str), V.ref d1), (("scope_by_event" : Str), V.ref d2)] : List (Str × V)) = pfs d1 d2 d3 := by
  rw [putF_ne (fun z => n13_ z.symm), putF_ne (fun z => n23_ z.symm), putF_nil]
  rfl
theorem sc_Problem_init : FnScope ["self", "variables", "events", "name", "scope", "bad_tuples"] ["self", "variables", "events"] (defScope s_Problem_init) := C8.fnScope_by (by decide +kernel)
theorem b_Problem {P : Program} {w : World} {K : PySem.W.Frag} {mg : Str → Option Value} {base hp : Heap} (T : Tx K mg hp) : Body P w K mg base ["self", "variables", "events", "name", "scope", "bad_tuples"] "Problem.__init__" s_Problem_init (He.ma K (He.ga K "Problem") "__init__") 3 (sp_Problem K) := by
  intro cdv A outer s H vs Q E hr h
  have nd := sc_Problem_init.nd
  have hu := hu_of hr
  unfold sp_Problem at h
  split at h
  case h_2 => exact h.elim
  obtain ⟨H1, F, p, dx, vars, evs, rfl, rfl, np, ndx, ne, e, hV, hE, ok, k⟩ := h
  refine ⟨_, (pss_cons (ps_expr (C8.pe_c (c_check_variables T) hr (by decide) (by rfl) (pa_cons (pv 1) pa_nil)))
      (pss_cons (ps_fld (pv 0) (pe_callTy (call_dictP rfl) (by rfl) T.fr_dict (by decide +kernel) (pa_cons (pv 1) pa_nil)) rfl)
      (pss_cons (ps_expr (C8.pe_c (c_check_events T) hr (by decide) (by rfl) (pa_cons (pv 2) (pa_cons (pe_fld (pv 0) rfl) pa_nil))))
      (pss_cons (ps_fld (pv 0) (pe_dc (own := [("name", 3), ("scope", 4), ("bad_tuples", 5)]) (g := (gTup K 3 (gCons (gName 3) (gCons (gName 4) (gCons (gName 5) gNil))))) rfl nd (pi_list (pv 2)) (blkOk_by (own := [("name", 3), ("scope", 4), ("bad_tuples", 5)]) (N := ["self", "variables", "events", "name", "scope", "bad_tuples"]) (sc := defScope s_Problem_init) (by decide +kernel)) (fun _ _ _ _ _ => (pg_tup rfl (pgs_cons (pg_name (i := 3) nd rfl (Or.inl rfl)) (pgs_cons (pg_name (i := 4) nd rfl (Or.inl rfl)) (pgs_cons (pg_name (i := 5) nd rfl (Or.inl rfl)) pgs_nil))))) (fun _ _ _ _ _ => pts_nil) (fun _ _ _ _ _ => (pv 3)) (fun _ _ _ _ _ => (pe_callTy (call_list_ofK (K := K) rfl) (by rfl) T.fr_list (by decide +kernel) (pa_cons (pv 4) pa_nil)))) rfl)
      (pss_one (ps_fld (pv 0) (pe_dc (own := [("name", 3), ("scope", 4), ("bad_tuples", 5)]) (g := (gTup K 3 (gCons (gName 3) (gCons (gName 4) (gCons (gName 5) gNil))))) rfl nd (pi_list (pv 2)) (blkOk_by (own := [("name", 3), ("scope", 4), ("bad_tuples", 5)]) (N := ["self", "variables", "events", "name", "scope", "bad_tuples"]) (sc := defScope s_Problem_init) (by decide +kernel)) (fun _ _ _ _ _ => (pg_tup rfl (pgs_cons (pg_name (i := 3) nd rfl (Or.inl rfl)) (pgs_cons (pg_name (i := 4) nd rfl (Or.inl rfl)) (pgs_cons (pg_name (i := 5) nd rfl (Or.inl rfl)) pgs_nil))))) (fun _ _ _ _ _ => pts_nil) (fun _ _ _ _ _ => (pv 3)) (fun _ _ _ _ _ => (pe_callB (sortedXK (K := K) rfl) (by rfl) T.fr_sorted (by decide +kernel) (pa_cons (pv 5) pa_nil)))) rfl)))))), ?_⟩
  obtain ⟨av, xv, rfl, hav, hxv⟩ := id hV
  obtain ⟨ae, xe, rfl, hae, hxe⟩ := id hE
  have g0 : Pu F H1 F (upd (upd H1 dx (.own p)) p (.ins (a_Problem K) dx [])) := (Gr.newm e ndx).trans (Gr.newm (e.trans (upd_new ndx)) (by rw [upd_ne ne.symm]; exact np))
  have m0 : Mt F (upd (upd H1 dx (.own p)) p (.ins (a_Problem K) dx [])) p (.ins (a_Problem K) dx []) := ⟨e.free np, upd_same⟩
  have o0 : Mt F (upd (upd H1 dx (.own p)) p (.ins (a_Problem K) dx [])) dx (.own p) := ⟨e.free ndx, by rw [upd_ne ne]; exact upd_same⟩
  refine ⟨_, rfl, F, vars, g0.fh, hV, ok.v, fun F1 H2 g1 => ?_⟩
  have g01 := g0.trans g1
  obtain ⟨ps, kvs, rfl, hp2, hD⟩ := pairs_of2 (hxv.up g01.f)
  have hm : mergeK [] kvs = kvs := merge_nd (m := []) Paired.nil hD ok.v.2.2
  refine ⟨_, rfl, av, ps, kvs, rfl, sql_s g1.fh (sql_s g1.f hav), Paired.mapP hp2 (fun _ _ q => sqt_s g1.fh q), fun d1 nd1 => ?_⟩
  rw [hm]
  have g2 : Pu F1 H2 (upd F1 d1 (.dK kvs)) (upd H2 d1 (.dK kvs)) := Gr.new g1.fh nd1
  have m1 := (m0.pu g1).pu g2
  have o1 := (o0.pu g1).pu g2
  have npd : dx ≠ p := ne
  refine ⟨_, rfl, p, _, dx, _, rfl, m1.h, T.cl_Problem, T.na_Problem_size_by_name, (by show 0 < 1000; decide), ?_⟩
  have g3 : Pu F H1 (upd F1 d1 (.dK kvs)) (upd (upd H2 d1 (.dK kvs)) p (.ins (a_Problem K) dx ([(("size_by_name" : Str), V.ref d1)] : List (Str × V)))) := (g01.trans g2).mut m1.n np
  have m2 : Mt (upd F1 d1 (.dK kvs)) (upd (upd H2 d1 (.dK kvs)) p (.ins (a_Problem K) dx ([(("size_by_name" : Str), V.ref d1)] : List (Str × V)))) p (.ins (a_Problem K) dx ([(("size_by_name" : Str), V.ref d1)] : List (Str × V))) := m1.set
  have o2 : Mt (upd F1 d1 (.dK kvs)) (upd (upd H2 d1 (.dK kvs)) p (.ins (a_Problem K) dx ([(("size_by_name" : Str), V.ref d1)] : List (Str × V)))) dx (.own p) := o1.other ne
  have f1 : (upd F1 d1 (.dK kvs)) d1 = some (.dK kvs) := upd_same
  have D1 : rD rI (upd F1 d1 (.dK kvs)) (.ref d1) vars := ⟨d1, kvs, rfl, .inl f1, hD.up g2.f⟩
  refine ⟨_, rfl, _, rfl, p, _, dx, _, _, rfl, m2.h, T.cl_Problem, T.na_Problem_size_by_name, lk0, _, evs, vars, g3.fh, Up.up g3.f hE, D1, ok, fun F3 H5 g4 => ?_⟩
  have g5 := g3.trans g4
  have el : xe.length = evs.length := hxe.length
  have e8 : evs.length ≤ 8 := ok.n8
  have hsq : ∀ {F' H'}, Pu F3 H5 F' H' → SqL K H' ae xe := fun g => sql_s g.fh (sql_s (g5.trans g).f hae)
  have src : ∀ (i : Nat) (x : V) (F' H' H'' : Hp), i < xe.length → Pu F3 H5 F' H' → YAt xe i H' x H'' → ∃ y F'', evs[i]? = some y ∧ Pu F' H' F'' H'' ∧ rEv K F'' x y := by
    rintro i x F' H' H'' hi g ⟨rfl, hx⟩
    obtain ⟨y, h1, h2⟩ := hxe.get hx
    exact ⟨y, F', h1, Gr.refl g.fh, Up.up (g5.trans g).f h2⟩
  refine ⟨_, rfl, ae, rfl, ⟨_, hsq (Gr.refl g5.fh)⟩, ?_⟩
  refine dcW (K := K) (RA := rEv K) (R := rL K rS) (walk_list (K := K) (a := ae) (xs := xe)) evs (fun e => e.1) (fun e => e.2.1) g5.fh el (by omega) ok.nd (fun F' H' g => hsq g) src (fun y v F' H' hy g hv Kt h1 => ?_) (fun d2 F4 H6 kvs2 g6 nd2 nf2 h6 a6 => ?_)
  · obtain ⟨c, v0, v1, v2, rfl, hc, hn, hs, hb⟩ := hv
    cases hn
    obtain ⟨b, rfl, hb1⟩ := rls hs
    exact ⟨c, _, rfl, sqt_s g.fh hc, rfl, _, _, rfl, _, _, rfl, _, _, rfl, rfl, rfl, _, rfl, _, rfl, b, _, rfl, .inl (sql_s g.fh hb1), fun q nq => h1 _ _ _ (Gr.new g.fh nq) (rls_of (SqL.of upd_same))⟩
  have g7 : Pu F3 H5 (upd F4 d2 (.dK kvs2)) H6 := g6.frz nf2 nd2 h6
  have m3 := (m2.pu g4).pu g7
  have o3 := (o2.pu g4).pu g7
  refine ⟨_, rfl, p, _, dx, _, rfl, m3.h, T.cl_Problem, T.na_Problem_scope_by_event, (by show 1 < 1000; decide), ?_⟩
  rw [put2]
  have g8 : Pu F H1 (upd F4 d2 (.dK kvs2)) (upd H6 p (.ins (a_Problem K) dx ([(("size_by_name" : Str), V.ref d1), (("scope_by_event" : Str), V.ref d2)] : List (Str × V)))) := (g5.trans g7).mut m3.n np
  have m4 : Mt (upd F4 d2 (.dK kvs2)) (upd H6 p (.ins (a_Problem K) dx ([(("size_by_name" : Str), V.ref d1), (("scope_by_event" : Str), V.ref d2)] : List (Str × V)))) p (.ins (a_Problem K) dx ([(("size_by_name" : Str), V.ref d1), (("scope_by_event" : Str), V.ref d2)] : List (Str × V))) := m3.set
  have o4 : Mt (upd F4 d2 (.dK kvs2)) (upd H6 p (.ins (a_Problem K) dx ([(("size_by_name" : Str), V.ref d1), (("scope_by_event" : Str), V.ref d2)] : List (Str × V)))) dx (.own p) := o3.other ne
  have g34 : Same F3 (upd F4 d2 (.dK kvs2)) := g7.f
  have f2 : (upd F4 d2 (.dK kvs2)) d2 = some (.dK kvs2) := upd_same
  have a6' : AllD (rL K rS) (upd F4 d2 (.dK kvs2)) kvs2 (evs.map fun e => (e.1, e.2.1)) := a6.up (upd_new nf2)
  have hsq' : ∀ {F' H'}, Pu (upd F4 d2 (.dK kvs2)) (upd H6 p (.ins (a_Problem K) dx ([(("size_by_name" : Str), V.ref d1), (("scope_by_event" : Str), V.ref d2)] : List (Str × V)))) F' H' → SqL K H' ae xe := fun g => sql_s g.fh (sql_s (g8.trans g).f hae)
  have src' : ∀ (i : Nat) (x : V) (F' H' H'' : Hp), i < xe.length → Pu (upd F4 d2 (.dK kvs2)) (upd H6 p (.ins (a_Problem K) dx ([(("size_by_name" : Str), V.ref d1), (("scope_by_event" : Str), V.ref d2)] : List (Str × V)))) F' H' → YAt xe i H' x H'' → ∃ y F'', evs[i]? = some y ∧ Pu F' H' F'' H'' ∧ rEv K F'' x y := by
    rintro i x F' H' H'' hi g ⟨rfl, hx⟩
    obtain ⟨y, h1, h2⟩ := hxe.get hx
    exact ⟨y, F', h1, Gr.refl g.fh, Up.up (g8.trans g).f h2⟩
  refine ⟨_, rfl, ae, rfl, ⟨_, hsq' (Gr.refl g8.fh)⟩, ?_⟩
  refine dcW (K := K) (RA := rEv K) (R := rTs K) (walk_list (K := K) (a := ae) (xs := xe)) evs (fun e => e.1) (fun e => e.2.2) g8.fh el (by omega) ok.nd (fun F' H' g => hsq' g) src' (fun y v F' H' hy g hv Kt h1 => ?_) (fun d3 F5 H7 kvs3 g9 nd3 nf3 h7 a7 => ?_)
  · obtain ⟨c, v0, v1, v2, rfl, hc, hn, hs, hb⟩ := hv
    cases hn
    obtain ⟨b, xb, rfl, hb1, hb2⟩ := id hb
    have okt := ok.tp y hy
    have oks := ok.sc y hy
    refine ⟨c, _, rfl, sqt_s g.fh hc, rfl, _, _, rfl, _, _, rfl, _, _, rfl, rfl, rfl, _, rfl, _, rfl, y.2.1.length, oks.1.1, b, xb, rfl, sql_s g.fh hb1, (by have := hb2.length; have := okt.1; omega), fun x hx => ?_, fun ys q hp _ nq => ?_⟩
    · obtain ⟨j, hj⟩ := List.mem_iff_getElem?.mp hx
      obtain ⟨t, ht, hxt⟩ := hb2.get hj
      have o := okt.2.2 t (List.mem_of_getElem? ht)
      obtain ⟨ct, us, rfl, hct, hcu⟩ := hxt
      rw [all2_int hcu] at hct
      refine ⟨t, ⟨ct, rfl, sqt_s g.fh hct⟩, o.1, fun m hm => ?_⟩
      obtain ⟨n, ⟨x, hn1⟩, hn2⟩ := ok_mem o hm
      have := ok.v.2.1 _ (mem_lookup' hn1)
      have h3 : n ≤ 6 := this.2.2
      omega
    · obtain ⟨l', hl1, hl2⟩ := all2_perm hp hb2
      have gq : Pu F' H' (upd F' q (.lst ys)) (upd H' q (.lst ys)) := Gr.new g.fh nq
      exact h1 _ _ _ gq ⟨l', hl1, q, ys, rfl, SqL.of upd_same, hl2.up gq.f⟩
  have g10 : Pu _ _ (upd F5 d3 (.dK kvs3)) H7 := g9.frz nf3 nd3 h7
  have m5 := m4.pu g10
  have o5 := o4.pu g10
  refine ⟨_, rfl, p, _, dx, _, rfl, m5.h, T.cl_Problem, T.na_Problem_tuples_by_event, (by show 2 < 1000; decide), ?_⟩
  rw [put3]
  obtain ⟨evs', hs', ha'⟩ := srt_of (a7.up (upd_new (o := .dK kvs3) nf3))
  have g11 : Pu F H1 (upd F5 d3 (.dK kvs3)) (upd H7 p (.ins (a_Problem K) dx (pfs d1 d2 d3))) := (g8.trans g10).mut m5.n np
  have m6 : Mt (upd F5 d3 (.dK kvs3)) (upd H7 p (.ins (a_Problem K) dx (pfs d1 d2 d3))) p (.ins (a_Problem K) dx (pfs d1 d2 d3)) := m5.set
  have o6 : Mt (upd F5 d3 (.dK kvs3)) (upd H7 p (.ins (a_Problem K) dx (pfs d1 d2 d3))) dx (.own p) := o5.other ne
  have g12 := g11.frz m6.n np m6.h
  have nn : (upd (upd F5 d3 (.dK kvs3)) p (.ins (a_Problem K) dx (pfs d1 d2 d3))) dx = none := by rw [upd_ne ne]; exact o6.n
  have g13 := g12.frz nn ndx o6.h
  have sf : Same (upd F5 d3 (.dK kvs3)) (upd (upd (upd F5 d3 (.dK kvs3)) p (.ins (a_Problem K) dx (pfs d1 d2 d3))) dx (.own p)) := (upd_new m6.n).trans (upd_new nn)
  have s8 : Same (upd F4 d2 (.dK kvs2)) (upd (upd (upd F5 d3 (.dK kvs3)) p (.ins (a_Problem K) dx (pfs d1 d2 d3))) dx (.own p)) := g10.f.trans sf
  have s3 : Same (upd F1 d1 (.dK kvs)) (upd (upd (upd F5 d3 (.dK kvs3)) p (.ins (a_Problem K) dx (pfs d1 d2 d3))) dx (.own p)) := (g4.f.trans g7.f).trans s8
  refine k _ _ evs' g13 hs' ⟨p, dx, d1, d2, d3, rfl, ⟨by rw [upd_ne ne.symm]; exact upd_same, Up.up s3 D1, ⟨d2, kvs2, rfl, .inl (s8 _ _ f2), ?_⟩, ⟨d3, kvs3, rfl, .inl (sf _ _ upd_same), ha'.up sf⟩, hs'.ok ok⟩, ⟨kvs, s3 _ _ f1⟩, ⟨kvs2, s8 _ _ f2⟩⟩
  show AllD (rL K rS) _ kvs2 (evs'.map fun e => (e.1, e.2.1))
  rw [hs'.scopes]
  exact a6'.up s8
theorem c_Problem {P : Program} {w : World} {K : PySem.W.Frag} {mg : Str → Option Value} {base hp : Heap} (T : Tx K mg hp) : C8.Mak P w K mg base 4 "Problem" (a_Problem K) (sp_Problem K) [] := by
  obtain ⟨fd, F⟩ := T.fd_Problem_init
  obtain ⟨its, hv, hb⟩ := F.binds1 (ps := ["self", "variables", "events"]) 3 1 (by simp) rfl fun T kV doc pm an cdv ct us its hu hi => match us, its, hu, hi with | [_, _, _], [_], _, _ => ⟨_, rfl, rfl⟩
  exact ⟨_, fd, _, its, T.mk_Problem, fnok_of F sc_Problem_init (fun vs H Q E h => by unfold sp_Problem at h; split at h <;> first | rfl | exact h.elim) (b_Problem T), T.m_Problem, hb, hv⟩
end Rs
/-! text R10 -/
set_option Elab.async false
set_option linter.all false
set_option maxRecDepth 100000
set_option maxHeartbeats 4000000
namespace Rs
open PySem PySem.Spec PyProof.Rows L2
/-! ### assignments -/
def okAsg (vars : List (Str × Int)) (as : List Int) : Prop := as.length = vars.length ∧ ∀ q ∈ vars.zip as, 0 ≤ q.2 ∧ q.2 < q.1.2
def lookA (vars : List (Str × Int)) (as : List Int) (x : Str) : Int := (((vars.map (·.1)).zip as).lookup x).getD 0
def projA (vars : List (Str × Int)) (as : List Int) (sc : List Str) : List Int := sc.map (lookA vars as)
def PD.sc (D : PD) (e : Str) : List Str := (D.scopes.lookup e).getD []
def PD.ts (D : PD) (e : Str) : List (List Int) := (D.tups.lookup e).getD []
def PD.occ (D : PD) (as : List Int) (e : Str) : Bool := decide (projA D.vars as (D.sc e) ∈ D.ts e)
def PD.adj (D : PD) (a b : Str) : Bool := adjS (D.sc a) (D.sc b)
theorem sc_of {D : PD} {e : Str} (h : e ∈ D.names) : D.scopes.lookup e = some (D.sc e) := by
  obtain ⟨y, hy⟩ := lookup_mem (l := D.scopes) (x := e) (by rw [names_scopes]; exact h)
  unfold PD.sc
  rw [hy]
  rfl
theorem ts_of {D : PD} {e : Str} (h : e ∈ D.names) : D.tups.lookup e = some (D.ts e) := by
  obtain ⟨y, hy⟩ := lookup_mem (l := D.tups) (x := e) (by rw [names_tups]; exact h)
  unfold PD.ts
  rw [hy]
  rfl
def sp_variables (K : PySem.W.Frag) : Sp := fun vs H Q _ => match vs with
  | [v] => ∃ F D, Same F H ∧ rP1 K F v D ∧ ∀ v F' H', Pu F H F' H' → rL K (r2 K rS rI) F' v D.vars → Q v H'
  | _ => False
theorem items_all {K : PySem.W.Frag} {α : Type} {R : Rep α} {F : Hp} {kvs : List (Key × V)} {l : List (Str × α)} {ts : List Addr} (h : AllD R F kvs l) (ht : Paired (fun (t : Addr) (q : Key × V) => F t = some (.tup [kV q.1, q.2])) ts kvs) : All2 (r2 K rS R) F (ts.map V.ref) l := by
  induction ht generalizing l with
  | nil => cases h; exact Paired.nil
  | cons r t ih =>
    cases h with
    | cons r2 t2 =>
      refine Paired.cons ⟨_, _, _, rfl, SqT.of r, ?_, r2.2⟩ (ih t2)
      rw [r2.1]
      rfl
theorem sc_Problem_variables : FnScope ["self"] ["self"] (defScope s_Problem_variables) := C8.fnScope_by (by decide +kernel)
theorem c_Problem_variables {P : Program} {w : World} {K : PySem.W.Frag} {mg : Str → Option Value} {base hp : Heap} (T : Tx K mg hp) : C8.Met P w K mg base 1 (a_Problem K) "variables" (sp_variables K) [] := by
  obtain ⟨fd, F⟩ := T.fd_Problem_variables
  refine mkMet T.cl_Problem T.me_Problem_variables F sc_Problem_variables (fun _ _ _ _ _ _ us hl => match us, hl with | [_], _ => rfl) (fun vs H Q E h => by unfold sp_variables at h; split at h <;> first | rfl | exact h.elim) (fun cdv A outer s H vs Q E hr h => ?_)
  have nd := sc_Problem_variables.nd
  have hu := hu_of hr
  unfold sp_variables at h
  split at h
  case h_2 => exact h.elim
  obtain ⟨F, D, e, ⟨p, dx, d1, d2, d3, rfl, h, kvs, hd⟩, k⟩ := h
  refine ⟨_, (pss_one (ps_ret (LiI.pe_listItems rfl (pe_fld (pv 0) rfl) (by rfl) T.fr_list (by decide +kernel)))), ?_⟩
  obtain ⟨d, kvs', ed, hr', hall⟩ := h.s1
  cases ed
  have ek : kvs' = kvs := by
    rcases hr' with q | ⟨o, q⟩
    · rw [hd] at q; cases q; rfl
    · rw [hd] at q; cases q
  subst ek
  refine ⟨_, rfl, p, _, dx, _, _, rfl, h.h e, T.cl_Problem, T.na_Problem_size_by_name, pfs1, d1, kvs', rfl, e _ _ hd, fun H' l ts s1 nl nts nin hl hts => ?_⟩
  have g : Pu F H (fz F H' fun b => decide (b = l ∨ b ∈ ts)) H' := Gr.many _ e s1 fun b hb => by
    rcases of_decide_eq_true hb with z | z
    · rw [z]; exact nl
    · exact nts b z
  refine k _ _ _ g ⟨l, ts.map V.ref, rfl, SqL.of ?_, ?_⟩
  · rw [fz_new (e.free nl) (decide_eq_true (Or.inl rfl))]
    exact hl
  · refine items_all (AllD.up g.f hall) ?_
    have key : ∀ {ts' : List Addr} {kv : List (Key × V)}, (∀ t ∈ ts', t ∈ ts) → Paired (fun (t : Addr) (q : Key × V) => H' t = some (.tup [kV q.1, q.2])) ts' kv → Paired (fun (t : Addr) (q : Key × V) => (fz F H' fun b => decide (b = l ∨ b ∈ ts)) t = some (.tup [kV q.1, q.2])) ts' kv := by
      intro ts' kv hm hp
      induction hp with
      | nil => exact Paired.nil
      | cons r t ih =>
        refine Paired.cons ?_ (ih fun t ht => hm t (List.mem_cons_of_mem _ ht))
        rw [fz_new (e.free (nts _ (hm _ (List.mem_cons_self ..)))) (decide_eq_true (Or.inr (hm _ (List.mem_cons_self ..))))]
        exact r
    exact key (fun t ht => ht) hts
def sp_neighbors (K : PySem.W.Frag) : Sp := fun vs H Q _ => match vs with
  | [v, u] => ∃ F D e, Same F H ∧ rP K F v D ∧ u = .str e ∧ e ∈ D.names ∧ ∀ v F' H', Pu F H F' H' → rL K rS F' v (D.names.filter fun x => !decide (x = e) && D.adj e x) → Q v H'
  | _ => False
theorem keys_of {K : PySem.W.Frag} {α : Type} {R : Rep α} {F : Hp} : ∀ {kvs : List (Key × V)} {l : List (Str × α)}, AllD R F kvs l → kvs.map (·.1) = (l.map (·.1)).map Sum.inr
  | _, _, Paired.nil => rfl
  | _, _, Paired.cons h t => by rw [List.map_cons, h.1, keys_of (K := K) t]; rfl
theorem rd_plain {F : Hp} {d : Addr} {kvs kvs' : List (Key × V)} (hd : F d = some (.dK kvs)) (h : Rd F d (.dK kvs')) : kvs' = kvs := by
  rcases h with q | ⟨o, q⟩
  · rw [hd] at q; cases q; rfl
  · rw [hd] at q; cases q
theorem sc_Problem_neighbors : FnScope ["self", "event", "other"] ["self", "event"] (defScope s_Problem_neighbors) := C8.fnScope_by (by decide +kernel)
theorem c_Problem_neighbors {P : Program} {w : World} {K : PySem.W.Frag} {mg : Str → Option Value} {base hp : Heap} (T : Tx K mg hp) : C8.Met P w K mg base 4 (a_Problem K) "neighbors" (sp_neighbors K) [] := by
  obtain ⟨fd, F⟩ := T.fd_Problem_neighbors
  refine mkMet T.cl_Problem T.me_Problem_neighbors F sc_Problem_neighbors (fun _ _ _ _ _ _ us hl => match us, hl with | [_, _], _ => rfl) (fun vs H Q E h => by unfold sp_neighbors at h; split at h <;> first | rfl | exact h.elim) (fun cdv A outer s H vs Q E hr h => ?_)
  have nd := sc_Problem_neighbors.nd
  have hu := hu_of hr
  unfold sp_neighbors at h
  split at h
  case h_2 => exact h.elim
  obtain ⟨F, D, ev, e, hP, rfl, he, k⟩ := h
  obtain ⟨p, dx, d1, d2, d3, rfl, h, ⟨kvs1, hd1⟩, ⟨kvs, hd⟩⟩ := id hP
  refine ⟨_, (pss_cons (ps_expr (C8.pe_mt (c_Problem_check_event T) hr (by decide) (pv 0) (pa_cons (pv 1) pa_nil)))
      (pss_one (ps_ret (pe_lock (pe_lc (own := [("other", 2)]) (g := (gName 2)) rfl nd (pi_keys (pe_fld (pv 0) rfl)) (blkOk_by (own := [("other", 2)]) (N := ["self", "event", "other"]) (sc := defScope s_Problem_neighbors) (by decide +kernel)) (fun _ _ _ _ _ => (pg_name (i := 2) nd rfl (Or.inl rfl))) (fun _ _ _ _ _ => (pts_one (PW.pt (pw_and (pt_cmpR op_ne (pv 2) (pv 1) (nomark _)) (pw_and1 (pt_val (C8.pe_mt (c_Problem_are_adjacent T) hr (by decide) (pv 0) (pa_cons (pv 1) (pa_cons (pv 2) pa_nil))))))))) (fun _ _ _ _ _ => (pv 2))))))), ?_⟩
  obtain ⟨d, kvs', ed, hr', hall⟩ := h.s2
  cases ed
  have ek := rd_plain hd hr'
  subst ek
  refine ⟨_, rfl, p, dx, _, rfl, h.h e, pfsn (by decide +kernel), _, rfl, D, ev, Up.up e hP.w, rfl, he, ?_⟩
  refine lockE e hd fun od F0 H0 f0 s0 x0 ne Q' hQ' => ?_
  have hPl : rPl K F0 (.ref p) D := Ux.ux x0 hP.w
  have h0 := h.up x0
  have hn := keys_of (K := K) hall
  rw [names_scopes] at hn
  have l8 : D.names.length ≤ 8 := by unfold PD.names; rw [List.length_map]; exact h.ok.n8
  refine ⟨_, rfl, p, _, dx, _, _, rfl, h0.h s0, T.cl_Problem, T.na_Problem_scope_by_event, pfs2, d2, od, rfl, .inl ⟨kvs', s0 _ _ f0, ?_⟩⟩
  refine lcK (K := K) (R := rS) D.names (fun x => x) (fun x => !decide (x = ev) && D.adj ev x) s0 f0 hn (by omega) (fun y F1 H1 hy g Kt Kf h1 h2 => ?_) (fun L F1 H1 g hL => ?_)
  · refine ⟨rfl, _, rfl, _, rfl, rfl, _, rfl, ?_⟩
    by_cases hq : y = ev
    · rw [show (!decide (V.str y = V.str ev)) = false by rw [hq]; simp]
      refine iteF (iteF (h2 ?_ _ _ (Gr.refl g.fh)))
      rw [decide_eq_true hq]
      rfl
    · rw [show (!decide (V.str y = V.str ev)) = true by simp [hq]]
      have hPl1 : rPl K F1 (.ref p) D := Up.up g.f hPl
      refine iteT ⟨_, rfl, p, dx, _, rfl, (h0.up (.of g.f)).h g.fh, pfsn (by decide +kernel), _, rfl, _, rfl, F1, D, ev, y, _, _, g.fh, hPl1, rfl, rfl, sc_of he, sc_of hy, fun F2 H2 g2 => ?_⟩
      by_cases ha : D.adj ev y = true
      · rw [show adjS (D.sc ev) (D.sc y) = true from ha]
        exact ⟨_, rfl, iteT ⟨_, rfl, h1 (by rw [decide_eq_false hq, ha]; rfl) _ _ _ g2 rfl⟩⟩
      · have ha : D.adj ev y = false := by simpa using ha
        rw [show adjS (D.sc ev) (D.sc y) = false from ha]
        exact ⟨_, rfl, iteF (h2 (by rw [decide_eq_false hq, ha]; rfl) _ _ g2)⟩
  · refine hQ' _ F1 H1 g fun F2 H2 g2 x2 => k _ F2 H2 g2 (Ux.ux x2 ?_)
    rw [List.map_id'] at hL
    exact hL
/-! ### is it an assignment, what occurs in it -/
def sp_is_assignment (K : PySem.W.Frag) : Sp := fun vs H Q _ => match vs with
  | [v, u] => ∃ F D as, Same F H ∧ rP1 K F v D ∧ rU K rI F u as ∧ okAsg D.vars as ∧ ∀ F' H', Pu F H F' H' → Q (.bl true) H'
  | _ => False
theorem ok_zip {vars : List (Str × Int)} {as : List Int} (h : okAsg vars as) {i : Nat} {n v : Int} (h1 : (vars.map (·.2))[i]? = some n) (h2 : as[i]? = some v) : 0 ≤ v ∧ v < n := by
  rw [List.getElem?_map] at h1
  cases hq : vars[i]? with
  | none => rw [hq] at h1; cases h1
  | some q =>
    rw [hq] at h1
    cases h1
    exact h.2 (q, v) (List.mem_of_getElem? (by rw [List.getElem?_zip_eq_some]; exact ⟨hq, h2⟩))
theorem sc_Problem_is_assignment : FnScope ["self", "value", "one", "size"] ["self", "value"] (defScope s_Problem_is_assignment) := C8.fnScope_by (by decide +kernel)
theorem c_Problem_is_assignment {P : Program} {w : World} {K : PySem.W.Frag} {mg : Str → Option Value} {base hp : Heap} (T : Tx K mg hp) : C8.Met P w K mg base 2 (a_Problem K) "is_assignment" (sp_is_assignment K) [] := by
  obtain ⟨fd, F⟩ := T.fd_Problem_is_assignment
  refine mkMet T.cl_Problem T.me_Problem_is_assignment F sc_Problem_is_assignment (fun _ _ _ _ _ _ us hl => match us, hl with | [_, _], _ => rfl) (fun vs H Q E h => by unfold sp_is_assignment at h; split at h <;> first | rfl | exact h.elim) (fun cdv A outer s H vs Q E hr h => ?_)
  have nd := sc_Problem_is_assignment.nd
  have hu := hu_of hr
  unfold sp_is_assignment at h
  split at h
  case h_2 => exact h.elim
  obtain ⟨F, D, as, e, hP, hA, ok, k⟩ := h
  obtain ⟨p, dx, d1, d2, d3, rfl, h, ⟨kvs, hd⟩⟩ := id hP
  obtain ⟨a, xa, rfl, ha, hxa⟩ := id hA
  rw [all2_int hxa] at ha
  refine ⟨_, (pss_cons (ps_if (PW.pt (pw_or (pt_not (pt_val (pe_callB call_isi (by rfl) T.fr_isinstance (by decide +kernel) (pa_cons (pv 1) (pa_cons (pe_bltn (v := .ty "tuple") (u := .type "tuple") (by rfl) T.fr_tuple (by decide +kernel) rfl) pa_nil))))) (pw_or1 (pt_cmpR op_ne (pe_callB call_len_seq (by rfl) T.fr_len (by decide +kernel) (pa_cons (pv 1) pa_nil)) (pe_callB call_lenR (by rfl) T.fr_len (by decide +kernel) (pa_cons (pe_fld (pv 0) rfl) pa_nil)) (nomark _))))) (pss_one (ps_ret pe_bl)) pss_nil)
      (pss_one (ps_ret (pe_callB (cr_all rfl) (by rfl) T.fr_all (by decide +kernel) (pa_cons (pe_lock (pe_lc (own := [("one", 2), ("size", 3)]) (g := (gTup K 2 (gCons (gName 2) (gCons (gName 3) gNil)))) rfl nd (pi_zipG (by rfl) T.fr_zip (pa_cons (pv 1) (pa_cons (pe_values (pe_fld (pv 0) rfl)) pa_nil))) (blkOk_by (own := [("one", 2), ("size", 3)]) (N := ["self", "value", "one", "size"]) (sc := defScope s_Problem_is_assignment) (by decide +kernel)) (fun _ _ _ _ _ => (pg_tup rfl (pgs_cons (pg_name (i := 2) nd rfl (Or.inl rfl)) (pgs_cons (pg_name (i := 3) nd rfl (Or.inl rfl)) pgs_nil)))) (fun _ _ _ _ _ => pts_nil) (fun _ _ _ _ _ => (C8.pe_c (c_is_integer T) hr (by decide) (by rfl) (pa_cons (pv 2) (pa_cons pe_int (pa_cons (pe_op op_sub (pv 3) pe_int) pa_nil))))))) pa_nil))))), ?_⟩
  obtain ⟨d, kvs', ed, hr', hall⟩ := h.s1
  cases ed
  have ek := rd_plain hd hr'
  subst ek
  have lk : kvs'.length = D.vars.length := AllD.length hall
  have hok := ok.1
  have l8 := h.ok.v.1.2
  have ha' := sqt_s e ha
  refine ⟨_, rfl, _, _, _, _, _, rfl, .ty _, tyx_t ha', kt K, _, rfl, iteF ⟨_, rfl, a, _, rfl, .inr ha', _, rfl, p, _, dx, _, _, rfl, h.h e, T.cl_Problem, T.na_Problem_size_by_name, pfs1, d1, kvs', rfl, .inl (e _ _ hd), rfl, _, rfl, iteYn (by rw [List.length_map, hok, lk]) ?_⟩⟩
  refine lockE e hd fun od F0 H0 f0 s0 x0 ne Q' hQ' => ?_
  have h0 := h.up x0
  refine ⟨_, rfl, _, rfl, p, _, dx, _, _, rfl, h0.h s0, T.cl_Problem, T.na_Problem_size_by_name, pfs1, d1, od, kvs', rfl, s0 _ _ f0, fun vw nV => ?_⟩
  have gV : Pu F0 H0 (upd F0 vw (.ext fun h => h.IsValuesView vw d1)) (upd H0 vw (.ext fun h => h.IsValuesView vw d1)) := Gr.new s0 nV
  have hall0 := AllD.ux x0 hall
  have fV := gV.f _ _ f0
  have haV : SqT K (upd F0 vw (.ext fun h => h.IsValuesView vw d1)) a (as.map V.int) := sqt_s gV.f (sqt_x x0 ha)
  refine ⟨.t a, .v vw d1 od, _, _, rfl, sqt_s gV.fh haV, ⟨kvs', gV.fh _ _ fV, rfl⟩, trivial, upd_same, ?_⟩
  refine lcP (K := K) (RA := rI) (RC := rI) (R := rB) (walk_zipG (K := K) (z1 := .t a) (z2 := .v vw d1 od) (xs := as.map V.int) (ys := kvs'.map (·.2)) rfl) (as.zip (D.vars.map (·.2))) (fun _ => true) (fun _ => true) gV.fh (by rw [List.length_zip, List.length_map, List.length_map, List.length_map]; omega) (by rw [List.length_map, List.length_map]; omega) (fun F1 H1 g => ⟨sqt_s g.fh (sqt_s g.f haV), ⟨kvs', g.fh _ _ (g.f _ _ fV), rfl⟩⟩) ?_ ?_ ?_ ?_
  · intro i x hi he
    obtain ⟨u, q, h1, h2, h3⟩ := zip_at (as := as) (bs := D.vars.map (·.2)) (i := i) (by rw [List.length_map, List.length_map] at hi; rw [List.length_map]; omega)
    rw [List.getElem?_map, h1] at he
    cases he
    exact ⟨_, h3, rfl⟩
  · intro i x hi he
    obtain ⟨u, q, h1, h2, h3⟩ := zip_at (as := as) (bs := D.vars.map (·.2)) (i := i) (by rw [List.length_map, List.length_map] at hi; rw [List.length_map]; omega)
    rw [List.getElem?_map] at he
    cases hk : kvs'[i]? with
    | none => rw [hk] at he; cases he
    | some kv =>
      rw [hk] at he
      cases he
      obtain ⟨x', n', hq, _, hn⟩ := AllD.get hall0 hk
      rw [List.getElem?_map, hq] at h2
      cases h2
      exact ⟨_, h3, hn⟩
  · intro q T' x y F3 H3 hq g3 hT rx ry Kt Kf h1 h2
    cases rx
    cases ry
    obtain ⟨i, hi, eq⟩ := List.mem_iff_getElem.mp hq
    have hi1 : i < as.length := by rw [List.length_zip] at hi; omega
    have hi2 : i < (D.vars.map (·.2)).length := by rw [List.length_zip] at hi; omega
    rw [List.getElem_zip] at eq
    obtain ⟨n0, n1⟩ := ok_zip ok (i := i) (n := q.2) (v := q.1) (by rw [← eq]; exact List.getElem?_eq_getElem hi2) (by rw [← eq]; exact List.getElem?_eq_getElem hi1)
    refine ⟨T', _, rfl, SqT.of (g3.fh _ _ hT), rfl, _, _, rfl, _, _, rfl, rfl, rfl, _, rfl, _, rfl, _, _, rfl, rfl, _, _, _, rfl, rfl, rfl, ?_⟩
    rw [decide_eq_true n0, decide_eq_true (show q.1 ≤ q.2 - 1 by omega)]
    exact h1 rfl _ F3 H3 (Gr.refl g3.fh) rfl
  · intro L F3 H3 g3 hL
    obtain ⟨dd, ed, hd3⟩ := rlb hL
    cases ed
    refine hQ' _ F3 H3 (gV.trans g3) fun F2 H2 g2 x2 => ⟨L, _, rfl, sql_s g2.fh (sql_x x2 hd3), ?_⟩
    rw [all_true]
    exact k _ _ g2
def sp_check_assignment (K : PySem.W.Frag) : Sp := fun vs H Q _ => match vs with
  | [v, u] => ∃ F D as, Same F H ∧ rP1 K F v D ∧ rU K rI F u as ∧ okAsg D.vars as ∧ ∀ F' H', Pu F H F' H' → Q .non H'
  | _ => False
theorem sc_Problem_check_assignment : FnScope ["self", "assignment"] ["self", "assignment"] (defScope s_Problem_check_assignment) := C8.fnScope_by (by decide +kernel)
theorem c_Problem_check_assignment {P : Program} {w : World} {K : PySem.W.Frag} {mg : Str → Option Value} {base hp : Heap} (T : Tx K mg hp) : C8.Met P w K mg base 3 (a_Problem K) "check_assignment" (sp_check_assignment K) [] := by
  obtain ⟨fd, F⟩ := T.fd_Problem_check_assignment
  refine mkMet T.cl_Problem T.me_Problem_check_assignment F sc_Problem_check_assignment (fun _ _ _ _ _ _ us hl => match us, hl with | [_, _], _ => rfl) (fun vs H Q E h => by unfold sp_check_assignment at h; split at h <;> first | rfl | exact h.elim) (fun cdv A outer s H vs Q E hr h => ?_)
  have nd := sc_Problem_check_assignment.nd
  have hu := hu_of hr
  unfold sp_check_assignment at h
  split at h
  case h_2 => exact h.elim
  obtain ⟨F, D, as, e, hP, hA, ok, k⟩ := h
  obtain ⟨p, dx, d1, d2, d3, rfl, h, ⟨kvs, hd⟩⟩ := id hP
  refine ⟨_, (pss_one (ps_if (pt_not (pt_val (C8.pe_mt (c_Problem_is_assignment T) hr (by decide) (pv 0) (pa_cons (pv 1) pa_nil)))) pss_never pss_nil)), ?_⟩
  exact ⟨_, rfl, p, dx, _, rfl, h.h e, pfsn (by decide +kernel), _, rfl, F, D, as, e, hP, hA, ok, fun F1 H1 g1 => ⟨_, rfl, iteF (k _ _ g1)⟩⟩
end Rs
/-! text R11 -/
set_option Elab.async false
set_option linter.all false
set_option maxRecDepth 100000
set_option maxHeartbeats 4000000
namespace Rs
open PySem PySem.Spec PyProof.Rows L2
theorem look_some {vars : List (Str × Int)} {as : List Int} {x : Str} (hl : as.length = vars.length) (hx : x ∈ vars.map (·.1)) : ((vars.map (·.1)).zip as).lookup x = some (lookA vars as x) := by
  have h1 : x ∈ ((vars.map (·.1)).zip as).map (·.1) := by
    rw [List.map_fst_zip (by rw [List.length_map]; omega)]
    exact hx
  obtain ⟨y, hy⟩ := lookup_mem h1
  unfold lookA
  rw [hy]
  rfl
theorem zip_all {F : Hp} : ∀ {ns : List Str} {as : List Int}, AllD rI F ((ns.map Sum.inr).zip (as.map V.int)) (ns.zip as)
  | [], _ => Paired.nil
  | _ :: _, [] => Paired.nil
  | n :: ns, a :: as => Paired.cons ⟨rfl, rfl⟩ zip_all
theorem zip_merge {F : Hp} {ns : List Str} {as : List Int} (h : ns.Nodup) : mergeK [] ((ns.map Sum.inr).zip (as.map V.int)) = (ns.map Sum.inr).zip (as.map V.int) := by
  refine merge_nd (F := F) (m := []) Paired.nil zip_all ?_
  rw [List.nil_append]
  have : List.Sublist ((ns.zip as).map (·.1)) ns := by
    induction ns generalizing as with
    | nil => simp
    | cons n ns ih => cases as with
      | nil => simp
      | cons a as =>
        rw [List.zip_cons_cons, List.map_cons]
        exact (ih (as := as) (List.nodup_cons.mp h).2).cons₂ n
  exact h.sublist this
def sp_values_in_scope (K : PySem.W.Frag) : Sp := fun vs H Q _ => match vs with
  | [v, u, z] => ∃ F D e as, Same F H ∧ rPl K F v D ∧ u = .str e ∧ e ∈ D.names ∧ rU K rI F z as ∧ okAsg D.vars as ∧ ∀ v F' H', Pu F H F' H' → rU K rI F' v (projA D.vars as (D.sc e)) → Q v H'
  | _ => False
theorem sc_Problem_values_in_scope : FnScope ["self", "event", "assignment", "by_name", "variable"] ["self", "event", "assignment"] (defScope s_Problem_values_in_scope) := C8.fnScope_by (by decide +kernel)
theorem c_Problem_values_in_scope {P : Program} {w : World} {K : PySem.W.Frag} {mg : Str → Option Value} {base hp : Heap} (T : Tx K mg hp) : C8.Met P w K mg base 1 (a_Problem K) "values_in_scope" (sp_values_in_scope K) [] := by
  obtain ⟨fd, F⟩ := T.fd_Problem_values_in_scope
  refine mkMet T.cl_Problem T.me_Problem_values_in_scope F sc_Problem_values_in_scope (fun _ _ _ _ _ _ us hl => match us, hl with | [_, _, _], _ => rfl) (fun vs H Q E h => by unfold sp_values_in_scope at h; split at h <;> first | rfl | exact h.elim) (fun cdv A outer s H vs Q E hr h => ?_)
  have nd := sc_Problem_values_in_scope.nd
  have hu := hu_of hr
  unfold sp_values_in_scope at h
  split at h
  case h_2 => exact h.elim
  obtain ⟨F, D, ev, as, e, hP, rfl, he, hA, ok, k⟩ := h
  obtain ⟨p, dx, d1, d2, d3, rfl, h⟩ := id hP
  obtain ⟨a, xa, rfl, ha, hxa⟩ := id hA
  rw [all2_int hxa] at ha
  obtain ⟨d, kvs, ed, hr', hall⟩ := h.s1
  cases ed
  refine ⟨_, (pss_cons (ps_set (i := 3) nd rfl (Or.inr rfl) (pe_dictZip rfl (by rfl) T.fr_dict (by rfl) T.fr_zip (pa_cons (pe_fld (pv 0) rfl) (pa_cons (pv 2) pa_nil))))
      (pss_one (ps_ret (pe_callTy call_tuple_of (by rfl) T.fr_tuple (by decide +kernel) (pa_cons (pe_lc (own := [("variable", 4)]) (g := (gName 4)) rfl nd (pi_list (pe_dget hu (pe_fld (pv 0) rfl) (pv 1) (fun _ _ => rfl))) (blkOk_by (own := [("variable", 4)]) (N := ["self", "event", "assignment", "by_name", "variable"]) (sc := defScope s_Problem_values_in_scope) (by decide +kernel)) (fun _ _ _ _ _ => (pg_name (i := 4) nd rfl (Or.inl rfl))) (fun _ _ _ _ _ => pts_nil) (fun _ _ _ _ _ => (pe_dget hu (pv 3) (pv 4) (fun _ _ => rfl)))) pa_nil))))), ?_⟩
  have hk := keys_of (K := K) hall
  refine ⟨_, rfl, p, _, dx, _, _, rfl, h.h e, T.cl_Problem, T.na_Problem_size_by_name, pfs1, _, rfl, d1, a, (D.vars.map (·.1)).map Sum.inr, as.map V.int, rfl, .inr ⟨kvs, Rd.same e hr', hk.symm⟩, sqt_s e ha, fun q nq => ?_⟩
  rw [zip_merge (F := F) h.ok.v.2.2]
  have g : Pu F H (upd F q (.dK (((D.vars.map (·.1)).map Sum.inr).zip (as.map V.int)))) (upd H q (.dK (((D.vars.map (·.1)).map Sum.inr).zip (as.map V.int)))) := Gr.new e nq
  have hD : rD rI (upd F q (.dK (((D.vars.map (·.1)).map Sum.inr).zip (as.map V.int)))) (.ref q) ((D.vars.map (·.1)).zip as) := ⟨q, _, rfl, .inl upd_same, zip_all⟩
  have osc := scope_of h.ok (sc_of he)
  obtain ⟨b, u, eb, hg, hu⟩ := dgot g.fh ((h.up (.of g.f)).s2) (sc_of he)
  cases eb
  obtain ⟨c, rfl, hc⟩ := rls hu
  refine ⟨_, rfl, p, _, dx, _, _, rfl, (h.up (.of g.f)).h g.fh, T.cl_Problem, T.na_Problem_scope_by_event, pfs2, _, rfl, d2, _, rfl, hg, c, rfl, ⟨_, sql_s g.fh hc⟩, ?_⟩
  refine lcL (K := K) (RA := rS) (R := rI) (f := lookA D.vars as) (p := fun _ => true) g.fh hc (str_all2 _) (by have := osc.1.2; omega) (fun y v F2 H2 hy g2 hv Kt Kf h1 h2 => ?_) (fun L F2 H2 g2 hL => ?_)
  · cases hv
    obtain ⟨b', u', eb', hg', hu'⟩ := dgot g2.fh (Up.up g2.f hD) (look_some ok.1 (osc.2.2 y hy))
    cases eb'
    cases hu'
    exact ⟨rfl, _, rfl, _, rfl, q, _, rfl, hg', h1 rfl _ F2 H2 (Gr.refl g2.fh) rfl⟩
  · rw [ptrue] at hL
    obtain ⟨l, el, hl⟩ := rli hL
    cases el
    refine ⟨L, _, rfl, .inl ⟨sql_s g2.fh hl, fun t nt => ?_⟩⟩
    have gg := g.trans g2
    have g3 : Pu F2 H2 (upd F2 t (.tup ((projA D.vars as (D.sc ev)).map V.int))) (upd H2 t (.tup ((projA D.vars as (D.sc ev)).map V.int))) := Gr.new g2.fh nt
    exact k _ _ _ (gg.trans g3) ⟨t, _, rfl, SqT.of upd_same, int_all2 _⟩
def sp_occurs (K : PySem.W.Frag) : Sp := fun vs H Q _ => match vs with
  | [v, u, z] => ∃ F D e as, Same F H ∧ rP1 K F v D ∧ u = .str e ∧ e ∈ D.names ∧ rU K rI F z as ∧ okAsg D.vars as ∧ ∀ F' H', Pu F H F' H' → Q (.bl (D.occ as e)) H'
  | _ => False
theorem sc_Problem_occurs : FnScope ["self", "event", "assignment"] ["self", "event", "assignment"] (defScope s_Problem_occurs) := C8.fnScope_by (by decide +kernel)
theorem c_Problem_occurs {P : Program} {w : World} {K : PySem.W.Frag} {mg : Str → Option Value} {base hp : Heap} (T : Tx K mg hp) : C8.Met P w K mg base 4 (a_Problem K) "occurs" (sp_occurs K) [] := by
  obtain ⟨fd, F⟩ := T.fd_Problem_occurs
  refine mkMet T.cl_Problem T.me_Problem_occurs F sc_Problem_occurs (fun _ _ _ _ _ _ us hl => match us, hl with | [_, _, _], _ => rfl) (fun vs H Q E h => by unfold sp_occurs at h; split at h <;> first | rfl | exact h.elim) (fun cdv A outer s H vs Q E hr h => ?_)
  have nd := sc_Problem_occurs.nd
  have hu := hu_of hr
  unfold sp_occurs at h
  split at h
  case h_2 => exact h.elim
  obtain ⟨F, D, ev, as, e, hP, rfl, he, hA, ok, k⟩ := h
  obtain ⟨p, dx, d1, d2, d3, rfl, h, _⟩ := id hP
  refine ⟨_, (pss_cons (ps_expr (C8.pe_mt (c_Problem_check_event T) hr (by decide) (pv 0) (pa_cons (pv 1) pa_nil)))
      (pss_cons (ps_expr (C8.pe_mt (c_Problem_check_assignment T) hr (by decide) (pv 0) (pa_cons (pv 2) pa_nil)))
      (pss_one (ps_ret (pe_cmpR (op_inD (huD_of hr)) (C8.pe_mt (c_Problem_values_in_scope T) hr (by decide) (pv 0) (pa_cons (pv 1) (pa_cons (pv 2) pa_nil))) (pe_dget hu (pe_fld (pv 0) rfl) (pv 1) (fun _ _ => rfl)) rfl))))), ?_⟩
  refine ⟨_, rfl, p, dx, _, rfl, h.h e, pfsn (by decide +kernel), _, rfl, D, ev, Up.up e hP.w, rfl, he, ?_⟩
  refine ⟨_, rfl, p, dx, _, rfl, h.h e, pfsn (by decide +kernel), _, rfl, F, D, as, e, hP, hA, ok, fun F1 H1 g1 => ?_⟩
  refine ⟨_, rfl, p, dx, _, rfl, (h.up (.of g1.f)).h g1.fh, pfsn (by decide +kernel), _, rfl, _, rfl, F1, D, ev, as, g1.fh, Up.up g1.f hP.w, rfl, he, Up.up g1.f hA, ok, fun v F2 H2 g2 hv => ?_⟩
  have g := g1.trans g2
  have hts := ts_of he
  obtain ⟨b, u, eb, hg, hu⟩ := dgot g.fh ((h.up (.of g.f)).s3) hts
  cases eb
  refine ⟨_, rfl, p, _, dx, _, _, rfl, (h.up (.of g.f)).h g.fh, T.cl_Problem, T.na_Problem_tuples_by_event, pfs3, _, rfl, d3, _, rfl, hg, ?_⟩
  refine inD (encT (K := K)) (by decide) g.fh hv hu trivial (fun _ _ => trivial) fun r hr => ?_
  have er : r = D.occ as ev := by
    unfold PD.occ
    cases r with
    | true => exact (decide_eq_true (hr.mp rfl)).symm
    | false => exact (decide_eq_false fun z => Bool.noConfusion (hr.mpr z)).symm
  rw [er]
  exact k _ _ g
def sp_occurring (K : PySem.W.Frag) : Sp := fun vs H Q _ => match vs with
  | [v, z] => ∃ F D as, Same F H ∧ rP K F v D ∧ rU K rI F z as ∧ okAsg D.vars as ∧ ∀ v F' H', Pu F H F' H' → rL K rS F' v (D.names.filter (D.occ as)) → Q v H'
  | _ => False
theorem PAt.ne12 {K : PySem.W.Frag} {F : Hp} {p dx d1 d2 d3 : Addr} {D : PD} (h : PAt K F p dx d1 d2 d3 D) {kvs1 : List (Key × V)} (h1 : F d1 = some (.dK kvs1)) : d1 ≠ d2 := by
  rintro rfl
  obtain ⟨d, k1, ed, r1, a1⟩ := h.s1
  cases ed
  obtain ⟨d, k2, ed, r2, a2⟩ := h.s2
  cases ed
  have e1 := rd_plain h1 r1
  have e2 := rd_plain h1 r2
  rw [e1] at a1
  rw [e2] at a2
  have l1 := AllD.length a1
  have l8 := h.ok.v.1.1
  cases kvs1 with
  | nil => simp at l1; omega
  | cons kv r =>
    have g : (kv :: r)[0]? = some (kv.1, kv.2) := rfl
    obtain ⟨_, _, _, _, q1⟩ := AllD.get a1 g
    obtain ⟨_, _, _, _, q2⟩ := AllD.get a2 g
    obtain ⟨b, xs, q3, _⟩ := q2
    rw [show kv.2 = _ from q1] at q3
    cases q3
/-- within the lock of the scopes -/
theorem rP.locked {K : PySem.W.Frag} {F F0 : Hp} {p dx d1 d2 d3 : Addr} {D : PD} {kvs1 : List (Key × V)} (h : PAt K F p dx d1 d2 d3 D) (h1 : F d1 = some (.dK kvs1)) (x : XF F F0) (ne : ∀ b, b ≠ d2 → F0 b = F b) : rP1 K F0 (.ref p) D :=
  ⟨p, dx, d1, d2, d3, rfl, h.up x, kvs1, by rw [ne _ (h.ne12 h1)]; exact h1⟩
theorem sc_Problem_occurring : FnScope ["self", "assignment", "event"] ["self", "assignment"] (defScope s_Problem_occurring) := C8.fnScope_by (by decide +kernel)
theorem c_Problem_occurring {P : Program} {w : World} {K : PySem.W.Frag} {mg : Str → Option Value} {base hp : Heap} (T : Tx K mg hp) : C8.Met P w K mg base 5 (a_Problem K) "occurring" (sp_occurring K) [] := by
  obtain ⟨fd, F⟩ := T.fd_Problem_occurring
  refine mkMet T.cl_Problem T.me_Problem_occurring F sc_Problem_occurring (fun _ _ _ _ _ _ us hl => match us, hl with | [_, _], _ => rfl) (fun vs H Q E h => by unfold sp_occurring at h; split at h <;> first | rfl | exact h.elim) (fun cdv A outer s H vs Q E hr h => ?_)
  have nd := sc_Problem_occurring.nd
  have hu := hu_of hr
  unfold sp_occurring at h
  split at h
  case h_2 => exact h.elim
  obtain ⟨F, D, as, e, hP, hA, ok, k⟩ := h
  obtain ⟨p, dx, d1, d2, d3, rfl, h, ⟨kvs1, hd1⟩, ⟨kvs, hd⟩⟩ := id hP
  refine ⟨_, (pss_cons (ps_expr (C8.pe_mt (c_Problem_check_assignment T) hr (by decide) (pv 0) (pa_cons (pv 1) pa_nil)))
      (pss_one (ps_ret (pe_lock (pe_lc (own := [("event", 2)]) (g := (gName 2)) rfl nd (pi_keys (pe_fld (pv 0) rfl)) (blkOk_by (own := [("event", 2)]) (N := ["self", "assignment", "event"]) (sc := defScope s_Problem_occurring) (by decide +kernel)) (fun _ _ _ _ _ => (pg_name (i := 2) nd rfl (Or.inl rfl))) (fun _ _ _ _ _ => (pts_one (pt_val (C8.pe_mt (c_Problem_occurs T) hr (by decide) (pv 0) (pa_cons (pv 2) (pa_cons (pv 1) pa_nil)))))) (fun _ _ _ _ _ => (pv 2))))))), ?_⟩
  obtain ⟨d, kvs', ed, hr', hall⟩ := h.s2
  cases ed
  have ek := rd_plain hd hr'
  subst ek
  have hn := keys_of (K := K) hall
  rw [names_scopes] at hn
  have l8 : D.names.length ≤ 8 := by unfold PD.names; rw [List.length_map]; exact h.ok.n8
  refine ⟨_, rfl, p, dx, _, rfl, h.h e, pfsn (by decide +kernel), _, rfl, F, D, as, e, hP.w1, hA, ok, fun F1 H1 g1 => ?_⟩
  have h' := h.up (.of g1.f)
  refine lockE g1.fh (g1.f _ _ hd) fun od F0 H0 f0 s0 x0 ne Q' hQ' => ?_
  have hP1 : rP1 K F0 (.ref p) D := rP.locked h' (g1.f _ _ hd1) x0 ne
  have hA0 : rU K rI F0 _ as := Ux.ux x0 (Up.up g1.f hA)
  have h0 := h'.up x0
  refine ⟨_, rfl, p, _, dx, _, _, rfl, h0.h s0, T.cl_Problem, T.na_Problem_scope_by_event, pfs2, d2, od, rfl, .inl ⟨kvs', s0 _ _ f0, ?_⟩⟩
  refine lcK (K := K) (R := rS) D.names (fun x => x) (D.occ as) s0 f0 hn (by omega) (fun y F2 H2 hy g Kt Kf h1 h2 => ?_) (fun L F2 H2 g hL => ?_)
  · refine ⟨rfl, _, rfl, p, dx, _, rfl, (h0.up (.of g.f)).h g.fh, pfsn (by decide +kernel), _, rfl, _, rfl, F2, D, y, as, g.fh, Up.up g.f hP1, rfl, hy, Up.up g.f hA0, ok, fun F3 H3 g3 => ?_⟩
    cases ho : D.occ as y with
    | true => exact ⟨_, rfl, iteT ⟨_, rfl, h1 ho _ _ _ g3 rfl⟩⟩
    | false => exact ⟨_, rfl, iteF (h2 ho _ _ g3)⟩
  · refine hQ' _ F2 H2 g fun F3 H3 g2 x2 => k _ F3 H3 (g1.trans g2) (Ux.ux x2 ?_)
    rw [List.map_id'] at hL
    exact hL
end Rs
/-! text R12 -/
set_option Elab.async false
set_option linter.all false
set_option maxRecDepth 100000
set_option maxHeartbeats 4000000
namespace Rs
open PySem PySem.Spec PyProof.Rows L2
/-- a dict of our own is read while it is locked -/
theorem lockM {F H : Hp} {d : Addr} {kvs : List (Key × V)} {σ : L2.St} {t : TE} {Q : VK} (e : Same F H) (m : Mt F H d (.dK kvs))
    (k : ∀ od F0 H0, F0 d = some (.frz od (.dK kvs)) → Same F0 H0 → Same F F0 → ∀ Q' : VK, (∀ v F1 H1, Pu F0 H0 F1 H1 → F1 d = some (.frz od (.dK kvs)) → (∀ F2 H2, Pu F H F2 H2 → Mt F2 H2 d (.dK kvs) → (∀ b, b ≠ d → F2 b = F1 b) → Q v H2) → Q' v H1) → t σ H0 Q') : tLockE t σ H Q := by
  refine ⟨d, .dK kvs, m.h, trivial, fun od => ?_⟩
  refine k od (upd F d (.frz od (.dK kvs))) _ upd_same (Same.lock e) (upd_new m.n) _ fun v F1 H1 g _ q => ?_
  have f1 : F1 d = some (.frz od (.dK kvs)) := g.f d _ upd_same
  have h1 : H1 d = some (.frz od (.dK kvs)) := g.fh d _ f1
  refine ⟨h1, q (fun b => if b = d then none else F1 b) _ ⟨fun b o hb => ?_, fun b o hb => ?_, fun b o _ hb => ?_, fun b hb => ?_, fun b hb n => ?_⟩ ⟨if_pos rfl, upd_same⟩ fun b hb => if_neg hb⟩
  · have q : b ≠ d := fun q => by rw [q, m.n] at hb; cases hb
    show (if b = d then none else F1 b) = some o
    rw [if_neg q]
    exact g.f b o (by rw [upd_ne q]; exact hb)
  · by_cases q : b = d
    · rw [q] at hb
      have hb : (if d = d then none else F1 d) = some o := hb
      rw [if_pos rfl] at hb
      cases hb
    · have hb : (if b = d then none else F1 b) = some o := hb
      rw [if_neg q] at hb
      rw [upd_ne q]
      exact g.fh b o hb
  · by_cases q : b = d
    · rw [q] at hb ⊢
      rw [upd_same]
      exact m.h.symm.trans hb
    · rw [upd_ne q]
      exact g.h b o (fun z => z) (by rw [upd_ne q]; exact hb)
  · by_cases q : b = d
    · rw [q, upd_same] at hb
      cases hb
    · rw [upd_ne q] at hb
      have := g.dom b hb
      rw [upd_ne q] at this
      exact this
  · show (if b = d then none else F1 b) = none
    by_cases q : b = d
    · rw [if_pos q]
    · rw [if_neg q]
      refine g.nw b (by rw [upd_ne q]; exact hb) ?_
      rw [upd_ne q]
      exact n
theorem sql_er {K : PySem.W.Frag} {F1 F2 : Hp} {d a : Addr} {od : Obj} {kvs : List (Key × V)} {xs : List V} (hd : F1 d = some (.frz od (.dK kvs))) (e : ∀ b, b ≠ d → F2 b = F1 b) (h : SqL K F1 a xs) : SqL K F2 a xs := by
  rcases h with (h | ⟨o, h⟩) | h
  · exact .inl (.inl (by rw [e a (ne_of h hd (fun z => nomatch z))]; exact h))
  · exact .inl (.inr ⟨o, by rw [e a (ne_of h hd (fun z => nomatch z))]; exact h⟩)
  · exact .inr h
/-! ### an assignment in which two events occur -/
def agree (sc1 : List Str) (t1 : List Int) (sc2 : List Str) (t2 : List Int) : Bool := ((sc2.zip t2).map fun q => decide (((sc1.zip t1).lookup q.1).getD q.2 = q.2)).all id
def joinA (vars : List (Str × Int)) (sc1 : List Str) (t1 : List Int) (sc2 : List Str) (t2 : List Int) : List Int := vars.map fun q => ((sc1.zip t1).lookup q.1).getD (((sc2.zip t2).lookup q.1).getD 0)
def PD.co (D : PD) (a b : Str) : Option (List Int) := (D.ts a).findSome? fun t1 => (D.ts b).findSome? fun t2 => if agree (D.sc a) t1 (D.sc b) t2 = true then some (joinA D.vars (D.sc a) t1 (D.sc b) t2) else none
/-- None, or a tuple of ints -/
def rO (K : PySem.W.Frag) : Rep (Option (List Int)) := fun F v o => match o with
  | none => v = .non
  | some as => rU K rI F v as
theorem valV_merge {k : Key} : ∀ {more : List (Key × V)} {acc : List (Key × V)}, (more.map (·.1)).Nodup → valV (mergeK acc more) k = (valV more k).or (valV acc k)
  | [], acc, _ => by show valV acc k = _; rw [valV_nil]; rfl
  | kv :: more, acc, h => by
    rw [List.map_cons, List.nodup_cons] at h
    show valV (mergeK (putK acc kv.1 kv.2) more) k = _
    rw [valV_merge h.2, valV_put]
    by_cases e : k = kv.1
    · subst e
      rw [valV_pos rfl, if_pos rfl]
      have : valV more kv.1 = none := by
        cases hv : valV more kv.1 with
        | none => rfl
        | some u => exact absurd (valV_mem hv) h.1
      rw [this]
      rfl
    · rw [if_neg e, valV_neg (fun z => e z.symm)]
  where
  valV_mem {k : Key} {u : V} : ∀ {l : List (Key × V)}, valV l k = some u → k ∈ l.map (·.1)
    | [], h => by cases h
    | p :: l, h => by
      by_cases e : p.1 = k
      · rw [← e]; exact List.mem_cons_self ..
      · rw [valV_neg e] at h
        exact List.mem_cons_of_mem _ (valV_mem h)
theorem zip_keys_nd {ns : List Str} {as : List Int} (h : ns.Nodup) : (((ns.map Sum.inr).zip (as.map V.int)).map (·.1) : List Key).Nodup := by
  have h1 : List.Sublist ((((ns.map Sum.inr).zip (as.map V.int)).map (·.1) : List Key)) (ns.map Sum.inr) := by
    induction ns generalizing as with
    | nil => simp
    | cons n ns ih => cases as with
      | nil => simp
      | cons a as =>
        rw [List.map_cons, List.map_cons, List.zip_cons_cons, List.map_cons]
        exact (ih (as := as) (List.nodup_cons.mp h).2).cons₂ _
  exact (List.pairwise_map.mpr (h.imp fun hne z => hne (Sum.inr.inj z))).sublist h1
theorem valV_zip {x : Str} : ∀ {ns : List Str} {as : List Int}, valV (((ns.map Sum.inr).zip (as.map V.int)) : List (Key × V)) (Sum.inr x) = ((ns.zip as).lookup x).map V.int
  | [], _ => rfl
  | _ :: _, [] => rfl
  | n :: ns, a :: as => by
    rw [List.map_cons, List.map_cons, List.zip_cons_cons, List.zip_cons_cons]
    by_cases e : x = n
    · subst e
      rw [valV_pos rfl, lk0']
      rfl
    · rw [valV_neg (fun z => e (Sum.inr.inj z).symm), lk1' e]
      exact valV_zip
  where
  lk0' {k : Str} {v : Int} {r : List (Str × Int)} : ((k, v) :: r).lookup k = some v := by simp [List.lookup]
  lk1' {k k' : Str} {v : Int} {r : List (Str × Int)} (h : ¬ k' = k) : ((k, v) :: r).lookup k' = r.lookup k' := by
    show (match k' == k with | true => some v | false => r.lookup k') = r.lookup k'
    rw [show (k' == k) = false from beq_false_of_ne h]
theorem opt_int {o : Option Int} {d : Int} : (o.map V.int).getD (V.int d) = V.int (o.getD d) := by cases o <;> rfl
theorem opt_or {a b : Option Int} {d : Int} : ((a.map V.int).or (b.map V.int)).getD (V.int d) = V.int (a.getD (b.getD d)) := by cases a <;> cases b <;> rfl
def sp_common (K : PySem.W.Frag) : Sp := fun vs H Q _ => match vs with
  | [v, u1, u2] => ∃ F D a b, Same F H ∧ rP1 K F v D ∧ u1 = .str a ∧ u2 = .str b ∧ a ∈ D.names ∧ b ∈ D.names ∧ ∀ v F' H', Pu F H F' H' → rO K F' v (D.co a b) → Q v H'
  | _ => False
theorem findSome_take {α β : Type} {f : α → Option β} {l : List α} {i : Nat} {x : α} (h : l[i]? = some x) (hn : (l.take i).findSome? f = none) : (l.take (i + 1)).findSome? f = f x := by
  rw [List.take_succ, h, List.findSome?_append, hn]
  simp
theorem findSome_of {α β : Type} {f : α → Option β} {l : List α} {i : Nat} {x : α} {y : β} (h : l[i]? = some x) (hn : (l.take i).findSome? f = none) (hy : f x = some y) : l.findSome? f = some y := by
  have h1 := findSome_take h hn
  rw [hy] at h1
  rw [← List.take_append_drop (i + 1) l, List.findSome?_append, h1]
  rfl
theorem sc_common_assignment : FnScope ["problem", "one", "other", "values", "first", "more", "second", "variable", "value", "size"] ["problem", "one", "other"] (defScope s_common_assignment) := C8.fnScope_by (by decide +kernel)
theorem c_common_assignment {P : Program} {w : World} {K : PySem.W.Frag} {mg : Str → Option Value} {base hp : Heap} (T : Tx K mg hp) : C8.Cal P w K mg base 3 "common_assignment" (sp_common K) [] := by
  obtain ⟨fd, F⟩ := T.fd_common_assignment
  refine mkCal T.gl_common_assignment F sc_common_assignment (fun _ _ _ _ _ _ us hl => match us, hl with | [_, _, _], _ => rfl) (fun vs H Q E h => by unfold sp_common at h; split at h <;> first | rfl | exact h.elim) (fun cdv A outer s H vs Q E hr h => ?_)
  have nd := sc_common_assignment.nd
  have hu := hu_of hr
  unfold sp_common at h
  split at h
  case h_2 => exact h.elim
  obtain ⟨F, D, ea, eb, e, hP, rfl, rfl, hea, heb, k⟩ := h
  obtain ⟨p, dx, d1, d2, d3, rfl, h, ⟨kvs1, hd1⟩⟩ := id hP
  refine ⟨_, (pss_cons (ps_for PassesOwn.never rfl (pi_list (C8.pe_mt (c_Problem_bad_tuples T) hr (by decide) (pv 0) (pa_cons (pv 1) pa_nil))) (pg_name (i := 3) nd rfl (Or.inl rfl)) (pss_cons (ps_set (i := 4) nd rfl (Or.inr rfl) (pe_dictZip rfl (by rfl) T.fr_dict (by rfl) T.fr_zip (pa_cons (C8.pe_mt (c_Problem_scope T) hr (by decide) (pv 0) (pa_cons (pv 1) pa_nil)) (pa_cons (pv 3) pa_nil))))
      (pss_one (ps_for PassesOwn.never rfl (pi_list (C8.pe_mt (c_Problem_bad_tuples T) hr (by decide) (pv 0) (pa_cons (pv 2) pa_nil))) (pg_name (i := 5) nd rfl (Or.inl rfl)) (pss_cons (ps_set (i := 6) nd rfl (Or.inr rfl) (pe_dictZip rfl (by rfl) T.fr_dict (by rfl) T.fr_zip (pa_cons (C8.pe_mt (c_Problem_scope T) hr (by decide) (pv 0) (pa_cons (pv 2) pa_nil)) (pa_cons (pv 5) pa_nil))))
      (pss_one (ps_if (pt_val (pe_callB (cr_all rfl) (by rfl) T.fr_all (by decide +kernel) (pa_cons (pe_lock (pe_lc (own := [("variable", 7), ("value", 8)]) (g := (gTup K 2 (gCons (gName 7) (gCons (gName 8) gNil)))) rfl nd (pi_items (pv 6)) (blkOk_by (own := [("variable", 7), ("value", 8)]) (N := ["problem", "one", "other", "values", "first", "more", "second", "variable", "value", "size"]) (sc := defScope s_common_assignment) (by decide +kernel)) (fun _ _ _ _ _ => (pg_tup rfl (pgs_cons (pg_name (i := 7) nd rfl (Or.inl rfl)) (pgs_cons (pg_name (i := 8) nd rfl (Or.inl rfl)) pgs_nil)))) (fun _ _ _ _ _ => pts_nil) (fun _ _ _ _ _ => (pe_cmpR op_eq (pe_dget2 hu (pv 4) (pv 7) (pv 8) ⟨by rfl, by rfl, by rfl, by rfl⟩) (pv 8) (nomark _))))) pa_nil))) (pss_cons (ps_expr (pe_bm PySem.F.plainAttrs_dict PySem.F.slot_dict_update PySem.F.type_dict_update mt_update (pv 6) (pa_cons (pv 4) pa_nil)))
      (pss_one (ps_ret (pe_callTy call_tuple_of (by rfl) T.fr_tuple (by decide +kernel) (pa_cons (pe_lc (own := [("variable", 7), ("size", 9)]) (g := (gTup K 2 (gCons (gName 7) (gCons (gName 9) gNil)))) rfl nd (pi_list (C8.pe_mt0 (c_Problem_variables T) hr (by decide) (pv 0))) (blkOk_by (own := [("variable", 7), ("size", 9)]) (N := ["problem", "one", "other", "values", "first", "more", "second", "variable", "value", "size"]) (sc := defScope s_common_assignment) (by decide +kernel)) (fun _ _ _ _ _ => (pg_tup rfl (pgs_cons (pg_name (i := 7) nd rfl (Or.inl rfl)) (pgs_cons (pg_name (i := 9) nd rfl (Or.inl rfl)) pgs_nil)))) (fun _ _ _ _ _ => pts_nil) (fun _ _ _ _ _ => (pe_dget2 hu (pv 6) (pv 7) pe_int ⟨by rfl, by rfl, by rfl, by rfl⟩))) pa_nil))))) pss_nil)))))))
      (pss_one (ps_ret pe_non))), ?_⟩
  have tsa := ts_of hea
  have tsb := ts_of heb
  have sca := sc_of hea
  have scb := sc_of heb
  have oka := tups_of h.ok sca tsa
  have okb := tups_of h.ok scb tsb
  have osa := scope_of h.ok sca
  have osb := scope_of h.ok scb
  refine ⟨_, rfl, p, dx, _, rfl, h.h e, pfsn (by decide +kernel), _, rfl, F, D, ea, _, e, hP.w, rfl, tsa, fun v F1 H1 g1 hv => ?_⟩
  obtain ⟨a, xa, rfl, ha, hxa⟩ := hv
  refine ⟨a, rfl, ⟨_, sql_s g1.fh ha⟩, for_list (K := K) (a := a) (xs := xa) (fun i σ H' => ∃ F' w3 w4 w5 w6, σ = [some (.ref p), some (.str ea), some (.str eb), w3, w4, w5, w6, none, none, none] ∧ Pu F H F' H' ∧ Pu F1 H1 F' H' ∧ ((D.ts ea).take i).findSome? (fun t1 => (D.ts eb).findSome? fun t2 => if agree (D.sc ea) t1 (D.sc eb) t2 = true then some (joinA D.vars (D.sc ea) t1 (D.sc eb) t2) else none) = none)
    ⟨F1, _, _, _, _, rfl, g1, Gr.refl g1.fh, rfl⟩ (fun i σ H' _ ⟨F', _, _, _, _, _, _, g, _⟩ => sql_s g.fh (sql_s g.f ha)) ?_ ?_⟩
  · rintro i y σ H' hi ⟨F', w3, w4, w5, w6, rfl, g, g', hn⟩
    obtain ⟨t1, ht1, hy⟩ := hxa.get hi
    have hy' := Up.up g'.f hy
    obtain ⟨c, xc, rfl, hc, hxc⟩ := id hy'
    rw [all2_int hxc] at hc
    have hP' := Up.up g.f hP
    refine ⟨_, rfl, p, dx, _, rfl, (h.up (.of g.f)).h g.fh, pfsn (by decide +kernel), _, rfl, F', D, ea, _, g.fh, hP'.w, rfl, sca, fun v F2 H2 g2 hv => ?_⟩
    obtain ⟨s, rfl, hs⟩ := rls hv
    have gg2 := g.trans g2
    refine ⟨_, rfl, s, c, (D.sc ea).map Sum.inr, t1.map V.int, rfl, .inl (by rw [List.map_map]; exact sql_s g2.fh hs), sqt_s g2.fh (sqt_s g2.f hc), fun q nq => ?_⟩
    rw [zip_merge (F := F) osa.2.1]
    have g3 : Pu F2 H2 (upd F2 q (.dK (((D.sc ea).map Sum.inr).zip (t1.map V.int)))) (upd H2 q (.dK (((D.sc ea).map Sum.inr).zip (t1.map V.int)))) := Gr.new g2.fh nq
    have gg3 := gg2.trans g3
    have f3 : Rd (upd F2 q (.dK (((D.sc ea).map Sum.inr).zip (t1.map V.int)))) q (.dK (((D.sc ea).map Sum.inr).zip (t1.map V.int))) := .inl upd_same
    refine ⟨_, rfl, p, dx, _, rfl, (h.up (.of gg3.f)).h gg3.fh, pfsn (by decide +kernel), _, rfl, _, D, eb, _, gg3.fh, Up.up gg3.f hP.w, rfl, tsb, fun v F4 H4 g4 hv => ?_⟩
    obtain ⟨b, xb, rfl, hb, hxb⟩ := hv
    have gg4 := gg3.trans g4
    refine ⟨b, rfl, ⟨_, sql_s g4.fh hb⟩, for_list (K := K) (a := b) (xs := xb) (fun j σ H' => ∃ F' w5 w6, σ = [some (.ref p), some (.str ea), some (.str eb), some (.ref c), some (.ref q), w5, w6, none, none, none] ∧ Pu F H F' H' ∧ Pu F4 H4 F' H' ∧ ((D.ts eb).take j).findSome? (fun t2 => if agree (D.sc ea) t1 (D.sc eb) t2 = true then some (joinA D.vars (D.sc ea) t1 (D.sc eb) t2) else none) = none)
      ⟨F4, _, _, rfl, gg4, Gr.refl g4.fh, rfl⟩ (fun j σ H' _ ⟨F', _, _, _, _, g, _⟩ => sql_s g.fh (sql_s g.f hb)) ?_ ?_⟩
    · rintro j y σ H' hj ⟨F', w5, w6, rfl, gA, gB, hn2⟩
      obtain ⟨t2, ht2, hy2⟩ := hxb.get hj
      have hy2' := Up.up gB.f hy2
      obtain ⟨c2, xc2, rfl, hc2, hxc2⟩ := id hy2'
      rw [all2_int hxc2] at hc2
      have okt2 := okb.2.2 t2 (List.mem_of_getElem? ht2)
      have okt1 := oka.2.2 t1 (List.mem_of_getElem? ht1)
      refine ⟨_, rfl, p, dx, _, rfl, (h.up (.of gA.f)).h gA.fh, pfsn (by decide +kernel), _, rfl, F', D, eb, _, gA.fh, Up.up gA.f hP.w, rfl, scb, fun v F5 H5 g5 hv => ?_⟩
      obtain ⟨s2, rfl, hs2⟩ := rls hv
      have gA5 := gA.trans g5
      refine ⟨_, rfl, s2, c2, (D.sc eb).map Sum.inr, t2.map V.int, rfl, .inl (by rw [List.map_map]; exact sql_s g5.fh hs2), sqt_s g5.fh (sqt_s g5.f hc2), fun q2 nq2 => ?_⟩
      rw [zip_merge (F := F) osb.2.1]
      have m := Mt.new (o := .dK (((D.sc eb).map Sum.inr).zip (t2.map V.int))) g5.fh nq2
      have g6 : Pu F5 H5 F5 (upd H5 q2 (.dK (((D.sc eb).map Sum.inr).zip (t2.map V.int)))) := Gr.newm g5.fh nq2
      have gA6 := gA5.trans g6
      have gB6 := gB.trans (g5.trans g6)
      have f6 : Rd F5 q (.dK (((D.sc ea).map Sum.inr).zip (t1.map V.int))) := Rd.same (g4.f.trans gB6.f) f3
      have n0 : H q2 = none := gA5.dom _ nq2
      refine lockM g6.fh m fun od F0 H0 f0 s0 sf Q' hQ' => ?_
      refine ⟨_, rfl, q2, od, _, rfl, s0 _ _ f0, ?_⟩
      have lz : (((D.sc eb).map Sum.inr).zip (t2.map V.int) : List (Key × V)).length = ((D.sc eb).zip t2).length := by
        rw [List.length_zip, List.length_zip, List.length_map, List.length_map]
      refine lcP (K := K) (RA := rS) (RC := rI) (R := rB) (walk_items (o := od) (d := q2) (kvs := ((D.sc eb).map Sum.inr).zip (t2.map V.int))) ((D.sc eb).zip t2) (fun r => decide ((((D.sc ea).zip t1).lookup r.1).getD r.2 = r.2)) (fun _ => true) s0 lz (by rw [lz, List.length_zip]; have := osb.1.2; omega) (fun F1 H1 g => g.fh _ _ (g.f _ _ f0)) ?_ ?_ ?_ ?_
      · intro i x hi he
        cases hk : (((D.sc eb).map Sum.inr).zip (t2.map V.int) : List (Key × V))[i]? with
        | none => rw [hk] at he; cases he
        | some kv =>
          rw [hk] at he
          cases he
          obtain ⟨x', n', h1, h2, h3⟩ := AllD.get (zip_all (F := F0)) hk
          exact ⟨_, h1, by show kV kv.1 = V.str x'; rw [h2]; rfl⟩
      · intro i x hi he
        cases hk : (((D.sc eb).map Sum.inr).zip (t2.map V.int) : List (Key × V))[i]? with
        | none => rw [hk] at he; cases he
        | some kv =>
          rw [hk] at he
          cases he
          obtain ⟨x', n', h1, h2, h3⟩ := AllD.get (zip_all (F := F0)) hk
          exact ⟨_, h1, h3⟩
      · intro r T' x y F1 H1 hr g1 hT rx ry Kt Kf k1 k2
        cases rx
        cases ry
        have f7 := Rd.same g1.fh (Rd.same (sf.trans g1.f) f6)
        refine ⟨T', _, rfl, SqT.of (g1.fh _ _ hT), rfl, _, _, rfl, _, _, rfl, rfl, rfl, _, rfl, q, rfl, .inl ⟨_, f7⟩, _, rfl, _, rfl, _, .inl ⟨_, Sum.inr r.1, f7, rfl, rfl⟩, _, rfl, ?_⟩
        rw [valV_zip, opt_int]
        refine ⟨rfl, k1 rfl _ F1 H1 (Gr.refl g1.fh) ?_⟩
        show V.bl _ = V.bl _
        congr 1
        exact decide_eq_decide.mpr ⟨fun z => V.int.inj z, fun z => by rw [z]⟩
      · intro L F1 H1 g1 hL
        obtain ⟨l, el, hl⟩ := rlb hL
        cases el
        rw [ptrue] at hl
        refine hQ' _ F1 H1 g1 (g1.f _ _ f0) fun F2' H2' g7 m7 er => ?_
        refine ⟨L, _, rfl, sql_s g7.fh (sql_er (g1.f _ _ f0) er hl), _, rfl, ?_⟩
        show (if agree (D.sc ea) t1 (D.sc eb) t2 = true then _ else _)
        by_cases hag : agree (D.sc ea) t1 (D.sc eb) t2 = true
        · rw [if_pos hag]
          have f7 := Rd.same g7.fh (Rd.same g7.f f6)
          have nq12 : q2 ≠ q := fun z => by
            subst z
            rcases f6 with z | ⟨o, z⟩
            · rw [m.n] at z; cases z
            · rw [m.n] at z; cases z
          have hlen : (((D.sc eb).map Sum.inr).zip (t2.map V.int) : List (Key × V)).length + (((D.sc ea).map Sum.inr).zip (t1.map V.int) : List (Key × V)).length ≤ sizeLine := by
            simp only [List.length_zip, List.length_map]
            have b1 := osa.1.2
            have b2 := osb.1.2
            exact le_line (by omega)
          refine ⟨_, rfl, .inr (.inr (.inl ⟨rfl, .inl ⟨_, m7.h⟩⟩)), _, rfl, q2, q, _, _, rfl, rfl, nq12, m7.h, f7, hlen, ?_⟩
          have g8 : Pu F H F2' (upd H2' q2 (.dK (mergeK (((D.sc eb).map Sum.inr).zip (t2.map V.int)) (((D.sc ea).map Sum.inr).zip (t1.map V.int))))) := (gA6.trans g7).mut m7.n n0
          have m8 := m7.set (u := .dK (mergeK (((D.sc eb).map Sum.inr).zip (t2.map V.int)) (((D.sc ea).map Sum.inr).zip (t1.map V.int))))
          have hP8 : rP1 K F2' (.ref p) D := Up.up g8.f hP
          refine ⟨_, rfl, p, dx, _, rfl, (h.up (.of g8.f)).h g8.fh, pfsn (by decide +kernel), F2', D, g8.fh, hP8, fun v F9 H9 g9 hv => ?_⟩
          obtain ⟨av, xv, rfl, hav, hxv⟩ := hv
          have m9 := m8.pu g9
          have g89 := g8.trans g9
          refine ⟨av, rfl, ⟨_, sql_s g9.fh hav⟩, ?_⟩
          refine lcL (K := K) (RA := r2 K rS rI) (R := rI) (f := fun r : Str × Int => (((D.sc ea).zip t1).lookup r.1).getD ((((D.sc eb).zip t2).lookup r.1).getD 0)) (p := fun _ => true) g9.fh hav hxv (by have := h.ok.v.1.2; omega) (fun r v F1 H1 hr g1 hv Kt Kf k1 k2 => ?_) (fun L F1 H1 g1 hL => ?_)
          · obtain ⟨b', v0, v1, rfl, hb', h3, h4⟩ := hv
            cases h3
            have m10 := m9.pu g1
            refine ⟨b', _, rfl, sqt_s g1.fh hb', rfl, _, _, rfl, _, _, rfl, rfl, rfl, _, rfl, q2, rfl, .inl ⟨_, .inl m10.h⟩, _, rfl, _, .inl ⟨_, Sum.inr r.1, .inl m10.h, rfl, rfl⟩, k1 rfl _ F1 H1 (Gr.refl g1.fh) ?_⟩
            rw [valV_merge (zip_keys_nd osa.2.1), valV_zip, valV_zip]
            exact opt_or
          · rw [ptrue] at hL
            obtain ⟨l', el', hl'⟩ := rli hL
            cases el'
            refine ⟨L, _, rfl, .inl ⟨sql_s g1.fh hl', fun t nt => ?_⟩⟩
            have g10 : Pu F1 H1 (upd F1 t (.tup ((joinA D.vars (D.sc ea) t1 (D.sc eb) t2).map V.int))) (upd H1 t (.tup ((joinA D.vars (D.sc ea) t1 (D.sc eb) t2).map V.int))) := Gr.new g1.fh nt
            refine k _ _ _ ((g89.trans g1).trans g10) ?_
            have ec : D.co ea eb = some (joinA D.vars (D.sc ea) t1 (D.sc eb) t2) := by
              unfold PD.co
              refine findSome_of ht1 hn ?_
              refine findSome_of ht2 hn2 ?_
              rw [if_pos hag]
            rw [ec]
            exact ⟨t, _, rfl, SqT.of upd_same, int_all2 _⟩
        · rw [if_neg hag]
          refine ⟨F2', _, _, rfl, gA6.trans g7, gB6.trans g7, ?_⟩
          rw [findSome_take ht2 hn2, if_neg hag]
    · rintro σ H' ⟨F', w5, w6, rfl, gA, gB, hn2⟩
      rw [List.take_of_length_le (by rw [hxb.length]; exact Nat.le_refl _)] at hn2
      refine ⟨F', _, _, _, _, rfl, gA, ?_, ?_⟩
      · exact g'.trans (g2.trans (g3.trans (g4.trans gB)))
      · rw [findSome_take ht1 hn]
        exact hn2
  · rintro σ H' ⟨F', w3, w4, w5, w6, rfl, g, g', hn⟩
    rw [List.take_of_length_le (by rw [hxa.length]; exact Nat.le_refl _)] at hn
    refine k _ _ _ g ?_
    show rO K F' .non (D.co ea eb)
    unfold PD.co
    rw [hn]
    rfl
end Rs
/-! text R13 -/
set_option Elab.async false
set_option linter.all false
set_option maxRecDepth 100000
set_option maxHeartbeats 4000000
namespace Rs
open PySem PySem.Spec PyProof.Rows L2
theorem cut_from {xs : List V} {i : Nat} (h : i ≤ xs.length) : cutV xs (some (i : Int)) none = xs.drop i := by
  unfold cutV
  rw [HT.sIx_none, HT.sIx_nat, Nat.min_eq_left h]
  exact List.take_of_length_le (by rw [List.length_drop]; exact Nat.le_refl _)
/-- the first overlap of an event with a later one -/
def PD.row (D : PD) (i : Nat) : Option (Str × Str × List Int) := match D.names[i]? with
  | none => none
  | some a => (D.names.drop (i + 1)).findSome? fun b => if D.adj a b = true then (D.co a b).map fun as => (a, b, as) else none
def PD.ov (D : PD) : Option (Str × Str × List Int) := (List.range D.names.length).findSome? D.row
def rOv (K : PySem.W.Frag) : Rep (Option (Str × Str × List Int)) := fun F v o => match o with
  | none => v = .non
  | some q => r3 K rS rS (rU K rI) F v q
theorem take_range {n i : Nat} (h : i ≤ n) : (List.range n).take i = List.range i := by
  rw [List.take_range, Nat.min_eq_left h]
def sp_overlap (K : PySem.W.Frag) : Sp := fun vs H Q _ => match vs with
  | [v] => ∃ F D, Same F H ∧ rP1 K F v D ∧ ∀ v F' H', Pu F H F' H' → rOv K F' v D.ov → Q v H'
  | _ => False
theorem sc_find_overlap : FnScope ["problem", "events", "index", "one", "other", "found"] ["problem"] (defScope s_find_overlap) := C8.fnScope_by (by decide +kernel)
theorem c_find_overlap {P : Program} {w : World} {K : PySem.W.Frag} {mg : Str → Option Value} {base hp : Heap} (T : Tx K mg hp) : C8.Cal P w K mg base 4 "find_overlap" (sp_overlap K) [] := by
  obtain ⟨fd, F⟩ := T.fd_find_overlap
  refine mkCal T.gl_find_overlap F sc_find_overlap (fun _ _ _ _ _ _ us hl => match us, hl with | [_], _ => rfl) (fun vs H Q E h => by unfold sp_overlap at h; split at h <;> first | rfl | exact h.elim) (fun cdv A outer s H vs Q E hr h => ?_)
  have nd := sc_find_overlap.nd
  have hu := hu_of hr
  unfold sp_overlap at h
  split at h
  case h_2 => exact h.elim
  obtain ⟨F, D, e, hP, k⟩ := h
  obtain ⟨p, dx, d1, d2, d3, rfl, h, ⟨kvs1, hd1⟩⟩ := id hP
  refine ⟨_, (pss_cons (ps_expr (C8.pe_c (c_check_problem T) hr (by decide) (by rfl) (pa_cons (pv 0) pa_nil)))
      (pss_cons (ps_set (i := 1) nd rfl (Or.inl rfl) (C8.pe_mt0 (c_Problem_events T) hr (by decide) (pv 0)))
      (pss_cons (ps_for PassesOwn.never rfl (pi_enum (by rfl) T.fr_enumerate (pa_cons (pv 1) pa_nil)) (pg_tup rfl (pgs_cons (pg_name (i := 2) nd rfl (Or.inl rfl)) (pgs_cons (pg_name (i := 3) nd rfl (Or.inl rfl)) pgs_nil))) (pss_one (ps_for PassesOwn.never rfl (pi_list (pe_slice sl_list (pv 1) (po_some (pe_op op_add (pv 2) pe_int)) po_none)) (pg_name (i := 4) nd rfl (Or.inl rfl)) (pss_one (ps_if (pt_val (C8.pe_mt (c_Problem_are_adjacent T) hr (by decide) (pv 0) (pa_cons (pv 3) (pa_cons (pv 4) pa_nil)))) (pss_cons (ps_set (i := 5) nd rfl (Or.inl rfl) (C8.pe_c (c_common_assignment T) hr (by decide) (by rfl) (pa_cons (pv 0) (pa_cons (pv 3) (pa_cons (pv 4) pa_nil)))))
      (pss_one (ps_if (pt_cmpR op_notN (pv 5) pe_non (nomark _)) (pss_one (ps_ret (pe_tup (pa_cons (pv 3) (pa_cons (pv 4) (pa_cons (pv 5) pa_nil)))))) pss_nil))) pss_nil)))))
      (pss_one (ps_ret pe_non))))), ?_⟩
  have l8 : D.names.length ≤ 8 := by unfold PD.names; rw [List.length_map]; exact h.ok.n8
  refine ⟨_, rfl, D, Up.up e hP.w, ?_⟩
  refine ⟨_, rfl, p, dx, _, rfl, h.h e, pfsn (by decide +kernel), F, D, e, hP.w, fun v F1 H1 g1 hv => ?_⟩
  obtain ⟨a, rfl, ha⟩ := rls hv
  refine ⟨_, rfl, a, _, rfl, sql_s g1.fh ha, ?_⟩
  refine for_it (walk_enum (K := K) (a := a) (xs := D.names.map V.str)) (fun i σ H' => ∃ F' w2 w3 w4 w5, σ = [some (.ref p), some (.ref a), w2, w3, w4, w5] ∧ Pu F H F' H' ∧ Pu F1 H1 F' H' ∧ (List.range i).findSome? D.row = none) ⟨F1, _, _, _, _, rfl, g1, Gr.refl g1.fh, rfl⟩ (fun i σ H' _ ⟨F', _, _, _, _, _, _, g, _⟩ => sql_s g.fh (sql_s g.f ha)) ?_ ?_
  · rintro i y σ H2 H3 hi ⟨F2, w2, w3, w4, w5, rfl, g, g', hn⟩ ⟨T', x1, x2, rfl, nT, rfl, hx1, hx2⟩
    cases hx1
    obtain ⟨ev, hev, rfl⟩ := str_at hx2
    have hev1 := List.mem_of_getElem? hev
    have g2 := Gr.newm (M := NoM) (o := .tup [.int (i : Nat), .str ev]) g.fh nT
    have gg := g.trans g2
    have gg' := g'.trans g2
    have hi2 : i + 1 ≤ (D.names.map V.str).length := hi
    refine ⟨T', [_, _], rfl, SqT.of upd_same, rfl, _, [_], rfl, _, [], rfl, rfl, ?_⟩
    refine ⟨_, rfl, _, rfl, _, _, rfl, rfl, _, rfl, a, _, rfl, sql_s gg'.fh (sql_s gg'.f ha), fun q nq => ?_⟩
    rw [show ((i : Int) + 1) = ((i + 1 : Nat) : Int) by omega, cut_from hi2, ← List.map_drop]
    have g3 : Pu F2 (upd H2 T' (.tup [.int (i : Nat), .str ev])) (upd F2 q (.lst ((D.names.drop (i + 1)).map V.str))) (upd (upd H2 T' (.tup [.int (i : Nat), .str ev])) q (.lst ((D.names.drop (i + 1)).map V.str))) := Gr.new gg.fh nq
    have gg3 := gg.trans g3
    have gg3' := gg'.trans g3
    have fq : (upd F2 q (.lst ((D.names.drop (i + 1)).map V.str))) q = some (.lst ((D.names.drop (i + 1)).map V.str)) := upd_same
    refine ⟨q, rfl, ⟨_, SqL.of upd_same⟩, for_list (K := K) (a := q) (xs := (D.names.drop (i + 1)).map V.str) (fun j σ H' => ∃ F' w4 w5, σ = [some (.ref p), some (.ref a), some (.int (i : Nat)), some (.str ev), w4, w5] ∧ Pu F H F' H' ∧ Pu F1 H1 F' H' ∧ F' q = some (.lst ((D.names.drop (i + 1)).map V.str)) ∧ ((D.names.drop (i + 1)).take j).findSome? (fun b => if D.adj ev b = true then (D.co ev b).map fun as => (ev, b, as) else none) = none)
      ⟨_, _, _, rfl, gg3, gg3', fq, rfl⟩ (fun j σ H' _ ⟨F', _, _, _, g, _, f, _⟩ => SqL.of (g.fh _ _ f)) ?_ ?_⟩
    · rintro j y σ H' hj ⟨F', w4, w5, rfl, gA, gB, fq', hn2⟩
      obtain ⟨eb, heb, rfl⟩ := str_at hj
      have heb1 : eb ∈ D.names := List.mem_of_mem_drop (List.mem_of_getElem? heb)
      have hPA := Up.up gA.f hP
      refine ⟨_, rfl, p, dx, _, rfl, (h.up (.of gA.f)).h gA.fh, pfsn (by decide +kernel), _, rfl, _, rfl, F', D, ev, eb, _, _, gA.fh, hPA.w, rfl, rfl, sc_of hev1, sc_of heb1, fun F4 H4 g4 => ⟨_, rfl, ?_⟩⟩
      by_cases had : D.adj ev eb = true
      · rw [show adjS (D.sc ev) (D.sc eb) = true from had]
        refine iteT ?_
        have gA4 := gA.trans g4
        refine ⟨_, rfl, _, rfl, _, rfl, F4, D, ev, eb, g4.fh, Up.up gA4.f hP, rfl, rfl, hev1, heb1, fun v F5 H5 g5 hv => ?_⟩
        have gA5 := gA4.trans g5
        refine ⟨_, rfl, rfl, _, rfl, ?_⟩
        cases hco : D.co ev eb with
        | none =>
          rw [hco] at hv
          cases hv
          rw [decide_eq_true rfl]
          refine iteF ⟨F5, _, _, rfl, gA5, (gB.trans g4).trans g5, (g4.f.trans g5.f) _ _ fq', ?_⟩
          rw [findSome_take heb hn2, if_pos had, hco]
          rfl
        | some as =>
          rw [hco] at hv
          obtain ⟨t, xt, rfl, ht, hxt⟩ := id hv
          rw [decide_eq_false (fun z => nomatch z)]
          refine iteT ⟨_, rfl, _, rfl, _, rfl, le_line (by show 3 ≤ 1000000; omega), fun T2 nT2 => ?_⟩
          have g6 : Pu F5 H5 (upd F5 T2 (.tup [.str ev, .str eb, .ref t])) (upd H5 T2 (.tup [.str ev, .str eb, .ref t])) := Gr.new g5.fh nT2
          refine k _ _ _ (gA5.trans g6) ?_
          have eo : D.ov = some (ev, eb, as) := by
            unfold PD.ov
            have hi3 : i < D.names.length := by rw [List.length_map] at hi; exact hi
            refine findSome_of (x := i) (i := i) (by rw [List.getElem?_range hi3]) (by rw [take_range (Nat.le_of_lt hi3)]; exact hn) ?_
            unfold PD.row
            rw [hev]
            refine findSome_of heb hn2 ?_
            rw [if_pos had, hco]
            rfl
          rw [eo]
          exact ⟨T2, _, _, _, rfl, SqT.of upd_same, rfl, rfl, Up.up g6.f hv⟩
      · have had' : adjS (D.sc ev) (D.sc eb) = false := by
          cases hh : adjS (D.sc ev) (D.sc eb) with
          | false => rfl
          | true => exact absurd hh had
        rw [had']
        refine iteF ⟨F4, _, _, rfl, gA.trans g4, gB.trans g4, g4.f _ _ fq', ?_⟩
        rw [findSome_take heb hn2, if_neg had]
    · rintro σ H' ⟨F', w4, w5, rfl, gA, gB, fq', hn2⟩
      rw [List.take_of_length_le (by rw [List.length_map]; exact Nat.le_refl _)] at hn2
      refine ⟨F', _, _, _, _, rfl, gA, gB, ?_⟩
      rw [List.range_succ, List.findSome?_append, hn]
      show Option.or none ([i].findSome? D.row) = none
      have : D.row i = none := by
        unfold PD.row
        rw [hev]
        exact hn2
      simp [this]
  · rintro σ H' ⟨F', w2, w3, w4, w5, rfl, g, g', hn⟩
    refine k _ _ _ g ?_
    have hn : (List.range D.names.length).findSome? D.row = none := by rw [List.length_map] at hn; exact hn
    unfold PD.ov
    rw [hn]
    rfl
def sp_exclusive (K : PySem.W.Frag) : Sp := fun vs H Q _ => match vs with
  | [v] => ∃ F D, Same F H ∧ rP1 K F v D ∧ ∀ F' H', Pu F H F' H' → Q (.bl D.ov.isNone) H'
  | _ => False
theorem sc_is_exclusive : FnScope ["problem"] ["problem"] (defScope s_is_exclusive) := C8.fnScope_by (by decide +kernel)
theorem c_is_exclusive {P : Program} {w : World} {K : PySem.W.Frag} {mg : Str → Option Value} {base hp : Heap} (T : Tx K mg hp) : C8.Cal P w K mg base 5 "is_exclusive" (sp_exclusive K) [] := by
  obtain ⟨fd, F⟩ := T.fd_is_exclusive
  refine mkCal T.gl_is_exclusive F sc_is_exclusive (fun _ _ _ _ _ _ us hl => match us, hl with | [_], _ => rfl) (fun vs H Q E h => by unfold sp_exclusive at h; split at h <;> first | rfl | exact h.elim) (fun cdv A outer s H vs Q E hr h => ?_)
  have nd := sc_is_exclusive.nd
  have hu := hu_of hr
  unfold sp_exclusive at h
  split at h
  case h_2 => exact h.elim
  obtain ⟨F, D, e, hP, k⟩ := h
  refine ⟨_, (pss_one (ps_ret (pe_cmpR op_isN (C8.pe_c (c_find_overlap T) hr (by decide) (by rfl) (pa_cons (pv 0) pa_nil)) pe_non (nomark _)))), ?_⟩
  refine ⟨_, rfl, F, D, e, hP, fun v F1 H1 g1 hv => ⟨rfl, ?_⟩⟩
  cases ho : D.ov with
  | none =>
    rw [ho] at hv
    cases hv
    rw [decide_eq_true rfl]
    rw [ho] at k
    exact k _ _ g1
  | some q =>
    rw [ho] at hv
    obtain ⟨a, x, y, z, rfl, _⟩ := hv
    rw [decide_eq_false (fun z => nomatch z)]
    rw [ho] at k
    exact k _ _ g1
def sp_shows (K : PySem.W.Frag) : Sp := fun vs H Q _ => match vs with
  | [v, u] => ∃ F D a b as, Same F H ∧ rP1 K F v D ∧ r3 K rS rS (rU K rI) F u (a, b, as) ∧ a ∈ D.names ∧ b ∈ D.names ∧ a ≠ b ∧ D.adj a b = true ∧ okAsg D.vars as ∧ D.occ as a = true ∧ D.occ as b = true ∧ ∀ F' H', Pu F H F' H' → Q (.bl true) H'
  | _ => False
theorem sc_shows_overlap : FnScope ["problem", "value", "one", "other", "assignment", "event"] ["problem", "value"] (defScope s_shows_overlap) := C8.fnScope_by (by decide +kernel)
theorem c_shows_overlap {P : Program} {w : World} {K : PySem.W.Frag} {mg : Str → Option Value} {base hp : Heap} (T : Tx K mg hp) : C8.Cal P w K mg base 5 "shows_overlap" (sp_shows K) [] := by
  obtain ⟨fd, F⟩ := T.fd_shows_overlap
  refine mkCal T.gl_shows_overlap F sc_shows_overlap (fun _ _ _ _ _ _ us hl => match us, hl with | [_, _], _ => rfl) (fun vs H Q E h => by unfold sp_shows at h; split at h <;> first | rfl | exact h.elim) (fun cdv A outer s H vs Q E hr h => ?_)
  have nd := sc_shows_overlap.nd
  have hu := hu_of hr
  unfold sp_shows at h
  split at h
  case h_2 => exact h.elim
  obtain ⟨F, D, ea, eb, as, e, hP, hV, hea, heb, hne, hadj, ok, oa, ob, k⟩ := h
  obtain ⟨p, dx, d1, d2, d3, rfl, h, ⟨kvs1, hd1⟩⟩ := id hP
  obtain ⟨t, v0, v1, v2, rfl, ht, h0, h1, h2⟩ := hV
  have h2 : rU K rI F v2 as := h2
  cases h0
  cases h1
  refine ⟨_, (pss_cons (ps_expr (C8.pe_c (c_check_problem T) hr (by decide) (by rfl) (pa_cons (pv 0) pa_nil)))
      (pss_cons (ps_if (PW.pt (pw_or (pt_not (pt_val (pe_callB call_isi (by rfl) T.fr_isinstance (by decide +kernel) (pa_cons (pv 1) (pa_cons (pe_bltn (v := .ty "tuple") (u := .type "tuple") (by rfl) T.fr_tuple (by decide +kernel) rfl) pa_nil))))) (pw_or1 (pt_cmpR op_ne (pe_callB call_len_seq (by rfl) T.fr_len (by decide +kernel) (pa_cons (pv 1) pa_nil)) pe_int (nomark _))))) (pss_one (ps_ret pe_bl)) pss_nil)
      (pss_cons (ps_asg (pv 1) (pg_tup rfl (pgs_cons (pg_name (i := 2) nd rfl (Or.inl rfl)) (pgs_cons (pg_name (i := 3) nd rfl (Or.inl rfl)) (pgs_cons (pg_name (i := 4) nd rfl (Or.inl rfl)) pgs_nil)))))
      (pss_cons (ps_if (pt_not (pt_val (pe_callB (cr_all rfl) (by rfl) T.fr_all (by decide +kernel) (pa_cons (pe_lc (own := [("event", 5)]) (g := (gName 5)) rfl nd (pi_tup (pe_tup (pa_cons (pv 2) (pa_cons (pv 3) pa_nil)))) (blkOk_by (own := [("event", 5)]) (N := ["problem", "value", "one", "other", "assignment", "event"]) (sc := defScope s_shows_overlap) (by decide +kernel)) (fun _ _ _ _ _ => (pg_name (i := 5) nd rfl (Or.inl rfl))) (fun _ _ _ _ _ => pts_nil) (fun _ _ _ _ _ => (pe_and (pe_callB (call_isiK (K := K) rfl) (by rfl) T.fr_isinstance (by decide +kernel) (pa_cons (pv 5) (pa_cons (pe_bltn (v := .ty "str") (u := .type "str") (by rfl) T.fr_str (by decide +kernel) rfl) pa_nil))) (pe_one (pe_cmpR (op_in_seqK (K := K) rfl) (pv 5) (C8.pe_mt0 (c_Problem_events T) hr (by decide) (pv 0)) rfl))))) pa_nil)))) (pss_one (ps_ret pe_bl)) pss_nil)
      (pss_cons (ps_if (PW.pt (pw_or (pt_cmpR op_eq (pv 2) (pv 3) (nomark _)) (pw_or (pt_not (pt_val (C8.pe_mt (c_Problem_are_adjacent T) hr (by decide) (pv 0) (pa_cons (pv 2) (pa_cons (pv 3) pa_nil))))) (pw_or1 (pt_not (pt_val (C8.pe_mt (c_Problem_is_assignment T) hr (by decide) (pv 0) (pa_cons (pv 4) pa_nil)))))))) (pss_one (ps_ret pe_bl)) pss_nil)
      (pss_one (ps_ret (pe_and (C8.pe_mt (c_Problem_occurs T) hr (by decide) (pv 0) (pa_cons (pv 2) (pa_cons (pv 4) pa_nil))) (pe_one (C8.pe_mt (c_Problem_occurs T) hr (by decide) (pv 0) (pa_cons (pv 3) (pa_cons (pv 4) pa_nil)))))))))))), ?_⟩
  have ht' := sqt_s e ht
  refine ⟨_, rfl, D, Up.up e hP.w, ?_⟩
  refine ⟨_, rfl, _, _, _, _, _, rfl, .ty _, tyx_t ht', kt K, _, rfl, iteF ⟨_, rfl, t, _, rfl, .inr ht', rfl, _, rfl, iteYn rfl ?_⟩⟩
  refine ⟨_, rfl, t, _, rfl, ht', rfl, _, _, rfl, _, _, rfl, _, _, rfl, rfl, ?_⟩
  refine ⟨_, rfl, _, rfl, le_line (by show 2 ≤ 1000000; omega), fun q nq => ?_⟩
  have g1 : Pu F H (upd F q (.tup [.str ea, .str eb])) (upd H q (.tup [.str ea, .str eb])) := Gr.new e nq
  refine ⟨q, rfl, ⟨_, SqT.of upd_same⟩, ?_⟩
  refine lcT (K := K) (RA := rS) (R := rB) (xs := [.str ea, .str eb]) (l := [ea, eb]) (f := fun _ => true) (p := fun _ => true) g1.fh (SqT.of upd_same) (str_all2 [ea, eb]) (by show 2 ≤ 1000000; omega) (fun y v F2 H2 hy g2 hv Kt Kf k1 k2 => ?_) (fun L F2 H2 g2 hL => ?_)
  · cases hv
    have hy' : y ∈ D.names := by
      rcases List.mem_cons.mp hy with z | hy
      · rw [z]; exact hea
      · rcases List.mem_cons.mp hy with z | hy
        · rw [z]; exact heb
        · cases hy
    have gg := g1.trans g2
    refine ⟨rfl, _, rfl, _, _, _, _, _, rfl, .ty _, .base (.str _), ks K, _, rfl, iteT ?_⟩
    refine ⟨_, rfl, _, rfl, p, dx, _, rfl, (h.up (.of gg.f)).h gg.fh, pfsn (by decide +kernel), F2, D, gg.fh, Up.up gg.f hP.w, fun v F3 H3 g3 hv => ?_⟩
    obtain ⟨c, rfl, hc⟩ := rls hv
    refine ⟨c, _, rfl, .inl (sql_s g3.fh hc), rfl, flat_strs _, k1 rfl _ F3 H3 g3 ?_⟩
    show V.bl (inV (.str y) (D.names.map V.str)) = V.bl true
    rw [inv_str, decide_eq_true hy']
  · obtain ⟨l, el, hl⟩ := rlb hL
    cases el
    have gg := g1.trans g2
    refine ⟨L, _, rfl, sql_s g2.fh hl, _, rfl, ?_⟩
    rw [all_true]
    refine iteF ⟨_, rfl, _, rfl, rfl, _, rfl, iteN (fun z => hne (V.str.inj z)) ?_⟩
    refine ⟨_, rfl, p, dx, _, rfl, (h.up (.of gg.f)).h gg.fh, pfsn (by decide +kernel), _, rfl, _, rfl, F2, D, ea, eb, _, _, gg.fh, Up.up gg.f hP.w, rfl, rfl, sc_of hea, sc_of heb, fun F3 H3 g3 => ⟨_, rfl, ?_⟩⟩
    rw [show adjS (D.sc ea) (D.sc eb) = true from hadj]
    have gg3 := gg.trans g3
    refine iteF ⟨_, rfl, p, dx, _, rfl, (h.up (.of gg3.f)).h gg3.fh, pfsn (by decide +kernel), _, rfl, F3, D, as, gg3.fh, Up.up gg3.f hP, Up.up gg3.f h2, ok, fun F4 H4 g4 => ⟨_, rfl, iteF ?_⟩⟩
    have gg4 := gg3.trans g4
    refine ⟨_, rfl, p, dx, _, rfl, (h.up (.of gg4.f)).h gg4.fh, pfsn (by decide +kernel), _, rfl, _, rfl, F4, D, ea, as, gg4.fh, Up.up gg4.f hP, rfl, hea, Up.up gg4.f h2, ok, fun F5 H5 g5 => ?_⟩
    rw [oa]
    have gg5 := gg4.trans g5
    refine ⟨_, rfl, iteT ?_⟩
    refine ⟨_, rfl, p, dx, _, rfl, (h.up (.of gg5.f)).h gg5.fh, pfsn (by decide +kernel), _, rfl, _, rfl, F5, D, eb, as, gg5.fh, Up.up gg5.f hP, rfl, heb, Up.up gg5.f h2, ok, fun F6 H6 g6 => ?_⟩
    rw [ob]
    exact k _ _ (gg5.trans g6)
end Rs
/-! text R14 -/
set_option Elab.async false
set_option linter.all false
set_option maxRecDepth 100000
set_option maxHeartbeats 4000000
namespace Rs
open PySem PySem.Spec PyProof.Rows L2
/-! ### tapes -/
def okTape (n : Int) (t : List Int) : Prop := (1 ≤ t.length ∧ t.length ≤ 25) ∧ ∀ v ∈ t, 0 ≤ v ∧ v < n
def sp_is_value_list (K : PySem.W.Frag) : Sp := fun vs H Q _ => match vs with
  | [v, u, z, l] => ∃ F D x n t, Same F H ∧ rPl K F v D ∧ u = .str x ∧ D.vars.lookup x = some n ∧ rL K rI F z t ∧ l = .int 1 ∧ okTape n t ∧ ∀ F' H', Pu F H F' H' → Q (.bl true) H'
  | _ => False
theorem sc_is_value_list : FnScope ["problem", "variable", "value", "least", "top", "item"] ["problem", "variable", "value", "least"] (defScope s_is_value_list) := C8.fnScope_by (by decide +kernel)
theorem c_is_value_list {P : Program} {w : World} {K : PySem.W.Frag} {mg : Str → Option Value} {base hp : Heap} (T : Tx K mg hp) : C8.Cal P w K mg base 2 "is_value_list" (sp_is_value_list K) [.int 1] := by
  obtain ⟨fd, F⟩ := T.fd_is_value_list
  obtain ⟨ks, hv, hb⟩ := F.binds0 (ps := ["problem", "variable", "value", "least"]) 3 (by simp) rfl fun D doc pm an cdv ct us ks hu hk => match us, ks, hu, hk with | [_, _, _], [_], _, _ => ⟨_, _, _, _, _, _, rfl, rfl, rfl⟩
  refine ⟨_, fd, _, ks, fnok_of F sc_is_value_list (fun vs H Q E h => by unfold sp_is_value_list at h; split at h <;> first | rfl | exact h.elim) (fun cdv A outer s H vs Q E hr h => ?_), T.gl_is_value_list, F.kp, hb, hv⟩
  have nd := sc_is_value_list.nd
  have hu := hu_of hr
  unfold sp_is_value_list at h
  split at h
  case h_2 => exact h.elim
  obtain ⟨F, D, x, n, t, e, hP, rfl, hx, hT, rfl, ⟨⟨t1, t25⟩, tv⟩, k⟩ := h
  obtain ⟨p, dx, d1, d2, d3, rfl, h⟩ := id hP
  obtain ⟨a, rfl, ha⟩ := rli hT
  refine ⟨_, (pss_cons (ps_if (PW.pt (pw_or (pt_not (pt_val (C8.pe_c (c_is_list T) hr (by decide) (by rfl) (pa_cons (pv 2) pa_nil)))) (pw_or1 (pt_not (pt_chain op_le op_le (pv 3) (pe_callB call_len_seq (by rfl) T.fr_len (by decide +kernel) (pa_cons (pv 2) pa_nil)) (C8.pe_gc (by rfl) T.k_MAX_TAPE)))))) (pss_one (ps_ret pe_bl)) pss_nil)
      (pss_cons (ps_set (i := 4) nd rfl (Or.inr rfl) (pe_op op_sub (C8.pe_mt (c_Problem_size T) hr (by decide) (pv 0) (pa_cons (pv 1) pa_nil)) pe_int))
      (pss_one (ps_ret (pe_callB (cr_all rfl) (by rfl) T.fr_all (by decide +kernel) (pa_cons (pe_lc (own := [("item", 5)]) (g := (gName 5)) rfl nd (pi_list (pv 2)) (blkOk_by (own := [("item", 5)]) (N := ["problem", "variable", "value", "least", "top", "item"]) (sc := defScope s_is_value_list) (by decide +kernel)) (fun _ _ _ _ _ => (pg_name (i := 5) nd rfl (Or.inl rfl))) (fun _ _ _ _ _ => pts_nil) (fun _ _ _ _ _ => (C8.pe_c (c_is_integer T) hr (by decide) (by rfl) (pa_cons (pv 5) (pa_cons pe_int (pa_cons (pv 4) pa_nil)))))) pa_nil)))))), ?_⟩
  refine ⟨_, rfl, F, a, _, rfl, e, sql_s e ha, fun F1 H1 g1 => ⟨_, rfl, iteF ⟨_, rfl, _, rfl, a, _, rfl, .inl (sql_s g1.fh (sql_s g1.f ha)), _, _, rfl, rfl, _, rfl, iteY (by rw [List.length_map]; omega) ⟨_, _, rfl, rfl, _, rfl, ?_⟩⟩⟩⟩
  rw [decide_eq_true (show (((t.map V.int).length : Nat) : Int) ≤ 40 by rw [List.length_map]; omega)]
  refine iteF ⟨_, rfl, p, dx, _, rfl, (h.up (.of g1.f)).h g1.fh, pfsn (by decide +kernel), _, rfl, D, x, n, Up.up (g1.f.trans g1.fh) hP, rfl, hx, _, _, rfl, rfl, ?_⟩
  refine ⟨_, rfl, a, rfl, ⟨_, sql_s g1.fh (sql_s g1.f ha)⟩, ?_⟩
  refine lcL (K := K) (RA := rI) (R := rB) (f := fun _ => true) (p := fun _ => true) g1.fh (sql_s g1.f ha) (int_all2 _) (by omega) (fun y v F2 H2 hy g2 hv Kt Kf k1 k2 => ?_) (fun L F2 H2 g2 hL => ?_)
  · cases hv
    obtain ⟨b0, b1⟩ := tv y hy
    refine ⟨rfl, _, rfl, _, rfl, _, _, _, rfl, rfl, rfl, ?_⟩
    rw [decide_eq_true b0, decide_eq_true (show y ≤ n - 1 by omega)]
    exact k1 rfl _ F2 H2 (Gr.refl g2.fh) rfl
  · obtain ⟨l, el, hl⟩ := rlb hL
    cases el
    refine ⟨L, _, rfl, sql_s g2.fh hl, ?_⟩
    rw [all_true]
    exact k _ _ (g1.trans g2)
/-- tapes in any order -/
def okTapes (vars : List (Str × Int)) (tps : List (Str × List Int)) : Prop := tps.length = vars.length ∧ (∀ q ∈ vars, ∃ t, tps.lookup q.1 = some t ∧ okTape q.2 t) ∧ (tps.map fun q => (q.2.length : Int)).sum ≤ 200
def sp_check_tapes (K : PySem.W.Frag) : Sp := fun vs H Q _ => match vs with
  | [v, u] => ∃ F D tps d kvs, Same F H ∧ rP1 K F v D ∧ u = .ref d ∧ F d = some (.dK kvs) ∧ AllD (rL K rI) F kvs tps ∧ okTapes D.vars tps ∧ ∀ F' H', Pu F H F' H' → Q .non H'
  | _ => False
theorem fst_map {α : Type} (l : List (Str × α)) : ((l.filter fun _ => true).map fun q => q.1) = l.map (·.1) := by rw [ptrue]
theorem sc_check_tapes : FnScope ["problem", "tapes", "names", "count", "name", "size", "tape"] ["problem", "tapes"] (defScope s_check_tapes) := C8.fnScope_by (by decide +kernel)
theorem c_check_tapes {P : Program} {w : World} {K : PySem.W.Frag} {mg : Str → Option Value} {base hp : Heap} (T : Tx K mg hp) : C8.Cal P w K mg base 3 "check_tapes" (sp_check_tapes K) [] := by
  obtain ⟨fd, F⟩ := T.fd_check_tapes
  refine mkCal T.gl_check_tapes F sc_check_tapes (fun _ _ _ _ _ _ us hl => match us, hl with | [_, _], _ => rfl) (fun vs H Q E h => by unfold sp_check_tapes at h; split at h <;> first | rfl | exact h.elim) (fun cdv A outer s H vs Q E hr h => ?_)
  have nd := sc_check_tapes.nd
  have hu := hu_of hr
  unfold sp_check_tapes at h
  split at h
  case h_2 => exact h.elim
  obtain ⟨F, D, tps, d, kvs, e, hP, rfl, hd, hall, ⟨tl, tv, ts⟩, k⟩ := h
  obtain ⟨p, dx, d1, d2, d3, rfl, h, hd1⟩ := id hP
  refine ⟨_, (pss_cons (ps_expr (C8.pe_c (c_check_problem T) hr (by decide) (by rfl) (pa_cons (pv 0) pa_nil)))
      (pss_cons (ps_setLc (i := 2) (own := [("name", 4), ("size", 5)]) (g := (gTup K 2 (gCons (gName 4) (gCons (gName 5) gNil)))) rfl nd rfl rfl (sw_true rfl rfl rfl (by decide +kernel)) (pi_list (C8.pe_mt0 (c_Problem_variables T) hr (by decide) (pv 0))) (blkOk_by (own := [("name", 4), ("size", 5)]) (N := ["problem", "tapes", "names", "count", "name", "size", "tape"]) (sc := defScope s_check_tapes) (by decide +kernel)) (fun _ _ _ _ _ => (pg_tup rfl (pgs_cons (pg_name (i := 4) nd rfl (Or.inl rfl)) (pgs_cons (pg_name (i := 5) nd rfl (Or.inl rfl)) pgs_nil)))) (fun _ _ _ _ _ => pts_nil) (fun _ _ _ _ _ => (pv 4)))
      (pss_cons (ps_if (PW.pt (pw_or (pt_not (pt_val (pe_callB call_isi (by rfl) T.fr_isinstance (by decide +kernel) (pa_cons (pv 1) (pa_cons (pe_bltn (v := .ty "dict") (u := .type "dict") (by rfl) T.fr_dict (by decide +kernel) rfl) pa_nil))))) (pw_or (pt_cmpR op_ne (pe_callB call_lenR (by rfl) T.fr_len (by decide +kernel) (pa_cons (pv 1) pa_nil)) (pe_callB call_len_seq (by rfl) T.fr_len (by decide +kernel) (pa_cons (pv 2) pa_nil)) (nomark _)) (pw_or1 (pt_not (pt_val (pe_callB (cr_all rfl) (by rfl) T.fr_all (by decide +kernel) (pa_cons (pe_lc (own := [("name", 4)]) (g := (gName 4)) rfl nd (pi_list (pv 2)) (blkOk_by (own := [("name", 4)]) (N := ["problem", "tapes", "names", "count", "name", "size", "tape"]) (sc := defScope s_check_tapes) (by decide +kernel)) (fun _ _ _ _ _ => (pg_name (i := 4) nd rfl (Or.inl rfl))) (fun _ _ _ _ _ => pts_nil) (fun _ _ _ _ _ => (pe_cmp (pc_din hu (pv 4) (pv 1))))) pa_nil)))))))) pss_never pss_nil)
      (pss_cons (ps_if (pt_not (pt_val (pe_callB (cr_all rfl) (by rfl) T.fr_all (by decide +kernel) (pa_cons (pe_lc (own := [("name", 4)]) (g := (gName 4)) rfl nd (pi_list (pv 2)) (blkOk_by (own := [("name", 4)]) (N := ["problem", "tapes", "names", "count", "name", "size", "tape"]) (sc := defScope s_check_tapes) (by decide +kernel)) (fun _ _ _ _ _ => (pg_name (i := 4) nd rfl (Or.inl rfl))) (fun _ _ _ _ _ => pts_nil) (fun _ _ _ _ _ => (C8.pe_c (c_is_value_list T) hr (by decide) (by rfl) (pa_cons (pv 0) (pa_cons (pv 4) (pa_cons (pe_dget hu (pv 1) (pv 4) (fun _ _ => rfl)) pa_nil)))))) pa_nil)))) pss_never pss_nil)
      (pss_cons (ps_set (i := 3) nd rfl (Or.inl rfl) (pe_callB (cr_sum rfl) (by rfl) T.fr_sum (by decide +kernel) (pa_cons (pe_lock (pe_lc (own := [("tape", 6)]) (g := (gName 6)) rfl nd (pi_values (pv 1)) (blkOk_by (own := [("tape", 6)]) (N := ["problem", "tapes", "names", "count", "name", "size", "tape"]) (sc := defScope s_check_tapes) (by decide +kernel)) (fun _ _ _ _ _ => (pg_name (i := 6) nd rfl (Or.inl rfl))) (fun _ _ _ _ _ => pts_nil) (fun _ _ _ _ _ => (pe_callB (call_len_seqK (K := K) rfl) (by rfl) T.fr_len (by decide +kernel) (pa_cons (pv 6) pa_nil))))) pa_nil)))
      (pss_one (ps_if (pt_cmpR op_gt (pv 3) (C8.pe_gc (by rfl) T.k_MAX_VALUES) (nomark _)) pss_never pss_nil))))))), ?_⟩
  have l8 := h.ok.v.1.2
  have hTp : rD (rL K rI) F (.ref d) tps := ⟨d, kvs, rfl, .inl hd, hall⟩
  refine ⟨_, rfl, D, Up.up e hP.w, ?_⟩
  refine ⟨_, rfl, p, dx, _, rfl, h.h e, pfsn (by decide +kernel), F, D, e, hP, fun v F1 H1 g1 hv => ?_⟩
  obtain ⟨av, xv, rfl, hav, hxv⟩ := hv
  refine ⟨av, rfl, ⟨_, sql_s g1.fh hav⟩, ?_⟩
  refine lcL (K := K) (RA := r2 K rS rI) (R := rS) (f := fun q : Str × Int => q.1) (p := fun _ => true) g1.fh hav hxv (by omega) (fun y v F2 H2 hy g2 hv Kt Kf k1 k2 => ?_) (fun L F2 H2 g2 hL => ?_)
  · obtain ⟨b, v0, v1, rfl, hb, h3, h4⟩ := hv
    exact ⟨b, _, rfl, sqt_s g2.fh hb, rfl, _, _, rfl, _, _, rfl, rfl, rfl, _, rfl, k1 rfl _ F2 H2 (Gr.refl g2.fh) h3⟩
  rw [fst_map] at hL
  obtain ⟨l, el, hl⟩ := rls hL
  cases el
  have gg := g1.trans g2
  have dd : Rd H2 d (.dK kvs) := .inl (gg.fh _ _ (gg.f _ _ hd))
  have lk : kvs.length = tps.length := AllD.length hall
  refine ⟨_, rfl, _, _, _, _, _, rfl, .ty _, tyx_d dd, kd K, _, rfl, iteF ⟨_, rfl, d, kvs, rfl, dd, _, rfl, L, _, rfl, .inl (sql_s g2.fh hl), rfl, _, rfl, iteYn (by rw [List.length_map, List.length_map, lk, tl]) ?_⟩⟩
  refine ⟨_, rfl, L, rfl, ⟨_, sql_s g2.fh hl⟩, ?_⟩
  refine lcL (K := K) (RA := rS) (R := rB) (f := fun _ => true) (p := fun _ => true) g2.fh hl (str_all2 _) (by rw [List.length_map]; omega) (fun y v F3 H3 hy g3 hv Kt Kf k1 k2 => ?_) (fun L2 F3 H3 g3 hL2 => ?_)
  · cases hv
    obtain ⟨q, hq1, hq2⟩ := List.mem_map.mp hy
    obtain ⟨t, ht, _⟩ := tv q hq1
    have gg3 := gg.trans g3
    obtain ⟨b, u, eb, hg, hu⟩ := dgot gg3.fh (Up.up gg3.f hTp) ht
    cases eb
    rw [hq2] at hg
    exact ⟨rfl, _, rfl, _, rfl, d, _, rfl, hg, k1 rfl _ F3 H3 (Gr.refl g3.fh) rfl⟩
  obtain ⟨l2, el2, hl2⟩ := rlb hL2
  cases el2
  refine ⟨L2, _, rfl, sql_s g3.fh hl2, _, rfl, ?_⟩
  rw [all_true]
  have gg3 := gg.trans g3
  refine iteF ⟨_, rfl, L, rfl, ⟨_, sql_s g3.fh (sql_s g3.f hl)⟩, ?_⟩
  refine lcL (K := K) (RA := rS) (R := rB) (f := fun _ => true) (p := fun _ => true) g3.fh (sql_s g3.f hl) (str_all2 _) (by rw [List.length_map]; omega) (fun y v F4 H4 hy g4 hv Kt Kf k1 k2 => ?_) (fun L3 F4 H4 g4 hL3 => ?_)
  · cases hv
    obtain ⟨q, hq1, hq2⟩ := List.mem_map.mp hy
    obtain ⟨t, ht, hok⟩ := tv q hq1
    have gg4 := gg3.trans g4
    obtain ⟨b, u, eb, hg, hu⟩ := dgot gg4.fh (Up.up gg4.f hTp) ht
    cases eb
    rw [hq2] at hg
    have hn : D.vars.lookup y = some q.2 := by rw [← hq2]; exact lookup_nd h.ok.v.2.2 hq1
    exact ⟨rfl, _, rfl, _, rfl, _, rfl, _, rfl, d, _, rfl, hg, F4, D, y, q.2, t, gg4.fh, Up.up gg4.f hP.w, rfl, hn, hu, rfl, hok, fun F5 H5 g5 => k1 rfl _ F5 H5 g5 rfl⟩
  obtain ⟨l3, el3, hl3⟩ := rlb hL3
  cases el3
  refine ⟨L3, _, rfl, sql_s g4.fh hl3, _, rfl, ?_⟩
  rw [all_true]
  have gg4 := gg3.trans g4
  refine iteF ?_
  refine lockE gg4.fh (gg4.f _ _ hd) fun od F0 H0 f0 s0 x0 ne Q' hQ' => ?_
  refine ⟨_, rfl, d, od, kvs, rfl, s0 _ _ f0, ?_⟩
  refine lcV (K := K) (RA := rL K rI) (R := rI) tps (fun q => (q.2.length : Int)) (fun _ => true) s0 f0 (AllD.ux x0 (AllD.up gg4.f hall)) (by omega) (fun y v F5 H5 hy g5 hv Kt Kf k1 k2 => ?_) (fun L4 F5 H5 g5 hL4 => ?_)
  · obtain ⟨b, rfl, hb⟩ := rli hv
    refine ⟨rfl, _, rfl, b, _, rfl, .inl (sql_s g5.fh hb), k1 rfl _ F5 H5 (Gr.refl g5.fh) ?_⟩
    show V.int _ = V.int _
    rw [List.length_map]
  rw [ptrue] at hL4
  refine hQ' _ F5 H5 g5 fun F6 H6 g6 x6 => ?_
  obtain ⟨l4, el4, hl4⟩ := rli hL4
  cases el4
  refine ⟨L4, _, rfl, sql_s g6.fh (sql_x x6 hl4), ?_⟩
  refine ⟨_, rfl, _, _, rfl, rfl, _, rfl, iteN (by omega) ?_⟩
  exact k _ _ (gg4.trans g6)
end Rs
/-! text R15 -/
set_option Elab.async false
set_option linter.all false
set_option maxRecDepth 100000
set_option maxHeartbeats 4000000
namespace Rs
open PySem PySem.Spec PyProof.Rows L2
theorem lockE2 {F H : Hp} {d : Addr} {kvs : List (Key × V)} {σ : L2.St} {t : TE} {Q : VK} (e : Same F H) (hF : F d = some (.dK kvs))
    (k : ∀ od F0 H0, F0 d = some (.frz od (.dK kvs)) → Same F0 H0 → XF F F0 → (∀ b, b ≠ d → F0 b = F b) → (∀ b, b ≠ d → H0 b = H b) → ∀ Q' : VK, (∀ v F1 H1, Pu F0 H0 F1 H1 → (∀ F2 H2, Pu F H F2 H2 → XF F1 F2 → (∀ b, b ≠ d → F2 b = F1 b) → (∀ b, b ≠ d → H2 b = H1 b) → Q v H2) → Q' v H1) → t σ H0 Q') : tLockE t σ H Q := by
  refine ⟨d, .dK kvs, e _ _ hF, trivial, fun od => ?_⟩
  refine k od (upd F d (.frz od (.dK kvs))) _ upd_same (Same.lock e) (XF.lock hF) (fun b hb => upd_ne hb) (fun b hb => upd_ne hb) _ fun v F1 H1 g q => ?_
  obtain ⟨g2, f1, h1⟩ := Gr.unlock e hF (fun z => z) g
  exact ⟨h1, q _ _ g2 (XF.unlock f1) (fun b hb => upd_ne hb) (fun b hb => upd_ne hb)⟩
/-! ### samplers as data -/
structure SD where
  D : PD
  tapes : List (Str × List Int)
  pos : List (Str × Int)
  steps : List (Str × List Int)
def SD.tape (S : SD) (x : Str) : List Int := (S.tapes.lookup x).getD []
def SD.at (S : SD) (x : Str) : Int := (S.pos.lookup x).getD 0
def SD.cur (S : SD) (x : Str) : Int := ((S.tape x)[(S.at x).toNat]?).getD 0
def SD.asg (S : SD) : List Int := S.D.vars.map fun q => S.cur q.1
structure SD.Ok (S : SD) : Prop where
  tn : S.tapes.map (·.1) = S.D.vars.map (·.1)
  pn : S.pos.map (·.1) = S.D.vars.map (·.1)
  tv : ∀ q ∈ S.D.vars, okTape q.2 (S.tape q.1)
  pv : ∀ q ∈ S.D.vars, 0 ≤ S.at q.1 ∧ S.at q.1 < (S.tape q.1).length
  sl : S.steps.length ≤ 240
abbrev posK (l : List (Str × Int)) : List (Key × V) := l.map fun q => (Sum.inr q.1, .int q.2)
theorem pos_all {F : Hp} : ∀ l : List (Str × Int), AllD rI F (posK l) l
  | [] => Paired.nil
  | q :: l => Paired.cons ⟨rfl, rfl⟩ (pos_all l)
theorem pos_eq {F : Hp} : ∀ {kvs : List (Key × V)} {l : List (Str × Int)}, AllD rI F kvs l → kvs = posK l
  | [], [], _ => rfl
  | kv :: kvs, [], h => by cases h
  | [], q :: l, h => by cases h
  | kv :: kvs, q :: l, h => by
    cases h with
    | cons r t =>
      obtain ⟨k, v⟩ := kv
      obtain ⟨r1, r2⟩ := r
      have r1 : k = Sum.inr q.1 := r1
      have r2 : v = .int q.2 := r2
      rw [pos_eq t, r1, r2]
      rfl
def sfs (p dt dp ls : Addr) (act : Bool) : List (Str × V) := [("own_problem", .ref p), ("tape_table", .ref dt), ("position_table", .ref dp), ("step_list", .ref ls), ("run_active", .bl act)]
theorem sn12 : ¬ (("tape_table" : Str) = "own_problem") := by decide +kernel
theorem sn13 : ¬ (("position_table" : Str) = "own_problem") := by decide +kernel
theorem sn14 : ¬ (("step_list" : Str) = "own_problem") := by decide +kernel
theorem sn15 : ¬ (("run_active" : Str) = "own_problem") := by decide +kernel
theorem sn23 : ¬ (("position_table" : Str) = "tape_table") := by decide +kernel
theorem sn24 : ¬ (("step_list" : Str) = "tape_table") := by decide +kernel
theorem sn25 : ¬ (("run_active" : Str) = "tape_table") := by decide +kernel
theorem sn34 : ¬ (("step_list" : Str) = "position_table") := by decide +kernel
theorem sn35 : ¬ (("run_active" : Str) = "position_table") := by decide +kernel
theorem sn45 : ¬ (("run_active" : Str) = "step_list") := by decide +kernel
section
variable {p dt dp ls : Addr} {act : Bool}
theorem sfs1 : (sfs p dt dp ls act).lookup ("own_problem" : Str) = some (.ref p) := lk0
theorem sfs2 : (sfs p dt dp ls act).lookup ("tape_table" : Str) = some (.ref dt) := (lk1 sn12).trans lk0
theorem sfs3 : (sfs p dt dp ls act).lookup ("position_table" : Str) = some (.ref dp) := (lk1 sn13).trans ((lk1 sn23).trans lk0)
theorem sfs4 : (sfs p dt dp ls act).lookup ("step_list" : Str) = some (.ref ls) := (lk1 sn14).trans ((lk1 sn24).trans ((lk1 sn34).trans lk0))
theorem sfs5 : (sfs p dt dp ls act).lookup ("run_active" : Str) = some (.bl act) := (lk1 sn15).trans ((lk1 sn25).trans ((lk1 sn35).trans ((lk1 sn45).trans lk0)))
def noS (m : Str) : Prop := ¬ m = "own_problem" ∧ ¬ m = "tape_table" ∧ ¬ m = "position_table" ∧ ¬ m = "step_list" ∧ ¬ m = "run_active"
instance (m : Str) : Decidable (noS m) := by unfold noS; infer_instance
theorem sfsn {m : Str} (h : noS m) : (sfs p dt dp ls act).lookup m = none := (lk1 h.1).trans ((lk1 h.2.1).trans ((lk1 h.2.2.1).trans ((lk1 h.2.2.2.1).trans ((lk1 h.2.2.2.2).trans rfl))))
theorem sput5 {b : Bool} : putF ("run_active" : Str) (.bl b) (sfs p dt dp ls act) = sfs p dt dp ls b := by
  unfold sfs
  rw [putF_ne (fun z => sn15 z.symm), putF_ne (fun z => sn25 z.symm), putF_ne (fun z => sn35 z.symm), putF_ne (fun z => sn45 z.symm), putF_eq]
end
structure SAt (K : PySem.W.Frag) (F H : Hp) (s sx p dt dp ls : Addr) (act : Bool) (S : SD) : Prop where
  ob : Mt F H s (.ins (a_Sampler K) sx (sfs p dt dp ls act))
  pr : rP K F (.ref p) S.D
  tp : ∃ kvs, F dt = some (.dK kvs) ∧ AllD (rL K rI) F kvs S.tapes
  ps : Mt F H dp (.dK (posK S.pos))
  st : ∃ xs, Mt F H ls (.lst xs) ∧ All2 (r2 K rS (rU K rI)) F xs S.steps
  ok : S.Ok
theorem SAt.pu {K : PySem.W.Frag} {F H F' H' : Hp} {s sx p dt dp ls : Addr} {act : Bool} {S : SD} (h : SAt K F H s sx p dt dp ls act S) (g : Pu F H F' H') : SAt K F' H' s sx p dt dp ls act S where
  ob := h.ob.pu g
  pr := Up.up g.f h.pr
  tp := let ⟨kvs, h1, h2⟩ := h.tp; ⟨kvs, g.f _ _ h1, h2.up g.f⟩
  ps := h.ps.pu g
  st := let ⟨xs, h1, h2⟩ := h.st; ⟨xs, h1.pu g, h2.up g.f⟩
  ok := h.ok
theorem SAt.dOk {K : PySem.W.Frag} {F H : Hp} {s sx p dt dp ls : Addr} {act : Bool} {S : SD} (h : SAt K F H s sx p dt dp ls act S) : S.D.Ok := let ⟨_, _, _, _, _, _, h2, _⟩ := h.pr; h2.ok
/-- a new sampler -/
def SD0 (D : PD) (tps : List (Str × List Int)) : SD := ⟨D, D.vars.map (fun q => (q.1, (tps.lookup q.1).getD [])), D.vars.map (fun q => (q.1, 0)), []⟩
theorem look_map {α β : Type} {f : Str × α → β} {x : Str} : ∀ {l : List (Str × α)}, (l.map fun q => (q.1, f q)).lookup x = (l.lookup x).map fun a => f (x, a)
  | [] => rfl
  | (k, v) :: l => by
    by_cases e : x = k
    · subst e
      simp [List.lookup]
    · show (match x == k with | true => some (f (k, v)) | false => (l.map fun q => (q.1, f q)).lookup x) = (match x == k with | true => some v | false => l.lookup x).map _
      rw [beq_false_of_ne e]
      exact look_map
theorem SD0.ok {D : PD} {tps : List (Str × List Int)} (okD : D.Ok) (ok : okTapes D.vars tps) : (SD0 D tps).Ok := by
  have nd := okD.v.2.2
  have ht : ∀ q ∈ D.vars, (SD0 D tps).tape q.1 = (tps.lookup q.1).getD [] := fun q hq => by
    show ((D.vars.map fun q => (q.1, (tps.lookup q.1).getD [])).lookup q.1).getD [] = _
    rw [look_map (f := fun q : Str × Int => (tps.lookup q.1).getD []), lookup_nd nd hq]
    rfl
  have hp : ∀ q ∈ D.vars, (SD0 D tps).at q.1 = 0 := fun q hq => by
    show ((D.vars.map fun q => (q.1, (0 : Int))).lookup q.1).getD 0 = _
    rw [look_map (f := fun _ : Str × Int => (0 : Int)), lookup_nd nd hq]
    rfl
  refine ⟨by show (D.vars.map _).map _ = _; rw [List.map_map]; rfl, by show (D.vars.map _).map _ = _; rw [List.map_map]; rfl, fun q hq => ?_, fun q hq => ?_, by show (0 : Nat) ≤ 240; omega⟩
  · have hq : q ∈ D.vars := hq
    obtain ⟨t, h1, h2⟩ := ok.2.1 q hq
    rw [ht q hq, h1]
    exact h2
  · have hq : q ∈ D.vars := hq
    obtain ⟨t, h1, h2⟩ := ok.2.1 q hq
    rw [ht q hq, hp q hq, h1]
    exact ⟨Int.le_refl _, by show (0 : Int) < (t.length : Nat); have := h2.1.1; omega⟩
def sp_Sampler (K : PySem.W.Frag) : Sp := fun vs H Q _ => match vs with
  | [u, v, z] => ∃ H1 F s sx D tps d kvs, u = .ref s ∧ H = upd (upd H1 sx (.own s)) s (.ins (a_Sampler K) sx []) ∧ H1 s = none ∧ H1 sx = none ∧ sx ≠ s ∧ Same F H1 ∧ rP K F v D ∧ z = .ref d ∧ F d = some (.dK kvs) ∧ AllD (rL K rI) F kvs tps ∧ okTapes D.vars tps ∧
      ∀ F' H' p dt dp ls, Pu F H1 F' H' → v = .ref p → H1 dp = none → H1 ls = none → SAt K F' H' s sx p dt dp ls false (SD0 D tps) → Q .non H'
  | _ => False
theorem sp2 {p dt : Addr} : putF ("tape_table" : Str) (.ref dt) ([(("own_problem" : Str), V.ref p)] : List (Str × V)) = ([(("own_problem" : Str), V.ref p), (("tape_table" : Str), V.ref dt)] : List (Str × V)) := by
  rw [putF_ne (fun z => sn12 z.symm), putF_nil]
theorem sp3 {p dt dp : Addr} : putF ("position_table" : Str) (.ref dp) ([(("own_problem" : Str), V.ref p), (("tape_table" : Str), V.ref dt)] : List (Str × V)) = ([(("own_problem" : Str), V.ref p), (("tape_table" : Str), V.ref dt), (("position_table" : Str), V.ref dp)] : List (Str × V)) := by
  rw [putF_ne (fun z => sn13 z.symm), putF_ne (fun z => sn23 z.symm), putF_nil]
theorem sp4 {p dt dp ls : Addr} : putF ("step_list" : Str) (.ref ls) ([(("own_problem" : Str), V.ref p), (("tape_table" : Str), V.ref dt), (("position_table" : Str), V.ref dp)] : List (Str × V)) = ([(("own_problem" : Str), V.ref p), (("tape_table" : Str), V.ref dt), (("position_table" : Str), V.ref dp), (("step_list" : Str), V.ref ls)] : List (Str × V)) := by
  rw [putF_ne (fun z => sn14 z.symm), putF_ne (fun z => sn24 z.symm), putF_ne (fun z => sn34 z.symm), putF_nil]
theorem sp5 {p dt dp ls : Addr} {b : Bool} : putF ("run_active" : Str) (.bl b) ([(("own_problem" : Str), V.ref p), (("tape_table" : Str), V.ref dt), (("position_table" : Str), V.ref dp), (("step_list" : Str), V.ref ls)] : List (Str × V)) = sfs p dt dp ls b := by
  rw [putF_ne (fun z => sn15 z.symm), putF_ne (fun z => sn25 z.symm), putF_ne (fun z => sn35 z.symm), putF_ne (fun z => sn45 z.symm), putF_nil]
  rfl
theorem sc_Sampler_init : FnScope ["self", "problem", "tapes", "name", "size"] ["self", "problem", "tapes"] (defScope s_Sampler_init) := C8.fnScope_by (by decide +kernel)
theorem b_Sampler {P : Program} {w : World} {K : PySem.W.Frag} {mg : Str → Option Value} {base hp : Heap} (T : Tx K mg hp) : Body P w K mg base ["self", "problem", "tapes", "name", "size"] "Sampler.__init__" s_Sampler_init (He.ma K (He.ga K "Sampler") "__init__") 3 (sp_Sampler K) := by
  intro cdv A outer s H vs Q E hr h
  have nd := sc_Sampler_init.nd
  have hu := hu_of hr
  unfold sp_Sampler at h
  split at h
  case h_2 => exact h.elim
  obtain ⟨H1, F, s, sx, D, tps, d, kvs, rfl, rfl, np, ndx, ne, e, hP, rfl, hd, hall, ok, k⟩ := h
  obtain ⟨p, dx, d1, d2, d3, rfl, h, _⟩ := id hP
  refine ⟨_, (pss_cons (ps_expr (C8.pe_c (c_check_tapes T) hr (by decide) (by rfl) (pa_cons (pv 1) (pa_cons (pv 2) pa_nil))))
      (pss_cons (ps_fld (pv 0) (pv 1) rfl)
      (pss_cons (ps_fld (pv 0) (pe_dc (own := [("name", 3), ("size", 4)]) (g := (gTup K 2 (gCons (gName 3) (gCons (gName 4) gNil)))) rfl nd (pi_list (C8.pe_mt0 (c_Problem_variables T) hr (by decide) (pv 1))) (blkOk_by (own := [("name", 3), ("size", 4)]) (N := ["self", "problem", "tapes", "name", "size"]) (sc := defScope s_Sampler_init) (by decide +kernel)) (fun _ _ _ _ _ => (pg_tup rfl (pgs_cons (pg_name (i := 3) nd rfl (Or.inl rfl)) (pgs_cons (pg_name (i := 4) nd rfl (Or.inl rfl)) pgs_nil)))) (fun _ _ _ _ _ => pts_nil) (fun _ _ _ _ _ => (pv 3)) (fun _ _ _ _ _ => (pe_callTy (call_list_ofK (K := K) rfl) (by rfl) T.fr_list (by decide +kernel) (pa_cons (pe_dget hu (pv 2) (pv 3) (fun _ _ => rfl)) pa_nil)))) rfl)
      (pss_cons (ps_fld (pv 0) (pe_lock (pe_dc (own := [("name", 3)]) (g := (gName 3)) rfl nd (pi_keys (pe_fld (pv 0) rfl)) (blkOk_by (own := [("name", 3)]) (N := ["self", "problem", "tapes", "name", "size"]) (sc := defScope s_Sampler_init) (by decide +kernel)) (fun _ _ _ _ _ => (pg_name (i := 3) nd rfl (Or.inl rfl))) (fun _ _ _ _ _ => pts_nil) (fun _ _ _ _ _ => (pv 3)) (fun _ _ _ _ _ => pe_int))) rfl)
      (pss_cons (ps_fld (pv 0) (pe_lst pa_nil) rfl)
      (pss_one (ps_fld (pv 0) pe_bl rfl))))))), ?_⟩
  have g0 : Pu F H1 F (upd (upd H1 sx (.own s)) s (.ins (a_Sampler K) sx [])) := (Gr.newm e ndx).trans (Gr.newm (e.trans (upd_new ndx)) (by rw [upd_ne ne.symm]; exact np))
  have m0 : Mt F (upd (upd H1 sx (.own s)) s (.ins (a_Sampler K) sx [])) s (.ins (a_Sampler K) sx []) := ⟨e.free np, upd_same⟩
  have o0 : Mt F (upd (upd H1 sx (.own s)) s (.ins (a_Sampler K) sx [])) sx (.own s) := ⟨e.free ndx, by rw [upd_ne ne]; exact upd_same⟩
  have l8 := h.ok.v.1.2
  refine ⟨_, rfl, _, rfl, F, D, tps, d, kvs, g0.fh, hP.w1, rfl, hd, hall, ok, fun F1 H2 g1 => ?_⟩
  have g01 := g0.trans g1
  have m1 := m0.pu g1
  have o1 := o0.pu g1
  refine ⟨_, rfl, _, rfl, s, _, sx, _, rfl, m1.h, T.cl_Sampler, T.na_Sampler_own_problem, (by show 0 < 1000; decide), ?_⟩
  have g2 : Pu F H1 F1 (upd H2 s (.ins (a_Sampler K) sx ([(("own_problem" : Str), V.ref p)] : List (Str × V)))) := g01.mut m1.n np
  have m2 : Mt F1 (upd H2 s (.ins (a_Sampler K) sx ([(("own_problem" : Str), V.ref p)] : List (Str × V)))) s (.ins (a_Sampler K) sx ([(("own_problem" : Str), V.ref p)] : List (Str × V))) := m1.set
  have o2 : Mt F1 (upd H2 s (.ins (a_Sampler K) sx ([(("own_problem" : Str), V.ref p)] : List (Str × V)))) sx (.own s) := o1.other ne
  refine ⟨_, rfl, p, dx, _, rfl, (h.up (.of g2.f)).h g2.fh, pfsn (by decide +kernel), F1, D, g2.fh, Up.up g2.f hP.w1, fun v F2 H3 g3 hv => ?_⟩
  obtain ⟨av, xv, rfl, hav, hxv⟩ := hv
  have g23 := g2.trans g3
  have lv : xv.length = D.vars.length := hxv.length
  refine ⟨av, rfl, ⟨_, sql_s g3.fh hav⟩, ?_⟩
  refine dcW (K := K) (RA := r2 K rS rI) (R := rL K rI) (walk_list (K := K) (a := av) (xs := xv)) D.vars (fun q => q.1) (fun q => (tps.lookup q.1).getD []) g3.fh lv (by omega) h.ok.v.2.2 (fun F' H' g => sql_s g.fh (sql_s g.f hav)) ?_ (fun y v F' H' hy g hv Kt h1 => ?_) (fun dt F4 H4 kvt g4 nt nft h4 a4 => ?_)
  · rintro i x F' H' H'' hi g ⟨rfl, hx⟩
    obtain ⟨y, h1, h2⟩ := hxv.get hx
    exact ⟨y, F', h1, Gr.refl g.fh, Up.up g.f h2⟩
  · obtain ⟨b, v0, v1, rfl, hb, h3, h4⟩ := hv
    cases h3
    obtain ⟨t, ht, _⟩ := ok.2.1 y hy
    have gg := g23.trans g
    have hT : rD (rL K rI) F (.ref d) tps := ⟨d, kvs, rfl, .inl hd, hall⟩
    obtain ⟨d', u, ed, hg, hu'⟩ := dgot gg.fh (Up.up gg.f hT) ht
    cases ed
    obtain ⟨c, rfl, hc⟩ := rli hu'
    refine ⟨b, _, rfl, sqt_s g.fh hb, rfl, _, _, rfl, _, _, rfl, rfl, rfl, _, rfl, _, rfl, _, rfl, d, _, rfl, hg, c, _, rfl, .inl (sql_s g.fh hc), fun q nq => h1 _ _ _ (Gr.new g.fh nq) ?_⟩
    rw [ht]
    exact rli_of (SqL.of upd_same)
  have g5 : Pu F2 H3 (upd F4 dt (.dK kvt)) H4 := g4.frz nft nt h4
  have m5 := (m2.pu g3).pu g5
  have o5 := (o2.pu g3).pu g5
  refine ⟨_, rfl, s, _, sx, _, rfl, m5.h, T.cl_Sampler, T.na_Sampler_tape_table, (by show 1 < 1000; decide), ?_⟩
  rw [sp2]
  have g6 : Pu F H1 (upd F4 dt (.dK kvt)) (upd H4 s (.ins (a_Sampler K) sx ([(("own_problem" : Str), V.ref p), (("tape_table" : Str), V.ref dt)] : List (Str × V)))) := (g23.trans g5).mut m5.n np
  have m6 : Mt (upd F4 dt (.dK kvt)) (upd H4 s (.ins (a_Sampler K) sx ([(("own_problem" : Str), V.ref p), (("tape_table" : Str), V.ref dt)] : List (Str × V)))) s (.ins (a_Sampler K) sx ([(("own_problem" : Str), V.ref p), (("tape_table" : Str), V.ref dt)] : List (Str × V))) := m5.set
  have o6 : Mt (upd F4 dt (.dK kvt)) (upd H4 s (.ins (a_Sampler K) sx ([(("own_problem" : Str), V.ref p), (("tape_table" : Str), V.ref dt)] : List (Str × V)))) sx (.own s) := o5.other ne
  have ft : (upd F4 dt (.dK kvt)) dt = some (.dK kvt) := upd_same
  have a6 : AllD (rL K rI) (upd F4 dt (.dK kvt)) kvt (SD0 D tps).tapes := a4.up (upd_new nft)
  have sdt : s ≠ dt := fun z => by rw [z] at m6; rw [m6.n] at ft; cases ft
  have kk := keys_of (K := K) a6
  rw [show (SD0 D tps).tapes.map (·.1) = D.vars.map (·.1) by show (D.vars.map _).map _ = _; rw [List.map_map]; rfl] at kk
  have lk : kvt.length = (D.vars.map (·.1)).length := by
    have := congrArg List.length kk
    simpa using this
  delta tSeq sFld
  dsimp only
  refine lockE2 g6.fh ft fun od F0 H0 f0 s0 x0 nef neh Q' hQ' => ?_
  refine ⟨_, rfl, s, _, sx, _, _, rfl, (neh s sdt).trans m6.h, T.cl_Sampler, T.na_Sampler_tape_table, (lk1 sn12).trans lk0, dt, od, rfl, .inl ⟨kvt, s0 _ _ f0, ?_⟩⟩
  refine dcW (K := K) (RA := rS) (R := rI) (walk_keys (o := od) (d := dt) (kvs := kvt)) (D.vars.map (·.1)) (fun x => x) (fun _ => (0 : Int)) s0 lk (by rw [lk, List.length_map]; omega) (by rw [List.map_id']; exact h.ok.v.2.2) (fun F' H' g => g.fh _ _ (g.f _ _ f0)) ?_ (fun y v F' H' hy g hv Kt h1 => ?_) (fun dp F7 H7 kvp g7 np7 nf7 h7 a7 => ?_)
  · rintro i x F' H' H'' hi g ⟨rfl, kk', v, hk, rfl⟩
    have q : (kvt.map (·.1))[i]? = some kk' := by rw [List.getElem?_map, hk]; rfl
    rw [kk, List.getElem?_map] at q
    cases hq : (D.vars.map (·.1))[i]? with
    | none => rw [hq] at q; cases q
    | some y =>
      rw [hq] at q
      cases q
      exact ⟨y, F', rfl, Gr.refl g.fh, rfl⟩
  · cases hv
    exact ⟨rfl, _, rfl, h1 _ _ _ (Gr.refl g.fh) rfl⟩
  have pdt : dp ≠ dt := fun z => by rw [z, g7.f _ _ f0] at nf7; cases nf7
  refine hQ' _ F7 H7 g7 fun F8 H8 g8 x8 e8 h8 => ?_
  have m8 := m6.pu g8
  have o8 := o6.pu g8
  have mp : Mt F8 H8 dp (.dK kvp) := ⟨(e8 dp pdt).trans nf7, (h8 dp pdt).trans h7⟩
  have npd : H1 dp = none := g6.dom _ ((neh dp pdt).symm.trans np7)
  refine ⟨_, rfl, s, _, sx, _, rfl, m8.h, T.cl_Sampler, T.na_Sampler_position_table, (by show 2 < 1000; decide), ?_⟩
  rw [sp3]
  have hsp : dp ≠ s := mp.ne' m8 (fun z => nomatch z)
  have g9 : Pu F H1 F8 (upd H8 s (.ins (a_Sampler K) sx ([(("own_problem" : Str), V.ref p), (("tape_table" : Str), V.ref dt), (("position_table" : Str), V.ref dp)] : List (Str × V)))) := (g6.trans g8).mut m8.n np
  have m9 : Mt F8 (upd H8 s (.ins (a_Sampler K) sx ([(("own_problem" : Str), V.ref p), (("tape_table" : Str), V.ref dt), (("position_table" : Str), V.ref dp)] : List (Str × V)))) s (.ins (a_Sampler K) sx ([(("own_problem" : Str), V.ref p), (("tape_table" : Str), V.ref dt), (("position_table" : Str), V.ref dp)] : List (Str × V))) := m8.set
  have o9 : Mt F8 (upd H8 s (.ins (a_Sampler K) sx ([(("own_problem" : Str), V.ref p), (("tape_table" : Str), V.ref dt), (("position_table" : Str), V.ref dp)] : List (Str × V)))) sx (.own s) := o8.other ne
  have mp9 : Mt F8 (upd H8 s (.ins (a_Sampler K) sx ([(("own_problem" : Str), V.ref p), (("tape_table" : Str), V.ref dt), (("position_table" : Str), V.ref dp)] : List (Str × V)))) dp (.dK kvp) := mp.other hsp
  refine ⟨Nat.zero_le _, fun ls nls => ?_⟩
  have g10 : Pu F8 (upd H8 s (.ins (a_Sampler K) sx ([(("own_problem" : Str), V.ref p), (("tape_table" : Str), V.ref dt), (("position_table" : Str), V.ref dp)] : List (Str × V)))) F8 (upd (upd H8 s (.ins (a_Sampler K) sx ([(("own_problem" : Str), V.ref p), (("tape_table" : Str), V.ref dt), (("position_table" : Str), V.ref dp)] : List (Str × V)))) ls (.lst [])) := Gr.newm g9.fh nls
  have m10 := m9.pu g10
  have o10 := o9.pu g10
  have mp10 := mp9.pu g10
  have ml10 := Mt.new (o := .lst []) g9.fh nls
  refine ⟨_, rfl, s, _, sx, _, rfl, m10.h, T.cl_Sampler, T.na_Sampler_step_list, (by show 3 < 1000; decide), ?_⟩
  rw [sp4]
  refine ⟨_, rfl, s, _, sx, _, rfl, upd_same, T.cl_Sampler, T.na_Sampler_run_active, (by show 4 < 1000; decide), ?_⟩
  rw [sp5, upd_upd]
  have nd1 := m10.set (u := .ins (a_Sampler K) sx (sfs p dt dp ls false))
  have g11 := (g9.trans g10).mut (o := .ins (a_Sampler K) sx (sfs p dt dp ls false)) m10.n np
  have hls : ls ≠ s := ml10.ne' m10 (fun z => nomatch z)
  have mp11 := mp10.other (u := .ins (a_Sampler K) sx (sfs p dt dp ls false)) hsp
  have ml11 := ml10.other (u := .ins (a_Sampler K) sx (sfs p dt dp ls false)) hls
  have o11 := o10.other (u := .ins (a_Sampler K) sx (sfs p dt dp ls false)) ne
  have g12 := g11.frz o11.n ndx o11.h
  have sf : Same F8 (upd F8 sx (.own s)) := upd_new o11.n
  have kp : kvp = posK (SD0 D tps).pos := by
    show kvp = posK (D.vars.map fun q => (q.1, 0))
    have := pos_eq a7
    rw [List.map_map] at this
    exact this
  refine k _ _ p dt dp ls g12 rfl npd (g9.dom _ nls) ⟨⟨by rw [upd_ne ne.symm]; exact nd1.n, nd1.h⟩, Up.up g12.f hP, ⟨kvt, sf _ _ (g8.f _ _ ft), (a6.up g8.f).up sf⟩, ?_, ⟨[], ⟨?_, ml11.h⟩, Paired.nil⟩, SD0.ok h.ok ok⟩
  · rw [← kp]
    exact ⟨by rw [upd_ne (mp11.ne' o11 (fun z => nomatch z))]; exact mp11.n, mp11.h⟩
  · rw [upd_ne (ml11.ne' o11 (fun z => nomatch z))]
    exact ml11.n
theorem c_Sampler {P : Program} {w : World} {K : PySem.W.Frag} {mg : Str → Option Value} {base hp : Heap} (T : Tx K mg hp) : C8.Mak P w K mg base 4 "Sampler" (a_Sampler K) (sp_Sampler K) [] := by
  obtain ⟨fd, F⟩ := T.fd_Sampler_init
  exact ⟨_, fd, _, [], T.mk_Sampler, fnok_of F sc_Sampler_init (fun vs H Q E h => by unfold sp_Sampler at h; split at h <;> first | rfl | exact h.elim) (b_Sampler T), T.m_Sampler, F.bindsN (fun _ _ _ _ _ _ us hl => match us, hl with | [_, _, _], _ => rfl), .nil⟩
end Rs
/-! text R16 -/
set_option Elab.async false
set_option linter.all false
set_option maxRecDepth 100000
set_option maxHeartbeats 4000000
namespace Rs
open PySem PySem.Spec PyProof.Rows L2
section
variable {K : PySem.W.Frag} {F H : Hp} {s sx p dt dp ls : Addr} {act : Bool} {S : SD}
theorem SAt.nd (h : SAt K F H s sx p dt dp ls act S) : (S.D.vars.map (·.1)).Nodup := h.dOk.v.2.2
theorem SAt.tape (h : SAt K F H s sx p dt dp ls act S) {x : Str} (hx : x ∈ S.D.vars.map (·.1)) : S.tapes.lookup x = some (S.tape x) := by
  obtain ⟨y, hy⟩ := lookup_mem (l := S.tapes) (x := x) (by rw [h.ok.tn]; exact hx)
  unfold SD.tape
  rw [hy]
  rfl
theorem SAt.atp (h : SAt K F H s sx p dt dp ls act S) {x : Str} (hx : x ∈ S.D.vars.map (·.1)) : S.pos.lookup x = some (S.at x) := by
  obtain ⟨y, hy⟩ := lookup_mem (l := S.pos) (x := x) (by rw [h.ok.pn]; exact hx)
  unfold SD.at
  rw [hy]
  rfl
theorem SAt.cur (h : SAt K F H s sx p dt dp ls act S) {x : Str} (hx : x ∈ S.D.vars.map (·.1)) : (S.tape x)[(S.at x).toNat]? = some (S.cur x) ∧ S.at x = ((S.at x).toNat : Int) := by
  obtain ⟨q, hq, rfl⟩ := List.mem_map.mp hx
  obtain ⟨h0, h1⟩ := h.ok.pv q hq
  have hl : (S.at q.1).toNat < (S.tape q.1).length := by omega
  refine ⟨?_, by omega⟩
  unfold SD.cur
  rw [List.getElem?_eq_getElem hl]
  rfl
/-- the position of a variable, read -/
theorem SAt.dpos (h : SAt K F H s sx p dt dp ls act S) {x : Str} (hx : x ∈ S.D.vars.map (·.1)) : DGet H dp (.str x) (some (.int (S.at x))) := by
  obtain ⟨a, u, ea, hg, hu⟩ := dgot (R := rI) (F := H) (v := .ref dp) (Same.refl H) ⟨dp, _, rfl, .inl h.ps.h, pos_all _⟩ (h.atp hx)
  cases ea
  cases hu
  exact hg
theorem SAt.rtp (h : SAt K F H s sx p dt dp ls act S) : rD (rL K rI) F (.ref dt) S.tapes := let ⟨kvs, h1, h2⟩ := h.tp; ⟨dt, kvs, rfl, .inl h1, h2⟩
theorem SAt.okAsg (h : SAt K F H s sx p dt dp ls act S) : okAsg S.D.vars S.asg := by
  refine ⟨by unfold SD.asg; rw [List.length_map], fun q hq => ?_⟩
  obtain ⟨i, hi, eq⟩ := List.mem_iff_getElem.mp hq
  rw [List.getElem_zip] at eq
  have hi1 : i < S.D.vars.length := by rw [List.length_zip] at hi; omega
  rw [← eq]
  have hm : S.D.vars[i] ∈ S.D.vars := List.getElem_mem hi1
  have hm1 : (S.D.vars[i]).1 ∈ S.D.vars.map (·.1) := List.mem_map.mpr ⟨_, hm, rfl⟩
  obtain ⟨hc, _⟩ := h.cur hm1
  have := (h.ok.tv _ hm).2 _ (List.mem_of_getElem? hc)
  show 0 ≤ S.asg[i]'_ ∧ S.asg[i]'_ < (S.D.vars[i]).2
  have e2 : S.asg[i]'(by unfold SD.asg; rw [List.length_map]; exact hi1) = S.cur (S.D.vars[i]).1 := by
    unfold SD.asg
    rw [List.getElem_map]
  rw [e2]
  exact this
end
def sp_assignment (K : PySem.W.Frag) : Sp := fun vs H Q _ => match vs with
  | [v] => ∃ F s sx p dt dp ls act S, v = .ref s ∧ Same F H ∧ SAt K F H s sx p dt dp ls act S ∧ ∀ v F' H', Pu F H F' H' → rU K rI F' v S.asg → Q v H'
  | _ => False
theorem asg_tapes {S : SD} (ok : S.Ok) (nd : (S.D.vars.map (·.1)).Nodup) : (S.tapes.map fun q => (q.2[(S.at q.1).toNat]?).getD 0) = S.asg := by
  have e1 : ∀ q ∈ S.tapes, (q.2[(S.at q.1).toNat]?).getD 0 = S.cur q.1 := fun q hq => by
    unfold SD.cur SD.tape
    rw [lookup_nd (by rw [ok.tn]; exact nd) (show (q.1, q.2) ∈ S.tapes from hq)]
    rfl
  rw [List.map_congr_left e1]
  have h2 : (S.tapes.map fun q => S.cur q.1) = (S.tapes.map (·.1)).map S.cur := by rw [List.map_map]; rfl
  rw [h2, ok.tn, List.map_map]
  rfl
theorem sc_Sampler_assignment : FnScope ["self", "name", "tape"] ["self"] (defScope s_Sampler_assignment) := C8.fnScope_by (by decide +kernel)
theorem c_Sampler_assignment {P : Program} {w : World} {K : PySem.W.Frag} {mg : Str → Option Value} {base hp : Heap} (T : Tx K mg hp) : C8.Met P w K mg base 1 (a_Sampler K) "assignment" (sp_assignment K) [] := by
  obtain ⟨fd, F⟩ := T.fd_Sampler_assignment
  refine mkMet T.cl_Sampler T.me_Sampler_assignment F sc_Sampler_assignment (fun _ _ _ _ _ _ us hl => match us, hl with | [_], _ => rfl) (fun vs H Q E h => by unfold sp_assignment at h; split at h <;> first | rfl | exact h.elim) (fun cdv A outer s H vs Q E hr h => ?_)
  have nd := sc_Sampler_assignment.nd
  have hu := hu_of hr
  unfold sp_assignment at h
  split at h
  case h_2 => exact h.elim
  obtain ⟨F, s, sx, p, dt, dp, ls, act, S, rfl, e, h, k⟩ := h
  refine ⟨_, (pss_one (ps_ret (pe_callTy call_tuple_of (by rfl) T.fr_tuple (by decide +kernel) (pa_cons (pe_lock (pe_lc (own := [("name", 1), ("tape", 2)]) (g := (gTup K 2 (gCons (gName 1) (gCons (gName 2) gNil)))) rfl nd (pi_items (pe_fld (pv 0) rfl)) (blkOk_by (own := [("name", 1), ("tape", 2)]) (N := ["self", "name", "tape"]) (sc := defScope s_Sampler_assignment) (by decide +kernel)) (fun _ _ _ _ _ => (pg_tup rfl (pgs_cons (pg_name (i := 1) nd rfl (Or.inl rfl)) (pgs_cons (pg_name (i := 2) nd rfl (Or.inl rfl)) pgs_nil)))) (fun _ _ _ _ _ => pts_nil) (fun _ _ _ _ _ => (pe_ix (ix_listK (K := K) rfl) (pv 2) (pe_dget hu (pe_fldK (K := K) rfl (pv 0) rfl) (pv 1) (fun _ _ => rfl)) (fun _ _ => rfl))))) pa_nil)))), ?_⟩
  obtain ⟨kvs, hd, hall⟩ := h.tp
  have l8 := h.dOk.v.1.2
  have lt : S.tapes.length = S.D.vars.length := by have := congrArg List.length h.ok.tn; simpa using this
  have lk := AllD.length hall
  have sdt : s ≠ dt := fun z => by have := h.ob.n; rw [z, hd] at this; cases this
  have pdt : dp ≠ dt := fun z => by have := h.ps.n; rw [z, hd] at this; cases this
  refine lockE2 e hd fun od F0 H0 f0 s0 x0 nef neh Q' hQ' => ?_
  have m0 : Mt F0 H0 s (.ins (a_Sampler K) sx (sfs p dt dp ls act)) := ⟨(nef s sdt).trans h.ob.n, (neh s sdt).trans h.ob.h⟩
  have p0 : Mt F0 H0 dp (.dK (posK S.pos)) := ⟨(nef dp pdt).trans h.ps.n, (neh dp pdt).trans h.ps.h⟩
  have hall0 := AllD.ux x0 hall
  refine ⟨_, rfl, s, _, sx, _, _, rfl, m0.h, T.cl_Sampler, T.na_Sampler_tape_table, sfs2, dt, od, kvs, rfl, s0 _ _ f0, ?_⟩
  refine lcP (K := K) (RA := rS) (RC := rL K rI) (R := rI) (walk_items (o := od) (d := dt) (kvs := kvs)) S.tapes (fun q => (q.2[(S.at q.1).toNat]?).getD 0) (fun _ => true) s0 lk (by omega) (fun F1 H1 g => g.fh _ _ (g.f _ _ f0)) ?_ ?_ ?_ ?_
  · intro i x hi he
    cases hk : kvs[i]? with
    | none => rw [hk] at he; cases he
    | some kv =>
      rw [hk] at he
      cases he
      obtain ⟨x', n', h1, h2, h3⟩ := AllD.get hall0 hk
      exact ⟨_, h1, by show kV kv.1 = V.str x'; rw [h2]; rfl⟩
  · intro i x hi he
    cases hk : kvs[i]? with
    | none => rw [hk] at he; cases he
    | some kv =>
      rw [hk] at he
      cases he
      obtain ⟨x', n', h1, h2, h3⟩ := AllD.get hall0 hk
      exact ⟨_, h1, h3⟩
  · intro q T' x y F1 H1 hq g1 hT rx ry Kt Kf k1 k2
    cases rx
    obtain ⟨a, rfl, ha⟩ := rli ry
    have hx : q.1 ∈ S.D.vars.map (·.1) := by rw [← h.ok.tn]; exact List.mem_map.mpr ⟨q, hq, rfl⟩
    have m1 := m0.pu g1
    have p1 := p0.pu g1
    obtain ⟨a', u, ea, hg, hu'⟩ := dgot (R := rI) (F := H1) (v := .ref dp) (Same.refl H1) ⟨dp, _, rfl, .inl p1.h, pos_all _⟩ (h.atp hx)
    cases ea
    cases hu'
    obtain ⟨hc, hn⟩ := h.cur hx
    have et : S.tape q.1 = q.2 := by
      unfold SD.tape
      rw [lookup_nd (by rw [h.ok.tn]; exact h.nd) (show (q.1, q.2) ∈ S.tapes from hq)]
      rfl
    rw [et] at hc
    refine ⟨T', _, rfl, SqT.of (g1.fh _ _ hT), rfl, _, _, rfl, _, _, rfl, rfl, rfl, _, rfl, _, rfl, s, _, sx, _, _, rfl, m1.h, T.cl_Sampler, T.na_Sampler_position_table, sfs3, _, rfl, dp, _, rfl, hg, a, _, _, .int (S.cur q.1), rfl, rfl, sql_s g1.fh ha, ?_, ?_⟩
    · rw [hn]
      exact atI_nat (by rw [List.getElem?_map, hc]; rfl)
    · refine k1 rfl _ F1 H1 (Gr.refl g1.fh) ?_
      show V.int _ = V.int _
      rw [hc]
      rfl
  · intro L F1 H1 g1 hL
    rw [ptrue, asg_tapes h.ok h.nd] at hL
    refine hQ' _ F1 H1 g1 fun F2 H2 g2 x2 _ _ => ?_
    obtain ⟨l, el, hl⟩ := rli hL
    cases el
    refine ⟨L, _, rfl, .inl ⟨sql_s g2.fh (sql_x x2 hl), fun t nt => ?_⟩⟩
    have g3 : Pu F2 H2 (upd F2 t (.tup (S.asg.map V.int))) (upd H2 t (.tup (S.asg.map V.int))) := Gr.new g2.fh nt
    exact k _ _ _ (g2.trans g3) ⟨t, _, rfl, SqT.of upd_same, int_all2 _⟩
def sp_Socc (K : PySem.W.Frag) : Sp := fun vs H Q _ => match vs with
  | [v] => ∃ F s sx p dt dp ls act S, v = .ref s ∧ Same F H ∧ SAt K F H s sx p dt dp ls act S ∧ ∀ v F' H', Pu F H F' H' → rL K rS F' v (S.D.names.filter (S.D.occ S.asg)) → Q v H'
  | _ => False
theorem sc_Sampler_occurring : FnScope ["self"] ["self"] (defScope s_Sampler_occurring) := C8.fnScope_by (by decide +kernel)
theorem c_Sampler_occurring {P : Program} {w : World} {K : PySem.W.Frag} {mg : Str → Option Value} {base hp : Heap} (T : Tx K mg hp) : C8.Met P w K mg base 6 (a_Sampler K) "occurring" (sp_Socc K) [] := by
  obtain ⟨fd, F⟩ := T.fd_Sampler_occurring
  refine mkMet T.cl_Sampler T.me_Sampler_occurring F sc_Sampler_occurring (fun _ _ _ _ _ _ us hl => match us, hl with | [_], _ => rfl) (fun vs H Q E h => by unfold sp_Socc at h; split at h <;> first | rfl | exact h.elim) (fun cdv A outer s H vs Q E hr h => ?_)
  have nd := sc_Sampler_occurring.nd
  have hu := hu_of hr
  unfold sp_Socc at h
  split at h
  case h_2 => exact h.elim
  obtain ⟨F, s, sx, p, dt, dp, ls, act, S, rfl, e, h, k⟩ := h
  obtain ⟨p', dx, d1, d2, d3, ep, hp', _⟩ := id h.pr
  cases ep
  refine ⟨_, (pss_one (ps_ret (C8.pe_mt (c_Problem_occurring T) hr (by decide) (pe_fld (pv 0) rfl) (pa_cons (C8.pe_mt0 (c_Sampler_assignment T) hr (by decide) (pv 0)) pa_nil)))), ?_⟩
  refine ⟨_, rfl, s, _, sx, _, _, rfl, h.ob.h, T.cl_Sampler, T.na_Sampler_own_problem, sfs1, p, dx, _, rfl, hp'.h e, pfsn (by decide +kernel), ?_⟩
  refine ⟨_, rfl, s, sx, _, rfl, h.ob.h, sfsn (by decide +kernel), F, s, sx, p, dt, dp, ls, act, S, rfl, e, h, fun v F1 H1 g1 hv => ?_⟩
  have h1 := h.pu g1
  exact ⟨F1, S.D, S.asg, g1.fh, h1.pr, hv, h1.okAsg, fun v F2 H2 g2 hv2 => k _ _ _ (g1.trans g2) hv2⟩
/-- the first variable of an event that has no value behind its current one -/
def SD.fe (S : SD) (e : Str) : Option Str := (S.D.sc e).find? fun x => decide (S.at x = (S.tape x).length - 1)
def rOS : Rep (Option Str) := fun _ v o => match o with
  | none => v = .non
  | some x => v = .str x
def sp_fe (K : PySem.W.Frag) : Sp := fun vs H Q _ => match vs with
  | [v, u] => ∃ F s sx p dt dp ls act S e, v = .ref s ∧ u = .str e ∧ Same F H ∧ SAt K F H s sx p dt dp ls act S ∧ e ∈ S.D.names ∧ ∀ v F' H', Pu F H F' H' → rOS F' v (S.fe e) → Q v H'
  | _ => False
theorem find_of {α : Type} {f : α → Bool} {l : List α} {i : Nat} {x : α} (h : l[i]? = some x) (hn : (l.take i).find? f = none) (hy : f x = true) : l.find? f = some x := by
  have : (l.take (i + 1)).find? f = some x := by
    rw [List.take_succ, h, List.find?_append, hn]
    simp [hy]
  rw [← List.take_append_drop (i + 1) l, List.find?_append, this]
  rfl
theorem sc_Sampler_first_exhausted : FnScope ["self", "event", "variable"] ["self", "event"] (defScope s_Sampler_first_exhausted) := C8.fnScope_by (by decide +kernel)
theorem c_Sampler_first_exhausted {P : Program} {w : World} {K : PySem.W.Frag} {mg : Str → Option Value} {base hp : Heap} (T : Tx K mg hp) : C8.Met P w K mg base 3 (a_Sampler K) "first_exhausted" (sp_fe K) [] := by
  obtain ⟨fd, F⟩ := T.fd_Sampler_first_exhausted
  refine mkMet T.cl_Sampler T.me_Sampler_first_exhausted F sc_Sampler_first_exhausted (fun _ _ _ _ _ _ us hl => match us, hl with | [_, _], _ => rfl) (fun vs H Q E h => by unfold sp_fe at h; split at h <;> first | rfl | exact h.elim) (fun cdv A outer s H vs Q E hr h => ?_)
  have nd := sc_Sampler_first_exhausted.nd
  have hu := hu_of hr
  unfold sp_fe at h
  split at h
  case h_2 => exact h.elim
  obtain ⟨F, s, sx, p, dt, dp, ls, act, S, ev, rfl, rfl, e, h, he, k⟩ := h
  obtain ⟨p', dx, d1, d2, d3, ep, hp', _⟩ := id h.pr
  cases ep
  refine ⟨_, (pss_cons (ps_for PassesOwn.never rfl (pi_list (C8.pe_mt (c_Problem_scope T) hr (by decide) (pe_fld (pv 0) rfl) (pa_cons (pv 1) pa_nil))) (pg_name (i := 2) nd rfl (Or.inl rfl)) (pss_one (ps_if (pt_cmpR op_eq (pe_dget hu (pe_fld (pv 0) rfl) (pv 2) (fun _ _ => rfl)) (pe_op op_sub (pe_callB call_len_seq (by rfl) T.fr_len (by decide +kernel) (pa_cons (pe_dget hu (pe_fld (pv 0) rfl) (pv 2) (fun _ _ => rfl)) pa_nil)) pe_int) (nomark _)) (pss_one (ps_ret (pv 2))) pss_nil)))
      (pss_one (ps_ret pe_non))), ?_⟩
  have osc := scope_of hp'.ok (sc_of he)
  refine ⟨_, rfl, s, _, sx, _, _, rfl, h.ob.h, T.cl_Sampler, T.na_Sampler_own_problem, sfs1, p, dx, _, rfl, hp'.h e, pfsn (by decide +kernel), _, rfl, F, S.D, ev, _, e, h.pr.w, rfl, sc_of he, fun v F1 H1 g1 hv => ?_⟩
  obtain ⟨a, rfl, ha⟩ := rls hv
  refine ⟨a, rfl, ⟨_, sql_s g1.fh ha⟩, for_list (K := K) (a := a) (xs := (S.D.sc ev).map V.str) (fun i σ H' => (∃ w, σ = [some (.ref s), some (.str ev), w]) ∧ H' = H1 ∧ ((S.D.sc ev).take i).find? (fun x => decide (S.at x = (S.tape x).length - 1)) = none) ⟨⟨_, rfl⟩, rfl, rfl⟩ (fun i σ H' _ ⟨_, z, _⟩ => by rw [z]; exact sql_s g1.fh ha) ?_ ?_⟩
  · rintro i y σ H' hi ⟨⟨w, rfl⟩, rfl, hn⟩
    obtain ⟨x, hx, rfl⟩ := str_at hi
    have h1 := h.pu g1
    have hxv := osc.2.2 x (List.mem_of_getElem? hx)
    obtain ⟨b, u, eb, hg, hu'⟩ := dgot g1.fh h1.rtp (h1.tape hxv)
    cases eb
    obtain ⟨c, rfl, hc⟩ := rli hu'
    refine ⟨_, rfl, s, _, sx, _, _, rfl, h1.ob.h, T.cl_Sampler, T.na_Sampler_position_table, sfs3, _, rfl, dp, _, rfl, h1.dpos hxv, _, rfl, s, _, sx, _, _, rfl, h1.ob.h, T.cl_Sampler, T.na_Sampler_tape_table, sfs2, _, rfl, dt, _, rfl, hg, c, _, rfl, .inl (sql_s g1.fh hc), _, _, rfl, rfl, rfl, _, rfl, ?_⟩
    rw [List.length_map]
    by_cases hq : S.at x = (S.tape x).length - 1
    · rw [decide_eq_true (show V.int (S.at x) = V.int (((S.tape x).length : Nat) - 1) by rw [hq])]
      refine iteT ⟨_, rfl, k _ _ _ g1 ?_⟩
      have : S.fe ev = some x := find_of hx hn (decide_eq_true hq)
      rw [this]
      rfl
    · rw [decide_eq_false (show ¬ V.int (S.at x) = V.int (((S.tape x).length : Nat) - 1) from fun z => hq (V.int.inj z))]
      refine iteF ⟨⟨_, rfl⟩, rfl, ?_⟩
      rw [List.take_succ, hx, List.find?_append, hn]
      simp [hq]
  · rintro σ H' ⟨⟨w, rfl⟩, rfl, hn⟩
    refine k _ _ _ g1 ?_
    rw [List.length_map, List.take_of_length_le (Nat.le_refl _)] at hn
    have : S.fe ev = none := hn
    rw [this]
    rfl
def SD.ready (S : SD) : List Str := (S.D.names.filter (S.D.occ S.asg)).filter fun e => (S.fe e).isNone
def sp_ready (K : PySem.W.Frag) : Sp := fun vs H Q _ => match vs with
  | [v] => ∃ F s sx p dt dp ls act S, v = .ref s ∧ Same F H ∧ SAt K F H s sx p dt dp ls act S ∧ ∀ v F' H', Pu F H F' H' → rL K rS F' v S.ready → Q v H'
  | _ => False
theorem sc_Sampler_ready : FnScope ["self", "event"] ["self"] (defScope s_Sampler_ready) := C8.fnScope_by (by decide +kernel)
theorem c_Sampler_ready {P : Program} {w : World} {K : PySem.W.Frag} {mg : Str → Option Value} {base hp : Heap} (T : Tx K mg hp) : C8.Met P w K mg base 7 (a_Sampler K) "ready" (sp_ready K) [] := by
  obtain ⟨fd, F⟩ := T.fd_Sampler_ready
  refine mkMet T.cl_Sampler T.me_Sampler_ready F sc_Sampler_ready (fun _ _ _ _ _ _ us hl => match us, hl with | [_], _ => rfl) (fun vs H Q E h => by unfold sp_ready at h; split at h <;> first | rfl | exact h.elim) (fun cdv A outer s H vs Q E hr h => ?_)
  have nd := sc_Sampler_ready.nd
  have hu := hu_of hr
  unfold sp_ready at h
  split at h
  case h_2 => exact h.elim
  obtain ⟨F, s, sx, p, dt, dp, ls, act, S, rfl, e, h, k⟩ := h
  refine ⟨_, (pss_one (ps_ret (pe_lc (own := [("event", 1)]) (g := (gName 1)) rfl nd (pi_list (C8.pe_mt0 (c_Sampler_occurring T) hr (by decide) (pv 0))) (blkOk_by (own := [("event", 1)]) (N := ["self", "event"]) (sc := defScope s_Sampler_ready) (by decide +kernel)) (fun _ _ _ _ _ => (pg_name (i := 1) nd rfl (Or.inl rfl))) (fun _ _ _ _ _ => (pts_one (pt_cmpR op_isN (C8.pe_mt (c_Sampler_first_exhausted T) hr (by decide) (pv 0) (pa_cons (pv 1) pa_nil)) pe_non (nomark _)))) (fun _ _ _ _ _ => (pv 1))))), ?_⟩
  have l8 := h.dOk.n8
  refine ⟨_, rfl, s, sx, _, rfl, h.ob.h, sfsn (by decide +kernel), F, s, sx, p, dt, dp, ls, act, S, rfl, e, h, fun v F1 H1 g1 hv => ?_⟩
  obtain ⟨a, rfl, ha⟩ := rls hv
  refine ⟨a, rfl, ⟨_, sql_s g1.fh ha⟩, ?_⟩
  refine lcL (K := K) (RA := rS) (R := rS) (f := fun x => x) (p := fun e => (S.fe e).isNone) g1.fh ha (str_all2 _) (Nat.le_trans (List.length_filter_le _ _) (by unfold PD.names; rw [List.length_map]; omega)) (fun y v F2 H2 hy g2 hv Kt Kf k1 k2 => ?_) (fun L F2 H2 g2 hL => ?_)
  · cases hv
    have h2 := (h.pu g1).pu g2
    have hy2 : y ∈ S.D.names := (List.mem_filter.mp hy).1
    refine ⟨rfl, _, rfl, s, sx, _, rfl, h2.ob.h, sfsn (by decide +kernel), _, rfl, F2, s, sx, p, dt, dp, ls, act, S, y, rfl, rfl, g2.fh, h2, hy2, fun v F3 H3 g3 hv => ⟨rfl, _, rfl, ?_⟩⟩
    cases hf : S.fe y with
    | none =>
      rw [hf] at hv
      cases hv
      rw [decide_eq_true rfl]
      exact iteT ⟨_, rfl, k1 (by rw [hf]; rfl) _ _ _ g3 rfl⟩
    | some x =>
      rw [hf] at hv
      cases hv
      rw [decide_eq_false (fun z => nomatch z)]
      exact iteF (k2 (by rw [hf]; rfl) _ _ g3)
  · rw [List.map_id'] at hL
    exact k _ _ _ (g1.trans g2) hL
end Rs
/-! text R17 -/
set_option Elab.async false
set_option linter.all false
set_option maxRecDepth 100000
set_option maxHeartbeats 4000000
namespace Rs
open PySem PySem.Spec PyProof.Rows L2
theorem name_lay {x : Str} (h : isName x) : PyData.canLay0 (.str x) = true := by
  simp only [PyData.canLay0]
  unfold PyData.strOk
  rw [← Array.all_toList, List.all_eq_true]
  intro c hc
  have := h.2.2 c hc
  have key : ∀ c ∈ ("abcdefghijklmnopqrstuvwxyz" : Str).cps.toList, decide (c < 0x110000) = true := by decide +kernel
  exact key c this
theorem names_name {D : PD} (ok : D.Ok) {x : Str} (h : x ∈ D.names) : isName x := by
  obtain ⟨e, h1, rfl⟩ := List.mem_map.mp h
  exact ok.en e h1
def sp_is_valid (K : PySem.W.Frag) : Sp := fun vs H Q _ => match vs with
  | [v] => ∃ F s sx p dt dp ls act S, v = .ref s ∧ Same F H ∧ SAt K F H s sx p dt dp ls act S ∧ ∀ F' H', Pu F H F' H' → Q (.bl (S.D.names.filter (S.D.occ S.asg)).isEmpty) H'
  | _ => False
theorem sc_Sampler_is_valid : FnScope ["self"] ["self"] (defScope s_Sampler_is_valid) := C8.fnScope_by (by decide +kernel)
theorem c_Sampler_is_valid {P : Program} {w : World} {K : PySem.W.Frag} {mg : Str → Option Value} {base hp : Heap} (T : Tx K mg hp) : C8.Met P w K mg base 7 (a_Sampler K) "is_valid" (sp_is_valid K) [] := by
  obtain ⟨fd, F⟩ := T.fd_Sampler_is_valid
  refine mkMet T.cl_Sampler T.me_Sampler_is_valid F sc_Sampler_is_valid (fun _ _ _ _ _ _ us hl => match us, hl with | [_], _ => rfl) (fun vs H Q E h => by unfold sp_is_valid at h; split at h <;> first | rfl | exact h.elim) (fun cdv A outer s H vs Q E hr h => ?_)
  have nd := sc_Sampler_is_valid.nd
  have hu := hu_of hr
  unfold sp_is_valid at h
  split at h
  case h_2 => exact h.elim
  obtain ⟨F, s, sx, p, dt, dp, ls, act, S, rfl, e, h, k⟩ := h
  refine ⟨_, (pss_one (ps_ret (pe_cmpR (op_eqD hr.units) (C8.pe_mt0 (c_Sampler_occurring T) hr (by decide) (pv 0)) (pe_lst pa_nil) (nomark _)))), ?_⟩
  refine ⟨_, rfl, s, sx, _, rfl, h.ob.h, sfsn (by decide +kernel), F, s, sx, p, dt, dp, ls, act, S, rfl, e, h, fun v F1 H1 g1 hv => ?_⟩
  refine ⟨Nat.zero_le _, fun q nq => ?_⟩
  have g2 : Pu F1 H1 (upd F1 q (.lst [])) (upd H1 q (.lst [])) := Gr.new g1.fh nq
  refine eqD (a := S.D.names.filter (S.D.occ S.asg)) (b := []) (encL (encS (K := K))) (by decide) g2.fh (Up.up g2.f hv) ⟨q, [], rfl, SqL.of upd_same, Paired.nil⟩ (fun x hx => name_lay (names_name h.dOk (List.mem_filter.mp hx).1)) (fun x hx => by cases hx) fun r hr => ?_
  have er : r = (S.D.names.filter (S.D.occ S.asg)).isEmpty := by
    cases hl : S.D.names.filter (S.D.occ S.asg) with
    | nil => rw [hl] at hr; exact hr.mpr rfl
    | cons a l =>
      rw [hl] at hr
      cases r with
      | false => rfl
      | true => exact absurd (hr.mp rfl) (by simp)
  rw [er]
  exact k _ _ (g1.trans g2)
def sp_check_idle (K : PySem.W.Frag) : Sp := fun vs H Q _ => match vs with
  | [v] => ∃ F s sx p dt dp ls S, v = .ref s ∧ SAt K F H s sx p dt dp ls false S ∧ Q .non H
  | _ => False
theorem sc_Sampler_check_idle : FnScope ["self"] ["self"] (defScope s_Sampler_check_idle) := C8.fnScope_by (by decide +kernel)
theorem c_Sampler_check_idle {P : Program} {w : World} {K : PySem.W.Frag} {mg : Str → Option Value} {base hp : Heap} (T : Tx K mg hp) : C8.Met P w K mg base 1 (a_Sampler K) "check_idle" (sp_check_idle K) [] := by
  obtain ⟨fd, F⟩ := T.fd_Sampler_check_idle
  refine mkMet T.cl_Sampler T.me_Sampler_check_idle F sc_Sampler_check_idle (fun _ _ _ _ _ _ us hl => match us, hl with | [_], _ => rfl) (fun vs H Q E h => by unfold sp_check_idle at h; split at h <;> first | rfl | exact h.elim) (fun cdv A outer s H vs Q E hr h => ?_)
  have nd := sc_Sampler_check_idle.nd
  have hu := hu_of hr
  unfold sp_check_idle at h
  split at h
  case h_2 => exact h.elim
  obtain ⟨F, s, sx, p, dt, dp, ls, S, rfl, h, k⟩ := h
  refine ⟨_, (pss_one (ps_if (pt_val (pe_fld (pv 0) rfl)) pss_never pss_nil)), ?_⟩
  exact ⟨_, rfl, s, _, sx, _, _, rfl, h.ob.h, T.cl_Sampler, T.na_Sampler_run_active, sfs5, _, rfl, iteF k⟩
def sp_history (K : PySem.W.Frag) : Sp := fun vs H Q _ => match vs with
  | [v] => ∃ F s sx p dt dp ls act S, v = .ref s ∧ Same F H ∧ SAt K F H s sx p dt dp ls act S ∧ ∀ v F' H', Pu F H F' H' → rL K (r2 K rS (rU K rI)) F' v S.steps → Q v H'
  | _ => False
theorem sc_Sampler_history : FnScope ["self"] ["self"] (defScope s_Sampler_history) := C8.fnScope_by (by decide +kernel)
theorem c_Sampler_history {P : Program} {w : World} {K : PySem.W.Frag} {mg : Str → Option Value} {base hp : Heap} (T : Tx K mg hp) : C8.Met P w K mg base 1 (a_Sampler K) "history" (sp_history K) [] := by
  obtain ⟨fd, F⟩ := T.fd_Sampler_history
  refine mkMet T.cl_Sampler T.me_Sampler_history F sc_Sampler_history (fun _ _ _ _ _ _ us hl => match us, hl with | [_], _ => rfl) (fun vs H Q E h => by unfold sp_history at h; split at h <;> first | rfl | exact h.elim) (fun cdv A outer s H vs Q E hr h => ?_)
  have nd := sc_Sampler_history.nd
  have hu := hu_of hr
  unfold sp_history at h
  split at h
  case h_2 => exact h.elim
  obtain ⟨F, s, sx, p, dt, dp, ls, act, S, rfl, e, h, k⟩ := h
  refine ⟨_, (pss_one (ps_ret (pe_callTy call_list_of (by rfl) T.fr_list (by decide +kernel) (pa_cons (pe_fld (pv 0) rfl) pa_nil)))), ?_⟩
  obtain ⟨xs, hm, hx⟩ := h.st
  refine ⟨_, rfl, s, _, sx, _, _, rfl, h.ob.h, T.cl_Sampler, T.na_Sampler_step_list, sfs4, ls, _, rfl, .inl (SqL.of hm.h), fun q nq => ?_⟩
  have g : Pu F H (upd F q (.lst xs)) (upd H q (.lst xs)) := Gr.new e nq
  exact k _ _ _ g ⟨q, xs, rfl, SqL.of upd_same, hx.up g.f⟩
/-! ### one step -/
def bump (l : List (Str × Int)) (sc : List Str) : List (Str × Int) := l.map fun q => if q.1 ∈ sc then (q.1, q.2 + 1) else q
def SD.step (S : SD) (e : Str) : SD := { S with pos := bump S.pos (S.D.sc e), steps := S.steps ++ [(e, (S.D.sc e).map S.cur)] }
theorem bump_keys (l : List (Str × Int)) (sc : List Str) : (bump l sc).map (·.1) = l.map (·.1) := by
  unfold bump
  rw [List.map_map]
  refine List.map_congr_left fun q _ => ?_
  show (if q.1 ∈ sc then (q.1, q.2 + 1) else q).1 = q.1
  split <;> rfl
theorem bump_look {sc : List Str} {x : Str} : ∀ {l : List (Str × Int)}, (bump l sc).lookup x = (l.lookup x).map fun v => if x ∈ sc then v + 1 else v
  | [] => rfl
  | (k, v) :: l => by
    have ih := bump_look (sc := sc) (x := x) (l := l)
    have e1 : bump ((k, v) :: l) sc = (k, if k ∈ sc then v + 1 else v) :: bump l sc := by
      unfold bump
      rw [List.map_cons]
      show (if k ∈ sc then (k, v + 1) else (k, v)) :: _ = _
      split <;> rfl
    rw [e1]
    by_cases e : x = k
    · subst e
      simp [List.lookup]
    · show (match x == k with | true => some _ | false => (bump l sc).lookup x) = (match x == k with | true => some v | false => l.lookup x).map _
      rw [beq_false_of_ne e]
      exact ih
theorem put_bump {l : List (Str × Int)} {x : Str} {v : Int} {sc : List Str} (hn : (l.map (·.1)).Nodup) (hx : l.lookup x = some v) (hs : x ∉ sc) : putK (posK (bump l sc)) (Sum.inr x : Key) (.int (v + 1)) = posK (bump l (sc ++ [x])) := by
  unfold putK
  have hany : ((posK (bump l sc)).any fun kv => decide (kv.1 = (Sum.inr x : Key))) = true := by
    rw [List.any_eq_true]
    have hm : x ∈ (bump l sc).map (·.1) := by rw [bump_keys]; exact List.mem_map.mpr ⟨_, mem_lookup' hx, rfl⟩
    obtain ⟨q, h1, h2⟩ := List.mem_map.mp hm
    exact ⟨(Sum.inr q.1, .int q.2), List.mem_map.mpr ⟨q, h1, rfl⟩, decide_eq_true (by rw [← h2])⟩
  rw [if_pos hany]
  unfold bump
  show List.map _ (List.map _ (List.map _ l)) = List.map _ (List.map _ l)
  rw [List.map_map, List.map_map, List.map_map]
  refine List.map_congr_left fun q hq => ?_
  show (if (Sum.inr (if q.1 ∈ sc then (q.1, q.2 + 1) else q).1 : Key) = Sum.inr x then _ else _) = _
  have e1 : (if q.1 ∈ sc then (q.1, q.2 + 1) else q).1 = q.1 := by split <;> rfl
  by_cases e : q.1 = x
  · have hv : q.2 = v := by
      have := lookup_nd hn (show (q.1, q.2) ∈ l from hq)
      rw [e, hx] at this
      exact (Option.some.inj this).symm
    have hs' : q.1 ∉ sc := by rw [e]; exact hs
    rw [if_pos (by rw [e1, e])]
    show (Sum.inr (if q.1 ∈ sc then (q.1, q.2 + 1) else q).1, V.int (v + 1)) = (Sum.inr (if q.1 ∈ sc ++ [x] then (q.1, q.2 + 1) else q).1, V.int (if q.1 ∈ sc ++ [x] then (q.1, q.2 + 1) else q).2)
    rw [if_neg hs', if_pos (by rw [e]; simp), hv]
  · rw [if_neg (by rw [e1]; exact fun z => e (Sum.inr.inj z))]
    show (Sum.inr (if q.1 ∈ sc then (q.1, q.2 + 1) else q).1, V.int (if q.1 ∈ sc then (q.1, q.2 + 1) else q).2) = (Sum.inr (if q.1 ∈ sc ++ [x] then (q.1, q.2 + 1) else q).1, V.int (if q.1 ∈ sc ++ [x] then (q.1, q.2 + 1) else q).2)
    by_cases h : q.1 ∈ sc
    · rw [if_pos h, if_pos (by simp [h])]
    · rw [if_neg h, if_neg (by simp [h, e])]
theorem bump_nil (l : List (Str × Int)) : bump l [] = l := by
  unfold bump
  rw [show (fun q : Str × Int => if q.1 ∈ ([] : List Str) then (q.1, q.2 + 1) else q) = id from by funext q; simp]
  exact List.map_id l
theorem step_ok {S : SD} {e : Str} (okD : S.D.Ok) (h : S.Ok) (he : e ∈ S.D.names) (hf : S.fe e = none) (hl : S.steps.length < 240) : (S.step e).Ok where
  tn := h.tn
  pn := by show (bump S.pos _).map _ = _; rw [bump_keys]; exact h.pn
  tv := h.tv
  pv := fun q hq => by
    have hq : q ∈ S.D.vars := hq
    obtain ⟨h0, h1⟩ := h.pv q hq
    have hm : q.1 ∈ S.pos.map (·.1) := by rw [h.pn]; exact List.mem_map.mpr ⟨_, hq, rfl⟩
    obtain ⟨v, hv⟩ := lookup_mem hm
    have ea : S.at q.1 = v := by unfold SD.at; rw [hv]; rfl
    have es : (S.step e).at q.1 = if q.1 ∈ S.D.sc e then v + 1 else v := by
      show ((bump S.pos (S.D.sc e)).lookup q.1).getD 0 = _
      rw [bump_look, hv]
      rfl
    show 0 ≤ (S.step e).at q.1 ∧ (S.step e).at q.1 < (S.tape q.1).length
    rw [es]
    rw [ea] at h0 h1
    by_cases hx : q.1 ∈ S.D.sc e
    · rw [if_pos hx]
      have := List.find?_eq_none.mp hf q.1 hx
      have hne : ¬ S.at q.1 = (S.tape q.1).length - 1 := by simpa using this
      rw [ea] at hne
      omega
    · rw [if_neg hx]
      exact ⟨h0, h1⟩
  sl := by show (S.steps ++ [_]).length ≤ 240; rw [List.length_append]; show S.steps.length + 1 ≤ 240; omega
def sp_perform (K : PySem.W.Frag) : Sp := fun vs H Q _ => match vs with
  | [v, u] => ∃ F s sx p dt dp ls act S e, v = .ref s ∧ u = .str e ∧ Same F H ∧ SAt K F H s sx p dt dp ls act S ∧ e ∈ S.D.names ∧ S.fe e = none ∧ S.steps.length < 240 ∧ ∀ v F' H', Gr (fun b => b = dp ∨ b = ls) F H F' H' → SAt K F' H' s sx p dt dp ls act (S.step e) → Q v H'
  | _ => False
theorem sc_Sampler_perform : FnScope ["self", "event", "scope", "bad_tuple", "variable"] ["self", "event"] (defScope s_Sampler_perform) := C8.fnScope_by (by decide +kernel)
theorem c_Sampler_perform {P : Program} {w : World} {K : PySem.W.Frag} {mg : Str → Option Value} {base hp : Heap} (T : Tx K mg hp) : C8.Met P w K mg base 3 (a_Sampler K) "perform" (sp_perform K) [] := by
  obtain ⟨fd, F⟩ := T.fd_Sampler_perform
  refine mkMet T.cl_Sampler T.me_Sampler_perform F sc_Sampler_perform (fun _ _ _ _ _ _ us hl => match us, hl with | [_, _], _ => rfl) (fun vs H Q E h => by unfold sp_perform at h; split at h <;> first | rfl | exact h.elim) (fun cdv A outer s H vs Q E hr h => ?_)
  have nd := sc_Sampler_perform.nd
  have hu := hu_of hr
  unfold sp_perform at h
  split at h
  case h_2 => exact h.elim
  obtain ⟨F, s, sx, p, dt, dp, ls, act, S, ev, rfl, rfl, e, h, he, hf, hl, k⟩ := h
  obtain ⟨p', dx, d1, d2, d3, ep, hp', _⟩ := id h.pr
  cases ep
  refine ⟨_, (pss_cons (ps_set (i := 2) nd rfl (Or.inl rfl) (C8.pe_mt (c_Problem_scope T) hr (by decide) (pe_fld (pv 0) rfl) (pa_cons (pv 1) pa_nil)))
      (pss_cons (ps_set (i := 3) nd rfl (Or.inl rfl) (pe_callTy call_tuple_of (by rfl) T.fr_tuple (by decide +kernel) (pa_cons (pe_lc (own := [("variable", 4)]) (g := (gName 4)) rfl nd (pi_list (pv 2)) (blkOk_by (own := [("variable", 4)]) (N := ["self", "event", "scope", "bad_tuple", "variable"]) (sc := defScope s_Sampler_perform) (by decide +kernel)) (fun _ _ _ _ _ => (pg_name (i := 4) nd rfl (Or.inl rfl))) (fun _ _ _ _ _ => pts_nil) (fun _ _ _ _ _ => (pe_ix (ix_listK (K := K) rfl) (pe_dget hu (pe_fldK (K := K) rfl (pv 0) rfl) (pv 4) (fun _ _ => rfl)) (pe_dget hu (pe_fldK (K := K) rfl (pv 0) rfl) (pv 4) (fun _ _ => rfl)) (fun _ _ => rfl)))) pa_nil)))
      (pss_cons (ps_for PassesOwn.never rfl (pi_list (pv 2)) (pg_name (i := 4) nd rfl (Or.inl rfl)) (pss_one (ps_daug hu (pe_fld (pv 0) rfl) (pv 4) pe_int in_add (fun _ _ _ => rfl))))
      (pss_cons (ps_expr (pe_bm PySem.F.plainAttrs_list PySem.F.slot_list_append PySem.F.type_list_append mt_append (pe_fld (pv 0) rfl) (pa_cons (pe_tup (pa_cons (pv 1) (pa_cons (pv 3) pa_nil))) pa_nil)))
      (pss_one (ps_ret (pv 3))))))), ?_⟩
  have osc := scope_of hp'.ok (sc_of he)
  refine ⟨_, rfl, s, _, sx, _, _, rfl, h.ob.h, T.cl_Sampler, T.na_Sampler_own_problem, sfs1, p, dx, _, rfl, hp'.h e, pfsn (by decide +kernel), _, rfl, F, S.D, ev, _, e, h.pr.w, rfl, sc_of he, fun v F1 H1 g1 hv => ?_⟩
  obtain ⟨a, rfl, ha⟩ := rls hv
  refine ⟨_, rfl, a, rfl, ⟨_, sql_s g1.fh ha⟩, ?_⟩
  refine lcL (K := K) (RA := rS) (R := rI) (f := S.cur) (p := fun _ => true) g1.fh ha (str_all2 _) (by have := osc.1.2; omega) (fun y v F2 H2 hy g2 hv Kt Kf k1 k2 => ?_) (fun L F2 H2 g2 hL => ?_)
  · cases hv
    have h2 := (h.pu g1).pu g2
    have hx := osc.2.2 y hy
    obtain ⟨b, u, eb, hg, hu'⟩ := dgot g2.fh h2.rtp (h2.tape hx)
    cases eb
    obtain ⟨c, rfl, hc⟩ := rli hu'
    obtain ⟨hcur, hn⟩ := h2.cur hx
    refine ⟨rfl, _, rfl, s, _, sx, _, _, rfl, h2.ob.h, T.cl_Sampler, T.na_Sampler_tape_table, sfs2, _, rfl, dt, _, rfl, hg, _, rfl, s, _, sx, _, _, rfl, h2.ob.h, T.cl_Sampler, T.na_Sampler_position_table, sfs3, _, rfl, dp, _, rfl, h2.dpos hx, c, _, _, .int (S.cur y), rfl, rfl, sql_s g2.fh hc, ?_, k1 rfl _ F2 H2 (Gr.refl g2.fh) rfl⟩
    rw [hn]
    exact atI_nat (by rw [List.getElem?_map, hcur]; rfl)
  rw [ptrue] at hL
  obtain ⟨l, el, hl2⟩ := rli hL
  cases el
  refine ⟨L, _, rfl, .inl ⟨sql_s g2.fh hl2, fun t nt => ?_⟩⟩
  have g3 : Pu F2 H2 (upd F2 t (.tup (((S.D.sc ev).map S.cur).map V.int))) (upd H2 t (.tup (((S.D.sc ev).map S.cur).map V.int))) := Gr.new g2.fh nt
  have gg := (g1.trans g2).trans g3
  have h3 := h.pu gg
  have hbt : rU K rI (upd F2 t (.tup (((S.D.sc ev).map S.cur).map V.int))) (.ref t) ((S.D.sc ev).map S.cur) := ⟨t, _, rfl, SqT.of upd_same, int_all2 _⟩
  have ha3 := sql_s (g2.f.trans g3.f) ha
  have spd : s ≠ dp := h3.ob.ne' h3.ps (fun z => nomatch z)
  obtain ⟨xs, hm, hxs⟩ := h3.st
  have lpd : ls ≠ dp := hm.ne' h3.ps (fun z => nomatch z)
  have lsd : ls ≠ s := hm.ne' h3.ob (fun z => nomatch z)
  have l8 := hp'.ok.v.1.2
  have lp : S.pos.length = S.D.vars.length := by have := congrArg List.length h.ok.pn; simpa using this
  refine ⟨_, rfl, a, rfl, ⟨_, sql_s g3.fh ha3⟩, for_list (K := K) (a := a) (xs := (S.D.sc ev).map V.str) (fun i σ H' => (∃ w, σ = [some (.ref s), some (.str ev), some (.ref a), some (.ref t), w]) ∧ Gr (fun b => b = dp ∨ b = ls) (upd F2 t (.tup (((S.D.sc ev).map S.cur).map V.int))) (upd H2 t (.tup (((S.D.sc ev).map S.cur).map V.int))) (upd F2 t (.tup (((S.D.sc ev).map S.cur).map V.int))) H' ∧ Mt (upd F2 t (.tup (((S.D.sc ev).map S.cur).map V.int))) H' dp (.dK (posK (bump S.pos ((S.D.sc ev).take i)))) ∧ Mt (upd F2 t (.tup (((S.D.sc ev).map S.cur).map V.int))) H' ls (.lst xs))
    ⟨⟨_, rfl⟩, Gr.refl g3.fh, by rw [List.take_zero, bump_nil]; exact h3.ps, hm⟩ (fun i σ H' _ ⟨_, g, _⟩ => sql_s g.fh (sql_s g.f ha3)) ?_ ?_⟩
  · rintro i y σ H' hi ⟨⟨w, rfl⟩, g, m, ml⟩
    obtain ⟨x, hx, rfl⟩ := str_at hi
    have hxm := List.mem_of_getElem? hx
    have hxv := osc.2.2 x hxm
    have mo := h3.ob.up g (fun z => z.elim spd (fun z => lsd z.symm))
    have hni : x ∉ (S.D.sc ev).take i := by
      intro hm
      obtain ⟨j, hj, ej⟩ := List.mem_iff_getElem.mp hm
      rw [List.getElem_take] at ej
      rw [List.length_take] at hj
      obtain ⟨hi2, ei⟩ := List.getElem?_eq_some_iff.mp hx
      have := (List.getElem_inj osc.2.1).mp (ej.trans ei.symm)
      omega
    have hlk : (bump S.pos ((S.D.sc ev).take i)).lookup x = some (S.at x) := by
      rw [bump_look, h3.atp hxv]
      show some (if x ∈ _ then _ else _) = _
      rw [if_neg hni]
    obtain ⟨a', u, ea, hg, hu'⟩ := dgot (R := rI) (F := H') (v := .ref dp) (Same.refl H') ⟨dp, _, rfl, .inl m.h, pos_all _⟩ hlk
    cases ea
    cases hu'
    refine ⟨_, rfl, s, _, sx, _, _, rfl, mo.h, T.cl_Sampler, T.na_Sampler_position_table, sfs3, _, rfl, dp, _, rfl, hg, _, _, rfl, rfl, _, .inl ⟨_, Sum.inr x, m.h, rfl, lt_line (by unfold posK bump; rw [List.length_map, List.length_map]; omega), rfl⟩, ⟨_, rfl⟩, ?_, ?_, ml.other lpd⟩
    · exact g.set m.n (.inl rfl)
    · rw [put_bump (by rw [h.ok.pn]; exact h.nd) (h3.atp hxv) hni]
      have e1 : (S.D.sc ev).take (i + 1) = (S.D.sc ev).take i ++ [x] := by rw [List.take_succ, hx]; rfl
      rw [e1]
      exact m.set
  · rintro σ H' ⟨⟨w, rfl⟩, g, m, ml⟩
    rw [List.length_map, List.take_of_length_le (Nat.le_refl _)] at m
    have mo := h3.ob.up g (fun z => z.elim spd (fun z => lsd z.symm))
    have lx : xs.length = S.steps.length := hxs.length
    refine ⟨_, rfl, s, _, sx, _, _, rfl, mo.h, T.cl_Sampler, T.na_Sampler_step_list, sfs4, .inl ⟨rfl, _, SqL.of ml.h⟩, _, rfl, _, rfl, le_line (by show 2 ≤ 1000000; omega), fun q nq => ?_⟩
    have g4 : Pu (upd F2 t (.tup (((S.D.sc ev).map S.cur).map V.int))) H' (upd (upd F2 t (.tup (((S.D.sc ev).map S.cur).map V.int))) q (.tup [.str ev, .ref t])) (upd H' q (.tup [.str ev, .ref t])) := Gr.new g.fh nq
    have ml4 := ml.pu g4
    have mo4 := mo.pu g4
    have mp4 := m.pu g4
    refine ⟨ls, xs, .ref q, rfl, rfl, ml4.h, lt_line (by omega), ?_⟩
    have g5 := ((gg.pu.trans g).trans g4.pu).set (p := ls) (o := .lst (xs ++ [.ref q])) ml4.n (.inr rfl)
    refine ⟨_, rfl, k _ _ _ g5 ⟨mo4.other (fun z => lsd z.symm), Up.up g5.f h.pr, ?_, ?_, ⟨_, ml4.set, ?_⟩, step_ok hp'.ok h.ok he hf hl⟩⟩
    · obtain ⟨kvs, k1, k2⟩ := h.tp
      exact ⟨kvs, g5.f _ _ k1, k2.up g5.f⟩
    · exact mp4.other (fun z => lpd z.symm)
    · exact (hxs.up g4.f).snoc ⟨q, _, _, rfl, SqT.of upd_same, rfl, Up.up g4.f hbt⟩
end Rs
/-! text R18 -/
set_option Elab.async false
set_option linter.all false
set_option maxRecDepth 100000
set_option maxHeartbeats 4000000
namespace Rs
open PySem PySem.Spec PyProof.Rows L2
/-! ### a run -/
def sp_choose_last (K : PySem.W.Frag) : Sp := fun vs H Q _ => match vs with
  | [v] => ∃ (a : Addr) (l : List Str) (x : Str), v = .ref a ∧ SqL K H a (l.map V.str) ∧ l.getLast? = some x ∧ Q (.str x) H
  | _ => False
theorem atI_last {α : Type} {xs : List α} {x : α} (h : xs.getLast? = some x) : atI xs (-1) = some x := by
  have hl : 0 < xs.length := by
    cases xs with
    | nil => cases h
    | cons a l => simp
  rw [List.getLast?_eq_getElem?] at h
  unfold atI
  have e : ixN xs.length (-1) = some (xs.length - 1) := by
    unfold ixN
    rw [if_neg (by omega), if_pos (by omega)]
    congr 1
    omega
  rw [e]
  exact h
theorem sc_choose_last : FnScope ["events"] ["events"] (defScope s_choose_last) := C8.fnScope_by (by decide +kernel)
theorem c_choose_last {P : Program} {w : World} {K : PySem.W.Frag} {mg : Str → Option Value} {base hp : Heap} (T : Tx K mg hp) : C8.Cal P w K mg base 1 "choose_last" (sp_choose_last K) [] := by
  obtain ⟨fd, F⟩ := T.fd_choose_last
  refine mkCal T.gl_choose_last F sc_choose_last (fun _ _ _ _ _ _ us hl => match us, hl with | [_], _ => rfl) (fun vs H Q E h => by unfold sp_choose_last at h; split at h <;> first | rfl | exact h.elim) (fun cdv A outer s H vs Q E hr h => ?_)
  have nd := sc_choose_last.nd
  have hu := hu_of hr
  unfold sp_choose_last at h
  split at h
  case h_2 => exact h.elim
  obtain ⟨a, l, x, rfl, ha, hx, k⟩ := h
  refine ⟨_, (pss_one (ps_ret (pe_ix ix_list (pv 0) (pe_un un_neg pe_int) (fun _ _ => rfl)))), ?_⟩
  refine ⟨_, rfl, _, rfl, a, _, _, .str x, rfl, rfl, ha, atI_last ?_, k⟩
  rw [List.getLast?_map, hx]
  rfl
/-- None, or choose_last -/
def chV (K : PySem.W.Frag) (b : Bool) : V := if b then .ref (He.ga K "choose_last") else .non
def chF (b : Bool) (l : List Str) : Str := if b then (l.getLast?).getD "" else (l.head?).getD ""
theorem chF_mem {b : Bool} {l : List Str} (h : l ≠ []) : chF b l ∈ l := by
  cases l with
  | nil => exact absurd rfl h
  | cons a l =>
    cases b with
    | false => exact List.mem_cons_self ..
    | true =>
      show ((a :: l).getLast?).getD "" ∈ _
      rw [List.getLast?_eq_some_getLast (by simp)]
      exact List.getLast_mem (by simp)
def calS (K : PySem.W.Frag) : Addr → Option Sp := fun f => if f = He.ga K "choose_last" then some (sp_choose_last K) else none
theorem calA {P : Program} {w : World} {K : PySem.W.Frag} {mg : Str → Option Value} {base hp : Heap} (T : Tx K mg hp) : ∀ f sp, calS K f = some sp → Held P w K mg base 1 f sp := by
  intro f sp h
  unfold calS at h
  split at h
  · rename_i e
    cases h
    obtain ⟨g, fd, ps, ds, F, hm, kp, b, d⟩ := (c_choose_last (P := P) (w := w) (base := base) T).ex
    have eg : g = f := by
      rw [T.gl_choose_last] at hm
      rw [e]
      exact (Value.ref.inj (Option.some.inj hm)).symm
    subst eg
    have ed : ds = [] := by
      have q : Vals [] ds := d
      cases q
      rfl
    subst ed
    exact ⟨fd, ps, F, kp, b⟩
  · cases h
def sp_chosen (K : PySem.W.Frag) : Sp := fun vs H Q _ => match vs with
  | [v, u] => ∃ F l b, Same F H ∧ rL K rS F v l ∧ u = chV K b ∧ l ≠ [] ∧ ∀ F' H', Pu F H F' H' → Q (.str (chF b l)) H'
  | _ => False
theorem sc_chosen_event : FnScope ["events", "choose", "value"] ["events", "choose"] (defScope s_chosen_event) := C8.fnScope_by (by decide +kernel)
theorem c_chosen_event {P : Program} {w : World} {K : PySem.W.Frag} {mg : Str → Option Value} {base hp : Heap} (T : Tx K mg hp) : C8.Cal P w K mg base 2 "chosen_event" (sp_chosen K) [] := by
  obtain ⟨fd, F⟩ := T.fd_chosen_event
  refine mkCal T.gl_chosen_event F sc_chosen_event (fun _ _ _ _ _ _ us hl => match us, hl with | [_, _], _ => rfl) (fun vs H Q E h => by unfold sp_chosen at h; split at h <;> first | rfl | exact h.elim) (fun cdv A outer s H vs Q E hr h => ?_)
  have nd := sc_chosen_event.nd
  have hu := hu_of hr
  unfold sp_chosen at h
  split at h
  case h_2 => exact h.elim
  obtain ⟨F, l, b, e, hL, rfl, hne, k⟩ := h
  obtain ⟨a, rfl, ha⟩ := rls hL
  refine ⟨_, (pss_cons (ps_if (pt_cmpR op_isN (pv 1) pe_non (nomark _)) (pss_one (ps_ret (pe_ix ix_list (pv 0) pe_int (fun _ _ => rfl)))) pss_nil)
      (pss_cons (ps_set (i := 2) nd rfl (Or.inl rfl) (pe_callA (i := 1) (S := calS K) (calA T) (hr.mono (by decide)) rfl (Or.inl rfl) (pa_cons (pe_callTy call_list_of (by rfl) T.fr_list (by decide +kernel) (pa_cons (pv 0) pa_nil)) pa_nil)))
      (pss_cons (ps_if (PW.pt (pw_or (pt_not (pt_val (pe_callB call_isi (by rfl) T.fr_isinstance (by decide +kernel) (pa_cons (pv 2) (pa_cons (pe_bltn (v := .ty "str") (u := .type "str") (by rfl) T.fr_str (by decide +kernel) rfl) pa_nil))))) (pw_or1 (pt_cmpR (op_notIn_seqK (K := K) rfl) (pv 2) (pv 0) rfl)))) pss_never pss_nil)
      (pss_one (ps_ret (pv 2)))))), ?_⟩
  cases b with
  | false =>
    refine ⟨_, rfl, rfl, _, rfl, ?_⟩
    rw [decide_eq_true (show chV K false = .non from rfl)]
    refine iteT ⟨_, rfl, a, _, _, .str (chF false l), rfl, rfl, sql_s e ha, ?_, k _ _ (Gr.refl e)⟩
    refine atI_nat (j := 0) ?_
    cases l with
    | nil => exact absurd rfl hne
    | cons x l => rfl
  | true =>
    refine ⟨_, rfl, rfl, _, rfl, ?_⟩
    rw [decide_eq_false (show ¬ chV K true = .non from fun z => nomatch z)]
    refine iteF ⟨He.ga K "choose_last", sp_choose_last K, rfl, by unfold calS; rw [if_pos rfl], ?_⟩
    refine ⟨_, rfl, a, _, rfl, .inl (sql_s e ha), fun q nq => ?_⟩
    have g : Pu F H (upd F q (.lst (l.map V.str))) (upd H q (.lst (l.map V.str))) := Gr.new e nq
    have hx : l.getLast? = some (chF true l) := by
      show l.getLast? = some ((l.getLast?).getD "")
      rw [List.getLast?_eq_some_getLast hne]
      rfl
    refine ⟨q, l, _, rfl, SqL.of upd_same, hx, ?_⟩
    refine ⟨_, rfl, _, _, _, _, _, rfl, .ty _, .base (.str _), ks K, _, rfl, iteF ⟨_, rfl, _, rfl, a, _, rfl, .inl (sql_s g.fh (sql_s g.f ha)), rfl, flat_strs _, _, rfl, ?_⟩⟩
    rw [inv_str, decide_eq_true (chF_mem (b := true) hne)]
    exact iteF ⟨_, rfl, k _ _ g⟩
def runS (b : Bool) : Nat → SD → SD
  | 0, S => S
  | n + 1, S => if S.ready = [] then S else runS b n (S.step (chF b S.ready))
theorem runS_stop {b : Bool} {n : Nat} {S : SD} (h : S.ready = []) : runS b n S = S := by
  cases n with
  | zero => rfl
  | succ n => show (if S.ready = [] then S else _) = S; rw [if_pos h]
def sp_run (K : PySem.W.Frag) : Sp := fun vs H Q _ => match vs with
  | [v, u, m] => ∃ F s sx p dt dp ls S b, v = .ref s ∧ u = chV K b ∧ m = .int 240 ∧ Same F H ∧ SAt K F H s sx p dt dp ls false S ∧ S.steps = [] ∧ ∀ F' H', Gr (fun b => b = s ∨ b = dp ∨ b = ls) F H F' H' → SAt K F' H' s sx p dt dp ls false (runS b 240 S) → Q (.int ((runS b 240 S).steps.length : Nat)) H'
  | _ => False
theorem SAt.act {K : PySem.W.Frag} {F H : Hp} {s sx p dt dp ls : Addr} {a b : Bool} {S : SD} (h : SAt K F H s sx p dt dp ls a S) : SAt K F (upd H s (.ins (a_Sampler K) sx (sfs p dt dp ls b))) s sx p dt dp ls b S := by
  obtain ⟨xs, h1, h2⟩ := h.st
  exact ⟨h.ob.set, h.pr, h.tp, h.ps.other (h.ps.ne' h.ob (fun z => nomatch z)), ⟨xs, h1.other (h1.ne' h.ob (fun z => nomatch z)), h2⟩, h.ok⟩
theorem ready_names {S : SD} {e : Str} (h : e ∈ S.ready) : e ∈ S.D.names ∧ S.fe e = none := by
  have h1 := List.mem_filter.mp h
  exact ⟨(List.mem_filter.mp h1.1).1, by simpa using h1.2⟩
theorem sfs_len {p dt dp ls : Addr} {act : Bool} : (sfs p dt dp ls act).length < 1000 := by show 5 < 1000; decide
theorem sc_run_sampler : FnScope ["sampler", "choose", "max_steps", "count", "events"] ["sampler", "choose", "max_steps"] (defScope s_run_sampler) := C8.fnScope_by (by decide +kernel)
theorem c_run_sampler {P : Program} {w : World} {K : PySem.W.Frag} {mg : Str → Option Value} {base hp : Heap} (T : Tx K mg hp) : C8.Cal P w K mg base 8 "run_sampler" (sp_run K) [.int 240] := by
  obtain ⟨fd, F⟩ := T.fd_run_sampler
  obtain ⟨ks, hv, hb⟩ := F.binds (ps := ["sampler", "choose", "max_steps"]) 2 1 (by simp) rfl (fun T D doc pm an cdv ct us its ks hu hi hk => match us, its, ks, hu, hi, hk with | [_, _], [_], [_], _, _, _ => ⟨_, rfl, _, _, _, _, _, _, rfl, rfl, rfl⟩) (by simp)
  refine ⟨_, fd, _, ks, fnok_of F sc_run_sampler (fun vs H Q E h => by unfold sp_run at h; split at h <;> first | rfl | exact h.elim) (fun cdv A outer s H vs Q E hr h => ?_), T.gl_run_sampler, F.kp, hb, hv⟩
  have nd := sc_run_sampler.nd
  have hu := hu_of hr
  unfold sp_run at h
  split at h
  case h_2 => exact h.elim
  obtain ⟨F, s, sx, p, dt, dp, ls, S, b, rfl, rfl, rfl, e, h, hs0, k⟩ := h
  refine ⟨_, (pss_cons (ps_if (pt_not (pt_val (pe_callB (C8.call_isC T.i_Sampler) (by rfl) T.fr_isinstance (by decide +kernel) (pa_cons (pv 0) (pa_cons (C8.pe_gc (by rfl) T.g_Sampler) pa_nil))))) pss_never pss_nil)
      (pss_cons (ps_if (pt_not (pt_val (C8.pe_c (c_is_integer T) hr (by decide) (by rfl) (pa_cons (pv 2) (pa_cons pe_int (pa_cons (C8.pe_gc (by rfl) T.k_MAX_STEPS) pa_nil)))))) pss_never pss_nil)
      (pss_cons (ps_expr (C8.pe_mt0 (c_Sampler_check_idle T) hr (by decide) (pv 0)))
      (pss_cons (ps_set (i := 3) nd rfl (Or.inl rfl) pe_int)
      (pss_cons (ps_fld (pv 0) pe_bl rfl)
      (pss_cons (ps_fin0 (pss_cons (ps_set (i := 4) nd rfl (Or.inl rfl) (C8.pe_mt0 (c_Sampler_ready T) hr (by decide) (pv 0)))
      (pss_one (ps_while PassesOwn.never (PW.pt (pw_and (pt_cmpR (op_neD hr.units) (pv 4) (pe_lst pa_nil) (nomark _)) (pw_and1 (pt_cmpR op_lt (pv 3) (pv 2) (nomark _))))) (pss_cons (ps_expr (C8.pe_mt (c_Sampler_perform T) hr (by decide) (pv 0) (pa_cons (C8.pe_c (c_chosen_event T) hr (by decide) (by rfl) (pa_cons (pv 4) (pa_cons (pv 1) pa_nil))) pa_nil)))
      (pss_cons (ps_aug (i := 3) nd rfl (Or.inl rfl) pe_int ip_add)
      (pss_one (ps_set (i := 4) nd rfl (Or.inl rfl) (C8.pe_mt0 (c_Sampler_ready T) hr (by decide) (pv 0))))))))) (pss_one (ps_fld (pv 0) pe_bl rfl)))
      (pss_one (ps_ret (pv 3))))))))), ?_⟩
  have spd : s ≠ dp := h.ob.ne' h.ps (fun z => nomatch z)
  refine ⟨_, rfl, s, sx, _, rfl, h.ob.h, _, rfl, iteF ⟨_, rfl, _, _, _, rfl, rfl, rfl, _, rfl, iteF ?_⟩⟩
  refine ⟨_, rfl, s, sx, _, rfl, h.ob.h, sfsn (by decide +kernel), F, s, sx, p, dt, dp, ls, S, rfl, h, ?_⟩
  refine ⟨_, rfl, s, _, sx, _, rfl, h.ob.h, T.cl_Sampler, T.na_Sampler_run_active, sfs_len, ?_⟩
  rw [sput5]
  have h1 := h.act (b := true)
  have g1 : Gr (fun b => b = s ∨ b = dp ∨ b = ls) F H F (upd H s (.ins (a_Sampler K) sx (sfs p dt dp ls true))) := (Gr.refl e).set h.ob.n (.inl rfl)
  refine ⟨_, rfl, s, sx, _, rfl, h1.ob.h, sfsn (by decide +kernel), F, s, sx, p, dt, dp, ls, true, S, rfl, g1.fh, h1, fun v F2 H2 g2 hv => ?_⟩
  refine ⟨fun m σ H' => ∃ F' S' ev, σ = [some (.ref s), some (chV K b), some (.int 240), some (.int (S'.steps.length : Nat)), some ev] ∧ Gr (fun b => b = s ∨ b = dp ∨ b = ls) F H F' H' ∧ SAt K F' H' s sx p dt dp ls true S' ∧ rL K rS F' ev S'.ready ∧ runS b (240 - S'.steps.length) S' = runS b 240 S ∧ m = 240 - S'.steps.length,
    ⟨_, F2, S, v, by rw [hs0]; rfl, g1.trans g2.pu, h1.pu g2, hv, by rw [hs0]; rfl, rfl⟩, ?_⟩
  rintro m σ H' ⟨F', S', ev, rfl, g, h', hev, hrun, rfl⟩
  refine ⟨_, rfl, Nat.zero_le _, fun q nq => ?_⟩
  have g3 : Pu F' H' (upd F' q (.lst [])) (upd H' q (.lst [])) := Gr.new g.fh nq
  have gg := g.trans g3.pu
  have h3 := h'.pu g3
  have mo := h3.ob
  have hend : runS b 240 S = S' → ∀ (Z : VK), (∀ F' H', Gr (fun b => b = s ∨ b = dp ∨ b = ls) F H F' H' → SAt K F' H' s sx p dt dp ls false (runS b 240 S) → Z (.int ((runS b 240 S).steps.length : Nat)) H') → Z (.int (S'.steps.length : Nat)) (upd (upd H' q (.lst [])) s (.ins (a_Sampler K) sx (sfs p dt dp ls false))) := fun er Z kz => by
    rw [er] at kz
    exact kz _ _ (gg.set mo.n (.inl rfl)) h3.act
  refine neD (a := S'.ready) (b := []) (encL (encS (K := K))) (by decide) g3.fh (Up.up g3.f hev) ⟨q, [], rfl, SqL.of upd_same, Paired.nil⟩ (fun x hx => name_lay (names_name h'.dOk (ready_names hx).1)) (fun x hx => by cases hx) fun r hr => ⟨_, rfl, ?_⟩
  cases r with
  | true =>
    have hrd : S'.ready = [] := hr.mp rfl
    have er : runS b 240 S = S' := by rw [← hrun, runS_stop hrd]
    refine iteF (iteF ⟨_, rfl, s, _, sx, _, rfl, mo.h, T.cl_Sampler, T.na_Sampler_run_active, sfs_len, ?_⟩)
    rw [sput5]
    exact ⟨_, rfl, hend er Q k⟩
  | false =>
    have hrd : S'.ready ≠ [] := fun z => Bool.noConfusion (hr.mpr z)
    refine iteT ⟨_, rfl, _, rfl, _, _, rfl, rfl, _, rfl, ?_⟩
    by_cases hc : S'.steps.length < 240
    · rw [decide_eq_true (show ((S'.steps.length : Nat) : Int) < 240 by omega)]
      have hmem := chF_mem (b := b) hrd
      obtain ⟨hm1, hm2⟩ := ready_names hmem
      refine iteT ⟨fun σ' H'' => ∃ F'' ev', σ' = [some (.ref s), some (chV K b), some (.int 240), some (.int ((S'.steps.length : Nat) + 1)), some ev'] ∧ Gr (fun b => b = s ∨ b = dp ∨ b = ls) F H F'' H'' ∧ SAt K F'' H'' s sx p dt dp ls true (S'.step (chF b S'.ready)) ∧ rL K rS F'' ev' (S'.step (chF b S'.ready)).ready, ?_, ?_⟩
      · rintro σ' H'' ⟨F'', ev', rfl, g4, h4, hv4⟩
        have el : (S'.step (chF b S'.ready)).steps.length = S'.steps.length + 1 := by show (S'.steps ++ [_]).length = _; rw [List.length_append]; rfl
        refine ⟨240 - (S'.steps.length + 1), by omega, F'', S'.step (chF b S'.ready), ev', by rw [el]; rfl, g4, h4, hv4, ?_, by rw [el]⟩
        rw [el, ← hrun]
        have e2 : 240 - S'.steps.length = (240 - (S'.steps.length + 1)) + 1 := by omega
        rw [e2]
        show _ = if S'.ready = [] then S' else _
        rw [if_neg hrd]
      · refine ⟨_, rfl, s, sx, _, rfl, mo.h, sfsn (by decide +kernel), _, rfl, _, rfl, _, S'.ready, b, gg.fh, Up.up g3.f hev, rfl, hrd, fun F4 H4 g4 => ?_⟩
        refine ⟨F4, s, sx, p, dt, dp, ls, true, S', _, rfl, rfl, g4.fh, h3.pu g4, hm1, hm2, hc, fun v F5 H5 g5 h5 => ?_⟩
        have gg5 := (gg.trans g4.pu).trans (g5.mono fun b hb => .inr hb)
        refine ⟨_, rfl, _, _, rfl, rfl, ?_⟩
        refine ⟨_, rfl, s, sx, _, rfl, h5.ob.h, sfsn (by decide +kernel), F5, s, sx, p, dt, dp, ls, true, _, rfl, gg5.fh, h5, fun v F6 H6 g6 hv6 => ?_⟩
        exact ⟨F6, v, rfl, gg5.trans g6.pu, h5.pu g6, hv6⟩
    · rw [decide_eq_false (show ¬ ((S'.steps.length : Nat) : Int) < 240 by omega)]
      have er : runS b 240 S = S' := by
        rw [← hrun, show 240 - S'.steps.length = 0 by omega]
        rfl
      refine iteF ⟨_, rfl, s, _, sx, _, rfl, mo.h, T.cl_Sampler, T.na_Sampler_run_active, sfs_len, ?_⟩
      rw [sput5]
      exact ⟨_, rfl, hend er Q k⟩
end Rs
/-! text R19 -/
set_option Elab.async false
set_option linter.all false
set_option maxRecDepth 100000
set_option maxHeartbeats 4000000
namespace Rs
open PySem PySem.Spec PyProof.Rows L2
/-! ### independent sets, as data -/
def gst (names : List Str) (g : List Str) : Nat := match g.getLast? with
  | none => 0
  | some x => names.idxOf x + 1
def gok (nb : Str → List Str) (g : List Str) (x : Str) : Bool := !(g.map fun m => decide (x ∈ nb m)).any id
def grow1 (names : List Str) (nb : Str → List Str) (g : List Str) : List (List Str) := ((names.drop (gst names g)).filter (gok nb g)).map fun x => g ++ [x]
def indF (names : List Str) (nb : Str → List Str) : Nat → List (List Str) → List (List Str) → List (List Str)
  | 0, fd, _ => fd
  | n + 1, fd, lg => if lg = [] then fd else indF names nb n (fd ++ lg.flatMap (grow1 names nb)) (lg.flatMap (grow1 names nb))
def indep (names : List Str) (nb : Str → List Str) : List (List Str) := indF names nb 300 [[]] [[]]
def okG (names g : List Str) : Prop := (∀ m ∈ g, m ∈ names) ∧ g.length ≤ gst names g ∧ gst names g ≤ names.length
def phi (names : List Str) (l : List (List Str)) : Nat := (l.map fun g => 2 ^ (names.length - gst names g)).sum
theorem gst_snoc {names g : List Str} {x : Str} : gst names (g ++ [x]) = names.idxOf x + 1 := by
  unfold gst
  rw [List.getLast?_concat]
theorem idx_at {names : List Str} (hn : names.Nodup) {i : Nat} (h : i < names.length) : names.idxOf names[i] = i := hn.idxOf_getElem i h
theorem okG_grow {names g : List Str} {nb : Str → List Str} (hn : names.Nodup) (h : okG names g) : ∀ g' ∈ grow1 names nb g, okG names g' := by
  intro g' hg
  obtain ⟨x, hx, rfl⟩ := List.mem_map.mp hg
  have hx1 := (List.mem_filter.mp hx).1
  obtain ⟨j, hj, ej⟩ := List.mem_iff_getElem.mp hx1
  rw [List.getElem_drop] at ej
  rw [List.length_drop] at hj
  have hi : names.idxOf x = gst names g + j := by rw [← ej]; exact idx_at hn (by omega)
  refine ⟨fun m hm => ?_, ?_, ?_⟩
  · rcases List.mem_append.mp hm with hm | hm
    · exact h.1 m hm
    · rw [List.mem_singleton.mp hm]
      exact List.mem_of_mem_drop hx1
  · rw [gst_snoc, List.length_append, hi]
    have := h.2.1
    show g.length + 1 ≤ _
    omega
  · rw [gst_snoc, hi]
    omega
theorem phi_drop {names : List Str} (hn : names.Nodup) : ∀ k s, s + k = names.length → ((names.drop s).map fun x => 2 ^ (names.length - (names.idxOf x + 1))).sum + 1 = 2 ^ k
  | 0, s, h => by
    rw [List.drop_of_length_le (by omega)]
    rfl
  | k + 1, s, h => by
    have hs : s < names.length := by omega
    have ih := phi_drop hn k (s + 1) (by omega)
    rw [List.drop_eq_getElem_cons hs, List.map_cons, List.sum_cons, idx_at hn hs, show names.length - (s + 1) = k by omega, Nat.pow_succ]
    omega
theorem sum_filter {α : Type} (f : α → Nat) (p : α → Bool) : ∀ l : List α, ((l.filter p).map f).sum ≤ (l.map f).sum
  | [] => Nat.le_refl _
  | a :: l => by
    have ih := sum_filter f p l
    rw [List.filter_cons]
    split
    · rw [List.map_cons, List.sum_cons, List.map_cons, List.sum_cons]
      omega
    · rw [List.map_cons, List.sum_cons]
      omega
theorem phi_grow {names g : List Str} {nb : Str → List Str} (hn : names.Nodup) (h : okG names g) : phi names (grow1 names nb g) + 1 ≤ 2 ^ (names.length - gst names g) := by
  have h1 := phi_drop hn (names.length - gst names g) (gst names g) (by have := h.2.2; omega)
  unfold phi grow1
  rw [List.map_map]
  have e : ((fun g => 2 ^ (names.length - gst names g)) ∘ fun x => g ++ [x]) = fun x => 2 ^ (names.length - (names.idxOf x + 1)) := by
    funext x
    show 2 ^ (names.length - gst names (g ++ [x])) = _
    rw [gst_snoc]
  rw [e]
  have := sum_filter (fun x => 2 ^ (names.length - (names.idxOf x + 1))) (gok nb g) (names.drop (gst names g))
  omega
theorem phi_flat {names : List Str} {nb : Str → List Str} (hn : names.Nodup) : ∀ lg : List (List Str), (∀ g ∈ lg, okG names g) → phi names (lg.flatMap (grow1 names nb)) + lg.length ≤ phi names lg
  | [], _ => Nat.le_refl _
  | g :: lg, h => by
    have ih := phi_flat (nb := nb) hn lg fun x hx => h x (List.mem_cons_of_mem _ hx)
    have h1 := phi_grow (nb := nb) hn (h g (List.mem_cons_self ..))
    rw [List.flatMap_cons]
    unfold phi at ih h1 ⊢
    rw [List.map_append, List.sum_append, List.map_cons, List.sum_cons, List.length_cons]
    omega
theorem len_phi {names : List Str} : ∀ lg : List (List Str), lg.length ≤ phi names lg
  | [] => Nat.le_refl _
  | g :: lg => by
    have ih := len_phi (names := names) lg
    unfold phi at ih ⊢
    rw [List.map_cons, List.sum_cons, List.length_cons]
    have : 0 < 2 ^ (names.length - gst names g) := Nat.pow_pos (by decide)
    omega
theorem okG_flat {names : List Str} {nb : Str → List Str} (hn : names.Nodup) {lg : List (List Str)} (h : ∀ g ∈ lg, okG names g) : ∀ g ∈ lg.flatMap (grow1 names nb), okG names g := by
  intro g hg
  obtain ⟨x, h1, h2⟩ := List.mem_flatMap.mp hg
  exact okG_grow hn (h x h1) g h2
/-- all of them are of the names, at most 256 -/
theorem indF_ok {names : List Str} {nb : Str → List Str} (hn : names.Nodup) : ∀ (n : Nat) (fd lg : List (List Str)), (∀ g ∈ fd, okG names g) → (∀ g ∈ lg, okG names g) → fd.length + phi names lg ≤ 256 + lg.length → phi names lg ≤ n → (∀ g ∈ indF names nb n fd lg, okG names g) ∧ (indF names nb n fd lg).length ≤ 256
  | 0, fd, lg, h1, h2, h3, h4 => by
    have := len_phi (names := names) lg
    exact ⟨h1, by show fd.length ≤ 256; omega⟩
  | n + 1, fd, lg, h1, h2, h3, h4 => by
    show (∀ g ∈ (if lg = [] then fd else _), okG names g) ∧ (if lg = [] then fd else _).length ≤ 256
    by_cases e : lg = []
    · rw [if_pos e]
      have hl : lg.length = 0 := by rw [e]; rfl
      exact ⟨h1, by omega⟩
    · rw [if_neg e]
      have h5 := phi_flat (nb := nb) hn lg h2
      have h6 : 0 < lg.length := List.length_pos_iff.mpr e
      have h7 := okG_flat (nb := nb) hn h2
      have h8 := len_phi (names := names) (lg.flatMap (grow1 names nb))
      refine indF_ok hn n _ _ (fun g hg => (List.mem_append.mp hg).elim (h1 g) (h7 g)) h7 ?_ (by omega)
      rw [List.length_append]
      omega
theorem phi0 {names : List Str} (h8 : names.length ≤ 8) : phi names [[]] ≤ 256 := by
  show (2 ^ (names.length - 0)) + 0 ≤ 256
  have : 2 ^ (names.length - 0) ≤ 2 ^ 8 := Nat.pow_le_pow_right (by decide) (by omega)
  omega
theorem okG0 {names : List Str} : ∀ g ∈ ([[]] : List (List Str)), okG names g := fun g hg => by
  rw [List.mem_singleton.mp hg]
  exact ⟨fun m hm => (by cases hm), Nat.le_refl _, Nat.zero_le _⟩
theorem indep_ok {names : List Str} {nb : Str → List Str} (hn : names.Nodup) (h8 : names.length ≤ 8) : (∀ g ∈ indep names nb, okG names g) ∧ (indep names nb).length ≤ 256 :=
  indF_ok hn 300 _ _ okG0 okG0 (by have := phi0 h8; show 1 + phi names [[]] ≤ 256 + 1; omega) (by have := phi0 h8; omega)
def sp_need_size : Sp := fun vs H Q _ => match vs with
  | [v] => ∃ n : Int, v = .int n ∧ 0 ≤ n ∧ n ≤ 12 ∧ Q .non H
  | _ => False
theorem sc_need_size : FnScope ["value"] ["value"] (defScope s_need_size) := C8.fnScope_by (by decide +kernel)
theorem c_need_size {P : Program} {w : World} {K : PySem.W.Frag} {mg : Str → Option Value} {base hp : Heap} (T : Tx K mg hp) : C8.Cal P w K mg base 2 "need_size" sp_need_size [] := by
  obtain ⟨fd, F⟩ := T.fd_need_size
  refine mkCal T.gl_need_size F sc_need_size (fun _ _ _ _ _ _ us hl => match us, hl with | [_], _ => rfl) (fun vs H Q E h => by unfold sp_need_size at h; split at h <;> first | rfl | exact h.elim) (fun cdv A outer s H vs Q E hr h => ?_)
  have nd := sc_need_size.nd
  have hu := hu_of hr
  unfold sp_need_size at h
  split at h
  case h_2 => exact h.elim
  obtain ⟨n, rfl, h0, h1, k⟩ := h
  refine ⟨_, (pss_one (ps_if (pt_not (pt_val (C8.pe_c (c_is_integer T) hr (by decide) (by rfl) (pa_cons (pv 0) (pa_cons pe_int (pa_cons (C8.pe_gc (by rfl) T.k_MAX_SIZE) pa_nil)))))) pss_never pss_nil)), ?_⟩
  refine ⟨_, rfl, _, _, _, rfl, rfl, rfl, _, rfl, ?_⟩
  rw [decide_eq_true h0, decide_eq_true h1]
  exact iteF k
def sgn (n : Nat) : Int := 1 - 2 * ((n : Int) % 2)
def sp_event_sign (K : PySem.W.Frag) : Sp := fun vs H Q _ => match vs with
  | [v] => ∃ (a : Addr) (g : List Str), v = .ref a ∧ SqT K H a (g.map V.str) ∧ Q (.int (sgn g.length)) H
  | _ => False
theorem sc_event_sign : FnScope ["group"] ["group"] (defScope s_event_sign) := C8.fnScope_by (by decide +kernel)
theorem c_event_sign {P : Program} {w : World} {K : PySem.W.Frag} {mg : Str → Option Value} {base hp : Heap} (T : Tx K mg hp) : C8.Cal P w K mg base 1 "event_sign" (sp_event_sign K) [] := by
  obtain ⟨fd, F⟩ := T.fd_event_sign
  refine mkCal T.gl_event_sign F sc_event_sign (fun _ _ _ _ _ _ us hl => match us, hl with | [_], _ => rfl) (fun vs H Q E h => by unfold sp_event_sign at h; split at h <;> first | rfl | exact h.elim) (fun cdv A outer s H vs Q E hr h => ?_)
  have nd := sc_event_sign.nd
  have hu := hu_of hr
  unfold sp_event_sign at h
  split at h
  case h_2 => exact h.elim
  obtain ⟨a, g, rfl, ha, k⟩ := h
  refine ⟨_, (pss_one (ps_ret (pe_op op_sub pe_int (pe_op op_mulW pe_int (pe_op op_mod (pe_callB call_len_seq (by rfl) T.fr_len (by decide +kernel) (pa_cons (pv 0) pa_nil)) pe_int))))), ?_⟩
  refine ⟨_, rfl, a, _, rfl, .inr ha, _, _, rfl, rfl, (by show (0 : Int) < 2; decide), _, _, rfl, rfl, ?_, _, _, rfl, rfl, ?_⟩
  · refine wide_mul (a := 8) (b := 8) (by decide) ?_ (by decide) (by decide) (by decide)
    have := Int.emod_nonneg (((g.map V.str).length : Nat) : Int) (by decide : (2 : Int) ≠ 0)
    have := Int.emod_lt_of_pos (((g.map V.str).length : Nat) : Int) (by decide : (0 : Int) < 2)
    omega
  · rw [List.length_map]
    exact k
def sp_scope_count (K : PySem.W.Frag) : Sp := fun vs H Q _ => match vs with
  | [v, u] => ∃ F D e, Same F H ∧ rPl K F v D ∧ u = .str e ∧ e ∈ D.names ∧ ∀ F' H', Pu F H F' H' → Q (.int (tcount D.vars (D.sc e))) H'
  | _ => False
theorem sc_scope_count : FnScope ["problem", "event", "count", "variable"] ["problem", "event"] (defScope s_scope_count) := C8.fnScope_by (by decide +kernel)
theorem c_scope_count {P : Program} {w : World} {K : PySem.W.Frag} {mg : Str → Option Value} {base hp : Heap} (T : Tx K mg hp) : C8.Cal P w K mg base 3 "scope_count" (sp_scope_count K) [] := by
  obtain ⟨fd, F⟩ := T.fd_scope_count
  refine mkCal T.gl_scope_count F sc_scope_count (fun _ _ _ _ _ _ us hl => match us, hl with | [_, _], _ => rfl) (fun vs H Q E h => by unfold sp_scope_count at h; split at h <;> first | rfl | exact h.elim) (fun cdv A outer s H vs Q E hr h => ?_)
  have nd := sc_scope_count.nd
  have hu := hu_of hr
  unfold sp_scope_count at h
  split at h
  case h_2 => exact h.elim
  obtain ⟨F, D, ev, e, hP, rfl, he, k⟩ := h
  obtain ⟨p, dx, d1, d2, d3, rfl, h⟩ := id hP
  refine ⟨_, (pss_cons (ps_set (i := 2) nd rfl (Or.inl rfl) pe_int)
      (pss_cons (ps_for PassesOwn.never rfl (pi_list (C8.pe_mt (c_Problem_scope T) hr (by decide) (pv 0) (pa_cons (pv 1) pa_nil))) (pg_name (i := 3) nd rfl (Or.inl rfl)) (pss_one (ps_set (i := 2) nd rfl (Or.inl rfl) (pe_op op_mulW (pv 2) (C8.pe_mt (c_Problem_size T) hr (by decide) (pv 0) (pa_cons (pv 3) pa_nil))))))
      (pss_one (ps_ret (pv 2))))), ?_⟩
  have osc := scope_of h.ok (sc_of he)
  refine ⟨_, rfl, p, dx, _, rfl, h.h e, pfsn (by decide +kernel), _, rfl, F, D, ev, _, e, hP, rfl, sc_of he, fun v F1 H1 g1 hv => ?_⟩
  obtain ⟨a, rfl, ha⟩ := rls hv
  refine ⟨a, rfl, ⟨_, sql_s g1.fh ha⟩, for_list (K := K) (a := a) (xs := (D.sc ev).map V.str) (fun i σ H' => (∃ w, σ = [some (.ref p), some (.str ev), some (.int (tcount D.vars ((D.sc ev).take i))), w]) ∧ H' = H1) ⟨⟨_, rfl⟩, rfl⟩ (fun i σ H' _ ⟨_, z⟩ => by rw [z]; exact sql_s g1.fh ha) ?_ ?_⟩
  · rintro i y σ H' hi ⟨⟨w, rfl⟩, rfl⟩
    obtain ⟨x, hx, rfl⟩ := str_at hi
    obtain ⟨n, hn, n1, n6⟩ := var_of h.ok.v (osc.2.2 x (List.mem_of_getElem? hx))
    have bd := tcount_in h.ok.v osc i
    refine ⟨_, rfl, _, rfl, p, dx, _, rfl, (h.up (.of g1.f)).h g1.fh, pfsn (by decide +kernel), _, rfl, D, x, n, Up.up (g1.f.trans g1.fh) hP, rfl, hn, _, _, rfl, rfl, wide_mul (a := 40) (b := 8) (by omega) (by omega) (by decide) (by decide) (by decide), ⟨some (.str x), ?_⟩, rfl⟩
    rw [tcount_take hx, hn]
    rfl
  · rintro σ H' ⟨⟨w, rfl⟩, rfl⟩
    refine ⟨_, rfl, ?_⟩
    rw [List.length_map, List.take_of_length_le (Nat.le_refl _)]
    exact k _ _ g1
end Rs
/-! text R20 -/
set_option Elab.async false
set_option linter.all false
set_option maxRecDepth 100000
set_option maxHeartbeats 4000000
namespace Rs
open PySem PySem.Spec PyProof.Rows L2
def sp_indep (K : PySem.W.Frag) : Sp := fun vs H Q _ => match vs with
  | [v, u] => ∃ F names nbl, Same F H ∧ rL K rS F v names ∧ rD (rL K rS) F u nbl ∧ nbl.map (·.1) = names ∧ names.Nodup ∧ names.length ≤ 8 ∧ (∀ n ∈ names, isName n) ∧ ∀ v F' H', Pu F H F' H' → rL K (rU K rS) F' v (indep names fun x => (nbl.lookup x).getD []) → Q v H'
  | _ => False
theorem idx_first {names : List Str} {x : Str} (h : x ∈ names) : ∃ z, (names.map V.str)[names.idxOf x]? = some z ∧ eqV z (.str x) = true ∧ ∀ (m : Nat) (z' : V), m < names.idxOf x → (names.map V.str)[m]? = some z' → eqV z' (.str x) = false := by
  have hl := List.idxOf_lt_length_of_mem h
  refine ⟨.str x, ?_, ?_, fun m z' hm hz => ?_⟩
  · rw [List.getElem?_map, List.getElem?_eq_getElem hl, List.getElem_idxOf]
    rfl
  · show (x == x) = true
    simp
  · rw [List.getElem?_map] at hz
    have hm' : m < names.length := by omega
    rw [List.getElem?_eq_getElem hm'] at hz
    cases hz
    show (names[m] == x) = false
    unfold List.idxOf at hm
    have := List.not_of_lt_findIdx hm
    simpa using this
theorem take_flat {α β : Type} {f : α → List β} {l : List α} {i : Nat} {x : α} (h : l[i]? = some x) : (l.take (i + 1)).flatMap f = (l.take i).flatMap f ++ f x := by
  rw [List.take_succ, h, List.flatMap_append]
  simp
theorem flat_bd {α β : Type} {f : α → List β} {n : Nat} (h : ∀ x, (f x).length ≤ n) : ∀ l : List α, (l.flatMap f).length ≤ l.length * n
  | [] => by simp
  | x :: l => by
    have := flat_bd h l
    have := h x
    rw [List.flatMap_cons, List.length_append, List.length_cons, Nat.add_mul]
    omega
theorem grow_len {names g : List Str} {nb : Str → List Str} : (grow1 names nb g).length ≤ names.length := by
  unfold grow1
  rw [List.length_map]
  exact Nat.le_trans (List.length_filter_le _ _) (by rw [List.length_drop]; omega)
theorem cut_fromI {xs : List V} {v : Int} {n : Nat} (hv : v = (n : Int)) (h : n ≤ xs.length) : cutV xs (some v) none = xs.drop n := by rw [hv]; exact cut_from h
theorem any_gok {nb : Str → List Str} {g : List Str} {x : Str} : ((g.filter fun _ => true).map fun m => decide (x ∈ nb m)).any id = !gok nb g x := by
  unfold gok
  rw [ptrue, Bool.not_not]
theorem sc_independent_tuples : FnScope ["names", "neighbors", "found", "longest", "grown", "group", "start", "name", "member"] ["names", "neighbors"] (defScope s_independent_tuples) := C8.fnScope_by (by decide +kernel)
theorem c_independent_tuples {P : Program} {w : World} {K : PySem.W.Frag} {mg : Str → Option Value} {base hp : Heap} (T : Tx K mg hp) : C8.Cal P w K mg base 1 "independent_tuples" (sp_indep K) [] := by
  obtain ⟨fd, F⟩ := T.fd_independent_tuples
  refine mkCal T.gl_independent_tuples F sc_independent_tuples (fun _ _ _ _ _ _ us hl => match us, hl with | [_, _], _ => rfl) (fun vs H Q E h => by unfold sp_indep at h; split at h <;> first | rfl | exact h.elim) (fun cdv A outer s H vs Q E hr h => ?_)
  have nd := sc_independent_tuples.nd
  have hu := hu_of hr
  unfold sp_indep at h
  split at h
  case h_2 => exact h.elim
  obtain ⟨F, names, nbl, e, hN, hB, hk, hn, h8, hnm, k⟩ := h
  obtain ⟨na, rfl, hna⟩ := rls hN
  obtain ⟨nd', kvn, rfl, hdn, halln⟩ := id hB
  refine ⟨_, (pss_cons (ps_par (i := 2) (j := 3) rfl nd rfl rfl (by decide) rfl rfl (pa_cons (pe_lst (pa_cons (pe_tup pa_nil) pa_nil)) (pa_cons (pe_lst (pa_cons (pe_tup pa_nil) pa_nil)) pa_nil)) (by rfl))
      (pss_cons (ps_while PassesOwn.never (pt_cmpR (op_neD hr.units) (pv 3) (pe_lst pa_nil) (nomark _)) (pss_cons (ps_set (i := 4) nd rfl (Or.inl rfl) (pe_lst pa_nil))
      (pss_cons (ps_for PassesOwn.never rfl (pi_list (pv 3)) (pg_name (i := 5) nd rfl (Or.inl rfl)) (pss_cons (ps_set (i := 6) nd rfl (Or.inl rfl) (pe_ifExp (pt_cmpR (op_neD hr.units) (pv 5) (pe_tup pa_nil) (nomark _)) (pe_op op_add (pe_bm PySem.F.plainAttrs_list PySem.F.slot_list_index PySem.F.type_list_index mt_index (pv 0) (pa_cons (pe_ix ix_tup (pv 5) (pe_un un_neg pe_int) (fun _ _ => rfl)) pa_nil)) pe_int) pe_int))
      (pss_one (ps_for PassesOwn.never rfl (pi_list (pe_slice sl_list (pv 0) (po_some (pv 6)) po_none)) (pg_name (i := 7) nd rfl (Or.inr rfl)) (pss_one (ps_if (pt_not (pt_val (pe_callB (cr_any rfl) (by rfl) T.fr_any (by decide +kernel) (pa_cons (pe_lc (own := [("member", 8)]) (g := (gName 8)) rfl nd (pi_tup (pv 5)) (blkOk_by (own := [("member", 8)]) (N := ["names", "neighbors", "found", "longest", "grown", "group", "start", "name", "member"]) (sc := defScope s_independent_tuples) (by decide +kernel)) (fun _ _ _ _ _ => (pg_name (i := 8) nd rfl (Or.inl rfl))) (fun _ _ _ _ _ => pts_nil) (fun _ _ _ _ _ => (pe_cmpR (op_in_seqK (K := K) rfl) (pv 7) (pe_dget hu (pv 1) (pv 8) (fun _ _ => rfl)) rfl))) pa_nil)))) (pss_one (ps_expr (pe_bm PySem.F.plainAttrs_list PySem.F.slot_list_append PySem.F.type_list_append mt_append (pv 4) (pa_cons (pe_op op_catA (pv 5) (pe_tup (pa_cons (pv 7) pa_nil))) pa_nil)))) pss_nil))))))
      (pss_cons (ps_expr (pe_bm PySem.F.plainAttrs_list PySem.F.slot_list_extend PySem.F.type_list_extend mt_extend (pv 2) (pa_cons (pv 4) pa_nil)))
      (pss_one (ps_set (i := 3) nd rfl (Or.inl rfl) (pv 4)))))))
      (pss_one (ps_ret (pv 2))))), ?_⟩
  refine ⟨Nat.zero_le _, fun t1 nt1 => ⟨le_line (by show 1 ≤ 1000000; omega), fun fa nfa => ⟨Nat.zero_le _, fun t2 nt2 => ⟨le_line (by show 1 ≤ 1000000; omega), fun la nla => ⟨_, _, rfl, ?_⟩⟩⟩⟩⟩
  have g1 : Pu F H (upd F t1 (.tup [])) (upd H t1 (.tup [])) := Gr.new e nt1
  have g2 : Pu (upd F t1 (.tup [])) (upd H t1 (.tup [])) (upd F t1 (.tup [])) (upd (upd H t1 (.tup [])) fa (.lst [.ref t1])) := Gr.newm g1.fh nfa
  have g3 : Pu (upd F t1 (.tup [])) (upd (upd H t1 (.tup [])) fa (.lst [.ref t1])) (upd (upd F t1 (.tup [])) t2 (.tup [])) (upd (upd (upd H t1 (.tup [])) fa (.lst [.ref t1])) t2 (.tup [])) := Gr.new g2.fh nt2
  have g4 := Gr.new (M := NoM) (o := .lst [.ref t2]) (g1.trans (g2.trans g3)).fh nla
  have mf := ((Mt.new (o := .lst [.ref t1]) g1.fh nfa).pu g3).pu g4
  have n0f : H fa = none := g1.dom _ nfa
  have e1 : rU K rS (upd F t1 (.tup [])) (.ref t1) [] := ⟨t1, [], rfl, SqT.of upd_same, Paired.nil⟩
  have e2 : rU K rS (upd (upd F t1 (.tup [])) t2 (.tup [])) (.ref t2) [] := ⟨t2, [], rfl, SqT.of upd_same, Paired.nil⟩
  have gg := (g1.trans (g2.trans g3)).trans g4
  refine ⟨fun m σ H' => ∃ F' la lg fd xs w4 w5 w6 w7, σ = [some (.ref na), some (.ref nd'), some (.ref fa), some (.ref la), w4, w5, w6, w7, none] ∧ Pu F H F' H' ∧ Mt F' H' fa (.lst xs) ∧ All2 (rU K rS) F' xs fd ∧ rL K (rU K rS) F' (.ref la) lg ∧ (∀ g ∈ lg, okG names g) ∧ fd.length + phi names lg ≤ 256 + lg.length ∧ phi names lg ≤ 256 ∧ phi names lg ≤ m ∧ indF names (fun x => (nbl.lookup x).getD []) m fd lg = indep names fun x => (nbl.lookup x).getD [],
    ⟨300, _, la, [[]], [[]], _, _, _, _, _, rfl, gg, mf, Paired.cons (Up.up (g3.f.trans g4.f) e1) Paired.nil, ⟨la, _, rfl, SqL.of upd_same, Paired.cons (Up.up g4.f e2) Paired.nil⟩, okG0, (by have := phi0 h8; show 1 + phi names [[]] ≤ 256 + 1; omega), phi0 h8, (by have := phi0 h8; omega), rfl⟩, ?_⟩
  rintro m σ H' ⟨F', la, lg, fd, xs, w4, w5, w6, w7, rfl, g, mf, hfd, hlg, hok, hb1, hb2, hb3, hR⟩
  refine ⟨_, rfl, Nat.zero_le _, fun q nq => ?_⟩
  have gq : Pu F' H' (upd F' q (.lst [])) (upd H' q (.lst [])) := Gr.new g.fh nq
  have lays : ∀ g ∈ lg, ∀ x ∈ g, PyData.canLay0 (.str x) = true := fun g hg x hx => name_lay (hnm x ((hok g hg).1 x hx))
  refine neD (a := lg) (b := []) (encL (encU (encS (K := K)))) (by decide) gq.fh (Up.up gq.f hlg) ⟨q, [], rfl, SqL.of upd_same, Paired.nil⟩ lays (fun x hx => by cases hx) fun r hr => ⟨_, rfl, ?_⟩
  have gA := g.trans gq
  have mf1 := mf.pu gq
  cases r with
  | true =>
    have elg : lg = [] := hr.mp rfl
    refine iteF ⟨_, rfl, ?_⟩
    have er : fd = indep names fun x => (nbl.lookup x).getD [] := by
      rw [← hR, elg]
      cases m <;> rfl
    have g5 := gA.frz mf1.n n0f mf1.h
    rw [← er] at k
    exact k _ _ _ g5 ⟨fa, xs, rfl, SqL.of upd_same, (hfd.up gq.f).up (upd_new mf1.n)⟩
  | false =>
    have elg : lg ≠ [] := fun z => Bool.noConfusion (hr.mpr z)
    have hm : ∃ m', m = m' + 1 := by
      have := len_phi (names := names) lg
      have : 0 < lg.length := List.length_pos_iff.mpr elg
      exact ⟨m - 1, by omega⟩
    obtain ⟨m', rfl⟩ := hm
    have hb4 := phi_flat (nb := fun x => (nbl.lookup x).getD []) hn lg hok
    have hb5 : 0 < lg.length := List.length_pos_iff.mpr elg
    have hb6 := len_phi (names := names) lg
    refine iteT ⟨fun σ' H2 => ∃ F2 ga lg' fd' xs' w4 w5 w6 w7, σ' = [some (.ref na), some (.ref nd'), some (.ref fa), some (.ref ga), w4, w5, w6, w7, none] ∧ Pu F H F2 H2 ∧ Mt F2 H2 fa (.lst xs') ∧ All2 (rU K rS) F2 xs' fd' ∧ rL K (rU K rS) F2 (.ref ga) lg' ∧ fd' = fd ++ lg.flatMap (grow1 names fun x => (nbl.lookup x).getD []) ∧ lg' = lg.flatMap (grow1 names fun x => (nbl.lookup x).getD []), ?_, ?_⟩
    · rintro σ' H2 ⟨F2, ga, lg', fd', xs', w4, w5, w6, w7, rfl, g2, m2, h2, l2, rfl, rfl⟩
      have hb7 := len_phi (names := names) (lg.flatMap (grow1 names fun x => (nbl.lookup x).getD []))
      refine ⟨m', by omega, F2, ga, _, _, xs', _, _, _, _, rfl, g2, m2, h2, l2, okG_flat hn hok, ?_, by omega, by omega, ?_⟩
      · rw [List.length_append]
        omega
      · rw [← hR]
        show _ = if lg = [] then fd else _
        rw [if_neg elg]
    refine ⟨Nat.zero_le _, fun ga nga => ?_⟩
    have gG : Pu (upd F' q (.lst [])) (upd H' q (.lst [])) (upd F' q (.lst [])) (upd (upd H' q (.lst [])) ga (.lst [])) := Gr.newm gA.fh nga
    have gB := gA.trans gG
    have mf2 := mf1.pu gG
    have mg0 := Mt.new (o := .lst []) gA.fh nga
    have n0g : H ga = none := gA.dom _ nga
    have hfg : fa ≠ ga := fun z => by
      have := mf1.h
      rw [z, nga] at this
      cases this
    obtain ⟨la', xl, ela, hla, hxl⟩ := Up.up gq.f hlg
    cases ela
    have lgl : lg.length ≤ 256 := by omega
    refine ⟨_, rfl, la, rfl, ⟨_, sql_s gB.fh hla⟩, for_list (K := K) (a := la) (xs := xl) (fun i σ H2 => ∃ F2 w5 w6 w7 gx, σ = [some (.ref na), some (.ref nd'), some (.ref fa), some (.ref la), some (.ref ga), w5, w6, w7, none] ∧ Pu F H F2 H2 ∧ Gr (fun b => b = ga) (upd F' q (.lst [])) (upd (upd H' q (.lst [])) ga (.lst [])) F2 H2 ∧ Mt F2 H2 fa (.lst xs) ∧ Mt F2 H2 ga (.lst gx) ∧ All2 (rU K rS) F2 gx ((lg.take i).flatMap (grow1 names fun x => (nbl.lookup x).getD [])))
      ⟨_, _, _, _, [], rfl, gB, Gr.refl gB.fh, mf2, mg0, Paired.nil⟩ (fun i σ H2 _ ⟨F2, _, _, _, _, _, _, g, _⟩ => sql_s g.fh (sql_s g.f hla)) ?_ ?_⟩
    · rintro i y σ H2 hi ⟨F2, w5, w6, w7, gx, rfl, gC, gD, mfC, mgC, hgx⟩
      obtain ⟨gr, hgr, hy⟩ := hxl.get hi
      have hgm := List.mem_of_getElem? hgr
      have okg := hok gr hgm
      have hy2 := Up.up gD.f hy
      obtain ⟨ca, us, rfl, hca, hcu⟩ := id hy2
      rw [all2_str hcu] at hca
      have gxl : gx.length ≤ 256 * 8 := by
        rw [hgx.length]
        refine Nat.le_trans (flat_bd (n := 8) (fun x => Nat.le_trans grow_len h8) _) (Nat.mul_le_mul_right 8 ?_)
        rw [List.length_take]
        omega
      refine ⟨_, rfl, Nat.zero_le _, fun t nt => ?_⟩
      have gT : Pu F2 H2 (upd F2 t (.tup [])) (upd H2 t (.tup [])) := Gr.new gC.fh nt
      have gE := gC.trans gT
      have gF := gD.trans gT.pu
      have mfE := mfC.pu gT
      have mgE := mgC.pu gT
      have hgxE := hgx.up gT.f
      have hcaE := sqt_s gT.f hca
      have hyE := Up.up gT.f hy2
      have hnaE : SqL K (upd F2 t (.tup [])) na (names.map V.str) := sql_s gE.f hna
      have hle : gst names gr ≤ (names.map V.str).length := by rw [List.length_map]; exact okg.2.2
      refine neD (a := gr) (b := []) (encU (encS (K := K))) (by decide) gT.fh hyE ⟨t, [], rfl, SqT.of upd_same, Paired.nil⟩ (lays gr hgm) (fun x hx => by cases hx) fun r hr => ⟨_, rfl, ?_⟩
      cases r
      case true =>
        have egr : gr = [] := hr.mp rfl
        have hv : (0 : Int) = ((gst names gr : Nat) : Int) := by rw [egr]; rfl
        refine iteF ⟨_, rfl, _, rfl, _, rfl, na, _, rfl, sql_s gE.fh hnaE, fun sl nsl => ?_⟩
        rw [cut_fromI hv hle, ← List.map_drop]
        have gS : Pu (upd F2 t (.tup [])) (upd H2 t (.tup [])) (upd (upd F2 t (.tup [])) sl (.lst ((names.drop (gst names gr)).map V.str))) (upd (upd H2 t (.tup [])) sl (.lst ((names.drop (gst names gr)).map V.str))) := Gr.new gE.fh nsl
        refine ⟨sl, rfl, ⟨_, SqL.of upd_same⟩, for_list (K := K) (a := sl) (xs := (names.drop (gst names gr)).map V.str) (fun j σ H3 => ∃ F3 w6 w7 gy, σ = [some (.ref na), some (.ref nd'), some (.ref fa), some (.ref la), some (.ref ga), some (.ref ca), w6, w7, none] ∧ Pu F H F3 H3 ∧ Gr (fun b => b = ga) (upd F' q (.lst [])) (upd (upd H' q (.lst [])) ga (.lst [])) F3 H3 ∧ Gr (fun b => b = ga) (upd (upd F2 t (.tup [])) sl (.lst ((names.drop (gst names gr)).map V.str))) (upd (upd H2 t (.tup [])) sl (.lst ((names.drop (gst names gr)).map V.str))) F3 H3 ∧ Mt F3 H3 fa (.lst xs) ∧ Mt F3 H3 ga (.lst gy) ∧ All2 (rU K rS) F3 gy ((lg.take i).flatMap (grow1 names fun x => (nbl.lookup x).getD []) ++ (((names.drop (gst names gr)).take j).filter (gok (fun x => (nbl.lookup x).getD []) gr)).map fun x => gr ++ [x]))
          ⟨_, _, _, gx, rfl, gE.trans gS, gF.trans gS.pu, Gr.refl (gE.trans gS).fh, mfE.pu gS, mgE.pu gS, by rw [List.take_zero, List.filter_nil, List.map_nil, List.append_nil]; exact hgxE.up gS.f⟩ (fun j σ H3 _ ⟨F3, _, _, _, _, _, _, g, _⟩ => SqL.of (g.fh _ _ (g.f _ _ upd_same))) ?_ ?_⟩
        · rintro j y σ H3 hj ⟨F3, w6, w7, gy, rfl, gC3, gD3, gS3, mf3, mg3, hgy⟩
          obtain ⟨x, hx, rfl⟩ := str_at hj
          have hxn : x ∈ names := List.mem_of_mem_drop (List.mem_of_getElem? hx)
          have hca3 := sqt_s (gS.f.trans gS3.f) hcaE
          have lgr : gr.length ≤ 8 := Nat.le_trans okg.2.1 (Nat.le_trans okg.2.2 h8)
          have gyl : gy.length ≤ 4096 := by
            rw [hgy.length, List.length_append, List.length_map]
            have h1 := List.length_filter_le (gok (fun x => (nbl.lookup x).getD []) gr) ((names.drop (gst names gr)).take j)
            rw [List.length_take, List.length_drop] at h1
            have h2 : ((lg.take i).flatMap (grow1 names fun x => (nbl.lookup x).getD [])).length ≤ 256 * 8 := by
              refine Nat.le_trans (flat_bd (n := 8) (fun x => Nat.le_trans grow_len h8) _) (Nat.mul_le_mul_right 8 ?_)
              rw [List.length_take]
              omega
            omega
          refine ⟨_, rfl, ca, rfl, ⟨_, sqt_s gC3.fh hca3⟩, ?_⟩
          refine lcT (K := K) (RA := rS) (R := rB) (xs := gr.map V.str) (l := gr) (f := fun m => decide (x ∈ (nbl.lookup m).getD [])) (p := fun _ => true) gC3.fh hca3 (str_all2 _) (by omega) (fun y v F4 H4 hy g4 hv Kt Kf k1 k2 => ?_) (fun L F4 H4 g4 hL => ?_)
          · cases hv
            have g34 := gC3.trans g4
            obtain ⟨nl, hnl⟩ := lookup_mem (l := nbl) (x := y) (by rw [hk]; exact okg.1 y hy)
            obtain ⟨b', u, eb, hg, hu'⟩ := dgot g34.fh (Up.up g34.f hB) hnl
            cases eb
            obtain ⟨c, rfl, hc⟩ := rls hu'
            refine ⟨rfl, _, rfl, _, rfl, _, rfl, nd', _, rfl, hg, c, _, rfl, .inl (sql_s g4.fh hc), rfl, flat_strs _, k1 rfl _ F4 H4 (Gr.refl g4.fh) ?_⟩
            show V.bl (inV (.str x) (nl.map V.str)) = V.bl (decide (x ∈ (nbl.lookup y).getD []))
            rw [inv_str, hnl]
            rfl
          · obtain ⟨l, el, hl⟩ := rlb hL
            cases el
            refine ⟨L, _, rfl, sql_s g4.fh hl, _, rfl, ?_⟩
            rw [any_gok (nb := fun x => (nbl.lookup x).getD [])]
            have g34 := gC3.trans g4
            have mf4 := mf3.pu g4
            have mg4 := mg3.pu g4
            have etk : ((names.drop (gst names gr)).take (j + 1)).filter (gok (fun x => (nbl.lookup x).getD []) gr) = ((names.drop (gst names gr)).take j).filter (gok (fun x => (nbl.lookup x).getD []) gr) ++ (if gok (fun x => (nbl.lookup x).getD []) gr x = true then [x] else []) := by
              rw [List.take_succ, hx, List.filter_append]
              congr 1
              show List.filter _ [x] = _
              rw [List.filter_cons, List.filter_nil]
            cases hgk : gok (fun x => (nbl.lookup x).getD []) gr x with
            | false =>
              rw [hgk] at etk
              refine iteF ⟨F4, _, _, gy, rfl, g34, gD3.trans g4.pu, gS3.trans g4.pu, mf4, mg4, ?_⟩
              rw [etk]
              show All2 _ _ _ (_ ++ List.map _ (_ ++ []))
              rw [List.append_nil]
              exact hgy.up g4.f
            | true =>
              rw [hgk] at etk
              have fin : ∀ (F5 H5 : Hp) (tn : Addr), Pu F4 H4 F5 H5 → rU K rS F5 (.ref tn) (gr ++ [x]) → Pu F H F5 (upd H5 ga (.lst (gy ++ [.ref tn]))) ∧ Gr (fun b => b = ga) (upd F' q (.lst [])) (upd (upd H' q (.lst [])) ga (.lst [])) F5 (upd H5 ga (.lst (gy ++ [.ref tn]))) ∧ Gr (fun b => b = ga) (upd (upd F2 t (.tup [])) sl (.lst ((names.drop (gst names gr)).map V.str))) (upd (upd H2 t (.tup [])) sl (.lst ((names.drop (gst names gr)).map V.str))) F5 (upd H5 ga (.lst (gy ++ [.ref tn]))) ∧ Mt F5 (upd H5 ga (.lst (gy ++ [.ref tn]))) fa (.lst xs) ∧ Mt F5 (upd H5 ga (.lst (gy ++ [.ref tn]))) ga (.lst (gy ++ [.ref tn])) ∧ All2 (rU K rS) F5 (gy ++ [.ref tn]) ((lg.take i).flatMap (grow1 names fun x => (nbl.lookup x).getD []) ++ (((names.drop (gst names gr)).take (j + 1)).filter (gok (fun x => (nbl.lookup x).getD []) gr)).map fun x => gr ++ [x]) := by
                intro F5 H5 tn g5 h5
                have mg5 := mg4.pu g5
                refine ⟨(g34.trans g5).mut mg5.n n0g, ((gD3.trans g4.pu).trans g5.pu).set mg5.n rfl, ((gS3.trans g4.pu).trans g5.pu).set mg5.n rfl, (mf4.pu g5).other hfg, mg5.set, ?_⟩
                rw [etk]
                show All2 _ _ _ (_ ++ List.map _ (_ ++ [x]))
                rw [List.map_append, ← List.append_assoc]
                exact ((hgy.up g4.f).up g5.f).snoc h5
              have hca4 := sqt_s g4.f hca3
              refine iteT ⟨_, rfl, .inl ⟨rfl, _, SqL.of mg4.h⟩, _, rfl, _, rfl, le_line (by show 1 ≤ 1000000; omega), fun t2 nt2 => ?_⟩
              have g5 : Pu F4 H4 (upd F4 t2 (.tup [.str x])) (upd H4 t2 (.tup [.str x])) := Gr.new g34.fh nt2
              refine ⟨ca, t2, _, _, rfl, rfl, sqt_s g5.fh (sqt_s g5.f hca4), SqT.of upd_same, le_line (by rw [List.length_map]; show gr.length + 1 ≤ 1000000; omega), fun eg => ?_, fun _ eg => (by cases eg), fun eg _ p np => ?_⟩
              · have egr' : gr = [] := by simpa using eg
                have h5 : rU K rS (upd F4 t2 (.tup [.str x])) (.ref t2) (gr ++ [x]) := by
                  rw [egr']
                  exact ⟨t2, _, rfl, SqT.of upd_same, str_all2 [x]⟩
                obtain ⟨q1, q2, q3, q4, q5, q6⟩ := fin _ _ t2 g5 h5
                exact ⟨ga, gy, _, rfl, rfl, (mg4.pu g5).h, lt_line (by omega), _, _, _, _, rfl, q1, q2, q3, q4, q5, q6⟩
              · have g6 : Pu _ _ (upd (upd F4 t2 (.tup [.str x])) p (.tup (gr.map V.str ++ [.str x]))) (upd (upd H4 t2 (.tup [.str x])) p (.tup (gr.map V.str ++ [.str x]))) := Gr.new (g34.trans g5).fh np
                have h5 : rU K rS (upd (upd F4 t2 (.tup [.str x])) p (.tup (gr.map V.str ++ [.str x]))) (.ref p) (gr ++ [x]) := ⟨p, _, rfl, SqT.of upd_same, (str_all2 gr).append (str_all2 [x])⟩
                obtain ⟨q1, q2, q3, q4, q5, q6⟩ := fin _ _ p (g5.trans g6) h5
                exact ⟨ga, gy, _, rfl, rfl, (mg4.pu (g5.trans g6)).h, lt_line (by omega), _, _, _, _, rfl, q1, q2, q3, q4, q5, q6⟩
        · rintro σ H3 ⟨F3, w6, w7, gy, rfl, gC3, gD3, gS3, mf3, mg3, hgy⟩
          refine ⟨F3, _, _, _, gy, rfl, gC3, gD3, mf3, mg3, ?_⟩
          rw [List.length_map, List.take_of_length_le (Nat.le_refl _)] at hgy
          rw [take_flat hgr]
          exact hgy
      case false =>
        have egr : gr ≠ [] := fun z => Bool.noConfusion (hr.mpr z)
        obtain ⟨x, hx⟩ : ∃ x, gr.getLast? = some x := ⟨gr.getLast egr, List.getLast?_eq_some_getLast egr⟩
        have hxm : x ∈ names := okg.1 x (List.mem_of_getLast? hx)
        obtain ⟨z, z1, z2, z3⟩ := idx_first hxm
        have hv : (((names.idxOf x : Nat) : Int) + 1) = ((gst names gr : Nat) : Int) := by
          unfold gst
          rw [hx]
          rfl
        refine iteT ⟨_, rfl, .inl ⟨rfl, _, sql_s gE.fh hnaE⟩, _, rfl, _, rfl, ca, _, _, .str x, rfl, rfl, sqt_s gT.fh hcaE, atI_last (by rw [List.getLast?_map, hx]; rfl), na, _, _, names.idxOf x, z, rfl, rfl, sql_s gE.fh hnaE, rfl, flat_strs _, z1, z2, z3, _, _, rfl, rfl, _, rfl, _, rfl, _, rfl, na, _, rfl, sql_s gE.fh hnaE, fun sl nsl => ?_⟩
        rw [cut_fromI hv hle, ← List.map_drop]
        have gS : Pu (upd F2 t (.tup [])) (upd H2 t (.tup [])) (upd (upd F2 t (.tup [])) sl (.lst ((names.drop (gst names gr)).map V.str))) (upd (upd H2 t (.tup [])) sl (.lst ((names.drop (gst names gr)).map V.str))) := Gr.new gE.fh nsl
        refine ⟨sl, rfl, ⟨_, SqL.of upd_same⟩, for_list (K := K) (a := sl) (xs := (names.drop (gst names gr)).map V.str) (fun j σ H3 => ∃ F3 w6 w7 gy, σ = [some (.ref na), some (.ref nd'), some (.ref fa), some (.ref la), some (.ref ga), some (.ref ca), w6, w7, none] ∧ Pu F H F3 H3 ∧ Gr (fun b => b = ga) (upd F' q (.lst [])) (upd (upd H' q (.lst [])) ga (.lst [])) F3 H3 ∧ Gr (fun b => b = ga) (upd (upd F2 t (.tup [])) sl (.lst ((names.drop (gst names gr)).map V.str))) (upd (upd H2 t (.tup [])) sl (.lst ((names.drop (gst names gr)).map V.str))) F3 H3 ∧ Mt F3 H3 fa (.lst xs) ∧ Mt F3 H3 ga (.lst gy) ∧ All2 (rU K rS) F3 gy ((lg.take i).flatMap (grow1 names fun x => (nbl.lookup x).getD []) ++ (((names.drop (gst names gr)).take j).filter (gok (fun x => (nbl.lookup x).getD []) gr)).map fun x => gr ++ [x]))
          ⟨_, _, _, gx, rfl, gE.trans gS, gF.trans gS.pu, Gr.refl (gE.trans gS).fh, mfE.pu gS, mgE.pu gS, by rw [List.take_zero, List.filter_nil, List.map_nil, List.append_nil]; exact hgxE.up gS.f⟩ (fun j σ H3 _ ⟨F3, _, _, _, _, _, _, g, _⟩ => SqL.of (g.fh _ _ (g.f _ _ upd_same))) ?_ ?_⟩
        · rintro j y σ H3 hj ⟨F3, w6, w7, gy, rfl, gC3, gD3, gS3, mf3, mg3, hgy⟩
          obtain ⟨x, hx, rfl⟩ := str_at hj
          have hxn : x ∈ names := List.mem_of_mem_drop (List.mem_of_getElem? hx)
          have hca3 := sqt_s (gS.f.trans gS3.f) hcaE
          have lgr : gr.length ≤ 8 := Nat.le_trans okg.2.1 (Nat.le_trans okg.2.2 h8)
          have gyl : gy.length ≤ 4096 := by
            rw [hgy.length, List.length_append, List.length_map]
            have h1 := List.length_filter_le (gok (fun x => (nbl.lookup x).getD []) gr) ((names.drop (gst names gr)).take j)
            rw [List.length_take, List.length_drop] at h1
            have h2 : ((lg.take i).flatMap (grow1 names fun x => (nbl.lookup x).getD [])).length ≤ 256 * 8 := by
              refine Nat.le_trans (flat_bd (n := 8) (fun x => Nat.le_trans grow_len h8) _) (Nat.mul_le_mul_right 8 ?_)
              rw [List.length_take]
              omega
            omega
          refine ⟨_, rfl, ca, rfl, ⟨_, sqt_s gC3.fh hca3⟩, ?_⟩
          refine lcT (K := K) (RA := rS) (R := rB) (xs := gr.map V.str) (l := gr) (f := fun m => decide (x ∈ (nbl.lookup m).getD [])) (p := fun _ => true) gC3.fh hca3 (str_all2 _) (by omega) (fun y v F4 H4 hy g4 hv Kt Kf k1 k2 => ?_) (fun L F4 H4 g4 hL => ?_)
          · cases hv
            have g34 := gC3.trans g4
            obtain ⟨nl, hnl⟩ := lookup_mem (l := nbl) (x := y) (by rw [hk]; exact okg.1 y hy)
            obtain ⟨b', u, eb, hg, hu'⟩ := dgot g34.fh (Up.up g34.f hB) hnl
            cases eb
            obtain ⟨c, rfl, hc⟩ := rls hu'
            refine ⟨rfl, _, rfl, _, rfl, _, rfl, nd', _, rfl, hg, c, _, rfl, .inl (sql_s g4.fh hc), rfl, flat_strs _, k1 rfl _ F4 H4 (Gr.refl g4.fh) ?_⟩
            show V.bl (inV (.str x) (nl.map V.str)) = V.bl (decide (x ∈ (nbl.lookup y).getD []))
            rw [inv_str, hnl]
            rfl
          · obtain ⟨l, el, hl⟩ := rlb hL
            cases el
            refine ⟨L, _, rfl, sql_s g4.fh hl, _, rfl, ?_⟩
            rw [any_gok (nb := fun x => (nbl.lookup x).getD [])]
            have g34 := gC3.trans g4
            have mf4 := mf3.pu g4
            have mg4 := mg3.pu g4
            have etk : ((names.drop (gst names gr)).take (j + 1)).filter (gok (fun x => (nbl.lookup x).getD []) gr) = ((names.drop (gst names gr)).take j).filter (gok (fun x => (nbl.lookup x).getD []) gr) ++ (if gok (fun x => (nbl.lookup x).getD []) gr x = true then [x] else []) := by
              rw [List.take_succ, hx, List.filter_append]
              congr 1
              show List.filter _ [x] = _
              rw [List.filter_cons, List.filter_nil]
            cases hgk : gok (fun x => (nbl.lookup x).getD []) gr x with
            | false =>
              rw [hgk] at etk
              refine iteF ⟨F4, _, _, gy, rfl, g34, gD3.trans g4.pu, gS3.trans g4.pu, mf4, mg4, ?_⟩
              rw [etk]
              show All2 _ _ _ (_ ++ List.map _ (_ ++ []))
              rw [List.append_nil]
              exact hgy.up g4.f
            | true =>
              rw [hgk] at etk
              have fin : ∀ (F5 H5 : Hp) (tn : Addr), Pu F4 H4 F5 H5 → rU K rS F5 (.ref tn) (gr ++ [x]) → Pu F H F5 (upd H5 ga (.lst (gy ++ [.ref tn]))) ∧ Gr (fun b => b = ga) (upd F' q (.lst [])) (upd (upd H' q (.lst [])) ga (.lst [])) F5 (upd H5 ga (.lst (gy ++ [.ref tn]))) ∧ Gr (fun b => b = ga) (upd (upd F2 t (.tup [])) sl (.lst ((names.drop (gst names gr)).map V.str))) (upd (upd H2 t (.tup [])) sl (.lst ((names.drop (gst names gr)).map V.str))) F5 (upd H5 ga (.lst (gy ++ [.ref tn]))) ∧ Mt F5 (upd H5 ga (.lst (gy ++ [.ref tn]))) fa (.lst xs) ∧ Mt F5 (upd H5 ga (.lst (gy ++ [.ref tn]))) ga (.lst (gy ++ [.ref tn])) ∧ All2 (rU K rS) F5 (gy ++ [.ref tn]) ((lg.take i).flatMap (grow1 names fun x => (nbl.lookup x).getD []) ++ (((names.drop (gst names gr)).take (j + 1)).filter (gok (fun x => (nbl.lookup x).getD []) gr)).map fun x => gr ++ [x]) := by
                intro F5 H5 tn g5 h5
                have mg5 := mg4.pu g5
                refine ⟨(g34.trans g5).mut mg5.n n0g, ((gD3.trans g4.pu).trans g5.pu).set mg5.n rfl, ((gS3.trans g4.pu).trans g5.pu).set mg5.n rfl, (mf4.pu g5).other hfg, mg5.set, ?_⟩
                rw [etk]
                show All2 _ _ _ (_ ++ List.map _ (_ ++ [x]))
                rw [List.map_append, ← List.append_assoc]
                exact ((hgy.up g4.f).up g5.f).snoc h5
              have hca4 := sqt_s g4.f hca3
              refine iteT ⟨_, rfl, .inl ⟨rfl, _, SqL.of mg4.h⟩, _, rfl, _, rfl, le_line (by show 1 ≤ 1000000; omega), fun t2 nt2 => ?_⟩
              have g5 : Pu F4 H4 (upd F4 t2 (.tup [.str x])) (upd H4 t2 (.tup [.str x])) := Gr.new g34.fh nt2
              refine ⟨ca, t2, _, _, rfl, rfl, sqt_s g5.fh (sqt_s g5.f hca4), SqT.of upd_same, le_line (by rw [List.length_map]; show gr.length + 1 ≤ 1000000; omega), fun eg => ?_, fun _ eg => (by cases eg), fun eg _ p np => ?_⟩
              · have egr' : gr = [] := by simpa using eg
                have h5 : rU K rS (upd F4 t2 (.tup [.str x])) (.ref t2) (gr ++ [x]) := by
                  rw [egr']
                  exact ⟨t2, _, rfl, SqT.of upd_same, str_all2 [x]⟩
                obtain ⟨q1, q2, q3, q4, q5, q6⟩ := fin _ _ t2 g5 h5
                exact ⟨ga, gy, _, rfl, rfl, (mg4.pu g5).h, lt_line (by omega), _, _, _, _, rfl, q1, q2, q3, q4, q5, q6⟩
              · have g6 : Pu _ _ (upd (upd F4 t2 (.tup [.str x])) p (.tup (gr.map V.str ++ [.str x]))) (upd (upd H4 t2 (.tup [.str x])) p (.tup (gr.map V.str ++ [.str x]))) := Gr.new (g34.trans g5).fh np
                have h5 : rU K rS (upd (upd F4 t2 (.tup [.str x])) p (.tup (gr.map V.str ++ [.str x]))) (.ref p) (gr ++ [x]) := ⟨p, _, rfl, SqT.of upd_same, (str_all2 gr).append (str_all2 [x])⟩
                obtain ⟨q1, q2, q3, q4, q5, q6⟩ := fin _ _ p (g5.trans g6) h5
                exact ⟨ga, gy, _, rfl, rfl, (mg4.pu (g5.trans g6)).h, lt_line (by omega), _, _, _, _, rfl, q1, q2, q3, q4, q5, q6⟩
        · rintro σ H3 ⟨F3, w6, w7, gy, rfl, gC3, gD3, gS3, mf3, mg3, hgy⟩
          refine ⟨F3, _, _, _, gy, rfl, gC3, gD3, mf3, mg3, ?_⟩
          rw [List.length_map, List.take_of_length_le (Nat.le_refl _)] at hgy
          rw [take_flat hgr]
          exact hgy
    · rintro σ H2 ⟨F2, w5, w6, w7, gx, rfl, gC, gD, mfC, mgC, hgx⟩
      rw [List.take_of_length_le (by rw [hxl.length]; exact Nat.le_refl _)] at hgx
      have hb7 := len_phi (names := names) (lg.flatMap (grow1 names fun x => (nbl.lookup x).getD []))
      have l1 : xs.length = fd.length := hfd.length
      have l2 : gx.length = (lg.flatMap (grow1 names fun x => (nbl.lookup x).getD [])).length := hgx.length
      refine ⟨_, rfl, .inl ⟨rfl, _, SqL.of mfC.h⟩, _, rfl, fa, ga, xs, gx, rfl, rfl, mfC.h, mgC.h, le_line (by omega), ?_⟩
      have gZ := (gC.mut (o := .lst (xs ++ gx)) mfC.n n0f)
      have mgZ := mgC.other (u := .lst (xs ++ gx)) hfg.symm
      have mfZ := mfC.set (u := .lst (xs ++ gx))
      have gY := gZ.frz mgZ.n n0g mgZ.h
      have sY : Same F2 (upd F2 ga (.lst gx)) := upd_new mgZ.n
      exact ⟨_, rfl, _, ga, _, _, xs ++ gx, _, _, _, _, rfl, gY, ⟨by rw [upd_ne hfg]; exact mfZ.n, mfZ.h⟩, ((hfd.up gq.f).up (gD.f.trans sY)).append (hgx.up sY), ⟨ga, gx, rfl, SqL.of upd_same, hgx.up sY⟩, rfl, rfl⟩
end Rs
/-! text R21 -/
set_option Elab.async false
set_option linter.all false
set_option maxRecDepth 100000
set_option maxHeartbeats 4000000
namespace Rs
open PySem PySem.Spec PyProof.Rows L2
def PD.nbl (D : PD) : List (Str × List Str) := D.names.map fun n => (n, D.names.filter fun x => !decide (x = n) && D.adj n x)
def PD.ind (D : PD) : List (List Str) := indep D.names fun x => (D.nbl.lookup x).getD []
def sp_ind (K : PySem.W.Frag) : Sp := fun vs H Q _ => match vs with
  | [v] => ∃ F D, Same F H ∧ rP K F v D ∧ ∀ v F' H', Pu F H F' H' → rL K (rU K rS) F' v D.ind → Q v H'
  | _ => False
theorem sc_independent_sets : FnScope ["problem", "names", "name"] ["problem"] (defScope s_independent_sets) := C8.fnScope_by (by decide +kernel)
theorem c_independent_sets {P : Program} {w : World} {K : PySem.W.Frag} {mg : Str → Option Value} {base hp : Heap} (T : Tx K mg hp) : C8.Cal P w K mg base 5 "independent_sets" (sp_ind K) [] := by
  obtain ⟨fd, F⟩ := T.fd_independent_sets
  refine mkCal T.gl_independent_sets F sc_independent_sets (fun _ _ _ _ _ _ us hl => match us, hl with | [_], _ => rfl) (fun vs H Q E h => by unfold sp_ind at h; split at h <;> first | rfl | exact h.elim) (fun cdv A outer s H vs Q E hr h => ?_)
  have nd := sc_independent_sets.nd
  have hu := hu_of hr
  unfold sp_ind at h
  split at h
  case h_2 => exact h.elim
  obtain ⟨F, D, e, hP, k⟩ := h
  obtain ⟨p, dx, d1, d2, d3, rfl, h, _⟩ := id hP
  refine ⟨_, (pss_cons (ps_expr (C8.pe_c (c_need_problem T) hr (by decide) (by rfl) (pa_cons (pv 0) pa_nil)))
      (pss_cons (ps_set (i := 1) nd rfl (Or.inl rfl) (C8.pe_mt0 (c_Problem_events T) hr (by decide) (pv 0)))
      (pss_one (ps_ret (C8.pe_c (c_independent_tuples T) hr (by decide) (by rfl) (pa_cons (pv 1) (pa_cons (pe_dc (own := [("name", 2)]) (g := (gName 2)) rfl nd (pi_list (pv 1)) (blkOk_by (own := [("name", 2)]) (N := ["problem", "names", "name"]) (sc := defScope s_independent_sets) (by decide +kernel)) (fun _ _ _ _ _ => (pg_name (i := 2) nd rfl (Or.inl rfl))) (fun _ _ _ _ _ => pts_nil) (fun _ _ _ _ _ => (pv 2)) (fun _ _ _ _ _ => (C8.pe_mt (c_Problem_neighbors T) hr (by decide) (pv 0) (pa_cons (pv 2) pa_nil)))) pa_nil))))))), ?_⟩
  have l8 : D.names.length ≤ 8 := by unfold PD.names; rw [List.length_map]; exact h.ok.n8
  refine ⟨_, rfl, D, Up.up e hP.w, ?_⟩
  refine ⟨_, rfl, p, dx, _, rfl, h.h e, pfsn (by decide +kernel), F, D, e, hP.w, fun v F1 H1 g1 hv => ?_⟩
  obtain ⟨a, rfl, ha⟩ := rls hv
  refine ⟨_, rfl, _, rfl, a, rfl, ⟨_, sql_s g1.fh ha⟩, ?_⟩
  refine dcW (K := K) (RA := rS) (R := rL K rS) (walk_list (K := K) (a := a) (xs := D.names.map V.str)) D.names (fun x => x) (fun n => D.names.filter fun x => !decide (x = n) && D.adj n x) g1.fh (by rw [List.length_map]) (by rw [List.length_map]; omega) (by rw [List.map_id']; exact h.ok.nd) (fun F' H' g => sql_s g.fh (sql_s g.f ha)) ?_ (fun y v F' H' hy g hv Kt h1 => ?_) (fun dt F4 H4 kvt g4 nt nft h4 a4 => ?_)
  · rintro i x F' H' H'' hi g ⟨rfl, hx⟩
    obtain ⟨y, h1, h2⟩ := str_at hx
    exact ⟨y, F', h1, Gr.refl g.fh, h2⟩
  · cases hv
    have gg := g1.trans g
    exact ⟨rfl, _, rfl, _, rfl, p, dx, _, rfl, (h.up (.of gg.f)).h gg.fh, pfsn (by decide +kernel), _, rfl, F', D, y, gg.fh, Up.up gg.f hP, rfl, hy, fun v F2 H2 g2 hv2 => h1 _ _ _ g2 hv2⟩
  have g5 : Pu F1 H1 (upd F4 dt (.dK kvt)) H4 := g4.frz nft nt h4
  refine ⟨_, D.names, D.nbl, g5.fh, Up.up g5.f hv, ⟨dt, kvt, rfl, .inl upd_same, a4.up (upd_new nft)⟩, ?_, h.ok.nd, l8, fun n hn => names_name h.ok hn, fun v F' H' g hv => k _ _ _ ((g1.trans g5).trans g) hv⟩
  unfold PD.nbl
  rw [List.map_map]
  exact List.map_id' _
theorem ind_ok {D : PD} (ok : D.Ok) : (∀ g ∈ D.ind, okG D.names g) ∧ D.ind.length ≤ 256 :=
  indep_ok ok.nd (by unfold PD.names; rw [List.length_map]; exact ok.n8)
/-! ### signed numbers -/
def PD.cntF (D : PD) (c : Int) (n : Str) : Int := c * (((D.ts n).length : Nat) : Int)
def PD.cnt (D : PD) (g : List Str) : Int := g.foldl D.cntF (sgn g.length)
def tstep (tot : List Int) (n : Nat) (c : Int) : List Int := if c = 0 then tot else let t := tot ++ (List.replicate (n + 1 - tot.length) [(0 : Int)]).flatten; t.set n ((t[n]?).getD 0 + c)
def PD.signed (D : PD) : List Int := D.ind.foldl (fun tot g => tstep tot g.length (D.cnt g)) []
theorem ts_len {D : PD} (ok : D.Ok) {n : Str} (h : n ∈ D.names) : (D.ts n).length ≤ 12 := (tups_of ok (sc_of h) (ts_of h)).1
theorem sgn_bd (n : Nat) : (sgn n).natAbs ≤ 1 := by
  unfold sgn
  have := Int.emod_nonneg (n : Int) (by decide : (2 : Int) ≠ 0)
  have := Int.emod_lt_of_pos (n : Int) (by decide : (0 : Int) < 2)
  omega
theorem cnt_take {D : PD} (ok : D.Ok) {g : List Str} (hg : ∀ m ∈ g, m ∈ D.names) : ∀ i, i ≤ g.length → ((g.take i).foldl D.cntF (sgn g.length)).natAbs ≤ 12 ^ i
  | 0, _ => by
    rw [List.take_zero]
    exact sgn_bd _
  | i + 1, h => by
    have ih := cnt_take ok hg i (by omega)
    have hi : g[i]? = some g[i] := List.getElem?_eq_getElem (by omega)
    rw [fold_take _ _ hi]
    unfold PD.cntF at ih ⊢
    rw [Int.natAbs_mul, Nat.pow_succ]
    exact Nat.mul_le_mul ih (by rw [Int.natAbs_natCast]; exact ts_len ok (hg _ (List.getElem_mem _)))
theorem pow12 {i : Nat} (h : i ≤ 8) : 12 ^ i ≤ 2 ^ 30 := Nat.le_trans (Nat.pow_le_pow_right (by decide) h) (by decide)
theorem cnt_bd {D : PD} (ok : D.Ok) {g : List Str} (hg : okG D.names g) : (D.cnt g).natAbs ≤ 2 ^ 30 := by
  have h8 : D.names.length ≤ 8 := by unfold PD.names; rw [List.length_map]; exact ok.n8
  have h := cnt_take ok hg.1 g.length (Nat.le_refl _)
  rw [List.take_of_length_le (Nat.le_refl _)] at h
  exact Nat.le_trans h (pow12 (by have := hg.2.1; have := hg.2.2; omega))
/-- totals: at most nine, none of them large -/
def okT (i : Nat) (t : List Int) : Prop := t.length ≤ 9 ∧ ∀ v ∈ t, v.natAbs ≤ i * 2 ^ 30
theorem flat_rep (k : Nat) : (List.replicate k [(0 : Int)]).flatten = List.replicate k 0 := by
  induction k with
  | zero => rfl
  | succ k ih => rw [List.replicate_succ, List.flatten_cons, ih]; rfl
theorem tstep_ok {i n : Nat} {t : List Int} {c : Int} (h : okT i t) (hn : n ≤ 8) (hc : c.natAbs ≤ 2 ^ 30) : okT (i + 1) (tstep t n c) := by
  unfold tstep
  have up : ∀ v ∈ t, v.natAbs ≤ (i + 1) * 2 ^ 30 := fun v hv => Nat.le_trans (h.2 v hv) (Nat.mul_le_mul_right _ (Nat.le_succ _))
  split
  · exact ⟨h.1, up⟩
  · have hl : (t ++ (List.replicate (n + 1 - t.length) [(0 : Int)]).flatten).length ≤ 9 := by
      have h1 := h.1
      rw [flat_rep, List.length_append, List.length_replicate]
      omega
    have hv : ∀ v ∈ t ++ (List.replicate (n + 1 - t.length) [(0 : Int)]).flatten, v.natAbs ≤ i * 2 ^ 30 := fun v hv => by
      rw [flat_rep] at hv
      rcases List.mem_append.mp hv with hv | hv
      · exact h.2 v hv
      · rw [(List.mem_replicate.mp hv).2]
        exact Nat.zero_le _
    refine ⟨by rw [List.length_set]; exact hl, fun v hv' => ?_⟩
    rcases List.mem_or_eq_of_mem_set hv' with hv' | rfl
    · exact Nat.le_trans (hv v hv') (Nat.mul_le_mul_right _ (Nat.le_succ _))
    · have h1 : (((t ++ (List.replicate (n + 1 - t.length) [(0 : Int)]).flatten)[n]?).getD 0).natAbs ≤ i * 2 ^ 30 := by
        cases hq : (t ++ (List.replicate (n + 1 - t.length) [(0 : Int)]).flatten)[n]? with
        | none => exact Nat.zero_le _
        | some w => exact hv w (List.mem_of_getElem? hq)
      have := Int.natAbs_add_le (((t ++ (List.replicate (n + 1 - t.length) [(0 : Int)]).flatten)[n]?).getD 0) c
      rw [Nat.add_mul, Nat.one_mul]
      omega
theorem signed_take {D : PD} (ok : D.Ok) : ∀ i, i ≤ D.ind.length → okT i ((D.ind.take i).foldl (fun tot g => tstep tot g.length (D.cnt g)) [])
  | 0, _ => ⟨Nat.zero_le _, fun v hv => by cases hv⟩
  | i + 1, h => by
    have ih := signed_take ok i (by omega)
    have hi : D.ind[i]? = some D.ind[i] := List.getElem?_eq_getElem (by omega)
    rw [fold_take _ _ hi]
    have hg := (ind_ok ok).1 _ (List.getElem_mem (by omega : i < D.ind.length))
    have h8 : D.names.length ≤ 8 := by unfold PD.names; rw [List.length_map]; exact ok.n8
    exact tstep_ok ih (by have := hg.2.1; have := hg.2.2; omega) (cnt_bd ok hg)
theorem signed_ok {D : PD} (ok : D.Ok) : okT 256 D.signed := by
  have h := signed_take ok D.ind.length (Nat.le_refl _)
  rw [List.take_of_length_le (Nat.le_refl _)] at h
  exact ⟨h.1, fun v hv => Nat.le_trans (h.2 v hv) (Nat.mul_le_mul_right _ (ind_ok ok).2)⟩
def sp_signed (K : PySem.W.Frag) : Sp := fun vs H Q _ => match vs with
  | [v] => ∃ F D, Same F H ∧ rP K F v D ∧ ∀ v F' H', Pu F H F' H' → rL K rI F' v D.signed → Q v H'
  | _ => False
theorem sc_signed_counts : FnScope ["problem", "totals", "group", "count", "name"] ["problem"] (defScope s_signed_counts) := C8.fnScope_by (by decide +kernel)
theorem c_signed_counts {P : Program} {w : World} {K : PySem.W.Frag} {mg : Str → Option Value} {base hp : Heap} (T : Tx K mg hp) : C8.Cal P w K mg base 6 "signed_counts" (sp_signed K) [] := by
  obtain ⟨fd, F⟩ := T.fd_signed_counts
  refine mkCal T.gl_signed_counts F sc_signed_counts (fun _ _ _ _ _ _ us hl => match us, hl with | [_], _ => rfl) (fun vs H Q E h => by unfold sp_signed at h; split at h <;> first | rfl | exact h.elim) (fun cdv A outer s H vs Q E hr h => ?_)
  have nd := sc_signed_counts.nd
  have hu := hu_of hr
  unfold sp_signed at h
  split at h
  case h_2 => exact h.elim
  obtain ⟨F, D, e, hP, k⟩ := h
  obtain ⟨p, dx, d1, d2, d3, rfl, h, _⟩ := id hP
  refine ⟨_, (pss_cons (ps_set (i := 1) nd rfl (Or.inl rfl) (pe_lst pa_nil))
      (pss_cons (ps_for PassesOwn.never rfl (pi_list (C8.pe_c (c_independent_sets T) hr (by decide) (by rfl) (pa_cons (pv 0) pa_nil))) (pg_name (i := 2) nd rfl (Or.inl rfl)) (pss_cons (ps_set (i := 3) nd rfl (Or.inl rfl) (C8.pe_c (c_event_sign T) hr (by decide) (by rfl) (pa_cons (pv 2) pa_nil)))
      (pss_cons (ps_for PassesOwn.never rfl (pi_tup (pv 2)) (pg_name (i := 4) nd rfl (Or.inl rfl)) (pss_one (ps_set (i := 3) nd rfl (Or.inl rfl) (pe_op op_mulW (pv 3) (pe_callB call_len_seq (by rfl) T.fr_len (by decide +kernel) (pa_cons (C8.pe_mt (c_Problem_bad_tuples T) hr (by decide) (pv 0) (pa_cons (pv 4) pa_nil)) pa_nil))))))
      (pss_one (ps_if (pt_cmpR op_ne (pv 3) pe_int (nomark _)) (pss_cons (ps_expr (pe_bm PySem.F.plainAttrs_list PySem.F.slot_list_extend PySem.F.type_list_extend mt_extend (pv 1) (pa_cons (pe_op op_rep (pe_lst (pa_cons pe_int pa_nil)) (pe_op op_sub (pe_op op_add (pe_callB call_len_seq (by rfl) T.fr_len (by decide +kernel) (pa_cons (pv 2) pa_nil)) pe_int) (pe_callB call_len_seq (by rfl) T.fr_len (by decide +kernel) (pa_cons (pv 1) pa_nil)))) pa_nil)))
      (pss_one (ps_augS (pv 1) (pe_callB call_len_seq (by rfl) T.fr_len (by decide +kernel) (pa_cons (pv 2) pa_nil)) pget_list (pv 3) ip_add set_list))) pss_nil)))))
      (pss_one (ps_ret (pv 1))))), ?_⟩
  have h8 : D.names.length ≤ 8 := by unfold PD.names; rw [List.length_map]; exact h.ok.n8
  obtain ⟨hgs, hgl⟩ := ind_ok h.ok
  refine ⟨Nat.zero_le _, fun ta nta => ?_⟩
  have g0 : Pu F H F (upd H ta (.lst [])) := Gr.newm e nta
  have m0 := Mt.new (o := .lst []) e nta
  refine ⟨_, rfl, F, D, g0.fh, hP, fun v F1 H1 g1 hv => ?_⟩
  obtain ⟨a, xa, rfl, ha, hxa⟩ := hv
  have g01 := g0.trans g1
  have m1 := m0.pu g1
  have n0 : H ta = none := nta
  refine ⟨a, rfl, ⟨_, sql_s g1.fh ha⟩, for_list (K := K) (a := a) (xs := xa) (fun i σ H2 => ∃ F2 w2 w3 w4, σ = [some (.ref p), some (.ref ta), w2, w3, w4] ∧ Pu F H F2 H2 ∧ Gr (fun b => b = ta) F1 H1 F2 H2 ∧ Mt F2 H2 ta (.lst (((D.ind.take i).foldl (fun tot g => tstep tot g.length (D.cnt g)) []).map V.int)))
    ⟨F1, _, _, _, rfl, g01, Gr.refl g1.fh, m1⟩ (fun i σ H2 _ ⟨F2, _, _, _, _, _, g, _⟩ => sql_s g.fh (sql_s g.f ha)) ?_ ?_⟩
  · rintro i y σ H2 hi ⟨F2, w2, w3, w4, rfl, gC, gD, mC⟩
    obtain ⟨gr, hgr, hy⟩ := hxa.get hi
    have hgm := List.mem_of_getElem? hgr
    have okg := hgs gr hgm
    have lgr : gr.length ≤ 8 := by have := okg.2.1; have := okg.2.2; omega
    have hi256 : i ≤ D.ind.length := by rw [← hxa.length]; exact Nat.le_of_lt (List.getElem?_eq_some_iff.mp hi).1
    have okt := signed_take h.ok i hi256
    obtain ⟨ca, us, rfl, hca, hcu⟩ := Up.up gD.f hy
    rw [all2_str hcu] at hca
    refine ⟨_, rfl, ca, gr, rfl, sqt_s gC.fh hca, ?_⟩
    refine ⟨_, rfl, ca, rfl, ⟨_, sqt_s gC.fh hca⟩, for_tup (K := K) (a := ca) (xs := gr.map V.str) (fun j σ H3 => ∃ F3 w4, σ = [some (.ref p), some (.ref ta), some (.ref ca), some (.int ((gr.take j).foldl D.cntF (sgn gr.length))), w4] ∧ Pu F H F3 H3 ∧ Gr (fun b => b = ta) F1 H1 F3 H3 ∧ Pu F2 H2 F3 H3) ⟨F2, _, rfl, gC, gD, Gr.refl gC.fh⟩ (fun j σ H3 _ ⟨F3, _, _, _, _, g⟩ => sqt_s g.fh (sqt_s g.f hca)) ?_ ?_⟩
    · rintro j y σ H3 hj ⟨F3, w4, rfl, gC3, gD3, gE3⟩
      obtain ⟨x, hx, rfl⟩ := str_at hj
      have hxn := okg.1 x (List.mem_of_getElem? hx)
      have hj8 : j ≤ gr.length := Nat.le_of_lt (List.getElem?_eq_some_iff.mp hx).1
      refine ⟨_, rfl, _, rfl, p, dx, _, rfl, (h.up (.of gC3.f)).h gC3.fh, pfsn (by decide +kernel), _, rfl, F3, D, x, _, gC3.fh, Up.up gC3.f hP.w, rfl, ts_of hxn, fun v F4 H4 g4 hv => ?_⟩
      obtain ⟨b, xb, rfl, hb, hxb⟩ := hv
      refine ⟨b, _, rfl, .inl (sql_s g4.fh hb), _, _, rfl, rfl, wide_mul (a := 31) (b := 8) ?_ ?_ (by decide) (by decide) (by decide), ?_⟩
      · have := cnt_take h.ok okg.1 j hj8
        have := pow12 (i := j) (by omega)
        omega
      · rw [hxb.length, Int.natAbs_natCast]
        have := ts_len h.ok hxn
        omega
      · refine ⟨F4, some (.str x), ?_, gC3.trans g4, gD3.trans g4.pu, gE3.trans g4⟩
        rw [fold_take _ _ hx, hxb.length]
        rfl
    · rintro σ H3 ⟨F3, w4, rfl, gC3, gD3, gE3⟩
      have m3 := mC.pu gE3
      have ec : (gr.take (gr.map V.str).length).foldl D.cntF (sgn gr.length) = D.cnt gr := by
        rw [List.length_map, List.take_of_length_le (Nat.le_refl _)]
        rfl
      rw [ec]
      have est : (D.ind.take (i + 1)).foldl (fun tot g => tstep tot g.length (D.cnt g)) [] = tstep ((D.ind.take i).foldl (fun tot g => tstep tot g.length (D.cnt g)) []) gr.length (D.cnt gr) := fold_take _ _ hgr
      refine ⟨_, rfl, rfl, _, rfl, ?_⟩
      by_cases hc : D.cnt gr = 0
      · rw [decide_eq_true (show V.int (D.cnt gr) = V.int 0 by rw [hc])]
        refine iteF ⟨F3, _, _, _, rfl, gC3, gD3, ?_⟩
        rw [est]
        unfold tstep
        rw [if_pos hc]
        exact m3
      · rw [decide_eq_false (show ¬ V.int (D.cnt gr) = V.int 0 from fun z => hc (V.int.inj z))]
        have hca3 := sqt_s gE3.f hca
        generalize htot : (D.ind.take i).foldl (fun tot g => tstep tot g.length (D.cnt g)) [] = tot at *
        have okt9 := okt.1
        refine iteT ⟨_, rfl, .inl ⟨rfl, _, SqL.of m3.h⟩, le_line (by show 1 ≤ 1000000; omega), fun z nz => ?_⟩
        have g5 : Pu F3 H3 (upd F3 z (.lst [.int 0])) (upd H3 z (.lst [.int 0])) := Gr.new gC3.fh nz
        have m5 := m3.pu g5
        refine ⟨_, rfl, ca, _, rfl, .inr (sqt_s g5.fh (sqt_s g5.f hca3)), _, _, rfl, rfl, _, rfl, ta, _, rfl, .inl (SqL.of m5.h), _, _, rfl, rfl, ?_⟩
        rw [List.length_map, List.length_map]
        have ek : (((gr.length : Nat) : Int) + 1 - ((tot.length : Nat) : Int)).toNat = gr.length + 1 - tot.length := by omega
        refine ⟨z, _, _, rfl, rfl, upd_same, by omega, by omega, by rw [ek]; exact le_line (by show 1 * _ ≤ _; omega), fun q nq => ?_⟩
        rw [ek]
        have ezs : (List.replicate (gr.length + 1 - tot.length) [V.int 0]).flatten = ((List.replicate (gr.length + 1 - tot.length) [(0 : Int)]).flatten).map V.int := by
          rw [List.map_flatten, List.map_replicate]
          rfl
        rw [ezs]
        have g6 : Pu _ _ (upd (upd F3 z (.lst [.int 0])) q (.lst (((List.replicate (gr.length + 1 - tot.length) [(0 : Int)]).flatten).map V.int))) (upd (upd H3 z (.lst [.int 0])) q (.lst (((List.replicate (gr.length + 1 - tot.length) [(0 : Int)]).flatten).map V.int))) := Gr.new g5.fh nq
        have m6 := m5.pu g6
        have g56 := g5.trans g6
        refine ⟨ta, q, _, _, rfl, rfl, m6.h, upd_same, le_line (by rw [List.length_map, List.length_map, flat_rep, List.length_replicate]; omega), ?_⟩
        rw [← List.map_append]
        have hca6 := sqt_s g56.f hca3
        have g7 := (gC3.trans g56).mut (o := .lst ((tot ++ (List.replicate (gr.length + 1 - tot.length) [(0 : Int)]).flatten).map V.int)) m6.n n0
        have m7 := m6.set (u := .lst ((tot ++ (List.replicate (gr.length + 1 - tot.length) [(0 : Int)]).flatten).map V.int))
        have lt : gr.length < (tot ++ (List.replicate (gr.length + 1 - tot.length) [(0 : Int)]).flatten).length := by
          rw [List.length_append, flat_rep, List.length_replicate]
          omega
        refine ⟨_, rfl, _, rfl, ca, _, rfl, .inr (sqt_s g7.fh hca6), ta, _, gr.length, .int (((tot ++ (List.replicate (gr.length + 1 - tot.length) [(0 : Int)]).flatten)[gr.length]?).getD 0), rfl, by rw [List.length_map], SqL.of m7.h, by rw [List.getElem?_map, List.getElem?_eq_getElem lt]; rfl, _, rfl, _, _, rfl, rfl, ta, _, _, gr.length, rfl, by rw [List.length_map], m7.h, ?_, ?_⟩
        · unfold ixN
          rw [if_pos (by omega), if_pos (by rw [List.length_map]; omega)]
          rfl
        · refine ⟨_, some (.ref ca), some (.int (D.cnt gr)), w4, rfl, g7.mut m7.n n0, (gD3.trans g56.pu).set m6.n rfl |>.set m7.n rfl, ?_⟩
          rw [est]
          unfold tstep
          rw [if_neg hc]
          show Mt _ _ _ (.lst (((tot ++ (List.replicate (gr.length + 1 - tot.length) [(0 : Int)]).flatten).set gr.length _).map V.int))
          rw [List.map_set]
          exact m7.set
  · rintro σ H2 ⟨F2, w2, w3, w4, rfl, gC, gD, mC⟩
    rw [List.take_of_length_le (by rw [hxa.length]; exact Nat.le_refl _)] at mC
    refine ⟨_, rfl, ?_⟩
    have g5 := gC.frz mC.n n0 mC.h
    exact k _ _ _ g5 (rli_of (SqL.of upd_same))
end Rs
/-! text R22 -/
set_option Elab.async false
set_option linter.all false
set_option maxRecDepth 100000
set_option maxHeartbeats 4000000
namespace Rs
open PySem PySem.Spec PyProof.Rows L2
/-! ### numbers of heaps -/
def hterm (sg cs : List Int) (size y : Nat) : Int := (sg[y + 1]?).getD 0 * (cs[size - (y + 1)]?).getD 0
def hstep (sg cs : List Int) (size : Nat) : List Int := cs ++ [-((List.range (min size (sg.length - 1))).map (hterm sg cs size)).sum]
def hcF (sg : List Int) : Nat → List Int
  | 0 => [1]
  | n + 1 => hstep sg (hcF sg n) (n + 1)
theorem hcF_len {sg : List Int} : ∀ n, (hcF sg n).length = n + 1
  | 0 => rfl
  | n + 1 => by show (hcF sg n ++ [_]).length = _; rw [List.length_append, hcF_len n]; rfl
theorem natAbs_sum {B : Nat} : ∀ {l : List Int}, (∀ v ∈ l, v.natAbs ≤ B) → l.sum.natAbs ≤ l.length * B
  | [], _ => Nat.zero_le _
  | v :: l, h => by
    have ih := natAbs_sum fun x hx => h x (List.mem_cons_of_mem _ hx)
    have h1 := h v (List.mem_cons_self ..)
    have := Int.natAbs_add_le v l.sum
    rw [List.sum_cons, List.length_cons, Nat.add_mul]
    omega
theorem hcF_bd {sg : List Int} (h : okT 256 sg) : ∀ n j v, (hcF sg n)[j]? = some v → v.natAbs ≤ 2 ^ (50 * j)
  | 0, j, v, hv => by
    cases j with
    | zero => cases hv; decide
    | succ j => cases hv
  | n + 1, j, v, hv => by
    have hl := hcF_len (sg := sg) n
    have hv : (hcF sg n ++ [-((List.range (min (n + 1) (sg.length - 1))).map (hterm sg (hcF sg n) (n + 1))).sum])[j]? = some v := hv
    by_cases hj : j < n + 1
    · rw [List.getElem?_append_left (by omega)] at hv
      exact hcF_bd h n j v hv
    · rw [List.getElem?_append_right (by omega)] at hv
      have ej : j = n + 1 := by
        have := (List.getElem?_eq_some_iff.mp hv).1
        simp only [List.length_singleton] at this
        omega
      subst ej
      rw [hl, Nat.sub_self] at hv
      cases hv
      rw [Int.natAbs_neg]
      have hb : ∀ v ∈ (List.range (min (n + 1) (sg.length - 1))).map (hterm sg (hcF sg n) (n + 1)), v.natAbs ≤ 2 ^ 38 * 2 ^ (50 * n) := by
        intro v hv
        obtain ⟨y, hy, rfl⟩ := List.mem_map.mp hv
        unfold hterm
        rw [Int.natAbs_mul]
        refine Nat.mul_le_mul ?_ ?_
        · cases hq : sg[y + 1]? with
          | none => exact Nat.zero_le _
          | some w => exact h.2 w (List.mem_of_getElem? hq)
        · cases hq : (hcF sg n)[n + 1 - (y + 1)]? with
          | none => exact Nat.zero_le _
          | some w => exact Nat.le_trans (hcF_bd h n _ w hq) (Nat.pow_le_pow_right (by decide) (by omega))
      have h2 := natAbs_sum hb
      rw [List.length_map, List.length_range] at h2
      have h3 : min (n + 1) (sg.length - 1) ≤ 8 := by have := h.1; omega
      refine Nat.le_trans h2 (Nat.le_trans (Nat.mul_le_mul_right _ h3) ?_)
      rw [show 50 * (n + 1) = 50 * n + 50 by omega, Nat.pow_add, ← Nat.mul_assoc, Nat.mul_comm]
      exact Nat.mul_le_mul_left _ (by decide)
def sp_heap_counts (K : PySem.W.Frag) : Sp := fun vs H Q _ => match vs with
  | [v, u] => ∃ F D, u = .int 12 ∧ Same F H ∧ rP K F v D ∧ ∀ v F' H', Pu F H F' H' → rL K rI F' v (hcF D.signed 12) → Q v H'
  | _ => False
theorem sc_heap_counts : FnScope ["problem", "up_to", "signed", "counts", "size", "k"] ["problem", "up_to"] (defScope s_heap_counts) := C8.fnScope_by (by decide +kernel)
theorem c_heap_counts {P : Program} {w : World} {K : PySem.W.Frag} {mg : Str → Option Value} {base hp : Heap} (T : Tx K mg hp) : C8.Cal P w K mg base 7 "heap_counts" (sp_heap_counts K) [.int 12] := by
  obtain ⟨fd, F⟩ := T.fd_heap_counts
  obtain ⟨ks, hv, hb⟩ := F.binds0 (ps := ["problem", "up_to"]) 1 (by simp) rfl fun D doc pm an cdv ct us ks hu hk => match us, ks, hu, hk with | [_], [_], _, _ => ⟨_, _, _, _, _, _, rfl, rfl, rfl⟩
  refine ⟨_, fd, _, ks, fnok_of F sc_heap_counts (fun vs H Q E h => by unfold sp_heap_counts at h; split at h <;> first | rfl | exact h.elim) (fun cdv A outer s H vs Q E hr h => ?_), T.gl_heap_counts, F.kp, hb, hv⟩
  have nd := sc_heap_counts.nd
  have hu := hu_of hr
  unfold sp_heap_counts at h
  split at h
  case h_2 => exact h.elim
  obtain ⟨F, D, rfl, e, hP, k⟩ := h
  obtain ⟨p, dx, d1, d2, d3, rfl, h, _⟩ := id hP
  refine ⟨_, (pss_cons (ps_expr (C8.pe_c (c_need_problem T) hr (by decide) (by rfl) (pa_cons (pv 0) pa_nil)))
      (pss_cons (ps_expr (C8.pe_c (c_need_size T) hr (by decide) (by rfl) (pa_cons (pv 1) pa_nil)))
      (pss_cons (ps_set (i := 2) nd rfl (Or.inr rfl) (C8.pe_c (c_signed_counts T) hr (by decide) (by rfl) (pa_cons (pv 0) pa_nil)))
      (pss_cons (ps_set (i := 3) nd rfl (Or.inr rfl) (pe_lst (pa_cons pe_int pa_nil)))
      (pss_cons (ps_for PassesOwn.never rfl (pi_range2 (by rfl) T.fr_range (pa_cons pe_int (pa_cons (pe_op op_add (pv 1) pe_int) pa_nil))) (pg_name (i := 4) nd rfl (Or.inr rfl)) (pss_one (ps_expr (pe_bm PySem.F.plainAttrs_list PySem.F.slot_list_append PySem.F.type_list_append mt_append (pv 3) (pa_cons (pe_un un_neg (pe_callB (cr_sum rfl) (by rfl) T.fr_sum (by decide +kernel) (pa_cons (pe_lc (own := [("k", 5)]) (g := (gName 5)) rfl nd (pi_range2 (by rfl) T.fr_range (pa_cons pe_int (pa_cons (pe_op op_add (pe_callB (call_min2 rfl) (by rfl) T.fr_min (by decide +kernel) (pa_cons (pv 4) (pa_cons (pe_op op_sub (pe_callB call_len_seq (by rfl) T.fr_len (by decide +kernel) (pa_cons (pv 2) pa_nil)) pe_int) pa_nil))) pe_int) pa_nil))) (blkOk_by (own := [("k", 5)]) (N := ["problem", "up_to", "signed", "counts", "size", "k"]) (sc := defScope s_heap_counts) (by decide +kernel)) (fun _ _ _ _ _ => (pg_name (i := 5) nd rfl (Or.inl rfl))) (fun _ _ _ _ _ => pts_nil) (fun _ _ _ _ _ => (pe_op op_mulW (pe_ix (ix_listK (K := K) rfl) (pv 2) (pv 5) (fun _ _ => rfl)) (pe_ix (ix_listK (K := K) rfl) (pv 3) (pe_op op_sub (pv 4) (pv 5)) (fun _ _ => rfl))))) pa_nil))) pa_nil)))))
      (pss_one (ps_ret (pv 3)))))))), ?_⟩
  have okt := signed_ok h.ok
  refine ⟨_, rfl, D, Up.up e hP.w, _, rfl, 12, rfl, by decide, by decide, ?_⟩
  refine ⟨_, rfl, F, D, e, hP, fun v F1 H1 g1 hv => ?_⟩
  obtain ⟨sa, rfl, hsa⟩ := rli hv
  refine ⟨le_line (by show 1 ≤ 1000000; omega), fun ca nca => ?_⟩
  have g2 : Pu F1 H1 F1 (upd H1 ca (.lst [.int 1])) := Gr.newm g1.fh nca
  have m2 := Mt.new (o := .lst [.int 1]) g1.fh nca
  have g12 := g1.trans g2
  have n0 : H ca = none := g1.dom _ nca
  refine ⟨_, rfl, _, _, rfl, rfl, _, _, rfl, ⟨by decide, by decide, by decide, by decide⟩, ?_⟩
  refine for_range (lo := 1) (n := 12) (fun i σ H2 => ∃ F2 w4, σ = [some (.ref p), some (.int 12), some (.ref sa), some (.ref ca), w4, none] ∧ Pu F H F2 H2 ∧ Gr (fun b => b = ca) F1 H1 F2 H2 ∧ Mt F2 H2 ca (.lst ((hcF D.signed i).map V.int))) ⟨F1, _, rfl, g12, g2.pu, m2⟩ ?_ ?_
  · rintro i σ H2 hi ⟨F2, w4, rfl, gC, gD, mC⟩
    have hsa2 := sql_s gD.f hsa
    have l9 := okt.1
    have hl := hcF_len (sg := D.signed) i
    refine ⟨_, rfl, .inl ⟨rfl, _, SqL.of mC.h⟩, _, rfl, _, rfl, sa, _, rfl, .inl (sql_s gC.fh hsa2), _, _, rfl, rfl, _, _, rfl, _, _, rfl, rfl, _, _, rfl, ⟨by decide, by decide, ?_, ?_⟩, ?_⟩
    · rw [List.length_map]
      split <;> omega
    · rw [List.length_map]
      split <;> omega
    have en : ((if ((((D.signed.map V.int).length : Nat) : Int) - 1) < (1 + (i : Int)) then ((((D.signed.map V.int).length : Nat) : Int) - 1) else (1 + (i : Int))) + 1 - 1).toNat = min (i + 1) (D.signed.length - 1) := by
      rw [List.length_map]
      split <;> omega
    rw [en]
    refine lcR (K := K) (R := rI) (f := hterm D.signed (hcF D.signed i) (i + 1)) (p := fun _ => true) gC.fh (by omega) (fun y F3 H3 hy g3 Kt Kf k1 k2 => ?_) (fun L F3 H3 g3 hL => ?_)
    · have m3 := mC.pu g3
      have hy1 : y + 1 < D.signed.length := by omega
      have hy2 : i + 1 - (y + 1) < (hcF D.signed i).length := by omega
      refine ⟨rfl, _, rfl, _, rfl, sa, _, _, .int ((D.signed[y + 1]?).getD 0), rfl, rfl, sql_s g3.fh (sql_s g3.f hsa2), ?_, _, rfl, _, rfl, _, rfl, _, _, rfl, rfl, ca, _, _, .int (((hcF D.signed i)[i + 1 - (y + 1)]?).getD 0), rfl, rfl, SqL.of m3.h, ?_, _, _, rfl, rfl, wide_mul (a := 40) (b := 700) ?_ ?_ (by decide) (by decide) (by decide), k1 rfl _ F3 H3 (Gr.refl g3.fh) rfl⟩
      · rw [show (1 + (y : Int)) = ((y + 1 : Nat) : Int) by omega]
        exact atI_nat (by rw [List.getElem?_map, List.getElem?_eq_getElem hy1]; rfl)
      · rw [show ((1 + (i : Int)) - (1 + (y : Int))) = ((i + 1 - (y + 1) : Nat) : Int) by omega]
        exact atI_nat (by rw [List.getElem?_map, List.getElem?_eq_getElem hy2]; rfl)
      · rw [List.getElem?_eq_getElem hy1]
        have := okt.2 _ (List.getElem_mem hy1)
        exact Nat.lt_of_le_of_lt this (by decide)
      · rw [List.getElem?_eq_getElem hy2]
        have := hcF_bd okt i _ _ (List.getElem?_eq_getElem hy2)
        exact Nat.lt_of_le_of_lt this (Nat.pow_lt_pow_right (by decide) (by omega))
    · rw [ptrue] at hL
      obtain ⟨l, el, hl2⟩ := rli hL
      cases el
      have m3 := mC.pu g3
      refine ⟨L, _, rfl, sql_s g3.fh hl2, _, rfl, ca, _, _, rfl, rfl, m3.h, lt_line (by rw [List.length_map]; omega), ?_⟩
      refine ⟨F3, some (.int (1 + (i : Int))), rfl, (gC.trans g3).mut m3.n n0, (gD.trans g3.pu).set m3.n rfl, ?_⟩
      show Mt _ _ _ (.lst ((hcF D.signed i ++ [_]).map V.int))
      rw [List.map_append]
      exact m3.set
  · rintro σ H2 ⟨F2, w4, rfl, gC, gD, mC⟩
    refine ⟨_, rfl, ?_⟩
    exact k _ _ _ (gC.frz mC.n n0 mC.h) (rli_of (SqL.of upd_same))
end Rs
/-! text Rrb -/
set_option Elab.async false
set_option linter.all false
set_option maxRecDepth 100000
set_option maxHeartbeats 4000000
set_option exponentiation.threshold 20000
namespace Rs
open PySem PySem.Spec PyProof.Rows L2
/-! ### how large a ratio is -/
def Rb (M B : Nat) (p : Int × Int) : Prop := 0 < p.2 ∧ p.2 ∣ (M : Int) ∧ p.1.natAbs ≤ B * p.2.natAbs
theorem nrm_dvd {n d M : Int} (hd : 0 < d) (h : d ∣ n * M) : (nrm n d).2 ∣ M := by
  have gp := gcdI_pos (n := n) hd
  unfold nrm gcdI at *
  have g0 : 0 < Int.gcd n d := by omega
  have h1 := Int.gcd_ediv_gcd_ediv_gcd g0
  have e1 : n / (Int.gcd n d : Int) * (Int.gcd n d : Int) = n := Int.ediv_mul_cancel (Int.gcd_dvd_left ..)
  have e2 : d / (Int.gcd n d : Int) * (Int.gcd n d : Int) = d := Int.ediv_mul_cancel (Int.gcd_dvd_right ..)
  show d / (Int.gcd n d : Int) ∣ M
  generalize n / (Int.gcd n d : Int) = n' at *
  generalize d / (Int.gcd n d : Int) = d' at *
  have h2 : d' ∣ n' * M := by
    rw [← e2, ← e1] at h
    have : d' * (Int.gcd n d : Int) ∣ (n' * M) * (Int.gcd n d : Int) := by
      rw [e1, e2] at h
      rw [e2, Int.mul_right_comm, e1]
      exact h
    exact Int.dvd_of_mul_dvd_mul_right (by omega) this
  have h3 : d'.natAbs ∣ n'.natAbs * M.natAbs := by
    rw [← Int.natAbs_mul]
    exact Int.natAbs_dvd_natAbs.mpr h2
  have h4 : Nat.Coprime d'.natAbs n'.natAbs := by
    rw [Nat.coprime_comm]
    exact h1
  exact Int.natAbs_dvd_natAbs.mp (h4.dvd_of_dvd_mul_left h3)
theorem rb_nrm {M B : Nat} {n d : Int} (hd : 0 < d) (hM : d ∣ n * (M : Int)) (hB : n.natAbs ≤ B * d.natAbs) : Rb M B (nrm n d) := by
  refine ⟨?_, nrm_dvd hd hM, ?_⟩
  · have gp := gcdI_pos (n := n) hd
    have gd : gcdI n d ∣ d := by unfold gcdI; exact Int.gcd_dvd_right ..
    exact Int.ediv_pos_of_pos_of_dvd hd (Int.le_of_lt gp) gd
  · have gp := gcdI_pos (n := n) hd
    have e1 : n / gcdI n d * gcdI n d = n := Int.ediv_mul_cancel (by unfold gcdI; exact Int.gcd_dvd_left ..)
    have e2 : d / gcdI n d * gcdI n d = d := Int.ediv_mul_cancel (by unfold gcdI; exact Int.gcd_dvd_right ..)
    show (n / gcdI n d).natAbs ≤ B * (d / gcdI n d).natAbs
    generalize gcdI n d = g at *
    have h1 : n.natAbs = (n / g).natAbs * g.natAbs := by rw [← Int.natAbs_mul, e1]
    have h2 : d.natAbs = (d / g).natAbs * g.natAbs := by rw [← Int.natAbs_mul, e2]
    rw [h1, h2, ← Nat.mul_assoc] at hB
    exact Nat.le_of_mul_le_mul_right hB (by omega)
theorem Rb.add {M B C : Nat} {p q : Int × Int} (hp : Rb M B p) (hq : Rb M C q) : Rb M (B + C) (addR p q) := by
  obtain ⟨p0, p1, p2⟩ := hp
  obtain ⟨q0, q1, q2⟩ := hq
  refine rb_nrm (Int.mul_pos p0 q0) ?_ ?_
  · rw [Int.add_mul]
    refine Int.dvd_add ?_ ?_
    · rw [Int.mul_assoc, Int.mul_comm p.1, Int.mul_assoc, Int.mul_comm p.2, ]
      exact Int.mul_dvd_mul (Int.dvd_refl _) (Int.dvd_mul_of_dvd_left p1)
    · rw [Int.mul_assoc, Int.mul_comm q.1, Int.mul_assoc]
      exact Int.mul_dvd_mul (Int.dvd_refl _) (Int.dvd_mul_of_dvd_left q1)
  · refine Nat.le_trans (Int.natAbs_add_le ..) ?_
    rw [Int.natAbs_mul, Int.natAbs_mul, Int.natAbs_mul, Nat.add_mul]
    refine Nat.add_le_add ?_ ?_
    · rw [← Nat.mul_assoc]
      exact Nat.mul_le_mul_right _ p2
    · rw [Nat.mul_comm p.2.natAbs, ← Nat.mul_assoc]
      exact Nat.mul_le_mul_right _ q2
theorem Rb.sub {M B C : Nat} {p q : Int × Int} (hp : Rb M B p) (hq : Rb M C q) : Rb M (B + C) (subR p q) := by
  have e : subR p q = addR p (-q.1, q.2) := by
    unfold subR addR
    rw [Int.neg_mul]
    rfl
  rw [e]
  refine hp.add ⟨hq.1, hq.2.1, ?_⟩
  rw [Int.natAbs_neg]
  exact hq.2.2
theorem Rb.mul {M N B C : Nat} {p q : Int × Int} (hp : Rb M B p) (hq : Rb N C q) : Rb (M * N) (B * C) (mulR p q) := by
  obtain ⟨p0, p1, p2⟩ := hp
  obtain ⟨q0, q1, q2⟩ := hq
  refine rb_nrm (Int.mul_pos p0 q0) ?_ ?_
  · rw [Int.natCast_mul]
    exact Int.dvd_mul_of_dvd_right (Int.mul_dvd_mul p1 q1)
  · rw [Int.natAbs_mul, Int.natAbs_mul, Nat.mul_mul_mul_comm]
    exact Nat.mul_le_mul p2 q2
theorem Rb.mono {M N B C : Nat} {p : Int × Int} (h : Rb M B p) (hM : M ∣ N) (hB : B ≤ C) : Rb N C p :=
  ⟨h.1, Int.dvd_trans h.2.1 (Int.natCast_dvd_natCast.mpr hM), Nat.le_trans h.2.2 (Nat.mul_le_mul_right _ hB)⟩
theorem Rb.bd {M B : Nat} {p : Int × Int} (h : Rb M B p) (hM0 : 0 < M) (hM : M < 2 ^ 2000) (hB : B ≤ 2 ^ 900) : bdR p := by
  obtain ⟨h1, h2, h3⟩ := h
  have h4 : p.2 ≤ (M : Int) := Int.le_of_dvd (by omega) h2
  have h5 : p.2.natAbs < 2 ^ 2000 := by omega
  refine ⟨h1, ?_, Nat.lt_of_lt_of_le h5 (Nat.pow_le_pow_right (by decide) (by decide))⟩
  refine Nat.lt_of_le_of_lt h3 ?_
  refine Nat.lt_of_lt_of_le (Nat.mul_lt_mul_of_le_of_lt hB h5 (Nat.two_pow_pos _)) ?_
  rw [← Nat.pow_add]
  exact Nat.pow_le_pow_right (by decide) (by decide)
theorem rb_int {z : Int} {d : Int} (B : Nat) (hd : 0 < d) (hz : z.natAbs ≤ B) {M : Nat} (h : d ∣ (M : Int)) : Rb M B (nrm z d) :=
  rb_nrm hd (Int.dvd_mul_of_dvd_right h) (Nat.le_trans hz (Nat.le_mul_of_pos_right _ (by omega)))
theorem rb_zero (M : Nat) : Rb M 0 (0, 1) := ⟨by decide, Int.one_dvd _, by decide⟩
theorem rb_one : Rb 1 1 (1, 1) := ⟨by decide, Int.one_dvd _, by decide⟩
theorem rb_sum {M B : Nat} {l : List (Int × Int)} (h : ∀ p ∈ l, Rb M B p) : ∀ i, i ≤ l.length → Rb M (i * B) ((l.take i).foldl addR (0, 1))
  | 0, _ => by
    rw [List.take_zero, Nat.zero_mul]
    exact rb_zero M
  | i + 1, hi => by
    have h1 : l[i]? = some l[i] := List.getElem?_eq_getElem (by omega)
    rw [fold_take _ _ h1, Nat.add_mul, Nat.one_mul]
    exact (rb_sum h i (by omega)).add (h _ (List.getElem_mem _))
theorem rb_prod {M B : Nat} {l : List (Int × Int)} (h : ∀ p ∈ l, Rb M B p) : ∀ i, i ≤ l.length → Rb (M ^ i) (B ^ i) ((l.take i).foldl mulR (1, 1))
  | 0, _ => by
    rw [List.take_zero, Nat.pow_zero, Nat.pow_zero]
    exact rb_one
  | i + 1, hi => by
    have h1 : l[i]? = some l[i] := List.getElem?_eq_getElem (by omega)
    rw [fold_take _ _ h1, Nat.pow_succ, Nat.pow_succ]
    exact (rb_prod h i (by omega)).mul (h _ (List.getElem_mem _))
theorem bdl_sum {M B : Nat} {l : List (Int × Int)} (h : ∀ p ∈ l, Rb M B p) (hM0 : 0 < M) (hM : M < 2 ^ 2000) (hB1 : B ≤ 2 ^ 900) (hB : l.length * B ≤ 2 ^ 900) : bdL addR (0, 1) l :=
  ⟨fun p hp => (h p hp).bd hM0 hM hB1, fun i hi => (rb_sum h i hi).bd hM0 hM (Nat.le_trans (Nat.mul_le_mul_right _ hi) hB)⟩
theorem bdl_prod {M B : Nat} {l : List (Int × Int)} (h : ∀ p ∈ l, Rb M B p) (hM0 : 0 < M) (hB0 : 0 < B) (hM1 : M < 2 ^ 2000) (hB1 : B ≤ 2 ^ 900) (hM : M ^ l.length < 2 ^ 2000) (hB : B ^ l.length ≤ 2 ^ 900) : bdL mulR (1, 1) l :=
  ⟨fun p hp => (h p hp).bd hM0 hM1 hB1, fun i hi => (rb_prod h i hi).bd (Nat.pow_pos hM0) (Nat.lt_of_le_of_lt (Nat.pow_le_pow_right hM0 hi) hM) (Nat.le_trans (Nat.pow_le_pow_right hB0 hi) hB)⟩
theorem rb_sumR {M B : Nat} {l : List (Int × Int)} (h : ∀ p ∈ l, Rb M B p) : Rb M (l.length * B) (sumR l) := by
  have := rb_sum h l.length (Nat.le_refl _)
  rw [List.take_of_length_le (Nat.le_refl _)] at this
  exact this
theorem rb_prodR {M B : Nat} {l : List (Int × Int)} (h : ∀ p ∈ l, Rb M B p) : Rb (M ^ l.length) (B ^ l.length) (prodR l) := by
  have := rb_prod h l.length (Nat.le_refl _)
  rw [List.take_of_length_le (Nat.le_refl _)] at this
  exact this
theorem div60 {n : Int} (h1 : 1 ≤ n) (h6 : n ≤ 6) : n ∣ 60 := by
  have : n = 1 ∨ n = 2 ∨ n = 3 ∨ n = 4 ∨ n = 5 ∨ n = 6 := by omega
  rcases this with rfl | rfl | rfl | rfl | rfl | rfl <;> decide
theorem tc_dvd {vars : List (Str × Int)} (ok : okVars vars) {sc : List Str} (hm : ∀ x ∈ sc, x ∈ vars.map (·.1)) : ∀ i, i ≤ sc.length → tcount vars (sc.take i) ∣ ((60 ^ i : Nat) : Int)
  | 0, _ => ⟨1, rfl⟩
  | i + 1, hi => by
    have h1 : sc[i]? = some sc[i] := List.getElem?_eq_getElem (by omega)
    rw [tcount_take h1, Nat.pow_succ, Int.natCast_mul]
    obtain ⟨n, hn, h1, h6⟩ := var_of ok (hm _ (List.getElem_mem (by omega : i < sc.length)))
    rw [hn]
    exact Int.mul_dvd_mul (tc_dvd ok hm i (by omega)) (div60 h1 h6)
theorem tc_dvd4 {vars : List (Str × Int)} (ok : okVars vars) {sc : List Str} (h : okScope vars sc) : 1 ≤ tcount vars sc ∧ tcount vars sc ∣ ((60 ^ 4 : Nat) : Int) := by
  have h1 := tcount_in ok h sc.length
  have h2 := tc_dvd ok h.2.2 sc.length (Nat.le_refl _)
  rw [List.take_of_length_le (Nat.le_refl _)] at h1 h2
  exact ⟨h1.1, Int.dvd_trans h2 (Int.natCast_dvd_natCast.mpr (Nat.pow_dvd_pow 60 h.1.2))⟩
/-! ### the ratios asked for -/
def PD.prob (D : PD) (e : Str) : Int × Int := nrm (((D.ts e).length : Nat) : Int) (tcount D.vars (D.sc e))
def PD.sprL (D : PD) (g : List Str) : List (Int × Int) := nrm (sgn g.length) 1 :: g.map D.prob
def PD.spr (D : PD) (g : List Str) : Int × Int := prodR (D.sprL g)
def PD.sgl (D : PD) (size : Nat) : List (Int × Int) := (D.ind.filter fun g => decide (g.length = size)).map D.spr
def PD.sgs (D : PD) (n : Nat) : List (Int × Int) := (List.range n).map fun i => sumR (D.sgl (i + 1))
def wterm (sg ws : List (Int × Int)) (size y : Nat) : Int × Int := mulR ((sg[y]?).getD (0, 1)) ((ws[size - (y + 1)]?).getD (0, 1))
def wterms (sg ws : List (Int × Int)) (size : Nat) : List (Int × Int) := (List.range size).map (wterm sg ws size)
def weightsF (sg : List (Int × Int)) : Nat → List (Int × Int)
  | 0 => [(1, 1)]
  | n + 1 => weightsF sg n ++ [subR (0, 1) (sumR (wterms sg (weightsF sg n) (n + 1)))]
def PD.weights (D : PD) : List (Int × Int) := weightsF (D.sgs 6) 6
theorem prob_rb {D : PD} (ok : D.Ok) {e : Str} (he : e ∈ D.names) : Rb (60 ^ 4) 12 (D.prob e) := by
  obtain ⟨h1, h2⟩ := tc_dvd4 ok.v (scope_of ok (sc_of he))
  refine rb_int 12 (by omega) ?_ h2
  rw [Int.natAbs_natCast]
  exact ts_len ok he
theorem sprL_rb {D : PD} (ok : D.Ok) {g : List Str} (hg : okG D.names g) : ∀ p ∈ D.sprL g, Rb (60 ^ 4) 12 p := by
  intro p hp
  unfold PD.sprL at hp
  rcases List.mem_cons.mp hp with rfl | hp
  · exact rb_int 12 (by decide) (Nat.le_trans (sgn_bd _) (by decide)) (Int.one_dvd _)
  · obtain ⟨n, hn, rfl⟩ := List.mem_map.mp hp
    exact prob_rb ok (hg.1 n hn)
theorem g8 {D : PD} (ok : D.Ok) {g : List Str} (hg : okG D.names g) : g.length ≤ 8 := by
  have h8 : D.names.length ≤ 8 := by unfold PD.names; rw [List.length_map]; exact ok.n8
  have := hg.2.1; have := hg.2.2; omega
theorem sprL_len {D : PD} {g : List Str} : (D.sprL g).length = g.length + 1 := by unfold PD.sprL; rw [List.length_cons, List.length_map]
theorem sprL_bd {D : PD} (ok : D.Ok) {g : List Str} (hg : okG D.names g) : bdL mulR (1, 1) (D.sprL g) := by
  have := g8 ok hg
  have l9 : (D.sprL g).length ≤ 9 := by rw [sprL_len]; omega
  exact bdl_prod (sprL_rb ok hg) (by decide) (by decide) (by decide) (by decide) (Nat.lt_of_le_of_lt (Nat.pow_le_pow_right (by decide) l9) (by decide)) (Nat.le_trans (Nat.pow_le_pow_right (by decide) l9) (by decide))
theorem spr_rb {D : PD} (ok : D.Ok) {g : List Str} (hg : okG D.names g) : Rb (60 ^ 36) (2 ^ 40) (D.spr g) := by
  have := g8 ok hg
  have l9 : (D.sprL g).length ≤ 9 := by rw [sprL_len]; omega
  refine (rb_prodR (sprL_rb ok hg)).mono ?_ (Nat.le_trans (Nat.pow_le_pow_right (by decide) l9) (by decide))
  rw [← Nat.pow_mul]
  exact Nat.pow_dvd_pow 60 (by omega)
theorem sgl_rb {D : PD} (ok : D.Ok) (n : Nat) : ∀ p ∈ D.sgl n, Rb (60 ^ 36) (2 ^ 40) p := by
  intro p hp
  unfold PD.sgl at hp
  obtain ⟨g, hg, rfl⟩ := List.mem_map.mp hp
  exact spr_rb ok ((ind_ok ok).1 g (List.mem_filter.mp hg).1)
theorem sgl_len {D : PD} (ok : D.Ok) (n : Nat) : (D.sgl n).length ≤ 256 := by
  unfold PD.sgl
  rw [List.length_map]
  exact Nat.le_trans (List.length_filter_le ..) (ind_ok ok).2
theorem sgl_bd {D : PD} (ok : D.Ok) (n : Nat) : bdL addR (0, 1) (D.sgl n) :=
  bdl_sum (sgl_rb ok n) (by decide) (by decide) (by decide) (Nat.le_trans (Nat.mul_le_mul_right _ (sgl_len ok n)) (by decide))
theorem sgs_rb {D : PD} (ok : D.Ok) (n : Nat) : ∀ p ∈ D.sgs n, Rb (60 ^ 36) (2 ^ 48) p := by
  intro p hp
  unfold PD.sgs at hp
  obtain ⟨i, hi, rfl⟩ := List.mem_map.mp hp
  exact (rb_sumR (sgl_rb ok (i + 1))).mono (Nat.dvd_refl _) (Nat.le_trans (Nat.mul_le_mul_right _ (sgl_len ok _)) (by decide))
theorem weightsF_len {sg : List (Int × Int)} : ∀ n, (weightsF sg n).length = n + 1
  | 0 => rfl
  | n + 1 => by show (weightsF sg n ++ [_]).length = _; rw [List.length_append, weightsF_len n]; rfl
theorem wterms_rb {sg ws : List (Int × Int)} {size : Nat} (hs : ∀ p ∈ sg, Rb (60 ^ 36) (2 ^ 48) p) (hw : ∀ j p, ws[j]? = some p → Rb (60 ^ (36 * j)) (2 ^ (60 * j)) p) : ∀ p ∈ wterms sg ws size, Rb (60 ^ (36 * size)) (2 ^ (60 * (size - 1) + 48)) p := by
  intro p hp
  unfold wterms at hp
  obtain ⟨y, hy, rfl⟩ := List.mem_map.mp hp
  have hy := List.mem_range.mp hy
  have h1 : Rb (60 ^ 36) (2 ^ 48) ((sg[y]?).getD (0, 1)) := by
    cases hq : sg[y]? with
    | none => exact (rb_zero _).mono (Nat.dvd_refl _) (Nat.zero_le _)
    | some w => exact hs w (List.mem_of_getElem? hq)
  have h2 : Rb (60 ^ (36 * (size - (y + 1)))) (2 ^ (60 * (size - (y + 1)))) ((ws[size - (y + 1)]?).getD (0, 1)) := by
    cases hq : ws[size - (y + 1)]? with
    | none => exact (rb_zero _).mono (Nat.dvd_refl _) (Nat.zero_le _)
    | some w => exact hw _ w hq
  refine (h1.mul h2).mono ?_ ?_
  · rw [← Nat.pow_add]
    exact Nat.pow_dvd_pow 60 (by omega)
  · rw [← Nat.pow_add]
    exact Nat.pow_le_pow_right (by decide) (by omega)
theorem wterms_len {sg ws : List (Int × Int)} {size : Nat} : (wterms sg ws size).length = size := by unfold wterms; rw [List.length_map, List.length_range]
theorem wpow {n : Nat} (h : n + 1 ≤ 6) : 0 + (n + 1) * 2 ^ (60 * (n + 1 - 1) + 48) ≤ 2 ^ (60 * (n + 1)) := by
  have h1 : n + 1 ≤ 2 ^ 12 := Nat.le_trans h (by decide)
  have e : 60 * (n + 1) = 12 + (60 * (n + 1 - 1) + 48) := by omega
  rw [e, Nat.pow_add 2 12, Nat.zero_add]
  exact Nat.mul_le_mul_right _ h1
theorem wnext {sg ws : List (Int × Int)} (hs : ∀ p ∈ sg, Rb (60 ^ 36) (2 ^ 48) p) {n : Nat} (hn : n + 1 ≤ 6) (hw : ∀ j p, ws[j]? = some p → Rb (60 ^ (36 * j)) (2 ^ (60 * j)) p) : Rb (60 ^ (36 * (n + 1))) (2 ^ (60 * (n + 1))) (subR (0, 1) (sumR (wterms sg ws (n + 1)))) := by
  have h := (rb_zero (60 ^ (36 * (n + 1)))).sub (rb_sumR (wterms_rb hs hw))
  rw [wterms_len] at h
  exact h.mono (Nat.dvd_refl _) (wpow hn)
theorem weightsF_rb {sg : List (Int × Int)} (hs : ∀ p ∈ sg, Rb (60 ^ 36) (2 ^ 48) p) (n : Nat) : n ≤ 6 → ∀ j p, (weightsF sg n)[j]? = some p → Rb (60 ^ (36 * j)) (2 ^ (60 * j)) p := by
  induction n with
  | zero =>
    intro _ j p hp
    cases j with
    | zero => cases hp; exact rb_one
    | succ j => cases hp
  | succ n ih =>
    intro hn j p hp
    have hl := weightsF_len (sg := sg) n
    have hw := wnext hs hn (ih (by omega))
    have hp : (weightsF sg n ++ [subR (0, 1) (sumR (wterms sg (weightsF sg n) (n + 1)))])[j]? = some p := hp
    generalize subR (0, 1) (sumR (wterms sg (weightsF sg n) (n + 1))) = z at *
    by_cases hj : j < n + 1
    · rw [List.getElem?_append_left (by omega)] at hp
      exact ih (by omega) j p hp
    · rw [List.getElem?_append_right (by omega)] at hp
      have ej : j = n + 1 := by
        have := (List.getElem?_eq_some_iff.mp hp).1
        simp only [List.length_singleton] at this
        omega
      subst ej
      rw [hl, Nat.sub_self] at hp
      have hz : z = p := Option.some.inj hp
      rw [← hz]
      exact hw
theorem w60 {j : Nat} (h : j ≤ 6) : 60 ^ (36 * j) < 2 ^ 2000 := Nat.lt_of_le_of_lt (Nat.pow_le_pow_right (by decide) (Nat.mul_le_mul_left _ h)) (by decide)
theorem w2 {j : Nat} (h : j ≤ 6) : 2 ^ (60 * j) ≤ 2 ^ 900 := Nat.pow_le_pow_right (by decide) (by omega)
theorem weightsF_bd {sg : List (Int × Int)} (hs : ∀ p ∈ sg, Rb (60 ^ 36) (2 ^ 48) p) {n : Nat} (hn : n ≤ 6) {j : Nat} {p : Int × Int} (h : (weightsF sg n)[j]? = some p) : bdR p := by
  have hj : j < n + 1 := by
    have := (List.getElem?_eq_some_iff.mp h).1
    rw [weightsF_len] at this
    exact this
  exact (weightsF_rb hs n hn j p h).bd (Nat.pow_pos (by decide)) (w60 (by omega)) (w2 (by omega))
theorem sgs_bd {D : PD} (ok : D.Ok) (n : Nat) : ∀ p ∈ D.sgs n, bdR p := fun p hp => (sgs_rb ok n p hp).bd (by decide) (by decide) (by decide)
theorem wterms_bd {sg : List (Int × Int)} (hs : ∀ p ∈ sg, Rb (60 ^ 36) (2 ^ 48) p) {n : Nat} (hn : n + 1 ≤ 6) : bdL addR (0, 1) (wterms sg (weightsF sg n) (n + 1)) := by
  refine bdl_sum (wterms_rb hs (weightsF_rb hs n (by omega))) (Nat.pow_pos (by decide)) (w60 hn) (Nat.pow_le_pow_right (by decide) (by omega)) ?_
  rw [wterms_len]
  have h1 : 2 ^ (60 * (n + 1 - 1) + 48) ≤ 2 ^ 400 := Nat.pow_le_pow_right (by decide) (by omega)
  exact Nat.le_trans (Nat.mul_le_mul hn h1) (by decide)
theorem wsum_bd {sg : List (Int × Int)} (hs : ∀ p ∈ sg, Rb (60 ^ 36) (2 ^ 48) p) {n : Nat} (hn : n + 1 ≤ 6) : bdR (sumR (wterms sg (weightsF sg n) (n + 1))) := by
  have h := (wterms_bd hs hn).2 (wterms sg (weightsF sg n) (n + 1)).length (Nat.le_refl _)
  rw [List.take_of_length_le (Nat.le_refl _)] at h
  exact h
theorem bd_01 : bdR (0, 1) := (rb_zero 1).bd (by decide) (by decide) (by decide)
theorem bd_11 : bdR (1, 1) := rb_one.bd (by decide) (by decide) (by decide)
end Rs
/-! text Rcat -/
set_option Elab.async false
set_option linter.all false
set_option maxRecDepth 100000
set_option maxHeartbeats 4000000
namespace Rs
open PySem PySem.Spec PyProof.Rows L2
/-- a list of our own making, wholly known -/
def rX {α : Type} (R : Rep α) : Rep (List α) := fun F v l => ∃ a xs, v = .ref a ∧ F a = some (.lst xs) ∧ All2 R F xs l
instance {α : Type} {R : Rep α} [Up R] : Up (rX R) := ⟨fun e ⟨a, xs, h1, h2, h3⟩ => ⟨a, xs, h1, e _ _ h2, h3.up e⟩⟩
theorem rX.l {α : Type} {K : PySem.W.Frag} {R : Rep α} {F : Hp} {v : V} {l : List α} (h : rX R F v l) : rL K R F v l := by
  obtain ⟨a, xs, rfl, h1, h2⟩ := h
  exact ⟨a, xs, rfl, SqL.of h1, h2⟩
theorem Acc.doneX {α : Type} {M : Addr → Prop} {R : Rep α} [Up R] {F H F1 H1 : Hp} {D : Addr} {l : List α} (a : Acc M R F H F1 H1 D l) : ∃ F2, Gr M F H F2 H1 ∧ Same F1 F2 ∧ rX R F2 (.ref D) l := by
  obtain ⟨acc, h1, h2⟩ := a.ex
  exact ⟨_, a.g.frz a.n a.n0 h1, upd_new a.n, D, acc, rfl, upd_same, h2.up (upd_new a.n)⟩
theorem lcWX {J : It} {n : Nat} {G : Hp → Prop} {Y : Nat → Hp → V → Hp → Prop} {α β : Type} {RA : Rep α} {R : Rep β} [Up R] {g : TG} {tt : TT} {te : TE} {vs : List Nat} {σ : L2.St} {F H : Hp} {Q : Addr → Hp → Prop} (w : Walk J n G Y) (src : List α) (f : α → β) (p : α → Bool)
    (e : Same F H) (hn : n = src.length) (hz : n ≤ 1000000) (hG : ∀ F1 H1, Pu F H F1 H1 → G H1)
    (hsrc : ∀ i x F1 H1 H2, i < n → Pu F H F1 H1 → Y i H1 x H2 → ∃ y F2, src[i]? = some y ∧ Pu F1 H1 F2 H2 ∧ RA F2 x y)
    (hs : ∀ y x F1 H1, y ∈ src → Pu F H F1 H1 → RA F1 x y → ∀ (Kt : V → Hp → Prop) (Kf : Hp → Prop), (p y = true → ∀ v F2 H2, Pu F1 H1 F2 H2 → R F2 v (f y) → Kt v H2) → (p y = false → ∀ F2 H2, Pu F1 H1 F2 H2 → Kf H2) →
      g x (wipe σ vs) H1 fun σ2 H2 => wipe σ2 vs = wipe σ vs ∧ tt σ2 H2 fun b H3 => if b = true then te σ2 H3 Kt else Kf H3)
    (hd : ∀ D F' H', Pu F H F' H' → rX R F' (.ref D) ((src.filter p).map f) → Q D H') :
    ∀ D, H D = none → ∃ W : Nat → Nat → Hp → Prop, (∃ m, W 0 m (upd H D (.lst []))) ∧ ∀ i m H, W i m H →
      (J.stop i H ∧ Q D H) ∨ (J.go i H ∧ ∃ Nx : Hp → Prop, (∀ H', Nx H' → ∃ m', m' < m ∧ W (i + 1) m' H') ∧ ∀ x H', J.yld i H x H' → g x (wipe σ vs) H' fun σ2 H2 => wipe σ2 vs = wipe σ vs ∧ tt σ2 H2 fun b H3 =>
        if b = true then te σ2 H3 fun y H4 => ∃ acc, H4 D = some (.lst acc) ∧ acc.length < sizeLine ∧ Nx (upd H4 D (.lst (acc ++ [y]))) else Nx H3) := by
  intro D hD
  refine lc_it w (fun i H' => ∃ F', Acc NoM R F H F' H' D (((src.take i).filter p).map f)) ⟨F, Acc.begin e hD⟩ (fun i H' _ ⟨F', a⟩ => hG F' H' a.g) ?_ ?_
  · rintro i x H1 H2 hi ⟨F1, a⟩ y
    obtain ⟨z, F2, hz1, g1, rz⟩ := hsrc i x F1 H1 H2 hi a.g y
    have a2 := a.up g1 (fun z => z)
    refine hs z x F2 H2 (List.mem_of_getElem? hz1) a2.g rz _ _ (fun hp v F3 H3 g2 hv => ?_) (fun hp F3 H3 g2 => ?_)
    · obtain ⟨acc, h1, h2, h3⟩ := (a2.up g2 (fun z => z)).push hv
      refine ⟨acc, h1, ?_, F3, ?_⟩
      · rw [h2, List.length_map]
        refine lt_line (Nat.le_trans (List.length_filter_le _ _) ?_)
        rw [List.length_take]
        omega
      · rw [List.take_succ, hz1, List.filter_append, List.map_append]
        have e1 : (List.filter p (some z).toList).map f = [f z] := by
          show (List.filter p [z]).map f = [f z]
          rw [List.filter_cons, if_pos hp]
          rfl
        rw [e1]
        exact h3
    · refine ⟨F3, ?_⟩
      rw [List.take_succ, hz1, List.filter_append, List.map_append]
      have e1 : (List.filter p (some z).toList).map f = [] := by
        show (List.filter p [z]).map f = []
        rw [List.filter_cons, if_neg (by rw [hp]; exact Bool.false_ne_true)]
        rfl
      rw [e1, List.append_nil]
      exact a2.up g2 (fun z => z)
  · rintro H' ⟨F', a⟩
    obtain ⟨F2, g2, _, h2⟩ := a.doneX
    rw [List.take_of_length_le (by omega)] at h2
    exact hd D F2 H' g2 h2
theorem lcLX {K : PySem.W.Frag} {α β : Type} {RA : Rep α} [Up RA] {R : Rep β} [Up R] {g : TG} {tt : TT} {te : TE} {vs : List Nat} {σ : L2.St} {F H : Hp} {Q : Addr → Hp → Prop} {a : Addr} {xs : List V} {l : List α} (f : α → β) (p : α → Bool)
    (e : Same F H) (hx : SqL K F a xs) (hl : All2 RA F xs l) (hz : l.length ≤ 1000000)
    (hs : ∀ y x F1 H1, y ∈ l → Pu F H F1 H1 → RA F1 x y → ∀ (Kt : V → Hp → Prop) (Kf : Hp → Prop), (p y = true → ∀ v F2 H2, Pu F1 H1 F2 H2 → R F2 v (f y) → Kt v H2) → (p y = false → ∀ F2 H2, Pu F1 H1 F2 H2 → Kf H2) →
      g x (wipe σ vs) H1 fun σ2 H2 => wipe σ2 vs = wipe σ vs ∧ tt σ2 H2 fun b H3 => if b = true then te σ2 H3 Kt else Kf H3)
    (hd : ∀ D F' H', Pu F H F' H' → rX R F' (.ref D) ((l.filter p).map f) → Q D H') :
    ∀ D, H D = none → ∃ W : Nat → Nat → Hp → Prop, (∃ m, W 0 m (upd H D (.lst []))) ∧ ∀ i m H, W i m H →
      ((Itl K a).stop i H ∧ Q D H) ∨ ((Itl K a).go i H ∧ ∃ Nx : Hp → Prop, (∀ H', Nx H' → ∃ m', m' < m ∧ W (i + 1) m' H') ∧ ∀ x H', (Itl K a).yld i H x H' → g x (wipe σ vs) H' fun σ2 H2 => wipe σ2 vs = wipe σ vs ∧ tt σ2 H2 fun b H3 =>
        if b = true then te σ2 H3 fun y H4 => ∃ acc, H4 D = some (.lst acc) ∧ acc.length < sizeLine ∧ Nx (upd H4 D (.lst (acc ++ [y]))) else Nx H3) :=
  lcWX (walk_list (K := K) (a := a) (xs := xs)) l f p e hl.length (by rw [hl.length]; exact hz) (fun F1 H1 g => sql_s g.fh (sql_s g.f hx))
    (fun i x F1 H1 H2 hi g ⟨e2, hx2⟩ => by
      obtain ⟨y, h1, h2⟩ := hl.get hx2
      subst e2
      exact ⟨y, F1, h1, Gr.refl g.fh, Up.up g.x h2⟩) hs hd
theorem lcTX {K : PySem.W.Frag} {α β : Type} {RA : Rep α} [Up RA] {R : Rep β} [Up R] {g : TG} {tt : TT} {te : TE} {vs : List Nat} {σ : L2.St} {F H : Hp} {Q : Addr → Hp → Prop} {a : Addr} {xs : List V} {l : List α} (f : α → β) (p : α → Bool)
    (e : Same F H) (hx : SqT K F a xs) (hl : All2 RA F xs l) (hz : l.length ≤ 1000000)
    (hs : ∀ y x F1 H1, y ∈ l → Pu F H F1 H1 → RA F1 x y → ∀ (Kt : V → Hp → Prop) (Kf : Hp → Prop), (p y = true → ∀ v F2 H2, Pu F1 H1 F2 H2 → R F2 v (f y) → Kt v H2) → (p y = false → ∀ F2 H2, Pu F1 H1 F2 H2 → Kf H2) →
      g x (wipe σ vs) H1 fun σ2 H2 => wipe σ2 vs = wipe σ vs ∧ tt σ2 H2 fun b H3 => if b = true then te σ2 H3 Kt else Kf H3)
    (hd : ∀ D F' H', Pu F H F' H' → rX R F' (.ref D) ((l.filter p).map f) → Q D H') :
    ∀ D, H D = none → ∃ W : Nat → Nat → Hp → Prop, (∃ m, W 0 m (upd H D (.lst []))) ∧ ∀ i m H, W i m H →
      ((Itt K a).stop i H ∧ Q D H) ∨ ((Itt K a).go i H ∧ ∃ Nx : Hp → Prop, (∀ H', Nx H' → ∃ m', m' < m ∧ W (i + 1) m' H') ∧ ∀ x H', (Itt K a).yld i H x H' → g x (wipe σ vs) H' fun σ2 H2 => wipe σ2 vs = wipe σ vs ∧ tt σ2 H2 fun b H3 =>
        if b = true then te σ2 H3 fun y H4 => ∃ acc, H4 D = some (.lst acc) ∧ acc.length < sizeLine ∧ Nx (upd H4 D (.lst (acc ++ [y]))) else Nx H3) :=
  lcWX (walk_tup (K := K) (a := a) (xs := xs)) l f p e hl.length (by rw [hl.length]; exact hz) (fun F1 H1 g => sqt_s g.fh (sqt_s g.f hx))
    (fun i x F1 H1 H2 hi g ⟨e2, hx2⟩ => by
      obtain ⟨y, h1, h2⟩ := hl.get hx2
      subst e2
      exact ⟨y, F1, h1, Gr.refl g.fh, Up.up g.x h2⟩) hs hd
theorem lcRX {β : Type} {R : Rep β} [Up R] {g : TG} {tt : TT} {te : TE} {vs : List Nat} {σ : L2.St} {F H : Hp} {Q : Addr → Hp → Prop} {lo : Int} {n : Nat} (f : Nat → β) (p : Nat → Bool)
    (e : Same F H) (hz : n ≤ 1000000)
    (hs : ∀ y F1 H1, y < n → Pu F H F1 H1 → ∀ (Kt : V → Hp → Prop) (Kf : Hp → Prop), (p y = true → ∀ v F2 H2, Pu F1 H1 F2 H2 → R F2 v (f y) → Kt v H2) → (p y = false → ∀ F2 H2, Pu F1 H1 F2 H2 → Kf H2) →
      g (.int (lo + (y : Int))) (wipe σ vs) H1 fun σ2 H2 => wipe σ2 vs = wipe σ vs ∧ tt σ2 H2 fun b H3 => if b = true then te σ2 H3 Kt else Kf H3)
    (hd : ∀ D F' H', Pu F H F' H' → rX R F' (.ref D) (((List.range n).filter p).map f) → Q D H') :
    ∀ D, H D = none → ∃ W : Nat → Nat → Hp → Prop, (∃ m, W 0 m (upd H D (.lst []))) ∧ ∀ i m H, W i m H →
      ((Itr lo n).stop i H ∧ Q D H) ∨ ((Itr lo n).go i H ∧ ∃ Nx : Hp → Prop, (∀ H', Nx H' → ∃ m', m' < m ∧ W (i + 1) m' H') ∧ ∀ x H', (Itr lo n).yld i H x H' → g x (wipe σ vs) H' fun σ2 H2 => wipe σ2 vs = wipe σ vs ∧ tt σ2 H2 fun b H3 =>
        if b = true then te σ2 H3 fun y H4 => ∃ acc, H4 D = some (.lst acc) ∧ acc.length < sizeLine ∧ Nx (upd H4 D (.lst (acc ++ [y]))) else Nx H3) :=
  lcWX (RA := fun _ v (i : Nat) => v = .int (lo + (i : Int)) ∧ i < n) (walk_range (lo := lo) (n := n)) (List.range n) f p e (by simp) hz (fun F1 H1 g => trivial)
    (fun i x F1 H1 H2 hi g ⟨e2, hx2⟩ => by
      subst e2
      exact ⟨i, F1, by simp [hi], Gr.refl g.fh, hx2, hi⟩) (fun y x F1 H1 hy g ⟨hx, hi⟩ => by rw [hx]; exact hs y F1 H1 hi g) hd
end Rs
/-! text R23 -/
set_option Elab.async false
set_option linter.all false
set_option maxRecDepth 100000
set_option maxHeartbeats 4000000
set_option exponentiation.threshold 20000
namespace Rs
open PySem PySem.Spec PyProof.Rows L2
def sp_signed_probability (K : PySem.W.Frag) : Sp := fun vs H Q _ => match vs with
  | [v, u] => ∃ F D g, Same F H ∧ rPl K F v D ∧ rU K rS F u g ∧ okG D.names g ∧ (∀ v F' H', Pu F H F' H' → rR K F' v (D.spr g) → Q v H')
  | _ => False
theorem sc_signed_probability : FnScope ["problem", "group", "name"] ["problem", "group"] (defScope s_signed_probability) := C8.fnScope_by (by decide +kernel)
theorem c_signed_probability {P : Program} {w : World} {K : PySem.W.Frag} {mg : Str → Option Value} {base hp : Heap} (T : Tx K mg hp) : C8.Cal P w K mg base 6 "signed_probability" (sp_signed_probability K) [] := by
  obtain ⟨fd, F⟩ := T.fd_signed_probability
  refine mkCal T.gl_signed_probability F sc_signed_probability (fun _ _ _ _ _ _ us hl => match us, hl with | [_, _], _ => rfl) (fun vs H Q E h => by unfold sp_signed_probability at h; split at h <;> first | rfl | exact h.elim) (fun cdv A outer s H vs Q E hr h => ?_)
  have nd := sc_signed_probability.nd
  have hu := hu_of hr
  unfold sp_signed_probability at h
  split at h
  case h_2 => exact h.elim
  obtain ⟨F, D, g, e, hP, hg, okg, k⟩ := h
  obtain ⟨p, dx, d1, d2, d3, rfl, h⟩ := id hP
  obtain ⟨ca, us, rfl, hca, hcu⟩ := hg
  rw [all2_str hcu] at hca
  refine ⟨_, (pss_one (ps_ret (C8.pe_c (c_ratio_product T) hr (by decide) (by rfl) (pa_cons (pe_op op_cat (pe_lst (pa_cons (C8.pe_mk (c_Ratio1 T) hr (by decide) (by rfl) (pa_cons (C8.pe_c (c_event_sign T) hr (by decide) (by rfl) (pa_cons (pv 1) pa_nil)) pa_nil)) pa_nil)) (pe_lc (own := [("name", 2)]) (g := (gName 2)) rfl nd (pi_tup (pv 1)) (blkOk_by (own := [("name", 2)]) (N := ["problem", "group", "name"]) (sc := defScope s_signed_probability) (by decide +kernel)) (fun _ _ _ _ _ => (pg_name (i := 2) nd rfl (Or.inl rfl))) (fun _ _ _ _ _ => pts_nil) (fun _ _ _ _ _ => (C8.pe_mt (c_Problem_probability T) hr (by decide) (pv 0) (pa_cons (pv 2) pa_nil))))) pa_nil)))), ?_⟩
  have l8 := g8 h.ok okg
  refine ⟨_, rfl, ca, g, rfl, sqt_s e hca, fun x dz nx nz ne => ⟨x, dz, _, _, rfl, rfl, rfl, upd_same, by decide, (by show 1 < 2 ^ 8000; exact Nat.one_lt_two_pow (by decide)), fun H' e' => ⟨rfl, ?_⟩⟩⟩
  subst e'
  have g1 : Pu F H _ _ := Gr.made (o0 := .ins (a_Ratio K) dz []) (o := .ins (a_Ratio K) dz (rfs (nrm (sgn g.length) 1))) e nx nz ne
  refine ⟨le_line (by show 1 ≤ 1000000; omega), fun l1 nl1 => ?_⟩
  have g2 : Pu _ _ _ (upd _ l1 (.lst [.ref x])) := Gr.newm g1.fh nl1
  have m2 := Mt.new (o := .lst [.ref x]) g1.fh nl1
  have g12 := g1.trans g2
  refine ⟨_, rfl, ca, rfl, ⟨_, sqt_s g12.fh (sqt_s g12.f hca)⟩, ?_⟩
  refine lcTX (K := K) (RA := rS) (R := rR K) (f := D.prob) (p := fun _ => true) g12.fh (sqt_s g12.f hca) (str_all2 _) (by omega) (fun y v F2 H2 hy g3 hv Kt Kf k1 k2 => ?_) (fun L F3 H3 g3 hL => ?_)
  · cases hv
    have hyn := okg.1 y hy
    have g13 := g12.trans g3
    refine ⟨rfl, _, rfl, p, dx, _, rfl, (h.up (.of g13.f)).h g13.fh, pfsn (by decide +kernel), _, rfl, F2, D, y, _, _, g13.fh, Up.up g13.f hP, rfl, sc_of hyn, ts_of hyn, fun v F3 H3 g4 hv => k1 rfl _ _ _ g4 hv⟩
  · rw [ptrue] at hL
    obtain ⟨q, xs, eq, hq, hxs⟩ := hL
    cases eq
    have m3 := m2.pu g3
    have hll := hxs.length
    rw [List.length_map] at hll
    refine ⟨l1, L, _, _, rfl, rfl, m3.h, g3.fh _ _ hq, le_line (by show 1 + _ ≤ _; omega), fun z nz => ?_⟩
    have g13 := g12.trans g3
    have g4 : Pu F3 H3 (upd F3 z (.lst ([.ref x] ++ xs))) (upd H3 z (.lst ([.ref x] ++ xs))) := Gr.new g13.fh nz
    refine ⟨_, D.sprL g, g4.fh, ⟨z, _, rfl, SqL.of upd_same, ?_⟩, sprL_bd h.ok okg, fun v F' H' g5 hv => k _ _ _ ((g13.trans g4).trans g5) hv⟩
    refine Paired.cons ⟨x, dz, rfl, ?_⟩ (hxs.up g4.f)
    exact g4.f _ _ (g3.f _ _ (made_at (o := .ins (a_Ratio K) dz (rfs (nrm (sgn g.length) 1)))))
def sp_weights_by_size (K : PySem.W.Frag) : Sp := fun vs H Q _ => match vs with
  | [v, u] => ∃ F D, u = .int 6 ∧ Same F H ∧ rP K F v D ∧ (∀ v F' H', Pu F H F' H' → rL K (rR K) F' v D.weights → Q v H')
  | _ => False
end Rs
/-! text R24 -/
set_option Elab.async false
set_option linter.all false
set_option maxRecDepth 100000
set_option maxHeartbeats 4000000
set_option exponentiation.threshold 20000
namespace Rs
open PySem PySem.Spec PyProof.Rows L2
theorem sgs_succ (D : PD) (i : Nat) : D.sgs (i + 1) = D.sgs i ++ [sumR (D.sgl (i + 1))] := by
  unfold PD.sgs
  rw [List.range_succ, List.map_append]
  rfl
theorem sgs_len (D : PD) (n : Nat) : (D.sgs n).length = n := by unfold PD.sgs; rw [List.length_map, List.length_range]
theorem sc_weights_by_size : FnScope ["problem", "up_to", "groups", "signed", "size", "weights", "total", "k", "group"] ["problem", "up_to"] (defScope s_weights_by_size) := C8.fnScope_by (by decide +kernel)
theorem ck_weights_by_size {P : Program} {w : World} {K : PySem.W.Frag} {mg : Str → Option Value} {base hp : Heap} (T : Tx K mg hp) : CalK P w K mg base 7 1 ["up_to"] "weights_by_size" (sp_weights_by_size K) := by
  obtain ⟨fd, F⟩ := T.fd_weights_by_size
  obtain ⟨mv, KB⟩ := F.kbinds0 (ps := ["problem", "up_to"]) 1 ["up_to"] [] (fun us _ ws => us ++ ws) (by simp) (fun q hq => by cases hq) (fun r1 _ r2 => r1.append r2) (fun D doc pm an cdv ct us mv ws hu hm hw => match us, ws, hu, hw with | [_], [_], _, _ => rfl)
  refine ⟨_, fd, _, fnok_of F sc_weights_by_size (fun vs H Q E h => by unfold sp_weights_by_size at h; split at h <;> first | rfl | exact h.elim) (fun cdv A outer s H vs Q E hr h => ?_), T.gl_weights_by_size, F.kp, KB⟩
  have nd := sc_weights_by_size.nd
  have hu := hu_of hr
  unfold sp_weights_by_size at h
  split at h
  case h_2 => exact h.elim
  obtain ⟨F, D, rfl, e, hP, k⟩ := h
  obtain ⟨p, dx, d1, d2, d3, rfl, h, _⟩ := id hP
  refine ⟨_, (pss_cons (ps_expr (C8.pe_c (c_need_problem T) hr (by decide) (by rfl) (pa_cons (pv 0) pa_nil)))
      (pss_cons (ps_expr (C8.pe_c (c_need_size T) hr (by decide) (by rfl) (pa_cons (pv 1) pa_nil)))
      (pss_cons (ps_set (i := 2) nd rfl (Or.inl rfl) (C8.pe_c (c_independent_sets T) hr (by decide) (by rfl) (pa_cons (pv 0) pa_nil)))
      (pss_cons (ps_set (i := 3) nd rfl (Or.inr rfl) (pe_lst pa_nil))
      (pss_cons (ps_for PassesOwn.never rfl (pi_range2 (by rfl) T.fr_range (pa_cons pe_int (pa_cons (pe_op op_add (pv 1) pe_int) pa_nil))) (pg_name (i := 4) nd rfl (Or.inr rfl)) (pss_one (ps_expr (pe_bm PySem.F.plainAttrs_list PySem.F.slot_list_append PySem.F.type_list_append mt_append (pv 3) (pa_cons (C8.pe_c (c_ratio_sum T) hr (by decide) (by rfl) (pa_cons (pe_lc (own := [("group", 8)]) (g := (gName 8)) rfl nd (pi_list (pv 2)) (blkOk_by (own := [("group", 8)]) (N := ["problem", "up_to", "groups", "signed", "size", "weights", "total", "k", "group"]) (sc := defScope s_weights_by_size) (by decide +kernel)) (fun _ _ _ _ _ => (pg_name (i := 8) nd rfl (Or.inl rfl))) (fun _ _ _ _ _ => (pts_one (pt_cmpR op_eq (pe_callB (call_len_seqK (K := K) rfl) (by rfl) T.fr_len (by decide +kernel) (pa_cons (pv 8) pa_nil)) (pv 4) (nomark _)))) (fun _ _ _ _ _ => (C8.pe_c (c_signed_probability T) hr (by decide) (by rfl) (pa_cons (pv 0) (pa_cons (pv 8) pa_nil))))) pa_nil)) pa_nil)))))
      (pss_cons (ps_set (i := 5) nd rfl (Or.inr rfl) (pe_lst (pa_cons (C8.pe_mk (c_Ratio1 T) hr (by decide) (by rfl) (pa_cons pe_int pa_nil)) pa_nil)))
      (pss_cons (ps_for PassesOwn.never rfl (pi_range2 (by rfl) T.fr_range (pa_cons pe_int (pa_cons (pe_op op_add (pv 1) pe_int) pa_nil))) (pg_name (i := 4) nd rfl (Or.inr rfl)) (pss_cons (ps_set (i := 6) nd rfl (Or.inl rfl) (C8.pe_c (c_ratio_sum T) hr (by decide) (by rfl) (pa_cons (pe_lc (own := [("k", 7)]) (g := (gName 7)) rfl nd (pi_range2 (by rfl) T.fr_range (pa_cons pe_int (pa_cons (pe_op op_add (pv 4) pe_int) pa_nil))) (blkOk_by (own := [("k", 7)]) (N := ["problem", "up_to", "groups", "signed", "size", "weights", "total", "k", "group"]) (sc := defScope s_weights_by_size) (by decide +kernel)) (fun _ _ _ _ _ => (pg_name (i := 7) nd rfl (Or.inl rfl))) (fun _ _ _ _ _ => pts_nil) (fun _ _ _ _ _ => (C8.pe_mt (c_Ratio_multiply T) hr (by decide) (pe_ix (ix_listK (K := K) rfl) (pv 3) (pe_op op_sub (pv 7) pe_int) (fun _ _ => rfl)) (pa_cons (pe_ix (ix_listK (K := K) rfl) (pv 5) (pe_op op_sub (pv 4) (pv 7)) (fun _ _ => rfl)) pa_nil)))) pa_nil)))
      (pss_one (ps_expr (pe_bm PySem.F.plainAttrs_list PySem.F.slot_list_append PySem.F.type_list_append mt_append (pv 5) (pa_cons (C8.pe_mt (c_Ratio_subtract T) hr (by decide) (C8.pe_mk (c_Ratio1 T) hr (by decide) (by rfl) (pa_cons pe_int pa_nil)) (pa_cons (pv 6) pa_nil)) pa_nil))))))
      (pss_one (ps_ret (pv 5)))))))))), ?_⟩
  obtain ⟨hgs, hgl⟩ := ind_ok h.ok
  refine ⟨_, rfl, D, Up.up e hP.w, _, rfl, 6, rfl, by decide, by decide, ?_⟩
  refine ⟨_, rfl, F, D, e, hP, fun v F1 H1 g1 hv => ?_⟩
  obtain ⟨ga, gx, rfl, hga, hgx⟩ := hv
  refine ⟨Nat.zero_le _, fun sa nsa => ?_⟩
  have g2 : Pu F1 H1 F1 (upd H1 sa (.lst [])) := Gr.newm g1.fh nsa
  have m2 := Mt.new (o := .lst []) g1.fh nsa
  have g12 := g1.trans g2
  have n0 : H sa = none := g1.dom _ nsa
  refine ⟨_, rfl, _, _, rfl, rfl, _, _, rfl, ⟨by decide, by decide, by decide, by decide⟩, ?_⟩
  refine for_range (lo := 1) (n := 6) (fun i σ H2 => ∃ F2 w4 xs, σ = [some (.ref p), some (.int 6), some (.ref ga), some (.ref sa), w4, none, none, none, none] ∧ Pu F H F2 H2 ∧ Gr (fun b => b = sa) F1 H1 F2 H2 ∧ Mt F2 H2 sa (.lst xs) ∧ All2 (rR K) F2 xs (D.sgs i)) ⟨F1, _, [], rfl, g12, g2.pu, m2, Paired.nil⟩ ?_ ?_
  · rintro i σ H2 hi ⟨F2, w4, xs, rfl, gC, gD, mC, hxs⟩
    refine ⟨_, rfl, .inl ⟨rfl, _, SqL.of mC.h⟩, _, rfl, ga, rfl, ⟨_, sql_s gD.fh (sql_s gD.f hga)⟩, ?_⟩
    refine lcL (K := K) (RA := rU K rS) (R := rR K) (f := D.spr) (p := fun g => decide (g.length = i + 1)) gC.fh (sql_s gD.f hga) (hgx.up gD.f) (by omega) (fun y v F3 H3 hy g3 hv Kt Kf k1 k2 => ?_) (fun L F3 H3 g3 hL => ?_)
    · have okg := hgs y hy
      obtain ⟨ca, us, rfl, hca, hcu⟩ := id hv
      have gg := gC.trans g3
      refine ⟨rfl, _, rfl, ca, _, rfl, .inr (sqt_s gg.fh hca), ?_⟩
      refine ⟨_, rfl, rfl, _, rfl, ?_⟩
      by_cases hl : y.length = i + 1
      · rw [decide_eq_true (show V.int ((us.length : Nat) : Int) = V.int (1 + (i : Int)) by rw [hcu.length, hl]; congr 1; omega)]
        exact iteT ⟨_, rfl, _, rfl, F3, D, y, gg.fh, Up.up gg.f hP.w, hv, okg, fun v F' H' g4 hv => k1 (decide_eq_true hl) _ _ _ g4 hv⟩
      · rw [decide_eq_false (show ¬ V.int ((us.length : Nat) : Int) = V.int (1 + (i : Int)) from fun z => hl (by have := V.int.inj z; rw [hcu.length] at this; omega))]
        exact iteF (k2 (decide_eq_false hl) _ _ (Gr.refl gg.fh))
    · have gCC := gC.trans g3
      have m3 := mC.pu g3
      refine ⟨_, D.sgl (i + 1), rfl, gCC.fh, hL, sgl_bd h.ok _, fun v F' H' g4 hv => ?_⟩
      have m4 := m3.pu g4
      have hxl := hxs.length
      rw [sgs_len] at hxl
      refine ⟨sa, _, _, rfl, rfl, m4.h, lt_line (by omega), ?_⟩
      refine ⟨_, some (.int (1 + (i : Int))), xs ++ [v], rfl, (gCC.trans g4).mut m4.n n0, ((gD.trans g3.pu).trans g4.pu).set m4.n rfl, m4.set, ?_⟩
      rw [sgs_succ]
      exact ((hxs.up g3.f).up g4.f).append (Paired.cons hv Paired.nil)
  · rintro σ H2 ⟨F2, w4, xs, rfl, gC, gD, mC, hxs⟩
    have gE := gC.frz mC.n n0 mC.h
    have hxs := hxs.up (upd_new (o := .lst xs) mC.n)
    have hsa : SqL K (upd F2 sa (.lst xs)) sa xs := SqL.of upd_same
    have hxl := hxs.length
    rw [sgs_len] at hxl
    generalize upd F2 sa (.lst xs) = FE at *
    refine fun x dz nx nz ne => ⟨x, dz, _, _, rfl, rfl, rfl, upd_same, by decide, (by show 1 < 2 ^ 8000; exact Nat.one_lt_two_pow (by decide)), fun H' e' => ⟨rfl, ?_⟩⟩
    subst e'
    have g3 : Pu FE H2 _ _ := Gr.made (o0 := .ins (a_Ratio K) dz []) (o := .ins (a_Ratio K) dz (rfs (nrm 1 1))) gE.fh nx nz ne
    have hx1 : rR K _ (.ref x) (1, 1) := ⟨x, dz, rfl, (made_at (F := FE) (x := x) (dx := dz) (o := .ins (a_Ratio K) dz (rfs (nrm 1 1)))).trans (by rw [nrm_11])⟩
    refine ⟨le_line (by show 1 ≤ 1000000; omega), fun wa nwa => ?_⟩
    have g4 : Pu _ _ _ (upd _ wa (.lst [.ref x])) := Gr.newm g3.fh nwa
    have m4 := Mt.new (o := .lst [.ref x]) g3.fh nwa
    have gE4 := (gE.trans g3).trans g4
    have nw0 : H wa = none := (gE.trans g3).dom _ nwa
    have g34 := g3.trans g4
    have hws := sgs_rb h.ok 6
    refine ⟨_, rfl, _, _, rfl, rfl, _, _, rfl, ⟨by decide, by decide, by decide, by decide⟩, ?_⟩
    refine for_range (lo := 1) (n := 6) (fun i σ H3 => ∃ F3 w4 w6 ys, σ = [some (.ref p), some (.int 6), some (.ref ga), some (.ref sa), w4, some (.ref wa), w6, none, none] ∧ Pu F H F3 H3 ∧ Gr (fun b => b = wa) FE H2 F3 H3 ∧ Mt F3 H3 wa (.lst ys) ∧ All2 (rR K) F3 ys (weightsF (D.sgs 6) i)) ⟨_, _, _, _, rfl, gE4, g34.pu, m4, Paired.cons hx1 Paired.nil⟩ ?_ ?_
    · rintro i σ H3 hi ⟨F3, w4, w6, ys, rfl, gF, gG, mF, hys⟩
      have hyl := hys.length
      rw [weightsF_len] at hyl
      refine ⟨_, rfl, _, _, rfl, rfl, _, _, rfl, ⟨by decide, by decide, by omega, by omega⟩, ?_⟩
      rw [show ((1 + (i : Int)) + 1 - 1).toNat = i + 1 by omega]
      refine lcR (K := K) (R := rR K) (f := wterm (D.sgs 6) (weightsF (D.sgs 6) i) (i + 1)) (p := fun _ => true) gF.fh (by omega) (fun y F4 H4 hy g5 Kt Kf k1 k2 => ?_) (fun L F4 H4 g5 hL => ?_)
      · have m5 := mF.pu g5
        have hsl : y < (D.sgs 6).length := by rw [sgs_len]; omega
        have hwl : i + 1 - (y + 1) < (weightsF (D.sgs 6) i).length := by rw [weightsF_len]; omega
        obtain ⟨sv, hsv, rsv⟩ := (hxs.up gG.f).tog (List.getElem?_eq_getElem hsl)
        obtain ⟨wv, hwv, rwv⟩ := hys.tog (List.getElem?_eq_getElem hwl)
        have rsv := Up.up g5.f rsv
        have rwv := Up.up g5.f rwv
        obtain ⟨sq, sd, rfl, hsq⟩ := id rsv
        have esv : ((D.sgs 6)[y]?).getD (0, 1) = (D.sgs 6)[y] := by rw [List.getElem?_eq_getElem hsl]; rfl
        have ewv : ((weightsF (D.sgs 6) i)[i + 1 - (y + 1)]?).getD (0, 1) = (weightsF (D.sgs 6) i)[i + 1 - (y + 1)] := by rw [List.getElem?_eq_getElem hwl]; rfl
        refine ⟨rfl, _, rfl, _, rfl, _, _, rfl, rfl, sa, _, _, .ref sq, rfl, rfl, sql_s g5.fh (sql_s g5.f (sql_s gG.f hsa)), ?_, ?_⟩
        · rw [show (1 + (y : Int)) - 1 = ((y : Nat) : Int) by omega]
          exact atI_nat hsv
        refine ⟨sq, sd, _, rfl, g5.fh _ _ hsq, rno no_mul, _, rfl, _, rfl, _, rfl, _, _, rfl, rfl, wa, _, _, wv, rfl, rfl, SqL.of m5.h, ?_, ?_⟩
        · rw [show ((1 + (i : Int)) - (1 + (y : Int))) = ((i + 1 - (y + 1) : Nat) : Int) by omega]
          exact atI_nat hwv
        refine ⟨F4, _, _, g5.fh, rsv, rwv, sgs_bd h.ok 6 _ (List.getElem_mem hsl), weightsF_bd hws (by omega) (List.getElem?_eq_getElem hwl), fun v F' H' g6 hv => ?_⟩
        refine k1 rfl _ _ _ g6 ?_
        unfold wterm
        rw [esv, ewv]
        exact hv
      · rw [ptrue] at hL
        have gCC := gF.trans g5
        have m5 := mF.pu g5
        refine ⟨_, wterms (D.sgs 6) (weightsF (D.sgs 6) i) (i + 1), rfl, gCC.fh, hL, wterms_bd hws (by omega), fun v F' H' g6 hv => ?_⟩
        have m6 := m5.pu g6
        have g56 := g5.trans g6
        have gC6 := gCC.trans g6
        refine ⟨_, rfl, .inl ⟨rfl, _, SqL.of m6.h⟩, ?_⟩
        refine fun x2 dz2 nx2 nz2 ne2 => ⟨x2, dz2, _, _, rfl, rfl, rfl, upd_same, by decide, (by show 1 < 2 ^ 8000; exact Nat.one_lt_two_pow (by decide)), fun H'' e'' => ⟨rfl, ?_⟩⟩
        subst e''
        have g7 : Pu F' H' _ _ := Gr.made (o0 := .ins (a_Ratio K) dz2 []) (o := .ins (a_Ratio K) dz2 (rfs (nrm 0 1))) g6.fh nx2 nz2 ne2
        have hx2 : rR K _ (.ref x2) (0, 1) := ⟨x2, dz2, rfl, (made_at (F := F') (x := x2) (dx := dz2) (o := .ins (a_Ratio K) dz2 (rfs (nrm 0 1)))).trans (by rw [nrm_01])⟩
        have m7 := m6.pu g7
        obtain ⟨x3, dz3, e3, hx3⟩ := id hx2
        cases e3
        refine ⟨x2, dz3, _, rfl, g7.fh _ _ hx3, rno no_sub, _, rfl, _, _, _, g7.fh, hx2, Up.up g7.f hv, bd_01, wsum_bd hws (by omega), fun v' F8 H8 g8 hv' => ?_⟩
        have m8 := m7.pu g8
        have g678 := g56.trans (g7.trans g8)
        refine ⟨wa, _, _, rfl, rfl, m8.h, lt_line (by omega), ?_⟩
        refine ⟨_, some (.int (1 + (i : Int))), some v, ys ++ [v'], rfl, (gF.trans g678).mut m8.n nw0, (gG.trans g678.pu).set m8.n rfl, m8.set, ?_⟩
        exact (hys.up g678.f).append (Paired.cons hv' Paired.nil)
    · rintro σ H3 ⟨F3, w4, w6, ys, rfl, gF, gG, mF, hys⟩
      refine ⟨_, rfl, ?_⟩
      have gE := gF.frz mF.n nw0 mF.h
      exact k _ _ _ gE ⟨wa, ys, rfl, SqL.of upd_same, hys.up (upd_new mF.n)⟩
end Rs
/-! text Rlam -/
set_option Elab.async false
set_option linter.all false
set_option maxRecDepth 100000
set_option maxHeartbeats 4000000
namespace Rs
open PySem PySem.Spec PyProof.Rows L2 LamX
/-- one parameter x; captured names and globals else -/
structure LamS1 (sc scope : Scope) (x : Str) : Prop where
  kind : scope.kind = .function
  co : scope.isCoroutine = false
  gen : scope.isGenerator = false
  own : ∀ y ∈ scope.names, y.2 ≠ .cell ∧ (y.2 = .local → y.1 = x)
  par : scope.names.lookup x = some .local
  free : ∀ y ∈ scope.names, y.2 = .free → sc.names.lookup y.1 = some .cell ∨ sc.names.lookup y.1 = some .free
theorem LamS1.has {X : Cx} {scope : Scope} {x : Str} (L : LamS1 X.env.scope scope x) (ok : X.Ok) : ∀ y ∈ scope.names, y.2 = .free → ∃ c, X.env.cells.lookup y.1 = some c := fun y hy e => by
  rcases L.free y hy e with k | k
  · exact ok.has _ (.inl k)
  · exact ok.has _ (.inr k)
abbrev lamCx1 (X : Cx) (A : Around) (outer : List Env) (s : Shared) (H : Hp) (E : XK) (scope : Scope) (f c' : Addr) (x : Str) : Cx := { lamCx X A outer s H E scope f c' with N := X.N ++ [x] }
section
variable {X : Cx} {pins : List (Addr × Obj)} {σ : L2.St} {H : Hp} {s : Shared}
theorem lam_start1 {A : Around} {E : XK} {scope : Scope} {f c' : Addr} {h₁ : Heap} {tk : Nat} {x : Str} {v : V} {u : Value} (I : Inv X pins σ H s) (L : LamS1 X.env.scope scope x) (hx : x ∉ X.N) (e0 : Env0 X.prog X.w X.K X.mg X.base A X.stack s H) (hd : A.handled = none) (rv : RelV v u)
    (hns : h₁.Ns s.heap.objs.size fun y => ([(x, u)] : List (Str × Value)).reverse.lookup y) (kp : ∀ b o, s.heap.get? b = some o → h₁.get? b = some o) :
    Inv (lamCx1 X A X.stack s H E scope f c' x) [] (σ ++ [some v]) H { s with heap := h₁, toks := tk } := by
  have hfree := L.has I.ok
  have cm : ∀ {y c}, (cloFrom X.env.cells scope.names []).lookup y = some c → X.env.cells.lookup y = some c := fun {y c} e => by
    rcases cloFrom_mem (PySem.mem_of_lookup e) with hm | ⟨h1, h2⟩
    · cases hm
    · obtain ⟨c1, hc⟩ := hfree _ h1 rfl
      have hc : X.env.cells.lookup y = some c1 := hc
      have e2 : c = c1 := by
        rw [h2, hc] <;> rfl
      rw [e2]
      exact hc
  have look : ∀ {y}, scope.names.lookup y = some .free → ∃ c, (cloFrom X.env.cells scope.names []).lookup y = some c := fun {y} hl => by
    have hy : (y, NameKind.free) ∈ scope.names := PySem.mem_of_lookup hl
    exact mem_lookup (cloFrom_has (cells := X.env.cells) (acc := []) hy)
  have cellK : ∀ {c : Addr} {v : Option Value}, s.heap.IsCell c v → h₁.IsCell c v := fun {c v} ⟨o, ho, hd⟩ => ⟨o, kp _ _ ho, hd⟩
  have noA : ∀ b : Addr, b ∉ (lamCx1 X A X.stack s H E scope f c' x).ex := fun b z => absurd (show b ∈ ([] : List Addr) from z) (by simp)
  refine ⟨⟨e0.mod, L.kind, rfl, rfl, Nat.le_refl _, fun y z c e1 e2 => I.ok.inj y z c (cm e1) (cm e2), fun y hy => ?_, fun y c z _ => ?_, fun _ => hd, Around.frames_deeper e0.frames, .inr ⟨rfl, rfl⟩, fun b z => absurd z (noA b), e0.bs, e0.bsz, fun b _ _ => noA b,
      fun b z => absurd z (noA b), e0.funs, e0.frf⟩,
    rfl, e0.bare, Un.kept kp, ⟨_, hns, fun i y v' e1 e2 e3 => ?_⟩, fun y c e => ?_, e0.hok.fresh (Nat.le_refl _), fun y c e => ?_, fun q hq => absurd (show q ∈ ([] : List (Addr × Obj)) ++ [] from hq) (by simp), e0.hok.kept kp, ?_⟩
  · have hy : scope.names.lookup y = some .cell ∨ scope.names.lookup y = some .free := hy
    rcases hy with hy | hy
    · exact absurd rfl (L.own _ (PySem.mem_of_lookup hy)).1
    · exact look hy
  · have z : false = true := z
    cases z
  · have e1 : (X.N ++ [x])[i]? = some y := e1
    have e3 : Vis scope y := e3
    have hlen := I.len
    by_cases hi : i < X.N.length
    · rw [List.getElem?_append_left hi] at e1
      rw [List.getElem?_append_left (by omega)] at e2
      have hyN : y ∈ X.N := List.mem_of_getElem? e1
      rcases e3 with k | k | k
      · have hyx : y = x := (L.own _ (PySem.mem_of_lookup k)).2 rfl
        exact absurd (hyx ▸ hyN) hx
      · exact absurd rfl (L.own _ (PySem.mem_of_lookup k)).1
      · obtain ⟨m, hn, hl⟩ := I.loc
        have hvis : Vis X.env.scope y := (L.free _ (PySem.mem_of_lookup k) rfl).elim (fun k => .inr (.inl k)) (fun k => .inr (.inr k))
        obtain ⟨w', r, q⟩ := hl i y v' e1 e2 hvis
        obtain ⟨c2, h2⟩ := look k
        refine ⟨w', r, .inr ⟨.inr k, c2, h2, ?_⟩⟩
        have c1 := cm h2
        rcases q with ⟨k', _⟩ | ⟨_, c3, e', z⟩
        · have k' : X.env.scope.names.lookup y = some .local := k'
          rcases L.free _ (PySem.mem_of_lookup k) rfl with k2 | k2 <;> rw [show X.env.scope.names.lookup y = _ from k2] at k' <;> cases k'
        · rw [c1] at e'
          cases e'
          exact cellK z
    · rw [List.getElem?_append_right (by omega)] at e1
      rw [List.getElem?_append_right (by omega)] at e2
      have h0 : i - X.N.length = 0 := by
        have := (List.getElem?_eq_some_iff.mp e1).1
        simp only [List.length_singleton] at this
        omega
      rw [h0] at e1
      rw [hlen, h0] at e2
      have ey : x = y := Option.some.inj e1
      have ev : v = v' := Option.some.inj (Option.some.inj e2)
      subst ey
      subst ev
      exact ⟨u, rv, .inl ⟨L.par, by simp⟩⟩
  · obtain ⟨w', z⟩ := I.cell y c (cm e)
    exact ⟨w', cellK z⟩
  · exact I.freeC y c (cm e)
  · show (σ ++ [some v]).length = (X.N ++ [x]).length
    rw [List.length_append, List.length_append, I.len]
    rfl
theorem key_call {A : Around} {scope : Scope} {f c' : Addr} {x : Str} {v : V} {u pm ctv : Value} {params : Arguments} {body : Expr} {k : Nat} {tb : TE} {Q : VK} (fr : A.frames = X.A.frames) (hr : Room (k + 1) A) (I : Inv X pins σ H s) (L : LamS1 X.env.scope scope x) (hx : x ∉ X.N)
    (hf : s.heap.get? f = some (PySem.W.kla_obj "<lambda>" (X.env.qual ++ "<lambda>") params body scope (cloFrom X.env.cells scope.names []) pm c' ctv)) (hc : H c' = some (CodeO c' (X.env.qual ++ "<lambda>")))
    (hbind : bindArgs (PySem.W.kla_fn "<lambda>" (X.env.qual ++ "<lambda>") params body scope (cloFrom X.env.cells scope.names []) pm (.ref c') ctv) ⟨[u], []⟩ = pure [(x, u)]) (rv : RelV v u)
    (hbody : ∀ (A : Around) (s : Shared) (H : Hp), Room k (A.deeper (lamEnv X scope s.heap.objs.size f c')) → PE (lamCx1 X A X.stack s H C8.E0 scope f c' x) body tb) (ht : tb (σ ++ [some v]) H Q) :
    wpAny (model X.prog X.w) A (call (.ref f) [u]) (fun u' s' => CE X.stack X.prog X.w H s Q u' s') (fun _ _ => False) s := by
  obtain ⟨⟨oc, vs, t, hoc, hdc, hvc⟩, _, _⟩ := I.hok c' _ hc
  have e0 := env_in fr I
  have rc : codeAny (model X.prog X.w) A (.call (.ref f) ⟨[u], []⟩) (CR (L2.CX X.prog X.w) X.stack X.prog X.w H s Q C8.E0) s := by
    refine PySem.W.kla_callFunE hr.depth hf rfl L.co L.gen rfl ⟨c', oc, vs, t, rfl, hoc, hdc, hvc⟩ ?_
    rw [hbind]
    refine wpAny_pure (wpAny_newFunctionEnv (fun y hy => (L.own y hy).1) (fun y hy => by rw [List.mem_singleton.mp hy]; exact L.par) (fun h₁ hns hsb => ⟨I.nolimit.fresh _ hsb, ?_⟩) L.kind)
    show codeAny _ _ (.expr body (lamEnv X scope s.heap.objs.size f c')) _ _
    have kp : ∀ b o, s.heap.get? b = some o → h₁.get? b = some o := fun b o e => hsb.extBut b o (Nat.ne_of_lt (Heap.lt_size e)) (Heap.get?_push_of_some _ e)
    have J : Inv (lamCx1 X A X.stack s H C8.E0 scope f c' x) [] (σ ++ [some v]) H { s with heap := h₁, toks := s.toks + ([(x, u)] : List (Str × Value)).length } :=
      lam_start1 I L hx e0 hr.hd rv hns kp
    refine PySem.W.kla_codeExpr (wpAny_mono ((hbody _ s H (hr.deeper _)).run [] _ _ H Q J ht) (fun v s' hq => ?_) fun e s' hq => hq)
    obtain ⟨w', H', J', rv, q⟩ := hq
    exact ⟨w', H', J'.os, J'.bare, J'.base, J'.hok, rv, q⟩
  refine wpAny_call (codeAny_mono rc fun r s' hq => ?_)
  cases r with
  | error e =>
    obtain ⟨_, _, _, _, _, _, _, _, _, _, _, _, _, _, _, _, z⟩ := XE.of_call (W := fun _ _ _ _ => False) I (fun _ _ _ h => h) hq
    exact z.elim
  | ok fl =>
    cases fl with
    | ret w => exact hq
    | next => exact False.elim hq
    | brk => exact False.elim hq
    | cont => exact False.elim hq
end
end Rs
/-! text Rsort -/
set_option Elab.async false
set_option linter.all false
set_option maxRecDepth 100000
set_option maxHeartbeats 4000000
namespace Rs
open PySem PySem.Spec PyProof.Rows L2 LamX
/-- an address of ours that no rule knows of -/
structure Jk (X : Cx) (pins : List (Addr × Obj)) (b : Addr) : Prop where
  loc : b ≠ X.env.locals
  sz : X.s_0.heap.objs.size ≤ b
  cell : ∀ x c, X.env.cells.lookup x = some c → c ≠ b
  pin : ∀ p ∈ X.pn ++ pins, p.1 ≠ b
  fr : b ∉ frs X.stack
section
variable {X : Cx} {pins : List (Addr × Obj)} {σ : L2.St} {H H0 : Hp} {s s0 : Shared}
theorem Jk.of {b : Addr} (I : Inv X pins σ H0 s0) (h : s0.heap.objs.size ≤ b) : Jk X pins b where
  loc := fun z => by
    have h1 := I.lt
    rw [← z] at h1
    exact Nat.lt_irrefl _ (Nat.lt_of_lt_of_le h1 h)
  sz := Nat.le_trans I.sz h
  cell := fun x c e z => by
    obtain ⟨v, o, ho, _⟩ := I.cell x c e
    rw [z] at ho
    exact Nat.lt_irrefl _ (Nat.lt_of_lt_of_le (Heap.lt_size ho) h)
  pin := fun p hp z => by
    obtain ⟨ho, _⟩ := I.pin p hp
    rw [z] at ho
    exact Nat.lt_irrefl _ (Nat.lt_of_lt_of_le (Heap.lt_size ho) h)
  fr := fun z => by
    rcases List.mem_cons.mp (I.stkSub _ z) with e | e
    · have h1 := I.lt
      rw [← e] at h1
      exact Nat.lt_irrefl _ (Nat.lt_of_lt_of_le h1 h)
    · exact I.nofs h e
theorem Jk.turn {b : Addr} {h' : Heap} (j : Jk X pins b) (I : Inv X pins σ H s) (n : H b = none) (sb : Heap.SameBut b s.heap h') : Inv X pins σ H { s with heap := h' } :=
  I.turned (t' := s.toks) (fun c o hc e => (sb.2 c hc).trans e) n j.loc (.inr j.sz) j.cell j.pin
theorem CE.inv {Q : VK} {u : Value} {s' : Shared} (I : Inv X pins σ H s) (h : CE X.stack X.prog X.w H s Q u s') : ∃ v H', Inv X pins σ H' s' ∧ Un (frs X.stack) [] H H' s.heap s'.heap ∧ RelV v u ∧ Q v H' := by
  obtain ⟨v, H', os, bare, un, hok, r, q⟩ := h
  obtain ⟨hh, g, d, t, os'⟩ := s'
  obtain rfl : os' = s.os := os
  exact ⟨v, H', I.call (h' := hh) (g' := g) (d' := d) (t' := t) (ch := []) un hok bare (fun b z => absurd z (by simp)), un, r, q⟩
variable {A : Around} {E : Value → Shared → Prop} {D kS f : Addr} {fo : Obj} {vs : List Value} {kz : List Int} {keys : Array Value} {e e1 : Nat} {P : PySem.Fin → Shared → Prop}
theorem sk_tail {st : SortSt} (I : Inv X pins σ H s) (jD : Jk X pins D) (jK : Jk X pins kS) (hka : kS ≠ D) (nD : H D = none) (nK : H kS = none) (oK : s.heap.get? kS = some (seqObj "list" keys e)) (oD : s.heap.get? D = some (seqObj "list" #[] e1))
    (hk : IntsAre keys.toList kz) (hlen : kz.length = vs.length) (hZ : vs.length ≤ sizeLine) (hp : (arrOf st).Perm (keys.zip vs.toArray)) (hs : SortedTo (arrOf st) (arrOf st).size) (hfl : failedOf st = none)
    (h : ∀ s' out c, Inv X pins σ H s' → s'.heap.get? D = some (seqObj "list" out c) → KskOut false kz vs out.toList → P (.done (.ret .none)) s') :
    wpAny (model X.prog X.w) A (ksk_tail D false e1 (.ref kS) st) P E s := by
  have hZ2 := hZ
  rw [sizeLine_eq] at hZ2
  have hsz : keys.size = vs.length := by
    have h1 := hk.length
    rw [Array.length_toList] at h1
    omega
  have hsz2 : (arrOf st).size = vs.length := by rw [hp.size_eq, Array.size_zip, hsz, List.size_toArray, Nat.min_self]
  have hout : (if false = true then ((arrOf st).map (·.2)).reverse else (arrOf st).map (·.2)).size = vs.length := by
    simp only [Bool.false_eq_true, if_false, Array.size_map]; exact hsz2
  have s1 := Heap.SameBut.update s.heap kS (Obj.mapSeq fun _ => (#[] : Array Value))
  have na1 : (s.heap.update kS (Obj.mapSeq fun _ => (#[] : Array Value))).get? D = some (seqObj "list" #[] e1) := (s1.2 D hka.symm).trans oD
  have I1 := jK.turn I nK s1
  have s2 := Heap.SameBut.update (s.heap.update kS (Obj.mapSeq fun _ => (#[] : Array Value))) D (Obj.mapSeq fun _ => if false = true then ((arrOf st).map (·.2)).reverse else (arrOf st).map (·.2))
  have I2 := jD.turn I1 nD s2
  obtain ⟨c2, hc2⟩ : ∃ c2, ((s.heap.update kS (Obj.mapSeq fun _ => (#[] : Array Value))).update D (Obj.mapSeq fun _ => if false = true then ((arrOf st).map (·.2)).reverse else (arrOf st).map (·.2))).get? D = some (seqObj "list" (if false = true then ((arrOf st).map (·.2)).reverse else (arrOf st).map (·.2)) c2) :=
    ⟨_, get?_update_seq na1 fun _ => if false = true then ((arrOf st).map (·.2)).reverse else (arrOf st).map (·.2)⟩
  unfold ksk_tail
  try dsimp only
  refine wpAny_bind (listUpdate_at oK rfl ?_ (by rw [hsz, sizeLine_eq]; omega) (Nat.zero_le _))
  refine wpAny_bind (wpAny_letGo ?_)
  refine wpAny_bind (seqEpoch_at na1 rfl ?_)
  refine wpAny_bind (listUpdate_at na1 rfl ?_ (Nat.zero_le _) (Nat.le_trans (Nat.le_of_eq hout) (by rw [sizeLine_eq]; omega)))
  rw [hfl]
  simp only [bne_self_eq_false, Bool.false_eq_true, if_false]
  simp only [Bool.false_eq_true, if_false] at hc2 I2
  have ko := ksk_out (b := false) hk hp hs
  simp only [Bool.false_eq_true, if_false] at ko
  exact wpAny_pure (h _ _ c2 I2 hc2 ko)
theorem sk_end (I : Inv X pins σ H s) (jD : Jk X pins D) (jK : Jk X pins kS) (hka : kS ≠ D) (nD : H D = none) (nK : H kS = none) (oK : s.heap.get? kS = some (seqObj "list" keys e)) (oD : s.heap.get? D = some (seqObj "list" #[] e1))
    (hk : IntsAre keys.toList kz) (hlen : kz.length = vs.length) (hZ : vs.length ≤ sizeLine)
    (h : ∀ s' out c, Inv X pins σ H s' → s'.heap.get? D = some (seqObj "list" out c) → KskOut false kz vs out.toList → P (.done (.ret .none)) s') :
    wpAny (model X.prog X.w) A (ksk_end D false vs.toArray e1 (.ref kS) keys) P E s := by
  have hZ2 := hZ
  rw [sizeLine_eq] at hZ2
  have hsz : keys.size = vs.length := by
    have h1 := hk.length
    rw [Array.length_toList] at h1
    omega
  have hzs : (keys.zip vs.toArray).size = vs.length := by rw [Array.size_zip, hsz, List.size_toArray, Nat.min_self]
  unfold ksk_end
  simp only [Bool.false_eq_true, if_false]
  try dsimp only
  by_cases h2 : vs.toArray.size < 2
  · rw [if_pos h2, if_pos h2]
    refine wpAny_bind (wpAny_pure ?_)
    rw [StateT.run_pure]
    refine wpAny_bind (wpAny_pure ?_)
    try dsimp only
    refine sk_tail (st := SortSt.mk' general' (keys.zip vs.toArray) #[] 7 none) I jD jK hka nD nK oK oD hk hlen hZ (Array.Perm.refl _) ?_ rfl h
    intro i j hij hj
    have hj2 : j < (keys.zip vs.toArray).size := hj
    rw [hzs] at hj2
    rw [List.size_toArray] at h2
    have : i = j := by omega
    subst this
    exact Int.le_refl _
  · rw [if_neg h2, if_neg h2]
    rw [List.size_toArray] at h2
    rw [ksk_kind hk (by rw [hsz]; omega)]
    refine wpAny_bind (wpAny_pure ?_)
    refine wpAny_bind (wpAny_mono (wpS_sortRunsAny (κ := intKind) (a₀ := keys.zip vs.toArray) (st := SortSt.mk' oneType' (keys.zip vs.toArray) #[] 7 none)
      (Q := fun _ st' => (arrOf st').Perm (keys.zip vs.toArray) ∧ failedOf st' = none ∧ SortedTo (arrOf st') (keys.zip vs.toArray).size)
      intKind_oneLt (ksk_keysOfInt (ksk_intKeys hk)) ⟨Array.Perm.refl _, rfl, rfl⟩ rfl (by rw [hzs]; omega) fun st' a1 a2 a3 => ⟨a1, a2, sortedTo_of_int a3⟩) ?_ fun _ _ e => e)
    rintro ⟨⟨⟩, st'⟩ s' ⟨rfl, hp, hf, hs⟩
    try dsimp only
    exact sk_tail I jD jK hka nD nK oK oD hk hlen hZ hp (by rw [hp.size_eq]; exact hs) hf h
theorem sk_rest (I : Inv X pins σ H s) (jD : Jk X pins D) (jK : Jk X pins kS) (hka : kS ≠ D) (nD : H D = none) (nK : H kS = none) (oK : s.heap.get? kS = some (seqObj "list" #[] 0)) (oD : s.heap.get? D = some (seqObj "list" #[] e1))
    (hf : s.heap.get? f = some fo) (nf : H f = none) (ff : f ∉ frs X.stack) (hfD : f ≠ D) (hfK : f ≠ kS) (hlen : kz.length = vs.length) (hZ : vs.length ≤ sizeLine)
    (turn : ∀ (i : Nat) (v : Value) (k : Int), vs[i]? = some v → kz[i]? = some k → ∀ s', Inv X pins σ H s' → s'.heap.get? f = some fo →
      wpAny (model X.prog X.w) A (call (.ref f) [v]) (fun u s2 => CE X.stack X.prog X.w H s' (fun w H' => w = .int k ∧ H' = H) u s2) (fun _ _ => False) s')
    (h : ∀ s' out c, Inv X pins σ H s' → s'.heap.get? D = some (seqObj "list" out c) → KskOut false kz vs out.toList → P (.done (.ret .none)) s') :
    wpAny (model X.prog X.w) A (ksk_rest D (.ref f) false vs.toArray e1 (.ref kS)) P E s := by
  have hZ2 := hZ
  rw [sizeLine_eq] at hZ2
  unfold ksk_rest
  refine wpAny_bind (wpAny_rule ?_)
  first
    | rw [List.forIn_toArray]
    | (rw [← Array.forIn_toList]; simp only [List.toList_toArray])
    | rw [← Array.forIn_toList]
  refine wpAny_bind (ksk_fold (fun i s' => ∃ kA e, Inv X pins σ H s' ∧ s'.heap.get? f = some fo ∧ s'.heap.get? kS = some (seqObj "list" kA e) ∧ s'.heap.get? D = some (seqObj "list" #[] e1) ∧ IntsAre kA.toList (kz.take i)) vs 0 s
    ⟨#[], 0, I, hf, oK, oD, by simpa using IntsAre.nil⟩ ?step ?done)
  case step =>
    rintro j x s' hx ⟨kA, e, I', hf', oK', oD', hk⟩
    simp only [Nat.zero_add] at hk ⊢
    have hj : j < vs.length := (List.getElem?_eq_some_iff.mp hx).1
    obtain ⟨k, hkj⟩ : ∃ k, kz[j]? = some k := ⟨_, List.getElem?_eq_getElem (by omega)⟩
    have hz : kA.size ≤ vs.length := by
      have h1 := hk.length
      rw [Array.length_toList, List.length_take] at h1
      omega
    refine wpAny_bind (wpAny_attempt (wpAny_mono (turn j x k hx hkj s' I' hf') (fun v s'' he => ?_) fun _ _ hF => hF.elim))
    obtain ⟨w, H', I2, un, rv, ew, eH⟩ := CE.inv I' he
    subst ew
    subst eH
    obtain ⟨t2, rfl⟩ := rv
    try dsimp only
    have oK2 := un.keep _ _ oK' nK jK.fr (by simp)
    have oD2 := un.keep _ _ oD' nD jD.fr (by simp)
    have hf2 := un.keep _ _ hf' nf ff (by simp)
    have s1 := Heap.SameBut.update s''.heap kS (Obj.mapSeq (·.push (.int k t2)))
    obtain ⟨c2, hc2⟩ : ∃ c2, (s''.heap.update kS (Obj.mapSeq (·.push (.int k t2)))).get? kS = some (seqObj "list" (kA.push (.int k t2)) c2) := ⟨_, get?_update_seq oK2 (·.push (.int k t2))⟩
    have ek : kz.take (j + 1) = kz.take j ++ [k] := by rw [List.take_add_one, hkj]; simp
    have ea : (kA.push (Value.int k t2)).toList = kA.toList ++ [Value.int k t2] := by simp
    refine wpAny_bind (listUpdate_at oK2 rfl ?_ (by rw [sizeLine_eq]; omega) (Nat.le_trans (Nat.le_of_eq (Array.size_push ..)) (by rw [sizeLine_eq]; omega)))
    exact wpAny_pure ⟨rfl, kA.push (.int k t2), c2, jK.turn I2 nK s1, (s1.2 f hfK).trans hf2, hc2, (s1.2 D hka.symm).trans oD2, by rw [ea, ek]; exact ksk_snoc hk⟩
  case done =>
    rintro s' ⟨kA, e, I', hf', oK', oD', hk⟩
    have hk' : IntsAre kA.toList kz := by
      have e3 : kz.take (0 + vs.length) = kz := List.take_of_length_le (by omega)
      rw [e3] at hk
      exact hk
    try dsimp only
    refine wpAny_bind (listItems_at oK' rfl ?_)
    exact sk_end I' jD jK hka nD nK oK' oD' hk' hlen hZ h
theorem sk_sort {n : Nat} (I : Inv X pins σ H s) (jD : Jk X pins D) (nD : H D = none) (oD : s.heap.get? D = some (seqObj "list" vs.toArray n)) (hf : s.heap.get? f = some fo) (nf : H f = none) (ff : f ∉ frs X.stack) (hfD : f ≠ D)
    (hlen : kz.length = vs.length) (hZ : vs.length ≤ sizeLine)
    (turn : ∀ (i : Nat) (v : Value) (k : Int), vs[i]? = some v → kz[i]? = some k → ∀ s', Inv X pins σ H s' → s'.heap.get? f = some fo →
      wpAny (model X.prog X.w) A (call (.ref f) [v]) (fun u s2 => CE X.stack X.prog X.w H s' (fun w H' => w = .int k ∧ H' = H) u s2) (fun _ _ => False) s')
    (h : ∀ s' out c, Inv X pins σ H s' → s'.heap.get? D = some (seqObj "list" out c) → KskOut false kz vs out.toList → P (.done (.ret .none)) s') :
    wpAny (model X.prog X.w) A (ksk_tree D (.ref f) false) P E s := by
  have hZ2 := hZ
  rw [sizeLine_eq] at hZ2
  have ha : D < s.heap.objs.size := Heap.lt_size oD
  have hfs : f < s.heap.objs.size := Heap.lt_size hf
  have s1 := Heap.SameBut.update s.heap D (Obj.mapSeq fun _ => (#[] : Array Value))
  obtain ⟨e1, ho1⟩ : ∃ e1, (s.heap.update D (Obj.mapSeq fun _ => (#[] : Array Value))).get? D = some (seqObj "list" #[] e1) := ⟨_, get?_update_seq oD fun _ => #[]⟩
  have hkS : ((s.heap.update D (Obj.mapSeq fun _ => (#[] : Array Value))).push (seqObj "tuple" vs.toArray 0)).objs.size = s.heap.objs.size + 1 := by rw [size_push', Heap.size_update]
  have I1 := jD.turn I nD s1
  unfold ksk_tree
  refine wpAny_bind (listItems_at oD rfl ?_)
  refine wpAny_bind (listUpdate_at oD rfl ?_ (by rw [List.size_toArray, sizeLine_eq]; omega) (Nat.zero_le _))
  refine wpAny_bind (seqEpoch_at ho1 rfl ?_)
  refine wpAny_bind (wpAny_newTuple ?_ (by show vs.length ≤ _; rw [sizeLine_eq]; omega))
  refine wpAny_bind (wpAny_newList ?_ (Nat.zero_le _))
  refine wpAny_holding ?_
  have kp : ∀ b o, (s.heap.update D (Obj.mapSeq fun _ => (#[] : Array Value))).get? b = some o → (((s.heap.update D (Obj.mapSeq fun _ => (#[] : Array Value))).push (seqObj "tuple" vs.toArray 0)).push (seqObj "list" #[] 0)).get? b = some o := fun b o q => Heap.get?_push_of_some _ (Heap.get?_push_of_some _ q)
  refine sk_rest (s := { s with heap := ((s.heap.update D (Obj.mapSeq fun _ => (#[] : Array Value))).push (seqObj "tuple" vs.toArray 0)).push (seqObj "list" #[] 0) }) (kS := ((s.heap.update D (Obj.mapSeq fun _ => (#[] : Array Value))).push (seqObj "tuple" vs.toArray 0)).objs.size)
    (I1.kept (t' := s.toks) kp) jD (Jk.of I (by rw [hkS]; exact Nat.le_succ _)) (by rw [hkS]; exact Nat.ne_of_gt (Nat.lt_succ_of_lt ha)) nD (I.hok.fresh (by rw [hkS]; exact Nat.le_succ _)) (Heap.get?_push_size _ rfl) (kp _ _ ho1) (kp _ _ ((s1.2 f hfD).trans hf)) nf ff hfD (by rw [hkS]; exact Nat.ne_of_lt (Nat.lt_succ_of_lt hfs)) hlen hZ turn h
end
end Rs
/-! text Rlm -/
set_option Elab.async false
set_option linter.all false
set_option maxRecDepth 100000
set_option maxHeartbeats 4000000
namespace Rs
open PySem PySem.Spec PyProof.Rows L2 LamX
/-! ### the making of a lambda changes one table only -/
/-- nothing but the table at P is another, and one new thing is there -/
def ExtP (P : Addr) (H H1 : Hp) : Prop := H1 = H ∨ ∃ (q : Array Value) (c : Addr) (o : HO), H c = none ∧ H P ≠ none ∧ H1 = upd (upd H P (.tbl q)) c o
theorem ExtP.gr {P : Addr} {F H H1 : Hp} (x : ExtP P H H1) (e : Same F H) (n : F P = none) : Gr (fun b => b = P) F H F H1 := by
  rcases x with rfl | ⟨q, c, o, hc, hp, rfl⟩
  · exact Gr.refl e
  · have cP : P ≠ c := fun z => hp (z ▸ hc)
    refine ⟨Same.refl _, fun b u hb => ?_, fun b u m hb => ?_, fun b hb => ?_, fun _ hb _ => hb⟩
    · rw [upd_ne (ne_of_none (e b u hb) hc), upd_ne (ne_of_none hb n)]
      exact e b u hb
    · rw [upd_ne (ne_of_none hb hc), upd_ne m]
      exact hb
    · exact upd_some (upd_some hb)
section
variable {X : Cx} {pins : List (Addr × Obj)} {σ : L2.St} {H : Hp} {s : Shared} {T : List (Addr × Str)} {c P : Addr} {params : Arguments} {body : Expr} {scope : Scope} {pos : Pos} {E Q : Value → Shared → Prop}
theorem lam_makeP (I : Inv X pins σ H s) (B : TabB X.base X.mg c P) (co : X.env.code = .ref c) (inT : (P, X.env.qual ++ "<lambda>") ∈ T) (one : ∀ p ∈ T, p.1 = P → p.2 = X.env.qual ++ "<lambda>") (tabs : Tabs T H)
    (nodef : defaultsOf params X.env = ([], [])) (cells : ∀ y ∈ scope.names, y.2 = .free → ∃ d, X.env.cells.lookup y.1 = some d)
    (done : ∀ (f d : Addr) (md cv : Value) (G : Hp) (s2 : Shared), Inv X pins σ G s2 → ExtN H G → ExtP P H G → Tabs T G → s2.heap.get? f = some (PySem.W.kla_obj "<lambda>" (X.env.qual ++ "<lambda>") params body scope (cloFrom X.env.cells scope.names []) md d cv) →
      G f = none → f ∉ frs X.stack → G d = some (CodeO d (X.env.qual ++ "<lambda>")) → Q (.ref f) s2) :
    wpAny (model X.prog X.w) X.A (eval (.Lambda params body scope pos) X.env) Q E s := by
  obtain ⟨tb, atP, tri, among⟩ := tabs _ inT
  have rawP : s.heap.get? P = some { cls := .none, data := .fields tb } := I.hok P _ atP
  have okB : s.heap.BuiltinsAt X.mg P := B.bm.keeps I.bk
  have offstack : ∀ f, s.heap.objs.size ≤ f → f ∉ frs X.stack := by
    intro f big mem
    rcases List.mem_cons.mp (I.stkSub _ mem) with same | old
    · have small := I.lt
      rw [← same] at small
      exact Nat.lt_irrefl _ (Nat.lt_of_lt_of_le small big)
    · exact I.nofs big old
  refine PySem.W.kla_eval nodef ?_
  cases found : codeAmong pos tb.toList with
  | some cv =>
    obtain ⟨d, rfl, known⟩ := among pos cv found
    refine PySem.W.kla_makeFunctionHit (mg := X.mg) (c := c) (P := P) (ps := tb) (closure_ok cells) I.ok.glob (I.mod.glob.keeps I.bk) co (B.code.keeps I.bk) rawP tri found okB fun cv' hp' tk' kept same => ?_
    refine done hp'.objs.size d ((X.mg "__name__").getD .none) cv' H _ (I.kept fun b o there => Heap.get?_push_of_some _ (kept b o there)) (ExtN.refl H) (.inl rfl) tabs (Heap.get?_push_size _ rfl) (I.hok.fresh same) (offstack _ same) known
  | none =>
    refine PySem.W.kla_makeFunction (mg := X.mg) (c := c) (P := P) (ps := tb) (closure_ok cells) I.ok.glob (I.mod.glob.keeps I.bk) co (B.code.keeps I.bk) rawP tri found B.gP okB fun d cv' hp' tk' kept big small rec inTab => ?_
    obtain ⟨d2, od, fs, tok, e2, isd, isf, nm⟩ := rec
    cases e2
    have grown : s.heap.objs.size ≤ hp'.objs.size := Nat.le_trans big (Nat.le_of_lt small)
    have new : H d = none := I.hok.fresh big
    have J := inv_table (t' := tk') (more := #[rawInt pos.line, rawInt pos.col, .ref d]) (h' := hp'.push (PySem.W.kla_obj "<lambda>" (X.env.qual ++ "<lambda>") params body scope (cloFrom X.env.cells scope.names []) ((X.mg "__name__").getD .none) d cv')) I atP
      (fun b o nb there => Heap.get?_push_of_some _ (kept b o nb there)) (Heap.get?_push_of_some _ inTab) big ⟨od, fs, tok, Heap.get?_push_of_some _ isd, isf, nm⟩
    have ext : ExtN H (upd (upd H P (.tbl (tb ++ #[rawInt pos.line, rawInt pos.col, .ref d]))) d (CodeO d (X.env.qual ++ "<lambda>"))) := by
      intro b o there notab
      rw [upd_ne (ne_of_none there new), upd_ne (by rintro rfl; exact notab tb (Option.some.inj (there.symm.trans atP)))]
      exact there
    have asList : (tb ++ #[rawInt pos.line, rawInt pos.col, .ref d]).toList = tb.toList ++ [rawInt pos.line, rawInt pos.col, .ref d] := by simp
    refine done hp'.objs.size d ((X.mg "__name__").getD .none) cv' _ _ J ext (.inr ⟨_, _, _, new, by rw [atP]; exact (fun z => nomatch z), rfl⟩) (fun p mem => ?_) (Heap.get?_push_size _ rfl) ?_ (offstack _ grown) upd_same
    · by_cases same : p.1 = P
      · rw [one p mem same, same]
        refine ⟨_, by rw [upd_ne (ne_of_none atP new), upd_same], by rw [asList]; exact PySem.TriplesOk_snoc _ _ _ _ tri, fun at' cv2 found2 => ?_⟩
        rw [asList] at found2
        rcases among_app _ tri found2 with old | new2
        · obtain ⟨c0, z1, z2⟩ := among at' cv2 old
          exact ⟨c0, z1, ext _ _ z2 codeO_ne⟩
        · exact ⟨d, new2, upd_same⟩
      · obtain ⟨tb2, y1, y2, y3⟩ := tabs p mem
        refine ⟨tb2, by rw [upd_ne (ne_of_none y1 new), upd_ne same]; exact y1, y2, fun at' cv2 found2 => ?_⟩
        obtain ⟨c0, z1, z2⟩ := y3 at' cv2 found2
        exact ⟨c0, z1, ext _ _ z2 codeO_ne⟩
    · have ltP : P < hp'.objs.size := Nat.lt_of_lt_of_le (Heap.lt_size rawP) grown
      rw [upd_ne (Nat.ne_of_gt small), upd_ne (Nat.ne_of_gt ltP)]
      exact I.hok.fresh grown
end
end Rs
/-! text Rsort2 -/
set_option Elab.async false
set_option linter.all false
set_option maxRecDepth 100000
set_option maxHeartbeats 4000000
namespace Rs
open PySem PySem.Spec PyProof.Rows L2 LamX
theorem perm_lift {α β : Type} {f : α → β} {m n : List β} (h : m.Perm n) : ∀ {l : List α}, n = l.map f → ∃ l' : List α, l'.Perm l ∧ l'.map f = m := by
  induction h with
  | nil =>
    intro l e
    exact ⟨l, .refl _, e.symm⟩
  | cons x h ih =>
    intro l e
    cases l with
    | nil => cases e
    | cons a l =>
      rw [List.map_cons] at e
      obtain ⟨e1, e2⟩ := List.cons.inj e
      obtain ⟨l', p, q⟩ := ih e2
      exact ⟨a :: l', p.cons a, by rw [List.map_cons, q, e1]⟩
  | swap x y l0 =>
    intro l e
    match l, e with
    | a :: b :: l, e =>
      rw [List.map_cons, List.map_cons] at e
      obtain ⟨e1, e2⟩ := List.cons.inj e
      obtain ⟨e3, e4⟩ := List.cons.inj e2
      exact ⟨b :: a :: l, .swap .., by rw [List.map_cons, List.map_cons, e1, e3, e4]⟩
  | trans h1 h2 ih1 ih2 =>
    intro l e
    obtain ⟨l1, p1, q1⟩ := ih2 e
    obtain ⟨l2, p2, q2⟩ := ih1 q1.symm
    exact ⟨l2, p2.trans p1, q2⟩
/-- what comes out: some arrangement by the keys -/
def SortedK {α : Type} (kz : List Int) (xs out : List α) : Prop := ∃ ps : List (Int × α), ps.Perm (kz.zip xs) ∧ out = ps.map Prod.snd ∧ ps.Pairwise (fun p q => p.1 ≤ q.1)
theorem vals_zip {xs : List V} {vs : List Value} (r : Vals xs vs) : ∀ q ∈ xs.zip vs, RelV q.1 q.2 := by
  induction r with
  | nil => intro q hq; cases hq
  | cons r t ih =>
    intro q hq
    rcases List.mem_cons.mp hq with rfl | hq
    · exact r
    · exact ih q hq
theorem vals_of : ∀ {l : List (V × Value)}, (∀ q ∈ l, RelV q.1 q.2) → Vals (l.map (·.1)) (l.map (·.2))
  | [], _ => .nil
  | q :: l, h => .cons (h q (List.mem_cons_self ..)) (vals_of fun r hr => h r (List.mem_cons_of_mem _ hr))
theorem zip_fst' {α β : Type} : ∀ {xs : List α} {ys : List β}, xs.length = ys.length → (xs.zip ys).map (·.1) = xs
  | [], [], _ => rfl
  | x :: xs, y :: ys, h => by rw [List.zip_cons_cons, List.map_cons, zip_fst' (Nat.succ.inj h)]
theorem zip_snd' {α β : Type} : ∀ {xs : List α} {ys : List β}, xs.length = ys.length → (xs.zip ys).map (·.2) = ys
  | [], [], _ => rfl
  | x :: xs, y :: ys, h => by rw [List.zip_cons_cons, List.map_cons, zip_snd' (Nat.succ.inj h)]
theorem sortedK_of {kz : List Int} {xs : List V} {vs out : List Value} (r : Vals xs vs) (h : KskOut false kz vs out) : ∃ ys, Vals ys out ∧ SortedK kz xs ys := by
  obtain ⟨ps, p1, p2, p3⟩ := h
  have hl := r.length
  have e1 : kz.zip vs = (kz.zip (xs.zip vs)).map fun t => (t.1, t.2.2) := by
    have := List.zip_map_right (l₁ := kz) (l₂ := xs.zip vs) (f := fun q : V × Value => q.2)
    rw [zip_snd' hl] at this
    rw [this]
    rfl
  have e2 : (kz.zip (xs.zip vs)).map (fun t => (t.1, t.2.1)) = kz.zip xs := by
    have := List.zip_map_right (l₁ := kz) (l₂ := xs.zip vs) (f := fun q : V × Value => q.1)
    rw [zip_fst' hl] at this
    rw [this]
    rfl
  obtain ⟨l', q1, q2⟩ := perm_lift p1 e1
  refine ⟨(l'.map (·.2)).map (·.1), ?_, l'.map fun t => (t.1, t.2.1), ?_, ?_, ?_⟩
  · have e3 : List.map Prod.snd (List.map (fun t : Int × V × Value => (t.1, t.2.2)) l') = (l'.map (·.2)).map (·.2) := by
      rw [List.map_map, List.map_map]
      rfl
    rw [p2, ← q2, e3]
    refine vals_of fun q hq => ?_
    obtain ⟨t, ht, rfl⟩ := List.mem_map.mp hq
    have := q1.mem_iff.mp ht
    exact vals_zip r _ (List.of_mem_zip this).2
  · rw [← e2]
    exact q1.map _
  · rw [List.map_map, List.map_map]
    rfl
  · rw [← q2] at p3
    rw [List.pairwise_map] at p3 ⊢
    exact p3
section
variable {X : Cx} {pins : List (Addr × Obj)} {σ : L2.St} {H : Hp} {s : Shared}
/-- a list of ours that no rule knew of is known from now on -/
theorem inv_track {D : Addr} {its : List Value} {ys : List V} {n : Nat} (j : Jk X pins D) (I : Inv X pins σ H s) (nD : H D = none) (oD : s.heap.get? D = some (seqObj "list" its.toArray n)) (r : Vals ys its) (hz : ys.length ≤ sizeLine) : Inv X pins σ (upd H D (.lst ys)) s := by
  have ne : ∀ b u, H b = some u → b ≠ D := fun b u e => ne_of_none e nD
  refine I.step (h' := s.heap) (g' := s.gens) (d' := s.drawn) (t' := s.toks) (ch := [D]) (fun b hb => by rw [List.mem_singleton.mp hb]; exact ⟨.inr j.sz, j.loc, j.cell, j.pin⟩) (fun b o _ _ _ e _ => e) (fun b o _ _ _ e _ => ⟨o.slots, e⟩)
    (fun b o hb _ n => by rw [upd_ne (fun z => hb (by simp [z]))]; exact n) (fun b o _ e => ⟨o, e⟩) (fun b xs e => by rw [upd_ne (ne b _ e)]; exact e) (fun b o u e => by rw [upd_ne (ne b _ e)]; exact e)
    (fun b ps e => ⟨#[], by rw [upd_ne (ne b _ e), e]; simp⟩) (fun m hm => hm) (fun b u e => ?_) I.bare
  by_cases hb : b = D
  · rw [hb, upd_same] at e
    cases e
    rw [hb]
    exact ⟨hz, its, n, r, oD⟩
  · rw [upd_ne hb] at e
    exact (I.hok b u e).stay (fun c v _ q => q) (fun c q => by rw [upd_ne (ne c _ q)]; exact q) fun c xs q => by rw [upd_ne (ne c _ q)]; exact q
variable {E : Value → Shared → Prop} {f l : Addr} {fo : Obj} {kz : List Int}
theorem sk_sorted {Q : VK} {xs : List V} (I : Inv X pins σ H s) (hs : SqL X.K H l xs) (hlen : kz.length = xs.length) (hf : s.heap.get? f = some fo) (nf : H f = none) (ff : f ∉ frs X.stack)
    (turn : ∀ (i : Nat) (x : V) (v : Value) (k : Int), RelV x v → xs[i]? = some x → kz[i]? = some k → ∀ s', Inv X pins σ H s' → s'.heap.get? f = some fo →
      wpAny (model X.prog X.w) X.A.in1.in1 (call (.ref f) [v]) (fun u s2 => CE X.stack X.prog X.w H s' (fun w H' => w = .int k ∧ H' = H) u s2) (fun _ _ => False) s')
    (h : ∀ ys, SortedK kz xs ys → ∀ p, H p = none → Q (.ref p) (upd H p (.lst ys))) :
    wpAny (model X.prog X.w) X.A (call (.builtin "sorted") [.ref l] [(Str.ofString "key", .ref f)]) (EP X pins σ Q) E s := by
  obtain ⟨vs, r, pl, hZ⟩ := I.list hs
  have hZv : vs.length ≤ sizeLine := by rw [← r.length]; exact hZ
  have hZ2 := hZv
  rw [sizeLine_eq] at hZ2
  obtain ⟨o, n, h1, h2, h3, h4⟩ := pl
  refine call_function_entry_kw kind_sorted plain_sorted entry_sorted (ksk_s1 _ _) ?_
  unfold Builtin.«sorted»
  refine wpAny_bind (m := checkCount "sorted" 1 1 _) (wpAny_pure ?_)
  refine wpAny_bind (collect_list ⟨o, h1, h2, n, h4⟩ ?_ (by rw [sizeLine_eq]; omega))
  refine wpAny_bind (wpAny_newList ?_ (by rw [sizeLine_eq]; omega))
  have hsz : ((s.heap.push (seqObj "list" #[] 0)).update s.heap.objs.size (Obj.mapSeq (· ++ vs.toArray))).objs.size = s.heap.objs.size + 1 := by
    rw [Heap.size_update, size_push']
  have hoL : (((s.heap.push (seqObj "list" #[] 0)).update s.heap.objs.size (Obj.mapSeq (· ++ vs.toArray))).push (seqObj "list" vs.toArray 0)).get? (s.heap.objs.size + 1) = some (seqObj "list" vs.toArray 0) := by
    rw [← hsz]; exact Heap.get?_push_size _ rfl
  have keep : ∀ b o, s.heap.get? b = some o → (((s.heap.push (seqObj "list" #[] 0)).update s.heap.objs.size (Obj.mapSeq (· ++ vs.toArray))).push (seqObj "list" vs.toArray 0)).get? b = some o := fun b o q => by
    have hlt : b < s.heap.objs.size := Heap.lt_size q
    rw [Heap.get?_push_ne _ _ _ (by rw [hsz]; exact Nat.ne_of_lt (Nat.lt_succ_of_lt hlt)), Heap.get?_update_ne _ _ _ _ (Nat.ne_of_lt hlt), Heap.get?_push_ne _ _ _ (Nat.ne_of_lt hlt)]
    exact q
  show wpAny _ _ _ _ _ { s with heap := ((s.heap.push (seqObj "list" #[] 0)).update s.heap.objs.size (Obj.mapSeq (· ++ vs.toArray))).push (seqObj "list" vs.toArray 0) }
  rw [hsz]
  have nD : H (s.heap.objs.size + 1) = none := I.hok.fresh (Nat.le_succ _)
  have jD : Jk X pins (s.heap.objs.size + 1) := Jk.of I (Nat.le_succ _)
  refine wpAny_bind (wpAny_holding (wpAny_call_entry_kw slot_list_sort ⟨_, hoL, rfl⟩ entry_list_sort ?body (ksk_l1 _ _)))
  case body =>
    show wpAny (model X.prog X.w) X.A.in1.in1 (Builtin.«list.sort» ⟨[.ref (s.heap.objs.size + 1)], [(Str.ofString "key", .ref f)]⟩) _ _ _
    rw [ksk_t1]
    refine sk_sort (s := { s with heap := ((s.heap.push (seqObj "list" #[] 0)).update s.heap.objs.size (Obj.mapSeq (· ++ vs.toArray))).push (seqObj "list" vs.toArray 0) })
      (I.kept (t' := s.toks) keep) jD nD hoL (keep _ _ hf) nf ff (Nat.ne_of_lt (Nat.lt_succ_of_lt (Heap.lt_size hf))) (by rw [hlen, r.length]) hZv (fun i v k hv hk s' I' hf' => ?_) fun s' out c I' oD ko => ⟨_, rfl, ?_⟩
    · obtain ⟨x, hx, rx⟩ : ∃ x, xs[i]? = some x ∧ RelV x v := by
        have hi := (List.getElem?_eq_some_iff.mp hv).1
        have hxi : i < xs.length := by rw [r.length]; exact hi
        refine ⟨xs[i], List.getElem?_eq_getElem hxi, ?_⟩
        refine vals_zip r (xs[i], v) ?_
        refine List.mem_of_getElem? (i := i) ?_
        rw [List.getElem?_zip_eq_some]
        exact ⟨List.getElem?_eq_getElem hxi, hv⟩
      exact turn i x v k rx hx hk s' I' hf'
    · obtain ⟨ys, ry, sk⟩ := sortedK_of r ko
      have hyl : ys.length ≤ sizeLine := by
        obtain ⟨ps, q1, q2, _⟩ := sk
        rw [q2, List.length_map, q1.length_eq, List.length_zip]
        omega
      have oD' : s'.heap.get? (s.heap.objs.size + 1) = some (seqObj "list" out.toList.toArray c) := by rw [Array.toArray_toList]; exact oD
      exact wpAny_pure ⟨_, rfl, .ref (s.heap.objs.size + 1), _, inv_track jD I' nD oD' ry hyl, rfl, h ys sk _ nD⟩
end
/-! ### sorted(e, key=lambda x: body) -/
def tSortL (K : PySem.W.Frag) (P : Addr) (T : List (Addr × Str)) (tb : TE) (t : TA) : TE := fun σ H Q => t σ H fun vs H1 => ∃ (a : Addr) (xs : List V) (kz : List Int), vs = [.ref a] ∧ SqL K H1 a xs ∧ kz.length = xs.length ∧ Tabs T H1 ∧ ∀ H2, ExtP P H1 H2 → Tabs T H2 →
  (∀ (i : Nat) (v : V) (k : Int), xs[i]? = some v → kz[i]? = some k → tb (σ ++ [some v]) H2 fun w H' => w = .int k ∧ H' = H2) ∧ ∀ ys, SortedK kz xs ys → ∀ p, H2 p = none → Q (.ref p) (upd H2 p (.lst ys))
theorem sql_n {K : PySem.W.Frag} {H H' : Hp} {a : Addr} {xs : List V} (e : ExtN H H') (h : SqL K H a xs) : SqL K H' a xs := by
  rcases h with (q | ⟨o, q⟩) | q
  · exact .inl (.inl (e _ _ q fun ps z => by cases z))
  · exact .inl (.inr ⟨o, e _ _ q fun ps z => by cases z⟩)
  · exact .inr q
section
variable {X : Cx} {K : PySem.W.Frag} {T : List (Addr × Str)} {c P : Addr} {k : Nat} {params : Arguments} {body : Expr} {scope : Scope} {x : Str} {tb : TE} {t : TA} {e : Expr} {p lpos kpos pos : Pos}
theorem pe_sortedL (hK : X.K = K) (ha : PA X [e] t) (hg : Gl X "sorted") (hm : X.mg "sorted" = none) (hv : bootBuiltins "sorted" = some (.builtin "sorted")) (TB : TabB X.base X.mg c P) (hcode : X.env.code = .ref c) (hmT : (P, X.env.qual ++ "<lambda>") ∈ T) (hu : ∀ p ∈ T, p.1 = P → p.2 = X.env.qual ++ "<lambda>") (hr : Room (k + 3) X.A)
    (L : LamS1 X.env.scope scope x) (hx : x ∉ X.N) (hdef : defaultsOf params X.env = ([], []))
    (hbind : ∀ (q : Str) (cl : List (Str × Addr)) (pm cv ctv u : Value), bindArgs (PySem.W.kla_fn "<lambda>" q params body scope cl pm cv ctv) ⟨[u], []⟩ = pure [(x, u)])
    (hbody : ∀ (A : Around) (s : Shared) (H : Hp) (f c' : Addr), Room k (A.deeper (lamEnv X scope s.heap.objs.size f c')) → PE (lamCx1 X A X.stack s H C8.E0 scope f c' x) body tb)
    (he : backTo pos (starEach [e] X.env) = (false, eval e X.env) :: backTo pos (starEach [] X.env) := by rfl) (hpl : (backTo pos (starEach [e] X.env)).any (·.1) = false := by rfl) :
    PE X (.Call (.Name "sorted" p) [e] [⟨some "key", .Lambda params body scope lpos, kpos⟩] pos) (tSortL K P T tb t) := by
  subst hK
  refine ⟨fun pins s σ H Q I h => ?_⟩
  refine wpAny_Call_Name_kw (ld_blt I hg hm hv ?_ (by decide) (by decide))
  refine PyProof.Rows.callWith_kw (thn (ha.run pos pins s σ H _ I h) fun us s1 ⟨vs, H1, I1, r1, q1⟩ => ?_) he hpl
  obtain ⟨a, xs, kz, rfl, hs, hl, hT, q⟩ := q1
  cases r1 with
  | cons r1 r1' =>
    cases r1
    cases r1'
    show wpAny _ _ (evalAll [(do let v ← eval (.Lambda params body scope lpos) X.env; standAt pos; pure v)]) _ _ s1
    refine wpAny_evalAll_cons (wpAny_bind (lam_makeP I1 TB hcode hmT hu hT hdef (L.has I1.ok) fun f c' pm ctv H2 s2 I2 eN eP T2 hf hfn hfr hco => ?_))
    refine wpAny_bind (wpAny_standAt (wpAny_pure (wpAny_evalAll_nil ?_)))
    obtain ⟨qk, qd⟩ := q H2 eP T2
    exact sk_sorted I2 (sql_n eN hs) hl hf hfn hfr (fun i x' v k' rx hxi hki s' I' hf' => key_call rfl ⟨hr.hd, by have := hr.dp; show X.A.depth + 3 * (k + 1) + 5 < _; omega, by have := hr.un; show X.A.units + 1 + 1 + 16 * (k + 1) + 200 < _; omega⟩ I' L hx hf' hco (hbind _ _ _ _ _ _) rx (fun A s H hr2 => hbody A s H f c' hr2) (qk i x' k' hxi hki)) qd
end
end Rs
/-! text R25 -/
set_option Elab.async false
set_option linter.all false
set_option maxRecDepth 100000
set_option maxHeartbeats 4000000
namespace Rs
open PySem PySem.Spec PyProof.Rows L2
/-! ### pieces -/
def okPc (D : PD) (q : Str × List Int) : Prop := q.1 ∈ D.names ∧ q.2 ∈ D.ts q.1
def sp_is_piece (K : PySem.W.Frag) : Sp := fun vs H Q _ => match vs with
  | [v, u] => ∃ F D q, Same F H ∧ rPl K F v D ∧ r2 K rS (rU K rI) F u q ∧ okPc D q ∧ ∀ F' H', Pu F H F' H' → Q (.bl true) H'
  | _ => False
theorem sc_is_piece : FnScope ["problem", "value", "one"] ["problem", "value"] (defScope s_is_piece) := C8.fnScope_by (by decide +kernel)
theorem c_is_piece {P : Program} {w : World} {K : PySem.W.Frag} {mg : Str → Option Value} {base hp : Heap} (T : Tx K mg hp) : C8.Cal P w K mg base 3 "is_piece" (sp_is_piece K) [] := by
  obtain ⟨fd, F⟩ := T.fd_is_piece
  refine mkCal T.gl_is_piece F sc_is_piece (fun _ _ _ _ _ _ us hl => match us, hl with | [_, _], _ => rfl) (fun vs H Q E h => by unfold sp_is_piece at h; split at h <;> first | rfl | exact h.elim) (fun cdv A outer s H vs Q E hr h => ?_)
  have nd := sc_is_piece.nd
  have hu := hu_of hr
  unfold sp_is_piece at h
  split at h
  case h_2 => exact h.elim
  obtain ⟨F, D, ⟨ev, t⟩, e, hP, ⟨a, v0, v1, rfl, ha, hx, hy⟩, ⟨hn, ht⟩, k⟩ := h
  cases hx
  have hn : ev ∈ D.names := hn
  have ht : t ∈ D.ts ev := ht
  obtain ⟨p, dx, d1, d2, d3, rfl, h⟩ := id hP
  obtain ⟨c, us, rfl, hc, hcu⟩ := id hy
  rw [all2_int hcu] at hc
  have okt := tups_of h.ok (sc_of hn) (ts_of hn)
  have okt1 := okt.2.2 t ht
  have osc := scope_of h.ok (sc_of hn)
  have l8 : D.names.length ≤ 8 := by unfold PD.names; rw [List.length_map]; exact h.ok.n8
  refine ⟨_, (pss_cons (ps_if (PW.pt (pw_or (pt_not (pt_val (pe_callB call_isi (by rfl) T.fr_isinstance (by decide +kernel) (pa_cons (pv 1) (pa_cons (pe_bltn (v := .ty "tuple") (u := .type "tuple") (by rfl) T.fr_tuple (by decide +kernel) rfl) pa_nil))))) (pw_or (pt_cmpR op_ne (pe_callB call_len_seq (by rfl) T.fr_len (by decide +kernel) (pa_cons (pv 1) pa_nil)) pe_int (nomark _)) (pw_or1 (pt_not (pt_val (pe_callB call_isi (by rfl) T.fr_isinstance (by decide +kernel) (pa_cons (pe_ix ix_tup (pv 1) pe_int (fun _ _ => rfl)) (pa_cons (pe_bltn (v := .ty "str") (u := .type "str") (by rfl) T.fr_str (by decide +kernel) rfl) pa_nil))))))))) (pss_one (ps_ret pe_bl)) pss_nil)
      (pss_cons (ps_if (PW.pt (pw_or (pt_cmpR (op_notIn_seqK (K := K) rfl) (pe_ix ix_tup (pv 1) pe_int (fun _ _ => rfl)) (C8.pe_mt0 (c_Problem_events T) hr (by decide) (pv 0)) rfl) (pw_or1 (pt_not (pt_val (pe_callB call_isi (by rfl) T.fr_isinstance (by decide +kernel) (pa_cons (pe_ix ix_tup (pv 1) pe_int (fun _ _ => rfl)) (pa_cons (pe_bltn (v := .ty "tuple") (u := .type "tuple") (by rfl) T.fr_tuple (by decide +kernel) rfl) pa_nil)))))))) (pss_one (ps_ret pe_bl)) pss_nil)
      (pss_cons (ps_if (pt_not (pt_val (pe_callB (cr_all rfl) (by rfl) T.fr_all (by decide +kernel) (pa_cons (pe_lc (own := [("one", 2)]) (g := (gName 2)) rfl nd (pi_tup (pe_ix ix_tup (pv 1) pe_int (fun _ _ => rfl))) (blkOk_by (own := [("one", 2)]) (N := ["problem", "value", "one"]) (sc := defScope s_is_piece) (by decide +kernel)) (fun _ _ _ _ _ => (pg_name (i := 2) nd rfl (Or.inl rfl))) (fun _ _ _ _ _ => pts_nil) (fun _ _ _ _ _ => (C8.pe_c (c_is_integer T) hr (by decide) (by rfl) (pa_cons (pv 2) (pa_cons pe_int (pa_cons (C8.pe_gc (by rfl) T.k_MOST_VALUE) pa_nil)))))) pa_nil)))) (pss_one (ps_ret pe_bl)) pss_nil)
      (pss_one (ps_ret (pe_cmpR (op_inD (huD_of hr)) (pe_ix ix_tup (pv 1) pe_int (fun _ _ => rfl)) (C8.pe_mt (c_Problem_bad_tuples T) hr (by decide) (pv 0) (pa_cons (pe_ix ix_tup (pv 1) pe_int (fun _ _ => rfl)) pa_nil)) rfl)))))), ?_⟩
  have ha' := sqt_s e ha
  have hc' := sqt_s e hc
  refine ⟨_, rfl, _, _, _, _, _, rfl, .ty _, tyx_t ha', kt K, _, rfl, iteF ⟨_, rfl, a, _, rfl, .inr ha', rfl, _, rfl, iteYn rfl ?_⟩⟩
  refine ⟨_, rfl, a, _, _, .str ev, rfl, rfl, ha', rfl, _, _, _, _, _, rfl, .ty _, .base (.str _), ks K, _, rfl, iteF ?_⟩
  refine ⟨_, rfl, a, _, _, .str ev, rfl, rfl, ha', rfl, _, rfl, p, dx, _, rfl, h.h e, pfsn (by decide +kernel), F, D, e, hP, fun v F1 H1 g1 hv => ?_⟩
  obtain ⟨na, rfl, hna⟩ := rls hv
  refine ⟨na, _, rfl, .inl (sql_s g1.fh hna), rfl, flat_strs _, _, rfl, ?_⟩
  rw [inv_str, decide_eq_true hn]
  have ha1 := sqt_s g1.fh (sqt_s g1.f ha)
  have hc1 := sqt_s g1.fh (sqt_s g1.f hc)
  refine iteF ⟨_, rfl, a, _, _, .ref c, rfl, rfl, ha1, rfl, _, _, _, _, _, rfl, .ty _, tyx_t hc1, kt K, _, rfl, iteF ?_⟩
  refine ⟨_, rfl, a, _, _, .ref c, rfl, rfl, ha1, rfl, c, rfl, ⟨_, hc1⟩, ?_⟩
  refine lcT (K := K) (RA := rI) (R := rB) (f := fun _ => true) (p := fun _ => true) g1.fh (sqt_s g1.f hc) (int_all2 _) (by show t.length ≤ 1000000; have := okt1.1; have := osc.1.2; omega) (fun y v F2 H2 hy g2 hv Kt Kf k1 k2 => ?_) (fun L F2 H2 g2 hL => ?_)
  · cases hv
    have hyb : 0 ≤ y ∧ y ≤ 5 := by
      obtain ⟨j, hj⟩ := List.getElem?_of_mem hy
      have hjl := (List.getElem?_eq_some_iff.mp hj).1
      have hjs : j < (D.sc ev).length := by rw [← okt1.1]; exact hjl
      obtain ⟨n, n1, n2, n3⟩ := okt1.2 ((D.sc ev)[j], y) (List.mem_of_getElem? (i := j) (by rw [List.getElem?_zip_eq_some]; exact ⟨List.getElem?_eq_getElem hjs, hj⟩))
      obtain ⟨n', m1, m2, m3⟩ := var_of h.ok.v (osc.2.2 _ (List.getElem_mem hjs))
      rw [m1] at n1
      cases n1
      have n2 : 0 ≤ y := n2
      have n3 : y < n := n3
      exact ⟨n2, by omega⟩
    refine ⟨rfl, _, rfl, y, 0, 5, rfl, rfl, rfl, ?_⟩
    rw [decide_eq_true hyb.1, decide_eq_true hyb.2]
    exact k1 rfl _ _ _ (Gr.refl (g1.trans g2).fh) rfl
  · obtain ⟨d, ed, hd⟩ := rlb hL
    cases ed
    have g12 := g1.trans g2
    have ha2 := sqt_s g12.fh (sqt_s g12.f ha)
    refine ⟨L, _, rfl, sql_s g2.fh hd, _, rfl, ?_⟩
    rw [show ((t.filter fun _ => true).map fun _ => true).all id = true from all_true t]
    refine iteF ?_
    refine ⟨_, rfl, a, _, _, .ref c, rfl, rfl, ha2, rfl, _, rfl, p, dx, _, rfl, (h.up (.of g12.f)).h g12.fh, pfsn (by decide +kernel), _, rfl, a, _, _, .str ev, rfl, rfl, ha2, rfl, F2, D, ev, _, g12.fh, Up.up g12.f hP, rfl, ts_of hn, fun v F3 H3 g3 hv => ?_⟩
    have g13 := g12.trans g3
    refine inD (encT (K := K)) (by decide) g13.fh (Up.up g13.f hy) hv trivial (fun _ _ => trivial) fun r hr => ?_
    rw [hr.mpr ht]
    exact k _ _ g13
def sp_check_pieces (K : PySem.W.Frag) : Sp := fun vs H Q _ => match vs with
  | [v, u] => ∃ F D l, Same F H ∧ rPl K F v D ∧ rL K (r2 K rS (rU K rI)) F u l ∧ (∀ q ∈ l, okPc D q) ∧ l.length ≤ 31 ∧ ∀ F' H', Pu F H F' H' → Q .non H'
  | _ => False
theorem sc_check_pieces : FnScope ["problem", "pieces", "index", "piece"] ["problem", "pieces"] (defScope s_check_pieces) := C8.fnScope_by (by decide +kernel)
theorem c_check_pieces {P : Program} {w : World} {K : PySem.W.Frag} {mg : Str → Option Value} {base hp : Heap} (T : Tx K mg hp) : C8.Cal P w K mg base 4 "check_pieces" (sp_check_pieces K) [] := by
  obtain ⟨fd, F⟩ := T.fd_check_pieces
  refine mkCal T.gl_check_pieces F sc_check_pieces (fun _ _ _ _ _ _ us hl => match us, hl with | [_, _], _ => rfl) (fun vs H Q E h => by unfold sp_check_pieces at h; split at h <;> first | rfl | exact h.elim) (fun cdv A outer s H vs Q E hr h => ?_)
  have nd := sc_check_pieces.nd
  have hu := hu_of hr
  unfold sp_check_pieces at h
  split at h
  case h_2 => exact h.elim
  rename_i v0 _
  obtain ⟨F, D, l, e, hP, ⟨a, xs, rfl, ha, hx⟩, ok, hl, k⟩ := h
  refine ⟨_, (pss_cons (ps_if (PW.pt (pw_or (pt_not (pt_val (C8.pe_c (c_is_list T) hr (by decide) (by rfl) (pa_cons (pv 1) pa_nil)))) (pw_or1 (pt_cmpR op_gt (pe_callB call_len_seq (by rfl) T.fr_len (by decide +kernel) (pa_cons (pv 1) pa_nil)) (C8.pe_gc (by rfl) T.k_MOST_PIECES) (nomark _))))) pss_never pss_nil)
      (pss_one (ps_for PassesOwn.never rfl (pi_enum (by rfl) T.fr_enumerate (pa_cons (pv 1) pa_nil)) (pg_tup rfl (pgs_cons (pg_name (i := 2) nd rfl (Or.inl rfl)) (pgs_cons (pg_name (i := 3) nd rfl (Or.inl rfl)) pgs_nil))) (pss_one (ps_if (pt_not (pt_val (C8.pe_c (c_is_piece T) hr (by decide) (by rfl) (pa_cons (pv 0) (pa_cons (pv 3) pa_nil))))) pss_never pss_nil))))), ?_⟩
  have el := hx.length
  refine ⟨_, rfl, F, a, _, rfl, e, sql_s e ha, fun F1 H1 g1 => ⟨_, rfl, iteF ⟨_, rfl, a, _, rfl, .inl (sql_s g1.fh (sql_s g1.f ha)), _, _, rfl, rfl, _, rfl, ?_⟩⟩⟩
  rw [decide_eq_false (show ¬ (240 : Int) < ((xs.length : Nat) : Int) by omega)]
  refine iteF ⟨_, rfl, a, _, rfl, sql_s g1.fh (sql_s g1.f ha), ?_⟩
  have ha1 := sql_s g1.f ha
  refine for_it (walk_enum (K := K) (a := a) (xs := xs)) (fun i σ H' => ∃ F' w2 w3, σ = [some v0, some (.ref a), w2, w3] ∧ Pu F H F' H') ⟨F1, _, _, rfl, g1⟩ (fun i σ H' _ ⟨F', _, _, _, g⟩ => sql_s g.fh (sql_s g.f ha)) ?_ ?_
  · rintro i y σ H2 H3 hi ⟨F2, w2, w3, rfl, g⟩ ⟨T', x1, x2, rfl, nT, rfl, hx1, hx2⟩
    cases hx1
    obtain ⟨q, hq, hxq⟩ := hx.get hx2
    have okq := ok q (List.mem_of_getElem? hq)
    have g2 := g.trans (Gr.newm (o := .tup [.int (i : Nat), x2]) g.fh nT)
    refine ⟨T', [_, _], rfl, SqT.of upd_same, rfl, _, [_], rfl, _, [], rfl, rfl, ?_⟩
    exact ⟨_, rfl, _, rfl, F2, D, q, g2.fh, Up.up g2.f hP, Up.up g2.f hxq, okq, fun F3 H3 g3 => ⟨_, rfl, iteF ⟨F3, _, _, rfl, g2.trans g3⟩⟩⟩
  · rintro σ H2 ⟨F2, w2, w3, rfl, g⟩
    exact k _ _ g
end Rs
/-! text R26 -/
set_option Elab.async false
set_option linter.all false
set_option maxRecDepth 100000
set_option maxHeartbeats 4000000
namespace Rs
open PySem PySem.Spec PyProof.Rows L2 LamX
section
variable {P : Program} {w : World} {K : PySem.W.Frag} {mg : Str → Option Value} {base : Heap} {N ps : List Str} {x qual : Str} {st : Stmt} {f : Addr} {fd : FuncData} {k : Nat} {sp : Sp} {dvs : List V} {kws : List (Str × V)}
/-- .. where the def's code object is known -/
theorem fnok_code {p : Str × Option Str} (hp : He.fAd K p = f) (F : FunD K x qual (defArgs st) (defBody st) (defScope st) dvs kws f fd) (S : FnScope N ps (defScope st)) (len : ∀ vs H Q E, sp vs H Q E → vs.length = ps.length)
    (hb : ∀ (A : Around) (outer : List Env) (s : Shared) (H : Hp) (vs : List V) (Q : VK) (E : XK), Room k (A.deeper (envOfC qual (defScope st) s.heap.objs.size f (.ref (He.codeOf K p)))) → sp vs H Q E →
      ∃ t, PSs (cxOf C8.CX0 P w K mg base N qual (defScope st) f (.ref (He.codeOf K p)) A outer s H E).nox (defBody st) t ∧ t { nx := fun _ H' => Q .non H', rt := Q } (L2.start N vs) H) : FnOk P w K mg base C8.CX0 (k + 1) f fd ps sp := by
  obtain ⟨oc, od, dV, kV, doc, pm, an, cdv, ct, osl, rfl, lk, hcd, _, _⟩ := F.ex
  obtain ⟨c, rfl⟩ : ∃ c, cdv = .ref c := by
    unfold PySem.W.codeIn at hcd
    split at hcd
    · exact ⟨_, rfl⟩
    · cases hcd
  have e : He.codeOf K p = c := He.codeOf_eq (by rw [hp]; exact lk) rfl
  rw [e] at hb
  exact fn_of lk hcd S len fun A outer s H vs Q E hr hsp => let ⟨t, ht, q⟩ := hb A outer s H vs Q E hr hsp; ⟨t, ht.nox, q⟩
end
end Rs
/-! text R27 -/
set_option Elab.async false
set_option linter.all false
set_option maxRecDepth 100000
set_option maxHeartbeats 4000000
namespace Rs
open PySem PySem.Spec PyProof.Rows L2 LamX
def lamS1B (sc scope : Scope) (x : Str) : Bool :=
  decide (scope.kind = .function) && !scope.isCoroutine && !scope.isGenerator && (scope.names.all fun y => !decide (y.2 = .cell) && (!decide (y.2 = .local) || decide (y.1 = x)) && (!decide (y.2 = .free) || decide (sc.names.lookup y.1 = some .cell) || decide (sc.names.lookup y.1 = some .free))) && decide (scope.names.lookup x = some .local)
theorem lamS1_by {sc scope : Scope} {x : Str} (h : lamS1B sc scope x = true) : LamS1 sc scope x := by
  unfold lamS1B at h
  simp only [Bool.and_eq_true, Bool.or_eq_true, Bool.not_eq_true', decide_eq_true_eq, decide_eq_false_iff_not, List.all_eq_true] at h
  obtain ⟨⟨⟨⟨h1, h2⟩, h3⟩, h4⟩, h5⟩ := h
  refine ⟨h1, h2, h3, fun y hy => ⟨(h4 y hy).1.1, fun e => ?_⟩, h5, fun y hy e => ?_⟩
  · rcases (h4 y hy).1.2 with z | z
    · exact absurd e z
    · exact z
  · rcases (h4 y hy).2 with (z | z) | z
    · exact absurd e z
    · exact .inl z
    · exact .inr z
section
variable {X : Cx} {K : PySem.W.Frag} {c P : Addr} {k : Nat} {params : Arguments} {body : Expr} {scope : Scope} {x q : Str} {tb : TE} {t : TA} {e : Expr} {p lpos kpos pos : Pos}
theorem pe_sortedL1 (hK : X.K = K) (ha : PA X [e] t) (hg : Gl X "sorted") (hm : X.mg "sorted" = none) (hv : bootBuiltins "sorted" = some (.builtin "sorted")) (TB : TabB X.base X.mg c P) (hcode : X.env.code = .ref c) (hq : X.env.qual ++ "<lambda>" = q) (hr : Room (k + 3) X.A)
    (L : lamS1B X.env.scope scope x = true) (hx : X.N.contains x = false) (hdef : defaultsOf params X.env = ([], []))
    (hbind : ∀ (q : Str) (cl : List (Str × Addr)) (pm cv ctv u : Value), bindArgs (PySem.W.kla_fn "<lambda>" q params body scope cl pm cv ctv) ⟨[u], []⟩ = pure [(x, u)])
    (hbody : ∀ (A : Around) (s : Shared) (H : Hp) (f c' : Addr), Room k (A.deeper (lamEnv X scope s.heap.objs.size f c')) → PE (lamCx1 X A X.stack s H C8.E0 scope f c' x) body tb)
    (he : backTo pos (starEach [e] X.env) = (false, eval e X.env) :: backTo pos (starEach [] X.env) := by rfl) (hpl : (backTo pos (starEach [e] X.env)).any (·.1) = false := by rfl) :
    PE X (.Call (.Name "sorted" p) [e] [⟨some "key", .Lambda params body scope lpos, kpos⟩] pos) (tSortL K P [(P, q)] tb t) :=
  pe_sortedL (T := [(P, q)]) hK ha hg hm hv TB hcode (by rw [hq]; exact List.mem_cons_self ..) (fun p hp _ => by rw [List.mem_singleton.mp hp, hq]) hr (lamS1_by L) (fun hm => by
    have := List.contains_iff_mem.mpr hm
    rw [hx] at this
    cases this) hdef hbind hbody he hpl
end
end Rs
/-! text Rls -/
set_option Elab.async false
set_option linter.all false
set_option maxRecDepth 100000
set_option maxHeartbeats 4000000
namespace Rs
open PySem PySem.Spec PyProof.Rows L2
/-! ### one arrangement only -/
theorem perm_sorted_eq {α : Type} {r : α → α → Prop} : ∀ {l m : List α}, l.Perm m → l.Pairwise r → m.Pairwise r → (∀ a b, a ∈ l → b ∈ l → r a b → r b a → a = b) → l = m
  | [], m, p, _, _, _ => (List.nil_perm.mp p).symm ▸ rfl
  | a :: l, [], p, _, _, _ => absurd p.length_eq (by simp)
  | a :: l, b :: m, p, h1, h2, anti => by
    have hab : a = b := by
      have ha : a ∈ b :: m := p.mem_iff.mp (List.mem_cons_self ..)
      have hb : b ∈ a :: l := p.mem_iff.mpr (List.mem_cons_self ..)
      rcases List.mem_cons.mp ha with e | ha
      · exact e
      · rcases List.mem_cons.mp hb with e | hb
        · exact e.symm
        · exact anti a b (List.mem_cons_self ..) (List.mem_cons_of_mem _ hb) ((List.pairwise_cons.mp h1).1 b hb) ((List.pairwise_cons.mp h2).1 a ha)
    subst hab
    rw [perm_sorted_eq (List.Perm.cons_inv p) (List.pairwise_cons.mp h1).2 (List.pairwise_cons.mp h2).2 fun x y hx hy => anti x y (List.mem_cons_of_mem _ hx) (List.mem_cons_of_mem _ hy)]
theorem all2_zip {α : Type} {R : Rep α} {F : Hp} {xs : List V} {l : List α} (h : All2 R F xs l) : ∀ q ∈ xs.zip l, R F q.1 q.2 := by
  induction h with
  | nil => intro q hq; cases hq
  | cons r t ih =>
    intro q hq
    rcases List.mem_cons.mp hq with rfl | hq
    · exact r
    · exact ih q hq
theorem all2_of {α : Type} {R : Rep α} {F : Hp} : ∀ {l : List (V × α)}, (∀ q ∈ l, R F q.1 q.2) → All2 R F (l.map (·.1)) (l.map (·.2))
  | [], _ => Paired.nil
  | q :: l, h => Paired.cons (h q (List.mem_cons_self ..)) (all2_of fun r hr => h r (List.mem_cons_of_mem _ hr))
theorem sortedK_rep {α : Type} {R : Rep α} {F : Hp} {kz : List Int} {xs ys : List V} {l : List α} (r : All2 R F xs l) (h : SortedK kz xs ys) : ∃ out, All2 R F ys out ∧ SortedK kz l out := by
  obtain ⟨ps, p1, p2, p3⟩ := h
  have hl := r.length
  have e1 : kz.zip xs = (kz.zip (xs.zip l)).map fun t => (t.1, t.2.1) := by
    have := List.zip_map_right (l₁ := kz) (l₂ := xs.zip l) (f := fun q : V × α => q.1)
    rw [zip_fst' hl] at this
    rw [this]
    rfl
  have e2 : (kz.zip (xs.zip l)).map (fun t => (t.1, t.2.2)) = kz.zip l := by
    have := List.zip_map_right (l₁ := kz) (l₂ := xs.zip l) (f := fun q : V × α => q.2)
    rw [zip_snd' hl] at this
    rw [this]
    rfl
  obtain ⟨l', q1, q2⟩ := perm_lift p1 e1
  refine ⟨(l'.map (·.2)).map (·.2), ?_, l'.map fun t => (t.1, t.2.2), ?_, ?_, ?_⟩
  · have e3 : List.map Prod.snd (List.map (fun t : Int × V × α => (t.1, t.2.1)) l') = (l'.map (·.2)).map (·.1) := by
      rw [List.map_map, List.map_map]
      rfl
    rw [p2, ← q2, e3]
    refine all2_of fun q hq => ?_
    obtain ⟨t, ht, rfl⟩ := List.mem_map.mp hq
    exact all2_zip r _ (List.of_mem_zip (q1.mem_iff.mp ht)).2
  · rw [← e2]
    exact q1.map _
  · rw [List.map_map, List.map_map]
    rfl
  · rw [← q2, List.pairwise_map] at p3
    rw [List.pairwise_map]
    exact p3
/-- a layer in the order of the events' places -/
def lsort (names : List Str) (l : List (Str × List Int)) : List (Str × List Int) := l.mergeSort fun a b => decide (names.idxOf a.1 ≤ names.idxOf b.1)
theorem zip_map_self {α β : Type} (f : α → β) : ∀ l : List α, (l.map f).zip l = l.map fun q => (f q, q)
  | [] => rfl
  | a :: l => by rw [List.map_cons, List.zip_cons_cons, zip_map_self f l]; rfl
theorem nodup_fst_inj {α β : Type} : ∀ {l : List (α × β)}, (l.map (·.1)).Nodup → ∀ {a b : α × β}, a ∈ l → b ∈ l → a.1 = b.1 → a = b
  | c :: l, hd, a, b, ha, hb, e => by
    rw [List.map_cons, List.nodup_cons] at hd
    rcases List.mem_cons.mp ha with e1 | h1 <;> rcases List.mem_cons.mp hb with e2 | h2
    · rw [e1, e2]
    · exact absurd (by rw [← e1, e]; exact List.mem_map_of_mem h2) hd.1
    · exact absurd (by rw [← e2, ← e]; exact List.mem_map_of_mem h1) hd.1
    · exact nodup_fst_inj hd.2 h1 h2 e
theorem idxOf_inj' {names : List Str} {a b : Str} (ha : a ∈ names) (hb : b ∈ names) (h : names.idxOf a = names.idxOf b) : a = b := by
  have h1 := List.getElem_idxOf (List.idxOf_lt_length_iff.mpr ha)
  have h2 := List.getElem_idxOf (List.idxOf_lt_length_iff.mpr hb)
  rw [← h1, ← h2]
  congr 1
theorem lsort_uniq {names : List Str} {l out : List (Str × List Int)} (hn : ∀ q ∈ l, q.1 ∈ names) (hd : (l.map (·.1)).Nodup) (hs : SortedK (l.map fun q => ((names.idxOf q.1 : Nat) : Int)) l out) : out = lsort names l := by
  obtain ⟨ps, p1, p2, p3⟩ := hs
  rw [zip_map_self] at p1
  have hp : ∀ t ∈ ps, t.1 = ((names.idxOf t.2.1 : Nat) : Int) ∧ t.2 ∈ l := fun t ht => by
    obtain ⟨q, hq, rfl⟩ := List.mem_map.mp (p1.mem_iff.mp ht)
    exact ⟨rfl, hq⟩
  have ho : out.Perm l := by
    rw [p2]
    have := p1.map Prod.snd
    rw [List.map_map] at this
    have e : l.map (Prod.snd ∘ fun q : Str × List Int => (((names.idxOf q.1 : Nat) : Int), q)) = l := List.map_id' l
    rw [e] at this
    exact this
  refine perm_sorted_eq (r := fun a b => names.idxOf a.1 ≤ names.idxOf b.1) (ho.trans (List.mergeSort_perm _ _).symm) ?_ ?_ ?_
  · rw [p2, List.pairwise_map]
    refine p3.imp_of_mem fun {a b} ha hb h => ?_
    rw [(hp a ha).1, (hp b hb).1] at h
    exact Int.ofNat_le.mp h
  · have := List.pairwise_mergeSort (le := fun a b : Str × List Int => decide (names.idxOf a.1 ≤ names.idxOf b.1)) (fun a b c h1 h2 => decide_eq_true (Nat.le_trans (of_decide_eq_true h1) (of_decide_eq_true h2))) (fun a b => by
      rcases Nat.le_total (names.idxOf a.1) (names.idxOf b.1) with h | h
      · rw [decide_eq_true h]; rfl
      · rw [decide_eq_true h, Bool.or_true]) l
    exact this.imp fun h => of_decide_eq_true h
  · intro a b ha hb h1 h2
    have ha := ho.mem_iff.mp ha
    have hb := ho.mem_iff.mp hb
    exact nodup_fst_inj hd ha hb (idxOf_inj' (hn a ha) (hn b hb) (Nat.le_antisymm h1 h2))
end Rs
/-! text R28 -/
set_option Elab.async false
set_option linter.all false
set_option maxRecDepth 100000
set_option maxHeartbeats 4000000
namespace Rs
open PySem PySem.Spec PyProof.Rows L2
/-! ### layers of pieces -/
abbrev Pc : Type := Str × List Int
def maxL (l : List Int) : Int := l.foldr max 0
theorem maxL_nn (l : List Int) : 0 ≤ maxL l := by
  induction l with
  | nil => exact Int.le_refl _
  | cons a l ih => exact Int.le_trans ih (Int.le_max_right ..)
theorem maxL_le {l : List Int} : ∀ y ∈ l, y ≤ maxL l := by
  induction l with
  | nil => intro y hy; cases hy
  | cons a l ih =>
    intro y hy
    rcases List.mem_cons.mp hy with rfl | hy
    · exact Int.le_max_left ..
    · exact Int.le_trans (ih y hy) (Int.le_max_right ..)
theorem maxL_mem {l : List Int} (h0 : ∀ y ∈ l, 0 ≤ y) (hne : l ≠ []) : maxL l ∈ l := by
  induction l with
  | nil => exact absurd rfl hne
  | cons a l ih =>
    show max a (maxL l) ∈ a :: l
    by_cases hl : l = []
    · subst hl
      have : max a (maxL []) = a := by
        show max a 0 = a
        exact Int.max_eq_left (h0 a (List.mem_cons_self ..))
      rw [this]
      exact List.mem_cons_self ..
    · have := ih (fun y hy => h0 y (List.mem_cons_of_mem _ hy)) hl
      rcases Int.le_total a (maxL l) with h | h
      · rw [Int.max_eq_right h]
        exact List.mem_cons_of_mem _ this
      · rw [Int.max_eq_left h]
        exact List.mem_cons_self ..
def nlG (nl : List (Str × Int)) (x : Str) : Int := (nl.lookup x).getD 0
def nlS (nl : List (Str × Int)) (x : Str) (v : Int) : List (Str × Int) := nl.map fun q => if q.1 = x then (q.1, v) else q
def lvlF (nl : List (Str × Int)) (sc : List Str) : Int := maxL (sc.map (nlG nl))
def lyAdd (ls : List (List Pc)) (lv : Nat) (q : Pc) : List (List Pc) := let ls' := if lv = ls.length then ls ++ [[]] else ls; ls'.set lv ((ls'[lv]?).getD [] ++ [q])
def lyStep (D : PD) (st : List (List Pc) × List (Str × Int)) (q : Pc) : List (List Pc) × List (Str × Int) :=
  (lyAdd st.1 (lvlF st.2 (D.sc q.1)).toNat q, (D.sc q.1).foldl (fun nl x => nlS nl x (lvlF st.2 (D.sc q.1) + 1)) st.2)
def lyAll (D : PD) (l : List Pc) : List (List Pc) × List (Str × Int) := l.foldl (lyStep D) ([], D.vars.map fun v => (v.1, 0))
def layersF (D : PD) (l : List Pc) : List (List Pc) := (lyAll D l).1.map (lsort D.names)
theorem nlS_keys (nl : List (Str × Int)) (x : Str) (v : Int) : (nlS nl x v).map (·.1) = nl.map (·.1) := by
  unfold nlS
  rw [List.map_map]
  refine List.map_congr_left fun q _ => ?_
  show (if q.1 = x then (q.1, v) else q).1 = q.1
  split <;> rfl
theorem nlG_same {x : Str} {v : Int} : ∀ {nl : List (Str × Int)}, x ∈ nl.map (·.1) → nlG (nlS nl x v) x = v
  | q :: nl, h => by
    unfold nlG nlS
    rw [List.map_cons]
    by_cases hq : q.1 = x
    · rw [if_pos hq, hq, List.lookup_cons_self]
      rfl
    · rw [if_neg hq]
      have hx : x ∈ nl.map (·.1) := by
        rcases List.mem_cons.mp h with e | h
        · exact absurd e.symm hq
        · exact h
      rw [List.lookup_cons, show (x == q.1) = false from beq_false_of_ne fun e => hq e.symm]
      exact nlG_same hx
theorem nlG_other {x y : Str} {v : Int} (h : ¬ y = x) : ∀ {nl : List (Str × Int)}, nlG (nlS nl x v) y = nlG nl y
  | [] => rfl
  | q :: nl => by
    have ih := nlG_other (v := v) h (nl := nl)
    unfold nlG nlS at *
    rw [List.map_cons]
    by_cases hq : q.1 = x
    · rw [if_pos hq, List.lookup_cons, List.lookup_cons, show (y == q.1) = false from beq_false_of_ne fun e => h (e.trans hq)]
      exact ih
    · rw [if_neg hq, List.lookup_cons, List.lookup_cons]
      split
      · rfl
      · exact ih
theorem nlF_keys {v : Int} : ∀ {sc : List Str} {nl : List (Str × Int)}, (sc.foldl (fun nl x => nlS nl x v) nl).map (·.1) = nl.map (·.1)
  | [], _ => rfl
  | x :: sc, nl => (nlF_keys (sc := sc)).trans (nlS_keys nl x v)
theorem nlF_get {v : Int} {y : Str} : ∀ {sc : List Str} {nl : List (Str × Int)}, (∀ x ∈ sc, x ∈ nl.map (·.1)) → nlG (sc.foldl (fun nl x => nlS nl x v) nl) y = if y ∈ sc then v else nlG nl y
  | [], nl, _ => by rw [if_neg (fun h => by cases h)]; rfl
  | x :: sc, nl, h => by
    show nlG (sc.foldl (fun nl x => nlS nl x v) (nlS nl x v)) y = _
    rw [nlF_get (fun z hz => by rw [nlS_keys]; exact h z (List.mem_cons_of_mem _ hz))]
    by_cases hy : y ∈ sc
    · rw [if_pos hy, if_pos (List.mem_cons_of_mem _ hy)]
    · rw [if_neg hy]
      by_cases hx : y = x
      · rw [hx, nlG_same (h x (List.mem_cons_self ..)), if_pos (List.mem_cons_self ..)]
      · rw [nlG_other hx, if_neg (fun hm => by
          rcases List.mem_cons.mp hm with e | e
          · exact hx e
          · exact hy e)]
theorem lyAdd_len {ls : List (List Pc)} {n : Nat} {q : Pc} (h : n ≤ ls.length) : ls.length ≤ (lyAdd ls n q).length ∧ n + 1 ≤ (lyAdd ls n q).length ∧ (lyAdd ls n q).length ≤ ls.length + 1 := by
  unfold lyAdd
  dsimp only
  rw [List.length_set]
  split
  · rw [List.length_append, List.length_singleton]
    omega
  · omega
theorem lyAdd_get {ls : List (List Pc)} {n : Nat} {q : Pc} (h : n ≤ ls.length) (i : Nat) : (lyAdd ls n q)[i]? = if i = n then some ((ls[n]?).getD [] ++ [q]) else ls[i]? := by
  unfold lyAdd
  dsimp only
  rw [List.getElem?_set]
  by_cases hn : n = ls.length
  · rw [if_pos hn]
    by_cases hi : i = n
    · subst hi
      rw [if_pos rfl, if_pos rfl, if_pos (by rw [List.length_append, List.length_singleton]; omega)]
      rw [hn, List.getElem?_append_right (Nat.le_refl _), Nat.sub_self, List.getElem?_eq_none (Nat.le_refl ls.length)]
      rfl
    · rw [if_neg (fun e => hi e.symm), if_neg hi]
      by_cases hl : i < ls.length
      · rw [List.getElem?_append_left hl]
      · rw [List.getElem?_eq_none (by rw [List.length_append, List.length_singleton]; omega), List.getElem?_eq_none (by omega)]
  · rw [if_neg hn]
    by_cases hi : i = n
    · subst hi
      rw [if_pos rfl, if_pos rfl, if_pos (by omega)]
    · rw [if_neg (fun e => hi e.symm), if_neg hi]
structure LyOk (D : PD) (st : List (List Pc) × List (Str × Int)) : Prop where
  keys : st.2.map (·.1) = D.vars.map (·.1)
  nn : ∀ x ∈ D.vars.map (·.1), 0 ≤ nlG st.2 x ∧ nlG st.2 x ≤ st.1.length
  pc : ∀ (i : Nat) (layer : List Pc), st.1[i]? = some layer → (layer.map (·.1)).Nodup ∧ ∀ q ∈ layer, okPc D q ∧ ∀ x ∈ D.sc q.1, (i : Int) < nlG st.2 x
theorem lvl_in {D : PD} {st : List (List Pc) × List (Str × Int)} {sc : List Str} (h : LyOk D st) (osc : okScope D.vars sc) : 0 ≤ lvlF st.2 sc ∧ lvlF st.2 sc ≤ st.1.length ∧ (∀ x ∈ sc, nlG st.2 x ≤ lvlF st.2 sc) := by
  have hne : sc.map (nlG st.2) ≠ [] := fun e => by
    have := congrArg List.length e
    rw [List.length_map] at this
    have h1 := osc.1.1
    simp only [List.length_nil] at this
    omega
  have hm := maxL_mem (l := sc.map (nlG st.2)) (fun y hy => by
    obtain ⟨x, hx, rfl⟩ := List.mem_map.mp hy
    exact (h.nn x (osc.2.2 x hx)).1) hne
  obtain ⟨x, hx, e⟩ := List.mem_map.mp hm
  refine ⟨maxL_nn _, ?_, fun y hy => maxL_le _ (List.mem_map_of_mem hy)⟩
  show maxL _ ≤ _
  rw [← e]
  exact (h.nn x (osc.2.2 x hx)).2
theorem ly_step {D : PD} {st : List (List Pc) × List (Str × Int)} {q : Pc} (ok : D.Ok) (h : LyOk D st) (hq : okPc D q) : LyOk D (lyStep D st q) := by
  have osc := scope_of ok (sc_of hq.1)
  obtain ⟨l0, l1, l2⟩ := lvl_in h osc
  have hsub : ∀ x ∈ D.sc q.1, x ∈ st.2.map (·.1) := fun x hx => by rw [h.keys]; exact osc.2.2 x hx
  have hn : (lvlF st.2 (D.sc q.1)).toNat ≤ st.1.length := by omega
  obtain ⟨k1, k2, k3⟩ := lyAdd_len (q := q) hn
  have hget : ∀ y, nlG (lyStep D st q).2 y = if y ∈ D.sc q.1 then lvlF st.2 (D.sc q.1) + 1 else nlG st.2 y := fun y => nlF_get hsub
  have hmono : ∀ y, y ∈ D.vars.map (·.1) → nlG st.2 y ≤ nlG (lyStep D st q).2 y := fun y hy => by
    rw [hget]
    split
    · rename_i hy
      have := l2 y hy
      omega
    · exact Int.le_refl _
  refine ⟨nlF_keys.trans h.keys, fun x hx => ?_, fun i layer hi => ?_⟩
  · have := h.nn x hx
    rw [hget]
    show _ ∧ _ ≤ (((lyAdd st.1 (lvlF st.2 (D.sc q.1)).toNat q).length : Nat) : Int)
    split <;> omega
  · have hi : (lyAdd st.1 (lvlF st.2 (D.sc q.1)).toNat q)[i]? = some layer := hi
    rw [lyAdd_get hn] at hi
    have old : ∀ (l0 : List Pc), st.1[i]? = some l0 → (l0.map (·.1)).Nodup ∧ ∀ p ∈ l0, okPc D p ∧ ∀ x ∈ D.sc p.1, (i : Int) < nlG (lyStep D st q).2 x := fun l0 hl => by
      obtain ⟨a, b⟩ := h.pc i l0 hl
      refine ⟨a, fun p hp => ⟨(b p hp).1, fun x hx => ?_⟩⟩
      exact Int.lt_of_lt_of_le ((b p hp).2 x hx) (hmono x ((scope_of ok (sc_of (b p hp).1.1)).2.2 x hx))
    by_cases hin : i = (lvlF st.2 (D.sc q.1)).toNat
    · rw [if_pos hin] at hi
      cases hi
      have old' : ((((st.1[i]?).getD []).map (·.1)).Nodup ∧ ∀ p ∈ (st.1[i]?).getD [], okPc D p ∧ (∀ x ∈ D.sc p.1, (i : Int) < nlG (lyStep D st q).2 x) ∧ ∀ x ∈ D.sc p.1, (i : Int) < nlG st.2 x) := by
        cases hz : st.1[i]? with
        | none => exact ⟨List.nodup_nil, fun p hp => by cases hp⟩
        | some l0 =>
          refine ⟨(old l0 hz).1, fun p hp => ⟨((old l0 hz).2 p hp).1, ((old l0 hz).2 p hp).2, ((h.pc i l0 hz).2 p hp).2⟩⟩
      rw [← hin]
      have hsn : ∃ x, x ∈ D.sc q.1 := List.exists_mem_of_length_pos osc.1.1
      obtain ⟨x0, hx0⟩ := hsn
      refine ⟨?_, fun p hp => ?_⟩
      · rw [List.map_append, List.nodup_append]
        refine ⟨old'.1, by simp, fun a ha b hb e => ?_⟩
        have hb : b = q.1 := by simpa using hb
        obtain ⟨p, hp, hpa⟩ := List.mem_map.mp ha
        have e2 : p.1 = q.1 := hpa.trans (e.trans hb)
        have h1 := (old'.2 p hp).2.2 x0 (by rw [e2]; exact hx0)
        have h2 := l2 x0 hx0
        omega
      · rcases List.mem_append.mp hp with hp | hp
        · exact ⟨(old'.2 p hp).1, (old'.2 p hp).2.1⟩
        · have e : p = q := by simpa using hp
          rw [e]
          refine ⟨hq, fun x hx => ?_⟩
          rw [hget, if_pos hx]
          omega
    · rw [if_neg hin] at hi
      exact old layer hi
theorem look0 {x : Str} : ∀ {l : List (Str × Int)}, nlG (l.map fun v => (v.1, 0)) x = 0
  | [] => rfl
  | q :: l => by
    have ih := look0 (x := x) (l := l)
    unfold nlG at *
    rw [List.map_cons, List.lookup_cons]
    split
    · rfl
    · exact ih
theorem ly_start (D : PD) : LyOk D ([], D.vars.map fun v => (v.1, 0)) := by
  refine ⟨?_, fun x hx => ?_, fun i layer hi => ?_⟩
  · rw [List.map_map]
    rfl
  · show 0 ≤ nlG (D.vars.map fun v => (v.1, 0)) x ∧ nlG (D.vars.map fun v => (v.1, 0)) x ≤ ((0 : Nat) : Int)
    rw [look0]
    exact ⟨Int.le_refl _, Int.le_refl _⟩
  · cases hi
theorem ly_take {D : PD} {l : List Pc} (ok : D.Ok) (h : ∀ q ∈ l, okPc D q) : ∀ i, i ≤ l.length → LyOk D (lyAll D (l.take i)) ∧ (lyAll D (l.take i)).1.length ≤ i
  | 0, _ => ⟨ly_start D, Nat.le_refl _⟩
  | i + 1, hi => by
    obtain ⟨h1, h2⟩ := ly_take ok h i (by omega)
    have hg : l[i]? = some l[i] := List.getElem?_eq_getElem (by omega)
    have hq := h _ (List.getElem_mem (by omega : i < l.length))
    unfold lyAll at *
    rw [fold_take _ _ hg]
    generalize List.foldl (lyStep D) ([], D.vars.map fun v => (v.1, 0)) (l.take i) = st at *
    refine ⟨ly_step ok h1 hq, ?_⟩
    obtain ⟨l0, l1, _⟩ := lvl_in h1 (scope_of ok (sc_of hq.1))
    have := (lyAdd_len (ls := st.1) (n := (lvlF st.2 (D.sc l[i].1)).toNat) (q := l[i]) (by omega)).2.2
    exact Nat.le_trans this (Nat.succ_le_succ h2)
end Rs
/-! text Rly -/
set_option Elab.async false
set_option linter.all false
set_option maxRecDepth 100000
set_option maxHeartbeats 4000000
namespace Rs
open PySem PySem.Spec PyProof.Rows L2 LamX
abbrev rPc (K : PySem.W.Frag) : Rep Pc := r2 K rS (rU K rI)
abbrev lamQ : Str := "layers_of.<locals>.<lambda>"
/-- only the table PT may be written -/
abbrev GrT (PT : Addr) (F H F' H' : Hp) : Prop := Gr (fun b => b = PT) F H F' H'
/-- the table of the lambda's code objects, as it must stand -/
structure Tb (PT : Addr) (F H : Hp) : Prop where
  f : F PT = none
  t : TabS H PT lamQ
theorem Tb.some {PT : Addr} {F H : Hp} (t : Tb PT F H) : ∃ q, H PT = some (.tbl q) := let ⟨q, h, _⟩ := t.t; ⟨q, h⟩
theorem Tb.pu {PT : Addr} {F H F' H' : Hp} (t : Tb PT F H) (g : Pu F H F' H') : Tb PT F' H' := by
  obtain ⟨q, h⟩ := t.some
  exact ⟨g.nw PT t.f (by rw [h]; exact fun z => nomatch z), t.t.ext (Gr.hh g)⟩
theorem Tb.ne {PT p : Addr} {F H : Hp} {o : HO} (t : Tb PT F H) (m : Mt F H p o) (n : ∀ q, o ≠ .tbl q) : p ≠ PT := by
  rintro rfl
  obtain ⟨q, h⟩ := t.some
  rw [m.h] at h
  exact n q (Option.some.inj h)
theorem Tb.new {PT p : Addr} {F H : Hp} (t : Tb PT F H) (h : H p = none) : p ≠ PT := by
  rintro rfl
  obtain ⟨q, e⟩ := t.some
  rw [h] at e
  cases e
theorem Tb.set {PT p : Addr} {F H : Hp} {u o : HO} (t : Tb PT F H) (m : Mt F H p u) (n : ∀ q, u ≠ .tbl q) (hn : ∀ c q, u ≠ CodeO c q) : Tb PT F (upd H p o) := by
  have ne := t.ne m n
  obtain ⟨ps, h1, h2, h3⟩ := t.t
  refine ⟨t.f, ps, by rw [upd_ne ne.symm]; exact h1, h2, fun pos cv hc => ?_⟩
  obtain ⟨c, e1, e2⟩ := h3 pos cv hc
  refine ⟨c, e1, ?_⟩
  rw [upd_ne]
  · exact e2
  · rintro rfl
    rw [m.h] at e2
    exact hn _ _ (Option.some.inj e2)
/-- the layers as they grow: all lists of our own making -/
structure LyAt (K : PySem.W.Frag) (H0 F H : Hp) (la dt : Addr) (as : List Addr) (st : List (List Pc) × List (Str × Int)) : Prop where
  mla : Mt F H la (.lst (as.map V.ref))
  mdt : Mt F H dt (.dK (posK st.2))
  nla : H0 la = none
  ndt : H0 dt = none
  nd : as.Nodup
  new : ∀ a ∈ as, H0 a = none
  lays : Paired (fun (a : Addr) (layer : List Pc) => ∃ xs, Mt F H a (.lst xs) ∧ All2 (rPc K) F xs layer) as st.1
  lan : la ∉ as
theorem Paired.mapM {α β : Type} {R S : α → β → Prop} : ∀ {l : List α} {m : List β}, Paired R l m → (∀ a b, a ∈ l → R a b → S a b) → Paired S l m
  | _, _, Paired.nil, _ => Paired.nil
  | _, _, Paired.cons r t, h => Paired.cons (h _ _ (List.mem_cons_self ..) r) (Paired.mapM t fun a b ha => h a b (List.mem_cons_of_mem _ ha))
theorem pair_at {α β : Type} {R : α → β → Prop} : ∀ {l : List α} {m : List β}, Paired R l m → ∀ {n : Nat} {b : β}, m[n]? = some b → ∃ a, l[n]? = some a ∧ R a b
  | _, _, Paired.nil, _, _, h => by cases h
  | _, _, Paired.cons r t, 0, b, h => by
    cases (show some _ = some b from h)
    exact ⟨_, rfl, r⟩
  | _, _, Paired.cons r t, n + 1, b, h => pair_at t (n := n) (b := b) h
theorem pair_set {α β : Type} {R S : α → β → Prop} : ∀ {l : List α} {m : List β}, Paired R l m → ∀ {n : Nat} {a : α} {b : β}, l[n]? = some a → l.Nodup → S a b → (∀ a' b', a' ∈ l → a' ≠ a → R a' b' → S a' b') → Paired S l (m.set n b)
  | _, _, Paired.nil, _, _, _, h, _, _, _ => by cases h
  | _, _, Paired.cons r t, 0, a, b, h, nd, hs, hr => by
    cases (show some _ = some a from h)
    exact Paired.cons hs (Paired.mapM t fun a' b' ha' => hr a' b' (List.mem_cons_of_mem _ ha') fun z => (List.nodup_cons.mp nd).1 (z ▸ ha'))
  | _, _, Paired.cons (a := c) (l₁ := l) r t, n + 1, a, b, h, nd, hs, hr =>
    Paired.cons (hr _ _ (List.mem_cons_self ..) (fun z => (List.nodup_cons.mp nd).1 (z ▸ List.mem_of_getElem? (i := n) (show l[n]? = some a from h))) r) (pair_set t (n := n) h (List.nodup_cons.mp nd).2 hs fun a' b' ha' => hr a' b' (List.mem_cons_of_mem _ ha'))
section
variable {K : PySem.W.Frag} {H0 F H : Hp} {la dt : Addr} {as : List Addr}
theorem LyAt.pu {F' H' : Hp} {st : List (List Pc) × List (Str × Int)} (h : LyAt K H0 F H la dt as st) (g : Pu F H F' H') : LyAt K H0 F' H' la dt as st :=
  ⟨h.mla.pu g, h.mdt.pu g, h.nla, h.ndt, h.nd, h.new, Paired.mapP h.lays fun a layer ⟨xs, m, r⟩ => ⟨xs, m.pu g, r.up g.f⟩, h.lan⟩
theorem LyAt.old {st : List (List Pc) × List (Str × Int)} (h : LyAt K H0 F H la dt as st) {a : Addr} (ha : a ∈ as) : ∃ xs, Mt F H a (.lst xs) := by
  obtain ⟨n, hn⟩ := List.getElem?_of_mem ha
  have hl := Paired.length h.lays
  have hn2 : n < st.1.length := by rw [← hl]; exact (List.getElem?_eq_some_iff.mp hn).1
  obtain ⟨b, hb, xs, m, _⟩ := pair_at h.lays (List.getElem?_eq_getElem hn2)
  rw [hn] at hb
  cases hb
  exact ⟨xs, m⟩
theorem LyAt.grow {a : Addr} {ls : List (List Pc)} {nl : List (Str × Int)} (h : LyAt K H0 F H la dt as (ls, nl)) (e : Same F H) (na : H a = none) (n0 : H0 a = none) :
    LyAt K H0 F (upd (upd H a (.lst [])) la (.lst (as.map V.ref ++ [.ref a]))) la dt (as ++ [a]) (ls ++ [[]], nl) := by
  have ala : a ≠ la := fun z => by have := h.mla.h; rw [← z, na] at this; cases this
  have adt : a ≠ dt := fun z => by have := h.mdt.h; rw [← z, na] at this; cases this
  have ld : la ≠ dt := h.mla.ne' h.mdt (by intro z; cases z)
  have nas : a ∉ as := fun hm => by
    obtain ⟨xs, m⟩ := h.old hm
    have := m.h
    rw [na] at this
    cases this
  have em : as.map V.ref ++ [.ref a] = (as ++ [a]).map V.ref := by rw [List.map_append]; rfl
  rw [em]
  refine ⟨⟨h.mla.n, upd_same⟩, ⟨h.mdt.n, by rw [upd_ne ld.symm, upd_ne adt.symm]; exact h.mdt.h⟩, h.nla, h.ndt, ?_, fun b hb => ?_, ?_, fun hm => ?_⟩
  · rw [List.nodup_append]
    exact ⟨h.nd, by simp, fun x hx y hy z => nas (by rw [← List.mem_singleton.mp hy, ← z]; exact hx)⟩
  · rcases List.mem_append.mp hb with hb | hb
    · exact h.new b hb
    · rw [List.mem_singleton.mp hb]; exact n0
  · refine Paired.snoc (Paired.mapM h.lays fun b layer hb ⟨xs, m, r⟩ => ⟨xs, ⟨m.n, ?_⟩, r⟩) ⟨[], ⟨e.free na, by rw [upd_ne ala, upd_same]⟩, Paired.nil⟩
    rw [upd_ne (show b ≠ la from fun z => h.lan (z ▸ hb)), upd_ne (show b ≠ a from fun z => nas (z ▸ hb))]
    exact m.h
  · rcases List.mem_append.mp hm with hm | hm
    · exact h.lan hm
    · exact ala (List.mem_singleton.mp hm).symm
theorem LyAt.app {ls : List (List Pc)} {nl : List (Str × Int)} {n : Nat} {layer : List Pc} {v : V} {q : Pc} (h : LyAt K H0 F H la dt as (ls, nl)) (hl : ls[n]? = some layer) (hv : rPc K F v q) :
    ∃ a xs, as[n]? = some a ∧ Mt F H a (.lst xs) ∧ xs.length = layer.length ∧ H0 a = none ∧ LyAt K H0 F (upd H a (.lst (xs ++ [v]))) la dt as (ls.set n (layer ++ [q]), nl) := by
  obtain ⟨a, ha, xs, m, r⟩ := pair_at h.lays hl
  have ham := List.mem_of_getElem? ha
  have lne : la ≠ a := fun z => h.lan (z ▸ ham)
  have dne : dt ≠ a := h.mdt.ne' m (by intro z; cases z)
  refine ⟨a, xs, ha, m, r.length, h.new a ham, h.mla.other lne, h.mdt.other dne, h.nla, h.ndt, h.nd, h.new, ?_, h.lan⟩
  refine pair_set h.lays ha h.nd ⟨xs ++ [v], m.set, r.snoc hv⟩ fun a' b' ha' hne ⟨ys, m', r'⟩ => ⟨ys, m'.other hne, r'⟩
theorem put_nl {nl : List (Str × Int)} {x : Str} {v : Int} (hx : x ∈ nl.map (·.1)) : putK (posK nl) (Sum.inr x : Key) (.int v) = posK (nlS nl x v) := by
  unfold putK
  have hany : ((posK nl).any fun kv => decide (kv.1 = (Sum.inr x : Key))) = true := by
    rw [List.any_eq_true]
    obtain ⟨q, h1, h2⟩ := List.mem_map.mp hx
    exact ⟨(Sum.inr q.1, .int q.2), List.mem_map.mpr ⟨q, h1, rfl⟩, decide_eq_true (by rw [← h2])⟩
  rw [if_pos hany]
  unfold nlS
  show List.map _ (List.map _ nl) = List.map _ (List.map _ nl)
  rw [List.map_map, List.map_map]
  refine List.map_congr_left fun q hq => ?_
  show (if (Sum.inr q.1 : Key) = Sum.inr x then (Sum.inr q.1, V.int v) else (Sum.inr q.1, V.int q.2)) = (Sum.inr (if q.1 = x then (q.1, v) else q).1, V.int (if q.1 = x then (q.1, v) else q).2)
  by_cases e : q.1 = x
  · rw [if_pos (by rw [e]), if_pos e]
  · rw [if_neg (fun z => e (Sum.inr.inj z)), if_neg e]
theorem LyAt.put {ls : List (List Pc)} {nl : List (Str × Int)} {x : Str} {v : Int} (h : LyAt K H0 F H la dt as (ls, nl)) (hx : x ∈ nl.map (·.1)) :
    LyAt K H0 F (upd H dt (.dK (putK (posK nl) (Sum.inr x : Key) (.int v)))) la dt as (ls, nlS nl x v) := by
  have ld : la ≠ dt := h.mla.ne' h.mdt (by intro z; cases z)
  rw [put_nl hx]
  exact ⟨h.mla.other ld, h.mdt.set, h.nla, h.ndt, h.nd, h.new, Paired.mapP h.lays fun a layer ⟨xs, m, r⟩ => ⟨xs, m.other (m.ne' h.mdt (by intro z; cases z)), r⟩, h.lan⟩
/-- the layers are frozen, all of them, and their list -/
theorem lays_frz {st : List (List Pc)} (G0 : Hp) : ∀ {as : List Addr} {F : Hp}, as.Nodup → Paired (fun (a : Addr) (layer : List Pc) => ∃ xs, Mt F H a (.lst xs) ∧ All2 (rPc K) F xs layer) as st → (∀ a ∈ as, H0 a = none) → Pu G0 H0 F H →
    ∃ F', Pu G0 H0 F' H ∧ Same F F' ∧ All2 (rL K (rPc K)) F' (as.map V.ref) st ∧ ∀ b, b ∉ as → F' b = F b := by
  induction st with
  | nil =>
    intro as F _ hp _ g
    cases hp
    exact ⟨F, g, Same.refl _, Paired.nil, fun _ _ => rfl⟩
  | cons layer st ih =>
    intro as F nd hp new g
    cases hp with
    | @cons a _ as _ r t =>
      obtain ⟨xs, m, rx⟩ := r
      have n0 := new a (List.mem_cons_self ..)
      have g1 : Pu G0 H0 (upd F a (.lst xs)) H := g.frz m.n n0 m.h
      have s1 : Same F (upd F a (.lst xs)) := upd_new m.n
      have nda := (List.nodup_cons.mp nd).1
      obtain ⟨F', g', s', r', n'⟩ := ih (List.nodup_cons.mp nd).2 (Paired.mapM t fun b l hb ⟨ys, mb, rb⟩ => ⟨ys, ⟨by rw [upd_ne (show b ≠ a from fun z => nda (z ▸ hb))]; exact mb.n, mb.h⟩, rb.up s1⟩) (fun b hb => new b (List.mem_cons_of_mem _ hb)) g1
      refine ⟨F', g', s1.trans s', Paired.cons ⟨a, xs, rfl, SqL.of (s' _ _ upd_same), rx.up (s1.trans s')⟩ r', fun b hb => ?_⟩
      rw [n' b (fun z => hb (List.mem_cons_of_mem _ z)), upd_ne (show b ≠ a from fun z => hb (z ▸ List.mem_cons_self ..))]
theorem LyAt.frz {st : List (List Pc) × List (Str × Int)} {G0 : Hp} (h : LyAt K H0 F H la dt as st) (g : Pu G0 H0 F H) : ∃ F', Pu G0 H0 F' H ∧ Same F F' ∧ SqL K F' la (as.map V.ref) ∧ All2 (rL K (rPc K)) F' (as.map V.ref) st.1 := by
  obtain ⟨F', g', s', r', n'⟩ := lays_frz G0 h.nd h.lays h.new g
  have nl : F' la = none := by rw [n' la h.lan]; exact h.mla.n
  exact ⟨_, g'.frz nl h.nla h.mla.h, s'.trans (upd_new nl), SqL.of upd_same, r'.up (upd_new nl)⟩
end
end Rs
/-! text Rlcm -/
set_option Elab.async false
set_option linter.all false
set_option maxRecDepth 100000
set_option maxHeartbeats 4000000
namespace Rs
open PySem PySem.Spec PyProof.Rows L2 LamX
/-! ### comprehensions whose turns may write what M tells; Iv holds of the heaps before turn i -/
structure IvOk (M : Addr → Prop) (Iv : Nat → Hp → Hp → Prop) (F H : Hp) (n : Nat) : Prop where
  m : ∀ D, H D = none → ¬ M D
  i0 : Iv 0 F H
  iu : ∀ i F1 H1 F2 H2, Gr M F H F1 H1 → Iv i F1 H1 → Pu F1 H1 F2 H2 → Iv i F2 H2
  ip : ∀ D, H D = none → ∀ i F1 H1 o o', Gr M F H F1 H1 → Iv i F1 H1 → Mt F1 H1 D (.lst o) → Iv i F1 (upd H1 D (.lst o'))
  i2 : ∀ D, H D = none → ∀ F1 H1 o, Gr M F H F1 H1 → Iv n F1 H1 → Mt F1 H1 D (.lst o) → Iv n (upd F1 D (.lst o)) H1
theorem lcMW {J : It} {n : Nat} {G : Hp → Prop} {Y : Nat → Hp → V → Hp → Prop} {M : Addr → Prop} {Iv : Nat → Hp → Hp → Prop} {K : PySem.W.Frag} {α β : Type} {RA : Rep α} {R : Rep β} [Up R] {g : TG} {tt : TT} {te : TE} {vs : List Nat} {σ : L2.St} {F H : Hp} {Q : Addr → Hp → Prop} (w : Walk J n G Y) (src : List α) (f : α → β)
    (e : Same F H) (hn : n = src.length) (hz : n ≤ 1000000) (O : IvOk M Iv F H n) (hG : ∀ F1 H1, Gr M F H F1 H1 → G H1)
    (hsrc : ∀ i x F1 H1 H2, i < n → Gr M F H F1 H1 → Y i H1 x H2 → ∃ y F2, src[i]? = some y ∧ Pu F1 H1 F2 H2 ∧ RA F2 x y)
    (hs : ∀ i y x F1 H1, src[i]? = some y → Gr M F H F1 H1 → Iv i F1 H1 → RA F1 x y → ∀ (Kt : V → Hp → Prop) (Kf : Hp → Prop), (∀ v F2 H2, Gr M F1 H1 F2 H2 → Iv (i + 1) F2 H2 → R F2 v (f y) → Kt v H2) →
      g x (wipe σ vs) H1 fun σ2 H2 => wipe σ2 vs = wipe σ vs ∧ tt σ2 H2 fun b H3 => if b = true then te σ2 H3 Kt else Kf H3)
    (hd : ∀ D F' H', Gr M F H F' H' → Iv n F' H' → rL K R F' (.ref D) (src.map f) → Q D H') :
    ∀ D, H D = none → ∃ W : Nat → Nat → Hp → Prop, (∃ m, W 0 m (upd H D (.lst []))) ∧ ∀ i m H, W i m H →
      (J.stop i H ∧ Q D H) ∨ (J.go i H ∧ ∃ Nx : Hp → Prop, (∀ H', Nx H' → ∃ m', m' < m ∧ W (i + 1) m' H') ∧ ∀ x H', J.yld i H x H' → g x (wipe σ vs) H' fun σ2 H2 => wipe σ2 vs = wipe σ vs ∧ tt σ2 H2 fun b H3 =>
        if b = true then te σ2 H3 fun y H4 => ∃ acc, H4 D = some (.lst acc) ∧ acc.length < sizeLine ∧ Nx (upd H4 D (.lst (acc ++ [y]))) else Nx H3) := by
  intro D hD
  have hMD := O.m D hD
  have b0 := Acc.begin (M := M) (R := R) e hD
  refine lc_it w (fun i H' => ∃ F', Acc M R F H F' H' D ((src.take i).map f) ∧ Iv i F' H') ⟨F, b0, O.iu 0 F H F _ (Gr.refl e) O.i0 (Gr.newm e hD)⟩ (fun i H' _ ⟨F', a, _⟩ => hG F' H' a.g) ?_ ?_
  · rintro i x H1 H2 hi ⟨F1, a, iv⟩ y
    obtain ⟨z, F2, hz1, g1, rz⟩ := hsrc i x F1 H1 H2 hi a.g y
    have a1 := a.up (Gr.pu g1) hMD
    have iv1 := O.iu i _ _ _ _ a.g iv g1
    refine hs i z x F2 H2 hz1 a1.g iv1 rz _ _ fun v F3 H3 g2 iv2 hv => ?_
    have a2 := a1.up g2 hMD
    obtain ⟨acc, h1, h2, h3⟩ := a2.push hv
    refine ⟨acc, h1, ?_, F3, ?_, O.ip D hD _ _ _ _ _ a2.g iv2 ⟨a2.n, h1⟩⟩
    · rw [h2, List.length_map]
      refine lt_line ?_
      rw [List.length_take]
      omega
    · rw [List.take_succ, hz1, List.map_append]
      exact h3
  · rintro H' ⟨F', a, iv⟩
    obtain ⟨acc, h1, h2⟩ := a.ex
    rw [List.take_of_length_le (by omega)] at h2
    exact hd D _ H' (a.g.frz a.n a.n0 h1) (O.i2 D hD _ _ _ a.g iv ⟨a.n, h1⟩) ⟨D, acc, rfl, SqL.of upd_same, h2.up (upd_new a.n)⟩
/-- .. over a list -/
theorem lcML {M : Addr → Prop} {Iv : Nat → Hp → Hp → Prop} {K : PySem.W.Frag} {α β : Type} {RA : Rep α} [Up RA] {R : Rep β} [Up R] {g : TG} {tt : TT} {te : TE} {vs : List Nat} {σ : L2.St} {F H : Hp} {Q : Addr → Hp → Prop} {a : Addr} {xs : List V} {l : List α} (f : α → β)
    (e : Same F H) (hx : SqL K F a xs) (hl : All2 RA F xs l) (hz : l.length ≤ 1000000) (O : IvOk M Iv F H l.length)
    (hs : ∀ i y x F1 H1, l[i]? = some y → Gr M F H F1 H1 → Iv i F1 H1 → RA F1 x y → ∀ (Kt : V → Hp → Prop) (Kf : Hp → Prop), (∀ v F2 H2, Gr M F1 H1 F2 H2 → Iv (i + 1) F2 H2 → R F2 v (f y) → Kt v H2) →
      g x (wipe σ vs) H1 fun σ2 H2 => wipe σ2 vs = wipe σ vs ∧ tt σ2 H2 fun b H3 => if b = true then te σ2 H3 Kt else Kf H3)
    (hd : ∀ D F' H', Gr M F H F' H' → Iv l.length F' H' → rL K R F' (.ref D) (l.map f) → Q D H') :
    ∀ D, H D = none → ∃ W : Nat → Nat → Hp → Prop, (∃ m, W 0 m (upd H D (.lst []))) ∧ ∀ i m H, W i m H →
      ((Itl K a).stop i H ∧ Q D H) ∨ ((Itl K a).go i H ∧ ∃ Nx : Hp → Prop, (∀ H', Nx H' → ∃ m', m' < m ∧ W (i + 1) m' H') ∧ ∀ x H', (Itl K a).yld i H x H' → g x (wipe σ vs) H' fun σ2 H2 => wipe σ2 vs = wipe σ vs ∧ tt σ2 H2 fun b H3 =>
        if b = true then te σ2 H3 fun y H4 => ∃ acc, H4 D = some (.lst acc) ∧ acc.length < sizeLine ∧ Nx (upd H4 D (.lst (acc ++ [y]))) else Nx H3) := by
  have hln : xs.length = l.length := hl.length
  refine lcMW (walk_list (K := K) (a := a) (xs := xs)) l f e hln (by omega) (hln ▸ O) (fun F1 H1 g => sql_s g.fh (sql_s g.f hx)) (fun i x F1 H1 H2 hi g ⟨e2, hx2⟩ => ?_) hs (hln ▸ hd)
  obtain ⟨y, h1, h2⟩ := hl.get hx2
  subst e2
  exact ⟨y, F1, h1, Gr.refl g.fh, Up.up g.f h2⟩
/-- .. over a range -/
theorem lcMR {M : Addr → Prop} {Iv : Nat → Hp → Hp → Prop} {K : PySem.W.Frag} {β : Type} {R : Rep β} [Up R] {g : TG} {tt : TT} {te : TE} {vs : List Nat} {σ : L2.St} {F H : Hp} {Q : Addr → Hp → Prop} {lo : Int} {n : Nat} (f : Nat → β)
    (e : Same F H) (hz : n ≤ 1000000) (O : IvOk M Iv F H n)
    (hs : ∀ i F1 H1, i < n → Gr M F H F1 H1 → Iv i F1 H1 → ∀ (Kt : V → Hp → Prop) (Kf : Hp → Prop), (∀ v F2 H2, Gr M F1 H1 F2 H2 → Iv (i + 1) F2 H2 → R F2 v (f i) → Kt v H2) →
      g (.int (lo + (i : Int))) (wipe σ vs) H1 fun σ2 H2 => wipe σ2 vs = wipe σ vs ∧ tt σ2 H2 fun b H3 => if b = true then te σ2 H3 Kt else Kf H3)
    (hd : ∀ D F' H', Gr M F H F' H' → Iv n F' H' → rL K R F' (.ref D) ((List.range n).map f) → Q D H') :
    ∀ D, H D = none → ∃ W : Nat → Nat → Hp → Prop, (∃ m, W 0 m (upd H D (.lst []))) ∧ ∀ i m H, W i m H →
      ((Itr lo n).stop i H ∧ Q D H) ∨ ((Itr lo n).go i H ∧ ∃ Nx : Hp → Prop, (∀ H', Nx H' → ∃ m', m' < m ∧ W (i + 1) m' H') ∧ ∀ x H', (Itr lo n).yld i H x H' → g x (wipe σ vs) H' fun σ2 H2 => wipe σ2 vs = wipe σ vs ∧ tt σ2 H2 fun b H3 =>
        if b = true then te σ2 H3 fun y H4 => ∃ acc, H4 D = some (.lst acc) ∧ acc.length < sizeLine ∧ Nx (upd H4 D (.lst (acc ++ [y]))) else Nx H3) := by
  refine lcMW (RA := fun _ v (i : Nat) => v = .int (lo + (i : Int)) ∧ i < n) (walk_range (lo := lo) (n := n)) (List.range n) f e (by simp) hz O (fun F1 H1 g => trivial) (fun i x F1 H1 H2 hi g ⟨e2, hx2⟩ => ?_) (fun i y x F1 H1 hy g iv ⟨hx, hi⟩ => ?_) hd
  · subst e2
    exact ⟨i, F1, by simp [hi], Gr.refl g.fh, hx2, hi⟩
  · have ey : y = i := by
      obtain ⟨h1, h2⟩ := List.getElem?_eq_some_iff.mp hy
      rw [List.getElem_range] at h2
      exact h2.symm
    subst ey
    rw [hx]
    exact hs y F1 H1 hi g iv
/-- some thing of which P holds -/
def rEx {α β : Type} (R : Rep β) (P : α → β → Prop) : Rep α := fun F v a => ∃ b, R F v b ∧ P a b
instance rEx.up {α β : Type} {R : Rep β} [Up R] {P : α → β → Prop} : Up (rEx R P) := ⟨fun e ⟨b, h, p⟩ => ⟨b, Up.up e h, p⟩⟩
theorem rEx_all {α β : Type} {R : Rep β} {P : α → β → Prop} {F : Hp} : ∀ {xs : List V} {l : List α}, All2 (rEx R P) F xs l → ∃ m, All2 R F xs m ∧ Paired P l m
  | _, _, Paired.nil => ⟨[], Paired.nil, Paired.nil⟩
  | _, _, Paired.cons r t => by
    obtain ⟨b, h, p⟩ := r
    obtain ⟨m, h1, h2⟩ := rEx_all t
    exact ⟨b :: m, Paired.cons h h1, Paired.cons p h2⟩
theorem rEx_list {α β : Type} {K : PySem.W.Frag} {R : Rep β} {P : α → β → Prop} {F : Hp} {v : V} {l : List α} (h : rL K (rEx R P) F v l) : ∃ m, rL K R F v m ∧ Paired P l m := by
  obtain ⟨a, xs, rfl, h1, h2⟩ := h
  obtain ⟨m, h3, h4⟩ := rEx_all h2
  exact ⟨m, ⟨a, xs, rfl, h1, h3⟩, h4⟩
end Rs
/-! text R29 -/
set_option Elab.async false
set_option linter.all false
set_option maxRecDepth 100000
set_option maxHeartbeats 4000000
namespace Rs
open PySem PySem.Spec PyProof.Rows L2 LamX
def sp_layers_of (K : PySem.W.Frag) (PT : Addr) : Sp := fun vs H Q _ => match vs with
  | [v, u] => ∃ F D l, Same F H ∧ rP K F v D ∧ rL K (rPc K) F u l ∧ (∀ q ∈ l, okPc D q) ∧ l.length ≤ 31 ∧ Tb PT F H ∧ ∀ v F' H', GrT PT F H F' H' → Tb PT F' H' → rL K (rL K (rPc K)) F' v (layersF D l) → Q v H'
  | _ => False
theorem nodup_le {α : Type} [DecidableEq α] : ∀ {l m : List α}, l.Nodup → (∀ x ∈ l, x ∈ m) → l.length ≤ m.length
  | [], _, _, _ => Nat.zero_le _
  | a :: l, m, nd, h => by
    have ha := h a (List.mem_cons_self ..)
    have h1 := List.length_erase_of_mem ha
    have h0 := List.length_pos_of_mem ha
    have ih := nodup_le (List.nodup_cons.mp nd).2 (m := m.erase a) fun x hx => (List.mem_erase_of_ne (show x ≠ a from fun z => (List.nodup_cons.mp nd).1 (z ▸ hx))).mpr (h x (List.mem_cons_of_mem _ hx))
    rw [List.length_cons]
    omega
theorem tb_iv {PT : Addr} {F H : Hp} {n : Nat} (t : Tb PT F H) : IvOk (fun b => b = PT) (fun _ F H => Tb PT F H) F H n where
  m := fun D hD z => t.new hD z
  i0 := t
  iu := fun _ _ _ _ _ _ t g => t.pu g
  ip := fun D hD _ _ _ _ _ _ t m => t.set m (fun q z => by cases z) (fun c q z => by unfold CodeO at z; cases z)
  i2 := fun D hD F1 H1 o g t1 m => ⟨by rw [upd_ne (fun z => t.new hD z.symm)]; exact t1.f, t1.t⟩
theorem if_join {c : Prop} [Decidable c] {t : TS} {D : Ends} {σ : L2.St} {H : Hp} (R : Hp → Prop) (hr : ∀ H8, R H8 → D.nx σ H8) (hA : c → (∀ H8, R H8 → D.nx σ H8) → t D σ H) (hB : ¬ c → R H) : if decide c = true then t D σ H else tNext D σ H := by
  by_cases h : c
  · exact iteY h (hA h hr)
  · exact iteN h (hr _ (hB h))
theorem sc_layers_of : FnScope ["problem", "pieces", "events", "layers", "next_layer", "event", "values", "scope", "level", "variable", "layer", "size"] ["problem", "pieces"] (defScope s_layers_of) := C8.fnScope_by (by decide +kernel)
theorem c_layers_of {P : Program} {w : World} {K : PySem.W.Frag} {mg : Str → Option Value} {base hp : Heap} {PT : Addr} (T : Tx K mg hp) (TB : TabB base mg (He.codeOf K ("layers_of", none)) PT) : C8.Cal P w K mg base 6 "layers_of" (sp_layers_of K PT) [] := by
  obtain ⟨fd, F⟩ := T.fd_layers_of
  refine ⟨_, fd, _, [], fnok_code (p := ("layers_of", none)) rfl F sc_layers_of (fun vs H Q E h => by unfold sp_layers_of at h; split at h <;> first | rfl | exact h.elim) (fun A outer s H vs Q E hr h => ?_), T.gl_layers_of, F.kp, F.bindsN (fun _ _ _ _ _ _ us hl => match us, hl with | [_, _], _ => rfl), .nil⟩
  have nd := sc_layers_of.nd
  have hu := hu_of hr
  unfold sp_layers_of at h
  split at h
  case h_2 => exact h.elim
  obtain ⟨F, D, l, e, hP, hL, ok, hl, tab, k⟩ := h
  obtain ⟨p, dx, d1, d2, d3, rfl, h, hd1, hd2⟩ := id hP
  have hP1 : rP1 K F (.ref p) D := ⟨p, dx, d1, d2, d3, rfl, h, hd1⟩
  obtain ⟨ua, ux, rfl, hua, hux⟩ := id hL
  refine ⟨_, (pss_cons (ps_set (i := 2) nd rfl (Or.inr rfl) (C8.pe_mt0 (c_Problem_events T) hr (by decide) (pv 0)))
      (pss_cons (ps_set (i := 3) nd rfl (Or.inl rfl) (pe_lst pa_nil))
      (pss_cons (ps_set (i := 4) nd rfl (Or.inr rfl) (pe_dc (own := [("variable", 9), ("size", 11)]) (g := (gTup K 2 (gCons (gName 9) (gCons (gName 11) gNil)))) rfl nd (pi_list (C8.pe_mt0 (c_Problem_variables T) hr (by decide) (pv 0))) (blkOk_by (own := [("variable", 9), ("size", 11)]) (N := ["problem", "pieces", "events", "layers", "next_layer", "event", "values", "scope", "level", "variable", "layer", "size"]) (sc := defScope s_layers_of) (by decide +kernel)) (fun _ _ _ _ _ => (pg_tup rfl (pgs_cons (pg_name (i := 9) nd rfl (Or.inl rfl)) (pgs_cons (pg_name (i := 11) nd rfl (Or.inl rfl)) pgs_nil)))) (fun _ _ _ _ _ => pts_nil) (fun _ _ _ _ _ => (pv 9)) (fun _ _ _ _ _ => pe_int)))
      (pss_cons (ps_for PassesOwn.never rfl (pi_list (pv 1)) (pg_tup rfl (pgs_cons (pg_name (i := 5) nd rfl (Or.inl rfl)) (pgs_cons (pg_name (i := 6) nd rfl (Or.inl rfl)) pgs_nil))) (pss_cons (ps_set (i := 7) nd rfl (Or.inl rfl) (C8.pe_mt (c_Problem_scope T) hr (by decide) (pv 0) (pa_cons (pv 5) pa_nil)))
      (pss_cons (ps_set (i := 8) nd rfl (Or.inl rfl) (pe_callB (cr_max rfl) (by rfl) T.fr_max (by decide +kernel) (pa_cons (pe_lc (own := [("variable", 9)]) (g := (gName 9)) rfl nd (pi_list (pv 7)) (blkOk_by (own := [("variable", 9)]) (N := ["problem", "pieces", "events", "layers", "next_layer", "event", "values", "scope", "level", "variable", "layer", "size"]) (sc := defScope s_layers_of) (by decide +kernel)) (fun _ _ _ _ _ => (pg_name (i := 9) nd rfl (Or.inl rfl))) (fun _ _ _ _ _ => pts_nil) (fun _ _ _ _ _ => (pe_dget hu (pv 4) (pv 9) (fun _ _ => rfl)))) pa_nil)))
      (pss_cons (ps_if (pt_cmpR op_eq (pv 8) (pe_callB call_len_seq (by rfl) T.fr_len (by decide +kernel) (pa_cons (pv 3) pa_nil)) (nomark _)) (pss_one (ps_expr (pe_bm PySem.F.plainAttrs_list PySem.F.slot_list_append PySem.F.type_list_append mt_append (pv 3) (pa_cons (pe_lst pa_nil) pa_nil)))) pss_nil)
      (pss_cons (ps_expr (pe_bm PySem.F.plainAttrs_list PySem.F.slot_list_append PySem.F.type_list_append mt_append (pe_ix ix_list (pv 3) (pv 8) (fun _ _ => rfl)) (pa_cons (pe_tup (pa_cons (pv 5) (pa_cons (pv 6) pa_nil))) pa_nil)))
      (pss_one (ps_for PassesOwn.never rfl (pi_list (pv 7)) (pg_name (i := 9) nd rfl (Or.inl rfl)) (pss_one (ps_dput hu (pv 4) (pv 9) (pe_op op_add (pv 8) pe_int) rfl)))))))))
      (pss_one (ps_ret (pe_lc (own := [("layer", 10)]) (g := (gName 10)) rfl nd (pi_list (pv 3)) (blkOk_by (own := [("layer", 10)]) (N := ["problem", "pieces", "events", "layers", "next_layer", "event", "values", "scope", "level", "variable", "layer", "size"]) (sc := defScope s_layers_of) (by decide +kernel)) (fun _ _ _ _ _ => (pg_name (i := 10) nd rfl (Or.inl rfl))) (fun _ _ _ _ _ => pts_nil) (fun _ _ _ _ _ => (by exact (pe_sortedL1 (x := "piece") (q := "layers_of.<locals>.<lambda>") (P := PT) (c := He.codeOf K ("layers_of", none)) (k := 1) (K := K) rfl (pa_cons (pv 10) pa_nil) (by rfl) T.fr_sorted (by decide +kernel) TB rfl (by rfl) (hr.mono (by decide)) (by rfl) (by rfl) rfl (fun _ _ _ _ _ _ => rfl) (fun _ _ _ _ _ _ => (pe_bmK (K := K) rfl PySem.F.plainAttrs_list PySem.F.slot_list_index PySem.F.type_list_index (mt_indexK (K := K) rfl) (pv 2) (pa_cons (pe_ix (ix_tupK (K := K) rfl) (pv 12) pe_int (fun _ _ => rfl)) pa_nil))))))))))))), ?_⟩
  refine ⟨_, rfl, p, dx, _, rfl, h.h e, pfsn (by decide +kernel), F, D, e, hP.w, fun v F1 H1 g1 hv => ?_⟩
  obtain ⟨na, rfl, hna⟩ := rls hv
  refine ⟨Nat.zero_le _, fun la nla => ?_⟩
  have g2 : Pu F1 H1 F1 (upd H1 la (.lst [])) := Gr.newm g1.fh nla
  have m2 := Mt.new (o := .lst []) g1.fh nla
  have g12 := g1.trans g2
  refine ⟨_, rfl, p, dx, _, rfl, (h.up (.of g12.f)).h g12.fh, pfsn (by decide +kernel), F1, D, g12.fh, Up.up g12.f hP1, fun v F3 H3 g3 hv3 => ?_⟩
  obtain ⟨va, vx, rfl, hva, hvx⟩ := hv3
  have g13 := g12.trans g3
  have m3 := m2.pu g3
  have v8 := h.ok.v.1.2
  have lv : vx.length = D.vars.length := hvx.length
  refine ⟨va, rfl, ⟨_, sql_s g3.fh hva⟩, ?_⟩
  refine dcW (K := K) (RA := r2 K rS rI) (R := rI) (walk_list (K := K) (a := va) (xs := vx)) D.vars (fun q => q.1) (fun _ => (0 : Int)) g13.fh lv (by omega) h.ok.v.2.2 (fun F' H' g => sql_s g.fh (sql_s g.f hva)) ?_ (fun y v F' H' hy g hv Kt h1 => ?_) (fun dt F4 H4 kvt g4 nt nft h4 a4 => ?_)
  · rintro i x F' H' H'' hi g ⟨rfl, hx⟩
    obtain ⟨y, h1, h2⟩ := hvx.get hx
    exact ⟨y, F', h1, Gr.refl g.fh, Up.up g.f h2⟩
  · obtain ⟨qa, q0, q1, rfl, hqa, hq0, hq1⟩ := hv
    cases hq0
    cases hq1
    exact ⟨qa, _, rfl, sqt_s g.fh hqa, rfl, _, _, rfl, _, _, rfl, rfl, rfl, _, rfl, h1 _ _ _ (Gr.refl g.fh) rfl⟩
  have g14 := g13.trans g4
  have m4 := m3.pu g4
  have mt : Mt F4 H4 dt (.dK kvt) := ⟨nft, h4⟩
  have dOk := h.ok
  have L0 : LyAt K H F4 H4 la dt [] (lyAll D (l.take 0)) := by
    have e0 : kvt = posK (lyAll D (l.take 0)).2 := pos_eq a4
    refine ⟨m4, by rw [← e0]; exact mt, g1.dom _ nla, g13.dom _ nt, List.nodup_nil, (fun _ z => nomatch z), Paired.nil, (fun z => nomatch z)⟩
  refine ⟨_, rfl, ua, rfl, ⟨_, sql_s g14.fh (sql_s g14.f hua)⟩, ?_⟩
  refine for_list (K := K) (a := ua) (xs := ux) (fun i σ H' => ∃ F' as w5 w6 w7 w8 w9, σ = [some (.ref p), some (.ref ua), some (.ref na), some (.ref la), some (.ref dt), w5, w6, w7, w8, w9, none, none] ∧ Pu F H F' H' ∧ Same F4 F' ∧ LyAt K H F' H' la dt as (lyAll D (l.take i)))
    ⟨F4, [], _, _, _, _, _, rfl, g14, Same.refl _, L0⟩ (fun i σ H' _ ⟨F', as, _, _, _, _, _, _, g, _, _⟩ => sql_s g.fh (sql_s g.f hua)) ?_ ?_
  · rintro i y σ H5 hi ⟨F5, as, w5, w6, w7, w8, w9, rfl, g5, s5, L⟩
    obtain ⟨q, hq, hy⟩ := hux.get hi
    have okq := ok q (List.mem_of_getElem? hq)
    obtain ⟨lok, llen⟩ := ly_take dOk ok i (by have := (List.getElem?_eq_some_iff.mp hq).1; omega)
    have ilt : i < l.length := (List.getElem?_eq_some_iff.mp hq).1
    obtain ⟨ev, t⟩ := q
    obtain ⟨qa, q0, q1, rfl, hqa, hq0, hq1⟩ := hy
    cases hq0
    have osc := scope_of dOk (sc_of okq.1)
    obtain ⟨lv0, lv1, lv2⟩ := lvl_in lok osc
    have lvd : lvlF (lyAll D (l.take i)).2 (D.sc ev) = lvlF (lyAll D (l.take i)).2 (D.sc ev) := rfl
    have nx : lyAll D (l.take (i + 1)) = lyStep D (lyAll D (l.take i)) (ev, t) := by unfold lyAll; rw [fold_take _ _ hq]
    generalize hst : lyAll D (l.take i) = st at *
    obtain ⟨ls, nl⟩ := st
    refine ⟨qa, [_, _], rfl, sqt_s g5.fh (sqt_s g5.f hqa), rfl, _, [_], rfl, _, [], rfl, rfl, ?_⟩
    refine ⟨_, rfl, p, dx, _, rfl, (h.up (.of g5.f)).h g5.fh, pfsn (by decide +kernel), _, rfl, F5, D, ev, _, g5.fh, (Up.up g5.f hP).w, rfl, sc_of okq.1, fun v F6 H6 g6 hv => ?_⟩
    obtain ⟨sa, rfl, hsa⟩ := rls hv
    have L6 := L.pu g6
    have g56 := g5.trans g6
    refine ⟨_, rfl, sa, rfl, ⟨_, sql_s g6.fh hsa⟩, ?_⟩
    refine lcL (K := K) (RA := rS) (R := rI) (f := nlG nl) (p := fun _ => true) g6.fh hsa (str_all2 _) (by show (D.sc ev).length ≤ 1000000; have : (D.sc ev).length ≤ 4 := osc.1.2; omega) (fun y v F7 H7 hy g7 hv Kt Kf k1 k2 => ?_) (fun Li F7 H7 g7 hLi => ?_)
    · cases hv
      have L7 := L6.pu g7
      have hyk : y ∈ nl.map (·.1) := by have := lok.keys; rw [show nl.map (·.1) = D.vars.map (·.1) from this]; exact osc.2.2 y hy
      obtain ⟨z, hz⟩ := lookup_mem hyk
      have ez : nlG nl y = z := by unfold nlG; rw [hz]; rfl
      obtain ⟨a', u', ea, hg, hu'⟩ := dgot (R := Rs.rI) (F := H7) (v := .ref dt) (Same.refl H7) ⟨dt, _, rfl, .inl L7.mdt.h, pos_all _⟩ hz
      cases ea
      cases hu'
      exact ⟨rfl, _, rfl, _, rfl, dt, _, rfl, hg, k1 rfl _ F7 H7 (Gr.refl g7.fh) (by rw [ez]; rfl)⟩
    · rw [ptrue] at hLi
      obtain ⟨c, ec, hc⟩ := rli hLi
      cases ec
      have L7 := L6.pu g7
      have g57 := g56.trans g7
      have hnn : ∀ y ∈ (D.sc ev).map (nlG nl), 0 ≤ y := fun y hy => by
        obtain ⟨x, hx, rfl⟩ := List.mem_map.mp hy
        exact (lok.nn x (osc.2.2 x hx)).1
      have hne : (D.sc ev).map (nlG nl) ≠ [] := fun z => by
        have := congrArg List.length z
        rw [List.length_map] at this
        have h1 : 0 < (D.sc ev).length := osc.1.1
        simp only [List.length_nil] at this
        omega
      refine ⟨Li, (D.sc ev).map (nlG nl), rfl, sql_s g7.fh hc, List.length_pos_iff.mpr hne, fun m hm hmx => ?_⟩
      have em : m = lvlF nl (D.sc ev) := Int.le_antisymm (maxL_le m hm) (hmx _ (maxL_mem hnn hne))
      have lv0 : 0 ≤ m := em ▸ lv0
      have lv1 : m ≤ ls.length := em ▸ lv1
      have las : as.length = ls.length := Paired.length L7.lays
      obtain ⟨n, rfl⟩ : ∃ n : Nat, m = n := ⟨m.toNat, by omega⟩
      have es0 : lyAdd ls n (ev, t) = (if n = ls.length then ls ++ [[]] else ls).set n (((if n = ls.length then ls ++ [[]] else ls)[n]?).getD [] ++ [(ev, t)]) := rfl
      refine ⟨_, rfl, _, rfl, la, _, rfl, .inl (SqL.of L7.mla.h), rfl, _, rfl, ?_⟩
      refine if_join (fun H8 => ∃ F8 as' ls', Pu F H F8 H8 ∧ Same F7 F8 ∧ LyAt K H F8 H8 la dt as' (ls', nl) ∧ as'.length ≤ 32 ∧ n < ls'.length ∧ (∀ layer, ls'[n]? = some layer → layer.length ≤ 8) ∧ ls'.set n ((ls'[n]?).getD [] ++ [(ev, t)]) = lyAdd ls n (ev, t)) ?_ (fun hc hr => ?_) (fun hc => ?_)
      · rintro H8 ⟨F8, as', ls', g8, s8, L8, al8, hn8, l8, es⟩
        obtain ⟨layer, hly⟩ : ∃ layer, ls'[n]? = some layer := ⟨_, List.getElem?_eq_getElem hn8⟩
        rw [hly] at es
        have es : ls'.set n (layer ++ [(ev, t)]) = lyAdd ls n (ev, t) := es
        obtain ⟨a, ha, xs0, ma, _⟩ := pair_at L8.lays hly
        have g68 := g7.f.trans s8
        refine ⟨_, rfl, _, rfl, la, _, _, .ref a, rfl, rfl, SqL.of L8.mla.h, atI_nat (by rw [List.getElem?_map, ha]; rfl), .inl ⟨rfl, _, SqL.of ma.h⟩, _, rfl, _, rfl, le_line (by show 2 ≤ 1000000; omega), fun tq ntq => ?_⟩
        have g9 : Pu F8 H8 (upd F8 tq (.tup [.str ev, q1])) (upd H8 tq (.tup [.str ev, q1])) := Gr.new g8.fh ntq
        have L9 := L8.pu g9
        have q1r : rU K Rs.rI (upd F8 tq (.tup [.str ev, q1])) q1 t := Up.up (g5.f.trans (g6.f.trans (g68.trans g9.f))) hq1
        obtain ⟨a2, xs, ha2, m2, hxl, n2, L10⟩ := L9.app hly (show rPc K _ (.ref tq) (ev, t) from ⟨tq, _, _, rfl, SqT.of upd_same, rfl, q1r⟩)
        rw [ha] at ha2
        cases ha2
        have g89 := g8.trans g9
        refine ⟨a, xs, .ref tq, rfl, rfl, m2.h, lt_line (by have := l8 layer hly; omega), ?_⟩
        have g10 : Pu F H (upd F8 tq (.tup [.str ev, q1])) (upd (upd H8 tq (.tup [.str ev, q1])) a (.lst (xs ++ [.ref tq]))) := g89.mut m2.n n2
        rw [es] at L10
        have lk : nl.map (·.1) = D.vars.map (·.1) := lok.keys
        have sF : Same F6 (upd F8 tq (.tup [.str ev, q1])) := g68.trans g9.f
        refine ⟨_, rfl, sa, rfl, ⟨_, sql_s g10.fh (sql_s sF hsa)⟩, for_list (K := K) (a := sa) (xs := (D.sc ev).map V.str) (fun j σ H' => (∃ w, σ = [some (.ref p), some (.ref ua), some (.ref na), some (.ref la), some (.ref dt), some (.str ev), some q1, some (.ref sa), some (.int n), w, none, none]) ∧ Pu F H (upd F8 tq (.tup [.str ev, q1])) H' ∧
          LyAt K H (upd F8 tq (.tup [.str ev, q1])) H' la dt as' (lyAdd ls n (ev, t), ((D.sc ev).take j).foldl (fun nl x => nlS nl x (n + 1)) nl)) ⟨⟨_, rfl⟩, g10, L10⟩ (fun j σ H' _ ⟨_, g, _⟩ => sql_s g.fh (sql_s sF hsa)) ?_ ?_⟩
        · rintro j y σ H' hj ⟨⟨w, rfl⟩, g, L11⟩
          obtain ⟨x, hx, rfl⟩ := str_at hj
          have hxk : x ∈ (((D.sc ev).take j).foldl (fun nl x => nlS nl x ((n : Int) + 1)) nl).map (·.1) := by rw [nlF_keys, lk]; exact osc.2.2 x (List.mem_of_getElem? hx)
          have L12 := L11.put (v := (n : Int) + 1) hxk
          have nll : (posK (((D.sc ev).take j).foldl (fun nl x => nlS nl x ((n : Int) + 1)) nl)).length ≤ 8 := by
            have h1 := congrArg List.length (nlF_keys (v := (n : Int) + 1) (sc := (D.sc ev).take j) (nl := nl))
            have h2 := congrArg List.length lk
            simp only [List.length_map] at h1 h2 ⊢
            omega
          refine ⟨_, rfl, _, _, rfl, rfl, _, rfl, _, rfl, dt, _, rfl, .inl ⟨_, Sum.inr x, L11.mdt.h, rfl, lt_line (Nat.le_trans nll (by decide)), rfl⟩, ⟨_, rfl⟩, g.mut L11.mdt.n L11.ndt, ?_⟩
          rw [fold_take _ _ hx]
          exact L12
        · rintro σ H' ⟨⟨w, rfl⟩, g, L11⟩
          refine ⟨_, as', _, _, _, _, _, rfl, g, (s5.trans (g6.f.trans sF)), ?_⟩
          rw [List.length_map, List.take_of_length_le (Nat.le_refl _)] at L11
          rw [nx]
          have e2 : lyStep D (ls, nl) (ev, t) = (lyAdd ls n (ev, t), (D.sc ev).foldl (fun nl x => nlS nl x ((n : Int) + 1)) nl) := by
            unfold lyStep
            show (lyAdd ls (lvlF nl (D.sc ev)).toNat (ev, t), (D.sc ev).foldl (fun nl' x => nlS nl' x (lvlF nl (D.sc ev) + 1)) nl) = _
            rw [← em]
            rfl
          rw [e2]
          exact L11
      · have hc : n = ls.length := by
          have z := V.int.inj hc
          rw [List.length_map, las] at z
          omega
        refine ⟨_, rfl, .inl ⟨rfl, _, SqL.of L7.mla.h⟩, Nat.zero_le _, fun a na => ?_⟩
        have g8 : Pu F7 H7 F7 (upd H7 a (.lst [])) := Gr.newm g57.fh na
        have g58 := g57.trans g8
        have L8 := L7.grow g57.fh na (g57.dom _ na)
        refine ⟨la, _, .ref a, rfl, rfl, (L7.pu g8).mla.h, lt_line (by rw [List.length_map, las]; have : ls.length ≤ i := llen; omega), ?_⟩
        refine hr _ ⟨F7, as ++ [a], ls ++ [[]], g58.mut L7.mla.n L7.nla, Same.refl _, L8, ?_, ?_, fun layer hly => ?_, ?_⟩
        · rw [List.length_append, las, List.length_singleton]; have : ls.length ≤ i := llen; omega
        · rw [List.length_append, List.length_singleton]; omega
        · rw [hc, List.getElem?_append_right (Nat.le_refl _), Nat.sub_self] at hly
          cases hly
          exact Nat.zero_le _
        · rw [es0, if_pos hc]
      · have hc : ¬ n = ls.length := fun z => hc (by rw [List.length_map, las, z])
        have hl : n < ls.length := by omega
        refine ⟨F7, as, ls, g57, Same.refl _, L7, by rw [las]; have : ls.length ≤ i := llen; omega, by omega, fun layer hly => ?_, by rw [es0, if_neg hc]⟩
        obtain ⟨b1, b2⟩ := lok.pc n layer hly
        have n8 : D.names.length ≤ 8 := by unfold PD.names; rw [List.length_map]; exact dOk.n8
        have := nodup_le b1 (m := D.names) fun x hx => by
          obtain ⟨q, hq, rfl⟩ := List.mem_map.mp hx
          exact (b2 q hq).1.1
        rw [List.length_map] at this
        omega
  · rintro σ H5 ⟨F5, as, w5, w6, w7, w8, w9, rfl, g5, s5, L⟩
    have lux : ux.length = l.length := hux.length
    rw [List.take_of_length_le (by omega)] at L
    obtain ⟨lok, llen⟩ := ly_take dOk ok l.length (Nat.le_refl _)
    rw [List.take_of_length_le (Nat.le_refl _)] at lok llen
    obtain ⟨F6, g6, s6, hla, hall⟩ := L.frz g5
    have tb6 := tab.pu g6
    have nle : SqL K F6 na (D.names.map V.str) := sql_s (g2.f.trans (g3.f.trans (g4.f.trans (s5.trans s6)))) hna
    refine ⟨_, rfl, la, rfl, ⟨_, sql_s g6.fh hla⟩, ?_⟩
    refine lcML (K := K) (RA := rL K (rPc K)) (R := rL K (rPc K)) (M := fun b => b = PT) (Iv := fun _ F H => Tb PT F H) (lsort D.names) g6.fh hla hall (by omega) (tb_iv tb6) (fun i y x F7 H7 hy g7 tb7 hx Kt Kf k1 => ?_) (fun L F7 H7 g7 tb7 hL => k _ _ _ ((Gr.pu g6).trans g7) tb7 hL)
    obtain ⟨b, ys, rfl, hb, hys⟩ := hx
    obtain ⟨nd2, okl⟩ := lok.pc i y hy
    refine ⟨rfl, _, rfl, b, ys, y.map (fun q => ((D.names.idxOf q.1 : Nat) : Int)), rfl, sql_s g7.fh hb, by rw [List.length_map, hys.length], (fun p hp => by rw [List.mem_singleton.mp hp]; exact tb7.t), fun H8 eP t8 => ⟨fun j v kk hv hk => ?_, fun zs hz z nz => ?_⟩⟩
    · have g8 : GrT PT F7 H7 F7 H8 := eP.gr g7.fh tb7.f
      obtain ⟨q, hq, rv⟩ := hys.get hv
      rw [List.getElem?_map, hq] at hk
      cases hk
      obtain ⟨qa, q0, q1, rfl, hqa, hq0, hq1⟩ := rv
      cases hq0
      have hqn := (okl q (List.mem_of_getElem? hq)).1.1
      have hn8 : SqL K H8 na (D.names.map V.str) := sql_s g8.fh (sql_s g7.f nle)
      refine ⟨_, rfl, .inl ⟨rfl, _, hn8⟩, _, rfl, qa, _, _, .str q.1, rfl, rfl, sqt_s g8.fh hqa, rfl, na, _, .str q.1, D.names.idxOf q.1, .str q.1, rfl, rfl, hn8, rfl, flat_strs _, ?_, ?_, fun m z' hm hz' => ?_, rfl, rfl⟩
      · rw [List.getElem?_map, List.getElem?_eq_getElem (List.idxOf_lt_length_iff.mpr hqn), List.getElem_idxOf]
        rfl
      · exact beq_self_eq_true q.1
      · rw [List.getElem?_map] at hz'
        cases hm2 : D.names[m]? with
        | none => rw [hm2] at hz'; cases hz'
        | some nm =>
          rw [hm2] at hz'
          cases hz'
          obtain ⟨h1, h2⟩ := List.getElem?_eq_some_iff.mp hm2
          have := List.not_of_lt_findIdx (p := (· == q.1)) (xs := D.names) (i := m) hm
          rw [h2] at this
          exact this
    · have g8 : GrT PT F7 H7 F7 H8 := eP.gr g7.fh tb7.f
      obtain ⟨out, r, sk⟩ := sortedK_rep hys hz
      have eo := lsort_uniq (names := D.names) (fun q hq => (okl q hq).1.1) nd2 sk
      subst eo
      have g9 : Pu F7 H8 (upd F7 z (.lst zs)) (upd H8 z (.lst zs)) := Gr.new g8.fh nz
      exact k1 _ _ _ (g8.trans (Gr.pu g9)) (Tb.pu ⟨tb7.f, t8 _ (List.mem_cons_self ..)⟩ g9) ⟨z, zs, rfl, SqL.of upd_same, r.up g9.f⟩
end Rs
/-! text R30 -/
set_option Elab.async false
set_option linter.all false
set_option maxRecDepth 100000
set_option maxHeartbeats 4000000
namespace Rs
open PySem PySem.Spec PyProof.Rows L2 LamX
/-! ### heaps -/
theorem sum_set : ∀ {l : List Nat} {i v w : Nat}, l[i]? = some w → (l.set i v).sum + w = l.sum + v
  | [], i, v, w, h => by cases h
  | a :: l, 0, v, w, h => by
    cases (show some a = some w from h)
    rw [List.set_cons_zero, List.sum_cons, List.sum_cons]
    omega
  | a :: l, i + 1, v, w, h => by
    have ih := sum_set (l := l) (i := i) (v := v) (w := w) h
    rw [List.set_cons_succ, List.sum_cons, List.sum_cons]
    omega
theorem lyAdd_tot {ls : List (List Pc)} {n : Nat} {q : Pc} (h : n ≤ ls.length) : ((lyAdd ls n q).map List.length).sum = (ls.map List.length).sum + 1 := by
  have key : ∀ {m : List (List Pc)}, n < m.length → ((m.set n ((m[n]?).getD [] ++ [q])).map List.length).sum = (m.map List.length).sum + 1 := by
    intro m hm
    have h1 : (m.map List.length)[n]? = some m[n].length := by rw [List.getElem?_map, List.getElem?_eq_getElem hm]; rfl
    have h2 := sum_set (v := m[n].length + 1) h1
    rw [List.map_set, List.getElem?_eq_getElem hm]
    show ((m.map List.length).set n (m[n] ++ [q]).length).sum = _
    rw [List.length_append, List.length_singleton]
    omega
  unfold lyAdd
  dsimp only
  by_cases hn : n = ls.length
  · rw [if_pos hn, key (by rw [List.length_append, List.length_singleton]; omega), List.map_append, List.sum_append]
    rfl
  · rw [if_neg hn]
    exact key (by omega)
theorem ly_tot {D : PD} {l : List Pc} (ok : D.Ok) (h : ∀ q ∈ l, okPc D q) : ∀ i, i ≤ l.length → ((lyAll D (l.take i)).1.map List.length).sum = i
  | 0, _ => rfl
  | i + 1, hi => by
    have ih := ly_tot ok h i (by omega)
    have lok := (ly_take ok h i (by omega)).1
    have hg : l[i]? = some l[i] := List.getElem?_eq_getElem (by omega)
    have hq := h _ (List.getElem_mem (by omega : i < l.length))
    unfold lyAll at *
    rw [fold_take _ _ hg]
    obtain ⟨l0, l1, _⟩ := lvl_in lok (scope_of ok (sc_of hq.1))
    have := lyAdd_tot (q := l[i]) (ls := (List.foldl (lyStep D) ([], D.vars.map fun v => (v.1, 0)) (l.take i)).1) (n := (lvlF (List.foldl (lyStep D) ([], D.vars.map fun v => (v.1, 0)) (l.take i)).2 (D.sc l[i].1)).toNat) (by omega)
    rw [ih] at this
    exact this
theorem lsort_len (names : List Str) (l : List Pc) : (lsort names l).length = l.length := List.length_mergeSort ..
theorem mem_lsort {names : List Str} {l : List Pc} {q : Pc} : q ∈ lsort names l ↔ q ∈ l := List.mem_mergeSort
theorem layers_ok {D : PD} {l : List Pc} (ok : D.Ok) (h : ∀ q ∈ l, okPc D q) : (layersF D l).length ≤ l.length ∧ (layersF D l).flatten.length = l.length ∧ ∀ y ∈ layersF D l, ∀ q ∈ y, okPc D q := by
  obtain ⟨lok, hl⟩ := ly_take ok h l.length (Nat.le_refl _)
  have ht := ly_tot ok h l.length (Nat.le_refl _)
  rw [List.take_of_length_le (Nat.le_refl _)] at lok hl ht
  unfold layersF
  refine ⟨by rw [List.length_map]; exact hl, ?_, fun y hy q hq => ?_⟩
  · rw [List.length_flatten, List.map_map]
    rw [show (List.length ∘ lsort D.names) = (List.length : List Pc → Nat) from funext fun y => lsort_len _ _]
    exact ht
  · obtain ⟨y0, hy0, rfl⟩ := List.mem_map.mp hy
    obtain ⟨i, hi⟩ := List.getElem?_of_mem hy0
    exact ((lok.pc i y0 hi).2 q (mem_lsort.mp hq)).1
def hfs (p la : Addr) : List (Str × V) := [("own_problem", .ref p), ("own_layers", .ref la)]
theorem hn12 : ¬ (("own_layers" : Str) = "own_problem") := by decide +kernel
theorem hfs1 {p la : Addr} : (hfs p la).lookup ("own_problem" : Str) = some (.ref p) := lk0
theorem hfs2 {p la : Addr} : (hfs p la).lookup ("own_layers" : Str) = some (.ref la) := (lk1 hn12).trans lk0
def noH (m : Str) : Prop := ¬ m = "own_problem" ∧ ¬ m = "own_layers"
instance (m : Str) : Decidable (noH m) := by unfold noH; infer_instance
theorem hfsn {p la : Addr} {m : Str} (h : noH m) : (hfs p la).lookup m = none := (lk1 h.1).trans ((lk1 h.2).trans rfl)
theorem hput {p la : Addr} : putF ("own_layers" : Str) (.ref la) ([(("own_problem" : Str), V.ref p)] : List (Str × V)) = hfs p la := by
  rw [putF_ne (fun z => hn12 z.symm), putF_nil]
  rfl
/-- a heap: its problem and its layers -/
def rH (K : PySem.W.Frag) : Rep (PD × List (List Pc)) := fun F v d => ∃ x dx p la, v = .ref x ∧ F x = some (.ins (a_Heap K) dx (hfs p la)) ∧ rP K F (.ref p) d.1 ∧ rL K (rL K (rPc K)) F (.ref la) d.2 ∧ d.2.length ≤ 31 ∧ d.2.flatten.length ≤ 31 ∧ ∀ y ∈ d.2, ∀ q ∈ y, okPc d.1 q
instance {K : PySem.W.Frag} : Up (rH K) := ⟨fun e ⟨x, dx, p, la, h1, h2, h3, h4, h5⟩ => ⟨x, dx, p, la, h1, e _ _ h2, Up.up e h3, Up.up e h4, h5⟩⟩
def sp_Heap (K : PySem.W.Frag) (PT : Addr) : Sp := fun vs H Q _ => match vs with
  | [u, v, z] => ∃ H1 F s sx D l, u = .ref s ∧ H = upd (upd H1 sx (.own s)) s (.ins (a_Heap K) sx []) ∧ H1 s = none ∧ H1 sx = none ∧ sx ≠ s ∧ Same F H1 ∧ rP K F v D ∧ rL K (rPc K) F z l ∧ (∀ q ∈ l, okPc D q) ∧ l.length ≤ 31 ∧ Tb PT F H1 ∧
      ∀ F' H', GrT PT F H1 F' H' → Tb PT F' H' → rH K F' u (D, layersF D l) → Q .non H'
  | _ => False
theorem sc_Heap_init : FnScope ["self", "problem", "pieces"] ["self", "problem", "pieces"] (defScope s_Heap_init) := C8.fnScope_by (by decide +kernel)
theorem b_Heap {P : Program} {w : World} {K : PySem.W.Frag} {mg : Str → Option Value} {base hp : Heap} {PT : Addr} (T : Tx K mg hp) (TB : TabB base mg (He.codeOf K ("layers_of", none)) PT) : Body P w K mg base ["self", "problem", "pieces"] "Heap.__init__" s_Heap_init (He.ma K (He.ga K "Heap") "__init__") 6 (sp_Heap K PT) := by
  intro cdv A outer s H vs Q E hr h
  have nd := sc_Heap_init.nd
  have hu := hu_of hr
  unfold sp_Heap at h
  split at h
  case h_2 => exact h.elim
  obtain ⟨H1, F, s, sx, D, l, rfl, rfl, np, ndx, ne, e, hP, hL, ok, l31, tab, k⟩ := h
  obtain ⟨p, dx, d1, d2, d3, rfl, h, _⟩ := id hP
  refine ⟨_, (pss_cons (ps_expr (C8.pe_c (c_check_problem T) hr (by decide) (by rfl) (pa_cons (pv 1) pa_nil)))
      (pss_cons (ps_expr (C8.pe_c (c_check_pieces T) hr (by decide) (by rfl) (pa_cons (pv 1) (pa_cons (pv 2) pa_nil))))
      (pss_cons (ps_fld (pv 0) (pv 1) rfl)
      (pss_one (ps_fld (pv 0) (C8.pe_c (c_layers_of T TB) hr (by decide) (by rfl) (pa_cons (pv 1) (pa_cons (pv 2) pa_nil))) rfl))))), ?_⟩
  have g0 : Pu F H1 F (upd (upd H1 sx (.own s)) s (.ins (a_Heap K) sx [])) := (Gr.newm e ndx).trans (Gr.newm (e.trans (upd_new ndx)) (by rw [upd_ne ne.symm]; exact np))
  have m0 : Mt F (upd (upd H1 sx (.own s)) s (.ins (a_Heap K) sx [])) s (.ins (a_Heap K) sx []) := ⟨e.free np, upd_same⟩
  have o0 : Mt F (upd (upd H1 sx (.own s)) s (.ins (a_Heap K) sx [])) sx (.own s) := ⟨e.free ndx, by rw [upd_ne ne]; exact upd_same⟩
  refine ⟨_, rfl, D, Up.up g0.fh hP.w, _, rfl, _, rfl, F, D, l, g0.fh, hP.w, hL, ok, l31, fun F1 H2 g1 => ?_⟩
  have g01 := g0.trans g1
  have m1 := m0.pu g1
  have o1 := o0.pu g1
  refine ⟨_, rfl, _, rfl, s, _, sx, _, rfl, m1.h, T.cl_Heap, T.na_Heap_own_problem, (by show 0 < 1000; decide), ?_⟩
  have g2 : Pu F H1 F1 (upd H2 s (.ins (a_Heap K) sx ([(("own_problem" : Str), V.ref p)] : List (Str × V)))) := g01.mut m1.n np
  have m2 : Mt F1 (upd H2 s (.ins (a_Heap K) sx ([(("own_problem" : Str), V.ref p)] : List (Str × V)))) s (.ins (a_Heap K) sx ([(("own_problem" : Str), V.ref p)] : List (Str × V))) := m1.set
  have o2 : Mt F1 (upd H2 s (.ins (a_Heap K) sx ([(("own_problem" : Str), V.ref p)] : List (Str × V)))) sx (.own s) := o1.other ne
  have tb2 := tab.pu g2
  refine ⟨_, rfl, _, rfl, F1, D, l, g2.fh, Up.up g2.f hP, Up.up g2.f hL, ok, l31, tb2, fun v F3 H3 g3 tb3 hv => ?_⟩
  have g23 := (Gr.pu g2).trans g3
  have spt : s ≠ PT := tb2.ne m2 (fun q z => by cases z)
  have xpt : sx ≠ PT := tb2.ne o2 (fun q z => by cases z)
  have m3 := m2.up g3 spt
  have o3 := o2.up g3 xpt
  obtain ⟨la, lx, rfl, hla, hlx⟩ := id hv
  refine ⟨_, rfl, s, _, sx, _, rfl, m3.h, T.cl_Heap, T.na_Heap_own_layers, (by show 1 < 1000; decide), ?_⟩
  rw [hput]
  have g4 := g23.mut (o := .ins (a_Heap K) sx (hfs p la)) m3.n np
  have m4 := m3.set (u := .ins (a_Heap K) sx (hfs p la))
  have o4 := o3.other (u := .ins (a_Heap K) sx (hfs p la)) ne
  have tb4 : Tb PT F3 (upd H3 s (.ins (a_Heap K) sx (hfs p la))) := tb3.set m3 (fun q z => by cases z) (fun c q z => by unfold CodeO at z; cases z)
  have g5 := g4.frz m4.n np m4.h
  have nn : (upd F3 s (.ins (a_Heap K) sx (hfs p la))) sx = none := by rw [upd_ne ne]; exact o4.n
  have sf : Same F3 (upd F3 s (.ins (a_Heap K) sx (hfs p la))) := upd_new m4.n
  obtain ⟨k1, k2, k3⟩ := layers_ok h.ok ok
  refine k _ _ g5 ⟨by rw [upd_ne spt.symm]; exact tb4.f, tb4.t⟩ ⟨s, sx, p, la, rfl, upd_same, Up.up (g2.f.trans (g3.f.trans sf)) hP, Up.up sf hv, by show (layersF D l).length ≤ 31; omega, by show (layersF D l).flatten.length ≤ 31; omega, k3⟩
theorem c_Heap {P : Program} {w : World} {K : PySem.W.Frag} {mg : Str → Option Value} {base hp : Heap} {PT : Addr} (T : Tx K mg hp) (TB : TabB base mg (He.codeOf K ("layers_of", none)) PT) : C8.Mak P w K mg base 7 "Heap" (a_Heap K) (sp_Heap K PT) [] := by
  obtain ⟨fd, F⟩ := T.fd_Heap_init
  obtain ⟨its, hv, hb⟩ := F.binds1 (ps := ["self", "problem", "pieces"]) 3 1 (by simp) rfl fun T kV doc pm an cdv ct us its hu hi => match us, its, hu, hi with | [_, _, _], [_], _, _ => ⟨_, rfl, rfl⟩
  exact ⟨_, fd, _, its, T.mk_Heap, fnok_of F sc_Heap_init (fun vs H Q E h => by unfold sp_Heap at h; split at h <;> first | rfl | exact h.elim) (b_Heap T TB), T.m_Heap, hb, hv⟩
def sp_Heap_problem (K : PySem.W.Frag) : Sp := fun vs H Q _ => match vs with
  | [v] => ∃ F d, Same F H ∧ rH K F v d ∧ ∀ v, rP K F v d.1 → Q v H
  | _ => False
theorem sc_Heap_problem : FnScope ["self"] ["self"] (defScope s_Heap_problem) := C8.fnScope_by (by decide +kernel)
theorem c_Heap_problem {P : Program} {w : World} {K : PySem.W.Frag} {mg : Str → Option Value} {base hp : Heap} (T : Tx K mg hp) : C8.Met P w K mg base 1 (a_Heap K) "problem" (sp_Heap_problem K) [] := by
  obtain ⟨fd, F⟩ := T.fd_Heap_problem
  refine mkMet T.cl_Heap T.me_Heap_problem F sc_Heap_problem (fun _ _ _ _ _ _ us hl => match us, hl with | [_], _ => rfl) (fun vs H Q E h => by unfold sp_Heap_problem at h; split at h <;> first | rfl | exact h.elim) (fun cdv A outer s H vs Q E hr h => ?_)
  have nd := sc_Heap_problem.nd
  have hu := hu_of hr
  unfold sp_Heap_problem at h
  split at h
  case h_2 => exact h.elim
  obtain ⟨F, ⟨D, ls⟩, e, ⟨x, dx, p, la, rfl, hx, hP, hL, _⟩, k⟩ := h
  refine ⟨_, (pss_one (ps_ret (pe_fld (pv 0) rfl))), ?_⟩
  exact ⟨_, rfl, x, _, dx, _, _, rfl, e _ _ hx, T.cl_Heap, T.na_Heap_own_problem, hfs1, k _ hP⟩
def sp_Heap_layers (K : PySem.W.Frag) : Sp := fun vs H Q _ => match vs with
  | [v] => ∃ F d, Same F H ∧ rH K F v d ∧ ∀ v F' H', Pu F H F' H' → rL K (rL K (rPc K)) F' v d.2 → Q v H'
  | _ => False
theorem sc_Heap_layers : FnScope ["self", "layer"] ["self"] (defScope s_Heap_layers) := C8.fnScope_by (by decide +kernel)
theorem c_Heap_layers {P : Program} {w : World} {K : PySem.W.Frag} {mg : Str → Option Value} {base hp : Heap} (T : Tx K mg hp) : C8.Met P w K mg base 1 (a_Heap K) "layers" (sp_Heap_layers K) [] := by
  obtain ⟨fd, F⟩ := T.fd_Heap_layers
  refine mkMet T.cl_Heap T.me_Heap_layers F sc_Heap_layers (fun _ _ _ _ _ _ us hl => match us, hl with | [_], _ => rfl) (fun vs H Q E h => by unfold sp_Heap_layers at h; split at h <;> first | rfl | exact h.elim) (fun cdv A outer s H vs Q E hr h => ?_)
  have nd := sc_Heap_layers.nd
  have hu := hu_of hr
  unfold sp_Heap_layers at h
  split at h
  case h_2 => exact h.elim
  obtain ⟨F, ⟨D, ls⟩, e, ⟨x, dx, p, la, rfl, hx, hP, hL, l31, _⟩, k⟩ := h
  obtain ⟨la, lx, ea, hla, hlx⟩ := hL
  cases ea
  refine ⟨_, (pss_one (ps_ret (pe_lc (own := [("layer", 1)]) (g := (gName 1)) rfl nd (pi_list (pe_fld (pv 0) rfl)) (blkOk_by (own := [("layer", 1)]) (N := ["self", "layer"]) (sc := defScope s_Heap_layers) (by decide +kernel)) (fun _ _ _ _ _ => (pg_name (i := 1) nd rfl (Or.inl rfl))) (fun _ _ _ _ _ => pts_nil) (fun _ _ _ _ _ => (pe_callTy (call_list_ofK (K := K) rfl) (by rfl) T.fr_list (by decide +kernel) (pa_cons (pv 1) pa_nil)))))), ?_⟩
  refine ⟨_, rfl, x, _, dx, _, _, rfl, e _ _ hx, T.cl_Heap, T.na_Heap_own_layers, hfs2, la, rfl, ⟨_, sql_s e hla⟩, ?_⟩
  refine lcL (K := K) (RA := rL K (rPc K)) (R := rL K (rPc K)) (f := fun y => y) (p := fun _ => true) e hla hlx (by have l31 : ls.length ≤ 31 := l31; omega) (fun y v F2 H2 hy g2 hv Kt Kf k1 k2 => ?_) (fun L F2 H2 g2 hL => ?_)
  · obtain ⟨b, ys, rfl, hb, hys⟩ := hv
    refine ⟨rfl, _, rfl, b, ys, rfl, .inl (sql_s g2.fh hb), fun q nq => k1 rfl _ _ _ (Gr.new g2.fh nq) ⟨q, ys, rfl, SqL.of upd_same, hys.up (upd_new (g2.fh.free nq))⟩⟩
  · rw [ptrue, List.map_id'] at hL
    exact k _ _ _ g2 hL
def sp_Heap_pieces (K : PySem.W.Frag) : Sp := fun vs H Q _ => match vs with
  | [v] => ∃ F d, Same F H ∧ rH K F v d ∧ ∀ v F' H', Pu F H F' H' → rL K (rPc K) F' v d.2.flatten → Q v H'
  | _ => False
theorem sc_Heap_pieces : FnScope ["self", "layer", "piece"] ["self"] (defScope s_Heap_pieces) := C8.fnScope_by (by decide +kernel)
theorem c_Heap_pieces {P : Program} {w : World} {K : PySem.W.Frag} {mg : Str → Option Value} {base hp : Heap} (T : Tx K mg hp) : C8.Met P w K mg base 1 (a_Heap K) "pieces" (sp_Heap_pieces K) [] := by
  obtain ⟨fd, F⟩ := T.fd_Heap_pieces
  refine mkMet T.cl_Heap T.me_Heap_pieces F sc_Heap_pieces (fun _ _ _ _ _ _ us hl => match us, hl with | [_], _ => rfl) (fun vs H Q E h => by unfold sp_Heap_pieces at h; split at h <;> first | rfl | exact h.elim) (fun cdv A outer s H vs Q E hr h => ?_)
  have nd := sc_Heap_pieces.nd
  have hu := hu_of hr
  unfold sp_Heap_pieces at h
  split at h
  case h_2 => exact h.elim
  obtain ⟨F, ⟨D, ls⟩, e, ⟨x, dx, p, la, rfl, hx, hP, hL, l31, f31, _⟩, k⟩ := h
  obtain ⟨la, lx, ea, hla, hlx⟩ := hL
  cases ea
  refine ⟨_, (pss_one (ps_ret (pe_lc2 (own := [("layer", 1), ("piece", 2)]) (vs1 := [2]) rfl nd (pi_list (pe_fld (pv 0) rfl)) (blkOk_by (own := [("layer", 1), ("piece", 2)]) (N := ["self", "layer", "piece"]) (sc := defScope s_Heap_pieces) (by decide +kernel)) (by decide) (fun _ _ _ _ _ => (pg_name (i := 1) nd rfl (Or.inl rfl))) (fun _ _ _ _ _ => pts_nil) (fun _ _ _ _ _ => (pi_listK (K := K) rfl (pv 1))) (fun _ _ _ _ _ => (pg_name (i := 2) nd rfl (Or.inl rfl))) (fun _ _ _ _ _ => pts_nil) (fun _ _ _ _ _ => (pv 2))))), ?_⟩
  have l31 : ls.length ≤ 31 := l31
  have f31 : ls.flatten.length ≤ 31 := f31
  have hlx : All2 (rL K (rPc K)) F lx ls := hlx
  have lln := hlx.length
  refine ⟨_, rfl, x, _, dx, _, _, rfl, e _ _ hx, T.cl_Heap, T.na_Heap_own_layers, hfs2, la, rfl, ⟨_, sql_s e hla⟩, ?_⟩
  intro L nL
  have W := walk_list (K := K) (a := la) (xs := lx)
  refine ⟨fun i m H' => m = lx.length - i ∧ i ≤ lx.length ∧ ∃ F', Acc NoM (rPc K) F H F' H' L (ls.take i).flatten, ⟨_, rfl, Nat.zero_le _, F, Acc.begin e nL⟩, ?_⟩
  rintro i m H' ⟨rfl, hi, F', ac⟩
  have hq := sql_s ac.g.fh (sql_s ac.g.f hla)
  by_cases hlt : i < lx.length
  · refine .inr ⟨W.goes i H' hlt hq, fun H' => ∃ F', Acc NoM (rPc K) F H F' H' L (ls.take (i + 1)).flatten, fun H'' p' => ⟨lx.length - (i + 1), by omega, rfl, hlt, p'⟩, fun z H2 y => ?_⟩
    obtain ⟨e2, hz⟩ := W.yields i H' z H2 hlt hq y
    subst e2
    obtain ⟨ly, hly, rz⟩ := hlx.get hz
    obtain ⟨b, ys, rfl, hb, hys⟩ := rz
    have etk : (ls.take (i + 1)).flatten = (ls.take i).flatten ++ ly := by rw [List.take_succ, hly, List.flatten_append]; simp
    have ltot : (ls.take i).flatten.length + ly.length ≤ 31 := by
      have : (ls.take (i + 1)).flatten.length ≤ ls.flatten.length := by
        have h1 := List.take_append_drop (i + 1) ls
        have h2 := congrArg (fun z => (List.flatten z).length) h1
        simp only [List.flatten_append, List.length_append] at h2
        omega
      rw [etk, List.length_append] at this
      omega
    have W1 := walk_list (K := K) (a := b) (xs := ys)
    have lyl := hys.length
    refine ⟨rfl, _, rfl, b, rfl, ⟨_, sql_s ac.g.fh (sql_s ac.g.f hb)⟩, fun j m H' => m = ys.length - j ∧ j ≤ ys.length ∧ ∃ F', Acc NoM (rPc K) F H F' H' L ((ls.take i).flatten ++ ly.take j), ⟨_, rfl, Nat.zero_le _, F', by rw [List.take_zero, List.append_nil]; exact ac⟩, ?_⟩
    rintro j m H3 ⟨rfl, hj, F3, ac3⟩
    have hq3 := sql_s ac3.g.fh (sql_s ac3.g.f hb)
    by_cases hlt3 : j < ys.length
    · refine .inr ⟨W1.goes j H3 hlt3 hq3, fun H' => ∃ F', Acc NoM (rPc K) F H F' H' L ((ls.take i).flatten ++ ly.take (j + 1)), fun H'' p' => ⟨ys.length - (j + 1), by omega, rfl, hlt3, p'⟩, fun z H4 y => ?_⟩
      obtain ⟨e4, hz4⟩ := W1.yields j H3 z H4 hlt3 hq3 y
      subst e4
      obtain ⟨q, hq4, rq⟩ := hys.get hz4
      obtain ⟨acc, h1, h2, h3⟩ := ac3.push (Up.up ac3.g.f rq)
      refine ⟨rfl, _, rfl, acc, h1, lt_line ?_, F3, ?_⟩
      · rw [h2, List.length_append, List.length_take]
        omega
      · rw [List.take_succ, hq4]
        rw [List.append_assoc] at h3
        exact h3
    · have ej : j = ys.length := by omega
      subst ej
      refine .inl ⟨W1.stops H3 hq3, F3, ?_⟩
      rw [show ly.take ys.length = ly from List.take_of_length_le (by omega), ← etk] at ac3
      exact ac3
  · have ei : i = lx.length := by omega
    subst ei
    rw [List.take_of_length_le (by omega)] at ac
    obtain ⟨F2, g2, _, h2⟩ := ac.done (K := K)
    exact .inl ⟨W.stops H' hq, k _ _ _ g2 h2⟩
end Rs
/-! text R31 -/
set_option Elab.async false
set_option linter.all false
set_option maxRecDepth 100000
set_option maxHeartbeats 4000000
set_option exponentiation.threshold 20000
namespace Rs
open PySem PySem.Spec PyProof.Rows L2 LamX
def hwL (D : PD) (l : List Pc) : List (Int × Int) := l.map fun q => nrm 1 (tcount D.vars (D.sc q.1))
def hwF (D : PD) (l : List Pc) : Int × Int := prodR (hwL D l)
theorem hw_rb {D : PD} (ok : D.Ok) {l : List Pc} (h : ∀ q ∈ l, okPc D q) : ∀ p ∈ hwL D l, Rb (60 ^ 4) 1 p := by
  intro p hp
  obtain ⟨q, hq, rfl⟩ := List.mem_map.mp hp
  obtain ⟨h1, h2⟩ := tc_dvd4 ok.v (scope_of ok (sc_of (h q hq).1))
  refine rb_int 1 (by omega) ?_ h2
  decide
theorem hw_bd {D : PD} (ok : D.Ok) {l : List Pc} (h : ∀ q ∈ l, okPc D q) (h31 : l.length ≤ 31) : bdL mulR (1, 1) (hwL D l) := by
  have l31 : (hwL D l).length ≤ 31 := by unfold hwL; rw [List.length_map]; exact h31
  exact bdl_prod (hw_rb ok h) (by decide) (by decide) (by decide) (by decide) (Nat.lt_of_le_of_lt (Nat.pow_le_pow_right (by decide) l31) (by decide)) (Nat.le_trans (Nat.pow_le_pow_right (by decide) l31) (by decide))
def sp_heap_weight (K : PySem.W.Frag) : Sp := fun vs H Q _ => match vs with
  | [v] => ∃ F d, Same F H ∧ rH K F v d ∧ ∀ v F' H', Pu F H F' H' → rR K F' v (hwF d.1 d.2.flatten) → Q v H'
  | _ => False
theorem sc_heap_weight : FnScope ["heap", "event", "bad_tuple"] ["heap"] (defScope s_heap_weight) := C8.fnScope_by (by decide +kernel)
theorem c_heap_weight {P : Program} {w : World} {K : PySem.W.Frag} {mg : Str → Option Value} {base hp : Heap} (T : Tx K mg hp) : C8.Cal P w K mg base 6 "heap_weight" (sp_heap_weight K) [] := by
  obtain ⟨fd, F⟩ := T.fd_heap_weight
  refine mkCal T.gl_heap_weight F sc_heap_weight (fun _ _ _ _ _ _ us hl => match us, hl with | [_], _ => rfl) (fun vs H Q E h => by unfold sp_heap_weight at h; split at h <;> first | rfl | exact h.elim) (fun cdv A outer s H vs Q E hr h => ?_)
  have nd := sc_heap_weight.nd
  have hu := hu_of hr
  unfold sp_heap_weight at h
  split at h
  case h_2 => exact h.elim
  obtain ⟨F, ⟨D, ls⟩, e, hH, k⟩ := h
  obtain ⟨x, dx, p, la, rfl, hx, hP, hL, l31, f31, okp⟩ := id hH
  obtain ⟨p', dp, d1, d2, d3, ep, hp', _⟩ := id hP
  have f31 : ls.flatten.length ≤ 31 := f31
  have okD : D.Ok := hp'.ok
  have okf : ∀ q ∈ ls.flatten, okPc D q := fun q hq => by
    obtain ⟨y, hy, hqy⟩ := List.mem_flatten.mp hq
    exact okp y hy q hqy
  refine ⟨_, (pss_cons (ps_if (pt_not (pt_val (pe_callB (C8.call_isC T.i_Heap) (by rfl) T.fr_isinstance (by decide +kernel) (pa_cons (pv 0) (pa_cons (C8.pe_gc (by rfl) T.g_Heap) pa_nil))))) pss_never pss_nil)
      (pss_one (ps_ret (C8.pe_c (c_ratio_product T) hr (by decide) (by rfl) (pa_cons (pe_lc (own := [("event", 1), ("bad_tuple", 2)]) (g := (gTup K 2 (gCons (gName 1) (gCons (gName 2) gNil)))) rfl nd (pi_list (C8.pe_mt0 (c_Heap_pieces T) hr (by decide) (pv 0))) (blkOk_by (own := [("event", 1), ("bad_tuple", 2)]) (N := ["heap", "event", "bad_tuple"]) (sc := defScope s_heap_weight) (by decide +kernel)) (fun _ _ _ _ _ => (pg_tup rfl (pgs_cons (pg_name (i := 1) nd rfl (Or.inl rfl)) (pgs_cons (pg_name (i := 2) nd rfl (Or.inl rfl)) pgs_nil)))) (fun _ _ _ _ _ => pts_nil) (fun _ _ _ _ _ => (C8.pe_mk (c_Ratio T) hr (by decide) (by rfl) (pa_cons pe_int (pa_cons (C8.pe_c (c_scope_count T) hr (by decide) (by rfl) (pa_cons (C8.pe_mt0 (c_Heap_problem T) hr (by decide) (pv 0)) (pa_cons (pv 1) pa_nil))) pa_nil))))) pa_nil))))), ?_⟩
  refine ⟨_, rfl, x, dx, _, rfl, e _ _ hx, _, rfl, iteF ?_⟩
  refine ⟨_, rfl, x, dx, _, rfl, e _ _ hx, hfsn (by decide +kernel), F, (D, ls), e, hH, fun v F1 H1 g1 hv => ?_⟩
  obtain ⟨a, xs, rfl, ha, hxs⟩ := hv
  refine ⟨a, rfl, ⟨_, sql_s g1.fh ha⟩, ?_⟩
  refine lcL (K := K) (RA := rPc K) (R := rR K) (f := fun q => nrm 1 (tcount D.vars (D.sc q.1))) (p := fun _ => true) g1.fh ha hxs (by omega) (fun y v F2 H2 hy g2 hv Kt Kf k1 k2 => ?_) (fun L F2 H2 g2 hL => ?_)
  · obtain ⟨qa, q0, q1, rfl, hqa, hq0, hq1⟩ := hv
    cases hq0
    have g12 := g1.trans g2
    have okq := okf y hy
    have hH2 := Up.up g12.f hH
    refine ⟨qa, _, rfl, sqt_s g2.fh hqa, rfl, _, _, rfl, _, _, rfl, rfl, rfl, ?_⟩
    obtain ⟨t1, t2⟩ := tc_dvd4 okD.v (scope_of okD (sc_of okq.1))
    have tin := tcount_in okD.v (scope_of okD (sc_of okq.1)) (D.sc y.1).length
    rw [List.take_of_length_le (Nat.le_refl _)] at tin
    have hx2 : H2 x = some (.ins (a_Heap K) dx (hfs p la)) := g2.fh _ _ (g12.f _ _ hx)
    refine ⟨_, rfl, x, dx, _, rfl, hx2, hfsn (by decide +kernel), F2, (D, ls), g2.fh, hH2, fun v hv => ⟨_, rfl, F2, D, y.1, g2.fh, hv.w, rfl, okq.1, fun F3 H3 g3 => ?_⟩⟩
    refine fun z dz nz ndz ne => ⟨z, dz, _, _, rfl, rfl, rfl, upd_same, by omega, ?_, fun H' e' => ⟨rfl, ?_⟩⟩
    · have : (tcount D.vars (D.sc y.1)).natAbs < 2 ^ 11 := by omega
      exact Nat.lt_of_lt_of_le this (Nat.pow_le_pow_right (by decide) (by decide))
    · subst e'
      exact k1 rfl _ _ _ (g3.trans (Gr.made g3.fh nz ndz ne)) ⟨z, dz, rfl, made_at⟩
  · rw [ptrue] at hL
    exact ⟨F2, _, g2.fh, hL, hw_bd okD okf f31, fun v F' H' g3 hv => k _ _ _ ((g1.trans g2).trans g3) hv⟩
end Rs
/-! text RL1 -/
set_option Elab.async false
set_option linter.all false
set_option maxRecDepth 100000
set_option maxHeartbeats 4000000
set_option exponentiation.threshold 20000
namespace Rs
open PySem PySem.Spec PyProof.Rows L2
/-! ### the law's own helpers: cells, boxes, takes -/
/-- the box at bx, as it stands: n takes at most were made of it -/
def Bx (F H : Hp) (bx : Addr) (n : Nat) : Prop := ∃ a b c : Int, Mt F H bx (.lst [.int a, .int b, .int c]) ∧ 0 ≤ a ∧ 0 ≤ b ∧ b < 2147483629 ∧ 0 ≤ c ∧ c ≤ n
theorem Bx.up {M : Addr → Prop} {F H F' H' : Hp} {bx : Addr} {n : Nat} (h : Bx F H bx n) (g : Gr M F H F' H') (hm : ¬ M bx) : Bx F' H' bx n := let ⟨a, b, c, m, r⟩ := h; ⟨a, b, c, m.up g hm, r⟩
theorem Bx.pu {F H F' H' : Hp} {bx : Addr} {n : Nat} (h : Bx F H bx n) (g : Pu F H F' H') : Bx F' H' bx n := h.up g fun z => z
theorem Bx.other {F H : Hp} {bx q : Addr} {u : HO} {n : Nat} (h : Bx F H bx n) (hq : bx ≠ q) : Bx F (upd H q u) bx n := let ⟨a, b, c, m, r⟩ := h; ⟨a, b, c, m.other hq, r⟩
theorem Bx.mono {F H : Hp} {bx : Addr} {n m : Nat} (h : Bx F H bx n) (l : n ≤ m) : Bx F H bx m := let ⟨a, b, c, k, h1, h2, h3, h4, h5⟩ := h; ⟨a, b, c, k, h1, h2, h3, h4, by omega⟩
theorem Bx.frz {F H : Hp} {bx q : Addr} {u : HO} {n : Nat} (h : Bx F H bx n) (hq : bx ≠ q) : Bx (upd F q u) H bx n := let ⟨a, b, c, m, r⟩ := h; ⟨a, b, c, ⟨by rw [upd_ne hq]; exact m.n, m.h⟩, r⟩
theorem Bx.some {F H : Hp} {bx : Addr} {n : Nat} (h : Bx F H bx n) : H bx ≠ none := let ⟨_, _, _, m, _⟩ := h; by rw [m.h]; exact fun z => nomatch z
def sp__law_cell (K : PySem.W.Frag) : Sp := fun vs H Q _ => match vs with
  | [u, v] => ∃ (a : Addr) (l : List Int) (k : Int), u = .ref a ∧ SqL K H a (l.map V.int) ∧ v = .int k ∧ 0 ≤ k ∧ k < 5 ∧ ∀ c, Q (.int c) H
  | _ => False
theorem sc__law_cell : FnScope ["_law_script", "_law_k"] ["_law_script", "_law_k"] (defScope s__law_cell) := C8.fnScope_by (by decide +kernel)
theorem c__law_cell {P : Program} {w : World} {K : PySem.W.Frag} {mg : Str → Option Value} {base hp : Heap} (T : Tx K mg hp) : C8.Cal P w K mg base 1 "_law_cell" (sp__law_cell K) [] := by
  obtain ⟨fd, F⟩ := T.fd__law_cell
  refine mkCal T.gl__law_cell F sc__law_cell (fun _ _ _ _ _ _ us hl => match us, hl with | [_, _], _ => rfl) (fun vs H Q E h => by unfold sp__law_cell at h; split at h <;> first | rfl | exact h.elim) (fun cdv A outer s H vs Q E hr h => ?_)
  have nd := sc__law_cell.nd
  have hu := hu_of hr
  unfold sp__law_cell at h
  split at h
  case h_2 => exact h.elim
  obtain ⟨a, l, kk, rfl, hs, rfl, h0, h5, k⟩ := h
  refine ⟨_, (pss_cons (ps_if (pt_cmpR op_lt (pv 1) (pe_callB call_len_seq (by rfl) T.fr_len (by decide +kernel) (pa_cons (pv 0) pa_nil)) (nomark _)) (pss_one (ps_ret (pe_ix ix_list (pv 0) (pv 1) (fun _ _ => rfl)))) pss_nil)
      (pss_one (ps_ret (pe_op op_add (pe_op op_mulW pe_int (pv 1)) pe_int)))), ?_⟩
  refine ⟨_, rfl, _, rfl, a, _, rfl, .inl hs, _, _, rfl, rfl, _, rfl, ?_⟩
  by_cases hk : kk < (l.map V.int).length
  · obtain ⟨n, rfl⟩ : ∃ n : Nat, kk = n := ⟨kk.toNat, by omega⟩
    have hn : n < l.length := by rw [List.length_map] at hk; omega
    exact iteY hk ⟨_, rfl, _, rfl, a, _, _, .int l[n], rfl, rfl, hs, atI_nat (by rw [List.getElem?_map, List.getElem?_eq_getElem hn]; rfl), k _⟩
  · exact iteN hk ⟨_, rfl, _, _, rfl, rfl, wide_mul (a := 14) (b := 3) (by decide) (by omega) (by decide) (by decide) (by decide), _, _, rfl, rfl, k _⟩
def sp__law_box (K : PySem.W.Frag) : Sp := fun vs H Q _ => match vs with
  | [u] => ∃ F c, u = .int c ∧ Same F H ∧ ∀ bx H', H bx = none → Pu F H F H' → Bx F H' bx 0 → Q (.ref bx) H'
  | _ => False
theorem sc__law_box : FnScope ["_law_cell_here"] ["_law_cell_here"] (defScope s__law_box) := C8.fnScope_by (by decide +kernel)
theorem c__law_box {P : Program} {w : World} {K : PySem.W.Frag} {mg : Str → Option Value} {base hp : Heap} (T : Tx K mg hp) : C8.Cal P w K mg base 1 "_law_box" (sp__law_box K) [] := by
  obtain ⟨fd, F⟩ := T.fd__law_box
  refine mkCal T.gl__law_box F sc__law_box (fun _ _ _ _ _ _ us hl => match us, hl with | [_], _ => rfl) (fun vs H Q E h => by unfold sp__law_box at h; split at h <;> first | rfl | exact h.elim) (fun cdv A outer s H vs Q E hr h => ?_)
  have nd := sc__law_box.nd
  have hu := hu_of hr
  unfold sp__law_box at h
  split at h
  case h_2 => exact h.elim
  obtain ⟨F, c, rfl, e, k⟩ := h
  refine ⟨_, (pss_one (ps_ret (pe_lst (pa_cons (pe_callB (call_max2 rfl) (by rfl) T.fr_max (by decide +kernel) (pa_cons pe_int (pa_cons (pe_op op_sub (pv 0) (pe_op op_pow pe_int pe_int)) pa_nil))) (pa_cons (pe_op op_mod (pv 0) pe_int) (pa_cons pe_int pa_nil)))))), ?_⟩
  refine ⟨_, rfl, _, _, rfl, rfl, ⟨by decide, by decide, by decide⟩, _, _, rfl, rfl, _, _, rfl, _, rfl, _, _, rfl, rfl, (by show (0 : Int) < 2147483629; decide), le_line (by show 3 ≤ 1000000; omega), fun bx nb => ?_⟩
  refine k _ _ nb (Gr.newm e nb) ⟨_, _, _, Mt.new e nb, ?_, Int.emod_nonneg _ (by decide), Int.emod_lt_of_pos _ (by decide), by omega, by omega⟩
  split <;> omega
def sp__law_take (K : PySem.W.Frag) : Sp := fun vs H Q _ => match vs with
  | [u, v] => ∃ F bx n m, u = .ref bx ∧ Bx F H bx n ∧ n ≤ 1000000 ∧ v = .int m ∧ 0 < m ∧ m ≤ 1000000 ∧ Same F H ∧ ∀ r H', 0 ≤ r → r < m → Gr (fun b => b = bx) F H F H' → Bx F H' bx (n + 1) → Q (.int r) H'
  | _ => False
theorem sc__law_take : FnScope ["_law_box_here", "_law_many", "_law_mixed", "_law_digit"] ["_law_box_here", "_law_many"] (defScope s__law_take) := C8.fnScope_by (by decide +kernel)
theorem c__law_take {P : Program} {w : World} {K : PySem.W.Frag} {mg : Str → Option Value} {base hp : Heap} (T : Tx K mg hp) : C8.Cal P w K mg base 1 "_law_take" (sp__law_take K) [] := by
  obtain ⟨fd, F⟩ := T.fd__law_take
  refine mkCal T.gl__law_take F sc__law_take (fun _ _ _ _ _ _ us hl => match us, hl with | [_, _], _ => rfl) (fun vs H Q E h => by unfold sp__law_take at h; split at h <;> first | rfl | exact h.elim) (fun cdv A outer s H vs Q E hr h => ?_)
  have nd := sc__law_take.nd
  have hu := hu_of hr
  unfold sp__law_take at h
  split at h
  case h_2 => exact h.elim
  obtain ⟨F, bx, n, m, rfl, ⟨a, b, c, mb, a0, b0, b1, c0, c1⟩, hn, rfl, m0, m1, e, k⟩ := h
  refine ⟨_, (pss_cons (ps_if (pt_cmpR op_gt (pe_ix ix_list (pv 0) pe_int (fun _ _ => rfl)) pe_int (nomark _)) (pss_cons (ps_set (i := 3) nd rfl (Or.inl rfl) (pe_op op_mod (pe_ix ix_list (pv 0) pe_int (fun _ _ => rfl)) (pv 1)))
      (pss_cons (ps_asg (pe_op op_fdivW (pe_ix ix_list (pv 0) pe_int (fun _ _ => rfl)) (pv 1)) (pg_sub (pv 0) pe_int set_list))
      (pss_one (ps_ret (pv 3))))) pss_nil)
      (pss_cons (ps_asg (pe_op op_add (pe_ix ix_list (pv 0) pe_int (fun _ _ => rfl)) pe_int) (pg_sub (pv 0) pe_int set_list))
      (pss_cons (ps_set (i := 2) nd rfl (Or.inl rfl) (pe_op op_mod (pe_op op_pow (pe_op op_add (pe_op op_add (pe_ix ix_list (pv 0) pe_int (fun _ _ => rfl)) (pe_op op_mulW pe_int (pe_ix ix_list (pv 0) pe_int (fun _ _ => rfl)))) pe_int) pe_int) pe_int))
      (pss_cons (ps_set (i := 2) nd rfl (Or.inl rfl) (pe_op op_mod (pe_op op_pow (pe_op op_add (pv 2) (pe_op op_mulW pe_int (pe_ix ix_list (pv 0) pe_int (fun _ _ => rfl)))) pe_int) pe_int))
      (pss_one (ps_ret (pe_op op_mod (pe_op op_fdivW (pv 2) pe_int) (pv 1)))))))), ?_⟩
  refine ⟨_, rfl, bx, _, _, .int a, rfl, rfl, SqL.of mb.h, rfl, _, _, rfl, rfl, _, rfl, ?_⟩
  by_cases ha : 0 < a
  · refine iteY ha ⟨_, rfl, bx, _, _, .int a, rfl, rfl, SqL.of mb.h, rfl, _, rfl, _, _, rfl, rfl, m0, ?_⟩
    refine ⟨_, rfl, bx, _, _, .int a, rfl, rfl, SqL.of mb.h, rfl, _, rfl, _, _, rfl, rfl, ⟨m0, ?_⟩, _, rfl, bx, _, _, _, rfl, rfl, mb.h, rfl, _, rfl, ?_⟩
    · have : m.natAbs < 2 ^ 20 := by omega
      have := (Nat.log2_lt (by omega)).mpr this
      omega
    · refine k _ _ (Int.emod_nonneg _ (by omega)) (Int.emod_lt_of_pos _ m0) ((Gr.refl e).set mb.n rfl) ⟨_, _, _, mb.set, Int.ediv_nonneg a0 (by omega), b0, b1, c0, by omega⟩
  · refine iteN ha ⟨_, rfl, bx, _, _, .int c, rfl, rfl, SqL.of mb.h, rfl, _, _, rfl, rfl, _, rfl, bx, _, _, _, rfl, rfl, mb.h, rfl, ?_⟩
    refine ⟨_, rfl, bx, _, _, .int b, rfl, rfl, SqL.of upd_same, rfl, _, rfl, bx, _, _, .int (c + 1), rfl, rfl, SqL.of upd_same, rfl, _, _, rfl, rfl, wide_mul (a := 14) (b := 40) (by decide) (by omega) (by decide) (by decide) (by decide), _, _, rfl, rfl, _, _, rfl, rfl, _, _, rfl, rfl, ⟨by decide, by decide, by omega⟩, _, _, rfl, rfl, (by show (0 : Int) < 2147483647; decide), ?_⟩
    have r0 := Int.emod_nonneg ((b + 9293 * (c + 1) + 347) ^ (5 : Int).toNat) (show (2147483647 : Int) ≠ 0 by decide)
    have r1 := Int.emod_lt_of_pos ((b + 9293 * (c + 1) + 347) ^ (5 : Int).toNat) (show (0 : Int) < 2147483647 by decide)
    generalize (b + 9293 * (c + 1) + 347) ^ (5 : Int).toNat % 2147483647 = x at r0 r1 ⊢
    refine ⟨_, rfl, _, rfl, bx, _, _, .int (c + 1), rfl, rfl, SqL.of upd_same, rfl, _, _, rfl, rfl, wide_mul (a := 20) (b := 40) (by decide) (by omega) (by decide) (by decide) (by decide), _, _, rfl, rfl, _, _, rfl, rfl, ⟨by decide, by decide, by omega⟩, _, _, rfl, rfl, (by show (0 : Int) < 2147483587; decide), ?_⟩
    refine ⟨_, rfl, _, _, rfl, rfl, ⟨by decide, by decide +kernel⟩, _, rfl, _, _, rfl, rfl, m0, k _ _ (Int.emod_nonneg _ (by omega)) (Int.emod_lt_of_pos _ m0) ((Gr.refl e).set mb.n rfl) ⟨_, _, _, mb.set, a0, b0, b1, by omega, by omega⟩⟩
end Rs
/-! text RL2 -/
set_option Elab.async false
set_option linter.all false
set_option maxRecDepth 100000
set_option maxHeartbeats 4000000
namespace Rs
open PySem PySem.Spec PyProof.Rows L2
abbrev LT : Str := "abcdefghijklmnopqrstuvwxyz"
theorem LT_len : LT.cps.size = 26 := by decide +kernel
theorem LT_len' : LT.cps.toList.length = 26 := by decide +kernel
theorem LT_nd : LT.cps.toList.Nodup := by decide +kernel
/-- letters only -/
def low (x : Str) : Prop := ∀ c ∈ x.cps.toList, c ∈ LT.cps.toList
theorem cps_app (x y : Str) : (x ++ y).cps.toList = x.cps.toList ++ y.cps.toList := by
  show (x.cps ++ y.cps).toList = _
  rw [Array.toList_append]
theorem len_app (x y : Str) : (x ++ y).length = x.length + y.length := by
  show (x.cps ++ y.cps).size = _
  rw [Array.size_append]
  rfl
theorem low_app {x y : Str} (hx : low x) (hy : low y) : low (x ++ y) := fun c hc => by
  rw [cps_app] at hc
  rcases List.mem_append.mp hc with h | h
  · exact hx c h
  · exact hy c h
theorem slice_cps (x : Str) (n : Nat) : (Txt.slice x none (some (n : Int))).cps.toList = x.cps.toList.take n := by
  have h := SX.slice_to (a := x.cps.toList) (i := (n : Int)) (by omega)
  rw [SX.S_tl] at h
  rw [h]
  show (x.cps.toList.take ((n : Int)).toNat).toArray.toList = _
  rfl
theorem slice_low {x : Str} {n : Nat} (h : low x) : low (Txt.slice x none (some (n : Int))) := fun c hc => by
  rw [slice_cps] at hc
  exact h c (List.mem_of_mem_take hc)
theorem slice_len (x : Str) (n : Nat) : (Txt.slice x none (some (n : Int))).length = min n x.length := by
  show (Txt.slice x none (some (n : Int))).cps.size = _
  rw [← Array.length_toList, slice_cps, List.length_take, Array.length_toList]
  rfl
theorem joinL_nil : ∀ ys : List (List Nat), TL.joinL [] ys = ys.flatten
  | [] => rfl
  | [p] => by show p = [p].flatten; simp
  | p :: q :: r => by
    show p ++ ([] ++ TL.joinL [] (q :: r)) = _
    rw [joinL_nil (q :: r), List.nil_append]
    rfl
theorem join_cps (ys : List Str) : (Txt.join ("" : Str) ys).cps.toList = (ys.map (·.cps.toList)).flatten := by
  have h := SX.join_S [] (ys.map (·.cps.toList))
  rw [List.map_map, joinL_nil] at h
  have e1 : ys.map (SX.S ∘ fun y : Str => y.cps.toList) = ys := (List.map_congr_left fun y _ => SX.S_tl y).trans (List.map_id ys)
  rw [e1] at h
  have e2 : ("" : Str) = SX.S [] := by decide +kernel
  rw [e2, h]
theorem join_low {ys : List Str} (h : ∀ y ∈ ys, low y) : low (Txt.join ("" : Str) ys) ∧ (Txt.join ("" : Str) ys).length = (ys.map (·.length)).sum := by
  refine ⟨fun c hc => ?_, ?_⟩
  · rw [join_cps] at hc
    obtain ⟨l, hl, hcl⟩ := List.mem_flatten.mp hc
    obtain ⟨y, hy, rfl⟩ := List.mem_map.mp hl
    exact h y hy c hcl
  · show (Txt.join ("" : Str) ys).cps.size = _
    rw [← Array.length_toList, join_cps, List.length_flatten, List.map_map]
    congr 1
def chr1 (c : Nat) : Str := ⟨#[c]⟩
theorem chr_low {c : Nat} (h : c ∈ LT.cps.toList) : low (chr1 c) := fun d hd => by
  have : d = c := by simpa [chr1] using hd
  rw [this]
  exact h
theorem sum_one {ys : List Str} (hy : ∀ y ∈ ys, y.length = 1) : (ys.map (·.length)).sum = ys.length := by
  induction ys with
  | nil => rfl
  | cons a l ih =>
    rw [List.map_cons, List.sum_cons, hy a (List.mem_cons_self ..), ih (fun y h => hy y (List.mem_cons_of_mem _ h)), List.length_cons]
    omega
/-- the word made of a stem and some letters -/
theorem word_ok {stem : Str} {ys : List Str} (hs : low stem) (hy : ∀ y ∈ ys, low y ∧ y.length = 1) (h1 : 1 ≤ ys.length) : isName (Txt.slice (stem ++ Txt.join ("" : Str) ys) none (some 8)) := by
  obtain ⟨j1, j2⟩ := join_low (fun y h => (hy y h).1)
  have e8 : (some (8 : Int)) = some ((8 : Nat) : Int) := rfl
  rw [e8]
  have hl : (ys.map (·.length)).sum = ys.length := sum_one fun y h => (hy y h).2
  have ln := slice_len (stem ++ Txt.join ("" : Str) ys) 8
  rw [len_app, j2, hl] at ln
  exact ⟨by omega, by omega, slice_low (low_app hs j1)⟩
def spr7 (word : Str) (c : Nat) : Str := Txt.slice word none (some 7) ++ chr1 c
theorem spr7_ok {word : Str} {c : Nat} (h : isName word) (hc : c ∈ LT.cps.toList) : isName (spr7 word c) := by
  have ln := slice_len word 7
  have e7 : (some (7 : Int)) = some ((7 : Nat) : Int) := rfl
  unfold spr7
  rw [e7]
  have e1 : (chr1 c).length = 1 := rfl
  refine ⟨by rw [len_app]; omega, by rw [len_app]; omega, low_app (slice_low h.2.2) (chr_low hc)⟩
theorem spr7_inj {word : Str} {c d : Nat} (h : spr7 word c = spr7 word d) : c = d := by
  have := congrArg (fun x : Str => x.cps.toList) h
  unfold spr7 at this
  simp only [cps_app] at this
  have := List.append_cancel_left this
  have : [c] = [d] := this
  exact (List.cons.inj this).1
theorem spare_ex {word : Str} {names : List Str} (hn : names.length < 26) : ∃ c l, LT.cps.toList.filter (fun c => decide (spr7 word c ∉ names)) = c :: l ∧ c ∈ LT.cps.toList ∧ spr7 word c ∉ names := by
  cases hf : LT.cps.toList.filter (fun c => decide (spr7 word c ∉ names)) with
  | cons c l =>
    have hm : c ∈ LT.cps.toList.filter (fun c => decide (spr7 word c ∉ names)) := by rw [hf]; exact List.mem_cons_self ..
    obtain ⟨h1, h2⟩ := List.mem_filter.mp hm
    exact ⟨c, l, rfl, h1, of_decide_eq_true h2⟩
  | nil =>
    exfalso
    have hall : ∀ c ∈ LT.cps.toList, spr7 word c ∈ names := fun c hc => by
      have := List.filter_eq_nil_iff.mp hf c hc
      have := of_decide_eq_false (Bool.eq_false_iff.mpr this)
      exact Decidable.not_not.mp this
    have h2 : (LT.cps.toList.map (spr7 word)).length ≤ names.length := nodup_le (by
      have := LT_nd
      refine List.Pairwise.map _ (fun a b h e => h (spr7_inj e)) this) fun x hx => by
      obtain ⟨c, hc, rfl⟩ := List.mem_map.mp hx
      exact hall c hc
    rw [List.length_map, LT_len'] at h2
    omega
end Rs
/-! text RL3 -/
set_option Elab.async false
set_option linter.all false
set_option maxRecDepth 100000
set_option maxHeartbeats 4000000
namespace Rs
open PySem PySem.Spec PyProof.Rows L2
abbrev GrB (bx : Addr) (F H F' H' : Hp) : Prop := Gr (fun b => b = bx) F H F' H'
def sp__law_names (K : PySem.W.Frag) : Sp := fun vs H Q _ => match vs with
  | [u, v] => ∃ F bx n m, u = .ref bx ∧ Bx F H bx n ∧ n ≤ 100000 ∧ v = .int m ∧ 0 ≤ m ∧ m ≤ 8 ∧ Same F H ∧ ∀ v F' H' names, GrB bx F H F' H' → Bx F' H' bx (n + 64) → rL K rS F' v names → names.length = m.toNat → (∀ x ∈ names, isName x) → names.Nodup → Q v H'
  | _ => False
theorem bx_iv {F H : Hp} {bx : Addr} {n cnt : Nat} (h : Bx F H bx n) : IvOk (fun b => b = bx) (fun j F H => Bx F H bx (n + j)) F H cnt where
  m := fun D hD z => h.some (z ▸ hD)
  i0 := h
  iu := fun _ _ _ _ _ _ t g => t.pu g
  ip := fun D hD _ _ _ _ _ _ t m => t.other fun z => h.some (z ▸ hD)
  i2 := fun D hD F1 H1 o g t m => t.frz fun z => h.some (z ▸ hD)
theorem sc__law_names : FnScope ["_law_box_here", "_law_many", "_law_letters", "_law_names_here", "_law_k", "_law_stem", "_law_word", "_law_spare", "_law_letter", "_law_j"] ["_law_box_here", "_law_many"] (defScope s__law_names) := C8.fnScope_by (by decide +kernel)
theorem c__law_names {P : Program} {w : World} {K : PySem.W.Frag} {mg : Str → Option Value} {base hp : Heap} (T : Tx K mg hp) : C8.Cal P w K mg base 2 "_law_names" (sp__law_names K) [] := by
  obtain ⟨fd, F⟩ := T.fd__law_names
  refine mkCal T.gl__law_names F sc__law_names (fun _ _ _ _ _ _ us hl => match us, hl with | [_, _], _ => rfl) (fun vs H Q E h => by unfold sp__law_names at h; split at h <;> first | rfl | exact h.elim) (fun cdv A outer s H vs Q E hr h => ?_)
  have nd := sc__law_names.nd
  have hu := hu_of hr
  unfold sp__law_names at h
  split at h
  case h_2 => exact h.elim
  obtain ⟨F, bx, n, m, rfl, hB, hn, rfl, m0, m8, e, k⟩ := h
  refine ⟨_, (pss_cons (ps_set (i := 2) nd rfl (Or.inr rfl) pe_str)
      (pss_cons (ps_set (i := 3) nd rfl (Or.inr rfl) (pe_lst pa_nil))
      (pss_cons (ps_for PassesOwn.never rfl (pi_range1 (by rfl) T.fr_range (pa_cons (pv 1) pa_nil)) (pg_name (i := 4) nd rfl (Or.inl rfl)) (pss_cons (ps_set (i := 5) nd rfl (Or.inl rfl) pe_str)
      (C8.pss_cut (ps_if (PW.pt (pw_and (pt_cmpR (op_neD hr.units) (pv 3) (pe_lst pa_nil) (nomark _)) (pw_and1 (pt_cmpR op_eq (C8.pe_c (c__law_take T) hr (by decide) (by rfl) (pa_cons (pv 0) (pa_cons pe_int pa_nil))) pe_int (nomark _))))) (pss_one (ps_set (i := 5) nd rfl (Or.inl rfl) (pe_ix ix_list (pv 3) (C8.pe_c (c__law_take T) hr (by decide) (by rfl) (pa_cons (pv 0) (pa_cons (pe_callB call_len_seq (by rfl) T.fr_len (by decide +kernel) (pa_cons (pv 3) pa_nil)) pa_nil))) (fun _ _ => rfl)))) pss_nil)
      (pss_cons (ps_set (i := 6) nd rfl (Or.inr rfl) (pe_slice C8.sl_txt (pe_op op_add_str (pv 5) (pe_join pe_str (pe_lc (own := [("_law_j", 9)]) (g := (gName 9)) rfl nd (pi_range1 (by rfl) T.fr_range (pa_cons (pe_op op_add pe_int (C8.pe_c (c__law_take T) hr (by decide) (by rfl) (pa_cons (pv 0) (pa_cons pe_int pa_nil)))) pa_nil)) (blkOk_by (own := [("_law_j", 9)]) (N := ["_law_box_here", "_law_many", "_law_letters", "_law_names_here", "_law_k", "_law_stem", "_law_word", "_law_spare", "_law_letter", "_law_j"]) (sc := defScope s__law_names) (by decide +kernel)) (fun _ _ _ _ _ => (pg_name (i := 9) nd rfl (Or.inl rfl))) (fun _ _ _ _ _ => pts_nil) (fun _ _ _ _ _ => (pe_ix ix_str (pv 2) (C8.pe_c (c__law_take T) hr (by decide) (by rfl) (pa_cons (pv 0) (pa_cons pe_int pa_nil))) (fun _ _ => rfl)))))) po_none (po_some pe_int)))
      (pss_cons (ps_setLc (i := 7) (own := [("_law_letter", 8)]) (g := (gName 8)) rfl nd rfl rfl (sw_true rfl rfl rfl (by decide +kernel)) (pi_str (pv 2)) (blkOk_by (own := [("_law_letter", 8)]) (N := ["_law_box_here", "_law_many", "_law_letters", "_law_names_here", "_law_k", "_law_stem", "_law_word", "_law_spare", "_law_letter", "_law_j"]) (sc := defScope s__law_names) (by decide +kernel)) (fun _ _ _ _ _ => (pg_name (i := 8) nd rfl (Or.inl rfl))) (fun _ _ _ _ _ => (pts_one (pt_cmpR (op_notIn_seqK (K := K) rfl) (pe_op op_add_str (pe_slice C8.sl_txt (pv 6) po_none (po_some pe_int)) (pv 8)) (pv 3) rfl))) (fun _ _ _ _ _ => (pe_op op_add_str (pe_slice C8.sl_txt (pv 6) po_none (po_some pe_int)) (pv 8))))
      (pss_one (ps_expr (pe_bm PySem.F.plainAttrs_list PySem.F.slot_list_append PySem.F.type_list_append mt_append (pv 3) (pa_cons (pe_ifExp (pt_cmpR (op_in_seqK (K := K) rfl) (pv 6) (pv 3) rfl) (pe_ix ix_list (pv 7) pe_int (fun _ _ => rfl)) (pv 6)) pa_nil)))))))))
      (pss_one (ps_ret (pv 3)))))), ?_⟩
  refine ⟨Nat.zero_le _, fun na nna => ?_⟩
  have g1 : Pu F H F (upd H na (.lst [])) := Gr.newm e nna
  have B1 := hB.pu g1
  have m1 := Mt.new (o := .lst []) e nna
  have nbx : na ≠ bx := fun z => hB.some (z ▸ nna)
  have n0 : H na = none := nna
  refine ⟨_, rfl, _, rfl, (by omega), (by omega), ?_⟩
  refine for_range (lo := 0) (n := m.toNat) (fun i σ H' => ∃ F' w4 w5 w6 w7 names, σ = [some (.ref bx), some (.int m), some (.str LT), some (.ref na), w4, w5, w6, w7, none, none] ∧ GrB bx F H F' H' ∧ Bx F' H' bx (n + 8 * i) ∧ Mt F' H' na (.lst (names.map V.str)) ∧ names.length = i ∧ (∀ x ∈ names, isName x) ∧ names.Nodup)
    ⟨F, _, _, _, _, [], rfl, Gr.pu g1, B1, m1, rfl, (fun _ z => nomatch z), List.nodup_nil⟩ ?_ ?_
  · rintro i σ H2 hi ⟨F2, w4, w5, w6, w7, names, rfl, g2, B2, m2, ln, nn, nnd⟩
    refine ⟨fun σ' H' => ∃ F' stem, σ' = [some (.ref bx), some (.int m), some (.str LT), some (.ref na), some (.int (0 + (i : Int))), some (.str stem), w6, w7, none, none] ∧ low stem ∧ stem.length ≤ 8 ∧ GrB bx F H F' H' ∧ Bx F' H' bx (n + 8 * i + 2) ∧ Mt F' H' na (.lst (names.map V.str)), ?_, ?_⟩
    · refine ⟨_, rfl, Nat.zero_le _, fun q nq => ?_⟩
      have g3 : Pu F2 H2 F2 (upd H2 q (.lst [])) := Gr.newm g2.fh nq
      have m3 := m2.pu g3
      have B3 := B2.pu g3
      have g23 := g2.trans (Gr.pu g3)
      refine neD (F := upd H2 q (.lst [])) (a := names) (b := []) (encL (encS (K := K))) (by decide) (Same.refl _) ⟨na, _, rfl, SqL.of m3.h, str_all2 _⟩ ⟨q, [], rfl, SqL.of upd_same, Paired.nil⟩ (fun x hx => name_lay (nn x hx)) (fun x hx => by cases hx) fun r hr => ?_
      refine ⟨_, rfl, ?_⟩
      cases r with
      | true => exact iteF (iteF ⟨F2, ("" : Str), rfl, (fun c hc => by
          have : ("" : Str).cps.toList = [] := by decide +kernel
          rw [this] at hc
          cases hc), by decide +kernel, g23, B3.mono (by omega), m3⟩)
      | false =>
        have hne : names ≠ [] := fun z => by have := hr.mpr z; cases this
        have hpos : 0 < names.length := List.length_pos_iff.mpr hne
        refine iteB rfl ⟨_, rfl, F2, bx, n + 8 * i, 3, rfl, B3, by omega, rfl, by decide, by decide, g23.fh, fun r H4 r0 r3 g4 B4 => ⟨rfl, _, rfl, ?_⟩⟩
        have m4 := m3.up g4 nbx
        have g24 := g23.trans g4
        by_cases hr0 : V.int r = V.int 0
        · refine iteY hr0 ⟨_, rfl, _, rfl, _, rfl, na, _, rfl, .inl (SqL.of m4.h), F2, bx, _, _, rfl, B4, by omega, rfl, by rw [List.length_map]; omega, by rw [List.length_map]; omega, g24.fh, fun r2 H5 r20 r2l g5 B5 => ?_⟩
          have m5 := m4.up g5 nbx
          rw [List.length_map] at r2l
          obtain ⟨j, rfl⟩ : ∃ j : Nat, r2 = j := ⟨r2.toNat, by omega⟩
          have hj : j < names.length := by omega
          have nmj := nn names[j] (List.getElem_mem hj)
          exact ⟨na, _, _, .str names[j], rfl, rfl, SqL.of m5.h, atI_nat (by rw [List.getElem?_map, List.getElem?_eq_getElem hj]; rfl), F2, names[j], rfl, nmj.2.2, nmj.2.1, g24.trans g5, B5, m5⟩
        · exact iteN hr0 ⟨F2, ("" : Str), rfl, (fun c hc => by
            have : ("" : Str).cps.toList = [] := by decide +kernel
            rw [this] at hc
            cases hc), by decide +kernel, g24, B4.mono (by omega), m4⟩
    · rintro σ' H3 ⟨F3, stem, rfl, lst, l8, g3, B3, m3⟩
      refine ⟨_, rfl, ⟨_, rfl⟩, _, rfl, F3, bx, n + 8 * i + 2, 4, rfl, B3, by omega, rfl, by decide, by decide, g3.fh, fun r H4 r0 r3 g4 B4 => ⟨_, _, rfl, rfl, _, rfl, by omega, by omega, ?_⟩⟩
      have m4 := m3.up g4 nbx
      have g34 := g3.trans g4
      have e1r : (1 + r).toNat = r.toNat + 1 := by omega
      refine lcMR (K := K) (R := rEx rS (fun (_ : Nat) (y : Str) => low y ∧ y.length = 1)) (M := fun b => b = bx) (Iv := fun j F H => Bx F H bx (n + 8 * i + 3 + j)) (lo := 0) (n := (1 + r).toNat) (fun y => y) g34.fh (by omega) (bx_iv B4) (fun j F5 H5 hj g5 B5 Kt Kf k1 => ?_) (fun L F5 H5 g5 B5 hL => ?_)
      · refine ⟨rfl, _, rfl, _, rfl, F5, bx, _, 26, rfl, B5, by omega, rfl, by decide, by decide, g5.fh, fun r H6 r0 r3 g6 B6 => ?_⟩
        obtain ⟨c, rfl⟩ : ∃ c : Nat, r = c := ⟨r.toNat, by omega⟩
        have hc : c < LT.cps.toList.length := by rw [LT_len']; omega
        exact ⟨LT, c, LT.cps.toList[c], rfl, rfl, by decide +kernel, atI_nat (List.getElem?_eq_getElem hc), k1 _ _ _ g6 B6 ⟨chr1 LT.cps.toList[c], rfl, chr_low (List.getElem_mem hc), rfl⟩⟩
      · obtain ⟨ys, hys, pr⟩ := rEx_list hL
        obtain ⟨L', eL, hLs⟩ := rls hys
        cases eL
        have yl : ys.length = r.toNat + 1 := by
          have := Paired.length pr
          rw [List.length_map, List.length_range] at this
          omega
        have yall : ∀ y ∈ ys, low y ∧ y.length = 1 := fun y hy => by
          obtain ⟨i, hi⟩ := List.getElem?_of_mem hy
          obtain ⟨_, _, h⟩ := pair_at pr hi
          exact h
        have g35 := g34.trans g5
        have m5 := m4.up g5 nbx
        have hsum : (ys.map (·.length)).sum = ys.length := sum_one fun y hy => (yall y hy).2
        have e0 : ("" : Str).length = 0 := by decide +kernel
        have jl := join_low (fun y hy => (yall y hy).1)
        refine ⟨_, L, ys, rfl, rfl, .inl (sql_s g5.fh hLs), by rw [hsum, e0, yl]; omega, stem, _, rfl, rfl, le_line (by rw [jl.2, hsum, yl]; omega), ?_⟩
        have wok := word_ok lst yall (by omega)
        refine ⟨_, rfl, _, rfl, le_line (by rw [len_app, jl.2, hsum, yl]; omega), ?_⟩
        generalize Txt.slice (stem ++ Txt.join ("" : Str) ys) none (some 8) = word at wok
        refine ⟨_, rfl, LT, rfl, ?_⟩
        refine lcS (K := K) (R := rS) (f := spr7 word) (p := fun c => decide (spr7 word c ∉ names)) g35.fh (by rw [LT_len]; omega) (fun y v F6 H6 hy g6 hv Kt Kf h1 h2 => ?_) (fun Sp F6 H6 g6 hSp => ?_)
        · cases hv
          have m6 := m5.pu g6
          have w8 : word.length ≤ sizeLine := le_line (by have := wok.2.1; omega)
          have l7 : (Txt.slice word none (some 7)).length + (chr1 y).length ≤ sizeLine := le_line (by
            have := slice_len word 7
            have e7 : (some (7 : Int)) = some ((7 : Nat) : Int) := rfl
            rw [e7, this]
            show min 7 word.length + 1 ≤ 1000000
            omega)
          refine ⟨rfl, _, rfl, _, rfl, _, rfl, w8, _, rfl, _, _, rfl, rfl, l7, _, rfl, na, _, rfl, .inl (SqL.of m6.h), rfl, flat_strs _, _, rfl, ?_⟩
          rw [inv_str]
          by_cases hin : spr7 word y ∈ names
          · have e1 : decide ((Txt.slice word none (some 7) ++ (⟨#[y]⟩ : Str)) ∈ names) = true := decide_eq_true hin
            rw [e1]
            exact iteF (h2 (decide_eq_false (fun z => z hin)) _ _ (Gr.refl g6.fh))
          · have e1 : decide ((Txt.slice word none (some 7) ++ (⟨#[y]⟩ : Str)) ∈ names) = false := decide_eq_false hin
            rw [e1]
            exact iteB rfl ⟨_, rfl, _, rfl, _, rfl, w8, _, rfl, _, _, rfl, rfl, l7, h1 (decide_eq_true hin) _ _ _ (Gr.refl g6.fh) rfl⟩
        · obtain ⟨c, l, ec, hcl, hcn⟩ := spare_ex (word := word) (names := names) (by omega)
          rw [ec] at hSp
          obtain ⟨sp, eS, hsp⟩ := rls hSp
          cases eS
          have m6 := m5.pu g6
          have B6 := B5.pu g6
          have g36 := g35.trans (Gr.pu g6)
          have l26 : names.length < 1000000 := by omega
          refine ⟨_, rfl, .inl ⟨rfl, _, SqL.of m6.h⟩, _, rfl, _, rfl, na, _, rfl, .inl (SqL.of m6.h), rfl, flat_strs _, _, rfl, ?_⟩
          rw [inv_str]
          have fin : ∀ nm, isName nm → nm ∉ names → ∃ F' w4 w5 w6 w7, ∃ names' : List Str, ([some (V.ref bx), some (V.int m), some (V.str LT), some (V.ref na), some (V.int (0 + (i : Int))), some (V.str stem), some (V.str word), some (V.ref Sp), none, none] : L2.St) = [some (.ref bx), some (.int m), some (.str LT), some (.ref na), w4, w5, w6, w7, none, none] ∧ GrB bx F H F' (upd H6 na (.lst (names.map V.str ++ [.str nm]))) ∧ Bx F' (upd H6 na (.lst (names.map V.str ++ [.str nm]))) bx (n + 8 * (i + 1)) ∧ Mt F' (upd H6 na (.lst (names.map V.str ++ [.str nm]))) na (.lst (names'.map V.str)) ∧ names'.length = i + 1 ∧ (∀ x ∈ names', isName x) ∧ names'.Nodup := by
            intro nm hnm hni
            refine ⟨F6, _, _, _, _, names ++ [nm], rfl, g36.mut m6.n n0, (B6.other nbx.symm).mono (by omega), ?_, by rw [List.length_append, ln]; rfl, fun x hx => ?_, ?_⟩
            · rw [List.map_append]
              exact m6.set
            · rcases List.mem_append.mp hx with hx | hx
              · exact nn x hx
              · rw [List.mem_singleton.mp hx]; exact hnm
            · rw [List.nodup_append]
              exact ⟨nnd, by simp, fun a ha b hb z => hni (by rw [← List.mem_singleton.mp hb, ← z]; exact ha)⟩
          by_cases hin : word ∈ names
          · rw [decide_eq_true hin]
            exact iteB rfl ⟨_, rfl, Sp, _, _, .str (spr7 word c), rfl, rfl, sql_s g6.fh hsp, (by exact atI_nat (xs := List.map V.str (List.map (spr7 word) (c :: l))) (j := 0) rfl), na, _, _, rfl, rfl, m6.h, lt_line (by rw [List.length_map]; omega), fin _ (spr7_ok wok hcl) hcn⟩
          · rw [decide_eq_false hin]
            exact iteF ⟨_, rfl, na, _, _, rfl, rfl, m6.h, lt_line (by rw [List.length_map]; omega), fin _ wok hin⟩
  · rintro σ H2 ⟨F2, w4, w5, w6, w7, names, rfl, g2, B2, m2, ln, nn, nnd⟩
    have ga : GrB bx F H (upd F2 na (.lst (names.map V.str))) H2 := g2.frz m2.n n0 m2.h
    exact ⟨_, rfl, k _ _ _ names ga ((B2.frz nbx.symm).mono (by omega)) ⟨na, _, rfl, SqL.of upd_same, str_all2 _⟩ ln nn nnd⟩
end Rs
/-! text RL4 -/
set_option Elab.async false
set_option linter.all false
set_option maxRecDepth 100000
set_option maxHeartbeats 4000000
namespace Rs
open PySem PySem.Spec PyProof.Rows L2
theorem Mt.nn {F H : Hp} {p q : Addr} {o : HO} (m : Mt F H p o) (h : H q = none) : p ≠ q := fun z => by rw [← z, m.h] at h; cases h
theorem paired_mem {α β : Type} {P : α → β → Prop} {l : List α} {m : List β} (h : Paired P l m) : ∀ y ∈ m, ∃ x ∈ l, P x y := fun y hy => by
  obtain ⟨i, hi⟩ := List.getElem?_of_mem hy
  obtain ⟨x, hx, p⟩ := pair_at h hi
  exact ⟨x, List.mem_of_getElem? hx, p⟩
theorem paired_map {α β γ : Type} {P : α → β → Prop} {f : β → γ} {g : α → γ} : ∀ {l : List α} {m : List β}, Paired P l m → (∀ a b, P a b → f b = g a) → m.map f = l.map g
  | _, _, Paired.nil, _ => rfl
  | _, _, Paired.cons r t, h => by rw [List.map_cons, List.map_cons, h _ _ r, paired_map t h]
theorem paired_zip {α β : Type} {P : α → β → Prop} : ∀ {l : List α} {m : List β}, Paired P l m → ∀ q ∈ l.zip m, P q.1 q.2
  | _, _, Paired.nil, q, hq => by cases hq
  | _, _, Paired.cons r t, q, hq => by
    rcases List.mem_cons.mp hq with rfl | hq
    · exact r
    · exact paired_zip t q hq
theorem seqIx {c n : Nat} (h : c < n) : seqIndex? (c : Int) n = some c := seqIndex_of (by omega) (by omega)
theorem paired_erase {α β : Type} {P : α → β → Prop} : ∀ {l : List α} {m : List β}, Paired P l m → ∀ c, Paired P (l.eraseIdx c) (m.eraseIdx c)
  | _, _, Paired.nil, _ => Paired.nil
  | _, _, Paired.cons r t, 0 => t
  | _, _, Paired.cons r t, c + 1 => Paired.cons r (paired_erase t c)
theorem perm_erase' {α : Type} : ∀ {l : List α} {c : Nat} {a : α}, l[c]? = some a → (a :: l.eraseIdx c).Perm l
  | b :: l, 0, a, h => by
    cases (show some b = some a from h)
    exact List.Perm.refl _
  | b :: l, c + 1, a, h => (List.Perm.swap b a _).trans ((perm_erase' (l := l) (c := c) h).cons b)
theorem perm_erase {α : Type} {l : List α} {c : Nat} (hc : c < l.length) : ([l[c]] ++ l.eraseIdx c).Perm l := perm_erase' (List.getElem?_eq_getElem hc)
theorem Mt.frz {F H : Hp} {p q : Addr} {o u : HO} (m : Mt F H p o) (h : p ≠ q) : Mt (upd F q u) H p o := ⟨by rw [upd_ne h]; exact m.n, m.h⟩
def sp__law_data (K : PySem.W.Frag) : Sp := fun vs H Q _ => match vs with
  | [u, v, z] => ∃ F bx n m, u = .ref bx ∧ Bx F H bx n ∧ n ≤ 50000 ∧ v = .int m ∧ 1 ≤ m ∧ m ≤ 8 ∧ z = .int 6 ∧ Same F H ∧ ∀ v F' H' vars evs, GrB bx F H F' H' → Bx F' H' bx (n + 1000) → r2 K (rL K (r2 K rS rI)) (rL K (rEv K)) F' v (vars, evs) → PD.Ok ⟨vars, evs⟩ → Q v H'
  | _ => False
theorem sc__law_data : FnScope ["_law_box_here", "_law_many", "_law_top", "_law_variables", "_law_events", "_law_title", "_law_left", "_law_scope", "_law_turn", "_law_bad", "_law_name", "_law_values", "_law_size"] ["_law_box_here", "_law_many", "_law_top"] (defScope s__law_data) := C8.fnScope_by (by decide +kernel)
theorem c__law_data {P : Program} {w : World} {K : PySem.W.Frag} {mg : Str → Option Value} {base hp : Heap} (T : Tx K mg hp) : C8.Cal P w K mg base 3 "_law_data" (sp__law_data K) [] := by
  obtain ⟨fd, F⟩ := T.fd__law_data
  refine mkCal T.gl__law_data F sc__law_data (fun _ _ _ _ _ _ us hl => match us, hl with | [_, _, _], _ => rfl) (fun vs H Q E h => by unfold sp__law_data at h; split at h <;> first | rfl | exact h.elim) (fun cdv A outer s H vs Q E hr h => ?_)
  have nd := sc__law_data.nd
  have hu := hu_of hr
  unfold sp__law_data at h
  split at h
  case h_2 => exact h.elim
  obtain ⟨F, bx, n, m, rfl, hB, hn, rfl, m1, m8, rfl, e, k⟩ := h
  refine ⟨_, (pss_cons (ps_setLc (i := 3) (own := [("_law_name", 10)]) (g := (gName 10)) rfl nd rfl rfl (sw_true rfl rfl rfl (by decide +kernel)) (pi_list (C8.pe_c (c__law_names T) hr (by decide) (by rfl) (pa_cons (pv 0) (pa_cons (pv 1) pa_nil)))) (blkOk_by (own := [("_law_name", 10)]) (N := ["_law_box_here", "_law_many", "_law_top", "_law_variables", "_law_events", "_law_title", "_law_left", "_law_scope", "_law_turn", "_law_bad", "_law_name", "_law_values", "_law_size"]) (sc := defScope s__law_data) (by decide +kernel)) (fun _ _ _ _ _ => (pg_name (i := 10) nd rfl (Or.inl rfl))) (fun _ _ _ _ _ => pts_nil) (fun _ _ _ _ _ => (pe_tup (pa_cons (pv 10) (pa_cons (pe_op op_add pe_int (C8.pe_c (c__law_take T) hr (by decide) (by rfl) (pa_cons (pv 0) (pa_cons (pv 2) pa_nil)))) pa_nil)))))
      (pss_cons (ps_set (i := 4) nd rfl (Or.inl rfl) (pe_lst pa_nil))
      (pss_cons (ps_for PassesOwn.never rfl (pi_list (C8.pe_c (c__law_names T) hr (by decide) (by rfl) (pa_cons (pv 0) (pa_cons (C8.pe_c (c__law_take T) hr (by decide) (by rfl) (pa_cons (pv 0) (pa_cons pe_int pa_nil))) pa_nil)))) (pg_name (i := 5) nd rfl (Or.inl rfl)) (pss_cons (ps_set (i := 6) nd rfl (Or.inl rfl) (pe_callTy call_list_of (by rfl) T.fr_list (by decide +kernel) (pa_cons (pv 3) pa_nil)))
      (pss_cons (ps_set (i := 7) nd rfl (Or.inl rfl) (pe_lst pa_nil))
      (pss_cons (ps_for PassesOwn.never rfl (pi_range1 (by rfl) T.fr_range (pa_cons (pe_op op_add pe_int (C8.pe_c (c__law_take T) hr (by decide) (by rfl) (pa_cons (pv 0) (pa_cons (pe_callB (call_min2 rfl) (by rfl) T.fr_min (by decide +kernel) (pa_cons pe_int (pa_cons (pv 1) pa_nil))) pa_nil)))) pa_nil)) (pg_name (i := 8) nd rfl (Or.inl rfl)) (pss_one (ps_expr (pe_bm PySem.F.plainAttrs_list PySem.F.slot_list_append PySem.F.type_list_append mt_append (pv 7) (pa_cons (pe_bm PySem.F.plainAttrs_list PySem.F.slot_list_pop PySem.F.type_list_pop mt_popAt (pv 6) (pa_cons (C8.pe_c (c__law_take T) hr (by decide) (by rfl) (pa_cons (pv 0) (pa_cons (pe_callB call_len_seq (by rfl) T.fr_len (by decide +kernel) (pa_cons (pv 6) pa_nil)) pa_nil))) pa_nil)) pa_nil)))))
      (pss_cons (ps_set (i := 9) nd rfl (Or.inl rfl) (pe_lst pa_nil))
      (pss_cons (ps_for PassesOwn.never rfl (pi_range1 (by rfl) T.fr_range (pa_cons (pe_ix ix_list (pe_lst (pa_cons (C8.pe_c (c__law_take T) hr (by decide) (by rfl) (pa_cons (pv 0) (pa_cons pe_int pa_nil))) (pa_cons (C8.pe_c (c__law_take T) hr (by decide) (by rfl) (pa_cons (pv 0) (pa_cons pe_int pa_nil))) pa_nil))) (C8.pe_c (c__law_take T) hr (by decide) (by rfl) (pa_cons (pv 0) (pa_cons pe_int pa_nil))) (fun _ _ => rfl)) pa_nil)) (pg_name (i := 8) nd rfl (Or.inl rfl)) (pss_cons (ps_set (i := 11) nd rfl (Or.inl rfl) (pe_callTy call_tuple_of (by rfl) T.fr_tuple (by decide +kernel) (pa_cons (pe_lc (own := [("_law_name", 10), ("_law_size", 12)]) (g := (gTup K 2 (gCons (gName 10) (gCons (gName 12) gNil)))) rfl nd (pi_list (pv 7)) (blkOk_by (own := [("_law_name", 10), ("_law_size", 12)]) (N := ["_law_box_here", "_law_many", "_law_top", "_law_variables", "_law_events", "_law_title", "_law_left", "_law_scope", "_law_turn", "_law_bad", "_law_name", "_law_values", "_law_size"]) (sc := defScope s__law_data) (by decide +kernel)) (fun _ _ _ _ _ => (pg_tup rfl (pgs_cons (pg_name (i := 10) nd rfl (Or.inl rfl)) (pgs_cons (pg_name (i := 12) nd rfl (Or.inl rfl)) pgs_nil)))) (fun _ _ _ _ _ => pts_nil) (fun _ _ _ _ _ => (C8.pe_c (c__law_take T) hr (by decide) (by rfl) (pa_cons (pv 0) (pa_cons (pv 12) pa_nil))))) pa_nil)))
      (pss_one (ps_if (pt_cmpR (op_notInD (huD_of hr)) (pv 11) (pv 9) rfl) (pss_one (ps_expr (pe_bm PySem.F.plainAttrs_list PySem.F.slot_list_append PySem.F.type_list_append mt_append (pv 9) (pa_cons (pv 11) pa_nil)))) pss_nil))))
      (pss_one (ps_expr (pe_bm PySem.F.plainAttrs_list PySem.F.slot_list_append PySem.F.type_list_append mt_append (pv 4) (pa_cons (pe_tup (pa_cons (pv 5) (pa_cons (pe_lc (own := [("_law_name", 10), ("_law_size", 12)]) (g := (gTup K 2 (gCons (gName 10) (gCons (gName 12) gNil)))) rfl nd (pi_list (pv 7)) (blkOk_by (own := [("_law_name", 10), ("_law_size", 12)]) (N := ["_law_box_here", "_law_many", "_law_top", "_law_variables", "_law_events", "_law_title", "_law_left", "_law_scope", "_law_turn", "_law_bad", "_law_name", "_law_values", "_law_size"]) (sc := defScope s__law_data) (by decide +kernel)) (fun _ _ _ _ _ => (pg_tup rfl (pgs_cons (pg_name (i := 10) nd rfl (Or.inl rfl)) (pgs_cons (pg_name (i := 12) nd rfl (Or.inl rfl)) pgs_nil)))) (fun _ _ _ _ _ => pts_nil) (fun _ _ _ _ _ => (pv 10))) (pa_cons (pv 9) pa_nil)))) pa_nil))))))))))
      (pss_one (ps_ret (pe_tup (pa_cons (pv 3) (pa_cons (pv 4) pa_nil)))))))), ?_⟩
  refine ⟨_, rfl, _, rfl, F, bx, n, m, rfl, hB, by omega, rfl, by omega, m8, e, fun v F1 H1 nms g1 B1 hv hl hn1 hnd => ?_⟩
  obtain ⟨va, rfl, hva⟩ := rls hv
  refine ⟨va, rfl, ⟨_, sql_s g1.fh hva⟩, ?_⟩
  refine lcML (K := K) (RA := rS) (R := rEx (r2 K rS rI) (fun (x : Str) (q : Str × Int) => q.1 = x ∧ 1 ≤ q.2 ∧ q.2 ≤ 6)) (M := fun b => b = bx) (Iv := fun j F H => Bx F H bx (n + 64 + j)) (fun y => y) g1.fh hva (str_all2 _) (by omega) (bx_iv B1) (fun j y x F5 H5 hj g5 B5 hx Kt Kf k1 => ?_) (fun L F2 H2 g2 B2 hL => ?_)
  · cases hx
    have hjl := (List.getElem?_eq_some_iff.mp hj).1
    refine ⟨rfl, _, rfl, _, rfl, _, rfl, F5, bx, _, 6, rfl, B5, by omega, rfl, by decide, by decide, g5.fh, fun r H6 r0 r6 g6 B6 => ⟨_, _, rfl, rfl, le_line (by show 2 ≤ 1000000; omega), fun t nt => ?_⟩⟩
    have g7 : Pu F5 H6 (upd F5 t (.tup [.str y, .int (1 + r)])) (upd H6 t (.tup [.str y, .int (1 + r)])) := Gr.new g6.fh nt
    exact k1 _ _ _ (g6.trans (Gr.pu g7)) (B6.pu g7) ⟨(y, 1 + r), ⟨t, _, _, rfl, SqT.of upd_same, rfl, rfl⟩, rfl, by show 1 ≤ 1 + r; omega, by show 1 + r ≤ 6; omega⟩
  rw [List.map_id'] at hL
  obtain ⟨vars, hvars, pv⟩ := rEx_list hL
  have env : vars.map (·.1) = nms := by
    have := paired_map (f := fun q : Str × Int => q.1) (g := fun x => x) pv fun a b h => h.1
    rw [List.map_id'] at this
    exact this
  have vlen : vars.length = m.toNat := by rw [← hl, ← env, List.length_map]
  have okV : okVars vars := by
    refine ⟨⟨by omega, by omega⟩, fun q hq => ?_, by rw [env]; exact hnd⟩
    obtain ⟨x, hx, h1, h2, h3⟩ := paired_mem pv q hq
    exact ⟨by rw [h1]; exact hn1 x hx, h2, h3⟩
  have g12 := g1.trans g2
  refine ⟨Nat.zero_le _, fun ea nea => ?_⟩
  have g3 : Pu F2 H2 F2 (upd H2 ea (.lst [])) := Gr.newm g2.fh nea
  have n0 : H ea = none := g12.dom _ nea
  have m3 := Mt.new (o := .lst []) g2.fh nea
  have B3 := B2.pu g3
  have g13 := g12.trans (Gr.pu g3)
  have ebx : ea ≠ bx := fun z => hB.some (z ▸ n0)
  refine ⟨_, rfl, _, rfl, F2, bx, _, 9, rfl, B3, by omega, rfl, by decide, by decide, g3.fh, fun r H4 r0 r9 g4 B4 => ?_⟩
  have m4 := m3.up g4 ebx
  refine ⟨F2, bx, _, r, rfl, B4, by omega, rfl, r0, by omega, g4.fh, fun v F5 H5 tts g5 B5 hv hl2 hn2 hnd2 => ?_⟩
  obtain ⟨ta, rfl, hta⟩ := rls hv
  have m5 := m4.up g5 ebx
  have g15 := (g13.trans g4).trans g5
  have hvars5 : rL K (r2 K rS rI) F5 (.ref L) vars := Up.up (g4.f.trans g5.f) hvars
  refine ⟨ta, rfl, ⟨_, sql_s g5.fh hta⟩, for_list (K := K) (a := ta) (xs := tts.map V.str) (fun i σ H' => ∃ F' w5 w6 w7 w8 w9 w11 evs exs, σ = [some (.ref bx), some (.int m), some (.int 6), some (.ref L), some (.ref ea), w5, w6, w7, w8, w9, none, w11, none] ∧ GrB bx F H F' H' ∧ Same F5 F' ∧ Bx F' H' bx (n + 200 + 60 * i) ∧ Mt F' H' ea (.lst exs) ∧ All2 (rEv K) F' exs evs ∧ evs.map (·.1) = tts.take i ∧ ∀ e ∈ evs, okScope vars e.2.1 ∧ okTuples vars e.2.1 e.2.2)
    ⟨F5, _, _, _, _, _, _, [], [], rfl, g15, Same.refl _, B5.mono (by omega), m5, Paired.nil, rfl, fun _ z => nomatch z⟩ (fun i σ H' _ ⟨F', _, _, _, _, _, _, _, _, _, g, s, _⟩ => sql_s g.fh (sql_s s hta)) ?_ ?_⟩
  · rintro i y σ H6 hi ⟨F6, w5, w6, w7, w8, w9, w11, evs, exs, rfl, g6, s6, B6, m6, hev, hkeys, hok⟩
    obtain ⟨tt, htt, rfl⟩ := str_at hi
    have ilt : i < 8 := by have := (List.getElem?_eq_some_iff.mp htt).1; omega
    have evl : evs.length ≤ 8 := by have := congrArg List.length hkeys; rw [List.length_map, List.length_take] at this; omega
    obtain ⟨L', vxs, eL, hLv, hvxs⟩ := Up.up s6 hvars5
    cases eL
    refine ⟨_, rfl, L, vxs, rfl, .inl (sql_s g6.fh hLv), fun la nla => ?_⟩
    have g7 : Pu F6 H6 F6 (upd H6 la (.lst vxs)) := Gr.newm g6.fh nla
    have ml7 := Mt.new (o := .lst vxs) g6.fh nla
    have m7 := m6.pu g7
    have B7 := B6.pu g7
    have g17 := g6.trans (Gr.pu g7)
    have ela := m6.nn nla
    have l0 : H la = none := g6.dom _ nla
    have lbx : la ≠ bx := fun z => hB.some (z ▸ l0)
    refine ⟨Nat.zero_le _, fun sa nsa => ?_⟩
    have g8 : Pu F6 (upd H6 la (.lst vxs)) F6 (upd (upd H6 la (.lst vxs)) sa (.lst [])) := Gr.newm g7.fh nsa
    have ms8 := Mt.new (o := .lst []) g7.fh nsa
    have m8 := m7.pu g8
    have ml8 := ml7.pu g8
    have B8 := B7.pu g8
    have g18 := g17.trans (Gr.pu g8)
    have esa := m7.nn nsa
    have lsa := ml7.nn nsa
    have s0 : H sa = none := g17.dom _ nsa
    have sbx : sa ≠ bx := fun z => hB.some (z ▸ s0)
    refine ⟨_, rfl, _, rfl, _, _, rfl, F6, bx, _, _, rfl, B8, by omega, rfl, by split <;> omega, by split <;> omega, g8.fh, fun r H9 r0 r9 g9 B9 => ⟨_, _, rfl, rfl, _, rfl, by omega, by split at r9 <;> omega, ?_⟩⟩
    have rm : r < m ∧ r < 4 := by split at r9 <;> omega
    have m9 := m8.up g9 ebx
    have ml9 := ml8.up g9 lbx
    have ms9 := ms8.up g9 sbx
    have g19 := g18.trans g9
    refine for_range (lo := 0) (n := (1 + r).toNat) (fun j σ H' => ∃ w8 lxs left sxs sc, σ = [some (.ref bx), some (.int m), some (.int 6), some (.ref L), some (.ref ea), some (.str tt), some (.ref la), some (.ref sa), w8, w9, none, w11, none] ∧ GrB bx F H F6 H' ∧ Bx F6 H' bx (n + 200 + 60 * i + 1 + j) ∧ Mt F6 H' ea (.lst exs) ∧ Mt F6 H' la (.lst lxs) ∧ Mt F6 H' sa (.lst sxs) ∧ All2 (r2 K rS rI) F6 lxs left ∧ All2 (r2 K rS rI) F6 sxs sc ∧ (sc ++ left).Perm vars ∧ sc.length = j)
      ⟨_, _, vars, [], [], rfl, g19, B9, m9, ml9, ms9, hvxs, Paired.nil, List.Perm.refl _, rfl⟩ ?_ ?_
    · rintro j σ H10 hj ⟨w8, lxs, left, sxs, sc, rfl, g10, B10, m10, ml10, ms10, hlx, hsx, pm, scl⟩
      have pl := pm.length_eq
      rw [List.length_append] at pl
      have lxl := hlx.length
      have sxl := hsx.length
      refine ⟨_, rfl, .inl ⟨rfl, _, SqL.of ms10.h⟩, _, rfl, .inl ⟨rfl, _, SqL.of ml10.h⟩, _, rfl, _, rfl, la, _, rfl, .inl (SqL.of ml10.h), F6, bx, _, _, rfl, B10, by omega, rfl, by omega, by omega, g10.fh, fun rp H11 rp0 rpl g11 B11 => ?_⟩
      obtain ⟨c, rfl⟩ : ∃ c : Nat, rp = c := ⟨rp.toNat, by omega⟩
      have hc : c < left.length := by omega
      have m11 := m10.up g11 ebx
      have ml11 := ml10.up g11 lbx
      have ms11 := ms10.up g11 sbx
      obtain ⟨yv, hy1, hy2⟩ := pair_at hlx (List.getElem?_eq_getElem hc)
      refine ⟨la, lxs, c, c, yv, rfl, rfl, ml11.h, by omega, by omega, seqIx (by omega), hy1, ?_⟩
      have ml12 := ml11.set (u := .lst (lxs.eraseIdx c))
      have m12 := m11.other (u := .lst (lxs.eraseIdx c)) ela
      have ms12 := ms11.other (u := .lst (lxs.eraseIdx c)) lsa.symm
      have B12 := B11.other (u := .lst (lxs.eraseIdx c)) lbx.symm
      have g12' := (g10.trans g11).mut (o := .lst (lxs.eraseIdx c)) ml11.n l0
      refine ⟨sa, sxs, yv, rfl, rfl, ms12.h, lt_line (by omega), ?_⟩
      refine ⟨_, _, left.eraseIdx c, _, sc ++ [left[c]], rfl, g12'.mut ms12.n s0, B12.other sbx.symm, m12.other esa, ml12.other lsa, ms12.set, paired_erase hlx c, hsx.snoc hy2, ?_, by rw [List.length_append, scl]; rfl⟩
      refine List.Perm.trans ?_ pm
      rw [List.append_assoc]
      exact List.Perm.append_left sc (perm_erase hc)
    · rintro σ H10 ⟨w8, lxs, left, sxs, sc, rfl, g10, B10, m10, ml10, ms10, hlx, hsx, pm, scl⟩
      have scnd : (sc.map (·.1)).Nodup ∧ ∀ q ∈ sc, q ∈ vars := by
        have h1 := (pm.map (·.1)).nodup_iff.mpr okV.2.2
        rw [List.map_append, List.nodup_append] at h1
        exact ⟨h1.1, fun q hq => pm.mem_iff.mp (List.mem_append_left _ hq)⟩
      have okS : okScope vars (sc.map (·.1)) := by
        refine ⟨⟨by rw [List.length_map]; omega, by rw [List.length_map]; omega⟩, scnd.1, fun x hx => ?_⟩
        obtain ⟨q, hq, rfl⟩ := List.mem_map.mp hx
        exact List.mem_map_of_mem (scnd.2 q hq)
      have gf : GrB bx F H (upd F6 sa (.lst sxs)) H10 := g10.frz ms10.n s0 ms10.h
      have sf : Same F6 (upd F6 sa (.lst sxs)) := upd_new ms10.n
      have hsc : rL K (r2 K rS rI) (upd F6 sa (.lst sxs)) (.ref sa) sc := ⟨sa, sxs, rfl, SqL.of upd_same, hsx.up sf⟩
      have m10' := m10.frz (u := .lst sxs) esa
      have B10' := B10.frz (u := .lst sxs) sbx.symm
      have hev' := hev.up sf
      have s10 := s6.trans sf
      have scl4 : sc.length ≤ 4 := by omega
      generalize upd F6 sa (.lst sxs) = F10 at gf sf hsc m10' B10' hev' s10
      refine ⟨Nat.zero_le _, fun ba nba => ?_⟩
      have g20 : Pu F10 H10 F10 (upd H10 ba (.lst [])) := Gr.newm gf.fh nba
      have mb20 := Mt.new (o := .lst []) gf.fh nba
      have m20 := m10'.pu g20
      have B20 := B10'.pu g20
      have gt20 := gf.trans (Gr.pu g20)
      have b0 : H ba = none := gf.dom _ nba
      have bbx : ba ≠ bx := fun z => hB.some (z ▸ b0)
      have eba := m10'.nn nba
      refine ⟨_, rfl, F10, bx, _, 4, rfl, B20, by omega, rfl, by decide, by decide, g20.fh, fun r1 H21 r10 r11 g21 B21 => ?_⟩
      refine ⟨_, rfl, F10, bx, _, 13, rfl, B21, by omega, rfl, by decide, by decide, g21.fh, fun rb H22 rb0 rb1 g22 B22 => ?_⟩
      refine ⟨le_line (by show 2 ≤ 1000000; omega), fun qa nqa => ?_⟩
      have g23 : Pu F10 H22 F10 (upd H22 qa (.lst [.int r1, .int rb])) := Gr.newm g22.fh nqa
      have mq23 := Mt.new (o := .lst [.int r1, .int rb]) g22.fh nqa
      have B23 := B22.pu g23
      have qbx : qa ≠ bx := fun z => B22.some (z ▸ nqa)
      refine ⟨_, rfl, F10, bx, _, 2, rfl, B23, by omega, rfl, by decide, by decide, g23.fh, fun r3 H24 r30 r31 g24 B24 => ?_⟩
      have mq24 := mq23.up g24 qbx
      have gg := ((g21.trans g22).trans (Gr.pu g23)).trans g24
      have g1t := gt20.trans gg
      have m24 := m20.up gg ebx
      have mb24 := mb20.up gg bbx
      obtain ⟨z, hz, z0, z12⟩ : ∃ z, atI [V.int r1, V.int rb] r3 = some (.int z) ∧ 0 ≤ z ∧ z ≤ 12 := by
        have : r3 = 0 ∨ r3 = 1 := by omega
        rcases this with rfl | rfl
        · exact ⟨r1, atI_nat (j := 0) rfl, by omega, by omega⟩
        · exact ⟨rb, atI_nat (j := 1) rfl, by omega, by omega⟩
      refine ⟨qa, _, _, .int z, rfl, rfl, SqL.of mq24.h, hz, _, rfl, by omega, by omega, ?_⟩
      refine for_range (lo := 0) (n := z.toNat) (fun j σ H' => ∃ F' w8 w11 bxs bad, σ = [some (.ref bx), some (.int m), some (.int 6), some (.ref L), some (.ref ea), some (.str tt), some (.ref la), some (.ref sa), w8, some (.ref ba), none, w11, none] ∧ GrB bx F H F' H' ∧ Same F10 F' ∧ Bx F' H' bx (n + 200 + 60 * i + 8 + 4 * j) ∧ Mt F' H' ea (.lst exs) ∧ Mt F' H' ba (.lst bxs) ∧ All2 (rU K rI) F' bxs bad ∧ bad.length ≤ j ∧ bad.Nodup ∧ ∀ t ∈ bad, okTuple vars (sc.map (·.1)) t)
        ⟨F10, _, _, [], [], rfl, g1t, Same.refl _, B24.mono (by omega), m24, mb24, Paired.nil, Nat.zero_le _, List.nodup_nil, fun _ z => nomatch z⟩ ?_ ?_
      · rintro j σ H30 hj ⟨F30, w8, w11, bxs, bad, rfl, g30, s30, B30, m30, mb30, hbad, bl, bnd, bok⟩
        obtain ⟨sa', scx, es, hsa, hscx⟩ := Up.up s30 hsc
        cases es
        refine ⟨_, rfl, sa, rfl, ⟨_, sql_s g30.fh hsa⟩, ?_⟩
        refine lcML (K := K) (RA := r2 K rS rI) (R := rEx rI (fun (q : Str × Int) (v : Int) => 0 ≤ v ∧ v < q.2)) (M := fun b => b = bx) (Iv := fun j' F H => Bx F H bx (n + 200 + 60 * i + 8 + 4 * j + j')) (fun y => y) g30.fh hsa hscx (by omega) (bx_iv B30) (fun j' y x F5 H5 hj' g5 B5 hx Kt Kf k1 => ?_) (fun L2 F31 H31 g31 B31 hL2 => ?_)
        · obtain ⟨qa, q0, q1, rfl, hqa, hq0, hq1⟩ := hx
          cases hq0
          cases hq1
          have hjl := (List.getElem?_eq_some_iff.mp hj').1
          have okq := okV.2.1 y (scnd.2 y (List.mem_of_getElem? hj'))
          exact ⟨qa, _, rfl, sqt_s g5.fh hqa, rfl, _, _, rfl, _, _, rfl, rfl, rfl, _, rfl, _, rfl, F5, bx, _, _, rfl, B5, by omega, rfl, by omega, by omega, g5.fh, fun r H6 r0 r6 g6 B6 => k1 _ _ _ g6 B6 ⟨r, rfl, r0, r6⟩⟩
        rw [List.map_id'] at hL2
        obtain ⟨tv, htv, ptv⟩ := rEx_list hL2
        obtain ⟨L2', eL2, hL2s⟩ := rli htv
        cases eL2
        have tvl : tv.length = sc.length := (Paired.length ptv).symm
        have m31 := m30.up g31 ebx
        have mb31 := mb30.up g31 bbx
        refine ⟨L2, _, rfl, .inl ⟨sql_s g31.fh hL2s, fun t nt => ?_⟩⟩
        have g32 : Pu F31 H31 (upd F31 t (.tup (tv.map V.int))) (upd H31 t (.tup (tv.map V.int))) := Gr.new g31.fh nt
        have m32 := m31.pu g32
        have mb32 := mb31.pu g32
        have B32 := B31.pu g32
        have gt32 := (g30.trans g31).trans (Gr.pu g32)
        have s32 := g31.f.trans g32.f
        have hbad2 := hbad.up s32
        have ht : rU K rI (upd F31 t (.tup (tv.map V.int))) (.ref t) tv := ⟨t, _, rfl, SqT.of upd_same, int_all2 _⟩
        have okt : okTuple vars (sc.map (·.1)) tv := by
          refine ⟨by rw [List.length_map]; exact tvl, fun q hq => ?_⟩
          rw [List.zip_map_left] at hq
          obtain ⟨q', hq', rfl⟩ := List.mem_map.mp hq
          obtain ⟨h1, h2⟩ := paired_zip ptv q' hq'
          exact ⟨q'.1.2, lookup_nd okV.2.2 (scnd.2 _ (List.of_mem_zip hq').1), h1, h2⟩
        refine ⟨_, rfl, _, rfl, notInD (F := upd H31 t (.tup (tv.map V.int))) (a := tv) (l := bad) (encT (K := K)) (by decide) (Same.refl _) (Up.up g32.fh ht) ⟨ba, bxs, rfl, SqL.of mb32.h, hbad2.up g32.fh⟩ trivial (fun _ _ => trivial) fun b hb => ⟨_, rfl, ?_⟩⟩
        cases b with
        | true => exact iteF ⟨_, _, _, bxs, bad, rfl, gt32, s30.trans s32, B32.mono (by omega), m32, mb32, hbad2, by omega, bnd, bok⟩
        | false =>
          have hnb : tv ∉ bad := fun z => by have := hb.mpr z; cases this
          have bxl := hbad.length
          refine iteB rfl ⟨_, rfl, .inl ⟨rfl, _, SqL.of mb32.h⟩, _, rfl, ba, bxs, .ref t, rfl, rfl, mb32.h, lt_line (by omega), ?_⟩
          refine ⟨_, _, _, bxs ++ [.ref t], bad ++ [tv], rfl, gt32.mut mb32.n b0, s30.trans s32, (B32.other bbx.symm).mono (by omega), m32.other eba, mb32.set, hbad2.snoc ht, by rw [List.length_append, List.length_singleton]; omega, ?_, fun t' ht' => ?_⟩
          · rw [List.nodup_append]
            exact ⟨bnd, by simp, fun a ha b hb z => hnb (by rw [← List.mem_singleton.mp hb, ← z]; exact ha)⟩
          · rcases List.mem_append.mp ht' with h | h
            · exact bok t' h
            · rw [List.mem_singleton.mp h]; exact okt
      · rintro σ H40 ⟨F40, w8, w11, bxs, bad, rfl, g40, s40, B40, m40, mb40, hbad, bl, bnd, bok⟩
        have gf : GrB bx F H (upd F40 ba (.lst bxs)) H40 := g40.frz mb40.n b0 mb40.h
        have sf2 : Same F40 (upd F40 ba (.lst bxs)) := upd_new mb40.n
        have hb41 : rL K (rU K rI) (upd F40 ba (.lst bxs)) (.ref ba) bad := ⟨ba, bxs, rfl, SqL.of upd_same, hbad.up sf2⟩
        have m41 := m40.frz (u := .lst bxs) eba
        have B41 := B40.frz (u := .lst bxs) bbx.symm
        have s41 := s40.trans sf2
        generalize upd F40 ba (.lst bxs) = F41 at gf sf2 hb41 m41 B41 s41
        obtain ⟨sa', scx, es, hsa, hscx⟩ := Up.up s41 hsc
        cases es
        refine ⟨_, rfl, .inl ⟨rfl, _, SqL.of m41.h⟩, _, rfl, _, rfl, sa, rfl, ⟨_, sql_s gf.fh hsa⟩, ?_⟩
        refine lcL (K := K) (RA := r2 K rS rI) (R := rS) (f := fun q => q.1) (p := fun _ => true) gf.fh hsa hscx (by omega) (fun y v F2 H2 hy g2 hv Kt Kf k1 k2 => ?_) (fun L3 F42 H42 g42 hL3 => ?_)
        · obtain ⟨qa, q0, q1, rfl, hqa, hq0, hq1⟩ := hv
          cases hq0
          cases hq1
          exact ⟨qa, _, rfl, sqt_s g2.fh hqa, rfl, _, _, rfl, _, _, rfl, rfl, rfl, _, rfl, k1 rfl _ _ _ (Gr.refl g2.fh) rfl⟩
        rw [ptrue] at hL3
        have m42 := m41.pu g42
        have B42 := B41.pu g42
        refine ⟨_, rfl, le_line (by show 3 ≤ 1000000; omega), fun t nt => ?_⟩
        have g43 : Pu F42 H42 (upd F42 t (.tup [.str tt, .ref L3, .ref ba])) (upd H42 t (.tup [.str tt, .ref L3, .ref ba])) := Gr.new g42.fh nt
        have m43 := m42.pu g43
        have B43 := B42.pu g43
        have gt43 := (gf.trans (Gr.pu g42)).trans (Gr.pu g43)
        have s43 := g42.f.trans g43.f
        have exl := hev.length
        refine ⟨ea, exs, .ref t, rfl, rfl, m43.h, lt_line (by omega), ?_⟩
        refine ⟨_, _, _, _, _, _, _, evs ++ [(tt, sc.map (·.1), bad)], exs ++ [.ref t], rfl, gt43.mut m43.n n0, (s10.trans s41).trans s43, (B43.other ebx.symm).mono (by omega), m43.set, (hev'.up (s41.trans s43)).snoc ⟨t, _, _, _, rfl, SqT.of upd_same, rfl, Up.up g43.f hL3, Up.up s43 hb41⟩, ?_, fun e he => ?_⟩
        · rw [List.map_append, hkeys, List.take_succ, htt]
          rfl
        · rcases List.mem_append.mp he with he | he
          · exact hok e he
          · rw [List.mem_singleton.mp he]
            exact ⟨okS, (show bad.length ≤ 12 by omega), bnd, bok⟩
  · rintro σ H6 ⟨F6, w5, w6, w7, w8, w9, w11, evs, exs, rfl, g6, s6, B6, m6, hev, hkeys, hok⟩
    rw [List.length_map, List.take_of_length_le (Nat.le_refl _)] at hkeys
    have gf : GrB bx F H (upd F6 ea (.lst exs)) H6 := g6.frz m6.n n0 m6.h
    have sf : Same F6 (upd F6 ea (.lst exs)) := upd_new m6.n
    have B7 := B6.frz (u := .lst exs) ebx.symm
    have hevs : rL K (rEv K) (upd F6 ea (.lst exs)) (.ref ea) evs := ⟨ea, exs, rfl, SqL.of upd_same, hev.up sf⟩
    have evl : evs.length = tts.length := by rw [← hkeys, List.length_map]
    refine ⟨_, rfl, _, rfl, le_line (by show 2 ≤ 1000000; omega), fun t nt => ?_⟩
    have g8 : Pu (upd F6 ea (.lst exs)) H6 (upd (upd F6 ea (.lst exs)) t (.tup [.ref L, .ref ea])) (upd H6 t (.tup [.ref L, .ref ea])) := Gr.new gf.fh nt
    refine k _ _ _ vars evs (gf.trans (Gr.pu g8)) ((B7.pu g8).mono (by rw [List.length_map]; omega)) ⟨t, _, _, rfl, SqT.of upd_same, Up.up (s6.trans (sf.trans g8.f)) hvars5, Up.up g8.f hevs⟩ ⟨okV, by show evs.length ≤ 8; omega, fun e he => hn2 _ (by rw [← hkeys]; exact List.mem_map_of_mem he), by show (evs.map (·.1)).Nodup; rw [hkeys]; exact hnd2, fun e he => (hok e he).1, fun e he => (hok e he).2⟩
end Rs
/-! text RL5 -/
set_option Elab.async false
set_option linter.all false
set_option maxRecDepth 100000
set_option maxHeartbeats 4000000
namespace Rs
open PySem PySem.Spec PyProof.Rows L2
/-! ### exchanges of values -/
def rng (n : Int) : List Int := (List.range n.toNat).map fun i : Nat => (i : Int)
def okLines (vars : List (Str × Int)) (lines : List (Str × List Int)) : Prop := lines.map (·.1) = vars.map (·.1) ∧ ∀ q ∈ vars, ∃ l, lines.lookup q.1 = some l ∧ l.Perm (rng q.2)
def lnF (lines : List (Str × List Int)) (x : Str) (v : Int) : Int := (((lines.lookup x).getD [])[v.toNat]?).getD 0
def movT (lines : List (Str × List Int)) (sc : List Str) (t : List Int) : List Int := (sc.zip t).map fun q => lnF lines q.1 q.2
theorem rgV_rng (n : Int) : rgV 0 n = (rng n).map V.int := by
  unfold rgV rng
  rw [List.map_map, Int.sub_zero]
  refine List.map_congr_left fun i _ => ?_
  show V.int (0 + (i : Int)) = V.int i
  rw [Int.zero_add]
theorem rng_len (n : Int) : (rng n).length = n.toNat := by unfold rng; rw [List.length_map, List.length_range]
theorem okLines_of {vars : List (Str × Int)} {lines : List (Str × List Int)} (nd : (vars.map (·.1)).Nodup) (h : Paired (fun (q : Str × Int) (l : Str × List Int) => l.1 = q.1 ∧ l.2.Perm (rng q.2)) vars lines) : okLines vars lines := by
  have e1 : lines.map (·.1) = vars.map (·.1) := paired_map h fun a b h => h.1
  refine ⟨e1, fun q hq => ?_⟩
  obtain ⟨i, hi⟩ := List.getElem?_of_mem hq
  have hl := Paired.length h
  have hil := (List.getElem?_eq_some_iff.mp hi).1
  obtain ⟨q', hq', h1, h2⟩ := pair_at h (List.getElem?_eq_getElem (show i < lines.length by omega))
  rw [hi] at hq'
  cases hq'
  refine ⟨lines[i].2, ?_, h2⟩
  rw [← h1]
  exact lookup_nd (by rw [e1]; exact nd) (List.getElem_mem (by omega))
theorem erase_map {α β : Type} (f : α → β) : ∀ (l : List α) (c : Nat), (l.map f).eraseIdx c = (l.eraseIdx c).map f
  | [], _ => rfl
  | a :: l, 0 => rfl
  | a :: l, c + 1 => by
    show f a :: (l.map f).eraseIdx c = f a :: (l.eraseIdx c).map f
    rw [erase_map f l c]
def sp__law_exchange (K : PySem.W.Frag) : Sp := fun vs H Q _ => match vs with
  | [u, v] => ∃ F bx n vars, u = .ref bx ∧ Bx F H bx n ∧ n ≤ 50000 ∧ rL K (r2 K rS rI) F v vars ∧ okVars vars ∧ Same F H ∧ ∀ v F' H' lines, GrB bx F H F' H' → Bx F' H' bx (n + 48) → rD (rL K rI) F' v lines → (∃ a kvs, v = .ref a ∧ F' a = some (.dK kvs)) → okLines vars lines → Q v H'
  | _ => False
theorem sc__law_exchange : FnScope ["_law_box_here", "_law_variables", "_law_found", "_law_name", "_law_size", "_law_left", "_law_line"] ["_law_box_here", "_law_variables"] (defScope s__law_exchange) := C8.fnScope_by (by decide +kernel)
theorem c__law_exchange {P : Program} {w : World} {K : PySem.W.Frag} {mg : Str → Option Value} {base hp : Heap} (T : Tx K mg hp) : C8.Cal P w K mg base 2 "_law_exchange" (sp__law_exchange K) [] := by
  obtain ⟨fd, F⟩ := T.fd__law_exchange
  refine mkCal T.gl__law_exchange F sc__law_exchange (fun _ _ _ _ _ _ us hl => match us, hl with | [_, _], _ => rfl) (fun vs H Q E h => by unfold sp__law_exchange at h; split at h <;> first | rfl | exact h.elim) (fun cdv A outer s H vs Q E hr h => ?_)
  have nd := sc__law_exchange.nd
  have hu := hu_of hr
  unfold sp__law_exchange at h
  split at h
  case h_2 => exact h.elim
  obtain ⟨F, bx, n, vars, rfl, hB, hn, ⟨va, vxs, rfl, hva, hvxs⟩, okV, e, k⟩ := h
  refine ⟨_, (pss_cons (ps_set (i := 2) nd rfl (Or.inl rfl) pe_dnewK)
      (pss_cons (ps_for PassesOwn.never rfl (pi_list (pv 1)) (pg_tup rfl (pgs_cons (pg_name (i := 3) nd rfl (Or.inl rfl)) (pgs_cons (pg_name (i := 4) nd rfl (Or.inl rfl)) pgs_nil))) (pss_cons (ps_set (i := 5) nd rfl (Or.inl rfl) (pe_listRg rfl (by rfl) T.fr_list (prg_1 (by rfl) T.fr_range (pv 4))))
      (pss_cons (ps_set (i := 6) nd rfl (Or.inl rfl) (pe_lst pa_nil))
      (pss_cons (ps_while PassesOwn.never (pt_cmpR (op_neD hr.units) (pv 5) (pe_lst pa_nil) (nomark _)) (pss_one (ps_expr (pe_bm PySem.F.plainAttrs_list PySem.F.slot_list_append PySem.F.type_list_append mt_append (pv 6) (pa_cons (pe_bm PySem.F.plainAttrs_list PySem.F.slot_list_pop PySem.F.type_list_pop mt_popAt (pv 5) (pa_cons (C8.pe_c (c__law_take T) hr (by decide) (by rfl) (pa_cons (pv 0) (pa_cons (pe_callB call_len_seq (by rfl) T.fr_len (by decide +kernel) (pa_cons (pv 5) pa_nil)) pa_nil))) pa_nil)) pa_nil)))))
      (pss_one (ps_dput hu (pv 2) (pv 3) (pv 6) rfl))))))
      (pss_one (ps_ret (pv 2))))), ?_⟩
  intro fa nfa
  have g1 : Pu F H F (upd H fa (.dK [])) := Gr.newm e nfa
  have mf1 := Mt.new (o := .dK []) e nfa
  have B1 := hB.pu g1
  have fbx : fa ≠ bx := fun z => hB.some (z ▸ nfa)
  have vl8 := okV.1.2
  refine ⟨_, rfl, va, rfl, ⟨_, sql_s g1.fh hva⟩, for_list (K := K) (a := va) (xs := vxs) (fun i σ H' => ∃ F' w3 w4 w5 w6 kvs lines, σ = [some (.ref bx), some (.ref va), some (.ref fa), w3, w4, w5, w6] ∧ GrB bx F H F' H' ∧ Bx F' H' bx (n + 6 * i) ∧ Mt F' H' fa (.dK kvs) ∧ AllD (rL K rI) F' kvs lines ∧ Paired (fun (q : Str × Int) (l : Str × List Int) => l.1 = q.1 ∧ l.2.Perm (rng q.2)) (vars.take i) lines)
    ⟨F, _, _, _, _, [], [], rfl, Gr.pu g1, B1, mf1, Paired.nil, Paired.nil⟩ (fun i σ H' _ ⟨F', _, _, _, _, _, _, _, g, _⟩ => sql_s g.fh (sql_s g.f hva)) ?_ ?_⟩
  · rintro i y σ H2 hi ⟨F2, w3, w4, w5, w6, kvs, lines, rfl, g2, B2, mf2, hall, pr⟩
    obtain ⟨q, hq, hy⟩ := hvxs.get hi
    have hqm := List.mem_of_getElem? hq
    have ilt := (List.getElem?_eq_some_iff.mp hq).1
    obtain ⟨qa, q0, q1, rfl, hqa, hq0, hq1⟩ := hy
    cases hq0
    cases hq1
    obtain ⟨x, sz⟩ := q
    have okq := okV.2.1 _ hqm
    have okq : isName x ∧ 1 ≤ sz ∧ sz ≤ 6 := okq
    refine ⟨qa, [_, _], rfl, sqt_s g2.fh (sqt_s g2.f hqa), rfl, _, [_], rfl, _, [], rfl, rfl, ?_⟩
    refine ⟨_, rfl, _, rfl, RgOk.of_le (by omega) (by omega) (by omega) (by omega), fun la nla => ?_⟩
    rw [rgV_rng]
    have g3 : Pu F2 H2 F2 (upd H2 la (.lst ((rng sz).map V.int))) := Gr.newm g2.fh nla
    have ml3 := Mt.new (o := .lst ((rng sz).map V.int)) g2.fh nla
    have mf3 := mf2.pu g3
    have B3 := B2.pu g3
    have gt3 := g2.trans (Gr.pu g3)
    have l0 : H la = none := g2.dom _ nla
    have lbx : la ≠ bx := fun z => hB.some (z ▸ l0)
    have fla := mf2.nn nla
    refine ⟨Nat.zero_le _, fun na nna => ?_⟩
    have g4 : Pu F2 (upd H2 la (.lst ((rng sz).map V.int))) F2 (upd (upd H2 la (.lst ((rng sz).map V.int))) na (.lst [])) := Gr.newm g3.fh nna
    have mn4 := Mt.new (o := .lst []) g3.fh nna
    have ml4 := ml3.pu g4
    have mf4 := mf3.pu g4
    have B4 := B3.pu g4
    have gt4 := gt3.trans (Gr.pu g4)
    have nn0 : H na = none := gt3.dom _ nna
    have nbx : na ≠ bx := fun z => hB.some (z ▸ nn0)
    have fna := mf3.nn nna
    have lna := ml3.nn nna
    refine ⟨fun m σ H' => ∃ left line : List Int, σ = [some (.ref bx), some (.ref va), some (.ref fa), some (.str x), some (.int sz), some (.ref la), some (.ref na)] ∧ GrB bx F H F2 H' ∧ Bx F2 H' bx (n + 6 * i + line.length) ∧ Mt F2 H' fa (.dK kvs) ∧ Mt F2 H' la (.lst (left.map V.int)) ∧ Mt F2 H' na (.lst (line.map V.int)) ∧ (line ++ left).Perm (rng sz) ∧ m = left.length,
      ⟨_, rng sz, [], rfl, gt4, B4, mf4, ml4, mn4, List.Perm.refl _, rfl⟩, ?_⟩
    rintro m σ H5 ⟨left, line, rfl, g5, B5, mf5, ml5, mn5, pm, rfl⟩
    have pl := pm.length_eq
    rw [List.length_append, rng_len] at pl
    refine ⟨_, rfl, Nat.zero_le _, fun qq nq => ?_⟩
    have g6 : Pu F2 H5 F2 (upd H5 qq (.lst [])) := Gr.newm g5.fh nq
    have mq6 := Mt.new (o := .lst []) g5.fh nq
    have mf6 := mf5.pu g6
    have ml6 := ml5.pu g6
    have mn6 := mn5.pu g6
    have B6 := B5.pu g6
    have gt6 := g5.trans (Gr.pu g6)
    refine neD (F := upd H5 qq (.lst [])) (a := left) (b := []) (encL (encI (K := K))) (by decide) (Same.refl _) ⟨la, _, rfl, SqL.of ml6.h, int_all2 _⟩ ⟨qq, [], rfl, SqL.of upd_same, Paired.nil⟩ (fun _ _ => trivial) (fun _ _ => trivial) fun r hr => ⟨_, rfl, ?_⟩
    cases r with
    | false =>
      have hne : left ≠ [] := fun z => by have := hr.mpr z; cases this
      have hpos : 0 < left.length := List.length_pos_iff.mpr hne
      refine iteB rfl ⟨fun σ' H' => ∃ left' line' : List Int, σ' = [some (.ref bx), some (.ref va), some (.ref fa), some (.str x), some (.int sz), some (.ref la), some (.ref na)] ∧ GrB bx F H F2 H' ∧ Bx F2 H' bx (n + 6 * i + line'.length) ∧ Mt F2 H' fa (.dK kvs) ∧ Mt F2 H' la (.lst (left'.map V.int)) ∧ Mt F2 H' na (.lst (line'.map V.int)) ∧ (line' ++ left').Perm (rng sz) ∧ left'.length < left.length, ?_, ?_⟩
      · rintro σ' H' ⟨left', line', e1, e2, e3, e4, e5, e6, e7, e8⟩
        exact ⟨_, e8, left', line', e1, e2, e3, e4, e5, e6, e7, rfl⟩
      · refine ⟨_, rfl, .inl ⟨rfl, _, SqL.of mn6.h⟩, _, rfl, .inl ⟨rfl, _, SqL.of ml6.h⟩, _, rfl, _, rfl, la, _, rfl, .inl (SqL.of ml6.h), F2, bx, _, _, rfl, B6, by omega, rfl, by rw [List.length_map]; omega, by rw [List.length_map]; omega, gt6.fh, fun rp H7 rp0 rpl g7 B7 => ?_⟩
        rw [List.length_map] at rpl
        obtain ⟨c, rfl⟩ : ∃ c : Nat, rp = c := ⟨rp.toNat, by omega⟩
        have hc : c < left.length := by omega
        have mf7 := mf6.up g7 fbx
        have ml7 := ml6.up g7 lbx
        have mn7 := mn6.up g7 nbx
        have gt7 := gt6.trans g7
        refine ⟨la, _, c, c, .int left[c], rfl, rfl, ml7.h, by omega, by omega, seqIx (by rw [List.length_map]; exact hc), by rw [List.getElem?_map, List.getElem?_eq_getElem hc]; rfl, ?_⟩
        have em : (left.map V.int).eraseIdx c = (left.eraseIdx c).map V.int := erase_map V.int left c
        rw [em]
        have ml8 := ml7.set (u := .lst ((left.eraseIdx c).map V.int))
        have mf8 := mf7.other (u := .lst ((left.eraseIdx c).map V.int)) fla
        have mn8 := mn7.other (u := .lst ((left.eraseIdx c).map V.int)) lna.symm
        have B8 := B7.other (u := .lst ((left.eraseIdx c).map V.int)) lbx.symm
        have gt8 := gt7.mut (o := .lst ((left.eraseIdx c).map V.int)) ml7.n l0
        refine ⟨na, _, _, rfl, rfl, mn8.h, lt_line (by rw [List.length_map]; omega), ?_⟩
        have en : line.map V.int ++ [V.int left[c]] = (line ++ [left[c]]).map V.int := by rw [List.map_append]; rfl
        rw [en]
        refine ⟨left.eraseIdx c, line ++ [left[c]], rfl, gt8.mut mn8.n nn0, (B8.other nbx.symm).mono (by rw [List.length_append, List.length_singleton]; omega), mf8.other fna, ml8.other lna, mn8.set, ?_, by rw [List.length_eraseIdx_of_lt hc]; omega⟩
        rw [List.append_assoc]
        exact (List.Perm.append_left line (perm_erase hc)).trans pm
    | true =>
      have hl : left = [] := hr.mp rfl
      rw [hl, List.append_nil] at pm
      rw [hl] at pl
      have pl : line.length = sz.toNat := pl
      have gf : GrB bx F H (upd F2 na (.lst (line.map V.int))) (upd H5 qq (.lst [])) := gt6.frz mn6.n nn0 mn6.h
      have sf : Same F2 (upd F2 na (.lst (line.map V.int))) := upd_new mn6.n
      have mf9 := mf6.frz (u := .lst (line.map V.int)) fna
      have B9 := B6.frz (u := .lst (line.map V.int)) nbx.symm
      have hall9 := hall.up sf
      have ekeys : lines.map (·.1) = (vars.take i).map (·.1) := paired_map pr fun a b h => h.1
      have hni : x ∉ lines.map (·.1) := by
        rw [ekeys, List.map_take]
        intro hm
        have nd := okV.2.2
        obtain ⟨j, hj, ej⟩ := List.mem_iff_getElem.mp hm
        rw [List.getElem_take] at ej
        rw [List.length_take] at hj
        have e2 : (vars.map (·.1))[i]? = some x := by rw [List.getElem?_map, hq]; rfl
        obtain ⟨hi2, ei⟩ := List.getElem?_eq_some_iff.mp e2
        have := (List.getElem_inj nd).mp (ej.trans ei.symm)
        omega
      have hvn := valV_all hall9 hni
      have kl := hall.length
      have ll : lines.length ≤ 8 := by have := Paired.length pr; rw [List.length_take] at this; omega
      refine iteF ⟨_, rfl, _, rfl, _, rfl, fa, _, rfl, .inl ⟨kvs, Sum.inr x, mf9.h, rfl, lt_line (by omega), rfl⟩, ?_⟩
      rw [putK_new _ hvn]
      have hln : rL K rI (upd F2 na (.lst (line.map V.int))) (.ref na) line := ⟨na, _, rfl, SqL.of upd_same, int_all2 _⟩
      refine ⟨_, _, _, _, _, kvs ++ [(Sum.inr x, .ref na)], lines ++ [(x, line)], rfl, gf.mut mf9.n nfa, (B9.other fbx.symm).mono (by omega), mf9.set, Paired.snoc hall9 ⟨rfl, hln⟩, ?_⟩
      rw [List.take_succ, hq]
      exact Paired.snoc pr ⟨rfl, pm⟩
  · rintro σ H2 ⟨F2, w3, w4, w5, w6, kvs, lines, rfl, g2, B2, mf2, hall, pr⟩
    have hl := hvxs.length
    rw [List.take_of_length_le (by omega)] at pr
    have gf : GrB bx F H (upd F2 fa (.dK kvs)) H2 := g2.frz mf2.n nfa mf2.h
    exact ⟨_, rfl, k _ _ _ lines gf ((B2.frz fbx.symm).mono (by omega)) ⟨fa, kvs, rfl, .inl upd_same, hall.up (upd_new mf2.n)⟩ ⟨fa, kvs, rfl, upd_same⟩ (okLines_of okV.2.2 pr)⟩
end Rs
/-! text RL6 -/
set_option Elab.async false
set_option linter.all false
set_option maxRecDepth 100000
set_option maxHeartbeats 4000000
namespace Rs
open PySem PySem.Spec PyProof.Rows L2
/-- values of these variables -/
def okVals (vars : List (Str × Int)) (sc : List Str) (t : List Int) : Prop := t.length = sc.length ∧ ∀ q ∈ sc.zip t, ∃ n, vars.lookup q.1 = some n ∧ 0 ≤ q.2 ∧ q.2 < n
theorem line_at {vars : List (Str × Int)} {lines : List (Str × List Int)} (okV : okVars vars) (okL : okLines vars lines) {x : Str} {n v : Int} (hn : vars.lookup x = some n) (v0 : 0 ≤ v) (v1 : v < n) :
    ∃ l, lines.lookup x = some l ∧ l[v.toNat]? = some (lnF lines x v) ∧ 0 ≤ lnF lines x v ∧ lnF lines x v < n ∧ l.Perm (rng n) ∧ n ≤ 6 := by
  have hm := mem_lookup' hn
  obtain ⟨l, hl, pm⟩ := okL.2 _ hm
  have pl := pm.length_eq
  rw [rng_len] at pl
  have okq := okV.2.1 _ hm
  have pl : l.length = n.toNat := pl
  have hv : v.toNat < l.length := by omega
  have e1 : lnF lines x v = l[v.toNat] := by unfold lnF; rw [hl, Option.getD_some, List.getElem?_eq_getElem hv]; rfl
  have hmem : lnF lines x v ∈ rng n := by rw [e1]; exact pm.mem_iff.mp (List.getElem_mem hv)
  unfold rng at hmem
  obtain ⟨j, hj, ej⟩ := List.mem_map.mp hmem
  have hj := List.mem_range.mp hj
  exact ⟨l, hl, by rw [e1]; exact List.getElem?_eq_getElem hv, by omega, by omega, pm, okq.2.2⟩
def sp__law_moved (K : PySem.W.Frag) : Sp := fun vs H Q _ => match vs with
  | [u, v, z] => ∃ F lines vars sc t, Same F H ∧ rD (rL K rI) F u lines ∧ okLines vars lines ∧ okVars vars ∧ rL K rS F v sc ∧ rU K rI F z t ∧ okVals vars sc t ∧ sc.length ≤ 1000 ∧ ∀ v F' H', Pu F H F' H' → rU K rI F' v (movT lines sc t) → Q v H'
  | _ => False
theorem sc__law_moved : FnScope ["_law_lines", "_law_scope", "_law_values", "_law_name", "_law_value"] ["_law_lines", "_law_scope", "_law_values"] (defScope s__law_moved) := C8.fnScope_by (by decide +kernel)
theorem c__law_moved {P : Program} {w : World} {K : PySem.W.Frag} {mg : Str → Option Value} {base hp : Heap} (T : Tx K mg hp) : C8.Cal P w K mg base 1 "_law_moved" (sp__law_moved K) [] := by
  obtain ⟨fd, F⟩ := T.fd__law_moved
  refine mkCal T.gl__law_moved F sc__law_moved (fun _ _ _ _ _ _ us hl => match us, hl with | [_, _, _], _ => rfl) (fun vs H Q E h => by unfold sp__law_moved at h; split at h <;> first | rfl | exact h.elim) (fun cdv A outer s H vs Q E hr h => ?_)
  have nd := sc__law_moved.nd
  have hu := hu_of hr
  unfold sp__law_moved at h
  split at h
  case h_2 => exact h.elim
  obtain ⟨F, lines, vars, sc, t, e, hD, okL, okV, hsc, ht, okT, l1000, k⟩ := h
  obtain ⟨d, kvs, rfl, hd, hkv⟩ := id hD
  obtain ⟨b, rfl, hb⟩ := rls hsc
  obtain ⟨c, us, rfl, hc, hcu⟩ := ht
  rw [all2_int hcu] at hc
  refine ⟨_, (pss_one (ps_ret (pe_callTy call_tuple_of (by rfl) T.fr_tuple (by decide +kernel) (pa_cons (pe_lc (own := [("_law_name", 3), ("_law_value", 4)]) (g := (gTup K 2 (gCons (gName 3) (gCons (gName 4) gNil)))) rfl nd (pi_zipG (by rfl) T.fr_zip (pa_cons (pv 1) (pa_cons (pv 2) pa_nil))) (blkOk_by (own := [("_law_name", 3), ("_law_value", 4)]) (N := ["_law_lines", "_law_scope", "_law_values", "_law_name", "_law_value"]) (sc := defScope s__law_moved) (by decide +kernel)) (fun _ _ _ _ _ => (pg_tup rfl (pgs_cons (pg_name (i := 3) nd rfl (Or.inl rfl)) (pgs_cons (pg_name (i := 4) nd rfl (Or.inl rfl)) pgs_nil)))) (fun _ _ _ _ _ => pts_nil) (fun _ _ _ _ _ => (pe_ix (ix_listK (K := K) rfl) (pe_dget hu (pv 0) (pv 3) (fun _ _ => rfl)) (pv 4) (fun _ _ => rfl)))) pa_nil)))), ?_⟩
  refine ⟨_, rfl, _, rfl, .l b, .t c, _, _, rfl, sql_s e hb, sqt_s e hc, trivial, trivial, ?_⟩
  have hlen : sc.length = t.length := okT.1.symm
  refine lcP (K := K) (RA := rS) (RC := rI) (R := rI) (walk_zipG (K := K) (z1 := .l b) (z2 := .t c) (xs := sc.map V.str) (ys := t.map V.int) rfl) (sc.zip t) (fun q => lnF lines q.1 q.2) (fun _ => true) e (by rw [List.length_zip, List.length_map, List.length_map]) (by rw [List.length_map, List.length_map]; omega) (fun F3 H3 g3 => ⟨sql_s g3.fh (sql_s g3.f hb), sqt_s g3.fh (sqt_s g3.f hc)⟩) ?_ ?_ ?_ ?_
  · intro i x hi he
    obtain ⟨p, q, h1, h2, h3⟩ := zip_at (as := sc) (bs := t) (i := i) (by rw [List.length_map, List.length_map] at hi; exact hi)
    rw [List.getElem?_map, h1] at he
    cases he
    exact ⟨_, h3, rfl⟩
  · intro i x hi he
    obtain ⟨p, q, h1, h2, h3⟩ := zip_at (as := sc) (bs := t) (i := i) (by rw [List.length_map, List.length_map] at hi; exact hi)
    rw [List.getElem?_map, h2] at he
    cases he
    exact ⟨_, h3, rfl⟩
  · intro q T x y F3 H3 hq g3 hT rx ry Kt Kf h1 h2
    cases rx
    cases ry
    obtain ⟨n, hn, n0, n1⟩ := okT.2 q hq
    obtain ⟨l, hl, hv, _⟩ := line_at okV okL hn n0 n1
    obtain ⟨d', u, ed, hg, hu'⟩ := dgot g3.fh (Up.up g3.f hD) hl
    cases ed
    obtain ⟨a, rfl, ha⟩ := rli hu'
    obtain ⟨m, em⟩ : ∃ m : Nat, q.2 = m := ⟨q.2.toNat, by omega⟩
    refine ⟨T, _, rfl, SqT.of (g3.fh _ _ hT), rfl, _, _, rfl, _, _, rfl, rfl, rfl, _, rfl, _, rfl, d, _, rfl, hg, _, rfl, a, _, _, .int (lnF lines q.1 q.2), rfl, rfl, sql_s g3.fh ha, ?_, h1 rfl _ F3 H3 (Gr.refl g3.fh) rfl⟩
    rw [em]
    refine atI_nat ?_
    rw [List.getElem?_map]
    rw [em] at hv
    have hv : l[m]? = some (lnF lines q.1 (m : Int)) := hv
    rw [hv]
    rfl
  · intro D F3 H3 g3 hD3
    rw [ptrue] at hD3
    obtain ⟨dd, ed, hd3⟩ := rli hD3
    cases ed
    refine ⟨D, _, rfl, .inl ⟨sql_s g3.fh hd3, fun t' nt => ?_⟩⟩
    exact k _ _ _ (g3.trans (Gr.new g3.fh nt)) ⟨t', _, rfl, SqT.of upd_same, int_all2 _⟩
def piecesF (evs : List (Str × List Str × List (List Int))) : List Pc := evs.flatMap fun e => e.2.2.map fun t => (e.1, t)
def sp__law_pieces (K : PySem.W.Frag) : Sp := fun vs H Q _ => match vs with
  | [u] => ∃ F evs, Same F H ∧ rL K (rEv K) F u evs ∧ evs.length ≤ 8 ∧ (∀ e ∈ evs, e.2.2.length ≤ 12) ∧ ∀ v F' H', Pu F H F' H' → rL K (rPc K) F' v (piecesF evs) → Q v H'
  | _ => False
theorem pieces_len : ∀ {evs : List (Str × List Str × List (List Int))}, (∀ e ∈ evs, e.2.2.length ≤ 12) → (piecesF evs).length ≤ 12 * evs.length
  | [], _ => Nat.zero_le _
  | e :: evs, h => by
    have ih := pieces_len (evs := evs) fun x hx => h x (List.mem_cons_of_mem _ hx)
    have h1 := h e (List.mem_cons_self ..)
    unfold piecesF at *
    rw [List.flatMap_cons, List.length_append, List.length_map, List.length_cons]
    omega
theorem sc__law_pieces : FnScope ["_law_events", "_law_found", "_law_title", "_law_scope", "_law_bad", "_law_values"] ["_law_events"] (defScope s__law_pieces) := C8.fnScope_by (by decide +kernel)
theorem c__law_pieces {P : Program} {w : World} {K : PySem.W.Frag} {mg : Str → Option Value} {base hp : Heap} (T : Tx K mg hp) : C8.Cal P w K mg base 1 "_law_pieces" (sp__law_pieces K) [] := by
  obtain ⟨fd, F⟩ := T.fd__law_pieces
  refine mkCal T.gl__law_pieces F sc__law_pieces (fun _ _ _ _ _ _ us hl => match us, hl with | [_], _ => rfl) (fun vs H Q E h => by unfold sp__law_pieces at h; split at h <;> first | rfl | exact h.elim) (fun cdv A outer s H vs Q E hr h => ?_)
  have nd := sc__law_pieces.nd
  have hu := hu_of hr
  unfold sp__law_pieces at h
  split at h
  case h_2 => exact h.elim
  obtain ⟨F, evs, e, ⟨ea, exs, rfl, hea, hexs⟩, l8, l12, k⟩ := h
  refine ⟨_, (pss_cons (ps_set (i := 1) nd rfl (Or.inl rfl) (pe_lst pa_nil))
      (pss_cons (ps_for PassesOwn.never rfl (pi_list (pv 0)) (pg_tup rfl (pgs_cons (pg_name (i := 2) nd rfl (Or.inr rfl)) (pgs_cons (pg_name (i := 3) nd rfl (Or.inl rfl)) (pgs_cons (pg_name (i := 4) nd rfl (Or.inl rfl)) pgs_nil)))) (pss_one (ps_set (i := 1) nd rfl (Or.inl rfl) (pe_op op_cat (pv 1) (pe_lc (own := [("_law_values", 5)]) (g := (gName 5)) rfl nd (pi_list (pv 4)) (blkOk_by (own := [("_law_values", 5)]) (N := ["_law_events", "_law_found", "_law_title", "_law_scope", "_law_bad", "_law_values"]) (sc := defScope s__law_pieces) (by decide +kernel)) (fun _ _ _ _ _ => (pg_name (i := 5) nd rfl (Or.inl rfl))) (fun _ _ _ _ _ => pts_nil) (fun _ _ _ _ _ => (pe_tup (pa_cons (pv 2) (pa_cons (pv 5) pa_nil)))))))))
      (pss_one (ps_ret (pv 1))))), ?_⟩
  refine ⟨Nat.zero_le _, fun fa nfa => ?_⟩
  have g1 : Pu F H (upd F fa (.lst [])) (upd H fa (.lst [])) := Gr.new e nfa
  refine ⟨_, rfl, ea, rfl, ⟨_, sql_s g1.fh (sql_s g1.f hea)⟩, for_list (K := K) (a := ea) (xs := exs) (fun i σ H' => ∃ F' fa w2 w3 w4 fs, σ = [some (.ref ea), some (.ref fa), w2, w3, w4, none] ∧ Pu F H F' H' ∧ F' fa = some (.lst fs) ∧ All2 (rPc K) F' fs (piecesF (evs.take i)))
    ⟨_, fa, _, _, _, [], rfl, g1, upd_same, Paired.nil⟩ (fun i σ H' _ ⟨F', _, _, _, _, _, _, g, _⟩ => sql_s g.fh (sql_s g.f hea)) ?_ ?_⟩
  · rintro i y σ H2 hi ⟨F2, fa, w2, w3, w4, fs, rfl, g2, hfa, hfs⟩
    obtain ⟨ev, hev, hy⟩ := hexs.get hi
    obtain ⟨qa, q0, q1, q2, rfl, hqa, hq0, hq1, hq2⟩ := hy
    cases hq0
    have hm := List.mem_of_getElem? hev
    have l12e := l12 ev hm
    have ilt := (List.getElem?_eq_some_iff.mp hev).1
    obtain ⟨ba, bxs, rfl, hba, hbxs⟩ := Up.up g2.f hq2
    refine ⟨qa, [_, _, _], rfl, sqt_s g2.fh (sqt_s g2.f hqa), rfl, _, [_, _], rfl, _, [_], rfl, _, [], rfl, rfl, ?_⟩
    refine ⟨_, rfl, _, rfl, ba, rfl, ⟨_, sql_s g2.fh hba⟩, ?_⟩
    refine lcLX (K := K) (RA := rU K rI) (R := rPc K) (f := fun t => (ev.1, t)) (p := fun _ => true) g2.fh hba hbxs (by omega) (fun t v F3 H3 ht g3 hv Kt Kf k1 k2 => ?_) (fun L F3 H3 g3 hL => ?_)
    · refine ⟨rfl, _, rfl, _, rfl, le_line (by show 2 ≤ 1000000; omega), fun q nq => ?_⟩
      have g4 : Pu F3 H3 (upd F3 q (.tup [.str ev.1, v])) (upd H3 q (.tup [.str ev.1, v])) := Gr.new g3.fh nq
      exact k1 rfl _ _ _ g4 ⟨q, _, _, rfl, SqT.of upd_same, rfl, Up.up g4.f hv⟩
    · rw [ptrue] at hL
      obtain ⟨q, xs, eq, hq, hxs⟩ := hL
      cases eq
      have g23 := g2.trans g3
      have lf := hfs.length
      have lx := hxs.length
      rw [List.length_map] at lx
      have lp := pieces_len (evs := evs.take i) fun e he => l12 e (List.mem_of_mem_take he)
      rw [List.length_take] at lp
      refine ⟨fa, L, fs, xs, rfl, rfl, g3.fh _ _ (g3.f _ _ hfa), g3.fh _ _ hq, le_line (by omega), fun z nz => ?_⟩
      have g4 : Pu F3 H3 (upd F3 z (.lst (fs ++ xs))) (upd H3 z (.lst (fs ++ xs))) := Gr.new g3.fh nz
      refine ⟨_, z, _, _, _, fs ++ xs, rfl, g23.trans g4, upd_same, ?_⟩
      rw [List.take_succ, hev]
      unfold piecesF
      rw [List.flatMap_append]
      show All2 _ _ _ (_ ++ ([ev].flatMap fun e => e.2.2.map fun t => (e.1, t)))
      rw [List.flatMap_singleton]
      exact All2.append (hfs.up (g3.f.trans g4.f)) (hxs.up g4.f)
  · rintro σ H2 ⟨F2, fa, w2, w3, w4, fs, rfl, g2, hfa, hfs⟩
    have hl := hexs.length
    rw [List.take_of_length_le (by omega)] at hfs
    exact ⟨_, rfl, k _ _ _ g2 ⟨fa, fs, rfl, SqL.of hfa, hfs⟩⟩
end Rs
/-! text RP1 -/
set_option Elab.async false
set_option linter.all false
set_option maxRecDepth 100000
set_option maxHeartbeats 4000000
namespace Rs
open PySem PySem.Spec PyProof.Rows L2
/-! ### the plain law: a problem with its values exchanged -/
structure Mv (ln : List (Str × List Int)) (D E : PD) : Prop where
  vars : E.vars = D.vars
  evs : Paired (fun (a b : Str × List Str × List (List Int)) => b.1 = a.1 ∧ b.2.1 = a.2.1 ∧ b.2.2.Perm (a.2.2.map (movT ln a.2.1))) D.evs E.evs
  dok : D.Ok
  eok : E.Ok
  lok : okLines D.vars ln
section
variable {ln : List (Str × List Int)} {D E : PD}
theorem Mv.names (h : Mv ln D E) : E.names = D.names := paired_map h.evs fun a b r => r.1
theorem Mv.scopes (h : Mv ln D E) : E.scopes = D.scopes := paired_map (f := fun e : Str × List Str × List (List Int) => (e.1, e.2.1)) h.evs fun a b r => by rw [r.1, r.2.1]
theorem Mv.sc (h : Mv ln D E) : E.sc = D.sc := by funext e; unfold PD.sc; rw [h.scopes]
theorem Mv.adj (h : Mv ln D E) : E.adj = D.adj := by funext a b; unfold PD.adj; rw [h.sc]
theorem tups_perm {f : List Str → List Int → List Int} {e : Str} : ∀ {l m : List (Str × List Str × List (List Int))}, Paired (fun a b => b.1 = a.1 ∧ b.2.1 = a.2.1 ∧ b.2.2.Perm (a.2.2.map (f a.2.1))) l m →
    (((m.map fun e => (e.1, e.2.2)).lookup e).getD []).Perm ((((l.map fun e => (e.1, e.2.2)).lookup e).getD []).map (f (((l.map fun e => (e.1, e.2.1)).lookup e).getD [])))
  | _, _, Paired.nil => List.Perm.refl _
  | _, _, Paired.cons (a := a) (b := b) (l₁ := l) (l₂ := m) r t => by
    have ih := tups_perm (f := f) (e := e) t
    rw [List.map_cons, List.map_cons, List.map_cons, List.lookup_cons, List.lookup_cons, List.lookup_cons, r.1]
    by_cases h : e = a.1
    · rw [h]
      simp only [beq_self_eq_true, Option.getD_some]
      exact r.2.2
    · rw [beq_false_of_ne h]
      exact ih
theorem Mv.ts (h : Mv ln D E) (e : Str) : (E.ts e).Perm ((D.ts e).map (movT ln (D.sc e))) := tups_perm h.evs
theorem Mv.tlen (h : Mv ln D E) (e : Str) : (E.ts e).length = (D.ts e).length := by rw [(h.ts e).length_eq, List.length_map]
theorem Mv.ind (h : Mv ln D E) : E.ind = D.ind := by unfold PD.ind PD.nbl; rw [h.names, h.adj]
theorem Mv.cnt (h : Mv ln D E) : E.cnt = D.cnt := by
  funext g
  unfold PD.cnt
  rw [show E.cntF = D.cntF from funext fun c => funext fun n => by unfold PD.cntF; rw [h.tlen]]
theorem Mv.signed (h : Mv ln D E) : E.signed = D.signed := by unfold PD.signed; rw [h.ind, h.cnt]
theorem Mv.prob (h : Mv ln D E) : E.prob = D.prob := by funext e; unfold PD.prob; rw [h.tlen, h.vars, h.sc]
theorem Mv.weights (h : Mv ln D E) : E.weights = D.weights := by
  have e1 : E.spr = D.spr := by funext g; unfold PD.spr PD.sprL; rw [h.prob]
  have e2 : E.sgl = D.sgl := by funext n; unfold PD.sgl; rw [h.ind, e1]
  have e3 : E.sgs = D.sgs := by funext n; unfold PD.sgs; rw [e2]
  unfold PD.weights
  rw [e3]
/-! values -/
theorem lnF_inj0 {vars : List (Str × Int)} (okV : okVars vars) (okL : okLines vars ln) {x : Str} {n v w : Int} (hn : vars.lookup x = some n) (v0 : 0 ≤ v) (v1 : v < n) (w0 : 0 ≤ w) (w1 : w < n) (e : lnF ln x v = lnF ln x w) : v = w := by
  obtain ⟨l, hl, hv, _, _, pm, _⟩ := line_at okV okL hn v0 v1
  obtain ⟨l', hl', hw, _, _, _, _⟩ := line_at okV okL hn w0 w1
  rw [hl] at hl'
  cases hl'
  rw [e] at hv
  have nd : l.Nodup := by
    refine pm.nodup_iff.mpr ?_
    unfold rng
    exact List.Pairwise.map _ (fun a b (h : a ≠ b) (z : (a : Int) = b) => h (by omega)) List.nodup_range
  obtain ⟨h1, h2⟩ := List.getElem?_eq_some_iff.mp hv
  obtain ⟨h3, h4⟩ := List.getElem?_eq_some_iff.mp hw
  have := (List.getElem_inj nd).mp (h2.trans h4.symm)
  omega
theorem lnF_inj (h : Mv ln D E) {x : Str} {n v w : Int} (hn : D.vars.lookup x = some n) (v0 : 0 ≤ v) (v1 : v < n) (w0 : 0 ≤ w) (w1 : w < n) (e : lnF ln x v = lnF ln x w) : v = w := lnF_inj0 h.dok.v h.lok hn v0 v1 w0 w1 e
theorem lnF_in (h : Mv ln D E) {x : Str} {n v : Int} (hn : D.vars.lookup x = some n) (v0 : 0 ≤ v) (v1 : v < n) : 0 ≤ lnF ln x v ∧ lnF ln x v < n := by
  obtain ⟨l, _, _, h1, h2, _⟩ := line_at h.dok.v h.lok hn v0 v1
  exact ⟨h1, h2⟩
theorem movT_len {sc : List Str} {t : List Int} (h : t.length = sc.length) : (movT ln sc t).length = sc.length := by
  unfold movT
  rw [List.length_map, List.length_zip, h, Nat.min_self]
theorem movT_cons {x : Str} {sc : List Str} {v : Int} {t : List Int} : movT ln (x :: sc) (v :: t) = lnF ln x v :: movT ln sc t := rfl
theorem okVals_cons {vars : List (Str × Int)} {x : Str} {sc : List Str} {t : List Int} (h : okVals vars (x :: sc) t) : ∃ v t', t = v :: t' ∧ (∃ n, vars.lookup x = some n ∧ 0 ≤ v ∧ v < n) ∧ okVals vars sc t' := by
  cases t with
  | nil => have := h.1; simp at this
  | cons v t => exact ⟨v, t, rfl, h.2 (x, v) (List.mem_cons_self ..), by have := h.1; simp at this; exact this, fun q hq => h.2 q (List.mem_cons_of_mem _ hq)⟩
theorem movT_inj0 {vars : List (Str × Int)} (okV : okVars vars) (okL : okLines vars ln) : ∀ {sc : List Str} {t u : List Int}, okVals vars sc t → okVals vars sc u → movT ln sc t = movT ln sc u → t = u
  | [], t, u, ht, hu, _ => by
    have h1 := ht.1
    have h2 := hu.1
    rw [List.length_nil, List.length_eq_zero_iff] at h1 h2
    rw [h1, h2]
  | x :: sc, t, u, ht, hu, e => by
    obtain ⟨v, t, rfl, ⟨n, hn, v0, v1⟩, ht'⟩ := okVals_cons ht
    obtain ⟨w, u, rfl, ⟨m, hm, w0, w1⟩, hu'⟩ := okVals_cons hu
    rw [hn] at hm
    cases hm
    rw [movT_cons, movT_cons] at e
    obtain ⟨e1, e2⟩ := List.cons.inj e
    rw [lnF_inj0 okV okL hn v0 v1 w0 w1 e1, movT_inj0 okV okL ht' hu' e2]
theorem movT_ok0 {vars : List (Str × Int)} (okV : okVars vars) (okL : okLines vars ln) : ∀ {sc : List Str} {t : List Int}, okVals vars sc t → okVals vars sc (movT ln sc t)
  | [], t, _ => ⟨rfl, fun q hq => by cases hq⟩
  | x :: sc, t, ht => by
    obtain ⟨v, t, rfl, ⟨n, hn, v0, v1⟩, ht'⟩ := okVals_cons ht
    have ih := movT_ok0 okV okL ht'
    obtain ⟨l, _, _, l0, l1, _⟩ := line_at okV okL hn v0 v1
    rw [movT_cons]
    refine ⟨by rw [List.length_cons, List.length_cons, ih.1], fun q hq => ?_⟩
    rcases List.mem_cons.mp hq with rfl | hq
    · exact ⟨n, hn, l0, l1⟩
    · exact ih.2 q hq
theorem movT_inj (h : Mv ln D E) {sc : List Str} {t u : List Int} (ht : okVals D.vars sc t) (hu : okVals D.vars sc u) (e : movT ln sc t = movT ln sc u) : t = u := movT_inj0 h.dok.v h.lok ht hu e
theorem movT_ok (h : Mv ln D E) {sc : List Str} {t : List Int} (ht : okVals D.vars sc t) : okVals D.vars sc (movT ln sc t) := movT_ok0 h.dok.v h.lok ht
/-- the exchanged events -/
def mvEvs (ln : List (Str × List Int)) (evs : List (Str × List Str × List (List Int))) : List (Str × List Str × List (List Int)) := evs.map fun e => (e.1, e.2.1, e.2.2.map (movT ln e.2.1))
theorem mvEvs_ok {vars : List (Str × Int)} {evs : List (Str × List Str × List (List Int))} (ok : PD.Ok ⟨vars, evs⟩) (okL : okLines vars ln) : PD.Ok ⟨vars, mvEvs ln evs⟩ where
  v := ok.v
  n8 := by
    show (evs.map _).length ≤ 8
    rw [List.length_map]
    exact ok.n8
  en := fun e he => by
    obtain ⟨e0, h0, rfl⟩ := List.mem_map.mp he
    exact ok.en e0 h0
  nd := by
    show ((evs.map _).map _).Nodup
    rw [List.map_map]
    exact ok.nd
  sc := fun e he => by
    obtain ⟨e0, h0, rfl⟩ := List.mem_map.mp he
    exact ok.sc e0 h0
  tp := fun e he => by
    obtain ⟨e0, h0, rfl⟩ := List.mem_map.mp he
    obtain ⟨h1, h2, h3⟩ := ok.tp e0 h0
    refine ⟨by show (e0.2.2.map _).length ≤ 12; rw [List.length_map]; exact h1, ?_, fun t ht => ?_⟩
    · show (e0.2.2.map (movT ln e0.2.1)).Nodup
      refine List.pairwise_map.mpr ?_
      refine List.Pairwise.imp_of_mem (fun {a b} ha hb hne e => hne (movT_inj0 ok.v okL (h3 a ha) (h3 b hb) e)) h2
    · obtain ⟨t0, ht0, rfl⟩ := List.mem_map.mp ht
      exact movT_ok0 ok.v okL (h3 t0 ht0)
theorem mv_of {vars : List (Str × Int)} {evs evs1 evs2 : List (Str × List Str × List (List Int))} (ok : PD.Ok ⟨vars, evs⟩) (okL : okLines vars ln) (s1 : Srt evs evs1) (s2 : Srt (mvEvs ln evs) evs2) : Mv ln ⟨vars, evs1⟩ ⟨vars, evs2⟩ where
  vars := rfl
  evs := by
    have key : ∀ {a a1 a2 : List (Str × List Str × List (List Int))}, Srt a a1 → Srt (mvEvs ln a) a2 → Paired (fun (a b : Str × List Str × List (List Int)) => b.1 = a.1 ∧ b.2.1 = a.2.1 ∧ b.2.2.Perm (a.2.2.map (movT ln a.2.1))) a1 a2 := by
      intro a
      induction a with
      | nil =>
        intro a1 a2 h1 h2
        cases h1
        cases h2
        exact Paired.nil
      | cons e a ih =>
        intro a1 a2 h1 h2
        cases h1 with
        | cons r1 t1 =>
          cases h2 with
          | cons r2 t2 =>
            refine Paired.cons ⟨r2.1.trans r1.1.symm, r2.2.1.trans r1.2.1.symm, ?_⟩ (ih t1 t2)
            rw [r1.2.1]
            exact r2.2.2.trans (r1.2.2.symm.map _)
    exact key s1 s2
  dok := s1.ok ok
  eok := s2.ok (mvEvs_ok ok okL)
  lok := okL
theorem Mv.mem (h : Mv ln D E) {e : Str} (he : e ∈ D.names) {t : List Int} (ht : okVals D.vars (D.sc e) t) : movT ln (D.sc e) t ∈ E.ts e ↔ t ∈ D.ts e := by
  rw [(h.ts e).mem_iff, List.mem_map]
  refine ⟨fun ⟨u, hu, eu⟩ => ?_, fun hm => ⟨t, hm, rfl⟩⟩
  have hu' := (tups_of h.dok (sc_of he) (ts_of he)).2.2 u hu
  rw [← movT_inj h hu' ht eu]
  exact hu
/-! assignments -/
def movA (ln : List (Str × List Int)) (vars : List (Str × Int)) (as : List Int) : List Int := movT ln (vars.map (·.1)) as
theorem asg_vals {vars : List (Str × Int)} (nd : (vars.map (·.1)).Nodup) {as : List Int} (h : okAsg vars as) : okVals vars (vars.map (·.1)) as := by
  refine ⟨by rw [List.length_map]; exact h.1, fun q hq => ?_⟩
  rw [List.zip_map_left] at hq
  obtain ⟨p, hp, rfl⟩ := List.mem_map.mp hq
  exact ⟨p.1.2, lookup_nd nd (List.of_mem_zip hp).1, h.2 p hp⟩
theorem vals_asg {vars : List (Str × Int)} (nd : (vars.map (·.1)).Nodup) {as : List Int} (h : okVals vars (vars.map (·.1)) as) : okAsg vars as := by
  refine ⟨by have := h.1; rw [List.length_map] at this; exact this, fun q hq => ?_⟩
  obtain ⟨n, hn, h1⟩ := h.2 (q.1.1, q.2) (by rw [List.zip_map_left]; exact List.mem_map.mpr ⟨q, hq, rfl⟩)
  have := lookup_nd nd (List.of_mem_zip hq).1
  rw [this] at hn
  cases hn
  exact h1
theorem Mv.asg (h : Mv ln D E) {as : List Int} (ha : okAsg D.vars as) : okAsg D.vars (movA ln D.vars as) := vals_asg h.dok.v.2.2 (movT_ok h (asg_vals h.dok.v.2.2 ha))
theorem look_mov : ∀ {ns : List Str} {as : List Int} {x : Str}, as.length = ns.length → x ∈ ns → ((ns.zip (movT ln ns as)).lookup x).getD 0 = lnF ln x (((ns.zip as).lookup x).getD 0)
  | n :: ns, a :: as, x, hl, hx => by
    rw [movT_cons, List.zip_cons_cons, List.zip_cons_cons, List.lookup_cons, List.lookup_cons]
    by_cases e : x = n
    · rw [e]
      simp only [beq_self_eq_true, Option.getD_some]
    · rw [beq_false_of_ne e]
      rcases List.mem_cons.mp hx with h | h
      · exact absurd h e
      · exact look_mov (by simpa using hl) h
theorem lookA_mov {vars : List (Str × Int)} {as : List Int} {x : Str} (hl : as.length = vars.length) (hx : x ∈ vars.map (·.1)) : lookA vars (movA ln vars as) x = lnF ln x (lookA vars as x) :=
  look_mov (by rw [List.length_map]; exact hl) hx
theorem zip_self_map {α β : Type} (f : α → β) : ∀ l : List α, l.zip (l.map f) = l.map fun x => (x, f x)
  | [] => rfl
  | a :: l => by rw [List.map_cons, List.zip_cons_cons, zip_self_map f l]; rfl
theorem proj_mov {vars : List (Str × Int)} {as : List Int} (hl : as.length = vars.length) {sc : List Str} (hs : ∀ x ∈ sc, x ∈ vars.map (·.1)) : projA vars (movA ln vars as) sc = movT ln sc (projA vars as sc) := by
  unfold movT projA
  rw [zip_self_map, List.map_map]
  exact List.map_congr_left fun x hx => lookA_mov hl (hs x hx)
theorem look_in {vars : List (Str × Int)} (nd : (vars.map (·.1)).Nodup) {as : List Int} (ha : okAsg vars as) {x : Str} (hx : x ∈ vars.map (·.1)) : ∃ n, vars.lookup x = some n ∧ 0 ≤ lookA vars as x ∧ lookA vars as x < n := by
  have hv := asg_vals nd ha
  unfold lookA
  have hm : x ∈ ((vars.map (·.1)).zip as).map (·.1) := by
    rw [zip_fst' (by rw [List.length_map]; exact ha.1.symm)]
    exact hx
  obtain ⟨v, hv2⟩ := lookup_mem hm
  obtain ⟨n, hn, h0⟩ := hv.2 (x, v) (mem_lookup' hv2)
  rw [hv2]
  exact ⟨n, hn, h0⟩
theorem proj_vals {vars : List (Str × Int)} (nd : (vars.map (·.1)).Nodup) {as : List Int} (ha : okAsg vars as) {sc : List Str} (hs : ∀ x ∈ sc, x ∈ vars.map (·.1)) : okVals vars sc (projA vars as sc) := by
  refine ⟨by unfold projA; rw [List.length_map], fun q hq => ?_⟩
  unfold projA at hq
  rw [zip_self_map] at hq
  obtain ⟨x, hx, rfl⟩ := List.mem_map.mp hq
  exact look_in nd ha (hs x hx)
theorem Mv.occ (h : Mv ln D E) {as : List Int} (ha : okAsg D.vars as) {e : Str} (he : e ∈ D.names) : E.occ (movA ln D.vars as) e = D.occ as e := by
  have osc := scope_of h.dok (sc_of he)
  unfold PD.occ
  rw [h.vars, h.sc, proj_mov ha.1 osc.2.2]
  have := h.mem he (proj_vals h.dok.v.2.2 ha osc.2.2)
  exact decide_eq_decide.mpr this
end
end Rs
/-! text RP2 -/
set_option Elab.async false
set_option linter.all false
set_option maxRecDepth 100000
set_option maxHeartbeats 4000000
namespace Rs
open PySem PySem.Spec PyProof.Rows L2
/-! ### the plain law: heaps -/
def mvP (ln : List (Str × List Int)) (D : PD) (q : Pc) : Pc := (q.1, movT ln (D.sc q.1) q.2)
section
variable {ln : List (Str × List Int)} {D E : PD}
theorem Mv.pc (h : Mv ln D E) {q : Pc} (hq : okPc D q) : okPc E (mvP ln D q) := by
  have hv := (tups_of h.dok (sc_of hq.1) (ts_of hq.1)).2.2 q.2 hq.2
  refine ⟨by show q.1 ∈ E.names; rw [h.names]; exact hq.1, ?_⟩
  exact (h.mem hq.1 hv).mpr hq.2
theorem lyAdd_map {f : Pc → Pc} {ls : List (List Pc)} {n : Nat} {q : Pc} (hn : n ≤ ls.length) : lyAdd (ls.map (·.map f)) n (f q) = (lyAdd ls n q).map (·.map f) := by
  unfold lyAdd
  dsimp only
  rw [List.length_map]
  by_cases h : n = ls.length
  · rw [if_pos h, if_pos h, List.map_set, List.map_append]
    rw [show ls.map (fun y => List.map f y) ++ [[]] = (ls ++ [[]]).map (fun y => List.map f y) by rw [List.map_append]; rfl, List.getElem?_map]
    cases (ls ++ [[]])[n]? with
    | none => rw [List.map_append]; rfl
    | some y => rw [List.map_append]; show List.set _ _ (y.map f ++ [f q]) = List.set _ _ ((y ++ [q]).map f); rw [List.map_append]; rfl
  · rw [if_neg h, if_neg h, List.map_set, List.getElem?_map]
    cases ls[n]? with
    | none => rfl
    | some y => show List.set _ _ (y.map f ++ [f q]) = List.set _ _ ((y ++ [q]).map f); rw [List.map_append]; rfl
theorem ly_mov (h : Mv ln D E) {l : List Pc} (hl : ∀ q ∈ l, okPc D q) : ∀ i, i ≤ l.length → lyAll E ((l.map (mvP ln D)).take i) = ((lyAll D (l.take i)).1.map (·.map (mvP ln D)), (lyAll D (l.take i)).2)
  | 0, _ => by
    rw [List.take_zero, List.take_zero]
    unfold lyAll
    rw [h.vars]
    rfl
  | i + 1, hi => by
    have ih := ly_mov h hl i (by omega)
    have lok := (ly_take h.dok hl i (by omega)).1
    have hg : l[i]? = some l[i] := List.getElem?_eq_getElem (by omega)
    have hq := hl _ (List.getElem_mem (by omega : i < l.length))
    have hg2 : (l.map (mvP ln D))[i]? = some (mvP ln D l[i]) := by rw [List.getElem?_map, hg]; rfl
    obtain ⟨l0, l1, _⟩ := lvl_in lok (scope_of h.dok (sc_of hq.1))
    unfold lyAll at *
    rw [fold_take _ _ hg, fold_take _ _ hg2, ih]
    generalize List.foldl (lyStep D) ([], D.vars.map fun v => (v.1, 0)) (l.take i) = st at *
    unfold lyStep
    show (lyAdd (st.1.map (·.map (mvP ln D))) (lvlF st.2 (E.sc l[i].1)).toNat (mvP ln D l[i]), (E.sc l[i].1).foldl (fun nl x => nlS nl x (lvlF st.2 (E.sc l[i].1) + 1)) st.2) = _
    rw [h.sc, lyAdd_map (by omega)]
theorem lsort_map {names : List Str} {f : Pc → Pc} (hf : ∀ q, (f q).1 = q.1) (l : List Pc) : lsort names (l.map f) = (lsort names l).map f := by
  unfold lsort
  refine (List.map_mergeSort fun a _ b _ => ?_).symm
  rw [hf, hf]
theorem layers_mov (h : Mv ln D E) {l : List Pc} (hl : ∀ q ∈ l, okPc D q) : layersF E (l.map (mvP ln D)) = (layersF D l).map (·.map (mvP ln D)) := by
  have := ly_mov h hl l.length (Nat.le_refl _)
  rw [List.take_of_length_le (Nat.le_refl _), List.take_of_length_le (by rw [List.length_map]; exact Nat.le_refl _)] at this
  unfold layersF
  rw [this, h.names, List.map_map, List.map_map]
  refine List.map_congr_left fun y _ => ?_
  exact lsort_map (f := mvP ln D) (fun q => rfl) y
theorem hw_mov (h : Mv ln D E) (l : List Pc) : hwF E (l.map (mvP ln D)) = hwF D l := by
  unfold hwF hwL
  rw [List.map_map, h.vars, h.sc]
  rfl
theorem flat_map {f : Pc → Pc} : ∀ ls : List (List Pc), (ls.map (·.map f)).flatten = ls.flatten.map f
  | [] => rfl
  | y :: ls => by rw [List.map_cons, List.flatten_cons, List.flatten_cons, List.map_append, flat_map ls]
end
/-! ### the plain law: runs -/
section
variable {ln : List (Str × List Int)} {D E : PD}
structure Sv (ln : List (Str × List Int)) (S Z : SD) : Prop where
  mv : Mv ln S.D Z.D
  ok : S.Ok
  tp : ∀ x, Z.tape x = (S.tape x).map (lnF ln x)
  pos : Z.pos = S.pos
  st : Z.steps = S.steps.map (mvP ln S.D)
  stp : ∀ q ∈ S.steps, q.1 ∈ S.D.names ∧ okVals S.D.vars (S.D.sc q.1) q.2
variable {S Z : SD}
theorem Sv.at_ (h : Sv ln S Z) : Z.at = S.at := by funext x; unfold SD.at; rw [h.pos]
theorem Sv.cur (h : Sv ln S Z) {x : Str} (hx : x ∈ S.D.vars.map (·.1)) : Z.cur x = lnF ln x (S.cur x) := by
  obtain ⟨q, hq, rfl⟩ := List.mem_map.mp hx
  obtain ⟨p0, p1⟩ := h.ok.pv q hq
  have hlt : (S.at q.1).toNat < (S.tape q.1).length := by omega
  unfold SD.cur
  rw [h.tp, h.at_, List.getElem?_map, List.getElem?_eq_getElem hlt]
  rfl
theorem Sv.asg (h : Sv ln S Z) : Z.asg = movA ln S.D.vars S.asg := by
  unfold SD.asg movA movT
  rw [h.mv.vars, List.zip_map, List.map_map]
  have : S.D.vars.zip S.D.vars = S.D.vars.map fun q => (q, q) := by
    have := zip_self_map (fun q : Str × Int => q) S.D.vars
    rwa [List.map_id'] at this
  rw [this, List.map_map]
  exact List.map_congr_left fun q hq => h.cur (List.mem_map_of_mem hq)
theorem Sv.asgOk (h : Sv ln S Z) : okAsg S.D.vars S.asg := by
  refine ⟨by unfold SD.asg; rw [List.length_map], fun q hq => ?_⟩
  unfold SD.asg at hq
  rw [zip_self_map] at hq
  obtain ⟨v, hv, rfl⟩ := List.mem_map.mp hq
  obtain ⟨p0, p1⟩ := h.ok.pv v hv
  have hlt : (S.at v.1).toNat < (S.tape v.1).length := by omega
  have := (h.ok.tv v hv).2 (S.cur v.1) (by unfold SD.cur; rw [List.getElem?_eq_getElem hlt]; exact List.getElem_mem hlt)
  exact this
theorem Sv.curOk (h : Sv ln S Z) {v : Str × Int} (hv : v ∈ S.D.vars) : 0 ≤ S.cur v.1 ∧ S.cur v.1 < v.2 := by
  obtain ⟨p0, p1⟩ := h.ok.pv v hv
  have hlt : (S.at v.1).toNat < (S.tape v.1).length := by omega
  exact (h.ok.tv v hv).2 (S.cur v.1) (by unfold SD.cur; rw [List.getElem?_eq_getElem hlt]; exact List.getElem_mem hlt)
theorem Sv.occ (h : Sv ln S Z) {e : Str} (he : e ∈ S.D.names) : Z.D.occ Z.asg e = S.D.occ S.asg e := by rw [h.asg]; exact h.mv.occ h.asgOk he
theorem Sv.fe (h : Sv ln S Z) (e : Str) : Z.fe e = S.fe e := by
  unfold SD.fe
  rw [h.mv.sc, h.at_]
  congr 1
  funext x
  rw [h.tp, List.length_map]
theorem Sv.filt (h : Sv ln S Z) : Z.D.names.filter (Z.D.occ Z.asg) = S.D.names.filter (S.D.occ S.asg) := by
  rw [h.mv.names]
  exact List.filter_congr fun e he => h.occ he
theorem Sv.ready (h : Sv ln S Z) : Z.ready = S.ready := by
  unfold SD.ready
  rw [h.filt]
  exact List.filter_congr fun e _ => by rw [h.fe]
theorem Sv.step (h : Sv ln S Z) {e : Str} (he : e ∈ S.D.names) (hf : S.fe e = none) (hl : S.steps.length < 240) : Sv ln (S.step e) (Z.step e) where
  mv := h.mv
  ok := step_ok h.mv.dok h.ok he hf hl
  tp := h.tp
  pos := by
    show bump Z.pos (Z.D.sc e) = bump S.pos (S.D.sc e)
    rw [h.pos, h.mv.sc]
  st := by
    show Z.steps ++ [(e, (Z.D.sc e).map Z.cur)] = (S.steps ++ [(e, (S.D.sc e).map S.cur)]).map (mvP ln S.D)
    rw [List.map_append, h.st]
    congr 1
    show [(e, (Z.D.sc e).map Z.cur)] = [(e, movT ln (S.D.sc e) ((S.D.sc e).map S.cur))]
    unfold movT
    rw [h.mv.sc, zip_self_map, List.map_map]
    congr 2
    exact List.map_congr_left fun x hx => h.cur ((scope_of h.mv.dok (sc_of he)).2.2 x hx)
  stp := fun q hq => by
    have hq : q ∈ S.steps ++ [(e, (S.D.sc e).map S.cur)] := hq
    rcases List.mem_append.mp hq with hq | hq
    · exact h.stp q hq
    · rw [List.mem_singleton.mp hq]
      refine ⟨he, by show ((S.D.sc e).map S.cur).length = (S.D.sc e).length; rw [List.length_map], fun p hp => ?_⟩
      have hp : p ∈ (S.D.sc e).zip ((S.D.sc e).map S.cur) := hp
      rw [zip_self_map] at hp
      obtain ⟨x, hx, rfl⟩ := List.mem_map.mp hp
      obtain ⟨v, hv, rfl⟩ := List.mem_map.mp ((scope_of h.mv.dok (sc_of he)).2.2 x hx)
      exact ⟨v.2, lookup_nd h.mv.dok.v.2.2 hv, h.curOk hv⟩
theorem Sv.run {b : Bool} : ∀ {n : Nat} {S Z : SD}, Sv ln S Z → S.steps.length + n ≤ 240 → Sv ln (runS b n S) (runS b n Z) ∧ (runS b n S).D = S.D
  | 0, S, Z, h, _ => ⟨h, rfl⟩
  | n + 1, S, Z, h, hn => by
    show Sv ln (if S.ready = [] then S else runS b n (S.step (chF b S.ready))) (if Z.ready = [] then Z else runS b n (Z.step (chF b Z.ready))) ∧ (if S.ready = [] then S else runS b n (S.step (chF b S.ready))).D = S.D
    rw [h.ready]
    by_cases hr : S.ready = []
    · rw [if_pos hr, if_pos hr]
      exact ⟨h, rfl⟩
    · rw [if_neg hr, if_neg hr]
      obtain ⟨h1, h2⟩ := ready_names (chF_mem (b := b) hr)
      obtain ⟨k1, k2⟩ := Sv.run (b := b) (n := n) (h.step h1 h2 (by omega)) (by show (S.steps ++ [_]).length + n ≤ 240; rw [List.length_append]; simp; omega)
      exact ⟨k1, k2⟩
end
end Rs
/-! text RP3 -/
set_option Elab.async false
set_option linter.all false
set_option maxRecDepth 100000
set_option maxHeartbeats 4000000
namespace Rs
open PySem PySem.Spec PyProof.Rows L2
/-! ### the plain law: the first overlap -/
section
variable {ln : List (Str × List Int)} {D E : PD}
theorem zip_mov : ∀ {sc : List Str} {t : List Int}, t.length = sc.length → sc.zip (movT ln sc t) = (sc.zip t).map fun q => (q.1, lnF ln q.1 q.2)
  | [], _, _ => by rfl
  | x :: sc, [], h => by simp at h
  | x :: sc, v :: t, h => by
    rw [movT_cons, List.zip_cons_cons, List.zip_cons_cons, List.map_cons, zip_mov (by simpa using h)]
theorem look_zmap {x : Str} {f : Str → Int → Int} : ∀ {l : List (Str × Int)}, (l.map fun q => (q.1, f q.1 q.2)).lookup x = (l.lookup x).map (f x)
  | [] => rfl
  | q :: l => by
    rw [List.map_cons, List.lookup_cons, List.lookup_cons]
    by_cases e : x = q.1
    · rw [e]
      simp
    · rw [beq_false_of_ne e]
      exact look_zmap
theorem okv_at {vars : List (Str × Int)} {sc : List Str} {t : List Int} (h : okVals vars sc t) {x : Str} {v : Int} (hv : (sc.zip t).lookup x = some v) : ∃ n, vars.lookup x = some n ∧ 0 ≤ v ∧ v < n := h.2 (x, v) (mem_lookup' hv)
theorem agree_mov (h : Mv ln D E) {sc1 sc2 : List Str} {t1 t2 : List Int} (h1 : okVals D.vars sc1 t1) (h2 : okVals D.vars sc2 t2) : agree sc1 (movT ln sc1 t1) sc2 (movT ln sc2 t2) = agree sc1 t1 sc2 t2 := by
  unfold agree
  rw [zip_mov h1.1, zip_mov h2.1, List.map_map]
  congr 1
  refine List.map_congr_left fun q hq => ?_
  obtain ⟨n, hn, v0, v1⟩ := h2.2 q hq
  show decide ((((sc1.zip t1).map fun q => (q.1, lnF ln q.1 q.2)).lookup q.1).getD (lnF ln q.1 q.2) = lnF ln q.1 q.2) = decide (((sc1.zip t1).lookup q.1).getD q.2 = q.2)
  rw [look_zmap (f := lnF ln)]
  cases hl : (sc1.zip t1).lookup q.1 with
  | none =>
    show decide (lnF ln q.1 q.2 = lnF ln q.1 q.2) = decide (q.2 = q.2)
    rw [decide_eq_true rfl, decide_eq_true rfl]
  | some w =>
    obtain ⟨m, hm, w0, w1⟩ := okv_at h1 hl
    rw [hn] at hm
    cases hm
    show decide (lnF ln q.1 w = lnF ln q.1 q.2) = decide (w = q.2)
    exact decide_eq_decide.mpr ⟨fun e => lnF_inj h hn w0 w1 v0 v1 e, fun e => by rw [e]⟩
theorem ts_vals (ok : D.Ok) {e : Str} (he : e ∈ D.names) : ∀ t ∈ D.ts e, okVals D.vars (D.sc e) t := (tups_of ok (sc_of he) (ts_of he)).2.2
theorem some_iff {α β : Type} {f : α → Option β} : ∀ {l : List α}, (l.findSome? f).isSome = true ↔ ∃ x ∈ l, (f x).isSome = true
  | [] => ⟨fun h => (by cases h), fun ⟨_, h, _⟩ => (by cases h)⟩
  | x :: l => by
    rw [List.findSome?_cons]
    cases h : f x with
    | none =>
      refine some_iff.trans ⟨fun ⟨y, hy, hs⟩ => ⟨y, List.mem_cons_of_mem _ hy, hs⟩, fun ⟨y, hy, hs⟩ => ?_⟩
      rcases List.mem_cons.mp hy with rfl | hy
      · rw [h] at hs; cases hs
      · exact ⟨y, hy, hs⟩
    | some b => exact ⟨fun _ => ⟨x, List.mem_cons_self .., by rw [h]; rfl⟩, fun _ => rfl⟩
theorem co_some {a b : Str} : (D.co a b).isSome = true ↔ ∃ t1 ∈ D.ts a, ∃ t2 ∈ D.ts b, agree (D.sc a) t1 (D.sc b) t2 = true := by
  unfold PD.co
  rw [some_iff]
  refine exists_congr fun t1 => and_congr_right fun _ => ?_
  rw [some_iff]
  refine exists_congr fun t2 => and_congr_right fun _ => ?_
  by_cases h : agree (D.sc a) t1 (D.sc b) t2 = true
  · rw [if_pos h]; exact ⟨fun _ => h, fun _ => rfl⟩
  · rw [if_neg h]; exact ⟨fun z => (by cases z), fun z => absurd z h⟩
theorem co_mov (h : Mv ln D E) {a b : Str} (ha : a ∈ D.names) (hb : b ∈ D.names) : (E.co a b).isSome = (D.co a b).isSome := by
  rw [Bool.eq_iff_iff, co_some, co_some, h.sc]
  constructor
  · rintro ⟨u1, hu1, u2, hu2, hg⟩
    obtain ⟨t1, ht1, rfl⟩ := List.mem_map.mp ((h.ts a).mem_iff.mp hu1)
    obtain ⟨t2, ht2, rfl⟩ := List.mem_map.mp ((h.ts b).mem_iff.mp hu2)
    rw [agree_mov h (ts_vals h.dok ha t1 ht1) (ts_vals h.dok hb t2 ht2)] at hg
    exact ⟨t1, ht1, t2, ht2, hg⟩
  · rintro ⟨t1, ht1, t2, ht2, hg⟩
    refine ⟨_, (h.ts a).mem_iff.mpr (List.mem_map_of_mem ht1), _, (h.ts b).mem_iff.mpr (List.mem_map_of_mem ht2), ?_⟩
    rw [agree_mov h (ts_vals h.dok ha t1 ht1) (ts_vals h.dok hb t2 ht2)]
    exact hg
def pairO (q : Str × Str × List Int) : Str × Str := (q.1, q.2.1)
theorem find_pair {α β γ : Type} {f g : α → Option β} {p : β → γ} : ∀ {l : List α}, (∀ x ∈ l, (f x).map p = (g x).map p) → (l.findSome? f).map p = (l.findSome? g).map p
  | [], _ => rfl
  | x :: l, h => by
    have h1 := h x (List.mem_cons_self ..)
    have ih := find_pair (l := l) fun y hy => h y (List.mem_cons_of_mem _ hy)
    rw [List.findSome?_cons, List.findSome?_cons]
    cases hf : f x with
    | none =>
      cases hg : g x with
      | none => exact ih
      | some b => rw [hf, hg] at h1; cases h1
    | some a =>
      cases hg : g x with
      | none => rw [hf, hg] at h1; cases h1
      | some b => rw [hf, hg] at h1; exact h1
theorem ov_mov (h : Mv ln D E) : (E.ov).map pairO = (D.ov).map pairO := by
  unfold PD.ov
  rw [h.names]
  refine find_pair fun i _ => ?_
  unfold PD.row
  rw [h.names]
  cases hi : D.names[i]? with
  | none => rfl
  | some a =>
    have ha := List.mem_of_getElem? hi
    refine find_pair fun b hb => ?_
    have hb := List.mem_of_mem_drop hb
    rw [h.adj]
    by_cases hd : D.adj a b = true
    · rw [if_pos hd, if_pos hd, Option.map_map, Option.map_map]
      have := co_mov h ha hb
      cases h1 : D.co a b with
      | none =>
        rw [h1] at this
        cases h2 : E.co a b with
        | none => rfl
        | some _ => rw [h2] at this; cases this
      | some _ =>
        rw [h1] at this
        cases h2 : E.co a b with
        | none => rw [h2] at this; cases this
        | some _ => rfl
    · rw [if_neg hd, if_neg hd]
theorem lookA_map {vars : List (Str × Int)} {f : Str → Int} {x : Str} (hx : x ∈ vars.map (·.1)) : lookA vars (vars.map fun q => f q.1) x = f x := by
  have key : ∀ {l : List (Str × Int)}, x ∈ l.map (·.1) → ((l.map (·.1)).zip (l.map fun q => f q.1)).lookup x = some (f x) := by
    intro l
    induction l with
    | nil => intro h; cases h
    | cons q l ih =>
      intro h
      rw [List.map_cons, List.map_cons, List.zip_cons_cons, List.lookup_cons]
      by_cases e : x = q.1
      · rw [e]; simp
      · rw [beq_false_of_ne e]
        rcases List.mem_cons.mp h with z | z
        · exact absurd z e
        · exact ih z
  unfold lookA
  rw [key hx]
  rfl
theorem zip_look_self : ∀ {sc : List Str} {t : List Int}, sc.Nodup → t.length = sc.length → (sc.map fun x => ((sc.zip t).lookup x).getD 0) = t
  | [], [], _, _ => rfl
  | [], _ :: _, _, h => by simp at h
  | _ :: _, [], _, h => by simp at h
  | x :: sc, v :: t, nd, h => by
    have nd' := List.nodup_cons.mp nd
    rw [List.map_cons, List.zip_cons_cons, List.lookup_cons_self, Option.getD_some]
    congr 1
    refine Eq.trans (List.map_congr_left fun y hy => ?_) (zip_look_self nd'.2 (by simpa using h))
    rw [List.lookup_cons, beq_false_of_ne (show y ≠ x from fun e => nd'.1 (e ▸ hy))]
theorem zip_has : ∀ {sc : List Str} {t : List Int} {x : Str}, t.length = sc.length → x ∈ sc → ∃ v, (sc.zip t).lookup x = some v := fun {sc t x} h hx => lookup_mem (by rw [zip_fst' h.symm]; exact hx)
theorem co_props (ok : D.Ok) {a b : Str} {as : List Int} (ha : a ∈ D.names) (hb : b ∈ D.names) (h : D.co a b = some as) : okAsg D.vars as ∧ D.occ as a = true ∧ D.occ as b = true := by
  unfold PD.co at h
  obtain ⟨t1, ht1, h⟩ := List.exists_of_findSome?_eq_some h
  obtain ⟨t2, ht2, h⟩ := List.exists_of_findSome?_eq_some h
  by_cases hg : agree (D.sc a) t1 (D.sc b) t2 = true
  · rw [if_pos hg] at h
    cases h
    have v1 := ts_vals ok ha t1 ht1
    have v2 := ts_vals ok hb t2 ht2
    have s1 := scope_of ok (sc_of ha)
    have s2 := scope_of ok (sc_of hb)
    have e0 : joinA D.vars (D.sc a) t1 (D.sc b) t2 = D.vars.map fun q => ((((D.sc a).zip t1).lookup q.1).getD ((((D.sc b).zip t2).lookup q.1).getD 0)) := rfl
    have hlook : ∀ x ∈ D.vars.map (·.1), lookA D.vars (joinA D.vars (D.sc a) t1 (D.sc b) t2) x = (((D.sc a).zip t1).lookup x).getD ((((D.sc b).zip t2).lookup x).getD 0) := fun x hx => by
      rw [e0]
      exact lookA_map (f := fun x => (((D.sc a).zip t1).lookup x).getD ((((D.sc b).zip t2).lookup x).getD 0)) hx
    refine ⟨⟨by rw [e0, List.length_map], fun q hq => ?_⟩, ?_, ?_⟩
    · rw [e0, zip_self_map] at hq
      obtain ⟨v, hv, rfl⟩ := List.mem_map.mp hq
      have hn := lookup_nd ok.v.2.2 hv
      have okv := ok.v.2.1 v hv
      show 0 ≤ (((D.sc a).zip t1).lookup v.1).getD ((((D.sc b).zip t2).lookup v.1).getD 0) ∧ (((D.sc a).zip t1).lookup v.1).getD ((((D.sc b).zip t2).lookup v.1).getD 0) < v.2
      cases h1 : ((D.sc a).zip t1).lookup v.1 with
      | some w =>
        obtain ⟨n, hn', w0, w1⟩ := okv_at v1 h1
        rw [hn] at hn'
        cases hn'
        exact ⟨w0, w1⟩
      | none =>
        cases h2 : ((D.sc b).zip t2).lookup v.1 with
        | some w =>
          obtain ⟨n, hn', w0, w1⟩ := okv_at v2 h2
          rw [hn] at hn'
          cases hn'
          exact ⟨w0, w1⟩
        | none => exact ⟨Int.le_refl _, by show (0 : Int) < v.2; omega⟩
    · unfold PD.occ
      refine decide_eq_true ?_
      have : projA D.vars (joinA D.vars (D.sc a) t1 (D.sc b) t2) (D.sc a) = t1 := by
        unfold projA
        refine Eq.trans (List.map_congr_left fun x hx => ?_) (zip_look_self s1.2.1 v1.1)
        rw [hlook x (s1.2.2 x hx)]
        obtain ⟨w, hw⟩ := zip_has v1.1 hx
        rw [hw]
        rfl
      rw [this]
      exact ht1
    · unfold PD.occ
      refine decide_eq_true ?_
      have : projA D.vars (joinA D.vars (D.sc a) t1 (D.sc b) t2) (D.sc b) = t2 := by
        unfold projA
        refine Eq.trans (List.map_congr_left fun x hx => ?_) (zip_look_self s2.2.1 v2.1)
        rw [hlook x (s2.2.2 x hx)]
        obtain ⟨w, hw⟩ := zip_has v2.1 hx
        rw [hw]
        unfold agree at hg
        have := List.all_eq_true.mp hg _ (List.mem_map_of_mem (mem_lookup' hw))
        have := of_decide_eq_true (show decide ((((D.sc a).zip t1).lookup x).getD w = w) = true from this)
        exact this
      rw [this]
      exact ht2
  · rw [if_neg hg] at h
    cases h
theorem ov_props (ok : D.Ok) {a b : Str} {as : List Int} (h : D.ov = some (a, b, as)) : a ∈ D.names ∧ b ∈ D.names ∧ a ≠ b ∧ D.adj a b = true ∧ okAsg D.vars as ∧ D.occ as a = true ∧ D.occ as b = true := by
  unfold PD.ov at h
  obtain ⟨i, _, h⟩ := List.exists_of_findSome?_eq_some h
  unfold PD.row at h
  cases hi : D.names[i]? with
  | none => rw [hi] at h; cases h
  | some a' =>
    rw [hi] at h
    obtain ⟨b', hb', h⟩ := List.exists_of_findSome?_eq_some h
    by_cases hd : D.adj a' b' = true
    · rw [if_pos hd] at h
      obtain ⟨as', h1, h2⟩ := Option.map_eq_some_iff.mp h
      cases h2
      have ha := List.mem_of_getElem? hi
      have hb := List.mem_of_mem_drop hb'
      refine ⟨ha, hb, fun e => ?_, hd, co_props ok ha hb h1⟩
      subst e
      obtain ⟨j, hj, ej⟩ := List.mem_iff_getElem.mp hb'
      rw [List.getElem_drop] at ej
      obtain ⟨h3, h4⟩ := List.getElem?_eq_some_iff.mp hi
      rw [List.length_drop] at hj
      have := (List.getElem_inj (show D.names.Nodup from ok.nd)).mp (ej.trans h4.symm)
      omega
    · rw [if_neg hd] at h
      cases h
/-- the exchanged assignment shows the overlap of the exchanged problem -/
theorem ov_shows (h : Mv ln D E) {a b : Str} {as : List Int} (ho : D.ov = some (a, b, as)) : a ∈ E.names ∧ b ∈ E.names ∧ a ≠ b ∧ E.adj a b = true ∧ okAsg E.vars (movA ln D.vars as) ∧ E.occ (movA ln D.vars as) a = true ∧ E.occ (movA ln D.vars as) b = true := by
  obtain ⟨h1, h2, h3, h4, h5, h6, h7⟩ := ov_props h.dok ho
  exact ⟨by rw [h.names]; exact h1, by rw [h.names]; exact h2, h3, by rw [h.adj]; exact h4, by rw [h.vars]; exact h.asg h5, by rw [h.occ h5 h1]; exact h6, by rw [h.occ h5 h2]; exact h7⟩
end
end Rs
/-! text RL7 -/
set_option Elab.async false
set_option linter.all false
set_option maxRecDepth 100000
set_option maxHeartbeats 4000000
namespace Rs
open PySem PySem.Spec PyProof.Rows L2
theorem sl2 {K : PySem.W.Frag} {H : Hp} {c : Addr} {x y z : V} {Q : VK} (h : SqT K H c [x, y, z]) (q : ∀ p, H p = none → Q (.ref p) (upd H p (.tup [x, y]))) : rSlA K (.ref c) none (some 2) H Q :=
  ⟨c, _, rfl, h, fun e => absurd e.2 (by show ¬ HT.sIx 3 3 (some 2) = 3; decide), fun _ p np => by
    rw [show cutV [x, y, z] none (some 2) = [x, y] from cut_to (xs := [x, y, z]) (i := 2) (by show 2 ≤ 3; omega)]
    exact q p np⟩
def sp__law_overlap_right (K : PySem.W.Frag) : Sp := fun vs H Q _ => match vs with
  | [u, v, z, y] => ∃ F D E ln, Same F H ∧ rP K F u D ∧ rP K F v E ∧ Mv ln D E ∧ rL K rS F z (D.vars.map (·.1)) ∧ rD (rL K rI) F y ln ∧ ∀ F' H', Pu F H F' H' → Q (.bl true) H'
  | _ => False
theorem sc__law_overlap_right : FnScope ["_law_problem", "_law_other", "_law_names_here", "_law_lines", "_law_moved_here", "_law_one", "_law_two"] ["_law_problem", "_law_other", "_law_names_here", "_law_lines"] (defScope s__law_overlap_right) := C8.fnScope_by (by decide +kernel)
theorem c__law_overlap_right {P : Program} {w : World} {K : PySem.W.Frag} {mg : Str → Option Value} {base hp : Heap} (T : Tx K mg hp) : C8.Cal P w K mg base 6 "_law_overlap_right" (sp__law_overlap_right K) [] := by
  obtain ⟨fd, F⟩ := T.fd__law_overlap_right
  refine mkCal T.gl__law_overlap_right F sc__law_overlap_right (fun _ _ _ _ _ _ us hl => match us, hl with | [_, _, _, _], _ => rfl) (fun vs H Q E h => by unfold sp__law_overlap_right at h; split at h <;> first | rfl | exact h.elim) (fun cdv A outer s H vs Q E hr h => ?_)
  have nd := sc__law_overlap_right.nd
  have hu := hu_of hr
  unfold sp__law_overlap_right at h
  split at h
  case h_2 => exact h.elim
  obtain ⟨F, D, E, ln, e, hD, hE, mv, hns, hln, k⟩ := h
  refine ⟨_, (pss_cons (ps_par (i := 5) (j := 6) rfl nd rfl rfl (by decide) rfl rfl (pa_cons (C8.pe_c (c_find_overlap T) hr (by decide) (by rfl) (pa_cons (pv 0) pa_nil)) (pa_cons (C8.pe_c (c_find_overlap T) hr (by decide) (by rfl) (pa_cons (pv 1) pa_nil)) pa_nil)) (by rfl))
      (pss_cons (ps_if (PW.pt (pw_or (pt_cmpR op_ne (C8.pe_c (c_is_exclusive T) hr (by decide) (by rfl) (pa_cons (pv 0) pa_nil)) (pe_cmpR op_isN (pv 5) pe_non (nomark _)) (nomark _)) (pw_or (pt_cmpR op_ne (C8.pe_c (c_is_exclusive T) hr (by decide) (by rfl) (pa_cons (pv 1) pa_nil)) (pe_cmpR op_isN (pv 5) pe_non (nomark _)) (nomark _)) (pw_or1 (pt_cmpR op_ne (pe_cmpR op_isN (pv 5) pe_non (nomark _)) (pe_cmpR op_isN (pv 6) pe_non (nomark _)) (nomark _)))))) (pss_one (ps_ret pe_bl)) pss_nil)
      (pss_cons (ps_if (pt_cmpR op_isN (pv 5) pe_non (nomark _)) (pss_one (ps_ret pe_bl)) pss_nil)
      (pss_cons (ps_set (i := 4) nd rfl (Or.inl rfl) (C8.pe_c (c__law_moved T) hr (by decide) (by rfl) (pa_cons (pv 3) (pa_cons (pv 2) (pa_cons (pe_ix ix_tup (pv 5) pe_int (fun _ _ => rfl)) pa_nil)))))
      (pss_one (ps_ret (pe_and (pe_cmpR (op_eqD hr.units) (pe_slice sl_tupA (pv 6) po_none (po_some pe_int)) (pe_slice sl_tupA (pv 5) po_none (po_some pe_int)) (nomark _)) (pe_one (pe_cmpR op_is_bl (C8.pe_c (c_shows_overlap T) hr (by decide) (by rfl) (pa_cons (pv 1) (pa_cons (pe_op op_catA (pe_slice sl_tupA (pv 5) po_none (po_some pe_int)) (pe_tup (pa_cons (pv 4) pa_nil))) pa_nil))) pe_bl (nomark _)))))))))), ?_⟩
  have ovm := ov_mov mv
  refine ⟨_, rfl, F, D, e, hD.w1, fun v1 F1 H1 g1 hv1 => ⟨_, rfl, F1, E, g1.fh, Up.up g1.f hE.w1, fun v2 F2 H2 g2 hv2 => ?_⟩⟩
  have g12 := g1.trans g2
  cases hov : D.ov with
  | none =>
    rw [hov] at hv1 ovm
    have hev : E.ov = none := by cases h : E.ov with
      | none => rfl
      | some _ => rw [h] at ovm; cases ovm
    rw [hev] at hv2
    cases hv1
    cases hv2
    refine ⟨_, _, rfl, _, rfl, F2, D, g12.fh, (Up.up g12.f hD).w1, fun F3 H3 g3 => ⟨_, rfl, rfl, rfl, _, rfl, ?_⟩⟩
    have g13 := g12.trans g3
    rw [hov]
    refine iteC (by simp) ⟨_, rfl, F3, E, g13.fh, (Up.up g13.f hE).w1, fun F4 H4 g4 => ⟨_, rfl, rfl, rfl, _, rfl, ?_⟩⟩
    rw [hev]
    refine iteC (by simp) ⟨_, rfl, rfl, _, rfl, rfl, rfl, _, rfl, ?_⟩
    refine iteC (by simp) ?_
    refine ⟨_, rfl, rfl, _, rfl, ?_⟩
    exact iteB (by simp) (k _ _ (g13.trans g4))
  | some q =>
    obtain ⟨a, b, as⟩ := q
    rw [hov] at hv1 ovm
    obtain ⟨q2, hev, hpair⟩ : ∃ q2, E.ov = some q2 ∧ pairO q2 = (a, b) := by
      cases h : E.ov with
      | none => rw [h] at ovm; cases ovm
      | some q2 => rw [h] at ovm; exact ⟨q2, rfl, Option.some.inj ovm⟩
    obtain ⟨a2, b2, as2⟩ := q2
    have ea : a2 = a := congrArg Prod.fst hpair
    have eb : b2 = b := congrArg Prod.snd hpair
    subst ea
    subst eb
    rw [hev] at hv2
    obtain ⟨c1, x1, y1, z1, rfl, hc1, hx1, hy1, hz1⟩ := hv1
    obtain ⟨c2, x2, y2, z2, rfl, hc2, hx2, hy2, hz2⟩ := hv2
    cases hx1
    cases hy1
    cases hx2
    cases hy2
    refine ⟨_, _, rfl, _, rfl, F2, D, g12.fh, (Up.up g12.f hD).w1, fun F3 H3 g3 => ⟨_, rfl, rfl, rfl, _, rfl, ?_⟩⟩
    have g13 := g12.trans g3
    rw [hov]
    refine iteC (by simp) ⟨_, rfl, F3, E, g13.fh, (Up.up g13.f hE).w1, fun F4 H4 g4 => ⟨_, rfl, rfl, rfl, _, rfl, ?_⟩⟩
    have g14 := g13.trans g4
    rw [hev]
    refine iteC (by simp) ⟨_, rfl, rfl, _, rfl, rfl, rfl, _, rfl, ?_⟩
    refine iteC (by simp) ?_
    refine ⟨_, rfl, rfl, _, rfl, ?_⟩
    refine iteC (by simp) ?_
    have g24 : Pu F2 H2 F4 H4 := g3.trans g4
    have g14' : Pu F1 H1 F4 H4 := g2.trans g24
    have hc1' := sqt_s g14'.f hc1
    have hc2' := sqt_s g24.f hc2
    obtain ⟨p1, p2, p3, p4, p5, p6, p7⟩ := ov_props mv.dok hov
    have sh := ov_shows mv hov
    refine ⟨_, rfl, _, rfl, _, rfl, c1, _, _, z1, rfl, rfl, sqt_s g14.fh hc1', (by exact atI_nat (xs := [V.str a2, V.str b2, z1]) (j := 2) rfl), F4, ln, D.vars, D.vars.map (fun q : Str × Int => q.1), as, g14.fh, Up.up g14.f hln, mv.lok, mv.dok.v, Up.up g14.f hns, Up.up g14'.f hz1, asg_vals mv.dok.v.2.2 p5, by rw [List.length_map]; have := mv.dok.v.1.2; omega, fun v F5 H5 g5 hv => ?_⟩
    have g15 := g14.trans g5
    have hc15 := sqt_s g5.f hc1'
    have hc25 := sqt_s g5.f hc2'
    refine ⟨_, rfl, _, rfl, sl2 (sqt_s g15.fh hc25) fun t1 nt1 => ?_⟩
    have g6 : Pu F5 H5 (upd F5 t1 (.tup [.str a2, .str b2])) (upd H5 t1 (.tup [.str a2, .str b2])) := Gr.new g15.fh nt1
    have g16 := g15.trans g6
    refine ⟨_, rfl, _, rfl, sl2 (sqt_s g16.fh (sqt_s g6.f hc15)) fun t2 nt2 => ?_⟩
    have g7 : Pu (upd F5 t1 (.tup [.str a2, .str b2])) (upd H5 t1 (.tup [.str a2, .str b2])) (upd (upd F5 t1 (.tup [.str a2, .str b2])) t2 (.tup [.str a2, .str b2])) (upd (upd H5 t1 (.tup [.str a2, .str b2])) t2 (.tup [.str a2, .str b2])) := Gr.new g16.fh nt2
    have g17 := g16.trans g7
    have r1 : r2 K rS rS (upd (upd F5 t1 (.tup [.str a2, .str b2])) t2 (.tup [.str a2, .str b2])) (.ref t1) (a2, b2) := ⟨t1, _, _, rfl, SqT.of (g7.f _ _ upd_same), rfl, rfl⟩
    have r2' : r2 K rS rS (upd (upd F5 t1 (.tup [.str a2, .str b2])) t2 (.tup [.str a2, .str b2])) (.ref t2) (a2, b2) := ⟨t2, _, _, rfl, SqT.of upd_same, rfl, rfl⟩
    have hv7 := Up.up (g6.f.trans g7.f) hv
    have hc17 := sqt_s (g6.f.trans g7.f) hc15
    have hE7 := Up.up g17.f hE
    generalize upd (upd F5 t1 (.tup [.str a2, .str b2])) t2 (.tup [.str a2, .str b2]) = F7 at g7 g17 r1 r2' hv7 hc17 hE7
    generalize upd (upd H5 t1 (.tup [.str a2, .str b2])) t2 (.tup [.str a2, .str b2]) = H7 at g7 g17
    have la := name_lay (names_name mv.dok p1)
    have lb := name_lay (names_name mv.dok p2)
    refine eqD (enc2 (encS (K := K)) (encS (K := K))) (by decide) g17.fh r1 r2' ⟨la, lb⟩ ⟨la, lb⟩ fun r hr => ⟨r, rfl, ?_⟩
    rw [hr.mpr rfl]
    refine iteT ⟨_, rfl, _, rfl, _, rfl, sl2 (sqt_s g17.fh hc17) fun t3 nt3 => ?_⟩
    have g8 : Pu F7 H7 (upd F7 t3 (.tup [.str a2, .str b2])) (upd H7 t3 (.tup [.str a2, .str b2])) := Gr.new g17.fh nt3
    refine ⟨_, rfl, le_line (by show 1 ≤ 1000000; omega), fun t4 nt4 => ?_⟩
    have g18 := g17.trans g8
    have g9 : Pu (upd F7 t3 (.tup [.str a2, .str b2])) (upd H7 t3 (.tup [.str a2, .str b2])) (upd (upd F7 t3 (.tup [.str a2, .str b2])) t4 (.tup [v])) (upd (upd H7 t3 (.tup [.str a2, .str b2])) t4 (.tup [v])) := Gr.new g18.fh nt4
    have g19 := g18.trans g9
    refine ⟨t3, t4, _, _, rfl, rfl, SqT.of (g9.fh _ _ (g9.f _ _ upd_same)), SqT.of upd_same, le_line (by show 2 + 1 ≤ 1000000; omega), (fun z => by cases z), (fun _ z => by cases z), fun _ _ t5 nt5 => ?_⟩
    have g10 : Pu _ _ (upd (upd (upd F7 t3 (.tup [.str a2, .str b2])) t4 (.tup [v])) t5 (.tup ([.str a2, .str b2] ++ [v]))) _ := Gr.new g19.fh nt5
    have gA := g19.trans g10
    obtain ⟨s1, s2, s3, s4, s5, s6, s7⟩ := sh
    refine ⟨_, E, a2, b2, _, gA.fh, (Up.up (g8.f.trans (g9.f.trans g10.f)) hE7).w1, ⟨t5, _, _, _, rfl, SqT.of upd_same, rfl, rfl, Up.up (g8.f.trans (g9.f.trans g10.f)) hv7⟩, s1, s2, s3, s4, s5, s6, s7, fun F11 H11 g11 => ⟨_, _, rfl, rfl, ?_⟩⟩
    rw [decide_eq_true rfl]
    exact k _ _ (gA.trans g11)
end Rs
/-! text RL8 -/
set_option Elab.async false
set_option linter.all false
set_option maxRecDepth 100000
set_option maxHeartbeats 4000000
namespace Rs
open PySem PySem.Spec PyProof.Rows L2 LamX
theorem Tb.upM {M : Addr → Prop} {PT : Addr} {F H F' H' : Hp} (t : Tb PT F H) (g : Gr M F H F' H') (hm : ∀ b, M b → b ≠ PT ∧ ∀ c q, H b ≠ Option.some (CodeO c q)) : Tb PT F' H' := by
  obtain ⟨ps, h1, h2, h3⟩ := t.t
  refine ⟨g.nw PT t.f (by rw [h1]; exact fun z => nomatch z), ps, g.h PT _ (fun z => (hm PT z).1 rfl) h1, h2, fun pos cv hc => ?_⟩
  obtain ⟨c, e1, e2⟩ := h3 pos cv hc
  exact ⟨c, e1, g.h c _ (fun z => (hm c z).2 _ _ e2) e2⟩
theorem Tb.bx {PT bx : Addr} {F H F' H' : Hp} {n : Nat} (t : Tb PT F H) (B : Bx F H bx n) (g : GrB bx F H F' H') : Tb PT F' H' := t.upM g fun b hb => by
  subst hb
  obtain ⟨a, b, c, m, _⟩ := B
  exact ⟨t.ne m (fun q z => by cases z), fun c q z => by
    rw [m.h] at z
    unfold CodeO at z
    cases z⟩
theorem mem_sum : ∀ {l : List Nat} {n : Nat}, n ∈ l → n ≤ l.sum
  | a :: l, n, h => by
    rw [List.sum_cons]
    rcases List.mem_cons.mp h with rfl | h
    · omega
    · have := mem_sum h
      omega
theorem Gr.ext {F H H' : Hp} (e : Same F H) (x : Ext H H') : Pu F H F H' where
  f := Same.refl _
  fh := fun b o h => x b o (e b o h)
  h := fun b o _ h => x b o h
  dom := fun b h => by
    cases hb : H b with
    | none => rfl
    | some o =>
      rw [x b o hb] at h
      cases h
  nw := fun _ h _ => h
theorem piece_ok {vars : List (Str × Int)} {evs : List (Str × List Str × List (List Int))} {D : PD} (ok : D.Ok) (s : Srt evs D.evs) : ∀ q ∈ piecesF evs, okPc D q := by
  intro q hq
  obtain ⟨e, he, hq⟩ := List.mem_flatMap.mp hq
  obtain ⟨t, ht, rfl⟩ := List.mem_map.mp hq
  obtain ⟨i, hi⟩ := List.getElem?_of_mem he
  have hil := (List.getElem?_eq_some_iff.mp hi).1
  have hl : evs.length = D.evs.length := Paired.length s
  obtain ⟨e0, he0, h1, h2, h3⟩ := pair_at s (List.getElem?_eq_getElem (show i < D.evs.length by omega))
  rw [hi] at he0
  cases he0
  have hm : D.evs[i] ∈ D.evs := List.getElem_mem _
  have hn : e.1 ∈ D.names := by rw [← h1]; exact List.mem_map_of_mem hm
  refine ⟨hn, ?_⟩
  have : D.ts e.1 = D.evs[i].2.2 := by
    unfold PD.ts PD.tups
    have hk : (D.evs[i].1, D.evs[i].2.2) ∈ D.evs.map fun e => (e.1, e.2.2) := List.mem_map.mpr ⟨_, hm, rfl⟩
    have nd : ((D.evs.map fun e => (e.1, e.2.2)).map (·.1)).Nodup := by rw [List.map_map]; exact ok.nd
    have := lookup_nd nd hk
    rw [← h1]
    show ((D.evs.map fun e => (e.1, e.2.2)).lookup D.evs[i].1).getD [] = _
    rw [this]
    rfl
  show t ∈ D.ts e.1
  rw [this]
  exact h3.mem_iff.mpr ht
theorem Enc.mono {K : PySem.W.Frag} {α : Type} [DecidableEq α] {R : Rep α} {P : α → Prop} {n m : Nat} {c : α → PyData} (E : Enc K R P n c) (h : n ≤ m) : Enc K R P m c := ⟨E.dp, E.eq, E.lay, fun a => Nat.le_trans (E.dep a) h⟩
theorem encP {K : PySem.W.Frag} : Enc K (rPc K) (fun p => PyData.canLay0 (.str p.1) = true ∧ True) 2 (fun p => .tuple [PyData.str p.1, .tuple (p.2.map PyData.int)]) := enc2 ((encS (K := K)).mono (Nat.zero_le 1)) (encT (K := K))
def sp__law_heaps_right (K : PySem.W.Frag) (PT : Addr) : Sp := fun vs H Q _ => match vs with
  | [u0, u1, u2, u3, u4] => ∃ F bx n D E evs ln, u0 = .ref bx ∧ Bx F H bx n ∧ n ≤ 50000 ∧ rP K F u1 D ∧ rP K F u2 E ∧ Mv ln D E ∧ rL K (rEv K) F u3 evs ∧ Srt evs D.evs ∧ rD (rL K rI) F u4 ln ∧ Tb PT F H ∧ Same F H ∧ ∀ F' H', Gr (fun b => b = bx ∨ b = PT) F H F' H' → Bx F' H' bx (n + 100) → Tb PT F' H' → Q (.bl true) H'
  | _ => False
theorem sc__law_heaps_right : FnScope ["_law_box_here", "_law_problem", "_law_other", "_law_events", "_law_lines", "_law_scopes", "_law_pieces_here", "_law_many", "_law_history", "_law_moved_here", "_law_one", "_law_two", "_law_at", "_law_layer", "_law_event", "_law_k", "_law_title", "_law_values"] ["_law_box_here", "_law_problem", "_law_other", "_law_events", "_law_lines"] (defScope s__law_heaps_right) := C8.fnScope_by (by decide +kernel)
theorem c__law_heaps_right {P : Program} {w : World} {K : PySem.W.Frag} {mg : Str → Option Value} {base hp : Heap} (T : Tx K mg hp) {PT : Addr} (TB : TabB base mg (He.codeOf K ("layers_of", none)) PT) : C8.Cal P w K mg base 9 "_law_heaps_right" (sp__law_heaps_right K PT) [] := by
  obtain ⟨fd, F⟩ := T.fd__law_heaps_right
  refine mkCal T.gl__law_heaps_right F sc__law_heaps_right (fun _ _ _ _ _ _ us hl => match us, hl with | [_, _, _, _, _], _ => rfl) (fun vs H Q E h => by unfold sp__law_heaps_right at h; split at h <;> first | rfl | exact h.elim) (fun cdv A outer s H vs Q E hr h => ?_)
  have nd := sc__law_heaps_right.nd
  have hu := hu_of hr
  unfold sp__law_heaps_right at h
  split at h
  case h_2 => exact h.elim
  obtain ⟨F, bx, n, D, E, evs, ln, rfl, hB, hn, hD, hE, mv, hev, srt, hln, tab, e, k⟩ := h
  refine ⟨_, (pss_cons (ps_set (i := 5) nd rfl (Or.inr rfl) (pe_callTy (call_dictP rfl) (by rfl) T.fr_dict (by decide +kernel) (pa_cons (pe_lc (own := [("_law_event", 14)]) (g := (gName 14)) rfl nd (pi_list (pv 3)) (blkOk_by (own := [("_law_event", 14)]) (N := ["_law_box_here", "_law_problem", "_law_other", "_law_events", "_law_lines", "_law_scopes", "_law_pieces_here", "_law_many", "_law_history", "_law_moved_here", "_law_one", "_law_two", "_law_at", "_law_layer", "_law_event", "_law_k", "_law_title", "_law_values"]) (sc := defScope s__law_heaps_right) (by decide +kernel)) (fun _ _ _ _ _ => (pg_name (i := 14) nd rfl (Or.inl rfl))) (fun _ _ _ _ _ => pts_nil) (fun _ _ _ _ _ => (pe_tup (pa_cons (pe_ix (ix_tupK (K := K) rfl) (pv 14) pe_int (fun _ _ => rfl)) (pa_cons (pe_ix (ix_tupK (K := K) rfl) (pv 14) pe_int (fun _ _ => rfl)) pa_nil))))) pa_nil)))
      (pss_cons (ps_set (i := 6) nd rfl (Or.inr rfl) (C8.pe_c (c__law_pieces T) hr (by decide) (by rfl) (pa_cons (pv 3) pa_nil)))
      (pss_cons (ps_for PassesOwn.never rfl (pi_list (pe_lst (pa_cons pe_int (pa_cons pe_int (pa_cons (C8.pe_c (c__law_take T) hr (by decide) (by rfl) (pa_cons (pv 0) (pa_cons pe_int pa_nil))) pa_nil))))) (pg_name (i := 7) nd rfl (Or.inl rfl)) (pss_cons (ps_setLc (i := 8) (own := [("_law_k", 15)]) (g := (gName 15)) rfl nd rfl rfl (sw_true rfl rfl rfl (by decide +kernel)) (pi_range1 (by rfl) T.fr_range (pa_cons (pe_op op_mulW (pv 7) (pe_callTy call_int1 (by rfl) T.fr_int (by decide +kernel) (pa_cons (pe_cmpR (op_neD hr.units) (pv 6) (pe_lst pa_nil) (nomark _)) pa_nil))) pa_nil)) (blkOk_by (own := [("_law_k", 15)]) (N := ["_law_box_here", "_law_problem", "_law_other", "_law_events", "_law_lines", "_law_scopes", "_law_pieces_here", "_law_many", "_law_history", "_law_moved_here", "_law_one", "_law_two", "_law_at", "_law_layer", "_law_event", "_law_k", "_law_title", "_law_values"]) (sc := defScope s__law_heaps_right) (by decide +kernel)) (fun _ _ _ _ _ => (pg_name (i := 15) nd rfl (Or.inl rfl))) (fun _ _ _ _ _ => pts_nil) (fun _ _ _ _ _ => (pe_ix (ix_listK (K := K) rfl) (pv 6) (C8.pe_c (c__law_take T) hr (by decide) (by rfl) (pa_cons (pv 0) (pa_cons (pe_callB (call_len_seqK (K := K) rfl) (by rfl) T.fr_len (by decide +kernel) (pa_cons (pv 6) pa_nil)) pa_nil))) (fun _ _ => rfl))))
      (pss_cons (ps_setLc (i := 9) (own := [("_law_title", 16), ("_law_values", 17)]) (g := (gTup K 2 (gCons (gName 16) (gCons (gName 17) gNil)))) rfl nd rfl rfl (sw_true rfl rfl rfl (by decide +kernel)) (pi_list (pv 8)) (blkOk_by (own := [("_law_title", 16), ("_law_values", 17)]) (N := ["_law_box_here", "_law_problem", "_law_other", "_law_events", "_law_lines", "_law_scopes", "_law_pieces_here", "_law_many", "_law_history", "_law_moved_here", "_law_one", "_law_two", "_law_at", "_law_layer", "_law_event", "_law_k", "_law_title", "_law_values"]) (sc := defScope s__law_heaps_right) (by decide +kernel)) (fun _ _ _ _ _ => (pg_tup rfl (pgs_cons (pg_name (i := 16) nd rfl (Or.inl rfl)) (pgs_cons (pg_name (i := 17) nd rfl (Or.inl rfl)) pgs_nil)))) (fun _ _ _ _ _ => pts_nil) (fun _ _ _ _ _ => (pe_tup (pa_cons (pv 16) (pa_cons (C8.pe_c (c__law_moved T) hr (by decide) (by rfl) (pa_cons (pv 4) (pa_cons (pe_dget hu (pv 5) (pv 16) (fun _ _ => rfl)) (pa_cons (pv 17) pa_nil)))) pa_nil)))))
      (pss_cons (ps_par (i := 10) (j := 11) rfl nd rfl rfl (by decide) rfl rfl (pa_cons (C8.pe_mk (c_Heap T TB) hr (by decide) (by rfl) (pa_cons (pv 1) (pa_cons (pv 8) pa_nil))) (pa_cons (C8.pe_mk (c_Heap T TB) hr (by decide) (by rfl) (pa_cons (pv 2) (pa_cons (pv 9) pa_nil))) pa_nil)) (by rfl))
      (pss_cons (ps_for PassesOwn.never rfl (pi_enum (by rfl) T.fr_enumerate (pa_cons (C8.pe_mt0 (c_Heap_layers T) hr (by decide) (pv 10)) pa_nil)) (pg_tup rfl (pgs_cons (pg_name (i := 12) nd rfl (Or.inl rfl)) (pgs_cons (pg_name (i := 13) nd rfl (Or.inl rfl)) pgs_nil))) (pss_one (ps_if (pt_cmpR (op_neD hr.units) (pe_ix ix_list (C8.pe_mt0 (c_Heap_layers T) hr (by decide) (pv 11)) (pv 12) (fun _ _ => rfl)) (pe_lc (own := [("_law_title", 16), ("_law_values", 17)]) (g := (gTup K 2 (gCons (gName 16) (gCons (gName 17) gNil)))) rfl nd (pi_list (pv 13)) (blkOk_by (own := [("_law_title", 16), ("_law_values", 17)]) (N := ["_law_box_here", "_law_problem", "_law_other", "_law_events", "_law_lines", "_law_scopes", "_law_pieces_here", "_law_many", "_law_history", "_law_moved_here", "_law_one", "_law_two", "_law_at", "_law_layer", "_law_event", "_law_k", "_law_title", "_law_values"]) (sc := defScope s__law_heaps_right) (by decide +kernel)) (fun _ _ _ _ _ => (pg_tup rfl (pgs_cons (pg_name (i := 16) nd rfl (Or.inl rfl)) (pgs_cons (pg_name (i := 17) nd rfl (Or.inl rfl)) pgs_nil)))) (fun _ _ _ _ _ => pts_nil) (fun _ _ _ _ _ => (pe_tup (pa_cons (pv 16) (pa_cons (C8.pe_c (c__law_moved T) hr (by decide) (by rfl) (pa_cons (pv 4) (pa_cons (pe_dget hu (pv 5) (pv 16) (fun _ _ => rfl)) (pa_cons (pv 17) pa_nil)))) pa_nil))))) (nomark _)) (pss_one (ps_ret pe_bl)) pss_nil)))
      (pss_one (ps_if (PW.pt (pw_or (pt_cmpR (ne_rat T.i_Ratio T.ne_Ratio (c_Ratio_eq T) (hr.mono (by decide)) hu) (C8.pe_c (c_heap_weight T) hr (by decide) (by rfl) (pa_cons (pv 10) pa_nil)) (C8.pe_c (c_heap_weight T) hr (by decide) (by rfl) (pa_cons (pv 11) pa_nil)) (nomark _)) (pw_or1 (pt_cmpR op_ne (pe_callB call_len_seq (by rfl) T.fr_len (by decide +kernel) (pa_cons (C8.pe_mt0 (c_Heap_layers T) hr (by decide) (pv 10)) pa_nil)) (pe_callB call_len_seq (by rfl) T.fr_len (by decide +kernel) (pa_cons (C8.pe_mt0 (c_Heap_layers T) hr (by decide) (pv 11)) pa_nil)) (nomark _))))) (pss_one (ps_ret pe_bl)) pss_nil)))))))
      (pss_one (ps_ret pe_bl))))), ?_⟩
  have okD := mv.dok
  obtain ⟨ea, exs, rfl, hea, hexs⟩ := id hev
  rename_i u1 u2 u4
  have evl : evs.length = D.evs.length := Paired.length srt
  have ev8 : evs.length ≤ 8 := by have := okD.n8; omega
  have enames : evs.map (·.1) = D.names := (Srt.names srt).symm
  have escopes : evs.map (fun e => (e.1, e.2.1)) = D.scopes := (Srt.scopes srt).symm
  refine ⟨_, rfl, ea, rfl, ⟨_, sql_s e hea⟩, ?_⟩
  refine lcL (K := K) (RA := rEv K) (R := r2 K rS (rL K rS)) (f := fun e => (e.1, e.2.1)) (p := fun _ => true) e hea hexs (by omega) (fun y v F2 H2 hy g2 hv Kt Kf k1 k2 => ?_) (fun L F1 H1 g1 hL => ?_)
  · obtain ⟨qa, q0, q1, q2, rfl, hqa, hq0, hq1, hq2⟩ := hv
    cases hq0
    have hqa' := sqt_s g2.fh hqa
    refine ⟨rfl, _, rfl, qa, _, _, .str y.1, rfl, rfl, hqa', rfl, _, rfl, qa, _, _, q1, rfl, rfl, hqa', rfl, le_line (by show 2 ≤ 1000000; omega), fun t nt => ?_⟩
    have g3 : Pu F2 H2 (upd F2 t (.tup [.str y.1, q1])) (upd H2 t (.tup [.str y.1, q1])) := Gr.new g2.fh nt
    exact k1 rfl _ _ _ g3 ⟨t, _, _, rfl, SqT.of upd_same, rfl, Up.up g3.f hq1⟩
  rw [ptrue, escopes] at hL
  obtain ⟨La, Lx, eL, hLa, hLx⟩ := hL
  cases eL
  obtain ⟨ps, kvs, rfl, hp2, hkv⟩ := pairs_of2 hLx
  have hm : mergeK [] kvs = kvs := merge_nd (m := []) Paired.nil hkv (by rw [List.nil_append, names_scopes]; exact okD.nd)
  refine ⟨L, ps, kvs, rfl, sql_s g1.fh hLa, Paired.mapP hp2 (fun _ _ q => sqt_s g1.fh q), fun sd nsd => ?_⟩
  rw [hm]
  have g2 : Pu F1 H1 (upd F1 sd (.dK kvs)) (upd H1 sd (.dK kvs)) := Gr.new g1.fh nsd
  have g12 := g1.trans g2
  have hS : rD (rL K rS) (upd F1 sd (.dK kvs)) (.ref sd) D.scopes := ⟨sd, kvs, rfl, .inl upd_same, hkv.up g2.f⟩
  generalize upd F1 sd (.dK kvs) = F2 at g2 g12 hS
  generalize upd H1 sd (.dK kvs) = H2 at g2 g12
  refine ⟨_, rfl, F2, evs, g12.fh, Up.up g12.f hev, ev8, fun e' he' => ?_, fun v F3 H3 g3 hv3 => ?_⟩
  · obtain ⟨i, hi⟩ := List.getElem?_of_mem he'
    have hil := (List.getElem?_eq_some_iff.mp hi).1
    obtain ⟨e0, he0, h1, h2, h3⟩ := pair_at srt (List.getElem?_eq_getElem (show i < D.evs.length by omega))
    rw [hi] at he0
    cases he0
    rw [← h3.length_eq]
    exact (okD.tp _ (List.getElem_mem (show i < D.evs.length by omega))).1
  have g13 := g12.trans g3
  obtain ⟨pa, pxs, rfl, hpa, hpxs⟩ := hv3
  have pok := piece_ok (vars := D.vars) okD srt
  have plen : (piecesF evs).length ≤ 1000 := by
    have := pieces_len (evs := evs) fun e' he' => by
      obtain ⟨i, hi⟩ := List.getElem?_of_mem he'
      have hil := (List.getElem?_eq_some_iff.mp hi).1
      obtain ⟨e0, he0, h1, h2, h3⟩ := pair_at srt (List.getElem?_eq_getElem (show i < D.evs.length by omega))
      rw [hi] at he0
      cases he0
      rw [← h3.length_eq]
      exact (okD.tp _ (List.getElem_mem (show i < D.evs.length by omega))).1
    omega
  generalize piecesF evs = pcs at hpxs pok plen
  have pxl := hpxs.length
  have hD3 := Up.up g13.f hD
  have hE3 := Up.up g13.f hE
  have hS3 := Up.up g3.f hS
  have hln3 := Up.up g13.f hln
  have tab3 := tab.pu g13
  have B3 := hB.pu g13
  refine ⟨_, rfl, F3, bx, n, 31, rfl, B3, by omega, rfl, by decide, by decide, g13.fh, fun r H4 r0 r31 g4 B4 => ⟨le_line (by show 3 ≤ 1000000; omega), fun qa nqa => ?_⟩⟩
  have tab4 := tab3.bx B3 g4
  have g14 := (Gr.pu (M := fun b => b = bx ∨ b = PT) g13).trans (g4.mono fun b z => .inl z)
  have g5 : Pu F3 H4 (upd F3 qa (.lst [.int 0, .int 1, .int r])) (upd H4 qa (.lst [.int 0, .int 1, .int r])) := Gr.new g4.fh nqa
  have g15 := g14.trans (Gr.pu g5)
  have hqa : SqL K (upd F3 qa (.lst [.int 0, .int 1, .int r])) qa [.int 0, .int 1, .int r] := SqL.of upd_same
  have tab5 := tab4.pu g5
  have B5 := B4.pu g5
  have s5 := g5.f
  generalize upd F3 qa (.lst [.int 0, .int 1, .int r]) = F5 at g5 g15 hqa tab5 B5 s5
  generalize upd H4 qa (.lst [.int 0, .int 1, .int r]) = H5 at g5 g15 tab5 B5
  refine ⟨qa, rfl, ⟨_, sql_s g15.fh hqa⟩, for_list (K := K) (a := qa) (xs := [.int 0, .int 1, .int r]) (fun i σ H' => ∃ F' w7 w8 w9 w10 w11 w12 w13, σ = [some (.ref bx), some u1, some u2, some (.ref ea), some u4, some (.ref sd), some (.ref pa), w7, w8, w9, w10, w11, w12, w13, none, none, none, none] ∧ Gr (fun b => b = bx ∨ b = PT) F H F' H' ∧ Same F5 F' ∧ Bx F' H' bx (n + 1 + 31 * i) ∧ Tb PT F' H')
    ⟨F5, _, _, _, _, _, _, _, rfl, g15, Same.refl _, B5, tab5⟩ (fun i σ H' _ ⟨F', _, _, _, _, _, _, _, _, g, s, _⟩ => sql_s g.fh (sql_s s hqa)) ?_ ?_⟩
  · rintro i y σ H6 hi ⟨F6, w7, w8, w9, w10, w11, w12, w13, rfl, g6, s6, B6, tab6⟩
    obtain ⟨m, rfl, m0, m30, i3⟩ : ∃ m : Int, y = .int m ∧ 0 ≤ m ∧ m ≤ 30 ∧ i < 3 := by
      have hil := (List.getElem?_eq_some_iff.mp hi).1
      have hil : i < 3 := hil
      have : i = 0 ∨ i = 1 ∨ i = 2 := by omega
      rcases this with rfl | rfl | rfl
      · cases hi; exact ⟨0, rfl, by omega, by omega, by omega⟩
      · cases hi; exact ⟨1, rfl, by omega, by omega, by omega⟩
      · cases hi; exact ⟨r, rfl, by omega, by omega, by omega⟩
    have s36 := s5.trans s6
    have hpa6 := sql_s s36 hpa
    have hpxs6 := hpxs.up s36
    refine ⟨_, rfl, _, rfl, Nat.zero_le _, fun qq nq => ?_⟩
    have g7 : Pu F6 H6 (upd F6 qq (.lst [])) (upd H6 qq (.lst [])) := Gr.new g6.fh nq
    have g17 := g6.trans (Gr.pu g7)
    have B7 := B6.pu g7
    have tab7 := tab6.pu g7
    refine neD (a := pcs) (b := []) (encL (encP (K := K))) (by decide) g7.fh (Up.up g7.f ⟨pa, pxs, rfl, hpa6, hpxs6⟩) ⟨qq, [], rfl, SqL.of upd_same, Paired.nil⟩ (fun x hx => ⟨name_lay (names_name okD (pok x hx).1), trivial⟩) (fun x hx => by cases hx) fun rr hr => .inr ⟨_, rfl, ?_⟩
    obtain ⟨kk, hkk, k01, kp⟩ : ∃ kk : Int, kk = (if (!rr) = true then 1 else 0) ∧ (kk = 0 ∨ kk = 1) ∧ (kk = 1 → pcs ≠ []) := by
      cases rr with
      | true => exact ⟨0, rfl, .inl rfl, fun z => by cases z⟩
      | false => exact ⟨1, rfl, .inr rfl, fun _ z => by have := hr.mpr z; cases this⟩
    rw [← hkk]
    obtain ⟨z, hz, z30, zp⟩ : ∃ z : Nat, m * kk = (z : Int) ∧ z ≤ 30 ∧ (0 < z → pcs ≠ []) := by
      rcases k01 with h | h
      · subst h; exact ⟨0, by rw [Int.mul_zero]; rfl, by omega, fun h => absurd h (by omega)⟩
      · have hp := kp h
        rw [h]
        exact ⟨m.toNat, by rw [Int.mul_one]; omega, by omega, fun _ => hp⟩
    refine ⟨_, _, rfl, rfl, wide_mul (a := 5) (b := 1) (by omega) (by rcases k01 with h | h <;> rw [h] <;> decide) (by decide) (by decide) (by decide), _, rfl, by omega, by omega, ?_⟩
    rw [hz]
    have hpa7 := sql_s g7.f hpa6
    have hpxs7 := hpxs6.up g7.f
    refine lcMR (K := K) (R := rEx (rPc K) (fun (_ : Nat) (q : Pc) => q ∈ pcs)) (M := fun b => b = bx) (Iv := fun j F H => Bx F H bx (n + 1 + 31 * i + j)) (lo := 0) (n := ((z : Nat) : Int).toNat) (fun y => y) g7.fh (by omega) (bx_iv B7) (fun j F8 H8 hj g8 B8 Kt Kf k1 => ?_) (fun L F8 H8 g8 B8 hL => ?_)
    · have hne := zp (by omega)
      have hpos : 0 < pcs.length := List.length_pos_iff.mpr hne
      refine ⟨rfl, _, rfl, _, rfl, _, rfl, pa, _, rfl, .inl (sql_s g8.fh (sql_s g8.f hpa7)), F8, bx, _, _, rfl, B8, by omega, rfl, by omega, by omega, g8.fh, fun r2 H9 r20 r2l g9 B9 => ?_⟩
      obtain ⟨c, rfl⟩ : ∃ c : Nat, r2 = c := ⟨r2.toNat, by omega⟩
      have hc : c < pcs.length := by omega
      obtain ⟨v, hv1, hv2⟩ := pair_at hpxs7 (List.getElem?_eq_getElem hc)
      exact ⟨pa, _, _, v, rfl, rfl, sql_s g9.fh (sql_s g9.f (sql_s g8.f hpa7)), atI_nat hv1, k1 _ _ _ g9 B9 ⟨pcs[c], Up.up (g8.f.trans g9.f) hv2, List.getElem_mem hc⟩⟩
    rw [List.map_id'] at hL
    obtain ⟨hist, hhist, ph⟩ := rEx_list hL
    have hmem : ∀ q ∈ hist, q ∈ pcs := fun q hq => by obtain ⟨_, _, h⟩ := paired_mem ph q hq; exact h
    have hlen : hist.length = z := by have := Paired.length ph; rw [List.length_range] at this; omega
    have hok : ∀ q ∈ hist, okPc D q := fun q hq => pok q (hmem q hq)
    have tab8 := tab7.bx B7 g8
    have g18 := g17.trans (g8.mono fun b z => .inl z)
    obtain ⟨L', hxs, eL, hLa8, hLx8⟩ := id hhist
    cases eL
    have s38 := s36.trans (g7.f.trans g8.f)
    have hS8 := Up.up s38 hS3
    have hln8 := Up.up s38 hln3
    have hD8 := Up.up s38 hD3
    have hE8 := Up.up s38 hE3
    -- what a piece moved reads
    have mvread : ∀ (F' H' : Hp) (q : Pc) (v : V) (Z : VK) (u4' : V), u4' = u4 → okPc D q → Same F8 F' → Same F' H' → rU K rI F' v q.2 → (∀ v' F'' H'', Pu F' H' F'' H'' → rU K rI F'' v' (movT ln (D.sc q.1) q.2) → Z v' H'') →
        ∃ a b, V.ref sd = .ref a ∧ DGet H' a (.str q.1) (some b) ∧ sp__law_moved K [u4', b, v] H' Z C8.E0 := by
      intro F' H' q v Z u4' e4 hq s1 s2 hv hz
      subst e4
      obtain ⟨a, b, ea, hg, hb⟩ := dgot s2 (Up.up s1 hS8) (sc_of hq.1)
      exact ⟨a, b, ea, hg, F', ln, D.vars, D.sc q.1, q.2, s2, Up.up s1 hln8, mv.lok, mv.dok.v, hb, hv, (tups_of okD (sc_of hq.1) (ts_of hq.1)).2.2 q.2 hq.2, by have := (scope_of okD (sc_of hq.1)).1.2; omega, hz⟩
    refine ⟨_, rfl, L, rfl, ⟨_, sql_s g8.fh hLa8⟩, ?_⟩
    refine lcL (K := K) (RA := rPc K) (R := rPc K) (f := mvP ln D) (p := fun _ => true) g8.fh hLa8 hLx8 (by omega) (fun y v F9 H9 hy g9 hv Kt Kf k1 k2 => ?_) (fun Lm F9 H9 g9 hLm => ?_)
    · obtain ⟨qa, q0, q1, rfl, hqa, hq0, hq1⟩ := hv
      cases hq0
      obtain ⟨a, b, ea, hg, hsp⟩ := mvread F9 H9 y q1 _ u4 rfl (hok y hy) g9.f g9.fh hq1 (fun v' F' H' g' hv' => (⟨le_line (by show 2 ≤ 1000000; omega), fun t nt => by
        have g3 : Pu F' H' (upd F' t (.tup [.str y.1, v'])) (upd H' t (.tup [.str y.1, v'])) := Gr.new g'.fh nt
        exact k1 rfl _ _ _ (g'.trans g3) ⟨t, _, _, rfl, SqT.of upd_same, rfl, Up.up g3.f hv'⟩⟩ : _ ∧ _))
      cases ea
      refine ⟨qa, _, rfl, sqt_s g9.fh hqa, rfl, _, _, rfl, _, _, rfl, rfl, rfl, _, rfl, _, rfl, _, rfl, _, rfl, sd, b, rfl, hg, _, rfl, hsp⟩
    rw [ptrue] at hLm
    have hbp : bx ≠ PT := by
      obtain ⟨_, _, _, mm, _⟩ := hB
      exact tab.ne mm (fun q z => by cases z)
    have g19 := g18.trans (Gr.pu g9)
    have B9 := B8.pu g9
    have tab9 := tab8.pu g9
    refine ⟨_, rfl, _, rfl, fun x dz nx nz ne => ⟨H9, F9, x, dz, D, hist, rfl, rfl, nx, nz, ne, g9.fh, Up.up g9.f hD8, Up.up g9.f hhist, hok, by omega, tab9, fun F10 H10 g10 tab10 hH1 => ⟨rfl, ?_⟩⟩⟩
    have B10 := B9.up g10 hbp
    have g1A := g19.trans (g10.mono fun b z => .inr z)
    refine ⟨_, rfl, _, rfl, fun x2 dz2 nx2 nz2 ne2 => ⟨H10, F10, x2, dz2, E, hist.map (mvP ln D), rfl, rfl, nx2, nz2, ne2, g10.fh, Up.up (g9.f.trans g10.f) hE8, Up.up g10.f hLm, (fun q hq => by
      obtain ⟨q0, hq0, rfl⟩ := List.mem_map.mp hq
      exact mv.pc (hok q0 hq0)), by rw [List.length_map]; omega, tab10, fun F11 H11 g11 tab11 hH2 => ⟨rfl, ?_⟩⟩⟩
    rw [layers_mov mv hok] at hH2
    have B11 := B10.up g11 hbp
    have g1B := g1A.trans (g11.mono fun b z => .inr z)
    have hH1 := Up.up g11.f hH1
    have lay8 : (layersF D hist).length ≤ 31 := by have := (layers_ok okD hok).1; omega
    have laysok := (layers_ok okD hok).2.2
    have hwe : hwF E ((layersF D hist).map (·.map (mvP ln D))).flatten = hwF D (layersF D hist).flatten := by rw [flat_map]; exact hw_mov mv _
    generalize layersF D hist = ls at hH1 hH2 lay8 laysok hwe
    obtain ⟨x1, dx1, p1, la1, e1, ho1, _⟩ := id hH1
    obtain ⟨x2', dx2, p2, la2, e2, ho2, _⟩ := id hH2
    cases e1
    cases e2
    refine ⟨_, _, rfl, ?_⟩
    refine ⟨_, rfl, x, dx1, _, rfl, g11.fh _ _ ho1, hfsn (by decide +kernel), F11, (D, ls), g11.fh, hH1, fun v F12 H12 g12 hv => ?_⟩
    obtain ⟨ya, yxs, rfl, hya, hyxs⟩ := hv
    have hyxs : All2 (rL K (rPc K)) F12 yxs ls := hyxs
    have yxl := hyxs.length
    refine ⟨ya, _, rfl, sql_s g12.fh hya, ?_⟩
    refine for_it (walk_enum (K := K) (a := ya) (xs := yxs)) (fun j σ H' => ∃ F' w12 w13, σ = [some (.ref bx), some u1, some u2, some (.ref ea), some u4, some (.ref sd), some (.ref pa), some (.int m), some (.ref L), some (.ref Lm), some (.ref x), some (.ref x2), w12, w13, none, none, none, none] ∧ Pu F12 H12 F' H') ⟨F12, _, _, rfl, Gr.refl g12.fh⟩ (fun j σ H' _ ⟨F', _, _, _, g⟩ => sql_s g.fh (sql_s g.f hya)) ?_ ?_
    · rintro j y σ H13 H14 hj ⟨F13, w12, w13, rfl, g13'⟩ ⟨T', v1, v2, rfl, nT, rfl, hv1, hv2⟩
      cases hv1
      have g14' := g13'.trans (Gr.newm (o := .tup [.int (j : Nat), v2]) g13'.fh nT)
      obtain ⟨ly, hly, rly⟩ := hyxs.get hv2
      obtain ⟨b2, lxs, rfl, hb2, hlxs⟩ := rly
      refine ⟨T', [_, _], rfl, SqT.of upd_same, rfl, _, [_], rfl, _, [], rfl, rfl, ?_⟩
      have sB := g12.f.trans g14'.f
      have ho2' := g14'.fh _ _ (sB _ _ ho2)
      refine ⟨_, rfl, x2, dx2, _, rfl, ho2', hfsn (by decide +kernel), F13, (E, ls.map (·.map (mvP ln D))), g14'.fh, Up.up sB hH2, fun v F15 H15 g15' hv => ?_⟩
      obtain ⟨a2, a2xs, rfl, ha2, ha2xs⟩ := hv
      have ha2xs : All2 (rL K (rPc K)) F15 a2xs (ls.map (·.map (mvP ln D))) := ha2xs
      obtain ⟨w2, hw2, rw2⟩ := pair_at ha2xs (n := j) (b := ly.map (mvP ln D)) (by rw [List.getElem?_map, hly]; rfl)
      have gt15 := g14'.trans g15'
      have hb15 := sql_s g15'.fh (sql_s gt15.f hb2)
      refine ⟨_, rfl, a2, _, _, w2, rfl, rfl, sql_s g15'.fh ha2, atI_nat hw2, _, rfl, b2, rfl, ⟨_, hb15⟩, ?_⟩
      have lyok := laysok ly (List.mem_of_getElem? hly)
      have l31 : ly.length ≤ 31 := by
        obtain ⟨_, _, _, _, _, _, _, _, _, f31, _⟩ := hH1
        have f31 : ls.flatten.length ≤ 31 := f31
        have h1 : (ls.map List.length).sum = ls.flatten.length := (List.length_flatten ..).symm
        have h2 : ly.length ≤ (ls.map List.length).sum := mem_sum (List.mem_map_of_mem (List.mem_of_getElem? hly))
        omega
      have s815 : Same F8 F15 := g9.f.trans (g10.f.trans (g11.f.trans (g12.f.trans gt15.f)))
      refine lcL (K := K) (RA := rPc K) (R := rPc K) (f := mvP ln D) (p := fun _ => true) g15'.fh (sql_s gt15.f hb2) (hlxs.up gt15.f) (by omega) (fun y v F16 H16 hy g16 hv Kt Kf k1 k2 => ?_) (fun Lz F16 H16 g16 hLz => ?_)
      · obtain ⟨qa, q0, q1, rfl, hqa, hq0, hq1⟩ := hv
        cases hq0
        obtain ⟨a, b, ea, hg, hsp⟩ := mvread F16 H16 y q1 _ u4 rfl (lyok y hy) (s815.trans g16.f) g16.fh hq1 (fun v' F' H' g' hv' => (⟨le_line (by show 2 ≤ 1000000; omega), fun t nt => by
          have g3 : Pu F' H' (upd F' t (.tup [.str y.1, v'])) (upd H' t (.tup [.str y.1, v'])) := Gr.new g'.fh nt
          exact k1 rfl _ _ _ (g'.trans g3) ⟨t, _, _, rfl, SqT.of upd_same, rfl, Up.up g3.f hv'⟩⟩ : _ ∧ _))
        cases ea
        refine ⟨qa, _, rfl, sqt_s g16.fh hqa, rfl, _, _, rfl, _, _, rfl, rfl, rfl, _, rfl, _, rfl, _, rfl, _, rfl, sd, b, rfl, hg, _, rfl, hsp⟩
      rw [ptrue] at hLz
      have lays : ∀ p ∈ ly.map (mvP ln D), PyData.canLay0 (.str p.1) = true ∧ True := fun p hp => by
        obtain ⟨q, hq, rfl⟩ := List.mem_map.mp hp
        exact ⟨name_lay (names_name okD (lyok q hq).1), trivial⟩
      refine neD (a := ly.map (mvP ln D)) (b := ly.map (mvP ln D)) (encL (encP (K := K))) (by decide) g16.fh (Up.up g16.f rw2) hLz lays lays fun r' hr' => ⟨_, rfl, ?_⟩
      rw [hr'.mpr rfl]
      exact iteF ⟨F16, _, _, rfl, gt15.trans g16⟩
    · rintro σ H13 ⟨F13, w12, w13, rfl, g13'⟩
      have sC := g12.f.trans g13'.f
      have g1D := (g1B.trans (Gr.pu g12)).trans (Gr.pu g13')
      refine ⟨_, rfl, F13, (D, ls), g13'.fh, Up.up sC hH1, fun v1 F14 H14 g14' hv1 => ⟨_, rfl, F14, (E, ls.map (·.map (mvP ln D))), g14'.fh, Up.up (sC.trans g14'.f) hH2, fun v2 F15 H15 g15' hv2 => ?_⟩⟩
      rw [show hwF (E, ls.map (·.map (mvP ln D))).1 (E, ls.map (·.map (mvP ln D))).2.flatten = hwF D ls.flatten from hwe] at hv2
      have g1E := (g1D.trans (Gr.pu g14')).trans (Gr.pu g15')
      have sE := sC.trans (g14'.f.trans g15'.f)
      refine ⟨⟨_, Up.up (g15'.f.trans g15'.fh) hv1, Up.up g15'.fh hv2⟩, _, rfl, iteF ?_⟩
      refine ⟨_, rfl, x, dx1, _, rfl, g15'.fh _ _ (sE _ _ ho1), hfsn (by decide +kernel), F15, (D, ls), g15'.fh, Up.up sE hH1, fun v F16 H16 g16 hv => ?_⟩
      obtain ⟨a3, a3xs, rfl, ha3, ha3xs⟩ := hv
      have l3 : a3xs.length = ls.length := ha3xs.length
      refine ⟨a3, _, rfl, .inl (sql_s g16.fh ha3), _, rfl, x2, dx2, _, rfl, g16.fh _ _ (g16.f _ _ (sE _ _ ho2)), hfsn (by decide +kernel), F16, (E, ls.map (·.map (mvP ln D))), g16.fh, Up.up (sE.trans g16.f) hH2, fun v F17 H17 g17' hv => ?_⟩
      obtain ⟨a4, a4xs, rfl, ha4, ha4xs⟩ := hv
      have l4 : a4xs.length = ls.length := by
        have := ha4xs.length
        have e4 : (E, ls.map (·.map (mvP ln D))).2.length = ls.length := List.length_map ..
        omega
      refine ⟨a4, _, rfl, .inl (sql_s g17'.fh ha4), rfl, _, rfl, ?_⟩
      rw [l3, l4]
      have g1F := (g1E.trans (Gr.pu g16)).trans (Gr.pu g17')
      have tab17 := ((((tab11.pu g12).pu g13').pu g14').pu g15').pu g16
      refine iteC (by simp) ⟨F17, _, _, _, _, _, _, _, rfl, g1F, ?_, ?_, tab17.pu g17'⟩
      · exact (s6.trans (g7.f.trans g8.f)).trans ((g9.f.trans (g10.f.trans g11.f)).trans (sE.trans (g16.f.trans g17'.f)))
      · exact ((((((B11.pu g12).pu g13').pu g14').pu g15').pu g16).pu g17').mono (by omega)
  · rintro σ H6 ⟨F6, w7, w8, w9, w10, w11, w12, w13, rfl, g6, s6, B6, tab6⟩
    exact k _ _ g6 (B6.mono (by show n + 1 + 31 * 3 ≤ n + 100; omega)) tab6
end Rs
/-! text RP4 -/
set_option Elab.async false
set_option linter.all false
set_option maxRecDepth 100000
set_option maxHeartbeats 4000000
namespace Rs
open PySem PySem.Spec PyProof.Rows L2
/-! ### the plain law: tapes -/
theorem sum25 : ∀ {l : List (Str × List Int)}, (∀ q ∈ l, q.2.length ≤ 25) → (l.map fun q => (q.2.length : Int)).sum ≤ 25 * (l.length : Int)
  | [], _ => by decide
  | q :: l, h => by
    have ih := sum25 (l := l) fun x hx => h x (List.mem_cons_of_mem _ hx)
    have h1 := h q (List.mem_cons_self ..)
    rw [List.map_cons, List.sum_cons, List.length_cons]
    omega
theorem okTapes_of {vars : List (Str × Int)} {tps : List (Str × List Int)} (ok : okVars vars) (pr : Paired (fun (q : Str × Int) (t : Str × List Int) => t.1 = q.1 ∧ okTape q.2 t.2) vars tps) : okTapes vars tps := by
  have e1 : tps.map (·.1) = vars.map (·.1) := paired_map pr fun a b h => h.1
  have hl := Paired.length pr
  refine ⟨hl.symm, fun q hq => ?_, ?_⟩
  · obtain ⟨i, hi⟩ := List.getElem?_of_mem hq
    have hil := (List.getElem?_eq_some_iff.mp hi).1
    obtain ⟨q', hq', h1, h2⟩ := pair_at pr (List.getElem?_eq_getElem (show i < tps.length by omega))
    rw [hi] at hq'
    cases hq'
    refine ⟨tps[i].2, ?_, h2⟩
    rw [← h1]
    exact lookup_nd (by rw [e1]; exact ok.2.2) (List.getElem_mem (by omega))
  · have := sum25 (l := tps) fun t ht => by
      obtain ⟨x, _, h⟩ := paired_mem pr t ht
      exact h.2.1.2
    have := ok.1.2
    omega
def mvTapes (ln : List (Str × List Int)) (vars : List (Str × Int)) (tps : List (Str × List Int)) : List (Str × List Int) := (vars.map fun q => q.1).reverse.map fun x => (x, ((tps.lookup x).getD []).map (lnF ln x))
theorem look_fn {β : Type} {f : Str → β} {x : Str} : ∀ {l : List Str}, x ∈ l → (l.map fun x => (x, f x)).lookup x = some (f x)
  | y :: l, h => by
    rw [List.map_cons, List.lookup_cons]
    by_cases e : x = y
    · rw [e]; simp
    · rw [beq_false_of_ne e]
      rcases List.mem_cons.mp h with z | z
      · exact absurd z e
      · exact look_fn z
section
variable {ln : List (Str × List Int)} {D E : PD} {tps : List (Str × List Int)}
theorem mvTapes_at {x : Str} (hx : x ∈ D.vars.map (·.1)) : (mvTapes ln D.vars tps).lookup x = some (((tps.lookup x).getD []).map (lnF ln x)) := look_fn (by rw [List.mem_reverse]; exact hx)
theorem okTapes_mov (h : Mv ln D E) (ok : okTapes D.vars tps) : okTapes E.vars (mvTapes ln D.vars tps) := by
  rw [h.vars]
  have hlen : (mvTapes ln D.vars tps).length = D.vars.length := by unfold mvTapes; rw [List.length_map, List.length_reverse, List.length_map]
  have key : ∀ q ∈ D.vars, okTape q.2 (((tps.lookup q.1).getD []).map (lnF ln q.1)) := fun q hq => by
    obtain ⟨t, h1, h2, h3⟩ := ok.2.1 q hq
    rw [h1]
    refine ⟨by rw [List.length_map]; exact h2, fun v hv => ?_⟩
    obtain ⟨w, hw, rfl⟩ := List.mem_map.mp hv
    have := h3 w hw
    exact lnF_in h (lookup_nd h.dok.v.2.2 hq) this.1 this.2
  refine ⟨hlen, fun q hq => ⟨_, mvTapes_at (List.mem_map_of_mem hq), key q hq⟩, ?_⟩
  have := sum25 (l := mvTapes ln D.vars tps) fun t ht => by
    obtain ⟨x, hx, rfl⟩ := List.mem_map.mp ht
    obtain ⟨q, hq, rfl⟩ := List.mem_map.mp (List.mem_reverse.mp hx)
    exact (key q hq).1.2
  have := h.dok.v.1.2
  omega
theorem Sv.start (h : Mv ln D E) (ok : okTapes D.vars tps) : Sv ln (SD0 D tps) (SD0 E (mvTapes ln D.vars tps)) where
  mv := h
  ok := SD0.ok h.dok ok
  tp := fun x => by
    show ((E.vars.map (fun q => (q.1, ((mvTapes ln D.vars tps).lookup q.1).getD []))).lookup x).getD [] = (((D.vars.map (fun q => (q.1, (tps.lookup q.1).getD []))).lookup x).getD []).map (lnF ln x)
    rw [h.vars, look_map (f := fun q : Str × Int => ((mvTapes ln D.vars tps).lookup q.1).getD []), look_map (f := fun q : Str × Int => (tps.lookup q.1).getD [])]
    cases hx : D.vars.lookup x with
    | none => rfl
    | some n =>
      show ((mvTapes ln D.vars tps).lookup x).getD [] = ((tps.lookup x).getD []).map (lnF ln x)
      rw [mvTapes_at (List.mem_map_of_mem (f := fun q : Str × Int => q.1) (mem_lookup' hx))]
      rfl
  pos := by
    show E.vars.map _ = D.vars.map _
    rw [h.vars]
  st := rfl
  stp := fun q hq => by cases hq
end
end Rs
/-! text RL9 -/
set_option Elab.async false
set_option linter.all false
set_option maxRecDepth 100000
set_option maxHeartbeats 4000000
namespace Rs
open PySem PySem.Spec PyProof.Rows L2
theorem Gr.sub {M M' : Addr → Prop} {F H F' H' : Hp} (g : Gr M F H F' H') (h : ∀ b, M b → ¬ M' b → H b = none) : Gr M' F H F' H' where
  f := g.f
  fh := g.fh
  h := fun b o n hb => g.h b o (fun z => by
    have := h b z n
    rw [hb] at this
    cases this) hb
  dom := g.dom
  nw := g.nw
theorem SAt.upM {M : Addr → Prop} {K : PySem.W.Frag} {F H F' H' : Hp} {s sx p dt dp ls : Addr} {act : Bool} {S : SD} (h : SAt K F H s sx p dt dp ls act S) (g : Gr M F H F' H') (h1 : ¬ M s) (h2 : ¬ M dp) (h3 : ¬ M ls) : SAt K F' H' s sx p dt dp ls act S where
  ob := h.ob.up g h1
  pr := Up.up g.f h.pr
  tp := let ⟨kvs, a, b⟩ := h.tp; ⟨kvs, g.f _ _ a, b.up g.f⟩
  ps := h.ps.up g h2
  st := let ⟨xs, a, b⟩ := h.st; ⟨xs, a.up g h3, b.up g.f⟩
  ok := h.ok
def sp__law_runs_right (K : PySem.W.Frag) : Sp := fun vs H Q _ => match vs with
  | [u0, u1, u2, u3, u4, u5] => ∃ F bx n D E evs ln, u0 = .ref bx ∧ Bx F H bx n ∧ n ≤ 50000 ∧ rP K F u1 D ∧ rP K F u2 E ∧ Mv ln D E ∧ rL K (r2 K rS rI) F u3 D.vars ∧ rL K (rEv K) F u4 evs ∧ Srt evs D.evs ∧ rD (rL K rI) F u5 ln ∧ Same F H ∧ ∀ F' H', GrB bx F H F' H' → Bx F' H' bx (n + 208) → Q (.bl true) H'
  | _ => False
theorem sc__law_runs_right : FnScope ["_law_box_here", "_law_problem", "_law_other", "_law_variables", "_law_events", "_law_lines", "_law_scopes", "_law_names_here", "_law_tapes", "_law_moved_here", "_law_chosen", "_law_name", "_law_size", "_law_one", "_law_two", "_law_event", "_law_k", "_law_value", "_law_title", "_law_values"] ["_law_box_here", "_law_problem", "_law_other", "_law_variables", "_law_events", "_law_lines"] (defScope s__law_runs_right) := C8.fnScope_by (by decide +kernel)
theorem c__law_runs_right {P : Program} {w : World} {K : PySem.W.Frag} {mg : Str → Option Value} {base hp : Heap} (T : Tx K mg hp) : C8.Cal P w K mg base 9 "_law_runs_right" (sp__law_runs_right K) [] := by
  obtain ⟨fd, F⟩ := T.fd__law_runs_right
  refine mkCal T.gl__law_runs_right F sc__law_runs_right (fun _ _ _ _ _ _ us hl => match us, hl with | [_, _, _, _, _, _], _ => rfl) (fun vs H Q E h => by unfold sp__law_runs_right at h; split at h <;> first | rfl | exact h.elim) (fun cdv A outer s H vs Q E hr h => ?_)
  have nd := sc__law_runs_right.nd
  have hu := hu_of hr
  unfold sp__law_runs_right at h
  split at h
  case h_2 => exact h.elim
  obtain ⟨F, bx, n, D, E, evs, ln, rfl, hB, hn, hD, hE, mv, hV, hev, srt, hln, e, k⟩ := h
  refine ⟨_, (pss_cons (ps_set (i := 6) nd rfl (Or.inr rfl) (pe_callTy (call_dictP rfl) (by rfl) T.fr_dict (by decide +kernel) (pa_cons (pe_lc (own := [("_law_event", 15)]) (g := (gName 15)) rfl nd (pi_list (pv 4)) (blkOk_by (own := [("_law_event", 15)]) (N := ["_law_box_here", "_law_problem", "_law_other", "_law_variables", "_law_events", "_law_lines", "_law_scopes", "_law_names_here", "_law_tapes", "_law_moved_here", "_law_chosen", "_law_name", "_law_size", "_law_one", "_law_two", "_law_event", "_law_k", "_law_value", "_law_title", "_law_values"]) (sc := defScope s__law_runs_right) (by decide +kernel)) (fun _ _ _ _ _ => (pg_name (i := 15) nd rfl (Or.inl rfl))) (fun _ _ _ _ _ => pts_nil) (fun _ _ _ _ _ => (pe_tup (pa_cons (pe_ix (ix_tupK (K := K) rfl) (pv 15) pe_int (fun _ _ => rfl)) (pa_cons (pe_ix (ix_tupK (K := K) rfl) (pv 15) pe_int (fun _ _ => rfl)) pa_nil))))) pa_nil)))
      (pss_cons (ps_setLc (i := 7) (own := [("_law_name", 11), ("_law_size", 12)]) (g := (gTup K 2 (gCons (gName 11) (gCons (gName 12) gNil)))) rfl nd rfl rfl (sw_true rfl rfl rfl (by decide +kernel)) (pi_list (pv 3)) (blkOk_by (own := [("_law_name", 11), ("_law_size", 12)]) (N := ["_law_box_here", "_law_problem", "_law_other", "_law_variables", "_law_events", "_law_lines", "_law_scopes", "_law_names_here", "_law_tapes", "_law_moved_here", "_law_chosen", "_law_name", "_law_size", "_law_one", "_law_two", "_law_event", "_law_k", "_law_value", "_law_title", "_law_values"]) (sc := defScope s__law_runs_right) (by decide +kernel)) (fun _ _ _ _ _ => (pg_tup rfl (pgs_cons (pg_name (i := 11) nd rfl (Or.inl rfl)) (pgs_cons (pg_name (i := 12) nd rfl (Or.inl rfl)) pgs_nil)))) (fun _ _ _ _ _ => pts_nil) (fun _ _ _ _ _ => (pv 11)))
      (pss_cons (ps_set (i := 8) nd rfl (Or.inr rfl) pe_dnewK)
      (pss_cons (ps_for PassesOwn.never rfl (pi_list (pv 3)) (pg_tup rfl (pgs_cons (pg_name (i := 11) nd rfl (Or.inl rfl)) (pgs_cons (pg_name (i := 12) nd rfl (Or.inr rfl)) pgs_nil))) (pss_one (ps_dput hu (pv 8) (pv 11) (pe_lc (own := [("_law_k", 16)]) (g := (gName 16)) rfl nd (pi_range1 (by rfl) T.fr_range (pa_cons (pe_op op_add pe_int (C8.pe_c (c__law_take T) hr (by decide) (by rfl) (pa_cons (pv 0) (pa_cons pe_int pa_nil)))) pa_nil)) (blkOk_by (own := [("_law_k", 16)]) (N := ["_law_box_here", "_law_problem", "_law_other", "_law_variables", "_law_events", "_law_lines", "_law_scopes", "_law_names_here", "_law_tapes", "_law_moved_here", "_law_chosen", "_law_name", "_law_size", "_law_one", "_law_two", "_law_event", "_law_k", "_law_value", "_law_title", "_law_values"]) (sc := defScope s__law_runs_right) (by decide +kernel)) (fun _ _ _ _ _ => (pg_name (i := 16) nd rfl (Or.inl rfl))) (fun _ _ _ _ _ => pts_nil) (fun _ _ _ _ _ => (C8.pe_c (c__law_take T) hr (by decide) (by rfl) (pa_cons (pv 0) (pa_cons (pv 12) pa_nil))))) rfl)))
      (pss_cons (ps_set (i := 9) nd rfl (Or.inl rfl) (pe_callTy (call_dictP rfl) (by rfl) T.fr_dict (by decide +kernel) (pa_cons (pe_lc (own := [("_law_name", 11)]) (g := (gName 11)) rfl nd (pi_list (pe_revL (pv 7))) (blkOk_by (own := [("_law_name", 11)]) (N := ["_law_box_here", "_law_problem", "_law_other", "_law_variables", "_law_events", "_law_lines", "_law_scopes", "_law_names_here", "_law_tapes", "_law_moved_here", "_law_chosen", "_law_name", "_law_size", "_law_one", "_law_two", "_law_event", "_law_k", "_law_value", "_law_title", "_law_values"]) (sc := defScope s__law_runs_right) (by decide +kernel)) (fun _ _ _ _ _ => (pg_name (i := 11) nd rfl (Or.inr rfl))) (fun _ _ _ _ _ => pts_nil) (fun _ _ _ _ _ => (pe_tup (pa_cons (pv 11) (pa_cons (pe_lc (own := [("_law_value", 17)]) (g := (gName 17)) rfl nd (pi_listK (K := K) rfl (pe_dget hu (pv 8) (pv 11) (fun _ _ => rfl))) (by exact blkOk_by (own := [("_law_value", 17)]) (N := ["_law_box_here", "_law_problem", "_law_other", "_law_variables", "_law_events", "_law_lines", "_law_scopes", "_law_names_here", "_law_tapes", "_law_moved_here", "_law_chosen", "_law_name", "_law_size", "_law_one", "_law_two", "_law_event", "_law_k", "_law_value", "_law_title", "_law_values"]) (by kernel_rfl)) (fun _ _ _ _ _ => (pg_name (i := 17) nd rfl (Or.inl rfl))) (fun _ _ _ _ _ => pts_nil) (fun _ _ _ _ _ => (pe_ix (ix_listK (K := K) rfl) (pe_dget hu (pv 5) (pv 11) (fun _ _ => rfl)) (pv 17) (fun _ _ => rfl)))) pa_nil))))) pa_nil)))
      (pss_cons (ps_for PassesOwn.never rfl (pi_list (pe_lst (pa_cons pe_non (pa_cons (C8.pe_gc (by rfl) T.g_choose_last) pa_nil)))) (pg_name (i := 10) nd rfl (Or.inl rfl)) (pss_cons (ps_par (i := 13) (j := 14) rfl nd rfl rfl (by decide) rfl rfl (pa_cons (C8.pe_mk (c_Sampler T) hr (by decide) (by rfl) (pa_cons (pv 1) (pa_cons (pv 8) pa_nil))) (pa_cons (C8.pe_mk (c_Sampler T) hr (by decide) (by rfl) (pa_cons (pv 2) (pa_cons (pv 9) pa_nil))) pa_nil)) (by rfl))
      (pss_cons (ps_if (PW.pt (pw_or (pt_cmpR op_ne (C8.pe_c (c_run_sampler T) hr (by decide) (by rfl) (pa_cons (pv 13) (pa_cons (pv 10) pa_nil))) (C8.pe_c (c_run_sampler T) hr (by decide) (by rfl) (pa_cons (pv 14) (pa_cons (pv 10) pa_nil))) (nomark _)) (pw_or1 (pt_cmpR op_ne (C8.pe_mt0 (c_Sampler_is_valid T) hr (by decide) (pv 13)) (C8.pe_mt0 (c_Sampler_is_valid T) hr (by decide) (pv 14)) (nomark _))))) (pss_one (ps_ret pe_bl)) pss_nil)
      (pss_cons (ps_if (pt_cmpR (op_neD hr.units) (C8.pe_mt0 (c_Sampler_assignment T) hr (by decide) (pv 14)) (C8.pe_c (c__law_moved T) hr (by decide) (by rfl) (pa_cons (pv 5) (pa_cons (pv 7) (pa_cons (C8.pe_mt0 (c_Sampler_assignment T) hr (by decide) (pv 13)) pa_nil)))) (nomark _)) (pss_one (ps_ret pe_bl)) pss_nil)
      (pss_one (ps_if (pt_cmpR (op_neD hr.units) (C8.pe_mt0 (c_Sampler_history T) hr (by decide) (pv 14)) (pe_lc (own := [("_law_title", 18), ("_law_values", 19)]) (g := (gTup K 2 (gCons (gName 18) (gCons (gName 19) gNil)))) rfl nd (pi_list (C8.pe_mt0 (c_Sampler_history T) hr (by decide) (pv 13))) (blkOk_by (own := [("_law_title", 18), ("_law_values", 19)]) (N := ["_law_box_here", "_law_problem", "_law_other", "_law_variables", "_law_events", "_law_lines", "_law_scopes", "_law_names_here", "_law_tapes", "_law_moved_here", "_law_chosen", "_law_name", "_law_size", "_law_one", "_law_two", "_law_event", "_law_k", "_law_value", "_law_title", "_law_values"]) (sc := defScope s__law_runs_right) (by decide +kernel)) (fun _ _ _ _ _ => (pg_tup rfl (pgs_cons (pg_name (i := 18) nd rfl (Or.inl rfl)) (pgs_cons (pg_name (i := 19) nd rfl (Or.inl rfl)) pgs_nil)))) (fun _ _ _ _ _ => pts_nil) (fun _ _ _ _ _ => (pe_tup (pa_cons (pv 18) (pa_cons (C8.pe_c (c__law_moved T) hr (by decide) (by rfl) (pa_cons (pv 5) (pa_cons (pe_dget hu (pv 6) (pv 18) (fun _ _ => rfl)) (pa_cons (pv 19) pa_nil)))) pa_nil))))) (nomark _)) (pss_one (ps_ret pe_bl)) pss_nil))))))
      (pss_one (ps_ret pe_bl)))))))), ?_⟩
  have okD := mv.dok
  have okV := okD.v
  have v8 := okV.1.2
  obtain ⟨va, vxs, rfl, hva, hvxs⟩ := id hV
  obtain ⟨ea, exs, rfl, hea, hexs⟩ := id hev
  rename_i u1 u2 u5
  have evl : evs.length = D.evs.length := Paired.length srt
  have ev8 : evs.length ≤ 8 := by have := okD.n8; omega
  have escopes : evs.map (fun e => (e.1, e.2.1)) = D.scopes := (Srt.scopes srt).symm
  refine ⟨_, rfl, ea, rfl, ⟨_, sql_s e hea⟩, ?_⟩
  refine lcL (K := K) (RA := rEv K) (R := r2 K rS (rL K rS)) (f := fun e => (e.1, e.2.1)) (p := fun _ => true) e hea hexs (by omega) (fun y v F2 H2 hy g2 hv Kt Kf k1 k2 => ?_) (fun L F1 H1 g1 hL => ?_)
  · obtain ⟨qa, q0, q1, q2, rfl, hqa, hq0, hq1, hq2⟩ := hv
    cases hq0
    have hqa' := sqt_s g2.fh hqa
    refine ⟨rfl, _, rfl, qa, _, _, .str y.1, rfl, rfl, hqa', rfl, _, rfl, qa, _, _, q1, rfl, rfl, hqa', rfl, le_line (by show 2 ≤ 1000000; omega), fun t nt => ?_⟩
    have g3 : Pu F2 H2 (upd F2 t (.tup [.str y.1, q1])) (upd H2 t (.tup [.str y.1, q1])) := Gr.new g2.fh nt
    exact k1 rfl _ _ _ g3 ⟨t, _, _, rfl, SqT.of upd_same, rfl, Up.up g3.f hq1⟩
  rw [ptrue, escopes] at hL
  obtain ⟨La, Lx, eL, hLa, hLx⟩ := hL
  cases eL
  obtain ⟨ps, kvs, rfl, hp2, hkv⟩ := pairs_of2 hLx
  have hm : mergeK [] kvs = kvs := merge_nd (m := []) Paired.nil hkv (by rw [List.nil_append, names_scopes]; exact okD.nd)
  refine ⟨L, ps, kvs, rfl, sql_s g1.fh hLa, Paired.mapP hp2 (fun _ _ q => sqt_s g1.fh q), fun sd nsd => ?_⟩
  rw [hm]
  have g2 : Pu F1 H1 (upd F1 sd (.dK kvs)) (upd H1 sd (.dK kvs)) := Gr.new g1.fh nsd
  have g12 := g1.trans g2
  have hS : rD (rL K rS) (upd F1 sd (.dK kvs)) (.ref sd) D.scopes := ⟨sd, kvs, rfl, .inl upd_same, hkv.up g2.f⟩
  generalize upd F1 sd (.dK kvs) = F2 at g2 g12 hS
  generalize upd H1 sd (.dK kvs) = H2 at g2 g12
  refine ⟨_, rfl, va, rfl, ⟨_, sql_s g12.fh (sql_s g12.f hva)⟩, ?_⟩
  refine lcL (K := K) (RA := r2 K rS rI) (R := rS) (f := fun q => q.1) (p := fun _ => true) g12.fh (sql_s g12.f hva) (hvxs.up g12.f) (by omega) (fun y v F3 H3 hy g3 hv Kt Kf k1 k2 => ?_) (fun NL F3 H3 g3 hNL => ?_)
  · obtain ⟨qa, q0, q1, rfl, hqa, hq0, hq1⟩ := hv
    cases hq0
    cases hq1
    exact ⟨qa, _, rfl, sqt_s g3.fh hqa, rfl, _, _, rfl, _, _, rfl, rfl, rfl, _, rfl, k1 rfl _ _ _ (Gr.refl g3.fh) rfl⟩
  rw [ptrue] at hNL
  have g13 := g12.trans g3
  intro fa nfa
  have g4 : Pu F3 H3 F3 (upd H3 fa (.dK [])) := Gr.newm g3.fh nfa
  have mf4 := Mt.new (o := .dK []) g3.fh nfa
  have g14 := g13.trans g4
  have B4 := hB.pu g14
  have f0 : H fa = none := g13.dom _ nfa
  have fbx : fa ≠ bx := fun z => hB.some (z ▸ f0)
  have s4 := g14.f
  refine ⟨_, rfl, va, rfl, ⟨_, sql_s g14.fh (sql_s g14.f hva)⟩, for_list (K := K) (a := va) (xs := vxs) (fun i σ H' => ∃ F' w11 w12 kvs tps, σ = [some (.ref bx), some u1, some u2, some (.ref va), some (.ref ea), some u5, some (.ref sd), some (.ref NL), some (.ref fa), none, none, w11, w12, none, none, none, none, none, none, none] ∧ GrB bx F H F' H' ∧ Same F3 F' ∧ Bx F' H' bx (n + 26 * i) ∧ Mt F' H' fa (.dK kvs) ∧ AllD (rL K rI) F' kvs tps ∧ Paired (fun (q : Str × Int) (t : Str × List Int) => t.1 = q.1 ∧ okTape q.2 t.2) (D.vars.take i) tps)
    ⟨F3, _, _, [], [], rfl, Gr.pu g14, Same.refl _, B4, mf4, Paired.nil, Paired.nil⟩ (fun i σ H' _ ⟨F', _, _, _, _, _, g, s, _⟩ => sql_s g.fh (sql_s g.f hva)) ?_ ?_⟩
  · rintro i y σ H5 hi ⟨F5, w11, w12, kvs, tps, rfl, g5, s5, B5, mf5, hall, pr⟩
    obtain ⟨q, hq, hy⟩ := hvxs.get hi
    have hqm := List.mem_of_getElem? hq
    have ilt := (List.getElem?_eq_some_iff.mp hq).1
    obtain ⟨qa, q0, q1, rfl, hqa, hq0, hq1⟩ := hy
    cases hq0
    cases hq1
    obtain ⟨x, sz⟩ := q
    have okq : isName x ∧ 1 ≤ sz ∧ sz ≤ 6 := okV.2.1 _ hqm
    refine ⟨qa, [_, _], rfl, sqt_s g5.fh (sqt_s g5.f hqa), rfl, _, [_], rfl, _, [], rfl, rfl, ?_⟩
    refine ⟨_, rfl, F5, bx, n + 26 * i, 25, rfl, B5, by omega, rfl, by decide, by decide, g5.fh, fun r H6 r0 r25 g6 B6 => ⟨_, _, rfl, rfl, _, rfl, by omega, by omega, ?_⟩⟩
    have mf6 := mf5.up g6 fbx
    have gt6 := g5.trans g6
    refine lcMR (K := K) (R := rEx rI (fun (_ : Nat) (v : Int) => 0 ≤ v ∧ v < sz)) (M := fun b => b = bx) (Iv := fun j F H => Bx F H bx (n + 26 * i + 1 + j)) (lo := 0) (n := (1 + r).toNat) (fun y => y) gt6.fh (by omega) (bx_iv B6) (fun j F7 H7 hj g7 B7 Kt Kf k1 => ?_) (fun Lt F7 H7 g7 B7 hLt => ?_)
    · exact ⟨rfl, _, rfl, _, rfl, F7, bx, _, _, rfl, B7, by omega, rfl, by omega, by omega, g7.fh, fun r2 H8 r20 r2l g8 B8 => k1 _ _ _ g8 B8 ⟨r2, rfl, r20, r2l⟩⟩
    · obtain ⟨tv, htv, ptv⟩ := rEx_list hLt
      have tvl : tv.length = (1 + r).toNat := by
        have := Paired.length ptv
        rw [List.length_map, List.length_range] at this
        omega
      have tvok : okTape sz tv := ⟨by omega, fun v hv => by obtain ⟨_, _, h⟩ := paired_mem ptv v hv; exact h⟩
      have mf7 := mf6.up g7 fbx
      have gt7 := gt6.trans g7
      have hall7 := hall.up g7.f
      have ekeys : tps.map (·.1) = (D.vars.take i).map (·.1) := paired_map pr fun a b h => h.1
      have hni : x ∉ tps.map (·.1) := by
        rw [ekeys, List.map_take]
        intro hm
        have nd := okV.2.2
        obtain ⟨j, hj, ej⟩ := List.mem_iff_getElem.mp hm
        rw [List.getElem_take] at ej
        rw [List.length_take] at hj
        have e2 : (D.vars.map (·.1))[i]? = some x := by rw [List.getElem?_map, hq]; rfl
        obtain ⟨hi2, ei⟩ := List.getElem?_eq_some_iff.mp e2
        have := (List.getElem_inj nd).mp (ej.trans ei.symm)
        omega
      have hvn := valV_all hall7 hni
      have kl := hall.length
      have ll : tps.length ≤ 8 := by have := Paired.length pr; rw [List.length_take] at this; omega
      refine ⟨_, rfl, _, rfl, fa, _, rfl, .inl ⟨kvs, Sum.inr x, mf7.h, rfl, lt_line (by omega), rfl⟩, ?_⟩
      rw [putK_new _ hvn]
      refine ⟨F7, _, _, kvs ++ [(Sum.inr x, .ref Lt)], tps ++ [(x, tv)], rfl, gt7.mut mf7.n f0, s5.trans g7.f, (B7.other fbx.symm).mono (by omega), mf7.set, Paired.snoc hall7 ⟨rfl, htv⟩, ?_⟩
      rw [List.take_succ, hq]
      exact Paired.snoc pr ⟨rfl, tvok⟩
  · rintro σ H5 ⟨F5, w11, w12, kvs, tps, rfl, g5, s5, B5, mf5, hall, pr⟩
    have hl := hvxs.length
    have hl : vxs.length = D.vars.length := hl
    rw [List.take_of_length_le (by omega)] at pr
    have okT := okTapes_of okV pr
    have okT2 := okTapes_mov mv okT
    have gf : GrB bx F H (upd F5 fa (.dK kvs)) H5 := g5.frz mf5.n f0 mf5.h
    have sf : Same F5 (upd F5 fa (.dK kvs)) := upd_new mf5.n
    have hfa : (upd F5 fa (.dK kvs)) fa = some (.dK kvs) := upd_same
    have hall5 := hall.up sf
    have B6 := (B5.frz (u := .dK kvs) fbx.symm).mono (show n + 26 * vxs.length ≤ n + 208 by omega)
    have s36 := s5.trans sf
    generalize upd F5 fa (.dK kvs) = F6 at gf sf hfa hall5 B6 s36
    have hT6 : rD (rL K rI) F6 (.ref fa) tps := ⟨fa, kvs, rfl, .inl hfa, hall5⟩
    have hNL6 := Up.up s36 hNL
    have hln6 := Up.up gf.f hln
    obtain ⟨NL', eN, hNs⟩ := rls hNL6
    cases eN
    refine ⟨_, rfl, NL, _, rfl, sql_s gf.fh hNs, fun ra nra => ?_⟩
    rw [← List.map_reverse]
    have g7 : Pu F6 H5 (upd F6 ra (.lst ((D.vars.map fun q => q.1).reverse.map V.str))) (upd H5 ra (.lst ((D.vars.map fun q => q.1).reverse.map V.str))) := Gr.new gf.fh nra
    have hra : SqL K (upd F6 ra (.lst ((D.vars.map fun q => q.1).reverse.map V.str))) ra ((D.vars.map fun q => q.1).reverse.map V.str) := SqL.of upd_same
    have gt7 := gf.trans (Gr.pu g7)
    have B7 := B6.pu g7
    generalize upd F6 ra (.lst ((D.vars.map fun q => q.1).reverse.map V.str)) = F7 at g7 hra gt7 B7
    generalize upd H5 ra (.lst ((D.vars.map fun q => q.1).reverse.map V.str)) = H7 at g7 gt7 B7
    refine ⟨ra, rfl, ⟨_, sql_s g7.fh hra⟩, ?_⟩
    refine lcL (K := K) (RA := rS) (R := r2 K rS (rL K rI)) (f := fun x => (x, ((tps.lookup x).getD []).map (lnF ln x))) (p := fun _ => true) g7.fh hra (str_all2 _) (by rw [List.length_reverse, List.length_map]; omega) (fun x v F8 H8 hx g8 hv Kt Kf k1 k2 => ?_) (fun Lm F8 H8 g8 hLm => ?_)
    · cases hv
      obtain ⟨q, hq, rfl⟩ := List.mem_map.mp (List.mem_reverse.mp hx)
      obtain ⟨t, ht, okt⟩ := okT.2.1 q hq
      have hn := lookup_nd okV.2.2 hq
      have s68 := g7.f.trans g8.f
      obtain ⟨a1, b1, ea1, hg1, hb1⟩ := dgot g8.fh (Up.up s68 hT6) ht
      cases ea1
      obtain ⟨c1, rfl, hc1⟩ := rli hb1
      refine ⟨rfl, _, rfl, _, rfl, _, rfl, fa, _, rfl, hg1, c1, rfl, ⟨_, sql_s g8.fh hc1⟩, ?_⟩
      have ti : ∀ w ∈ t, 0 ≤ w ∧ w < q.2 := okt.2
      refine lcL (K := K) (RA := rI) (R := rI) (f := lnF ln q.1) (p := fun _ => true) g8.fh hc1 (int_all2 _) (by have := okt.1.2; omega) (fun w v F9 H9 hw g9 hv Kt' Kf' k1' k2' => ?_) (fun L2 F9 H9 g9 hL2 => ?_)
      · cases hv
        obtain ⟨w0, w1⟩ := ti w hw
        obtain ⟨l, hl, hlv, _⟩ := line_at okV mv.lok hn w0 w1
        have s69 := s68.trans g9.f
        obtain ⟨a2, b2, ea2, hg2, hb2⟩ := dgot g9.fh (Up.up s69 hln6) hl
        cases ea2
        obtain ⟨c2, rfl, hc2⟩ := rli hb2
        obtain ⟨m, rfl⟩ : ∃ m : Nat, w = m := ⟨w.toNat, by omega⟩
        refine ⟨rfl, _, rfl, _, rfl, _, _, rfl, hg2, _, rfl, c2, _, _, .int (lnF ln q.1 (m : Int)), rfl, rfl, sql_s g9.fh hc2, atI_nat ?_, k1' rfl _ F9 H9 (Gr.refl g9.fh) rfl⟩
        rw [List.getElem?_map]
        have hlv : l[m]? = some (lnF ln q.1 (m : Int)) := hlv
        rw [hlv]
        rfl
      · rw [ptrue] at hL2
        refine ⟨le_line (by show 2 ≤ 1000000; omega), fun tt ntt => ?_⟩
        have gA : Pu F9 H9 (upd F9 tt (.tup [.str q.1, .ref L2])) (upd H9 tt (.tup [.str q.1, .ref L2])) := Gr.new g9.fh ntt
        refine k1 rfl _ _ _ (g9.trans gA) ⟨tt, _, _, rfl, SqT.of upd_same, rfl, ?_⟩
        show rL K rI _ (.ref L2) (((tps.lookup q.1).getD []).map (lnF ln q.1))
        rw [ht]
        exact Up.up gA.f hL2
    · rw [ptrue] at hLm
      have hLm : rL K (r2 K rS (rL K rI)) F8 (.ref Lm) (mvTapes ln D.vars tps) := hLm
      obtain ⟨Ma, Mx, eM, hMa, hMx⟩ := hLm
      cases eM
      obtain ⟨ps2, kvs2, rfl, hp22, hkv2⟩ := pairs_of2 hMx
      have ndk : ((mvTapes ln D.vars tps).map (·.1)).Nodup := by
        unfold mvTapes
        rw [List.map_map]
        have e0 : ((fun q : Str × List Int => q.1) ∘ fun x => (x, ((tps.lookup x).getD []).map (lnF ln x))) = fun x : Str => x := rfl
        rw [e0, List.map_id']
        exact (List.reverse_perm _).nodup_iff.mpr okV.2.2
      have hm2 : mergeK [] kvs2 = kvs2 := merge_nd (m := []) Paired.nil hkv2 (by rw [List.nil_append]; exact ndk)
      refine ⟨Lm, ps2, kvs2, rfl, sql_s g8.fh hMa, Paired.mapP hp22 (fun _ _ q => sqt_s g8.fh q), fun md nmd => ?_⟩
      rw [hm2]
      have g9 : Pu F8 H8 (upd F8 md (.dK kvs2)) (upd H8 md (.dK kvs2)) := Gr.new g8.fh nmd
      have hmd : (upd F8 md (.dK kvs2)) md = some (.dK kvs2) := upd_same
      have hall9 : AllD (rL K rI) (upd F8 md (.dK kvs2)) kvs2 (mvTapes ln D.vars tps) := hkv2.up g9.f
      have gt9 := (gt7.trans (Gr.pu g8)).trans (Gr.pu g9)
      have B9 := (B7.pu g8).pu g9
      have s69 := g7.f.trans (g8.f.trans g9.f)
      generalize upd F8 md (.dK kvs2) = F9 at g9 hmd hall9 gt9 B9 s69
      generalize upd H8 md (.dK kvs2) = H9 at g9 gt9 B9
      refine ⟨le_line (by show 2 ≤ 1000000; omega), fun qa nqa => ?_⟩
      have g10 : Pu F9 H9 (upd F9 qa (.lst [.non, .ref (He.ga K "choose_last")])) (upd H9 qa (.lst [.non, .ref (He.ga K "choose_last")])) := Gr.new gt9.fh nqa
      have hqa : SqL K (upd F9 qa (.lst [.non, .ref (He.ga K "choose_last")])) qa [.non, .ref (He.ga K "choose_last")] := SqL.of upd_same
      have gt10 := gt9.trans (Gr.pu g10)
      have B10 := B9.pu g10
      have s6A := s69.trans g10.f
      have s9A := g10.f
      generalize upd F9 qa (.lst [.non, .ref (He.ga K "choose_last")]) = FA at g10 hqa gt10 B10 s6A s9A
      generalize upd H9 qa (.lst [.non, .ref (He.ga K "choose_last")]) = HA at g10 gt10 B10
      refine ⟨qa, rfl, ⟨_, sql_s g10.fh hqa⟩, for_list (K := K) (a := qa) (xs := [.non, .ref (He.ga K "choose_last")]) (fun i σ H' => ∃ F' w10 w11 w12 w13 w14, σ = [some (.ref bx), some u1, some u2, some (.ref va), some (.ref ea), some u5, some (.ref sd), some (.ref NL), some (.ref fa), some (.ref md), w10, w11, w12, w13, w14, none, none, none, none, none] ∧ GrB bx F H F' H' ∧ Same FA F' ∧ Bx F' H' bx (n + 208))
        ⟨FA, _, _, _, _, _, rfl, gt10, Same.refl _, B10⟩ (fun i σ H' _ ⟨F', _, _, _, _, _, _, g, s, _⟩ => sql_s g.fh (sql_s s hqa)) ?_ ?_⟩
      · rintro i y σ HB hi ⟨FB, w10, w11, w12, w13, w14, rfl, gB, sB, BB⟩
        obtain ⟨b, rfl⟩ : ∃ b : Bool, y = chV K b := by
          have hil := (List.getElem?_eq_some_iff.mp hi).1
          have hil : i < 2 := hil
          have : i = 0 ∨ i = 1 := by omega
          rcases this with rfl | rfl
          · cases hi; exact ⟨false, rfl⟩
          · cases hi; exact ⟨true, rfl⟩
        have s3B := s36.trans (s6A.trans sB)
        have sFB := gB.f
        refine ⟨_, rfl, _, rfl, fun x dz nx nz ne => ⟨HB, FB, x, dz, D, tps, fa, kvs, rfl, rfl, nx, nz, ne, gB.fh, Up.up sFB hD, rfl, sB _ _ (s6A _ _ hfa), hall5.up (s6A.trans sB), okT, fun FC HC p1 dt1 dp1 ls1 gC e1 nd1 nl1 hS1 => ⟨rfl, ?_⟩⟩⟩
        refine ⟨_, rfl, _, rfl, fun x2 dz2 nx2 nz2 ne2 => ⟨HC, FC, x2, dz2, E, mvTapes ln D.vars tps, md, kvs2, rfl, rfl, nx2, nz2, ne2, gC.fh, Up.up (sFB.trans gC.f) hE, rfl, gC.f _ _ (sB _ _ (s9A _ _ hmd)), hall9.up (s9A.trans (sB.trans gC.f)), okT2, fun FD HD p2 dt2 dp2 ls2 gD e2 nd2 nl2 hS2 => ⟨rfl, ?_⟩⟩⟩
        have hS1D := hS1.pu gD
        refine ⟨_, _, rfl, ?_⟩
        have bxB := BB.some
        have bxC := (BB.pu gC).some
        have xb : x ≠ bx := fun z => bxB (z ▸ nx)
        have db : dp1 ≠ bx := fun z => bxB (z ▸ nd1)
        have lb : ls1 ≠ bx := fun z => bxB (z ▸ nl1)
        have x2b : x2 ≠ bx := fun z => bxC (z ▸ nx2)
        have d2b : dp2 ≠ bx := fun z => bxC (z ▸ nd2)
        have l2b : ls2 ≠ bx := fun z => bxC (z ▸ nl2)
        have cx : HC x ≠ none := by rw [hS1.ob.h]; exact fun z => nomatch z
        have cd : HC dp1 ≠ none := by rw [hS1.ps.h]; exact fun z => nomatch z
        have cl : HC ls1 ≠ none := by obtain ⟨xs, mm, _⟩ := hS1.st; rw [mm.h]; exact fun z => nomatch z
        have gE0 := gB.trans (Gr.pu gC)
        have gF0 := gE0.trans (Gr.pu gD)
        have BD := (BB.pu gC).pu gD
        refine ⟨_, rfl, _, rfl, FD, x, dz, p1, dt1, dp1, ls1, SD0 D tps, b, rfl, rfl, rfl, gD.fh, hS1D, rfl, fun FE HE gE hS1E => ?_⟩
        have hS2E := hS2.upM gE (fun z => by
          rcases z with z | z | z
          · exact cx (z ▸ nx2)
          · exact cd (z ▸ nx2)
          · exact cl (z ▸ nx2)) (fun z => by
          rcases z with z | z | z
          · exact cx (z ▸ nd2)
          · exact cd (z ▸ nd2)
          · exact cl (z ▸ nd2)) (fun z => by
          rcases z with z | z | z
          · exact cx (z ▸ nl2)
          · exact cd (z ▸ nl2)
          · exact cl (z ▸ nl2))
        have BE := BD.up gE (fun z => by
          rcases z with z | z | z
          · exact xb z.symm
          · exact db z.symm
          · exact lb z.symm)
        refine ⟨_, rfl, _, rfl, FE, x2, dz2, p2, dt2, dp2, ls2, SD0 E (mvTapes ln D.vars tps), b, rfl, rfl, rfl, gE.fh, hS2E, rfl, fun FG HG gG hS2G => ?_⟩
        have hS1G := hS1E.upM gG (fun z => by
          rcases z with z | z | z
          · exact cx (z ▸ nx2)
          · exact cx (z ▸ nd2)
          · exact cx (z ▸ nl2)) (fun z => by
          rcases z with z | z | z
          · exact cd (z ▸ nx2)
          · exact cd (z ▸ nd2)
          · exact cd (z ▸ nl2)) (fun z => by
          rcases z with z | z | z
          · exact cl (z ▸ nx2)
          · exact cl (z ▸ nd2)
          · exact cl (z ▸ nl2))
        have BG := BE.up gG (fun z => by
          rcases z with z | z | z
          · exact x2b z.symm
          · exact d2b z.symm
          · exact l2b z.symm)
        have gGG : GrB bx F H FG HG := by
          refine Gr.sub (M := fun b => b = bx ∨ (b = x ∨ b = dp1 ∨ b = ls1) ∨ (b = x2 ∨ b = dp2 ∨ b = ls2)) ((gF0.mono fun b z => .inl z).trans ((gE.mono fun b z => .inr (.inl z)).trans (gG.mono fun b z => .inr (.inr z)))) fun b hb hn => ?_
          rcases hb with z | (z | z | z) | (z | z | z)
          · exact absurd z hn
          · rw [z]; exact gB.dom _ nx
          · rw [z]; exact gB.dom _ nd1
          · rw [z]; exact gB.dom _ nl1
          · rw [z]; exact gE0.dom _ nx2
          · rw [z]; exact gE0.dom _ nd2
          · rw [z]; exact gE0.dom _ nl2
        obtain ⟨sv, sD⟩ := (Sv.start mv okT).run (b := b) (n := 240) (by show 0 + 240 ≤ 240; omega)
        have sD : (runS b 240 (SD0 D tps)).D = D := sD
        have sGB : Same FB FG := gC.f.trans (gD.f.trans (gE.f.trans gG.f))
        generalize runS b 240 (SD0 D tps) = S1 at hS1E hS1G sv sD
        generalize runS b 240 (SD0 E (mvTapes ln D.vars tps)) = Z1 at hS2G sv
        have elen : Z1.steps.length = S1.steps.length := by rw [sv.st, List.length_map]
        refine ⟨rfl, _, rfl, ?_⟩
        rw [elen]
        refine iteC (by simp) ?_
        refine ⟨_, rfl, x, dz, _, rfl, hS1G.ob.h, sfsn (by decide +kernel), FG, x, dz, p1, dt1, dp1, ls1, false, S1, rfl, gG.fh, hS1G, fun FI HI gI => ?_⟩
        have hS2I := hS2G.pu gI
        have hS1I := hS1G.pu gI
        refine ⟨_, rfl, x2, dz2, _, rfl, hS2I.ob.h, sfsn (by decide +kernel), FI, x2, dz2, p2, dt2, dp2, ls2, false, Z1, rfl, gI.fh, hS2I, fun FJ HJ gJ => ⟨rfl, _, rfl, ?_⟩⟩
        rw [sv.filt]
        refine iteC (by simp) ?_
        have hS2J := hS2I.pu gJ
        have hS1J := hS1I.pu gJ
        refine ⟨_, rfl, x2, dz2, _, rfl, hS2J.ob.h, sfsn (by decide +kernel), FJ, x2, dz2, p2, dt2, dp2, ls2, false, Z1, rfl, gJ.fh, hS2J, fun v FK HK gK hv => ?_⟩
        have hS2K := hS2J.pu gK
        have hS1K := hS1J.pu gK
        refine ⟨_, rfl, _, rfl, _, rfl, x, dz, _, rfl, hS1K.ob.h, sfsn (by decide +kernel), FK, x, dz, p1, dt1, dp1, ls1, false, S1, rfl, gK.fh, hS1K, fun v2 FL HL gL hv2 => ?_⟩
        have hS2L := hS2K.pu gL
        have hS1L := hS1K.pu gL
        have gGL : Pu FG HG FL HL := ((gI.trans gJ).trans gK).trans gL
        have s6L : Same F6 FL := s6A.trans (sB.trans (sGB.trans gGL.f))
        have asgok : okAsg D.vars S1.asg := by have := sv.asgOk; rw [sD] at this; exact this
        refine ⟨FL, ln, D.vars, D.vars.map (fun q : Str × Int => q.1), S1.asg, gL.fh, Up.up s6L hln6, mv.lok, okV, Up.up s6L hNL6, hv2, asg_vals okV.2.2 asgok, by rw [List.length_map]; omega, fun v3 FM HM gM hv3 => ?_⟩
        have hv' : rU K rI FM v (movT ln (D.vars.map (fun q : Str × Int => q.1)) S1.asg) := by
          have e1 := sv.asg
          rw [sD] at e1
          rw [e1] at hv
          exact Up.up (gL.f.trans gM.f) hv
        refine neD (encT (K := K)) (by decide) gM.fh hv' hv3 trivial trivial fun rr hr => ⟨_, rfl, ?_⟩
        rw [hr.mpr rfl]
        refine iteF ?_
        have hS2M := hS2L.pu gM
        have hS1M := hS1L.pu gM
        refine ⟨_, rfl, x2, dz2, _, rfl, hS2M.ob.h, sfsn (by decide +kernel), FM, x2, dz2, p2, dt2, dp2, ls2, false, Z1, rfl, gM.fh, hS2M, fun v FN HN gN hvh => ?_⟩
        have hS1N := hS1M.pu gN
        refine ⟨_, rfl, x, dz, _, rfl, hS1N.ob.h, sfsn (by decide +kernel), FN, x, dz, p1, dt1, dp1, ls1, false, S1, rfl, gN.fh, hS1N, fun v2 FO HO gO hvh2 => ?_⟩
        obtain ⟨ha, hxs, rfl, hha, hhx⟩ := hvh2
        have gGO : Pu FG HG FO HO := ((gGL.trans gM).trans gN).trans gO
        have sl240 : S1.steps.length ≤ 240 := sv.ok.sl
        have s2O : Same F2 FO := g3.f.trans (s36.trans (s6A.trans (sB.trans (sGB.trans gGO.f))))
        have s6O : Same F6 FO := s6A.trans (sB.trans (sGB.trans gGO.f))
        have stp : ∀ q ∈ S1.steps, q.1 ∈ D.names ∧ okVals D.vars (D.sc q.1) q.2 := by have := sv.stp; rw [sD] at this; exact this
        refine ⟨ha, rfl, ⟨_, sql_s gO.fh hha⟩, ?_⟩
        refine lcL (K := K) (RA := rPc K) (R := rPc K) (f := mvP ln D) (p := fun _ => true) gO.fh hha hhx (by omega) (fun y v F16 H16 hy g16 hv Kt Kf k1 k2 => ?_) (fun Lz F16 H16 g16 hLz => ?_)
        · obtain ⟨qb, q0, q1, rfl, hqb, hq0, hq1⟩ := hv
          cases hq0
          obtain ⟨yn, yv⟩ := stp y hy
          obtain ⟨a3, b3, ea3, hg3, hb3⟩ := dgot g16.fh (Up.up (s2O.trans g16.f) hS) (sc_of yn)
          cases ea3
          refine ⟨qb, _, rfl, sqt_s g16.fh hqb, rfl, _, _, rfl, _, _, rfl, rfl, rfl, _, rfl, _, rfl, _, rfl, _, rfl, sd, b3, rfl, hg3, _, rfl, F16, ln, D.vars, D.sc y.1, y.2, g16.fh, Up.up (s6O.trans g16.f) hln6, mv.lok, okV, hb3, hq1, yv, by have := (scope_of okD (sc_of yn)).1.2; omega, fun v' F17 H17 g17 hv' => ⟨le_line (by show 2 ≤ 1000000; omega), fun t nt => ?_⟩⟩
          have gZ : Pu F17 H17 (upd F17 t (.tup [.str y.1, v'])) (upd H17 t (.tup [.str y.1, v'])) := Gr.new g17.fh nt
          exact k1 rfl _ _ _ (g17.trans gZ) ⟨t, _, _, rfl, SqT.of upd_same, rfl, Up.up gZ.f hv'⟩
        rw [ptrue] at hLz
        have hvh' : rL K (rPc K) F16 v (S1.steps.map (mvP ln D)) := by
          have e1 := sv.st
          rw [sD] at e1
          rw [e1] at hvh
          exact Up.up (gO.f.trans g16.f) hvh
        have lays : ∀ p ∈ S1.steps.map (mvP ln D), PyData.canLay0 (.str p.1) = true ∧ True := fun p hp => by
          obtain ⟨q, hq, rfl⟩ := List.mem_map.mp hp
          exact ⟨name_lay (names_name okD (stp q hq).1), trivial⟩
        refine neD (encL (encP (K := K))) (by decide) g16.fh hvh' hLz lays lays fun rr' hr' => ⟨_, rfl, ?_⟩
        rw [hr'.mpr rfl]
        exact iteF ⟨F16, _, _, _, _, _, rfl, (gGG.trans (Gr.pu gGO)).trans (Gr.pu g16), sB.trans (sGB.trans (gGO.f.trans g16.f)), (BG.pu gGO).pu g16⟩
      · rintro σ HB ⟨FB, w10, w11, w12, w13, w14, rfl, gB, sB, BB⟩
        exact k _ _ gB BB
end Rs
/-! text RL10 -/
set_option Elab.async false
set_option linter.all false
set_option maxRecDepth 100000
set_option maxHeartbeats 4000000
namespace Rs
open PySem PySem.Spec PyProof.Rows L2 LamX
theorem all2_prs {K : PySem.W.Frag} {F H : Hp} {xs ys : List V} {l : List (Int × Int)} (e : Same F H) (h1 : All2 (rR K) F xs l) (h2 : All2 (rR K) F ys l) : Prs (DRat K) xs ys H := by
  refine ⟨h1.length.trans h2.length.symm, fun i x y hx hy => ?_⟩
  obtain ⟨p, hp, rx⟩ := h1.get hx
  obtain ⟨q, hq, ry⟩ := h2.get hy
  rw [hp] at hq
  cases hq
  exact ⟨p, Up.up e rx, Up.up e ry⟩
def sp_law (K : PySem.W.Frag) (PT : Addr) : Sp := fun vs H Q _ => match vs with
  | [u] => ∃ F a l, u = .ref a ∧ SqL K F a (List.map V.int l) ∧ l.length ≤ 1000 ∧ Tb PT F H ∧ Same F H ∧ ∀ H', Q (.bl true) H'
  | _ => False
theorem sc_law : FnScope ["_law_script", "_law_k", "_law_box_here", "_law_lines", "_law_moved_here", "_law_variables", "_law_events", "_law_title", "_law_scope", "_law_bad", "_law_problem", "_law_other", "_law_event", "_law_values", "_law_name", "_law_size"] ["_law_script"] (defScope s_law) := C8.fnScope_by (by decide +kernel)
theorem b_law {P : Program} {w : World} {K : PySem.W.Frag} {mg : Str → Option Value} {base hp : Heap} {PT : Addr} (T : Tx K mg hp) (TB : TabB base mg (He.codeOf K ("layers_of", none)) PT) : Body P w K mg base ["_law_script", "_law_k", "_law_box_here", "_law_lines", "_law_moved_here", "_law_variables", "_law_events", "_law_title", "_law_scope", "_law_bad", "_law_problem", "_law_other", "_law_event", "_law_values", "_law_name", "_law_size"] "law" s_law (He.ga K "law") 9 (sp_law K PT) := by
  intro cdv A outer s H vs Q E hr h
  have nd := sc_law.nd
  have hu := hu_of hr
  unfold sp_law at h
  split at h
  case h_2 => exact h.elim
  obtain ⟨F, a, l, rfl, hs, l1000, tab, e, k⟩ := h
  refine ⟨_, (pss_cons (ps_for PassesOwn.never rfl (pi_range1 (by rfl) T.fr_range (pa_cons (pe_callB (call_max2 rfl) (by rfl) T.fr_max (by decide +kernel) (pa_cons pe_int (pa_cons (pe_callB (call_min2 rfl) (by rfl) T.fr_min (by decide +kernel) (pa_cons (pe_callB call_len_seq (by rfl) T.fr_len (by decide +kernel) (pa_cons (pv 0) pa_nil)) (pa_cons pe_int pa_nil))) pa_nil))) pa_nil)) (pg_name (i := 1) nd rfl (Or.inl rfl)) (pss_cons (ps_set (i := 2) nd rfl (Or.inl rfl) (C8.pe_c (c__law_box T) hr (by decide) (by rfl) (pa_cons (C8.pe_c (c__law_cell T) hr (by decide) (by rfl) (pa_cons (pv 0) (pa_cons (pv 1) pa_nil))) pa_nil)))
      (pss_cons (ps_asg (C8.pe_c (c__law_data T) hr (by decide) (by rfl) (pa_cons (pv 2) (pa_cons (pe_op op_add pe_int (C8.pe_c (c__law_take T) hr (by decide) (by rfl) (pa_cons (pv 2) (pa_cons pe_int pa_nil)))) (pa_cons pe_int pa_nil)))) (pg_tup rfl (pgs_cons (pg_name (i := 5) nd rfl (Or.inl rfl)) (pgs_cons (pg_name (i := 6) nd rfl (Or.inl rfl)) pgs_nil))))
      (pss_cons (ps_set (i := 3) nd rfl (Or.inr rfl) (C8.pe_c (c__law_exchange T) hr (by decide) (by rfl) (pa_cons (pv 2) (pa_cons (pv 5) pa_nil))))
      (pss_cons (ps_set (i := 4) nd rfl (Or.inl rfl) (pe_lst pa_nil))
      (pss_cons (ps_for PassesOwn.never rfl (pi_list (pv 6)) (pg_tup rfl (pgs_cons (pg_name (i := 7) nd rfl (Or.inl rfl)) (pgs_cons (pg_name (i := 8) nd rfl (Or.inr rfl)) (pgs_cons (pg_name (i := 9) nd rfl (Or.inl rfl)) pgs_nil)))) (pss_one (ps_expr (pe_bm PySem.F.plainAttrs_list PySem.F.slot_list_append PySem.F.type_list_append mt_append (pv 4) (pa_cons (pe_tup (pa_cons (pv 7) (pa_cons (pv 8) (pa_cons (pe_lc (own := [("_law_values", 13)]) (g := (gName 13)) rfl nd (pi_list (pv 9)) (blkOk_by (own := [("_law_values", 13)]) (N := ["_law_script", "_law_k", "_law_box_here", "_law_lines", "_law_moved_here", "_law_variables", "_law_events", "_law_title", "_law_scope", "_law_bad", "_law_problem", "_law_other", "_law_event", "_law_values", "_law_name", "_law_size"]) (sc := defScope s_law) (by decide +kernel)) (fun _ _ _ _ _ => (pg_name (i := 13) nd rfl (Or.inl rfl))) (fun _ _ _ _ _ => pts_nil) (fun _ _ _ _ _ => (C8.pe_c (c__law_moved T) hr (by decide) (by rfl) (pa_cons (pv 3) (pa_cons (pv 8) (pa_cons (pv 13) pa_nil)))))) pa_nil)))) pa_nil)))))
      (pss_cons (ps_asg (pe_tup (pa_cons (C8.pe_mk (c_Problem T) hr (by decide) (by rfl) (pa_cons (pv 5) (pa_cons (pv 6) pa_nil))) (pa_cons (C8.pe_mk (c_Problem T) hr (by decide) (by rfl) (pa_cons (pv 5) (pa_cons (pv 4) pa_nil))) pa_nil))) (pg_tup rfl (pgs_cons (pg_name (i := 10) nd rfl (Or.inr rfl)) (pgs_cons (pg_name (i := 11) nd rfl (Or.inr rfl)) pgs_nil))))
      (pss_cons (ps_if (PW.pt (pw_or (pt_cmpR (op_neD hr.units) (C8.pe_c (c_signed_counts T) hr (by decide) (by rfl) (pa_cons (pv 10) pa_nil)) (C8.pe_c (c_signed_counts T) hr (by decide) (by rfl) (pa_cons (pv 11) pa_nil)) (nomark _)) (pw_or1 (pt_cmpR (op_neD hr.units) (C8.pe_c (c_heap_counts T) hr (by decide) (by rfl) (pa_cons (pv 10) pa_nil)) (C8.pe_c (c_heap_counts T) hr (by decide) (by rfl) (pa_cons (pv 11) pa_nil)) (nomark _))))) (pss_one (ps_ret pe_bl)) pss_nil)
      (pss_cons (ps_if (pt_cmpR (ne_rats (c_Ratio_eq T) (hr.mono (by decide))) (pe_ck (ck_weights_by_size T) hr (by decide) (by rfl) (pa_cons (pv 10) pa_nil) (pk_cons pe_int pk_nil)) (pe_ck (ck_weights_by_size T) hr (by decide) (by rfl) (pa_cons (pv 11) pa_nil) (pk_cons pe_int pk_nil)) (nomark _)) (pss_one (ps_ret pe_bl)) pss_nil)
      (pss_cons (ps_if (pt_not (pt_val (C8.pe_c (c__law_overlap_right T) hr (by decide) (by rfl) (pa_cons (pv 10) (pa_cons (pv 11) (pa_cons (pe_lc (own := [("_law_name", 14), ("_law_size", 15)]) (g := (gTup K 2 (gCons (gName 14) (gCons (gName 15) gNil)))) rfl nd (pi_list (pv 5)) (blkOk_by (own := [("_law_name", 14), ("_law_size", 15)]) (N := ["_law_script", "_law_k", "_law_box_here", "_law_lines", "_law_moved_here", "_law_variables", "_law_events", "_law_title", "_law_scope", "_law_bad", "_law_problem", "_law_other", "_law_event", "_law_values", "_law_name", "_law_size"]) (sc := defScope s_law) (by decide +kernel)) (fun _ _ _ _ _ => (pg_tup rfl (pgs_cons (pg_name (i := 14) nd rfl (Or.inl rfl)) (pgs_cons (pg_name (i := 15) nd rfl (Or.inl rfl)) pgs_nil)))) (fun _ _ _ _ _ => pts_nil) (fun _ _ _ _ _ => (pv 14))) (pa_cons (pv 3) pa_nil))))))) (pss_one (ps_ret pe_bl)) pss_nil)
      (pss_cons (ps_if (pt_cmpR (ne_rats (c_Ratio_eq T) (hr.mono (by decide))) (pe_lc (own := [("_law_event", 12)]) (g := (gName 12)) rfl nd (pi_list (pv 6)) (blkOk_by (own := [("_law_event", 12)]) (N := ["_law_script", "_law_k", "_law_box_here", "_law_lines", "_law_moved_here", "_law_variables", "_law_events", "_law_title", "_law_scope", "_law_bad", "_law_problem", "_law_other", "_law_event", "_law_values", "_law_name", "_law_size"]) (sc := defScope s_law) (by decide +kernel)) (fun _ _ _ _ _ => (pg_name (i := 12) nd rfl (Or.inl rfl))) (fun _ _ _ _ _ => pts_nil) (fun _ _ _ _ _ => (C8.pe_mt (c_Problem_probability T) hr (by decide) (pv 10) (pa_cons (pe_ix (ix_tupK (K := K) rfl) (pv 12) pe_int (fun _ _ => rfl)) pa_nil)))) (pe_lc (own := [("_law_event", 12)]) (g := (gName 12)) rfl nd (pi_list (pv 6)) (blkOk_by (own := [("_law_event", 12)]) (N := ["_law_script", "_law_k", "_law_box_here", "_law_lines", "_law_moved_here", "_law_variables", "_law_events", "_law_title", "_law_scope", "_law_bad", "_law_problem", "_law_other", "_law_event", "_law_values", "_law_name", "_law_size"]) (sc := defScope s_law) (by decide +kernel)) (fun _ _ _ _ _ => (pg_name (i := 12) nd rfl (Or.inl rfl))) (fun _ _ _ _ _ => pts_nil) (fun _ _ _ _ _ => (C8.pe_mt (c_Problem_probability T) hr (by decide) (pv 11) (pa_cons (pe_ix (ix_tupK (K := K) rfl) (pv 12) pe_int (fun _ _ => rfl)) pa_nil)))) (nomark _)) (pss_one (ps_ret pe_bl)) pss_nil)
      (pss_cons (ps_if (pt_not (pt_val (C8.pe_c (c__law_heaps_right T TB) hr (by decide) (by rfl) (pa_cons (pv 2) (pa_cons (pv 10) (pa_cons (pv 11) (pa_cons (pv 6) (pa_cons (pv 3) pa_nil)))))))) (pss_one (ps_ret pe_bl)) pss_nil)
      (pss_one (ps_if (pt_not (pt_val (C8.pe_c (c__law_runs_right T) hr (by decide) (by rfl) (pa_cons (pv 2) (pa_cons (pv 10) (pa_cons (pv 11) (pa_cons (pv 5) (pa_cons (pv 6) (pa_cons (pv 3) pa_nil))))))))) (pss_one (ps_ret pe_bl)) pss_nil))))))))))))))
      (pss_one (ps_ret pe_bl))), ?_⟩
  refine ⟨_, rfl, a, _, rfl, .inl (sql_s e hs), _, _, rfl, _, _, rfl, _, rfl, ?_, ?_, ?_⟩
  · split <;> (try split) <;> omega
  · split <;> (try split) <;> omega
  obtain ⟨z, hz, z0, z5⟩ : ∃ z : Int, (if (if (5 : Int) < (((List.map V.int l).length : Nat) : Int) then (5 : Int) else (((List.map V.int l).length : Nat) : Int)) > 2 then (if (5 : Int) < (((List.map V.int l).length : Nat) : Int) then (5 : Int) else (((List.map V.int l).length : Nat) : Int)) else 2) = z ∧ 0 ≤ z ∧ z ≤ 5 := ⟨_, rfl, by split <;> (try split) <;> omega, by split <;> (try split) <;> omega⟩
  rw [hz]
  refine for_range (lo := 0) (n := z.toNat) (fun i σ H' => ∃ F' w1 w2 w3 w4 w5 w6 w7 w8 w9 w10 w11, σ = [some (.ref a), w1, w2, w3, w4, w5, w6, w7, w8, w9, w10, w11, none, none, none, none] ∧ Same F F' ∧ Same F' H' ∧ Tb PT F' H') ⟨F, _, _, _, _, _, _, _, _, _, _, _, rfl, Same.refl _, e, tab⟩ ?_ ?_
  · rintro i σ H1 hi ⟨F1, w1, w2, w3, w4, w5, w6, w7, w8, w9, w10, w11, rfl, s1, e1, tab1⟩
    refine ⟨_, rfl, _, rfl, a, l, _, rfl, sql_s e1 (sql_s s1 hs), rfl, by omega, by omega, fun c => ⟨F1, c, rfl, e1, fun bx H2 nbx g2 B2 => ?_⟩⟩
    have tab2 := tab1.pu g2
    refine ⟨_, rfl, _, rfl, F1, bx, 0, 8, rfl, B2, by omega, rfl, by decide, by decide, g2.fh, fun r H3 r0 r8 g3 B3 => ⟨_, _, rfl, rfl, F1, bx, 1, 1 + r, rfl, B3, by omega, rfl, by omega, by omega, rfl, g3.fh, fun v F4 H4 vars evs g4 B4 hv okD => ?_⟩⟩
    have tab4 := (tab2.bx B2 g3).bx B3 g4
    obtain ⟨t, v0, v1, rfl, ht, hvars, hevs⟩ := hv
    have hvars : rL K (r2 K rS rI) F4 v0 vars := hvars
    have hevs : rL K (rEv K) F4 v1 evs := hevs
    refine ⟨t, [_, _], rfl, sqt_s g4.fh ht, rfl, _, [_], rfl, _, [], rfl, rfl, ?_⟩
    refine ⟨_, rfl, _, rfl, F4, bx, _, vars, rfl, B4, by omega, hvars, okD.v, g4.fh, fun v F5 H5 ln g5 B5 hln _ okL => ?_⟩
    have tab5 := tab4.bx B4 g5
    have hvars5 := Up.up g5.f hvars
    have hevs5 := Up.up g5.f hevs
    obtain ⟨ea, exs, rfl, hea, hexs⟩ := id hevs5
    have ev8 : evs.length ≤ 8 := okD.n8
    refine ⟨Nat.zero_le _, fun ma nma => ?_⟩
    have g6 : Pu F5 H5 F5 (upd H5 ma (.lst [])) := Gr.newm g5.fh nma
    have m6 := Mt.new (o := .lst []) g5.fh nma
    refine ⟨_, rfl, ea, rfl, ⟨_, sql_s g6.fh hea⟩, for_list (K := K) (a := ea) (xs := exs) (fun j σ H' => ∃ F' w7 w8 w9 mxs, σ = [some (.ref a), some (.int (0 + (i : Int))), some (.ref bx), some v, some (.ref ma), some v0, some (.ref ea), w7, w8, w9, w10, w11, none, none, none, none] ∧ Pu F5 H5 F' H' ∧ Mt F' H' ma (.lst mxs) ∧ All2 (rEv K) F' mxs (mvEvs ln (evs.take j)))
      ⟨F5, _, _, _, [], rfl, g6, m6, Paired.nil⟩ (fun j σ H' _ ⟨F', _, _, _, _, _, g, _⟩ => sql_s g.fh (sql_s g.f hea)) ?_ ?_⟩
    · rintro j y σ H7 hj ⟨F7, w7, w8, w9, mxs, rfl, g7, m7, hmx⟩
      obtain ⟨ev, hev, hy⟩ := hexs.get hj
      obtain ⟨qa, q0, q1, q2, rfl, hqa, hq0, hq1, hq2⟩ := hy
      cases hq0
      have hm := List.mem_of_getElem? hev
      have jlt := (List.getElem?_eq_some_iff.mp hev).1
      obtain ⟨t1, t2, t3⟩ := okD.tp ev hm
      have osc := okD.sc ev hm
      obtain ⟨ba, bxs, rfl, hba, hbxs⟩ := Up.up g7.f hq2
      refine ⟨qa, [_, _, _], rfl, sqt_s g7.fh (sqt_s g7.f hqa), rfl, _, [_, _], rfl, _, [_], rfl, _, [], rfl, rfl, ?_⟩
      refine ⟨_, rfl, .inl ⟨rfl, _, SqL.of m7.h⟩, _, rfl, _, rfl, _, rfl, ba, rfl, ⟨_, sql_s g7.fh hba⟩, ?_⟩
      refine lcL (K := K) (RA := rU K rI) (R := rU K rI) (f := movT ln ev.2.1) (p := fun _ => true) g7.fh hba hbxs (by omega) (fun t v' F8 H8 ht g8 hv Kt Kf k1 k2 => ?_) (fun L F8 H8 g8 hL => ?_)
      · have okt := t3 t ht
        exact ⟨rfl, _, rfl, _, rfl, _, rfl, F8, ln, vars, ev.2.1, t, g8.fh, Up.up (g7.f.trans g8.f) hln, okL, okD.v, Up.up (g7.f.trans g8.f) hq1, hv, okt, by have := osc.1.2; omega, fun v3 F9 H9 g9 hv3 => k1 rfl _ _ _ g9 hv3⟩
      · rw [ptrue] at hL
        have m8 := m7.pu g8
        refine ⟨le_line (by show 3 ≤ 1000000; omega), fun t nt => ?_⟩
        have g9 : Pu F8 H8 (upd F8 t (.tup [.str ev.1, q1, .ref L])) (upd H8 t (.tup [.str ev.1, q1, .ref L])) := Gr.new g8.fh nt
        have m9 := m8.pu g9
        have gt9 := (g7.trans g8).trans g9
        have ml := hmx.length
        have ml2 : (mvEvs ln (evs.take j)).length ≤ 8 := by unfold mvEvs; rw [List.length_map, List.length_take]; omega
        refine ⟨ma, mxs, .ref t, rfl, rfl, m9.h, lt_line (by omega), ?_⟩
        refine ⟨_, _, _, _, mxs ++ [.ref t], rfl, gt9.mut m9.n nma, m9.set, ?_⟩
        rw [List.take_succ, hev]
        unfold mvEvs
        rw [List.map_append]
        exact (hmx.up (g8.f.trans g9.f)).snoc ⟨t, _, _, _, rfl, SqT.of upd_same, rfl, Up.up (g7.f.trans (g8.f.trans g9.f)) hq1, Up.up g9.f hL⟩
    · rintro σ H7 ⟨F7, w7, w8, w9, mxs, rfl, g7, m7, hmx⟩
      have hl := hexs.length
      have hl : exs.length = evs.length := hl
      rw [List.take_of_length_le (by omega)] at hmx
      have gf : Pu F5 H5 (upd F7 ma (.lst mxs)) H7 := g7.frz m7.n nma m7.h
      have sf : Same F7 (upd F7 ma (.lst mxs)) := upd_new m7.n
      have hmv : rL K (rEv K) (upd F7 ma (.lst mxs)) (.ref ma) (mvEvs ln evs) := ⟨ma, mxs, rfl, SqL.of upd_same, hmx.up sf⟩
      have tab7 := tab5.pu gf
      have B7 := B5.pu gf
      have s57 := gf.f
      have e7 := gf.fh
      generalize upd F7 ma (.lst mxs) = F8 at hmv tab7 B7 s57 e7
      refine ⟨_, rfl, _, rfl, fun x dz nx nz ne => ⟨H7, F8, x, dz, vars, evs, rfl, rfl, nx, nz, ne, e7, Up.up s57 hvars5, Up.up s57 hevs5, okD, fun F9 H9 evs1 g9 sr1 hD => ⟨rfl, ?_⟩⟩⟩
      refine ⟨_, rfl, _, rfl, fun x2 dz2 nx2 nz2 ne2 => ⟨H9, F9, x2, dz2, vars, mvEvs ln evs, rfl, rfl, nx2, nz2, ne2, g9.fh, Up.up (s57.trans g9.f) hvars5, Up.up g9.f hmv, mvEvs_ok okD okL, fun F10 H10 evs2 g10 sr2 hE => ⟨rfl, ?_⟩⟩⟩
      have mv := mv_of okD okL sr1 sr2
      have hD := Up.up g10.f hD
      have tab10 := (tab7.pu g9).pu g10
      have B10 := (B7.pu g9).pu g10
      have s5A := s57.trans (g9.f.trans g10.f)
      have eA := g10.fh
      have sFA : Same F F10 := s1.trans (g2.f.trans (g3.f.trans (g4.f.trans (g5.f.trans s5A))))
      have hvarsA := Up.up s5A hvars5
      have hevsA := Up.up s5A hevs5
      have hlnA := Up.up s5A hln
      obtain ⟨D, hDe⟩ : ∃ D : PD, D = ⟨vars, evs1⟩ := ⟨_, rfl⟩
      obtain ⟨E', hEe⟩ : ∃ E' : PD, E' = ⟨vars, evs2⟩ := ⟨_, rfl⟩
      have hDv : D.vars = vars := by rw [hDe]
      have hDev : D.evs = evs1 := by rw [hDe]
      rw [← hDe] at hD mv
      rw [← hEe] at hE mv
      rw [← hDev] at sr1
      clear hDe hEe hDev
      refine ⟨le_line (by show 2 ≤ 1000000; omega), fun tp ntp => ?_⟩
      have gT : Pu F10 H10 (upd F10 tp (.tup [.ref x, .ref x2])) (upd H10 tp (.tup [.ref x, .ref x2])) := Gr.new eA ntp
      have hTup : SqT K (upd H10 tp (.tup [.ref x, .ref x2])) tp [.ref x, .ref x2] := SqT.of upd_same
      have hD := Up.up gT.f hD
      have hE := Up.up gT.f hE
      have tab10 := tab10.pu gT
      have B10 := B10.pu gT
      have sFA := sFA.trans gT.f
      have hvarsA := Up.up gT.f hvarsA
      have hevsA := Up.up gT.f hevsA
      have hlnA := Up.up gT.f hlnA
      have eA := gT.fh
      generalize upd F10 tp (.tup [.ref x, .ref x2]) = FA at gT hD hE tab10 B10 sFA hvarsA hevsA hlnA eA
      generalize upd H10 tp (.tup [.ref x, .ref x2]) = HA at gT hTup tab10 B10 eA
      refine ⟨tp, [_, _], rfl, hTup, rfl, _, [_], rfl, _, [], rfl, rfl, ?_⟩
      have okD' := mv.dok
      have evn : evs.map (·.1) = D.names := (Srt.names sr1).symm
      -- counts
      refine ⟨_, rfl, FA, D, eA, hD, fun v1 F11 H11 g11 hv1 => ⟨_, rfl, F11, E', g11.fh, Up.up g11.f hE, fun v2 F12 H12 g12 hv2 => ?_⟩⟩
      rw [mv.signed] at hv2
      refine neD (encL (encI (K := K))) (by decide) g12.fh (Up.up g12.f hv1) hv2 (fun _ _ => trivial) (fun _ _ => trivial) fun r1 hr1 => ⟨_, rfl, ?_⟩
      rw [hr1.mpr rfl]
      refine iteF ?_
      have g1C := g11.trans g12
      refine ⟨_, rfl, F12, D, rfl, g12.fh, Up.up g1C.f hD, fun v1 F13 H13 g13 hv1 => ⟨_, rfl, F13, E', rfl, g13.fh, Up.up (g1C.f.trans g13.f) hE, fun v2 F14 H14 g14 hv2 => ?_⟩⟩
      rw [mv.signed] at hv2
      refine neD (encL (encI (K := K))) (by decide) g14.fh (Up.up g14.f hv1) hv2 (fun _ _ => trivial) (fun _ _ => trivial) fun r2' hr2 => ⟨_, rfl, ?_⟩
      rw [hr2.mpr rfl]
      refine iteF ?_
      have g1E := (g1C.trans g13).trans g14
      -- weights
      refine ⟨_, rfl, rfl, rfl, F14, D, rfl, g14.fh, Up.up g1E.f hD, fun v1 F15 H15 g15 hv1 => ⟨_, rfl, rfl, rfl, F15, E', rfl, g15.fh, Up.up (g1E.f.trans g15.f) hE, fun v2 F16 H16 g16 hv2 => ?_⟩⟩
      rw [mv.weights] at hv2
      obtain ⟨a1, xs1, rfl, ha1, hx1⟩ := Up.up g16.f hv1
      obtain ⟨a2, xs2, rfl, ha2, hx2⟩ := hv2
      have g1G := (g1E.trans g15).trans g16
      refine ⟨a1, a2, xs1, xs2, rfl, rfl, sql_s g16.fh ha1, sql_s g16.fh ha2, all2_prs g16.fh hx1 hx2, fun H17 ex17 => ⟨_, rfl, iteF ?_⟩⟩
      have g17 : Pu F16 H16 F16 H17 := Gr.ext g16.fh ex17
      have g1H := g1G.trans g17
      have e17 := g17.fh
      -- the overlap
      obtain ⟨va, vxs, rfl, hva, hvxs⟩ := Up.up g1H.f hvarsA
      have vl8 := okD.v.1.2
      have vl8 : vars.length ≤ 8 := vl8
      refine ⟨_, rfl, _, rfl, _, rfl, va, rfl, ⟨_, sql_s e17 hva⟩, ?_⟩
      refine lcL (K := K) (RA := r2 K rS rI) (R := rS) (f := fun q => q.1) (p := fun _ => true) e17 hva hvxs (by omega) (fun y v' F3 H3 hy g3 hv Kt Kf k1 k2 => ?_) (fun NL F18 H18 g18 hNL => ?_)
      · obtain ⟨qa, q0, q1, rfl, hqa, hq0, hq1⟩ := hv
        cases hq0
        cases hq1
        exact ⟨qa, _, rfl, sqt_s g3.fh hqa, rfl, _, _, rfl, _, _, rfl, rfl, rfl, _, rfl, k1 rfl _ _ _ (Gr.refl g3.fh) rfl⟩
      rw [ptrue] at hNL
      have g1I := g1H.trans g18
      refine ⟨_, rfl, F18, D, E', ln, g18.fh, Up.up g1I.f hD, Up.up g1I.f hE, mv, by rw [hDv]; exact hNL, Up.up g1I.f hlnA, fun F19 H19 g19 => ⟨_, rfl, iteF ?_⟩⟩
      have g1J := g1I.trans g19
      -- the probabilities
      have evin : ∀ y ∈ evs, y.1 ∈ D.names := fun y hy => by rw [← evn]; exact List.mem_map_of_mem hy
      have hev19 := Up.up g1J.f hevsA
      obtain ⟨ea', exs', eea, hea', hexs'⟩ := id hev19
      cases eea
      refine ⟨_, rfl, ea, rfl, ⟨_, sql_s g19.fh hea'⟩, ?_⟩
      refine lcL (K := K) (RA := rEv K) (R := rR K) (f := fun y => D.prob y.1) (p := fun _ => true) g19.fh hea' hexs' (by omega) (fun y v' F3 H3 hy g3 hv Kt Kf k1 k2 => ?_) (fun P1 F20 H20 g20 hP1 => ?_)
      · obtain ⟨qa, q0, q1, q2, rfl, hqa, hq0, hq1, hq2⟩ := hv
        cases hq0
        have hDz := Up.up (g1J.f.trans g3.f) hD
        obtain ⟨p, dx, d1, d2, d3, ep, hp, _⟩ := id hDz
        cases ep
        have yn := evin y hy
        exact ⟨rfl, _, rfl, x, dx, _, rfl, hp.h g3.fh, pfsn (by decide +kernel), _, rfl, qa, _, _, .str y.1, rfl, rfl, sqt_s g3.fh hqa, rfl, F3, D, y.1, _, _, g3.fh, hDz.w, rfl, sc_of yn, ts_of yn, fun v F' H' g hv => k1 rfl _ _ _ g hv⟩
      rw [ptrue] at hP1
      have g1K := g1J.trans g20
      refine ⟨_, rfl, ea, rfl, ⟨_, sql_s g20.fh (sql_s g20.f hea')⟩, ?_⟩
      refine lcL (K := K) (RA := rEv K) (R := rR K) (f := fun y => E'.prob y.1) (p := fun _ => true) g20.fh (sql_s g20.f hea') (hexs'.up g20.f) (by omega) (fun y v' F3 H3 hy g3 hv Kt Kf k1 k2 => ?_) (fun P2 F21 H21 g21 hP2 => ?_)
      · obtain ⟨qa, q0, q1, q2, rfl, hqa, hq0, hq1, hq2⟩ := hv
        cases hq0
        have hEz := Up.up (g1K.f.trans g3.f) hE
        obtain ⟨p, dx, d1, d2, d3, ep, hp, _⟩ := id hEz
        cases ep
        have yn : y.1 ∈ E'.names := by rw [mv.names]; exact evin y hy
        exact ⟨rfl, _, rfl, x2, dx, _, rfl, hp.h g3.fh, pfsn (by decide +kernel), _, rfl, qa, _, _, .str y.1, rfl, rfl, sqt_s g3.fh hqa, rfl, F3, E', y.1, _, _, g3.fh, hEz.w, rfl, sc_of yn, ts_of yn, fun v F' H' g hv => k1 rfl _ _ _ g hv⟩
      rw [ptrue, mv.prob] at hP2
      obtain ⟨b1, ys1, eb1, hb1, hy1⟩ := Up.up g21.f hP1
      obtain ⟨b2, ys2, eb2, hb2, hy2⟩ := hP2
      cases eb1
      cases eb2
      have g1L := g1K.trans g21
      refine ⟨P1, P2, ys1, ys2, rfl, rfl, sql_s g21.fh hb1, sql_s g21.fh hb2, all2_prs g21.fh hy1 hy2, fun H22 ex22 => ⟨_, rfl, iteF ?_⟩⟩
      have g22 : Pu F21 H21 F21 H22 := Gr.ext g21.fh ex22
      have g1M := g1L.trans g22
      -- heaps and runs
      have B22 := B10.pu g1M
      have tab22 := tab10.pu g1M
      have hbp : bx ≠ PT := by
        obtain ⟨_, _, _, mm, _⟩ := B22
        exact tab22.ne mm (fun q z => by cases z)
      refine ⟨_, rfl, _, rfl, _, rfl, _, rfl, _, rfl, F21, bx, _, D, E', evs, ln, rfl, B22, by omega, Up.up g1M.f hD, Up.up g1M.f hE, mv, Up.up g1M.f hevsA, sr1, Up.up g1M.f hlnA, tab22, g22.fh, fun F23 H23 g23 B23 tab23 => ⟨_, rfl, iteF ?_⟩⟩
      have s23 := g1M.f.trans g23.f
      refine ⟨_, rfl, _, rfl, _, rfl, _, rfl, _, rfl, _, rfl, F23, bx, _, D, E', evs, ln, rfl, B23, by omega, Up.up s23 hD, Up.up s23 hE, mv, by rw [hDv]; exact Up.up s23 hvarsA, Up.up s23 hevsA, sr1, Up.up s23 hlnA, g23.fh, fun F24 H24 g24 B24 => ⟨_, rfl, iteF ?_⟩⟩
      exact ⟨F24, _, _, _, _, _, _, _, _, _, _, _, rfl, sFA.trans (s23.trans g24.f), g24.fh, tab23.bx B23 g24⟩
  · rintro σ H1 ⟨F1, w1, w2, w3, w4, w5, w6, w7, w8, w9, w10, w11, rfl, s1, e1, tab1⟩
    exact k _
end Rs
/-! text Rend -/
set_option Elab.async false
set_option linter.all false
set_option maxRecDepth 100000
set_option maxHeartbeats 0
namespace Rs
open PySem PySem.Spec PyProof.Rows L2 LamX
theorem law_start {K : PySem.W.Frag} {H : Hp} {a : Addr} {ns : List Int} (hl : ns.length ≤ 63) (hP : H 966 = some (.tbl #[])) (hS : SqL K H a (ns.map V.int)) : sp_law K 966 [.ref a] H (fun v _ => v = .bl true) fun _ _ _ => False := by
  refine ⟨fun b => if b = 966 then none else H b, a, ns, rfl, ?_, by omega, ⟨if_pos rfl, TabS.nil hP⟩, fun b o hb => ?_, fun _ => rfl⟩
  · rcases hS with (h | ⟨o, h⟩) | h
    · refine .inl (.inl ?_)
      show (if a = 966 then none else H a) = _
      rw [if_neg (fun z => by rw [z, hP] at h; cases h)]
      exact h
    · refine .inl (.inr ⟨o, ?_⟩)
      show (if a = 966 then none else H a) = _
      rw [if_neg (fun z => by rw [z, hP] at h; cases h)]
      exact h
    · exact .inr h
  · have hb : (if b = 966 then none else H b) = some o := hb
    by_cases e : b = 966
    · rw [if_pos e] at hb
      cases hb
    · rw [if_neg e] at hb
      exact hb
theorem law_at (w : World) {mg : Str → Option Value} {fa : Addr} {h : Heap} (Y : ∃ K : PySem.W.Frag, K.In h ∧ Said Rs.fa fn 966 h K) (G : h.Ns mainGlobals mg) (hmg : mg "law" = some (.ref fa)) :
    ∃ K : PySem.W.Frag, K.In h ∧ LawAtS PySem.Challenge.rw_resampler_k93_whole_values_renamed w K C8.CX0 10 63 "_law_script" mg fa h := by
  obtain ⟨K, KX, sd⟩ := Y
  have T : Tx K mg h := ⟨KX, G, sd.d, sd.ex⟩
  obtain ⟨fd, F⟩ := T.fd_law
  have e : fa = He.ga K "law" := by
    have := hmg.symm.trans T.gl_law
    cases this
    rfl
  subst e
  refine ⟨K, KX, fd, [(He.codeOf K ("layers_of", none), 966)], sp_law K 966, ?_, ?_, ?_, ?_, ?_, ?_⟩
  · intro p hp
    rw [List.mem_singleton.mp hp]
    exact sd.tab
  · intro p hp
    rw [List.mem_singleton.mp hp]
    exact sd.out
  · intro p hp
    rw [List.mem_singleton.mp hp]
    exact PySem.W.codeHd_of_K KX sd.hd
  · have b := FunD.bindsA (ps := ["_law_script"]) F fun _ _ _ _ _ _ us hl => match us, hl with | [_], _ => rfl
    exact fun s v => b s [v] rfl
  · intro H a ns hl _ hH hS
    exact law_start hl (hH _ (List.mem_singleton_self _)) hS
  · intro base KB GB hT
    have TB := hT _ (List.mem_singleton_self _)
    exact fnok_of F sc_law (fun vs H Q E h => by unfold sp_law at h; split at h <;> first | rfl | exact h.elim) (b_law T TB)
end Rs
/-! text Rfin -/
set_option Elab.async false
set_option linter.all false
set_option maxRecDepth 100000
set_option maxHeartbeats 0
open PySem PySem.W PySem.Calls PyProof.Rows
theorem PySem.Challenge.cw_resampler_k93_whole_values_renamed_holds : PySem.Challenge.rw_resampler_k93_whole_values_renamed.Holds := by
  w_on; o_law
  refine HandSHeadRun.head_any (r := OpenLaw.row PySem.Challenge.rw_resampler_k93_whole_values_renamed) (q := view (OpenLaw.row PySem.Challenge.rw_resampler_k93_whole_values_renamed).prog [99]) (H := Rs.hk) (ob := Rs.ob) (M := 20000) (loose := Rs.names) (d := HandSHeadRun.topDef (OpenLaw.row PySem.Challenge.rw_resampler_k93_whole_values_renamed).prog 99) (kwd := []) Rs.ob_eq
    (by kernel_rfl) (fun s => by kernel_rfl) Rs.run (by kernel_rfl) (by kernel_rfl) (by kernel_rfl) (by rfl) (by first | assumption | decide +kernel) (by decide +kernel) ⟨rfl, rfl, rfl, rfl, rfl, by decide +kernel⟩ ?hw ?hc
  case hw => w_witness2
  case hc =>
    refine LamX.walk_ofTsE (l := PySem.Challenge.rw_resampler_k93_whole_values_renamed) (n := 63) (k := 10) (x := "_law_script") (CX := fun _ => C8.CX0) rfl (by decide) (by kernel_rfl) ⟨rfl, by decide, by decide⟩ ?F (fun _ _ _ _ _ z => z)
    intro w mg fa h Y G hmg0
    have hmg : mg ("law" : PySem.Str) = some (.ref fa) := by
      have e : (HandSHeadRun.topDef (OpenLaw.row PySem.Challenge.rw_resampler_k93_whole_values_renamed).prog 99).name = ("law" : PySem.Str) := by kernel_rfl
      rw [← e]
      exact hmg0
    exact Rs.law_at w Y G hmg
