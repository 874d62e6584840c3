import PyProof.Rows.All
import Wide.All
import OpenK.AllK
import Wide.FinOn
import PySem.Challenge.RW_digitwise_k36_whole_plain_formulas
import HandS.ForMost
import HandS.HeadHook1
import HandS.HeadHook2
import HandS.HotCalls
import HandS.Set
import HandS.Defaults
import HandS.Property
import HandS.ExcCtx
import HandS.ExcInit
import HandS.RaiseMore
import KE.KExcSuper
import HandS.More
import HandS.HeadHook3
import HandS.Head2
import HandS.ExcField
import KE.KStateDown
import HandS.Head0
import HandS.Head1
import HandS.HeadEnd
import HandS.Comp
import KE.GoesComp
import KE.GoesRaise
import HandS.List
import HandS.Dict
import KE.KDictKeyed
import KE.KDictDisplayH
import HandS.SetBool
import HandS.SetTxt0
import PyProof.Rows.SortShellAny
import HandS.Flow
import HandS.Strs
import HandS.TupAny
import HandS.OwnEq
import HandS.ReCall
import HandS.IsInst
set_option Elab.async false
set_option linter.all false
set_option maxRecDepth 100000
set_option maxHeartbeats 4000000
namespace K36
open PySem PySem.Spec PyProof.Rows L2
def top (i : Nat) : Stmt := PySem.Challenge.pw_digitwise_k36_whole_plain_formulas.main.body.getD i (.Pass ⟨0, 0, 0, 0⟩)
abbrev s_Oversized_init : Stmt := inClass (top 5) 0
abbrev s_own_names : Stmt := top 9
theorem sc_own_names : FnScope ["formula", "head", "name", "coefficient"] ["formula"] (defScope s_own_names) := ⟨rfl, rfl, rfl, by decide +kernel, rfl, by decide +kernel, by decide +kernel⟩
abbrev s_parts : Stmt := top 10
theorem sc_parts : FnScope ["formula", "head"] ["formula"] (defScope s_parts) := ⟨rfl, rfl, rfl, by decide +kernel, rfl, by decide +kernel, by decide +kernel⟩
abbrev s_free_list : Stmt := top 11
theorem sc_free_list : FnScope ["formula", "found", "part", "name"] ["formula"] (defScope s_free_list) := ⟨rfl, rfl, rfl, by decide +kernel, rfl, by decide +kernel, by decide +kernel⟩
abbrev s_free_names : Stmt := top 12
theorem sc_free_names : FnScope ["formula", "name"] ["formula"] (defScope s_free_names) := ⟨rfl, rfl, rfl, by decide +kernel, rfl, by decide +kernel, by decide +kernel⟩
abbrev s_Book_init : Stmt := inClass (top 14) 0
theorem sc_Book_init : FnScope ["self"] ["self"] (defScope s_Book_init) := ⟨rfl, rfl, rfl, by decide +kernel, rfl, by decide +kernel, by decide +kernel⟩
abbrev s_Book_define : Stmt := inClass (top 14) 1
theorem sc_Book_define : FnScope ["self", "name", "parameters", "formula", "index", "free"] ["self", "name", "parameters", "formula"] (defScope s_Book_define) := ⟨rfl, rfl, rfl, by decide +kernel, rfl, by decide +kernel, by decide +kernel⟩
abbrev s_Book_tell : Stmt := inClass (top 14) 2
theorem sc_Book_tell : FnScope ["self", "word", "told"] ["self", "word", "told"] (defScope s_Book_tell) := ⟨rfl, rfl, rfl, by decide +kernel, rfl, by decide +kernel, by decide +kernel⟩
abbrev s_Book_parameters : Stmt := inClass (top 14) 3
theorem sc_Book_parameters : FnScope ["self", "name"] ["self", "name"] (defScope s_Book_parameters) := ⟨rfl, rfl, rfl, by decide +kernel, rfl, by decide +kernel, by decide +kernel⟩
abbrev s_Book_formula : Stmt := inClass (top 14) 4
theorem sc_Book_formula : FnScope ["self", "name"] ["self", "name"] (defScope s_Book_formula) := ⟨rfl, rfl, rfl, by decide +kernel, rfl, by decide +kernel, by decide +kernel⟩
abbrev s_Book_told : Stmt := inClass (top 14) 5
theorem sc_Book_told : FnScope ["self", "word"] ["self", "word"] (defScope s_Book_told) := ⟨rfl, rfl, rfl, by decide +kernel, rfl, by decide +kernel, by decide +kernel⟩
abbrev s_check_formula : Stmt := top 15
theorem sc_check_formula : FnScope ["book", "formula", "part"] ["book", "formula"] (defScope s_check_formula) := ⟨rfl, rfl, rfl, by decide +kernel, rfl, by decide +kernel, by decide +kernel⟩
abbrev s_letters : Stmt := top 17
theorem sc_letters : FnScope ["width"] ["width"] (defScope s_letters) := ⟨rfl, rfl, rfl, by decide +kernel, rfl, by decide +kernel, by decide +kernel⟩
abbrev s_digit : Stmt := top 18
theorem sc_digit : FnScope ["letter", "track"] ["letter", "track"] (defScope s_digit) := ⟨rfl, rfl, rfl, by decide +kernel, rfl, by decide +kernel, by decide +kernel⟩
abbrev s_letter_of : Stmt := top 19
theorem sc_letter_of : FnScope ["digits", "letter", "track"] ["digits"] (defScope s_letter_of) := ⟨rfl, rfl, rfl, by decide +kernel, rfl, by decide +kernel, by decide +kernel⟩
abbrev s_word_of : Stmt := top 20
theorem sc_word_of : FnScope ["numbers", "left", "word", "number"] ["numbers"] (defScope s_word_of) := ⟨rfl, rfl, rfl, by decide +kernel, rfl, by decide +kernel, by decide +kernel⟩
abbrev s_is_table : Stmt := top 25
theorem sc_is_table : FnScope ["width", "table", "accepting", "row", "state"] ["width", "table", "accepting"] (defScope s_is_table) := ⟨rfl, rfl, rfl, by decide +kernel, rfl, by decide +kernel, by decide +kernel⟩
abbrev s_Machine_init : Stmt := inClass (top 26) 0
theorem sc_Machine_init : FnScope ["self", "width", "table", "accepting", "state", "row"] ["self", "width", "table", "accepting"] (defScope s_Machine_init) := ⟨rfl, rfl, rfl, by decide +kernel, rfl, by decide +kernel, by decide +kernel⟩
abbrev s_Machine_size : Stmt := inClass (top 26) 1
theorem sc_Machine_size : FnScope ["self"] ["self"] (defScope s_Machine_size) := ⟨rfl, rfl, rfl, by decide +kernel, rfl, by decide +kernel, by decide +kernel⟩
abbrev s_Machine_behind : Stmt := inClass (top 26) 2
theorem sc_Machine_behind : FnScope ["self", "word", "state", "letter"] ["self", "word"] (defScope s_Machine_behind) := ⟨rfl, rfl, rfl, by decide +kernel, rfl, by decide +kernel, by decide +kernel⟩
abbrev s_Machine_accepts : Stmt := inClass (top 26) 3
theorem sc_Machine_accepts : FnScope ["self", "word"] ["self", "word"] (defScope s_Machine_accepts) := ⟨rfl, rfl, rfl, by decide +kernel, rfl, by decide +kernel, by decide +kernel⟩
abbrev s_Machine_takes : Stmt := inClass (top 26) 4
theorem sc_Machine_takes : FnScope ["self", "numbers"] ["self", "numbers"] (defScope s_Machine_takes) := ⟨rfl, rfl, rfl, by decide +kernel, rfl, by decide +kernel, by decide +kernel⟩
abbrev s_Search_init : Stmt := inClass (top 27) 0
theorem sc_Search_init : FnScope ["self", "start"] ["self", "start"] (defScope s_Search_init) := ⟨rfl, rfl, rfl, by decide +kernel, rfl, by decide +kernel, by decide +kernel⟩
abbrev s_Search_place : Stmt := inClass (top 27) 1
theorem sc_Search_place : FnScope ["self", "state"] ["self", "state"] (defScope s_Search_place) := ⟨rfl, rfl, rfl, by decide +kernel, rfl, by decide +kernel, by decide +kernel⟩
abbrev s_Search_waiting : Stmt := inClass (top 27) 2
theorem sc_Search_waiting : FnScope ["self"] ["self"] (defScope s_Search_waiting) := ⟨rfl, rfl, rfl, by decide +kernel, rfl, by decide +kernel, by decide +kernel⟩
abbrev s_Search_current : Stmt := inClass (top 27) 3
theorem sc_Search_current : FnScope ["self"] ["self"] (defScope s_Search_current) := ⟨rfl, rfl, rfl, by decide +kernel, rfl, by decide +kernel, by decide +kernel⟩
abbrev s_Search_enter : Stmt := inClass (top 27) 4
theorem sc_Search_enter : FnScope ["self", "successors", "state"] ["self", "successors"] (defScope s_Search_enter) := ⟨rfl, rfl, rfl, by decide +kernel, rfl, by decide +kernel, by decide +kernel⟩
abbrev s_numbered : Stmt := top 29
theorem sc_numbered : FnScope ["keys", "numbers", "result", "key"] ["keys"] (defScope s_numbered) := ⟨rfl, rfl, rfl, by decide +kernel, rfl, by decide +kernel, by decide +kernel⟩
abbrev s_classes : Stmt := top 30
theorem sc_classes : FnScope ["machine", "found", "finer", "state", "k"] ["machine"] (defScope s_classes) := ⟨rfl, rfl, rfl, by decide +kernel, rfl, by decide +kernel, by decide +kernel⟩
abbrev s_least_with_map : Stmt := top 31
theorem sc_least_with_map : FnScope ["machine", "group", "member", "state", "search", "row", "marks", "number", "places"] ["machine"] (defScope s_least_with_map) := ⟨rfl, rfl, rfl, by decide +kernel, rfl, by decide +kernel, by decide +kernel⟩
abbrev s_least : Stmt := top 32
theorem sc_least : FnScope ["machine"] ["machine"] (defScope s_least) := ⟨rfl, rfl, rfl, by decide +kernel, rfl, by decide +kernel, by decide +kernel⟩
abbrev s_digit_sum : Stmt := top 35
theorem sc_digit_sum : FnScope ["coefficients", "letter", "total", "coefficient"] ["coefficients", "letter"] (defScope s_digit_sum) := ⟨rfl, rfl, rfl, by decide +kernel, rfl, by decide +kernel, by decide +kernel⟩
abbrev s_equal_step : Stmt := top 36
theorem sc_equal_step : FnScope ["label", "total"] ["label", "total"] (defScope s_equal_step) := ⟨rfl, rfl, rfl, by decide +kernel, rfl, by decide +kernel, by decide +kernel⟩
abbrev s_at_most_step : Stmt := top 37
theorem sc_at_most_step : FnScope ["label", "total"] ["label", "total"] (defScope s_at_most_step) := ⟨rfl, rfl, rfl, by decide +kernel, rfl, by decide +kernel, by decide +kernel⟩
abbrev s_labelled : Stmt := top 38
theorem sc_labelled : FnScope ["coefficients", "start", "exact", "sums", "letters", "_", "letter", "labels", "states", "table", "label", "row", "total", "found"] ["coefficients", "start", "exact"] (defScope s_labelled) := ⟨rfl, rfl, rfl, by decide +kernel, rfl, by decide +kernel, by decide +kernel⟩
abbrev s_equation : Stmt := top 39
theorem sc_equation : FnScope ["coefficients", "constant", "labels", "table", "accepting", "label"] ["coefficients", "constant"] (defScope s_equation) := ⟨rfl, rfl, rfl, by decide +kernel, rfl, by decide +kernel, by decide +kernel⟩
abbrev s_at_most : Stmt := top 40
theorem sc_at_most : FnScope ["coefficients", "constant", "labels", "table", "accepting", "label"] ["coefficients", "constant"] (defScope s_at_most) := ⟨rfl, rfl, rfl, by decide +kernel, rfl, by decide +kernel, by decide +kernel⟩
abbrev s_joined : Stmt := top 43
theorem sc_joined : FnScope ["name", "one", "two"] ["name", "one", "two"] (defScope s_joined) := ⟨rfl, rfl, rfl, by decide +kernel, rfl, by decide +kernel, by decide +kernel⟩
abbrev s_both_with_pairs : Stmt := top 44
theorem sc_both_with_pairs : FnScope ["one", "two", "name", "search", "first", "second", "successors", "letter", "marks"] ["one", "two", "name"] (defScope s_both_with_pairs) := ⟨rfl, rfl, rfl, by decide +kernel, rfl, by decide +kernel, by decide +kernel⟩
abbrev s_both : Stmt := top 45
theorem sc_both : FnScope ["one", "two", "name"] ["one", "two", "name"] (defScope s_both) := ⟨rfl, rfl, rfl, by decide +kernel, rfl, by decide +kernel, by decide +kernel⟩
abbrev s_complement : Stmt := top 46
theorem sc_complement : FnScope ["machine", "mark"] ["machine"] (defScope s_complement) := ⟨rfl, rfl, rfl, by decide +kernel, rfl, by decide +kernel, by decide +kernel⟩
abbrev s_is_output : Stmt := top 55
theorem sc_is_output : FnScope ["value"] ["value"] (defScope s_is_output) := ⟨rfl, rfl, rfl, by decide +kernel, rfl, by decide +kernel, by decide +kernel⟩
abbrev s_is_row : Stmt := top 56
theorem sc_is_row : FnScope ["row", "states", "state"] ["row", "states"] (defScope s_is_row) := ⟨rfl, rfl, rfl, by decide +kernel, rfl, by decide +kernel, by decide +kernel⟩
abbrev s_Told_init : Stmt := inClass (top 57) 0
theorem sc_Told_init : FnScope ["self", "outputs", "table", "output", "row", "state"] ["self", "outputs", "table"] (defScope s_Told_init) := ⟨rfl, rfl, rfl, by decide +kernel, rfl, by decide +kernel, by decide +kernel⟩
abbrev s_Told_machine : Stmt := inClass (top 57) 2
theorem sc_Told_machine : FnScope ["self", "output", "found"] ["self", "output"] (defScope s_Told_machine) := ⟨rfl, rfl, rfl, by decide +kernel, rfl, by decide +kernel, by decide +kernel⟩
abbrev s_powers : Stmt := top 58
theorem sc_powers : FnScope [] [] (defScope s_powers) := ⟨rfl, rfl, rfl, by decide +kernel, rfl, by decide +kernel, by decide +kernel⟩
abbrev s_check_places : Stmt := top 60
theorem sc_check_places : FnScope ["machine", "places", "width", "place"] ["machine", "places", "width"] (defScope s_check_places) := ⟨rfl, rfl, rfl, by decide +kernel, rfl, by decide +kernel, by decide +kernel⟩
abbrev s_spread_with_states : Stmt := top 61
theorem sc_spread_with_states : FnScope ["machine", "places", "width", "old", "letter", "place", "search", "row", "marks", "state"] ["machine", "places", "width"] (defScope s_spread_with_states) := ⟨rfl, rfl, rfl, by decide +kernel, rfl, by decide +kernel, by decide +kernel⟩
abbrev s_spread : Stmt := top 62
theorem sc_spread : FnScope ["machine", "places", "width"] ["machine", "places", "width"] (defScope s_spread) := ⟨rfl, rfl, rfl, by decide +kernel, rfl, by decide +kernel, by decide +kernel⟩
abbrev s_places_in : Stmt := top 65
theorem sc_places_in : FnScope ["names", "wider", "name"] ["names", "wider"] (defScope s_places_in) := ⟨rfl, rfl, rfl, by decide +kernel, rfl, by decide +kernel, by decide +kernel⟩
abbrev s_Compiler_init : Stmt := inClass (top 67) 0
theorem sc_Compiler_init : FnScope ["self", "book"] ["self", "book"] (defScope s_Compiler_init) := ⟨rfl, rfl, rfl, by decide +kernel, rfl, by decide +kernel, by decide +kernel⟩
abbrev s_Compiler_compiled : Stmt := inClass (top 67) 1
theorem sc_Compiler_compiled : FnScope ["self", "formula"] ["self", "formula"] (defScope s_Compiler_compiled) := ⟨rfl, rfl, rfl, by decide +kernel, rfl, by decide +kernel, by decide +kernel⟩
abbrev s_Compiler_definition : Stmt := inClass (top 67) 2
theorem sc_Compiler_definition : FnScope ["self", "name", "formula"] ["self", "name"] (defScope s_Compiler_definition) := ⟨rfl, rfl, rfl, by decide +kernel, rfl, by decide +kernel, by decide +kernel⟩
abbrev s_Compiler_made : Stmt := inClass (top 67) 3
theorem sc_Compiler_made : FnScope ["self", "formula", "head", "names", "machine"] ["self", "formula"] (defScope s_Compiler_made) := ⟨rfl, rfl, rfl, by decide +kernel, rfl, by decide +kernel, by decide +kernel⟩
abbrev s_Compiler_made_linear : Stmt := inClass (top 67) 4
theorem sc_Compiler_made_linear : FnScope ["self", "head", "term", "names", "name", "coefficient", "coefficients", "maker"] ["self", "head", "term"] (defScope s_Compiler_made_linear) := ⟨rfl, rfl, rfl, by decide +kernel, rfl, by decide +kernel, by decide +kernel⟩
abbrev s_Compiler_made_joined : Stmt := inClass (top 67) 5
theorem sc_Compiler_made_joined : FnScope ["self", "formula", "first_names", "first", "second_names", "second", "names", "one", "two"] ["self", "formula"] (defScope s_Compiler_made_joined) := ⟨rfl, rfl, rfl, by decide +kernel, rfl, by decide +kernel, by decide +kernel⟩
abbrev s_Compiler_made_call : Stmt := inClass (top 67) 7
theorem sc_Compiler_made_call : FnScope ["self", "formula", "own_names", "machine", "parameters", "names", "given", "name"] ["self", "formula"] (defScope s_Compiler_made_call) := ⟨rfl, rfl, rfl, by decide +kernel, rfl, by decide +kernel, by decide +kernel⟩
abbrev s_compile_formula : Stmt := top 68
theorem sc_compile_formula : FnScope ["book", "formula"] ["book", "formula"] (defScope s_compile_formula) := ⟨rfl, rfl, rfl, by decide +kernel, rfl, by decide +kernel, by decide +kernel⟩
abbrev s__law_wide : Stmt := top 70
theorem sc__law_wide : FnScope ["_law_script", "_law_k", "_law_cell", "_law_mixed"] ["_law_script", "_law_k"] (defScope s__law_wide) := ⟨rfl, rfl, rfl, by decide +kernel, rfl, by decide +kernel, by decide +kernel⟩
abbrev s__law_take : Stmt := top 71
theorem sc__law_take : FnScope ["_law_pool_here", "_law_most", "_law_taken"] ["_law_pool_here", "_law_most"] (defScope s__law_take) := ⟨rfl, rfl, rfl, by decide +kernel, rfl, by decide +kernel, by decide +kernel⟩
abbrev s__law_pool : Stmt := top 72
theorem sc__law_pool : FnScope ["_law_script"] ["_law_script"] (defScope s__law_pool) := ⟨rfl, rfl, rfl, by decide +kernel, rfl, by decide +kernel, by decide +kernel⟩
abbrev s__law_number : Stmt := top 73
theorem sc__law_number : FnScope ["_law_pool_here", "_law_choice"] ["_law_pool_here"] (defScope s__law_number) := ⟨rfl, rfl, rfl, by decide +kernel, rfl, by decide +kernel, by decide +kernel⟩
abbrev s__law_told_states : Stmt := top 74
theorem sc__law_told_states : FnScope ["_law_pool_here", "_law_size", "_law_table", "_law_k", "_law_outputs", "_law_state", "_law_seen", "_law_ring"] ["_law_pool_here"] (defScope s__law_told_states) := ⟨rfl, rfl, rfl, by decide +kernel, rfl, by decide +kernel, by decide +kernel⟩
abbrev s__law_small_term : Stmt := top 75
theorem sc__law_small_term : FnScope ["_law_pool_here", "_law_names", "_law_pairs", "_law_k", "_law_constant", "_law_name"] ["_law_pool_here", "_law_names"] (defScope s__law_small_term) := ⟨rfl, rfl, rfl, by decide +kernel, rfl, by decide +kernel, by decide +kernel⟩
abbrev s__law_atom : Stmt := top 76
theorem sc__law_atom : FnScope ["_law_pool_here", "_law_names", "_law_choice", "_law_name"] ["_law_pool_here", "_law_names"] (defScope s__law_atom) := ⟨rfl, rfl, rfl, by decide +kernel, rfl, by decide +kernel, by decide +kernel⟩
abbrev s__law_plain : Stmt := top 77
theorem sc__law_plain : FnScope ["_law_pool_here", "_law_names", "_law_depth", "_law_choice", "_law_left"] ["_law_pool_here", "_law_names", "_law_depth"] (defScope s__law_plain) := ⟨rfl, rfl, rfl, by decide +kernel, rfl, by decide +kernel, by decide +kernel⟩
abbrev s__law_world : Stmt := top 78
theorem sc__law_world : FnScope ["_law_pool_here", "_law_words", "_law_calls"] ["_law_pool_here"] (defScope s__law_world) := ⟨rfl, rfl, rfl, by decide +kernel, rfl, by decide +kernel, by decide +kernel⟩
abbrev s__law_book : Stmt := top 79
theorem sc__law_book : FnScope ["_law_world_here", "_law_book_here", "_law_word", "_law_name"] ["_law_world_here"] (defScope s__law_book) := ⟨rfl, rfl, rfl, by decide +kernel, rfl, by decide +kernel, by decide +kernel⟩
abbrev s__law_output : Stmt := top 80
theorem sc__law_output : FnScope ["_law_world_here", "_law_word", "_law_number_here", "_law_state"] ["_law_world_here", "_law_word", "_law_number_here"] (defScope s__law_output) := ⟨rfl, rfl, rfl, by decide +kernel, rfl, by decide +kernel, by decide +kernel⟩
abbrev s__law_power : Stmt := top 81
theorem sc__law_power : FnScope ["_law_number_here"] ["_law_number_here"] (defScope s__law_power) := ⟨rfl, rfl, rfl, by decide +kernel, rfl, by decide +kernel, by decide +kernel⟩
abbrev s__law_joins_truth : Stmt := top 82
theorem sc__law_joins_truth : FnScope ["_law_head", "_law_left", "_law_right"] ["_law_head", "_law_left", "_law_right"] (defScope s__law_joins_truth) := ⟨rfl, rfl, rfl, by decide +kernel, rfl, by decide +kernel, by decide +kernel⟩
abbrev s__law_total : Stmt := top 83
theorem sc__law_total : FnScope ["_law_term", "_law_numbers", "_law_total_here", "_law_pair"] ["_law_term", "_law_numbers"] (defScope s__law_total) := ⟨rfl, rfl, rfl, by decide +kernel, rfl, by decide +kernel, by decide +kernel⟩
abbrev s__law_truth : Stmt := top 84
theorem sc__law_truth : FnScope ["_law_world_here", "_law_formula", "_law_numbers", "_law_most", "_law_head", "_law_total_here", "_law_row", "_law_inner", "_law_k", "_law_number_here", "_law_left"] ["_law_world_here", "_law_formula", "_law_numbers", "_law_most"] (defScope s__law_truth) := ⟨rfl, rfl, rfl, by decide +kernel, rfl, by decide +kernel, by decide +kernel⟩
abbrev s__law_too_large : Stmt := top 86
theorem sc__law_too_large : FnScope ["_law_book_here", "_law_formula", "_law_head", "_law_names", "_law_machine", "_law_sizes", "_law_part"] ["_law_book_here", "_law_formula"] (defScope s__law_too_large) := ⟨rfl, rfl, rfl, by decide +kernel, rfl, by decide +kernel, by decide +kernel⟩
abbrev s__law_made : Stmt := top 87
theorem sc__law_made : FnScope ["_law_book_here", "_law_world_here", "_law_formula", "e"] ["_law_book_here", "_law_world_here", "_law_formula"] (defScope s__law_made) := ⟨rfl, rfl, rfl, by decide +kernel, rfl, by decide +kernel, by decide +kernel⟩
abbrev s__law_called : Stmt := top 88
theorem sc__law_called : FnScope ["_law_pool_here", "_law_formula", "_law_names", "_law_given", "_law_parts"] ["_law_pool_here", "_law_formula", "_law_names"] (defScope s__law_called) := ⟨rfl, rfl, rfl, by decide +kernel, rfl, by decide +kernel, by decide +kernel⟩
abbrev s__law_free : Stmt := top 89
theorem sc__law_free : FnScope ["_law_formula", "_law_pair", "_law_found"] ["_law_formula"] (defScope s__law_free) := ⟨rfl, rfl, rfl, by decide +kernel, rfl, by decide +kernel, by decide +kernel⟩
abbrev s__law_marked : Stmt := top 90
theorem sc__law_marked : FnScope ["_law_machine", "_law_row", "_law_state", "_law_rest", "_law_k", "_law_letter", "_law_j"] ["_law_machine", "_law_row"] (defScope s__law_marked) := ⟨rfl, rfl, rfl, by decide +kernel, rfl, by decide +kernel, by decide +kernel⟩
abbrev s__law_once : Stmt := top 91
theorem sc__law_once : FnScope ["_law_names", "_law_found", "_law_name"] ["_law_names"] (defScope s__law_once) := ⟨rfl, rfl, rfl, by decide +kernel, rfl, by decide +kernel, by decide +kernel⟩
abbrev s_law : Stmt := top 92
theorem sc_law : FnScope ["_law_script", "_law_pool_here", "_law_world_here", "_law_names", "_law_formula", "_law_made_here", "_law_free_here", "_law_k", "_law_numbers", "_law_near", "_law_name", "_law_due", "_law_row"] ["_law_script"] (defScope s_law) := ⟨rfl, rfl, rfl, by decide +kernel, rfl, by decide +kernel, by decide +kernel⟩
def d_Oversized_init : He.DefD := ⟨("Oversized", some "__init__"), "__init__", "Oversized.__init__", defArgs s_Oversized_init, defBody s_Oversized_init, defScope s_Oversized_init, [], []⟩
def d_own_names : He.DefD := ⟨("own_names", none), "own_names", "own_names", defArgs s_own_names, defBody s_own_names, defScope s_own_names, [], []⟩
def d_parts : He.DefD := ⟨("parts", none), "parts", "parts", defArgs s_parts, defBody s_parts, defScope s_parts, [], []⟩
def d_free_list : He.DefD := ⟨("free_list", none), "free_list", "free_list", defArgs s_free_list, defBody s_free_list, defScope s_free_list, [], []⟩
def d_free_names : He.DefD := ⟨("free_names", none), "free_names", "free_names", defArgs s_free_names, defBody s_free_names, defScope s_free_names, [], []⟩
def d_Book_init : He.DefD := ⟨("Book", some "__init__"), "__init__", "Book.__init__", defArgs s_Book_init, defBody s_Book_init, defScope s_Book_init, [], []⟩
def d_Book_define : He.DefD := ⟨("Book", some "define"), "define", "Book.define", defArgs s_Book_define, defBody s_Book_define, defScope s_Book_define, [], []⟩
def d_Book_tell : He.DefD := ⟨("Book", some "tell"), "tell", "Book.tell", defArgs s_Book_tell, defBody s_Book_tell, defScope s_Book_tell, [], []⟩
def d_Book_parameters : He.DefD := ⟨("Book", some "parameters"), "parameters", "Book.parameters", defArgs s_Book_parameters, defBody s_Book_parameters, defScope s_Book_parameters, [], []⟩
def d_Book_formula : He.DefD := ⟨("Book", some "formula"), "formula", "Book.formula", defArgs s_Book_formula, defBody s_Book_formula, defScope s_Book_formula, [], []⟩
def d_Book_told : He.DefD := ⟨("Book", some "told"), "told", "Book.told", defArgs s_Book_told, defBody s_Book_told, defScope s_Book_told, [], []⟩
def d_check_formula : He.DefD := ⟨("check_formula", none), "check_formula", "check_formula", defArgs s_check_formula, defBody s_check_formula, defScope s_check_formula, [], []⟩
def d_letters : He.DefD := ⟨("letters", none), "letters", "letters", defArgs s_letters, defBody s_letters, defScope s_letters, [], []⟩
def d_digit : He.DefD := ⟨("digit", none), "digit", "digit", defArgs s_digit, defBody s_digit, defScope s_digit, [], []⟩
def d_letter_of : He.DefD := ⟨("letter_of", none), "letter_of", "letter_of", defArgs s_letter_of, defBody s_letter_of, defScope s_letter_of, [], []⟩
def d_word_of : He.DefD := ⟨("word_of", none), "word_of", "word_of", defArgs s_word_of, defBody s_word_of, defScope s_word_of, [], []⟩
def d_is_table : He.DefD := ⟨("is_table", none), "is_table", "is_table", defArgs s_is_table, defBody s_is_table, defScope s_is_table, [], []⟩
def d_Machine_init : He.DefD := ⟨("Machine", some "__init__"), "__init__", "Machine.__init__", defArgs s_Machine_init, defBody s_Machine_init, defScope s_Machine_init, [], []⟩
def d_Machine_size : He.DefD := ⟨("Machine", some "size"), "size", "Machine.size", defArgs s_Machine_size, defBody s_Machine_size, defScope s_Machine_size, [], []⟩
def d_Machine_behind : He.DefD := ⟨("Machine", some "behind"), "behind", "Machine.behind", defArgs s_Machine_behind, defBody s_Machine_behind, defScope s_Machine_behind, [], []⟩
def d_Machine_accepts : He.DefD := ⟨("Machine", some "accepts"), "accepts", "Machine.accepts", defArgs s_Machine_accepts, defBody s_Machine_accepts, defScope s_Machine_accepts, [], []⟩
def d_Machine_takes : He.DefD := ⟨("Machine", some "takes"), "takes", "Machine.takes", defArgs s_Machine_takes, defBody s_Machine_takes, defScope s_Machine_takes, [], []⟩
def d_Search_init : He.DefD := ⟨("Search", some "__init__"), "__init__", "Search.__init__", defArgs s_Search_init, defBody s_Search_init, defScope s_Search_init, [], []⟩
def d_Search_place : He.DefD := ⟨("Search", some "place"), "place", "Search.place", defArgs s_Search_place, defBody s_Search_place, defScope s_Search_place, [], []⟩
def d_Search_waiting : He.DefD := ⟨("Search", some "waiting"), "waiting", "Search.waiting", defArgs s_Search_waiting, defBody s_Search_waiting, defScope s_Search_waiting, [], []⟩
def d_Search_current : He.DefD := ⟨("Search", some "current"), "current", "Search.current", defArgs s_Search_current, defBody s_Search_current, defScope s_Search_current, [], []⟩
def d_Search_enter : He.DefD := ⟨("Search", some "enter"), "enter", "Search.enter", defArgs s_Search_enter, defBody s_Search_enter, defScope s_Search_enter, [], []⟩
def d_numbered : He.DefD := ⟨("numbered", none), "numbered", "numbered", defArgs s_numbered, defBody s_numbered, defScope s_numbered, [], []⟩
def d_classes : He.DefD := ⟨("classes", none), "classes", "classes", defArgs s_classes, defBody s_classes, defScope s_classes, [], []⟩
def d_least_with_map : He.DefD := ⟨("least_with_map", none), "least_with_map", "least_with_map", defArgs s_least_with_map, defBody s_least_with_map, defScope s_least_with_map, [], []⟩
def d_least : He.DefD := ⟨("least", none), "least", "least", defArgs s_least, defBody s_least, defScope s_least, [], []⟩
def d_digit_sum : He.DefD := ⟨("digit_sum", none), "digit_sum", "digit_sum", defArgs s_digit_sum, defBody s_digit_sum, defScope s_digit_sum, [], []⟩
def d_equal_step : He.DefD := ⟨("equal_step", none), "equal_step", "equal_step", defArgs s_equal_step, defBody s_equal_step, defScope s_equal_step, [], []⟩
def d_at_most_step : He.DefD := ⟨("at_most_step", none), "at_most_step", "at_most_step", defArgs s_at_most_step, defBody s_at_most_step, defScope s_at_most_step, [], []⟩
def d_labelled : He.DefD := ⟨("labelled", none), "labelled", "labelled", defArgs s_labelled, defBody s_labelled, defScope s_labelled, [], []⟩
def d_equation : He.DefD := ⟨("equation", none), "equation", "equation", defArgs s_equation, defBody s_equation, defScope s_equation, [], []⟩
def d_at_most : He.DefD := ⟨("at_most", none), "at_most", "at_most", defArgs s_at_most, defBody s_at_most, defScope s_at_most, [], []⟩
def d_joined : He.DefD := ⟨("joined", none), "joined", "joined", defArgs s_joined, defBody s_joined, defScope s_joined, [], []⟩
def d_both_with_pairs : He.DefD := ⟨("both_with_pairs", none), "both_with_pairs", "both_with_pairs", defArgs s_both_with_pairs, defBody s_both_with_pairs, defScope s_both_with_pairs, [], []⟩
def d_both : He.DefD := ⟨("both", none), "both", "both", defArgs s_both, defBody s_both, defScope s_both, [], []⟩
def d_complement : He.DefD := ⟨("complement", none), "complement", "complement", defArgs s_complement, defBody s_complement, defScope s_complement, [], []⟩
def d_is_output : He.DefD := ⟨("is_output", none), "is_output", "is_output", defArgs s_is_output, defBody s_is_output, defScope s_is_output, [], []⟩
def d_is_row : He.DefD := ⟨("is_row", none), "is_row", "is_row", defArgs s_is_row, defBody s_is_row, defScope s_is_row, [], []⟩
def d_Told_init : He.DefD := ⟨("Told", some "__init__"), "__init__", "Told.__init__", defArgs s_Told_init, defBody s_Told_init, defScope s_Told_init, [], []⟩
def d_Told_machine : He.DefD := ⟨("Told", some "machine"), "machine", "Told.machine", defArgs s_Told_machine, defBody s_Told_machine, defScope s_Told_machine, [], []⟩
def d_powers : He.DefD := ⟨("powers", none), "powers", "powers", defArgs s_powers, defBody s_powers, defScope s_powers, [], []⟩
def d_check_places : He.DefD := ⟨("check_places", none), "check_places", "check_places", defArgs s_check_places, defBody s_check_places, defScope s_check_places, [], []⟩
def d_spread_with_states : He.DefD := ⟨("spread_with_states", none), "spread_with_states", "spread_with_states", defArgs s_spread_with_states, defBody s_spread_with_states, defScope s_spread_with_states, [], []⟩
def d_spread : He.DefD := ⟨("spread", none), "spread", "spread", defArgs s_spread, defBody s_spread, defScope s_spread, [], []⟩
def d_places_in : He.DefD := ⟨("places_in", none), "places_in", "places_in", defArgs s_places_in, defBody s_places_in, defScope s_places_in, [], []⟩
def d_Compiler_init : He.DefD := ⟨("Compiler", some "__init__"), "__init__", "Compiler.__init__", defArgs s_Compiler_init, defBody s_Compiler_init, defScope s_Compiler_init, [], []⟩
def d_Compiler_compiled : He.DefD := ⟨("Compiler", some "compiled"), "compiled", "Compiler.compiled", defArgs s_Compiler_compiled, defBody s_Compiler_compiled, defScope s_Compiler_compiled, [], []⟩
def d_Compiler_definition : He.DefD := ⟨("Compiler", some "definition"), "definition", "Compiler.definition", defArgs s_Compiler_definition, defBody s_Compiler_definition, defScope s_Compiler_definition, [], []⟩
def d_Compiler_made : He.DefD := ⟨("Compiler", some "_made"), "_made", "Compiler._made", defArgs s_Compiler_made, defBody s_Compiler_made, defScope s_Compiler_made, [], []⟩
def d_Compiler_made_linear : He.DefD := ⟨("Compiler", some "_made_linear"), "_made_linear", "Compiler._made_linear", defArgs s_Compiler_made_linear, defBody s_Compiler_made_linear, defScope s_Compiler_made_linear, [], []⟩
def d_Compiler_made_joined : He.DefD := ⟨("Compiler", some "_made_joined"), "_made_joined", "Compiler._made_joined", defArgs s_Compiler_made_joined, defBody s_Compiler_made_joined, defScope s_Compiler_made_joined, [], []⟩
def d_Compiler_made_call : He.DefD := ⟨("Compiler", some "_made_call"), "_made_call", "Compiler._made_call", defArgs s_Compiler_made_call, defBody s_Compiler_made_call, defScope s_Compiler_made_call, [], []⟩
def d_compile_formula : He.DefD := ⟨("compile_formula", none), "compile_formula", "compile_formula", defArgs s_compile_formula, defBody s_compile_formula, defScope s_compile_formula, [], []⟩
def d__law_wide : He.DefD := ⟨("_law_wide", none), "_law_wide", "_law_wide", defArgs s__law_wide, defBody s__law_wide, defScope s__law_wide, [], []⟩
def d__law_take : He.DefD := ⟨("_law_take", none), "_law_take", "_law_take", defArgs s__law_take, defBody s__law_take, defScope s__law_take, [], []⟩
def d__law_pool : He.DefD := ⟨("_law_pool", none), "_law_pool", "_law_pool", defArgs s__law_pool, defBody s__law_pool, defScope s__law_pool, [], []⟩
def d__law_number : He.DefD := ⟨("_law_number", none), "_law_number", "_law_number", defArgs s__law_number, defBody s__law_number, defScope s__law_number, [], []⟩
def d__law_told_states : He.DefD := ⟨("_law_told_states", none), "_law_told_states", "_law_told_states", defArgs s__law_told_states, defBody s__law_told_states, defScope s__law_told_states, [], []⟩
def d__law_small_term : He.DefD := ⟨("_law_small_term", none), "_law_small_term", "_law_small_term", defArgs s__law_small_term, defBody s__law_small_term, defScope s__law_small_term, [], []⟩
def d__law_atom : He.DefD := ⟨("_law_atom", none), "_law_atom", "_law_atom", defArgs s__law_atom, defBody s__law_atom, defScope s__law_atom, [], []⟩
def d__law_plain : He.DefD := ⟨("_law_plain", none), "_law_plain", "_law_plain", defArgs s__law_plain, defBody s__law_plain, defScope s__law_plain, [], []⟩
def d__law_world : He.DefD := ⟨("_law_world", none), "_law_world", "_law_world", defArgs s__law_world, defBody s__law_world, defScope s__law_world, [], []⟩
def d__law_book : He.DefD := ⟨("_law_book", none), "_law_book", "_law_book", defArgs s__law_book, defBody s__law_book, defScope s__law_book, [], []⟩
def d__law_output : He.DefD := ⟨("_law_output", none), "_law_output", "_law_output", defArgs s__law_output, defBody s__law_output, defScope s__law_output, [], []⟩
def d__law_power : He.DefD := ⟨("_law_power", none), "_law_power", "_law_power", defArgs s__law_power, defBody s__law_power, defScope s__law_power, [], []⟩
def d__law_joins_truth : He.DefD := ⟨("_law_joins_truth", none), "_law_joins_truth", "_law_joins_truth", defArgs s__law_joins_truth, defBody s__law_joins_truth, defScope s__law_joins_truth, [], []⟩
def d__law_total : He.DefD := ⟨("_law_total", none), "_law_total", "_law_total", defArgs s__law_total, defBody s__law_total, defScope s__law_total, [], []⟩
def d__law_truth : He.DefD := ⟨("_law_truth", none), "_law_truth", "_law_truth", defArgs s__law_truth, defBody s__law_truth, defScope s__law_truth, [], []⟩
def d__law_too_large : He.DefD := ⟨("_law_too_large", none), "_law_too_large", "_law_too_large", defArgs s__law_too_large, defBody s__law_too_large, defScope s__law_too_large, [], []⟩
def d__law_made : He.DefD := ⟨("_law_made", none), "_law_made", "_law_made", defArgs s__law_made, defBody s__law_made, defScope s__law_made, [], []⟩
def d__law_called : He.DefD := ⟨("_law_called", none), "_law_called", "_law_called", defArgs s__law_called, defBody s__law_called, defScope s__law_called, [], []⟩
def d__law_free : He.DefD := ⟨("_law_free", none), "_law_free", "_law_free", defArgs s__law_free, defBody s__law_free, defScope s__law_free, [], []⟩
def d__law_marked : He.DefD := ⟨("_law_marked", none), "_law_marked", "_law_marked", defArgs s__law_marked, defBody s__law_marked, defScope s__law_marked, [], []⟩
def d__law_once : He.DefD := ⟨("_law_once", none), "_law_once", "_law_once", defArgs s__law_once, defBody s__law_once, defScope s__law_once, [], []⟩
def d_law : He.DefD := ⟨("law", none), "law", "law", defArgs s_law, defBody s_law, defScope s_law, [], []⟩
def fn0 : List He.DefD := [d_own_names, d_parts, d_free_list, d_free_names, d_Book_init, d_Book_define, d_Book_tell, d_Book_parameters, d_Book_formula, d_Book_told, d_check_formula, d_letters, d_digit, d_letter_of, d_word_of, d_is_table, d_Machine_init, d_Machine_behind, d_Machine_accepts, d_Machine_takes]
def fn1 : List He.DefD := [d_Search_init, d_Search_place, d_Search_waiting, d_Search_current, d_Search_enter, d_numbered, d_classes, d_least_with_map, d_least, d_digit_sum, d_equal_step, d_at_most_step, d_labelled, d_equation, d_at_most, d_joined, d_both_with_pairs, d_both, d_complement, d_is_output]
def fn2 : List He.DefD := [d_is_row, d_Told_init, d_Told_machine, d_powers, d_check_places, d_spread_with_states, d_spread, d_places_in, d_Compiler_init, d_Compiler_compiled, d_Compiler_definition, d_Compiler_made, d_Compiler_made_linear, d_Compiler_made_joined, d_Compiler_made_call, d_compile_formula, d__law_wide, d__law_take, d__law_pool, d__law_number]
def fn3 : List He.DefD := [d__law_told_states, d__law_small_term, d__law_atom, d__law_plain, d__law_world, d__law_book, d__law_output, d__law_power, d__law_joins_truth, d__law_total, d__law_truth, d__law_too_large, d__law_made, d__law_called, d__law_free, d__law_marked, d__law_once, d_law]
def fn : List He.DefD := fn0 ++ fn1 ++ fn2 ++ fn3
def fa0 : List He.Fa := [.glo "own_names", .glo "parts", .glo "free_list", .glo "free_names", .glo "check_formula", .glo "letters", .glo "digit", .glo "letter_of", .glo "word_of", .glo "is_table", .glo "numbered", .glo "classes", .glo "least_with_map", .glo "least", .glo "digit_sum", .glo "equal_step", .glo "at_most_step", .glo "labelled", .glo "equation", .glo "at_most"]
def fa1 : List He.Fa := [.glo "joined", .glo "both_with_pairs", .glo "both", .glo "complement", .glo "is_output", .glo "is_row", .glo "powers", .glo "check_places", .glo "spread_with_states", .glo "spread", .glo "places_in", .glo "compile_formula", .glo "_law_wide", .glo "_law_take", .glo "_law_pool", .glo "_law_number", .glo "_law_told_states", .glo "_law_small_term", .glo "_law_atom", .glo "_law_plain"]
def fa2 : List He.Fa := [.glo "_law_world", .glo "_law_book", .glo "_law_output", .glo "_law_power", .glo "_law_joins_truth", .glo "_law_total", .glo "_law_truth", .glo "_law_too_large", .glo "_law_made", .glo "_law_called", .glo "_law_free", .glo "_law_marked", .glo "_law_once", .glo "law", .glo "Book", .glo "Machine", .glo "Search", .glo "Told", .glo "Compiler", .glo "Oversized"]
def fa3 : List He.Fa := [.glo "Refused", .free "range", .free "len", .free "any", .free "all", .free "list", .free "tuple", .free "sorted", .free "max", .free "min", .free "abs", .free "int", .free "isinstance", .free "bool", .free "str", .free "super", .free "ValueError", .int "STATES" 400, .int "TRACKS" 6, .int "MAX_STATES_linear" 400]
def fa4 : List He.Fa := [.int "MAX_STATES_told" 40, .int "MOST" 9, .int "MAX_WIDTH" 6, .cls "Book", .mkr "Book", .noat "Book" "_definitions", .noat "Book" "_words", .meth "Book" "define", .meth "Book" "tell", .meth "Book" "parameters", .meth "Book" "formula", .meth "Book" "told", .cls "Machine", .mkr "Machine", .noat "Machine" "width", .noat "Machine" "table", .noat "Machine" "accepting", .meth "Machine" "behind", .meth "Machine" "accepts", .meth "Machine" "takes"]
def fa5 : List He.Fa := [.cls "Search", .mkr "Search", .noat "Search" "found", .noat "Search" "places", .noat "Search" "rows", .meth "Search" "place", .meth "Search" "waiting", .meth "Search" "current", .meth "Search" "enter", .cls "Told", .mkr "Told", .noat "Told" "outputs", .noat "Told" "table", .meth "Told" "machine", .cls "Compiler", .mkr "Compiler", .noat "Compiler" "_book", .noat "Compiler" "_definitions", .meth "Compiler" "compiled", .meth "Compiler" "definition"]
def fa6 : List He.Fa := [.meth "Compiler" "_made", .meth "Compiler" "_made_linear", .meth "Compiler" "_made_joined", .meth "Compiler" "_made_call", .noat "Oversized" "limit", .exm "Oversized" "Oversized" true, .meth "Oversized" "__init__"]
def fa : List He.Fa := fa0 ++ fa1 ++ fa2 ++ fa3 ++ fa4 ++ fa5 ++ fa6
end K36
/-! K36Q1: iteration where an exception may be in hand -/
namespace K36
open PySem PySem.Spec PyProof.Rows L2 HotX
abbrev Pn := List (Addr × Obj)
abbrev St := L2.St
/-- what is in hand: nothing, or one record whose context is None -/
def QA (A : Around) (l : Pn) : Prop := (A.handled = none ∧ l = []) ∨ ∃ p : Addr × Obj, l = [p] ∧ L2H.Hot1 A p
/-- the records of l stand in h -/
def PinIn (l : Pn) (h : Heap) : Prop := ∀ p ∈ l, h.get? p.1 = some p.2
theorem PinIn.keep {l : Pn} {h h' : Heap} (x : PinIn l h) (k : ∀ b o, h.get? b = some o → h'.get? b = some o) : PinIn l h' := fun p hp => k _ _ (x p hp)
theorem QA.in1 {A : Around} {l : Pn} (q : QA A l) : QA A.in1 l := q
section
variable {P : Program} {w : World} {A : Around} {E : Value → Shared → Prop} {s : Shared} {l : Pn} {it : Addr}
/-- StopIteration is raised, and met by next -/
theorem stopQ {hp : Heap} {Q : Option Value → Shared → Prop} (qa : QA A l) (pin : PinIn l hp) (old : ∀ b o, b ≠ it → s.heap.get? b = some o → hp.get? b = some o)
    (fin : ∀ h', Heap.ExtBut it s.heap h' → Q none { s with heap := h' }) :
    wpAny (model P w) A.in1 (newExc (.type "StopIteration") [] >>= fun e => (raiseNew e : Sem Fin)) (fun _ _ => False)
      (fun e s' => wpAny (model P w) A (do if ← isInstance e (.type "StopIteration") then pure none else throw e) Q E s') { s with heap := hp } := by
  rcases qa with ⟨hn, _⟩ | ⟨p, rfl, hh, vs, e1, c1⟩
  · exact L2.stop_at hn old fin
  · have hp1 := pin p (by simp)
    refine wpAny_bind ?_
    simp only [newExc, newTuple]
    refine wpAny_bind (wpAny_newObj_type ?_ (by size_fits))
    refine wpAny_bind (m := firstArgMember _ _) (wpAny_of_eq (a := Value.none) (by first | rfl | (simp only [firstArgMember]; rfl)) (wpAny_newObj_type ?_ (by size_fits)))
    have kp := Heap.get?_push_of_some (h := hp.push { cls := .type "tuple", data := .seq ([] : List Value).toArray }) { cls := .type "StopIteration", data := .fields (#[.ref hp.objs.size, .none, .none, .none, .bool false, .none] ++ ownMembersOf (.type "StopIteration") []) } (Heap.get?_push_of_some _ hp1)
    refine raiseNew_hot (x1 := p.1) ⟨hh, p.2, vs, kp, e1, c1⟩ (Nat.ne_of_lt (Heap.lt_size (Heap.get?_push_of_some _ hp1))) (Heap.get?_push_size _ rfl) rfl (by first | (simp; done) | (simp; omega) | (simp only [Array.size_append]; simp; omega)) ?_
    refine wpAny_bind (wpAny_isInstance (T := "StopIteration") (b := true) ⟨_, Heap.get?_update_self _ (Heap.get?_push_size _ rfl) rfl, rfl⟩ isSubtype_stop ?_)
    refine wpAny_pure (fin _ fun b o hb e => ?_)
    have e2 := Heap.get?_push_of_some { cls := .type "tuple", data := .seq ([] : List Value).toArray } (old b o hb e)
    rw [Heap.get?_update_other _ _ (Nat.ne_of_gt (Heap.lt_size e2))]
    exact Heap.get?_push_of_some _ e2
theorem upd_old {b c : Addr} {o : Obj} {h : Heap} {f : Obj → Obj} (hb : b ≠ c) (e : h.get? b = some o) : (h.update c f).get? b = some o := (Heap.get?_update_other _ _ (Ne.symm hb)).trans e
theorem PinIn.upd {h : Heap} {f : Obj → Obj} {c : Addr} (x : PinIn l h) (hc : c ∉ l.map (·.1)) : PinIn l (h.update c f) := fun p hp => upd_old (fun z => hc (z ▸ List.mem_map_of_mem hp)) (x p hp)

theorem listEndQ {a : Addr} {i : Nat} {items : Array Value} {Q : Option Value → Shared → Prop} (qa : QA A l) (pin : PinIn l s.heap) (np : it ∉ l.map (·.1)) (hit : s.heap.IsListIter it a i) (hl : s.heap.IsList a items) (hx : items[i]? = none)
    (fin : ∀ h', Heap.ExtBut it s.heap h' → Q none { s with heap := h' }) : wpAny (model P w) A (pyNext (.ref it)) Q E s := by
  obtain ⟨o, ho, hc, hd⟩ := id hit
  obtain ⟨ol, hol, _, nl, hdl⟩ := hl
  unfold pyNext
  refine wpAny_bind (wpAny_attempt (wpAny_callSpecial?_slot (name := Str.ofString "__next__") hit.typeIs slot_listiter_next (wpAny_call_entry slot_listiter_next hit.typeIs entry_listiter_next ?_ (args_listiter_next _))))
  refine wpAny_bind (m := field (.ref it) 0) (wpAny_field ho hd (x := .ref a) rfl ?_)
  show wpAny _ _ (if (Value.ref a == Value.none) = true then _ else _) _ _ s
  rw [if_neg (show ¬ ((Value.ref a == Value.none) = true) from Bool.false_ne_true)]
  refine wpAny_bind (m := field (.ref it) 1) (wpAny_field ho hd (x := .int i 0) rfl ?_)
  refine wpAny_bind (m := seqItems? (.ref a)) (wpAny_seqItems hol hdl ?_)
  simp only [Int.toNat_natCast, hx]
  refine wpAny_bind (wpAny_rule (wpAny_bind (wpAny_setField ho hd (by simp) ?_)))
  exact wpAny_mono (stopQ (s := s) (it := it) (Q := Q) (E := E) qa (pin.upd np) (fun b ob hb e => upd_old hb e) fin) (fun _ _ z => z.elim) fun _ _ z => z
theorem tupEndQ {a : Addr} {i : Nat} {items : Array Value} {Q : Option Value → Shared → Prop} (qa : QA A l) (pin : PinIn l s.heap) (np : it ∉ l.map (·.1)) (hit : s.heap.IsTupleIter it a i) (hl : s.heap.IsTuple a items) (hx : items[i]? = none)
    (fin : ∀ h', Heap.ExtBut it s.heap h' → Q none { s with heap := h' }) : wpAny (model P w) A (pyNext (.ref it)) Q E s := by
  obtain ⟨o, ho, hc, hd⟩ := id hit
  obtain ⟨ol, hol, _, nl, hdl⟩ := hl
  unfold pyNext
  refine wpAny_bind (wpAny_attempt (wpAny_callSpecial?_slot (name := Str.ofString "__next__") hit.typeIs F.slot_tuple_iterator_next (wpAny_call_entry F.slot_tuple_iterator_next hit.typeIs F.entry_tuple_iterator_next ?_ (F.args_tuple_iterator_next_1 _))))
  refine wpAny_bind (m := field (.ref it) 0) (wpAny_field ho hd (x := .ref a) rfl ?_)
  show wpAny _ _ (if (Value.ref a == Value.none) = true then _ else _) _ _ s
  rw [if_neg (show ¬ ((Value.ref a == Value.none) = true) from Bool.false_ne_true)]
  refine wpAny_bind (m := field (.ref it) 1) (wpAny_field ho hd (x := .int i 0) rfl ?_)
  refine wpAny_bind (m := seqItems? (.ref a)) (wpAny_seqItems hol hdl ?_)
  simp only [Int.toNat_natCast, hx]
  refine wpAny_bind (wpAny_rule (wpAny_bind (wpAny_setField ho hd (by simp) ?_)))
  exact wpAny_mono (stopQ (s := s) (it := it) (Q := Q) (E := E) qa (pin.upd np) (fun b ob hb e => upd_old hb e) fin) (fun _ _ z => z.elim) fun _ _ z => z
theorem rangeEndQ {x left step : Int} {Q : Option Value → Shared → Prop} (qa : QA A l) (pin : PinIn l s.heap) (hit : IsRangeIter s.heap it x left step) (hleft : left ≤ 0)
    (fin : ∀ h', Heap.ExtBut it s.heap h' → Q none { s with heap := h' }) : wpAny (model P w) A (pyNext (.ref it)) Q E s := by
  rcases qa with ⟨hn, _⟩ | ⟨p, rfl, hh, vs, e1, c1⟩
  · exact wpAny_pyNext_range_end hn hit hleft fin
  · exact pyNext_range_end_hot ⟨hh, p.2, vs, pin p (by simp), e1, c1⟩ hit hleft fun h' k => fin h' fun b o _ e => k b o e
end
end K36
/-! K36Q2: for loops and unpacking where an exception may be in hand -/
namespace K36
open PySem PySem.Spec PyProof.Rows L2 HotX
/-- nothing is in hand, or what is in hand is a pin of the context, its own context None -/
def Quiet (X : Cx) : Prop := ∃ l : Pn, QA X.A l ∧ (∀ p ∈ l, p ∈ X.pn) ∧ X.calm = l.isEmpty
section
variable {X : Cx} {pins : Pn} {σ : St} {H : Hp} {s : Shared}
theorem Quiet.at_ (q : Quiet X) (I : Inv X pins σ H s) : ∃ l : Pn, QA X.A l ∧ PinIn l s.heap ∧ ∀ b, FpOk X pins H b → b ∉ l.map (·.1) := by
  obtain ⟨l, qa, hl, _⟩ := q
  refine ⟨l, qa, fun p hp => (I.pin p (List.mem_append_left _ (hl p hp))).1, fun b f hb => ?_⟩
  obtain ⟨p, hp, e⟩ := List.mem_map.mp hb
  exact f.2.2.2.2.2 p (List.mem_append_left _ (hl p hp)) e
theorem Quiet.wish (q : Quiet X) (E : Value → Shared → Prop) : Quiet (X.wish E) := q

/-! ### unpacking a tuple -/
theorem unpackQ {P : Program} {w : World} {A : Around} {E : Value → Shared → Prop} {s : Shared} {l : Pn} {a : Addr} {items : Array Value} {Q : List Value → Shared → Prop} (qa : QA A l) (pin : PinIn l s.heap) (ht : IsTup s.heap a items)
    (fin : ∀ h', (∀ b o, s.heap.get? b = some o → h'.get? b = some o) → Q items.toList { s with heap := h' }) : wpAny (model P w) A (unpackItems (.ref a) items.size none) Q E s := by
  have hne : a ≠ s.heap.objs.size := let ⟨_, e, _⟩ := ht; Nat.ne_of_lt (Heap.lt_size e)
  have np : s.heap.objs.size ∉ l.map (·.1) := fun hb => by
    obtain ⟨p, hp, e⟩ := List.mem_map.mp hb
    exact absurd (Heap.lt_size (pin p hp)) (by rw [e]; exact Nat.lt_irrefl _)
  unfold unpackItems notIterableAtAll
  refine wpAny_bind (wpAny_bind (wpAny_specialOf ht.typeIs slot_tuple_iter.lookup (wpAny_pure ?_)))
  simp only [Bool.false_eq_true, if_false]
  refine wpAny_bind (wpAny_holding (iter_tuple ht ?_))
  refine wpAny_bind (wpAny_holding (draw_tuple hne items.size 0 _ _ ⟨_, Heap.get?_push_size _ rfl, rfl, rfl⟩ (ht.push _) (by omega) fun h1 i1 k1 => ?_))
  have all : List.take items.size (List.drop 0 items.toList) = items.toList := by
    rw [List.drop_zero, List.take_of_length_le (by simp)]
  rw [all, if_neg (by simp)]
  have t1 : IsTup h1 a items := (ht.push _).extBut k1.extBut hne
  have p1 : PinIn l h1 := fun p hp => k1.extBut p.1 p.2 (fun z => np (z ▸ List.mem_map_of_mem hp)) (Heap.get?_push_of_some _ (pin p hp))
  obtain ⟨o, ho, hc, hd⟩ := id i1
  have i2 : h1.IsTupleIter s.heap.objs.size a (0 + items.size) := ⟨o, ho, hc, hd⟩
  refine wpAny_bind (wpAny_holding (tupEndQ (s := { s with heap := h1 }) qa p1 np i2 (show h1.IsTuple a items from t1) (by simp) fun h2 k2 => ?_))
  simp only [Option.isSome_none, Bool.false_eq_true, if_false]
  refine wpAny_pure (fin h2 fun b o e => ?_)
  have hb : b ≠ s.heap.objs.size := Nat.ne_of_lt (Heap.lt_size e)
  exact k2 b o hb (k1.extBut b o hb (Heap.get?_push_of_some _ e))
theorem pg_tupQ {es : List Expr} {k : Nat} {t : TGs} {n : Nat} {pos : Pos} (hq : Quiet X) (h : PGs X es t) (hn : (assignEach es X.env).length = n := by rfl) (hst : (assignEach es X.env).findIdx? (·.1) = none := by rfl) : PG X (.Tuple es k pos) (gTup X.K n t) := by
  refine ⟨fun pins s σ H v u Q I r hw => ?_⟩
  obtain ⟨a, xs, rfl, hx, hl, hw⟩ := hw
  cases r
  obtain ⟨its, rv, ht, hz⟩ := I.tuple hx
  obtain ⟨l, qa, pin, _⟩ := hq.at_ I
  rw [assign_Tuple]
  refine wpAny_bind (wpAny_standAt ?_)
  unfold unpack
  have e : (assignEach es X.env).length = its.toArray.size := by rw [hn, ← hl, rv.length, List.size_toArray]
  rw [e, hst]
  refine wpAny_bind (wpAny_holding (unpackQ qa pin ht fun h' k => ?_))
  exact h.run pins _ σ H xs _ Q (I.kept (t' := s.toks) k) (by simpa using rv) hw
end

/-! ### what is walked -/
structure TurnQ (P : Program) (w : World) (K : PySem.W.Frag) (tg : Expr) (J : It) (fp : List Addr) (it : Addr) (tn : Nat → Heap → Prop) : Prop where
  mem : it ∈ fp
  obj : ∀ i h, tn i h → ∀ b ∈ fp, ∃ o, h.get? b = some o ∧ ∀ v, o.data ≠ .cell v
  keep : ∀ i h h', tn i h → (∀ b ∈ fp, ∀ o, h.get? b = some o → h'.get? b = some o) → tn i h'
  item : ∀ (X : Cx), X.prog = P → X.w = w → X.K = K → ∀ (i : Nat) (pins : Pn) (s : Shared) (σ : St) (H : Hp) (E : Value → Shared → Prop), Inv X pins σ H s → (∀ b ∈ fp, FpOk X pins H b) → tn i s.heap → J.go i H →
    wpAny (model P w) X.A (pyNext (.ref it)) (fun r s1 => ∃ u, r = some u ∧ wpAny (model P w) X.A (letOwnedTupleGo tg (.ref it) u) (fun _ s2 => ∃ x H', Inv X pins σ H' s2 ∧ RelV x u ∧ J.yld i H x H' ∧ tn (i + 1) s2.heap ∧ ∀ b ∈ fp, H' b = none) E s1) E s
  done : ∀ (X : Cx), X.prog = P → X.w = w → X.K = K → Quiet X → ∀ (i : Nat) (pins : Pn) (s : Shared) (σ : St) (H : Hp) (E : Value → Shared → Prop), Inv X pins σ H s → (∀ b ∈ fp, FpOk X pins H b) → tn i s.heap → J.stop i H →
    wpAny (model P w) X.A (pyNext (.ref it)) (fun r s1 => r = none ∧ Inv X pins σ H s1) E s
  self : ∀ (A : Around) (i : Nat) (s : Shared) (Q : Value → Shared → Prop) (E : Value → Shared → Prop), tn i s.heap → Q (.ref it) s → wpAny (model P w) A (pyIter (.ref it)) Q E s
section
variable {P : Program} {w : World} {K : PySem.W.Frag} {tg : Expr}
theorem turnL (a it : Addr) : TurnQ P w K tg (Itl K a) [it] it (fun i h => h.IsListIter it a i) where
  mem := List.mem_singleton.mpr rfl
  obj := fun i h st b hb => by
    obtain rfl := List.mem_singleton.mp hb
    obtain ⟨o, e, c, d⟩ := st
    exact ⟨o, e, fun v z => by rw [d] at z; cases z⟩
  keep := fun i h h' st k => st.at fun o e => k it (List.mem_singleton.mpr rfl) o e
  item := by
    rintro X rfl rfl rfl i pins s σ H E I hf st ⟨xs, x, hx, hi⟩
    obtain ⟨its, rv, pl, _⟩ := I.list hx
    obtain ⟨u, hu, ru⟩ := rv.get hi
    obtain ⟨f0, f1, _, f3, f4, f5⟩ := hf it (List.mem_singleton.mpr rfl)
    refine wpAny_pyNext_list_item st pl.isList (x := u) (by simpa using hu) fun h' st' sb => ?_
    have I1 : Inv X pins σ H { s with heap := h' } := I.turned (t' := s.toks) (fun b o hb e => (sb.2 b hb).trans e) f0 f1 f3 f4 f5
    obtain ⟨o, e, c, d⟩ := id st'
    exact ⟨u, rfl, go_of (s := { s with heap := h' }) e c d (by decide) ⟨x, H, I1, ru, ⟨rfl, fun ys hy => by rw [I.list_inj hy hx, hi]⟩, st', fun b hb => (hf b hb).1⟩⟩
  done := by
    rintro X rfl rfl rfl hq i pins s σ H E I hf st ⟨xs, hx, hi⟩
    obtain ⟨its, rv, pl, _⟩ := I.list hx
    have ff := hf it (List.mem_singleton.mpr rfl)
    obtain ⟨l, qa, pin, np⟩ := hq.at_ I
    have hl := rv.length
    exact listEndQ qa pin (np it ff) st pl.isList (by simp; omega) fun h' eb => ⟨rfl, I.turned (t' := s.toks) (fun b o hb e => eb b o hb e) ff.1 ff.2.1 ff.2.2.2.1 ff.2.2.2.2.1 ff.2.2.2.2.2⟩
  self := fun _ _ _ _ _ st h => wpAny_pyIter_listiter st h
theorem turnT (a it : Addr) : TurnQ P w K tg (Itt K a) [it] it (fun i h => h.IsTupleIter it a i) where
  mem := List.mem_singleton.mpr rfl
  obj := fun i h st b hb => by
    obtain rfl := List.mem_singleton.mp hb
    obtain ⟨o, e, c, d⟩ := st
    exact ⟨o, e, fun v z => by rw [d] at z; cases z⟩
  keep := fun i h h' st k => st.at fun o e => k it (List.mem_singleton.mpr rfl) o e
  item := by
    rintro X rfl rfl rfl i pins s σ H E I hf st ⟨xs, x, hx, hi⟩
    obtain ⟨its, rv, pl, _⟩ := I.tuple hx
    obtain ⟨u, hu, ru⟩ := rv.get hi
    obtain ⟨f0, f1, _, f3, f4, f5⟩ := hf it (List.mem_singleton.mpr rfl)
    refine wpAny_pyNext_tuple_item st (show s.heap.IsTuple a its.toArray from pl) (x := u) (by simpa using hu) fun h' st' sb => ?_
    have I1 : Inv X pins σ H { s with heap := h' } := I.turned (t' := s.toks) (fun b o hb e => (sb.2 b hb).trans e) f0 f1 f3 f4 f5
    obtain ⟨o, e, c, d⟩ := id st'
    exact ⟨u, rfl, go_of (s := { s with heap := h' }) e c d (by decide) ⟨x, H, I1, ru, ⟨rfl, fun ys hy => by rw [I.tuple_inj hy hx, hi]⟩, st', fun b hb => (hf b hb).1⟩⟩
  done := by
    rintro X rfl rfl rfl hq i pins s σ H E I hf st ⟨xs, hx, hi⟩
    obtain ⟨its, rv, pl, _⟩ := I.tuple hx
    have ff := hf it (List.mem_singleton.mpr rfl)
    obtain ⟨l, qa, pin, np⟩ := hq.at_ I
    have hl := rv.length
    exact tupEndQ qa pin (np it ff) st (show s.heap.IsTuple a its.toArray from pl) (by simp; omega) fun h' eb => ⟨rfl, I.turned (t' := s.toks) (fun b o hb e => eb b o hb e) ff.1 ff.2.1 ff.2.2.2.1 ff.2.2.2.2.1 ff.2.2.2.2.2⟩
  self := fun _ _ _ _ _ st h => wpAny_pyIter_tupleiter st h
theorem turnR (it : Addr) (lo : Int) (n : Nat) : TurnQ P w K tg (Itr lo n) [it] it (fun i h => IsRangeIter h it (lo + (i : Nat)) ((n : Int) - (i : Nat)) 1) where
  mem := List.mem_singleton.mpr rfl
  obj := fun i h st b hb => by
    obtain rfl := List.mem_singleton.mp hb
    exact ⟨_, st, fun v z => by
      have z' : Data.fields _ = Data.cell v := z
      cases z'⟩
  keep := fun i h h' st k => k it (List.mem_singleton.mpr rfl) _ st
  item := by
    rintro X rfl rfl rfl i pins s σ H E I hf st hi
    have hi : i < n := hi
    obtain ⟨f0, f1, _, f3, f4, f5⟩ := hf it (List.mem_singleton.mpr rfl)
    refine wpAny_pyNext_range_item st (by omega) fun h' st' sb => ?_
    have st2 : IsRangeIter h' it (lo + ((i + 1 : Nat) : Int)) ((n : Int) - ((i + 1 : Nat) : Int)) 1 := by
      have e1 : lo + ((i : Nat) : Int) + 1 = lo + ((i + 1 : Nat) : Int) := by omega
      have e2 : (n : Int) - ((i : Nat) : Int) - 1 = (n : Int) - ((i + 1 : Nat) : Int) := by omega
      rw [← e1, ← e2]
      exact st'
    have I1 : Inv X pins σ H { s with heap := h', toks := s.toks + 1 } := I.turned (fun b o hb e => (sb.2 b hb).trans e) f0 f1 f3 f4 f5
    exact ⟨_, rfl, go_of (s := { s with heap := h', toks := s.toks + 1 }) (n := "range_iterator") st2 rfl rfl (by decide) ⟨.int (lo + i), H, I1, ⟨s.toks, rfl⟩, ⟨rfl, rfl⟩, st2, fun b hb => (hf b hb).1⟩⟩
  done := by
    rintro X rfl rfl rfl hq i pins s σ H E I hf st hi
    have hi : n ≤ i := hi
    have ff := hf it (List.mem_singleton.mpr rfl)
    obtain ⟨l, qa, pin, np⟩ := hq.at_ I
    exact rangeEndQ qa pin st (by omega) fun h' eb => ⟨rfl, I.turned (t' := s.toks) (fun b o hb e => eb b o hb e) ff.1 ff.2.1 ff.2.2.2.1 ff.2.2.2.2.1 ff.2.2.2.2.2⟩
  self := fun _ _ _ _ _ st h => wpAny_pyIter_rangeiter st h
end
def PIEQ (X : Cx) (pins : Pn) (σ : St) (tg : Expr) (R : It → Hp → Prop) (itv : Value) (s2 : Shared) : Prop :=
  ∃ (it : Addr) (fp : List Addr) (tn : Nat → Heap → Prop) (J : It) (H' : Hp), itv = .ref it ∧ Inv X pins σ H' s2 ∧ TurnQ X.prog X.w X.K tg J fp it tn ∧ tn 0 s2.heap ∧ (∀ b ∈ fp, FpOk X pins H' b) ∧ R J H'
structure PIQ (X : Cx) (tg iter : Expr) (wi : TI) : Prop where
  run : ∀ (pins : Pn) (s : Shared) (σ : St) (H : Hp) (R : It → Hp → Prop), Inv X pins σ H s → wi σ H R →
    wpAny (model X.prog X.w) X.A (eval iter X.env) (fun v s1 => wpAny (model X.prog X.w) X.A (pyIter v) (PIEQ X pins σ tg R) X.xe s1) X.xe s
section
variable {X : Cx} {tg : Expr}
theorem newFp {pins : Pn} {σ : St} {H : Hp} {s : Shared} (I : Inv X pins σ H s) : ∀ b ∈ [s.heap.objs.size], FpOk X pins H b := fun b hb => by
  obtain rfl := List.mem_singleton.mp hb
  exact I.fpOk (Nat.le_refl _) (I.hok.fresh (Nat.le_refl _))
theorem piL {l : Expr} {tl : TE} (hl : PE X l tl) : PIQ X tg l (iList X.K tl) := by
  refine ⟨fun pins s σ H R I h => thn (hl.run pins s σ H _ I h) fun v s1 ⟨x, H1, I1, r1, a, e, ⟨xs, hx⟩, q⟩ => ?_⟩
  subst e
  cases r1
  obtain ⟨its, rv, pl, _⟩ := I1.list hx
  refine wpAny_pyIter_list pl.isList ?_
  exact ⟨s1.heap.objs.size, [s1.heap.objs.size], _, _, H1, rfl, I1.kept (t' := s1.toks) fun b o e => Heap.get?_push_of_some _ e, turnL a _, ⟨_, Heap.get?_push_size _ rfl, rfl, rfl⟩, newFp I1, q⟩
theorem piT {l : Expr} {tl : TE} (hl : PE X l tl) : PIQ X tg l (iTup X.K tl) := by
  refine ⟨fun pins s σ H R I h => thn (hl.run pins s σ H _ I h) fun v s1 ⟨x, H1, I1, r1, a, e, ⟨xs, hx⟩, q⟩ => ?_⟩
  subst e
  cases r1
  obtain ⟨its, rv, pl, _⟩ := I1.tuple hx
  refine wpAny_pyIter_tuple (show s1.heap.IsTuple a its.toArray from pl) ?_
  exact ⟨s1.heap.objs.size, [s1.heap.objs.size], _, _, H1, rfl, I1.kept (t' := s1.toks) fun b o e => Heap.get?_push_of_some _ e, turnT a _, ⟨_, Heap.get?_push_size _ rfl, rfl, rfl⟩, newFp I1, q⟩
theorem rangeQ {pins : Pn} {σ : St} {H : Hp} {s : Shared} {R : It → Hp → Prop} {E : Value → Shared → Prop} {lo hi : Int} {t u v : Tok} {tk : Nat} (I : Inv X pins σ H s) (b1 : -(2 ^ 62) ≤ lo) (b2 : lo < 2 ^ 62) (b3 : -(2 ^ 62) ≤ hi) (b4 : hi < 2 ^ 62)
    (q : R (Itr lo (hi - lo).toNat) H) : wpAny (model X.prog X.w) X.A (pyIter (.ref s.heap.objs.size)) (PIEQ X pins σ tg R) E { s with heap := s.heap.push { cls := .type "range", data := .fields #[.int lo t, .int hi u, .int 1 v] }, toks := tk } := by
  refine wpAny_pyIter_range (IsRange.new ..) (small_one b1 b2 b3 b4) ?_
  have I1 : Inv X pins σ H { s with heap := s.heap.push { cls := .type "range", data := .fields #[.int lo t, .int hi u, .int 1 v] }, toks := tk } := I.kept fun b o e => Heap.get?_push_of_some _ e
  refine ⟨_, [(s.heap.push { cls := .type "range", data := .fields #[.int lo t, .int hi u, .int 1 v] }).objs.size], _, _, H, rfl, I1.kept (t' := tk) fun b o e => Heap.get?_push_of_some _ e, turnR _ lo (hi - lo).toNat, ?_, newFp I1, q⟩
  have e1 : lo + ((0 : Nat) : Int) = lo := by simp
  have e2 : (((hi - lo).toNat : Nat) : Int) - ((0 : Nat) : Int) = Builtin.Range.rangeSize lo hi 1 := by rw [rangeSize_one]; split <;> omega
  show IsRangeIter _ _ (lo + ((0 : Nat) : Int)) ((((hi - lo).toNat : Nat) : Int) - ((0 : Nat) : Int)) 1
  rw [e1, e2]
  exact Heap.get?_push_size _ rfl
theorem piR1 {a : Expr} {ta : TA} {p pos : Pos} (hg : Gl X "range") (hm : X.mg "range" = none) (ha : PA X [a] ta) (hs : starEach [a] X.env = [(false, eval a X.env)] := by rfl) : PIQ X tg (.Call (.Name "range" p) [a] [] pos) (iRng1 ta) := by
  refine ⟨fun pins s σ H R I h => Call_ (ld_blt I hg hm boot_range (PyProof.Rows.callWith_type1 (thn (ha.run pos pins s σ H _ I h) fun us s1 ⟨vs, H1, I1, r1, j, e, q1, q2, q⟩ => ?_) hs rfl))⟩
  subst e
  obtain ⟨u, rfl, t, rfl⟩ := r1.one
  exact call_range_1 (rangeQ I1 (by omega) (by omega) q1 q2 (by simpa using q))

/-- for -/
theorem ps_forQ {iter : Expr} {body : List Stmt} {wi : TI} {g : TG} {tb : TS} {pos : Pos} (hp : PassesOwn (model X.prog X.w) X.A X.env X.xe) (hq : Quiet X) (hi : PIQ X tg iter wi) (hg : PG X tg g) (hb : PSs X body tb)
    (hs : ∀ x, foldedSetIterable iter X.env x = pure x := by intro _; rfl) : PS X (.For tg iter body [] pos) (tFor wi g tb) := by
  refine ⟨fun pins s σ H D I h => wpAny_For (thn (hi.run pins s σ H _ I h) fun v s1 z1 => thn z1 fun itv s2 z2 => ?_) hs⟩
  obtain ⟨it, fp, tn, J, H2, rfl, I2, T, st2, f2, W, ⟨m0, w0⟩, turn⟩ := z2
  have fp' : ∀ {H' : Hp}, (∀ b ∈ fp, H' b = none) → ∀ b ∈ fp, FpOk X pins H' b := fun n b hb => ⟨n b hb, (f2 b hb).2⟩
  refine codeAny_forLoop_any (fun n s' => ∃ i σ' H', Inv X pins σ' H' s' ∧ tn i s'.heap ∧ (∀ b ∈ fp, H' b = none) ∧ W i n σ' H') ?_ m0 ⟨0, σ, H2, I2, st2, fun b hb => (f2 b hb).1, w0⟩
  rintro n s3 ⟨i, σ3, H3, I3, st3, n3, w3⟩
  rcases turn i n σ3 H3 w3 with ⟨stop, qn⟩ | ⟨go, N, hN, step⟩
  · refine wpAny_passesOwn hp (thn (T.done X rfl rfl rfl hq i pins s3 σ3 H3 X.xe I3 (fp' n3) st3 stop) fun r s4 ⟨hr, I4⟩ => ?_)
    subst hr
    exact wpAny_execs_nil ⟨σ3, H3, I4, qn⟩
  · refine wpAny_passesOwn hp (thn (T.item X rfl rfl rfl i pins s3 σ3 H3 X.xe I3 (fp' n3) st3 go) fun r s4 ⟨u, hr, h4⟩ => ?_)
    subst hr
    refine wpAny_passesOwn hp (thn h4 fun _ s5 ⟨x, H5, I5, r5, y5, st5, n5⟩ => ?_)
    have ob := T.obj _ _ st5
    refine wpAny_passesOwn hp (thn (hg.run _ s5 σ3 H5 x u _ (I5.pinned (fp' n5) ob) r5 (step x H5 y5)) fun _ s6 ⟨σ6, H6, I6, q6⟩ => ?_)
    refine wpAny_passesOwn hp (thn (hb.run _ s6 σ6 H6 _ I6 q6) fun f s7 q7 => ?_)
    have again : ∀ {σ7 : St} {H7 : Hp}, Inv X (pins ++ pinsAt fp s5.heap) σ7 H7 s7 → N σ7 H7 → ∃ m, m < n ∧ ∃ i σ' H', Inv X pins σ' H' s7 ∧ tn i s7.heap ∧ (∀ b ∈ fp, H' b = none) ∧ W i m σ' H' := fun {σ7 H7} I7 n7 => by
      obtain ⟨m', hm, w7⟩ := hN σ7 H7 n7
      have pp : ∀ b ∈ fp, ∀ o, s5.heap.get? b = some o → s7.heap.get? b = some o ∧ H7 b = none := fun b hb o e =>
        let z := I7.pin (b, o) (List.mem_append_right _ (List.mem_append_right _ (mem_pinsAt hb e)))
        ⟨z.1, z.2.1⟩
      refine ⟨m', hm, i + 1, σ7, H7, I7.unpinned, T.keep _ _ _ st5 fun b hb o e => (pp b hb o e).1, fun b hb => ?_, w7⟩
      obtain ⟨o, e, _⟩ := ob b hb
      exact (pp b hb o e).2
    cases f with
    | next => obtain ⟨σ7, H7, I7, n7⟩ := q7; exact again I7 n7
    | cont => obtain ⟨σ7, H7, I7, n7⟩ := q7; exact again I7 n7
    | brk => obtain ⟨σ7, H7, I7, q7⟩ := q7; exact ⟨σ7, H7, I7.unpinned, q7⟩
    | ret v => obtain ⟨x7, σ7, H7, I7, r7, q7⟩ := q7; exact ⟨x7, σ7, H7, I7.unpinned, r7, q7⟩
end
end K36
/-! K36Q3: what a def promises, whether an exception is in hand or not; calls -/
namespace K36
open PySem PySem.Spec PyProof.Rows L2 HotX
abbrev RoomQ := L2H.RoomH
/-- a promise: the flag tells that nothing is in hand -/
abbrev SpQ := Bool → List V → Hp → VK → XK → Prop
/-- nothing is raised -/
abbrev E0 : XK := fun _ _ _ => False
abbrev CXq (P : Program) (w : World) : CXT := L2N.CX P w
structure FnQ (P : Program) (w : World) (K : PySem.W.Frag) (mg : Str → Option Value) (base : Heap) (k : Nat) (f : Addr) (n : Nat) (sp : SpQ) : Prop where
  len : ∀ c vs H Q E, sp c vs H Q E → vs.length = n
  kp : PySem.W.keepIn K (.ref f) = true
  run : ∀ (A : Around) (outer : List Env) (s : Shared) (H : Hp) (us : List Value) (vs : List V) (Q : VK) (E : XK) (l : Pn), RoomQ k A → QA A l → (∀ p ∈ l, L2H.PinOk outer H s p) → Env0 P w K mg base A outer s H → Vals vs us → sp l.isEmpty vs H Q E →
    codeAny (model P w) A (.call (.ref f) ⟨us, []⟩) (CR (CXq P w) outer P w H s Q E) s
theorem FnQ.mono {P : Program} {w : World} {K : PySem.W.Frag} {mg : Str → Option Value} {base : Heap} {j k n : Nat} {f : Addr} {sp : SpQ} (F : FnQ P w K mg base j f n sp) (h : j ≤ k) : FnQ P w K mg base k f n sp :=
  ⟨F.len, F.kp, fun A outer s H us vs Q E l hr => F.run A outer s H us vs Q E l (hr.mono h)⟩
theorem FnQ.imp {P : Program} {w : World} {K : PySem.W.Frag} {mg : Str → Option Value} {base : Heap} {k n : Nat} {f : Addr} {sp sp' : SpQ} (F : FnQ P w K mg base k f n sp) (h : ∀ c vs H Q E, sp' c vs H Q E → sp c vs H Q E) : FnQ P w K mg base k f n sp' :=
  ⟨fun c vs H Q E z => F.len _ _ _ _ _ (h _ _ _ _ _ z), F.kp, fun A outer s H us vs Q E l hr qa pn e0 r z => F.run A outer s H us vs Q E l hr qa pn e0 r (h _ _ _ _ _ z)⟩
/-- the context of such a def's body -/
def cxQ (P : Program) (w : World) (K : PySem.W.Frag) (mg : Str → Option Value) (base : Heap) (N : List Str) (qual : Str) (scope : Scope) (f : Addr) (cd : Value) (A : Around) (outer : List Env) (s : Shared) (H : Hp) (E : XK) (l : Pn) : Cx :=
  { cxOf (CXq P w) P w K mg base N qual scope f cd A outer s H E with calm := l.isEmpty, pn := l }
theorem fnQ_of {P : Program} {w : World} {K : PySem.W.Frag} {mg : Str → Option Value} {base : Heap} {x qual : Str} {params : Arguments} {body : List Stmt} {scope : Scope} {f : Addr} {fd : FuncData} {N ps : List Str} {k : Nat} {sp : SpQ}
    (F : FunD K x qual params body scope [] [] f fd) (S : FnScope N ps scope)
    (hb : ∀ (kV doc pm : Value) (an : Option Addr) (cdv ct : Value) (us : List Value), us.length = ps.length → bindArgs (PySem.W.fnOf x qual params body scope .none kV doc pm an cdv ct) ⟨us, []⟩ = pure (ps.zip us))
    (len : ∀ c vs H Q E, sp c vs H Q E → vs.length = ps.length)
    (hbody : ∀ (cdv : Value) (A : Around) (outer : List Env) (s : Shared) (H : Hp) (vs : List V) (Q : VK) (E : XK) (l : Pn), QA A l → RoomQ k (A.deeper (envOfC qual scope s.heap.objs.size f cdv)) → sp l.isEmpty vs H Q E →
      ∃ t, PSs (cxQ P w K mg base N qual scope f cdv A outer s H E l) body t ∧ t { nx := fun _ H' => Q .non H', rt := Q } (start N vs) H) : FnQ P w K mg base (k + 1) f ps.length sp := by
  refine ⟨len, F.kp, fun A outer s H us vs Q E l hr qa pn e0 r hsp => ?_⟩
  have bb := FunD.bindsA (ps := ps) F hb s us (by rw [← r.length]; exact len _ _ _ _ _ hsp)
  rcases qa with ⟨hn, rfl⟩ | ⟨p, rfl, hot⟩
  · have G : FnOk P w K mg base (CXq P w) (k + 1) f fd ps (sp true) := FunD.ok F S (len true) fun cdv A outer s H vs Q E hr h => hbody cdv A outer s H vs Q E [] (.inl ⟨hr.hd, rfl⟩) ⟨hr.dp, hr.un⟩ h
    exact G.run A outer s H ⟨us, []⟩ us vs Q E ⟨hn, hr.dp, hr.un⟩ e0 bb r hsp
  · obtain ⟨oc, od, dV, kV, doc, pm, an, cdv, ct, osl, rfl, lk, hcd, hD, _⟩ := F.ex
    have G : L2H.FnH P w K mg base (CXq P w) (k + 1) f (PySem.W.fnOf x qual params body scope dV kV doc pm an cdv ct) ps (sp false) :=
      L2H.fn_ofH lk hcd S (len false) fun A outer s H vs Q E p hot hr h => hbody cdv A outer s H vs Q E [p] (.inr ⟨p, rfl, hot⟩) hr h
    exact G.run A outer s H ⟨us, []⟩ us vs Q E p hr hot (pn p (by simp)) e0 bb r hsp
theorem cxQ_quiet {P : Program} {w : World} {K : PySem.W.Frag} {mg : Str → Option Value} {base : Heap} {N : List Str} {qual : Str} {scope : Scope} {f : Addr} {cd : Value} {A : Around} {outer : List Env} {s : Shared} {H : Hp} {E : XK} {l : Pn} (qa : QA A l) :
    Quiet (cxQ P w K mg base N qual scope f cd A outer s H E l) := ⟨l, qa, fun _ h => h, rfl⟩
/-- what may leave the body -/
theorem cxQ_takes {P : Program} {w : World} {K : PySem.W.Frag} {mg : Str → Option Value} {base : Heap} {N : List Str} {qual : Str} {scope : Scope} {f : Addr} {cd : Value} {A : Around} {outer : List Env} {s : Shared} {H : Hp} {E : XK} {l : Pn} :
    L2N.Takes (cxQ P w K mg base N qual scope f cd A outer s H E l) (fun c d _ H' => E c d H') := L2N.takes_of rfl rfl rfl rfl
/-- a callee's exception reaches what this code wants -/
def PassQ (X : Cx) (E : XK) : Prop := Passes (CXq X.prog X.w) X E
theorem pass0 {X : Cx} : PassQ X E0 := fun _ _ _ _ _ _ _ h => by
  obtain ⟨_, _, _, _, _, _, _, _, _, _, _, _, z⟩ := h
  exact z.elim
theorem passE {P : Program} {w : World} {K : PySem.W.Frag} {mg : Str → Option Value} {base : Heap} {N : List Str} {qual : Str} {scope : Scope} {f : Addr} {cd : Value} {A : Around} {outer : List Env} {s : Shared} {H : Hp} {E : XK} {l : Pn} :
    PassQ (cxQ P w K mg base N qual scope f cd A outer s H E l) E := L2N.passes_call cxQ_takes fun _ _ _ _ h => h
section
variable {X : Cx} {k n : Nat} {f C : Addr} {sp : SpQ} {E : XK} {x m : Str} {q pos apos : Pos} {e o : Expr} {es : List Expr} {ta : TE} {t : TA}
theorem run_fnQ {pins : Pn} {σ : St} {H : Hp} {s : Shared} {Q : VK} {us : List Value} {vs : List V} (F : FnQ X.prog X.w X.K X.mg X.base k f n sp) (hr : RoomQ k X.A) (hq : Quiet X) (hx : PassQ X E) (I : Inv X pins σ H s) (r : Vals vs us) (h : sp X.calm vs H Q E) :
    wpAny (model X.prog X.w) X.A (call (.ref f) us) (EP X pins σ Q) X.xe s := by
  obtain ⟨l, qa, hl, hc⟩ := hq
  rw [hc] at h
  refine wpAny_call (codeAny_mono (F.run X.A X.stack s H us vs Q E l hr qa (fun p hp => ?_) I.env0 r h) fun r s' hq => ?_)
  · have P1 := I.pin p (List.mem_append_left _ (hl p hp))
    exact ⟨P1.1, P1.2.1, fun hm => (List.mem_cons.mp (I.stkSub p.1 hm)).elim P1.2.2.1 P1.2.2.2.1, P1.2.2.2.2⟩
  · cases r with
    | error e => exact hx pins σ H s e s' I hq
    | ok fl =>
      cases fl with
      | ret u => exact I.after hq
      | next => exact False.elim hq
      | brk => exact False.elim hq
      | cont => exact False.elim hq
/-- f(..) -/
def tCallQ (c : Bool) (sp : SpQ) (E : XK) (t : TA) : TE := fun σ H Q => t σ H fun vs H1 => sp c vs H1 Q E
theorem pe_callQ (F : FnQ X.prog X.w X.K X.mg X.base k f n sp) (hr : RoomQ k X.A) (hq : Quiet X) (hm : X.mg x = some (.ref f)) (hx : PassQ X E) (ha : PA X (e :: es) t) (hg : Gl X x := by rfl)
    (hdb : (x == ("__debug__" : Str)) = false := by decide) (he : starEach (e :: es) X.env = (false, eval e X.env) :: starEach es X.env := by rfl) (hpl : (backTo pos (starEach es X.env)).any (·.1) = false := by rfl) : PE X (.Call (.Name x q) (e :: es) [] pos) (tCallQ X.calm sp E t) := by
  refine ⟨fun pins s σ H Q I h => wpAny_Call_Name_kw (ld_glob I hg hm ?_ hdb)⟩
  exact PySem.W.callWith_K (h₀ := X.base) I.ok.mod.kin F.kp (thn (ha.run pos pins s σ H _ I h) fun us s1 ⟨vs, H1, I1, r, z⟩ => ⟨I1.kIn, run_fnQ F hr hq hx I1 r z⟩) he hpl
theorem pe_call0Q (F : FnQ X.prog X.w X.K X.mg X.base k f n sp) (hr : RoomQ k X.A) (hq : Quiet X) (hm : X.mg x = some (.ref f)) (hx : PassQ X E) (hg : Gl X x := by rfl)
    (hdb : (x == ("__debug__" : Str)) = false := by decide) : PE X (.Call (.Name x q) [] [] pos) (tCallQ X.calm sp E tNil) := by
  refine ⟨fun pins s σ H Q I h => wpAny_Call_Name_kw (ld_glob I hg hm ?_ hdb)⟩
  exact PySem.W.callWith_K0 I.kIn F.kp (run_fnQ (us := []) F hr hq hx I .nil h)
/-- o.m(..) -/
def tMethQ (c : Bool) (C : Addr) (m : Str) (sp : SpQ) (E : XK) (ta : TE) (t : TA) : TE := fun σ H Q => ta σ H fun x H1 => ∃ a dx fs, x = .ref a ∧ H1 a = some (.ins C dx fs) ∧ fs.lookup m = none ∧ t σ H1 fun vs H2 => sp c (x :: vs) H2 Q E
theorem pe_methQ {pl : Sem Bool} (he : PE X o ta) (c : Cls X.K C) (hm : Meth X.K C m f) (F : FnQ X.prog X.w X.K X.mg X.base k f n sp) (hr : RoomQ k X.A) (hq : Quiet X) (hx : PassQ X E) (ha : PA X (e :: es) t)
    (hst : starEach (e :: es) X.env = (false, eval e X.env) :: starEach es X.env := by rfl) (hpl : (backTo pos (starEach es X.env)).any (·.1) = false := by rfl)
    (ht : eval (.Call (.Attribute o m apos) (e :: es) [] pos) X.env = (do let ov ← eval o X.env; standAt apos.atName; let (f, first) ← holding [ov] (getMethod ov m pl); callWith pos f first (backTo pos (starEach (e :: es) X.env)) (backToKw pos (keywordEach [] X.env))) := by rfl) :
    PE X (.Call (.Attribute o m apos) (e :: es) [] pos) (tMethQ X.calm C m sp E ta t) := by
  refine ⟨fun pins s σ H Q I h => PySem.W.methodCall_KW (pl := pl) (thn (he.run pins s σ H _ I h) fun u s1 ⟨x, H1, I1, rx, a, dx, fs, ex, ea, l, z⟩ => ?_) ht⟩
  subst ex
  obtain rfl : u = Value.ref a := rx
  refine getmeth_ok I1 ea c hm l ?_
  refine PySem.W.callWith_K (first := [.ref a]) (h₀ := X.base) I.ok.mod.kin hm.kp (thn (ha.run pos pins s1 σ H1 _ I1 z) fun us s2 ⟨vs, H2, I2, r, z2⟩ => ⟨I2.kIn, ?_⟩) hst hpl
  exact run_fnQ (us := .ref a :: us) (vs := .ref a :: vs) F hr hq hx I2 (.cons rfl r) z2
theorem pe_meth0Q {pl : Sem Bool} (he : PE X o ta) (c : Cls X.K C) (hm : Meth X.K C m f) (F : FnQ X.prog X.w X.K X.mg X.base k f n sp) (hr : RoomQ k X.A) (hq : Quiet X) (hx : PassQ X E)
    (ht : eval (.Call (.Attribute o m apos) [] [] pos) X.env = (do let ov ← eval o X.env; standAt apos.atName; let (f, first) ← holding [ov] (getMethod ov m pl); callWith pos f first (backTo pos (starEach [] X.env)) (backToKw pos (keywordEach [] X.env))) := by rfl) :
    PE X (.Call (.Attribute o m apos) [] [] pos) (tMethQ X.calm C m sp E ta tNil) := by
  refine ⟨fun pins s σ H Q I h => PySem.W.methodCall_KW (pl := pl) (thn (he.run pins s σ H _ I h) fun u s1 ⟨x, H1, I1, rx, a, dx, fs, ex, ea, l, z⟩ => ?_) ht⟩
  subst ex
  obtain rfl : u = Value.ref a := rx
  refine getmeth_ok I1 ea c hm l ?_
  exact PySem.W.callWith_K0 (first := [.ref a]) I1.kIn hm.kp (run_fnQ (us := [.ref a]) (vs := [.ref a]) F hr hq hx I1 (.cons rfl .nil) z)
/-- C(..) -/
def tMakeQ (c : Bool) (C : Addr) (sp : SpQ) (E : XK) (t : TA) : TE := fun σ H Q => t σ H fun vs H1 => ∀ x dx, H1 x = none → H1 dx = none → dx ≠ x → sp c (.ref x :: vs) (upd (upd H1 dx (.own x)) x (.ins C dx [])) (fun v H2 => v = .non ∧ Q (.ref x) H2) E
theorem RoomQ.make {k : Nat} {A : Around} (r : RoomQ (k + 1) A) (C : Addr) (us : List Value) : RoomQ k (A.under (.builtin "type.__call__" ⟨.ref C :: us, []⟩)) :=
  ⟨by have := r.dp; rw [make_depth]; omega, by have := r.un; rw [make_units]; omega⟩
theorem QA.make {A : Around} {l : Pn} (qa : QA A l) (C : Addr) (us : List Value) : QA (A.under (.builtin "type.__call__" ⟨.ref C :: us, []⟩)) l := qa
theorem run_makeQ {pins : Pn} {σ : St} {H : Hp} {s : Shared} {Q : VK} {us : List Value} {vs : List V} (M : Mk X.K C f) (F : FnQ X.prog X.w X.K X.mg X.base k f n sp) (hr : RoomQ (k + 1) X.A) (hq : Quiet X) (hx : PassQ X E) (I : Inv X pins σ H s) (r : Vals vs us)
    (h : ∀ x dx, H x = none → H dx = none → dx ≠ x → sp X.calm (.ref x :: vs) (upd (upd H dx (.own x)) x (.ins C dx [])) (fun v H2 => v = .non ∧ Q (.ref x) H2) E) : wpAny (model X.prog X.w) X.A (call (.ref C) us) (EP X pins σ Q) X.xe s := by
  obtain ⟨l, qa, hl, hc⟩ := hq
  have z := h (s.heap.objs.size + 1) s.heap.objs.size (I.hok.fresh (Nat.le_succ _)) (I.hok.fresh (Nat.le_refl _)) (Nat.ne_of_lt (Nat.lt_succ_self _))
  rw [hc] at z
  have I2 := Inv.made (C := C) I
  refine wpAny_call (make_map (f := f) I.kIn M.makes M.init (beq_iff_eq.mp M.fn) (codeAny_mono (F.run _ X.stack _ _ (Value.ref (s.heap.objs.size + 1) :: us) _ _ E l (hr.make C us) (qa.make C us) (fun p hp => ?_) (I2.env0.make C us []) (show Vals (V.ref (s.heap.objs.size + 1) :: vs) (Value.ref (s.heap.objs.size + 1) :: us) from .cons rfl r) z) fun r s' hq' => ?_))
  · have P1 := I2.pin p (List.mem_append_left _ (hl p hp))
    exact ⟨P1.1, P1.2.1, fun hm => (List.mem_cons.mp (I2.stkSub p.1 hm)).elim P1.2.2.1 P1.2.2.2.1, P1.2.2.2.2⟩
  · cases r with
    | error e => exact hx pins σ _ _ e s' I2 hq'
    | ok fl =>
      cases fl with
      | ret u =>
        obtain ⟨v, H', I3, rv, ev, q3⟩ := I2.after hq'
        subst ev
        exact ⟨rv, ⟨V.ref (s.heap.objs.size + 1), H', I3, rfl, q3⟩⟩
      | next => exact False.elim hq'
      | brk => exact False.elim hq'
      | cont => exact False.elim hq'
theorem pe_makeQ (M : Mk X.K C f) (F : FnQ X.prog X.w X.K X.mg X.base k f n sp) (hr : RoomQ (k + 1) X.A) (hq : Quiet X) (hm : X.mg x = some (.ref C)) (hx : PassQ X E) (ha : PA X (e :: es) t) (hg : Gl X x := by rfl)
    (hdb : (x == ("__debug__" : Str)) = false := by decide) (he : starEach (e :: es) X.env = (false, eval e X.env) :: starEach es X.env := by rfl) (hpl : (backTo pos (starEach es X.env)).any (·.1) = false := by rfl) : PE X (.Call (.Name x q) (e :: es) [] pos) (tMakeQ X.calm C sp E t) := by
  refine ⟨fun pins s σ H Q I h => wpAny_Call_Name_kw (ld_glob I hg hm ?_ hdb)⟩
  exact PySem.W.callWith_K (h₀ := X.base) I.ok.mod.kin M.kp (thn (ha.run pos pins s σ H _ I h) fun us s1 ⟨vs, H1, I1, r, z⟩ => ⟨I1.kIn, run_makeQ M F hr hq hx I1 r z⟩) he hpl
theorem pe_make0Q (M : Mk X.K C f) (F : FnQ X.prog X.w X.K X.mg X.base k f n sp) (hr : RoomQ (k + 1) X.A) (hq : Quiet X) (hm : X.mg x = some (.ref C)) (hx : PassQ X E) (hg : Gl X x := by rfl)
    (hdb : (x == ("__debug__" : Str)) = false := by decide) : PE X (.Call (.Name x q) [] [] pos) (tMakeQ X.calm C sp E tNil) := by
  refine ⟨fun pins s σ H Q I h => wpAny_Call_Name_kw (ld_glob I hg hm ?_ hdb)⟩
  exact PySem.W.callWith_K0 I.kIn M.kp (run_makeQ (us := []) M F hr hq hx I .nil h)
/-- e.f, a property -/
def tPropQ (c : Bool) (C : Addr) (sp : SpQ) (E : XK) (ta : TE) : TE := fun σ H Q => ta σ H fun x H1 => ∃ a dx fs, x = .ref a ∧ H1 a = some (.ins C dx fs) ∧ sp c [.ref a] H1 Q E
theorem pe_propQ {p g : Addr} (he : PE X e ta) (c : Cls X.K C) (hp : PropOf X.K C x p g) (F : FnQ X.prog X.w X.K X.mg X.base k g n sp) (hr : RoomQ (k + 1) X.A) (hq : Quiet X)
    (hab : attributeBase e x X.env (eval e X.env) = eval e X.env) : PE X (.Attribute e x pos) (tPropQ X.calm C sp E0 ta) := by
  refine ⟨fun pins s σ H Q I h => attr_of hab (thn (he.run pins s σ H _ I h) fun u s1 ⟨y, H1, I1, rx, a, dx, fs, ex, ea, z⟩ => ?_)⟩
  subst ex
  obtain rfl : u = Value.ref a := rx
  obtain ⟨l, qa, hl, hc⟩ := hq
  rw [hc] at z
  obtain ⟨mA, O, _, _, _, _⟩ := ins_get I1.hok ea
  obtain ⟨od, J, _⟩ := O.look
  obtain ⟨rest, hrec⟩ := hp.rec_
  have I2 := I1.tok (s1.toks + 1)
  have hcl : (PySem.W.clsIn X.K C).isSome = true := by
    obtain ⟨cd, hc, _⟩ := PySem.W.any_some c.hd
    rw [hc]; rfl
  refine PySem.W.get_bind I1.kIn J (PySem.W.plainGet_of (c.get x)).1 (PySem.W.findObj_data hcl hp.at_ hp.get hp.tak) (PySem.W.plainGet_of (c.get x)).2 (wpAny_call (PySem.W.prop_get (s := { s1 with toks := s1.toks + 1 }) I1.kIn hrec ?_))
  refine codeAny_mono (F.run X.A.in1 X.stack { s1 with toks := s1.toks + 1 } H1 [.ref a] [.ref a] Q E0 l ⟨by have := hr.dp; show X.A.depth + _ + 5 < _; omega, by have := hr.un; show X.A.units + 1 + _ + 200 < _; omega⟩ qa.in1 (fun p hp => ?_) I2.env0.in1 (.cons rfl .nil) z) fun r s' hq' => ?_
  · have P1 := I2.pin p (List.mem_append_left _ (hl p hp))
    exact ⟨P1.1, P1.2.1, fun hm => (List.mem_cons.mp (I2.stkSub p.1 hm)).elim P1.2.2.1 P1.2.2.2.1, P1.2.2.2.2⟩
  cases r with
  | error er =>
    obtain ⟨_, _, _, _, _, _, _, _, _, _, _, _, z⟩ := hq'
    exact z.elim
  | ok fl =>
    cases fl with
    | ret u =>
      obtain ⟨v, H', I3, rv, q3⟩ := I2.after hq'
      show wpAny _ _ (handedOut u) _ _ _
      rw [PySem.W.handedOut_of (handed_of rv)]
      exact wpAny_pure ⟨v, H', I3, rv, q3⟩
    | next => exact False.elim hq'
    | brk => exact False.elim hq'
    | cont => exact False.elim hq'
/-- raise e, where nothing is in hand -/
theorem ps_raiseQ {W : WX} {tr : L2.St → Hp → XK → Prop} (tk : L2N.Takes X W) (he : L2N.PMk X e tr) : PS X (.Raise (some e) none pos) (fun _ σ H => X.calm = true ∧ tr σ H fun cls d H' => W cls d σ H') :=
  ⟨fun pins s σ H D I h => (L2N.ps_raise h.1 tk he).run pins s σ H D I h.2⟩
end
end K36
/-! K36Q10: an own exception over an own class over ValueError, whose __init__ says super().__init__(str(limit)); self.limit = limit -/
namespace K36
open PySem PySem.Spec PyProof.Rows L2 HotX PySem.W
structure OverT (K : Frag) (P : Program) (mg : Str → Option Value) (C fI : Addr) : Prop where
  oex : OexC K C
  iC : findIn K (.ref C) "__init__" = some (some (.ref fI))
  tI : typeIn K (.ref fI) = some (.type "function")
  noL : findIn K (.ref C) "limit" = some none
  mgC : mg "Oversized" = some (.ref C)
  mgS : mg "super" = none
  mgT : mg "str" = none
  sup : ks_superIn K C C "__init__" = some (some (.builtin "ValueError.__init__"))
  sub : mroIn K C (.ref C) = some true
  subV : subIn K (.ref C) (.type "ValueError") = some true
  opq : nsIn K cStatics "thirdparty.any" = some none
  top : (P.main.scope.names.lookup ("super" : Str)).isSome = false
  fn : ∃ oc od osl name qual kV doc pm an cda ct cc ccl cdd ccs vs file tf cl cld csl, K.lookup fI = some ⟨oc, od, .func (ksFn name qual (defArgs s_Oversized_init) (defBody s_Oversized_init) (defScope s_Oversized_init) .none kV doc pm an (.ref cda) ct cc), osl⟩ ∧ codeIn K (.ref cda) qual = true ∧
    K.lookup cda = some ⟨ccl, cdd, .fields vs, ccs⟩ ∧ vs[2]? = some (.str file tf) ∧ ((P.main.file : Str) == file) = true ∧ K.lookup cc = some ⟨cl, cld, .cell (some (.ref C)), csl⟩
section
variable {P : Program} {w : World} {A : Around} {K : Frag} {mg : Str → Option Value} {C fI : Addr}
/-- the method-wrapper of ValueError.__init__, called -/
theorem mw_call {E : Value → Shared → Prop} {h : Heap} {g : Array GenState} {d : Drawn} {t : Nat} {os : OsState} {u e t0 : Addr} {rest : List Value} {Q : Value → Shared → Prop} (T : OexC K C) (X : K.In h) (he : h.get? e = some (PySem.HandSPX.excO C t0)) (hu : h.get? u = some (kxs_mw "ValueError.__init__" e)) (hz : rest.length ≤ sizeLine)
    (hq : ∀ h' t1, (∀ b o, b ≠ e → h.get? b = some o → h'.get? b = some o) → h'.get? e = some (PySem.HandSPX.excO C t1) → Q .none ⟨h', g, d, t, os⟩) : wpAny (model P w) A (call (.ref u) rest) Q E ⟨h, g, d, t, os⟩ := by
  obtain ⟨nm, q, N, bs, bm, sn, sub, ab, col, dd, k0, k1, k2, k3, k5, hC, hbm⟩ := T.cls
  refine wpAny_call (codeAny_of_tree ?_)
  show wpAny _ A.in1 (callAny (.ref u) ⟨rest, []⟩) _ _ _
  simp only [callAny]
  refine wpAny_bind (wpAny_load hu ?_)
  simp only [kxs_mw, show (Value.type "method-wrapper" == Value.type "method" || Value.type "method-wrapper" == Value.type "builtin_function_or_method" || Value.type "method-wrapper" == Value.type "method-wrapper") = true by decide, if_true]
  refine KFB.if_so (by decide) ?_
  refine wpAny_bind (check_bound_init F.excBase_ValueError.toExcCallFacts (X _ _ hC) he rfl ?_)
  refine wpAny_bind (wpAny_pure (wpAny_pure ⟨plainId_quiet F.excBase_ValueError.init.plain _, codeAny_builtin F.excBase_ValueError.initEntry ?_⟩))
  exact exc_init_tree (cls := .ref C) (t0 := t0) (dv := none) (c2 := .none) (c3 := .none) (b4 := .bool false) he hz fun h' k he' _ => hq h' h.objs.size k he'
/-- Oversized.__init__ -/
theorem over_run {R : Result → Shared → Prop} {h h2 : Heap} {g : Array GenState} {d : Drawn} {t : Nat} {os : OsState} {x t0 : Addr} {z : Str} {tk : Tok} (T : OverT K P mg C fI)
    (KX : K.In h) (gl : h.Ns mainGlobals mg) (blt : ∃ mb, h.Ns builtinsNs mb ∧ ∀ y : Str, y ≠ "__name__" → mb y = bootBuiltins y) (lim : h.NoLimit) (k : ∀ b o, h.get? b = some o → h2.get? b = some o) (hx : h2.get? x = some (PySem.HandSPX.excO C t0)) (nx : h.get? x = none) (sz : h.objs.size ≤ h2.objs.size)
    (room : A.depth < recursionLimit)
    (hq : ∀ h' tk' dx t1, (∀ b o, b ≠ x → h2.get? b = some o → h'.get? b = some o) → h2.objs.size ≤ dx → dx ≠ x → h'.get? x = some { cls := .ref C, dict := some dx, data := .fields #[.ref t1, .none, .none, .none, .bool false, .none] } →
      h'.Ns1 dx (fun y => if y = "limit" then some (.str z tk) else none) → R (.ok (.ret .none)) ⟨h', g, d, tk', os⟩) :
    codeAny (model P w) A (.call (.ref fI) ⟨[.ref x, .str z tk], []⟩) R ⟨h2, g, d, t, os⟩ := by
  obtain ⟨oc, od, osl, name, qual, kV, doc, pm, an, cda, ct, cc, ccl, cdd, ccs, vs, file, tf, cl, cld, csl, lk, hcd, lc, hvs, hfile, lcc⟩ := T.fn
  obtain ⟨nm, q, N, bs, bm, sn, sub, ab, col, dd, k0, k1, k2, k3, k5, hC, hbm⟩ := T.oex.cls
  have hcl : clsIn K C = some { name := nm, bases := bs, mro := .ref C :: bm, ns := N, qualname := q, hasDict := true, slotNames := sn, subclasses := sub, abstract := ab, collection := col, hasDel := false } := by unfold clsIn; rw [hC] <;> rfl
  have K2 : K.In h2 := KX.keeps k
  refine ks_codeAny_call_defAt (fd := ksFn name qual _ _ (defScope s_Oversized_init) .none kV doc pm an (.ref cda) ct cc) (binds := [("self", .ref x), ("limit", .str z tk)]) room (K2 _ _ lk) rfl (lim.keeps k) (codeRec_of K2 hcd) rfl (BindsTo.of_eq (rfl)) (show ∀ y ∈ (defScope s_Oversized_init).names, y.2 ≠ .cell by decide +kernel) (fun y hy => ?_) (fun h3 hns k3 => ?_) rfl rfl rfl
  · rcases List.mem_cons.mp hy with rfl | hy
    · rfl
    · rw [List.mem_singleton.mp hy]; rfl
  obtain ⟨m, hns, s1, s2⟩ : ∃ m, h3.Ns h2.objs.size m ∧ m ("self" : Str) = some (.ref x) ∧ m ("limit" : Str) = some (.str z tk) := ⟨_, hns, rfl, rfl⟩
  generalize hL : h2.objs.size = L at hns hq sz ⊢
  have xlt : x < L := by rw [← hL]; exact Heap.lt_size hx
  have K3 : K.In h3 := K2.keeps k3
  have hx3 := k3 _ _ hx
  obtain ⟨mb, hmb, hbt⟩ := blt
  show PySem.wpAt _ _ _ (execs [.Expr (.Call (.Attribute (.Call (.Name "super" _) [] [] _) "__init__" _) [.Call (.Name "str" _) [.Name "limit" _] [] _] [] _) _, .Assign [.Attribute (.Name "self" _) "limit" _] (.Name "limit" _) _] (ksEnv qual (defScope s_Oversized_init) L fI (.ref cda) cc)) _ _ _
  refine ks_wpAt_execs_cons (ks_wpAt_Expr_any (ks_wpAt_MethodCall ?_))
  refine ks_wpAt_super_base (env := ksEnv qual (defScope s_Oversized_init) L fI (.ref cda) cc) (ar := (defArgs s_Oversized_init).args.headD default) rfl rfl rfl rfl (K3 _ _ lk) rfl rfl rfl (K3 _ _ lc) rfl hvs hfile T.top ?_
  refine ks_loadName_global rfl rfl (Calls.loadGlobal_builtin (env := ksEnv qual (defScope s_Oversized_init) L fI (.ref cda) cc) (gl.keeps fun b o e => k3 b o (k b o e)) T.mgS (hmb.keeps fun b o e => k3 b o (k b o e)) ((hbt _ (by decide)).trans PyProof.Rows.Boot.super) ⟨rfl, ?_⟩)
  refine wpAny_loadName_free rfl rfl rfl ⟨_, K3 _ _ lcc, rfl⟩ ?_
  refine wpAny_loadName_local rfl rfl hns s1 ?_
  refine ks_wpAny_isType_cls (K3 _ _ hC) rfl ⟨rfl, ?_⟩
  refine ks_wpAny_call_super (K3 _ _ hC) rfl hx3 rfl (fun c e => nomatch e) (looks_mroIn K3 T.sub) (fun h4 e4 k4 => ?_)
  have K4 : K.In h4 := K3.keeps k4
  have hx4 := k4 _ _ hx3
  have sup := T.sup
  unfold ks_superIn at sup
  rw [hcl] at sup
  have I4 : InstAt h4 x (PySem.HandSPX.excO C t0) C none := ⟨hx4, rfl, rfl, trivial⟩
  refine kxs_getMethod kxs_ValueError e4 (looks_opaque K4 T.opq) (l₀ := .ref C :: bm) ?_ rfl K4 sup (I4.type.andThen (looks_subIn K4 T.subV)) (ks_ne K4 I4 hcl) (by decide) ?_
  · exact fun A Q E s k q => wpAny_bind ((looks_clsIn K4 hcl) A _ E s k (wpAny_pure q))
  have K5 : K.In (h4.push (kxs_mw "ValueError.__init__" x)) := K4.keeps fun b o e => Heap.get?_push_of_some _ e
  have hns5 : (h4.push (kxs_mw "ValueError.__init__" x)).Ns L m := hns.keeps fun b o e => Heap.get?_push_of_some _ (k4 b o e)
  have hu5 : (h4.push (kxs_mw "ValueError.__init__" x)).get? h4.objs.size = some (kxs_mw "ValueError.__init__" x) := Heap.get?_push_size _ rfl
  have hx5 := Heap.get?_push_of_some (kxs_mw "ValueError.__init__" x) hx4
  have old5 : ∀ b o, h3.get? b = some o → (h4.push (kxs_mw "ValueError.__init__" x)).get? b = some o := fun b o e => Heap.get?_push_of_some _ (k4 b o e)
  generalize h4.push (kxs_mw "ValueError.__init__" x) = h5 at K5 hns5 hu5 hx5 old5 ⊢
  generalize h4.objs.size = u at hu5 ⊢
  refine kxs_callWith (i := "ValueError.__init__") (x := x) rfl (Calls.evalArgs_plain (Calls.spliced_cons (wpAny_Call_Name_kw ?_)))
  refine Calls.Name_function_global (env := ksEnv qual (defScope s_Oversized_init) L fI (.ref cda) cc) rfl rfl (Calls.loadGlobal_builtin (gl.keeps fun b o e => old5 b o (k3 b o (k b o e))) T.mgT (hmb.keeps fun b o e => old5 b o (k3 b o (k b o e))) ((hbt _ (by decide)).trans PyProof.Rows.Boot.str) ?_) (by decide)
  refine PyProof.Rows.callWith_type1 (Calls.spliced_cons (wpAny_Name (wpAny_loadName_local rfl rfl hns5 s2 (Calls.spliced_nil (PySem.P.str_of_str (Calls.spliced_nil ⟨hu5, ?_⟩)))) (by decide))) rfl rfl
  refine mw_call T.oex K5 hx5 hu5 (by rw [sizeLine_eq]; show 1 ≤ _; omega) fun h6 t1 k6 e6 => ?_
  have xL : L ≠ x := Nat.ne_of_gt xlt
  have K6 : K.In h6 := fun b o e => k6 b o (fun z => by
    have q := KX b o e
    rw [z, nx] at q
    cases q) (K5 b o e)
  have hns6 : h6.Ns L m := by
    obtain ⟨o, es, ep, hL', r⟩ := hns5
    exact ⟨o, es, ep, k6 _ _ xL hL', r⟩
  refine ks_wpAt_execs_cons (wpAt_of_wpAny (plainObj_wpAny_Assign_Attribute (wpAny_Name (wpAny_loadName_local rfl rfl hns6 s2 (wpAny_Name (wpAny_loadName_local rfl rfl hns6 s1 ?_) (by decide))) (by decide))))
  refine set_plain K6 (ox := { cls := .ref C, dict := none, data := .fields #[.ref t1, .none, .none, .none, .bool false, .none] }) (od := none) ⟨e6, rfl, rfl, trivial⟩ T.oex.sa ?_
  refine PySem.HandSPX.exc_osa K6 e6 hcl (show PySem.HandSPX.refsVE (.ref C :: bm) = true from hbm) rfl T.noL (fun h7 tk' dx k7 dn dne hx7 hn7 => ?_)
  refine wpAt_of_wpAny ?_
  show wpAny _ _ (execs [] _) _ _ _
  rw [execs_nil]
  refine wpAny_pure (hq h7 tk' dx t1 (fun b o hb e => k7 b o hb (k6 b o hb (old5 b o (k3 b o e)))) ?_ dne hx7 hn7)
  exact Nat.le_trans (Nat.le_of_lt hns6.lt) dn
end
/-- Oversized(e) -/
def tOver (C : Addr) (te : TE) : L2.St → Hp → XK → Prop := fun σ H Q => te σ H fun v H1 => ∃ z : Str, [v] = [V.str z] ∧ ∀ d, H1 d = none → Q (.ref C) (some d) (upd H1 d (.xd [("limit", .str z)]))
theorem pmk_over {X : Cx} {C fI : Addr} {e : Expr} {te : TE} {k : Nat} {p pos : Pos} (T : OverT X.K X.prog X.mg C fI) (hr : RoomQ (k + 1) X.A) (he : PE X e te) (hg : Gl X "Oversized")
    (hst : starEach [e] X.env = [(false, eval e X.env)] := by rfl) : L2N.PMk X (.Call (.Name "Oversized" p) [e] [] pos) (tOver C te) := by
  intro pins s σ H Q I h
  obtain ⟨nm, q, N, bs, bm, sn, sub, ab, col, dd, k0, k1, k2, k3, k5, hC, hbm⟩ := T.oex.cls
  refine wpAny_Call_Name_kw (ld_glob I hg T.mgC ?_)
  have ha : PA X [e] (tCons te tNil) := pa_cons (hs := hst) he pa_nil
  refine PySem.W.callWith_K (h₀ := X.base) I.ok.mod.kin T.oex.kC (thn (ha.run pos pins s σ H (fun vs H1 => ∃ z : Str, vs = [.str z] ∧ ∀ d, H1 d = none → Q (.ref C) (some d) (upd H1 d (.xd [("limit", .str z)]))) I ?_) fun us s1 hh => ?_) hst
  · exact h
  obtain ⟨vs, H1, I1, r1, z, rfl, q1⟩ := hh
  refine ⟨I1.kIn, ?_⟩
  cases r1 with
  | cons ru rn =>
  cases rn
  obtain ⟨tk, rfl⟩ := ru
  show wpAny _ _ (call (.ref C) [.str z tk]) _ _ _
  obtain ⟨hp, g, dr, t, os⟩ := s1
  have kk : ∀ b o, hp.get? b = some o → ((hp.push (PySem.W.kdv_tup [.str z tk])).push (PySem.HandSPX.excO C hp.objs.size)).get? b = some o := fun b o e => Heap.get?_push_of_some _ (Heap.get?_push_of_some _ e)
  have hget : ((hp.push (PySem.W.kdv_tup [.str z tk])).push (PySem.HandSPX.excO C hp.objs.size)).get? (hp.objs.size + 1) = some (PySem.HandSPX.excO C hp.objs.size) := by heap_get
  have nx : hp.get? (hp.objs.size + 1) = none := Heap.get?_none_of_le (Nat.le_succ _)
  have lim : hp.NoLimit := I1.ok.mod.nolimit.keeps fun b o e => I1.bk b o e
  obtain ⟨mb, b1, b2⟩ := I1.ok.mod.blt
  have dp := hr.dp
  refine wpAny_call (PySem.HandSPX.call_own F.excBase_ValueError (fun Y => PySem.HandSPX.refsVE_contains Y bm hbm) (I1.kIn _ _ hC) (PySem.W.looks_findIn I1.kIn T.iC) (fun self => PySem.W.bind_fn I1.kIn self T.tI) (by rw [sizeLine_eq]; show 1 ≤ _; omega)
    (over_run T I1.kIn (I1.ok.mod.glob.keeps I1.bk) ⟨mb, b1.keeps I1.bk, b2⟩ lim kk hget nx (by rw [size_push', size_push']; exact Nat.le_succ_of_le (Nat.le_succ _)) ?_ fun h' tk' dx t1 k' dn dne hx' hn' => ?_))
  · rw [make_depth]
    omega
  · refine ⟨rfl, ?_⟩
    have dn' : hp.objs.size ≤ dx := Nat.le_trans (by rw [size_push', size_push']; exact Nat.le_succ_of_le (Nat.le_succ _)) dn
    have kold : ∀ b o, hp.get? b = some o → h'.get? b = some o := fun b o e => k' b o (fun z => by rw [z, nx] at e; cases e) (kk b o e)
    obtain ⟨G, g1, g2⟩ := restrict h' fun b => decide (b ≠ hp.objs.size + 1)
    have gk : ∀ b, b ≠ hp.objs.size + 1 → G.get? b = h'.get? b := fun b hb => g1 b (decide_eq_true hb)
    have ge : G.get? (hp.objs.size + 1) = none := g2 _ (by simp)
    have J := I1.laid (a := dx) (o := .xd [("limit", .str z)]) (h' := G) (t' := tk') (fun b o e => (gk b fun z => by rw [z, nx] at e; cases e).trans (kold b o e)) dn'
      ⟨_, hn'.at fun o y => (gk dx dne).trans y, relO_put (fs := []) (y := .str z) ⟨tk, rfl⟩ fun _ => True.intro⟩
    refine ⟨hp.objs.size + 1, _, _, _, _, .ref C, some dx, rfl, J, fun b o e => ?_, ge, hx', ⟨rfl, rfl, ?_⟩, rfl, rfl, ?_, rfl, I1.bare, raises_own T.oex.exC T.oex.tyC, q1 dx (I1.hok.fresh dn')⟩
    · have hb : b ≠ hp.objs.size + 1 := fun z => by rw [z] at e; rw [show G.get? (hp.objs.size + 1) = some o from e] at ge; cases ge
      exact (gk b hb).symm.trans e
    · exact fun vs e => by cases e; rfl
    · rw [upd_ne (Ne.symm dne)]
      exact I1.hok.fresh (Nat.le_succ _)
end K36
namespace K36
open PySem PySem.Spec PyProof.Rows L2
/-- the getter behind a property -/
def sizeAd (K : PySem.W.Frag) : Addr := match PySem.W.findIn K (.ref (He.ga K "Machine")) "size" with
  | some (some (.ref p)) => (match PySem.W.recIn K p "property" with
    | some (.ref g :: _) => g
    | _ => 0)
  | _ => 0
def ops4 : List Str := ["and", "or", "imp", "iff"]
def heads : List Str := ["eq", "le", "pow", "word", "call", "not", "and", "or", "imp", "iff"]
structure Txt0 (K : PySem.W.Frag) (mg : Str → Option Value) : Prop where
  F_own_names : ∃ fd, FunD K "own_names" "own_names" (defArgs s_own_names) (defBody s_own_names) (defScope s_own_names) [] [] (He.ga K "own_names") fd
  F_parts : ∃ fd, FunD K "parts" "parts" (defArgs s_parts) (defBody s_parts) (defScope s_parts) [] [] (He.ga K "parts") fd
  F_free_list : ∃ fd, FunD K "free_list" "free_list" (defArgs s_free_list) (defBody s_free_list) (defScope s_free_list) [] [] (He.ga K "free_list") fd
  F_free_names : ∃ fd, FunD K "free_names" "free_names" (defArgs s_free_names) (defBody s_free_names) (defScope s_free_names) [] [] (He.ga K "free_names") fd
  F_Book_init : ∃ fd, FunD K "__init__" "Book.__init__" (defArgs s_Book_init) (defBody s_Book_init) (defScope s_Book_init) [] [] (He.ma K (He.ga K "Book") "__init__") fd
  F_Book_define : ∃ fd, FunD K "define" "Book.define" (defArgs s_Book_define) (defBody s_Book_define) (defScope s_Book_define) [] [] (He.ma K (He.ga K "Book") "define") fd
  F_Book_tell : ∃ fd, FunD K "tell" "Book.tell" (defArgs s_Book_tell) (defBody s_Book_tell) (defScope s_Book_tell) [] [] (He.ma K (He.ga K "Book") "tell") fd
  F_Book_parameters : ∃ fd, FunD K "parameters" "Book.parameters" (defArgs s_Book_parameters) (defBody s_Book_parameters) (defScope s_Book_parameters) [] [] (He.ma K (He.ga K "Book") "parameters") fd
  F_Book_formula : ∃ fd, FunD K "formula" "Book.formula" (defArgs s_Book_formula) (defBody s_Book_formula) (defScope s_Book_formula) [] [] (He.ma K (He.ga K "Book") "formula") fd
  F_Book_told : ∃ fd, FunD K "told" "Book.told" (defArgs s_Book_told) (defBody s_Book_told) (defScope s_Book_told) [] [] (He.ma K (He.ga K "Book") "told") fd
  F_check_formula : ∃ fd, FunD K "check_formula" "check_formula" (defArgs s_check_formula) (defBody s_check_formula) (defScope s_check_formula) [] [] (He.ga K "check_formula") fd
  F_letters : ∃ fd, FunD K "letters" "letters" (defArgs s_letters) (defBody s_letters) (defScope s_letters) [] [] (He.ga K "letters") fd
  F_digit : ∃ fd, FunD K "digit" "digit" (defArgs s_digit) (defBody s_digit) (defScope s_digit) [] [] (He.ga K "digit") fd
  F_letter_of : ∃ fd, FunD K "letter_of" "letter_of" (defArgs s_letter_of) (defBody s_letter_of) (defScope s_letter_of) [] [] (He.ga K "letter_of") fd
  F_word_of : ∃ fd, FunD K "word_of" "word_of" (defArgs s_word_of) (defBody s_word_of) (defScope s_word_of) [] [] (He.ga K "word_of") fd
  F_is_table : ∃ fd, FunD K "is_table" "is_table" (defArgs s_is_table) (defBody s_is_table) (defScope s_is_table) [] [] (He.ga K "is_table") fd
  F_Machine_init : ∃ fd, FunD K "__init__" "Machine.__init__" (defArgs s_Machine_init) (defBody s_Machine_init) (defScope s_Machine_init) [] [] (He.ma K (He.ga K "Machine") "__init__") fd
  F_Machine_behind : ∃ fd, FunD K "behind" "Machine.behind" (defArgs s_Machine_behind) (defBody s_Machine_behind) (defScope s_Machine_behind) [] [] (He.ma K (He.ga K "Machine") "behind") fd
  F_Machine_accepts : ∃ fd, FunD K "accepts" "Machine.accepts" (defArgs s_Machine_accepts) (defBody s_Machine_accepts) (defScope s_Machine_accepts) [] [] (He.ma K (He.ga K "Machine") "accepts") fd
  F_Machine_takes : ∃ fd, FunD K "takes" "Machine.takes" (defArgs s_Machine_takes) (defBody s_Machine_takes) (defScope s_Machine_takes) [] [] (He.ma K (He.ga K "Machine") "takes") fd
  F_Search_init : ∃ fd, FunD K "__init__" "Search.__init__" (defArgs s_Search_init) (defBody s_Search_init) (defScope s_Search_init) [] [] (He.ma K (He.ga K "Search") "__init__") fd
  F_Search_place : ∃ fd, FunD K "place" "Search.place" (defArgs s_Search_place) (defBody s_Search_place) (defScope s_Search_place) [] [] (He.ma K (He.ga K "Search") "place") fd
  F_Search_waiting : ∃ fd, FunD K "waiting" "Search.waiting" (defArgs s_Search_waiting) (defBody s_Search_waiting) (defScope s_Search_waiting) [] [] (He.ma K (He.ga K "Search") "waiting") fd
  F_Search_current : ∃ fd, FunD K "current" "Search.current" (defArgs s_Search_current) (defBody s_Search_current) (defScope s_Search_current) [] [] (He.ma K (He.ga K "Search") "current") fd
  F_Search_enter : ∃ fd, FunD K "enter" "Search.enter" (defArgs s_Search_enter) (defBody s_Search_enter) (defScope s_Search_enter) [] [] (He.ma K (He.ga K "Search") "enter") fd
  F_numbered : ∃ fd, FunD K "numbered" "numbered" (defArgs s_numbered) (defBody s_numbered) (defScope s_numbered) [] [] (He.ga K "numbered") fd
  F_classes : ∃ fd, FunD K "classes" "classes" (defArgs s_classes) (defBody s_classes) (defScope s_classes) [] [] (He.ga K "classes") fd
  F_least_with_map : ∃ fd, FunD K "least_with_map" "least_with_map" (defArgs s_least_with_map) (defBody s_least_with_map) (defScope s_least_with_map) [] [] (He.ga K "least_with_map") fd
  F_least : ∃ fd, FunD K "least" "least" (defArgs s_least) (defBody s_least) (defScope s_least) [] [] (He.ga K "least") fd
  F_digit_sum : ∃ fd, FunD K "digit_sum" "digit_sum" (defArgs s_digit_sum) (defBody s_digit_sum) (defScope s_digit_sum) [] [] (He.ga K "digit_sum") fd
  F_equal_step : ∃ fd, FunD K "equal_step" "equal_step" (defArgs s_equal_step) (defBody s_equal_step) (defScope s_equal_step) [] [] (He.ga K "equal_step") fd
  F_at_most_step : ∃ fd, FunD K "at_most_step" "at_most_step" (defArgs s_at_most_step) (defBody s_at_most_step) (defScope s_at_most_step) [] [] (He.ga K "at_most_step") fd
  F_labelled : ∃ fd, FunD K "labelled" "labelled" (defArgs s_labelled) (defBody s_labelled) (defScope s_labelled) [] [] (He.ga K "labelled") fd
  F_equation : ∃ fd, FunD K "equation" "equation" (defArgs s_equation) (defBody s_equation) (defScope s_equation) [] [] (He.ga K "equation") fd
  F_at_most : ∃ fd, FunD K "at_most" "at_most" (defArgs s_at_most) (defBody s_at_most) (defScope s_at_most) [] [] (He.ga K "at_most") fd
  F_joined : ∃ fd, FunD K "joined" "joined" (defArgs s_joined) (defBody s_joined) (defScope s_joined) [] [] (He.ga K "joined") fd
  F_both_with_pairs : ∃ fd, FunD K "both_with_pairs" "both_with_pairs" (defArgs s_both_with_pairs) (defBody s_both_with_pairs) (defScope s_both_with_pairs) [] [] (He.ga K "both_with_pairs") fd
  F_both : ∃ fd, FunD K "both" "both" (defArgs s_both) (defBody s_both) (defScope s_both) [] [] (He.ga K "both") fd
  F_complement : ∃ fd, FunD K "complement" "complement" (defArgs s_complement) (defBody s_complement) (defScope s_complement) [] [] (He.ga K "complement") fd
  F_is_output : ∃ fd, FunD K "is_output" "is_output" (defArgs s_is_output) (defBody s_is_output) (defScope s_is_output) [] [] (He.ga K "is_output") fd
  F_is_row : ∃ fd, FunD K "is_row" "is_row" (defArgs s_is_row) (defBody s_is_row) (defScope s_is_row) [] [] (He.ga K "is_row") fd
  F_Told_init : ∃ fd, FunD K "__init__" "Told.__init__" (defArgs s_Told_init) (defBody s_Told_init) (defScope s_Told_init) [] [] (He.ma K (He.ga K "Told") "__init__") fd
  F_Told_machine : ∃ fd, FunD K "machine" "Told.machine" (defArgs s_Told_machine) (defBody s_Told_machine) (defScope s_Told_machine) [] [] (He.ma K (He.ga K "Told") "machine") fd
  F_powers : ∃ fd, FunD K "powers" "powers" (defArgs s_powers) (defBody s_powers) (defScope s_powers) [] [] (He.ga K "powers") fd
  F_check_places : ∃ fd, FunD K "check_places" "check_places" (defArgs s_check_places) (defBody s_check_places) (defScope s_check_places) [] [] (He.ga K "check_places") fd
  F_spread_with_states : ∃ fd, FunD K "spread_with_states" "spread_with_states" (defArgs s_spread_with_states) (defBody s_spread_with_states) (defScope s_spread_with_states) [] [] (He.ga K "spread_with_states") fd
  F_spread : ∃ fd, FunD K "spread" "spread" (defArgs s_spread) (defBody s_spread) (defScope s_spread) [] [] (He.ga K "spread") fd
  F_places_in : ∃ fd, FunD K "places_in" "places_in" (defArgs s_places_in) (defBody s_places_in) (defScope s_places_in) [] [] (He.ga K "places_in") fd
  F_Compiler_init : ∃ fd, FunD K "__init__" "Compiler.__init__" (defArgs s_Compiler_init) (defBody s_Compiler_init) (defScope s_Compiler_init) [] [] (He.ma K (He.ga K "Compiler") "__init__") fd
  F_Compiler_compiled : ∃ fd, FunD K "compiled" "Compiler.compiled" (defArgs s_Compiler_compiled) (defBody s_Compiler_compiled) (defScope s_Compiler_compiled) [] [] (He.ma K (He.ga K "Compiler") "compiled") fd
  F_Compiler_definition : ∃ fd, FunD K "definition" "Compiler.definition" (defArgs s_Compiler_definition) (defBody s_Compiler_definition) (defScope s_Compiler_definition) [] [] (He.ma K (He.ga K "Compiler") "definition") fd
  F_Compiler_made : ∃ fd, FunD K "_made" "Compiler._made" (defArgs s_Compiler_made) (defBody s_Compiler_made) (defScope s_Compiler_made) [] [] (He.ma K (He.ga K "Compiler") "_made") fd
  F_Compiler_made_linear : ∃ fd, FunD K "_made_linear" "Compiler._made_linear" (defArgs s_Compiler_made_linear) (defBody s_Compiler_made_linear) (defScope s_Compiler_made_linear) [] [] (He.ma K (He.ga K "Compiler") "_made_linear") fd
  F_Compiler_made_joined : ∃ fd, FunD K "_made_joined" "Compiler._made_joined" (defArgs s_Compiler_made_joined) (defBody s_Compiler_made_joined) (defScope s_Compiler_made_joined) [] [] (He.ma K (He.ga K "Compiler") "_made_joined") fd
  F_Compiler_made_call : ∃ fd, FunD K "_made_call" "Compiler._made_call" (defArgs s_Compiler_made_call) (defBody s_Compiler_made_call) (defScope s_Compiler_made_call) [] [] (He.ma K (He.ga K "Compiler") "_made_call") fd
  F_compile_formula : ∃ fd, FunD K "compile_formula" "compile_formula" (defArgs s_compile_formula) (defBody s_compile_formula) (defScope s_compile_formula) [] [] (He.ga K "compile_formula") fd
  F__law_wide : ∃ fd, FunD K "_law_wide" "_law_wide" (defArgs s__law_wide) (defBody s__law_wide) (defScope s__law_wide) [] [] (He.ga K "_law_wide") fd
  F__law_take : ∃ fd, FunD K "_law_take" "_law_take" (defArgs s__law_take) (defBody s__law_take) (defScope s__law_take) [] [] (He.ga K "_law_take") fd
  F__law_pool : ∃ fd, FunD K "_law_pool" "_law_pool" (defArgs s__law_pool) (defBody s__law_pool) (defScope s__law_pool) [] [] (He.ga K "_law_pool") fd
  F__law_number : ∃ fd, FunD K "_law_number" "_law_number" (defArgs s__law_number) (defBody s__law_number) (defScope s__law_number) [] [] (He.ga K "_law_number") fd
structure Txt1 (K : PySem.W.Frag) (mg : Str → Option Value) : Prop where
  F__law_told_states : ∃ fd, FunD K "_law_told_states" "_law_told_states" (defArgs s__law_told_states) (defBody s__law_told_states) (defScope s__law_told_states) [] [] (He.ga K "_law_told_states") fd
  F__law_small_term : ∃ fd, FunD K "_law_small_term" "_law_small_term" (defArgs s__law_small_term) (defBody s__law_small_term) (defScope s__law_small_term) [] [] (He.ga K "_law_small_term") fd
  F__law_atom : ∃ fd, FunD K "_law_atom" "_law_atom" (defArgs s__law_atom) (defBody s__law_atom) (defScope s__law_atom) [] [] (He.ga K "_law_atom") fd
  F__law_plain : ∃ fd, FunD K "_law_plain" "_law_plain" (defArgs s__law_plain) (defBody s__law_plain) (defScope s__law_plain) [] [] (He.ga K "_law_plain") fd
  F__law_world : ∃ fd, FunD K "_law_world" "_law_world" (defArgs s__law_world) (defBody s__law_world) (defScope s__law_world) [] [] (He.ga K "_law_world") fd
  F__law_book : ∃ fd, FunD K "_law_book" "_law_book" (defArgs s__law_book) (defBody s__law_book) (defScope s__law_book) [] [] (He.ga K "_law_book") fd
  F__law_output : ∃ fd, FunD K "_law_output" "_law_output" (defArgs s__law_output) (defBody s__law_output) (defScope s__law_output) [] [] (He.ga K "_law_output") fd
  F__law_power : ∃ fd, FunD K "_law_power" "_law_power" (defArgs s__law_power) (defBody s__law_power) (defScope s__law_power) [] [] (He.ga K "_law_power") fd
  F__law_joins_truth : ∃ fd, FunD K "_law_joins_truth" "_law_joins_truth" (defArgs s__law_joins_truth) (defBody s__law_joins_truth) (defScope s__law_joins_truth) [] [] (He.ga K "_law_joins_truth") fd
  F__law_total : ∃ fd, FunD K "_law_total" "_law_total" (defArgs s__law_total) (defBody s__law_total) (defScope s__law_total) [] [] (He.ga K "_law_total") fd
  F__law_truth : ∃ fd, FunD K "_law_truth" "_law_truth" (defArgs s__law_truth) (defBody s__law_truth) (defScope s__law_truth) [] [] (He.ga K "_law_truth") fd
  F__law_too_large : ∃ fd, FunD K "_law_too_large" "_law_too_large" (defArgs s__law_too_large) (defBody s__law_too_large) (defScope s__law_too_large) [] [] (He.ga K "_law_too_large") fd
  F__law_made : ∃ fd, FunD K "_law_made" "_law_made" (defArgs s__law_made) (defBody s__law_made) (defScope s__law_made) [] [] (He.ga K "_law_made") fd
  F__law_called : ∃ fd, FunD K "_law_called" "_law_called" (defArgs s__law_called) (defBody s__law_called) (defScope s__law_called) [] [] (He.ga K "_law_called") fd
  F__law_free : ∃ fd, FunD K "_law_free" "_law_free" (defArgs s__law_free) (defBody s__law_free) (defScope s__law_free) [] [] (He.ga K "_law_free") fd
  F__law_marked : ∃ fd, FunD K "_law_marked" "_law_marked" (defArgs s__law_marked) (defBody s__law_marked) (defScope s__law_marked) [] [] (He.ga K "_law_marked") fd
  F__law_once : ∃ fd, FunD K "_law_once" "_law_once" (defArgs s__law_once) (defBody s__law_once) (defScope s__law_once) [] [] (He.ga K "_law_once") fd
  F_law : ∃ fd, FunD K "law" "law" (defArgs s_law) (defBody s_law) (defScope s_law) [] [] (He.ga K "law") fd
  g_own_names : mg "own_names" = some (.ref (He.ga K "own_names"))
  g_parts : mg "parts" = some (.ref (He.ga K "parts"))
  g_free_list : mg "free_list" = some (.ref (He.ga K "free_list"))
  g_free_names : mg "free_names" = some (.ref (He.ga K "free_names"))
  g_check_formula : mg "check_formula" = some (.ref (He.ga K "check_formula"))
  g_letters : mg "letters" = some (.ref (He.ga K "letters"))
  g_digit : mg "digit" = some (.ref (He.ga K "digit"))
  g_letter_of : mg "letter_of" = some (.ref (He.ga K "letter_of"))
  g_word_of : mg "word_of" = some (.ref (He.ga K "word_of"))
  g_is_table : mg "is_table" = some (.ref (He.ga K "is_table"))
  g_numbered : mg "numbered" = some (.ref (He.ga K "numbered"))
  g_classes : mg "classes" = some (.ref (He.ga K "classes"))
  g_least_with_map : mg "least_with_map" = some (.ref (He.ga K "least_with_map"))
  g_least : mg "least" = some (.ref (He.ga K "least"))
  g_digit_sum : mg "digit_sum" = some (.ref (He.ga K "digit_sum"))
  g_equal_step : mg "equal_step" = some (.ref (He.ga K "equal_step"))
  g_at_most_step : mg "at_most_step" = some (.ref (He.ga K "at_most_step"))
  g_labelled : mg "labelled" = some (.ref (He.ga K "labelled"))
  g_equation : mg "equation" = some (.ref (He.ga K "equation"))
  g_at_most : mg "at_most" = some (.ref (He.ga K "at_most"))
  g_joined : mg "joined" = some (.ref (He.ga K "joined"))
  g_both_with_pairs : mg "both_with_pairs" = some (.ref (He.ga K "both_with_pairs"))
  g_both : mg "both" = some (.ref (He.ga K "both"))
  g_complement : mg "complement" = some (.ref (He.ga K "complement"))
  g_is_output : mg "is_output" = some (.ref (He.ga K "is_output"))
  g_is_row : mg "is_row" = some (.ref (He.ga K "is_row"))
  g_powers : mg "powers" = some (.ref (He.ga K "powers"))
  g_check_places : mg "check_places" = some (.ref (He.ga K "check_places"))
  g_spread_with_states : mg "spread_with_states" = some (.ref (He.ga K "spread_with_states"))
  g_spread : mg "spread" = some (.ref (He.ga K "spread"))
  g_places_in : mg "places_in" = some (.ref (He.ga K "places_in"))
  g_compile_formula : mg "compile_formula" = some (.ref (He.ga K "compile_formula"))
  g__law_wide : mg "_law_wide" = some (.ref (He.ga K "_law_wide"))
  g__law_take : mg "_law_take" = some (.ref (He.ga K "_law_take"))
  g__law_pool : mg "_law_pool" = some (.ref (He.ga K "_law_pool"))
  g__law_number : mg "_law_number" = some (.ref (He.ga K "_law_number"))
  g__law_told_states : mg "_law_told_states" = some (.ref (He.ga K "_law_told_states"))
  g__law_small_term : mg "_law_small_term" = some (.ref (He.ga K "_law_small_term"))
  g__law_atom : mg "_law_atom" = some (.ref (He.ga K "_law_atom"))
  g__law_plain : mg "_law_plain" = some (.ref (He.ga K "_law_plain"))
  g__law_world : mg "_law_world" = some (.ref (He.ga K "_law_world"))
  g__law_book : mg "_law_book" = some (.ref (He.ga K "_law_book"))
structure Txt2 (K : PySem.W.Frag) (mg : Str → Option Value) : Prop where
  g__law_output : mg "_law_output" = some (.ref (He.ga K "_law_output"))
  g__law_power : mg "_law_power" = some (.ref (He.ga K "_law_power"))
  g__law_joins_truth : mg "_law_joins_truth" = some (.ref (He.ga K "_law_joins_truth"))
  g__law_total : mg "_law_total" = some (.ref (He.ga K "_law_total"))
  g__law_truth : mg "_law_truth" = some (.ref (He.ga K "_law_truth"))
  g__law_too_large : mg "_law_too_large" = some (.ref (He.ga K "_law_too_large"))
  g__law_made : mg "_law_made" = some (.ref (He.ga K "_law_made"))
  g__law_called : mg "_law_called" = some (.ref (He.ga K "_law_called"))
  g__law_free : mg "_law_free" = some (.ref (He.ga K "_law_free"))
  g__law_marked : mg "_law_marked" = some (.ref (He.ga K "_law_marked"))
  g__law_once : mg "_law_once" = some (.ref (He.ga K "_law_once"))
  g_law : mg "law" = some (.ref (He.ga K "law"))
  g_Book : mg "Book" = some (.ref (He.ga K "Book"))
  g_Machine : mg "Machine" = some (.ref (He.ga K "Machine"))
  g_Search : mg "Search" = some (.ref (He.ga K "Search"))
  g_Told : mg "Told" = some (.ref (He.ga K "Told"))
  g_Compiler : mg "Compiler" = some (.ref (He.ga K "Compiler"))
  free_range : mg "range" = none
  free_len : mg "len" = none
  free_any : mg "any" = none
  free_all : mg "all" = none
  free_list : mg "list" = none
  free_tuple : mg "tuple" = none
  free_sorted : mg "sorted" = none
  free_max : mg "max" = none
  free_min : mg "min" = none
  free_abs : mg "abs" = none
  free_int : mg "int" = none
  free_isinstance : mg "isinstance" = none
  free_bool : mg "bool" = none
  free_str : mg "str" = none
  free_super : mg "super" = none
  free_ValueError : mg "ValueError" = none
  i_STATES : ∃ t, mg "STATES" = some (.int 400 t)
  i_TRACKS : ∃ t, mg "TRACKS" = some (.int 6 t)
  i_MAX_STATES_linear : ∃ t, mg "MAX_STATES_linear" = some (.int 400 t)
  i_MAX_STATES_told : ∃ t, mg "MAX_STATES_told" = some (.int 40 t)
  i_MOST : ∃ t, mg "MOST" = some (.int 9 t)
  i_MAX_WIDTH : ∃ t, mg "MAX_WIDTH" = some (.int 6 t)
  c_Book : Cls K (He.ga K "Book")
  k_Book : Mk K (He.ga K "Book") (He.ma K (He.ga K "Book") "__init__")
  n_Book_definitions : NoAttr K (He.ga K "Book") "_definitions"
  n_Book_words : NoAttr K (He.ga K "Book") "_words"
  m_Book_define : Meth K (He.ga K "Book") "define" (He.ma K (He.ga K "Book") "define")
  m_Book_tell : Meth K (He.ga K "Book") "tell" (He.ma K (He.ga K "Book") "tell")
  m_Book_parameters : Meth K (He.ga K "Book") "parameters" (He.ma K (He.ga K "Book") "parameters")
  m_Book_formula : Meth K (He.ga K "Book") "formula" (He.ma K (He.ga K "Book") "formula")
  m_Book_told : Meth K (He.ga K "Book") "told" (He.ma K (He.ga K "Book") "told")
  c_Machine : Cls K (He.ga K "Machine")
  k_Machine : Mk K (He.ga K "Machine") (He.ma K (He.ga K "Machine") "__init__")
  n_Machine_width : NoAttr K (He.ga K "Machine") "width"
  n_Machine_table : NoAttr K (He.ga K "Machine") "table"
  n_Machine_accepting : NoAttr K (He.ga K "Machine") "accepting"
  m_Machine_behind : Meth K (He.ga K "Machine") "behind" (He.ma K (He.ga K "Machine") "behind")
  m_Machine_accepts : Meth K (He.ga K "Machine") "accepts" (He.ma K (He.ga K "Machine") "accepts")
  m_Machine_takes : Meth K (He.ga K "Machine") "takes" (He.ma K (He.ga K "Machine") "takes")
  c_Search : Cls K (He.ga K "Search")
  k_Search : Mk K (He.ga K "Search") (He.ma K (He.ga K "Search") "__init__")
  n_Search_found : NoAttr K (He.ga K "Search") "found"
  n_Search_places : NoAttr K (He.ga K "Search") "places"
structure Txt3 (K : PySem.W.Frag) (mg : Str → Option Value) : Prop where
  n_Search_rows : NoAttr K (He.ga K "Search") "rows"
  m_Search_place : Meth K (He.ga K "Search") "place" (He.ma K (He.ga K "Search") "place")
  m_Search_waiting : Meth K (He.ga K "Search") "waiting" (He.ma K (He.ga K "Search") "waiting")
  m_Search_current : Meth K (He.ga K "Search") "current" (He.ma K (He.ga K "Search") "current")
  m_Search_enter : Meth K (He.ga K "Search") "enter" (He.ma K (He.ga K "Search") "enter")
  c_Told : Cls K (He.ga K "Told")
  k_Told : Mk K (He.ga K "Told") (He.ma K (He.ga K "Told") "__init__")
  n_Told_outputs : NoAttr K (He.ga K "Told") "outputs"
  n_Told_table : NoAttr K (He.ga K "Told") "table"
  m_Told_machine : Meth K (He.ga K "Told") "machine" (He.ma K (He.ga K "Told") "machine")
  c_Compiler : Cls K (He.ga K "Compiler")
  k_Compiler : Mk K (He.ga K "Compiler") (He.ma K (He.ga K "Compiler") "__init__")
  n_Compiler_book : NoAttr K (He.ga K "Compiler") "_book"
  n_Compiler_definitions : NoAttr K (He.ga K "Compiler") "_definitions"
  m_Compiler_compiled : Meth K (He.ga K "Compiler") "compiled" (He.ma K (He.ga K "Compiler") "compiled")
  m_Compiler_definition : Meth K (He.ga K "Compiler") "definition" (He.ma K (He.ga K "Compiler") "definition")
  m_Compiler_made : Meth K (He.ga K "Compiler") "_made" (He.ma K (He.ga K "Compiler") "_made")
  m_Compiler_made_linear : Meth K (He.ga K "Compiler") "_made_linear" (He.ma K (He.ga K "Compiler") "_made_linear")
  m_Compiler_made_joined : Meth K (He.ga K "Compiler") "_made_joined" (He.ma K (He.ga K "Compiler") "_made_joined")
  m_Compiler_made_call : Meth K (He.ga K "Compiler") "_made_call" (He.ma K (He.ga K "Compiler") "_made_call")
/-- what the top has left -/
structure Txt (P : Program) (w : World) (K : PySem.W.Frag) (mg : Str → Option Value) : Prop extends Txt0 K mg, Txt1 K mg, Txt2 K mg, Txt3 K mg where
  F_Machine_size : ∃ fd, FunD K "size" "Machine.size" (defArgs s_Machine_size) (defBody s_Machine_size) (defScope s_Machine_size) [] [] (sizeAd K) fd
  p_size : ∃ p, PropOf K (He.ga K "Machine") "size" p (sizeAd K)
  g_NAMES : ∃ a, mg "NAMES" = some (.ref a) ∧ ∀ H, SqT K H a (ops4.map V.str)
  g_SIGNS : ∃ d es n, mg "SIGNS" = some (.ref d) ∧ KDict K w d es n ∧ ∀ z ∈ heads, ∃ r, PySem.W.nsIn K d z = some r ∧ r.isSome = decide (z ∈ ops4)
  over : OverT K P mg (He.ga K "Oversized") (He.ma K (He.ga K "Oversized") "__init__")
theorem txt0 {K : PySem.W.Frag} {mg : Str → Option Value} {h : Heap} (X : K.In h) (G : h.Ns mainGlobals mg) (c : He.SaysD fa fn K) : Txt0 K mg :=
  ⟨c.def_ 0 (d := d_own_names) rfl,
   c.def_ 1 (d := d_parts) rfl,
   c.def_ 2 (d := d_free_list) rfl,
   c.def_ 3 (d := d_free_names) rfl,
   c.def_ 4 (d := d_Book_init) rfl,
   c.def_ 5 (d := d_Book_define) rfl,
   c.def_ 6 (d := d_Book_tell) rfl,
   c.def_ 7 (d := d_Book_parameters) rfl,
   c.def_ 8 (d := d_Book_formula) rfl,
   c.def_ 9 (d := d_Book_told) rfl,
   c.def_ 10 (d := d_check_formula) rfl,
   c.def_ 11 (d := d_letters) rfl,
   c.def_ 12 (d := d_digit) rfl,
   c.def_ 13 (d := d_letter_of) rfl,
   c.def_ 14 (d := d_word_of) rfl,
   c.def_ 15 (d := d_is_table) rfl,
   c.def_ 16 (d := d_Machine_init) rfl,
   c.def_ 17 (d := d_Machine_behind) rfl,
   c.def_ 18 (d := d_Machine_accepts) rfl,
   c.def_ 19 (d := d_Machine_takes) rfl,
   c.def_ 20 (d := d_Search_init) rfl,
   c.def_ 21 (d := d_Search_place) rfl,
   c.def_ 22 (d := d_Search_waiting) rfl,
   c.def_ 23 (d := d_Search_current) rfl,
   c.def_ 24 (d := d_Search_enter) rfl,
   c.def_ 25 (d := d_numbered) rfl,
   c.def_ 26 (d := d_classes) rfl,
   c.def_ 27 (d := d_least_with_map) rfl,
   c.def_ 28 (d := d_least) rfl,
   c.def_ 29 (d := d_digit_sum) rfl,
   c.def_ 30 (d := d_equal_step) rfl,
   c.def_ 31 (d := d_at_most_step) rfl,
   c.def_ 32 (d := d_labelled) rfl,
   c.def_ 33 (d := d_equation) rfl,
   c.def_ 34 (d := d_at_most) rfl,
   c.def_ 35 (d := d_joined) rfl,
   c.def_ 36 (d := d_both_with_pairs) rfl,
   c.def_ 37 (d := d_both) rfl,
   c.def_ 38 (d := d_complement) rfl,
   c.def_ 39 (d := d_is_output) rfl,
   c.def_ 40 (d := d_is_row) rfl,
   c.def_ 41 (d := d_Told_init) rfl,
   c.def_ 42 (d := d_Told_machine) rfl,
   c.def_ 43 (d := d_powers) rfl,
   c.def_ 44 (d := d_check_places) rfl,
   c.def_ 45 (d := d_spread_with_states) rfl,
   c.def_ 46 (d := d_spread) rfl,
   c.def_ 47 (d := d_places_in) rfl,
   c.def_ 48 (d := d_Compiler_init) rfl,
   c.def_ 49 (d := d_Compiler_compiled) rfl,
   c.def_ 50 (d := d_Compiler_definition) rfl,
   c.def_ 51 (d := d_Compiler_made) rfl,
   c.def_ 52 (d := d_Compiler_made_linear) rfl,
   c.def_ 53 (d := d_Compiler_made_joined) rfl,
   c.def_ 54 (d := d_Compiler_made_call) rfl,
   c.def_ 55 (d := d_compile_formula) rfl,
   c.def_ 56 (d := d__law_wide) rfl,
   c.def_ 57 (d := d__law_take) rfl,
   c.def_ 58 (d := d__law_pool) rfl,
   c.def_ 59 (d := d__law_number) rfl⟩
theorem txt1 {K : PySem.W.Frag} {mg : Str → Option Value} {h : Heap} (X : K.In h) (G : h.Ns mainGlobals mg) (c : He.SaysD fa fn K) : Txt1 K mg :=
  ⟨c.def_ 60 (d := d__law_told_states) rfl,
   c.def_ 61 (d := d__law_small_term) rfl,
   c.def_ 62 (d := d__law_atom) rfl,
   c.def_ 63 (d := d__law_plain) rfl,
   c.def_ 64 (d := d__law_world) rfl,
   c.def_ 65 (d := d__law_book) rfl,
   c.def_ 66 (d := d__law_output) rfl,
   c.def_ 67 (d := d__law_power) rfl,
   c.def_ 68 (d := d__law_joins_truth) rfl,
   c.def_ 69 (d := d__law_total) rfl,
   c.def_ 70 (d := d__law_truth) rfl,
   c.def_ 71 (d := d__law_too_large) rfl,
   c.def_ 72 (d := d__law_made) rfl,
   c.def_ 73 (d := d__law_called) rfl,
   c.def_ 74 (d := d__law_free) rfl,
   c.def_ 75 (d := d__law_marked) rfl,
   c.def_ 76 (d := d__law_once) rfl,
   c.def_ 77 (d := d_law) rfl,
   He.glo_ok X G (c.fact 0 (f := .glo "own_names") rfl),
   He.glo_ok X G (c.fact 1 (f := .glo "parts") rfl),
   He.glo_ok X G (c.fact 2 (f := .glo "free_list") rfl),
   He.glo_ok X G (c.fact 3 (f := .glo "free_names") rfl),
   He.glo_ok X G (c.fact 4 (f := .glo "check_formula") rfl),
   He.glo_ok X G (c.fact 5 (f := .glo "letters") rfl),
   He.glo_ok X G (c.fact 6 (f := .glo "digit") rfl),
   He.glo_ok X G (c.fact 7 (f := .glo "letter_of") rfl),
   He.glo_ok X G (c.fact 8 (f := .glo "word_of") rfl),
   He.glo_ok X G (c.fact 9 (f := .glo "is_table") rfl),
   He.glo_ok X G (c.fact 10 (f := .glo "numbered") rfl),
   He.glo_ok X G (c.fact 11 (f := .glo "classes") rfl),
   He.glo_ok X G (c.fact 12 (f := .glo "least_with_map") rfl),
   He.glo_ok X G (c.fact 13 (f := .glo "least") rfl),
   He.glo_ok X G (c.fact 14 (f := .glo "digit_sum") rfl),
   He.glo_ok X G (c.fact 15 (f := .glo "equal_step") rfl),
   He.glo_ok X G (c.fact 16 (f := .glo "at_most_step") rfl),
   He.glo_ok X G (c.fact 17 (f := .glo "labelled") rfl),
   He.glo_ok X G (c.fact 18 (f := .glo "equation") rfl),
   He.glo_ok X G (c.fact 19 (f := .glo "at_most") rfl),
   He.glo_ok X G (c.fact 20 (f := .glo "joined") rfl),
   He.glo_ok X G (c.fact 21 (f := .glo "both_with_pairs") rfl),
   He.glo_ok X G (c.fact 22 (f := .glo "both") rfl),
   He.glo_ok X G (c.fact 23 (f := .glo "complement") rfl),
   He.glo_ok X G (c.fact 24 (f := .glo "is_output") rfl),
   He.glo_ok X G (c.fact 25 (f := .glo "is_row") rfl),
   He.glo_ok X G (c.fact 26 (f := .glo "powers") rfl),
   He.glo_ok X G (c.fact 27 (f := .glo "check_places") rfl),
   He.glo_ok X G (c.fact 28 (f := .glo "spread_with_states") rfl),
   He.glo_ok X G (c.fact 29 (f := .glo "spread") rfl),
   He.glo_ok X G (c.fact 30 (f := .glo "places_in") rfl),
   He.glo_ok X G (c.fact 31 (f := .glo "compile_formula") rfl),
   He.glo_ok X G (c.fact 32 (f := .glo "_law_wide") rfl),
   He.glo_ok X G (c.fact 33 (f := .glo "_law_take") rfl),
   He.glo_ok X G (c.fact 34 (f := .glo "_law_pool") rfl),
   He.glo_ok X G (c.fact 35 (f := .glo "_law_number") rfl),
   He.glo_ok X G (c.fact 36 (f := .glo "_law_told_states") rfl),
   He.glo_ok X G (c.fact 37 (f := .glo "_law_small_term") rfl),
   He.glo_ok X G (c.fact 38 (f := .glo "_law_atom") rfl),
   He.glo_ok X G (c.fact 39 (f := .glo "_law_plain") rfl),
   He.glo_ok X G (c.fact 40 (f := .glo "_law_world") rfl),
   He.glo_ok X G (c.fact 41 (f := .glo "_law_book") rfl)⟩
theorem txt2 {K : PySem.W.Frag} {mg : Str → Option Value} {h : Heap} (X : K.In h) (G : h.Ns mainGlobals mg) (c : He.SaysD fa fn K) : Txt2 K mg :=
  ⟨He.glo_ok X G (c.fact 42 (f := .glo "_law_output") rfl),
   He.glo_ok X G (c.fact 43 (f := .glo "_law_power") rfl),
   He.glo_ok X G (c.fact 44 (f := .glo "_law_joins_truth") rfl),
   He.glo_ok X G (c.fact 45 (f := .glo "_law_total") rfl),
   He.glo_ok X G (c.fact 46 (f := .glo "_law_truth") rfl),
   He.glo_ok X G (c.fact 47 (f := .glo "_law_too_large") rfl),
   He.glo_ok X G (c.fact 48 (f := .glo "_law_made") rfl),
   He.glo_ok X G (c.fact 49 (f := .glo "_law_called") rfl),
   He.glo_ok X G (c.fact 50 (f := .glo "_law_free") rfl),
   He.glo_ok X G (c.fact 51 (f := .glo "_law_marked") rfl),
   He.glo_ok X G (c.fact 52 (f := .glo "_law_once") rfl),
   He.glo_ok X G (c.fact 53 (f := .glo "law") rfl),
   He.glo_ok X G (c.fact 54 (f := .glo "Book") rfl),
   He.glo_ok X G (c.fact 55 (f := .glo "Machine") rfl),
   He.glo_ok X G (c.fact 56 (f := .glo "Search") rfl),
   He.glo_ok X G (c.fact 57 (f := .glo "Told") rfl),
   He.glo_ok X G (c.fact 58 (f := .glo "Compiler") rfl),
   He.free_ok X G (c.fact 61 (f := .free "range") rfl),
   He.free_ok X G (c.fact 62 (f := .free "len") rfl),
   He.free_ok X G (c.fact 63 (f := .free "any") rfl),
   He.free_ok X G (c.fact 64 (f := .free "all") rfl),
   He.free_ok X G (c.fact 65 (f := .free "list") rfl),
   He.free_ok X G (c.fact 66 (f := .free "tuple") rfl),
   He.free_ok X G (c.fact 67 (f := .free "sorted") rfl),
   He.free_ok X G (c.fact 68 (f := .free "max") rfl),
   He.free_ok X G (c.fact 69 (f := .free "min") rfl),
   He.free_ok X G (c.fact 70 (f := .free "abs") rfl),
   He.free_ok X G (c.fact 71 (f := .free "int") rfl),
   He.free_ok X G (c.fact 72 (f := .free "isinstance") rfl),
   He.free_ok X G (c.fact 73 (f := .free "bool") rfl),
   He.free_ok X G (c.fact 74 (f := .free "str") rfl),
   He.free_ok X G (c.fact 75 (f := .free "super") rfl),
   He.free_ok X G (c.fact 76 (f := .free "ValueError") rfl),
   He.int_ok X G (c.fact 77 (f := .int "STATES" 400) rfl),
   He.int_ok X G (c.fact 78 (f := .int "TRACKS" 6) rfl),
   He.int_ok X G (c.fact 79 (f := .int "MAX_STATES_linear" 400) rfl),
   He.int_ok X G (c.fact 80 (f := .int "MAX_STATES_told" 40) rfl),
   He.int_ok X G (c.fact 81 (f := .int "MOST" 9) rfl),
   He.int_ok X G (c.fact 82 (f := .int "MAX_WIDTH" 6) rfl),
   He.cls_ok (c.fact 83 (f := .cls "Book") rfl),
   He.mkr_ok (c.fact 84 (f := .mkr "Book") rfl),
   He.noat_ok (c.fact 85 (f := .noat "Book" "_definitions") rfl),
   He.noat_ok (c.fact 86 (f := .noat "Book" "_words") rfl),
   He.meth_ok (c.fact 87 (f := .meth "Book" "define") rfl),
   He.meth_ok (c.fact 88 (f := .meth "Book" "tell") rfl),
   He.meth_ok (c.fact 89 (f := .meth "Book" "parameters") rfl),
   He.meth_ok (c.fact 90 (f := .meth "Book" "formula") rfl),
   He.meth_ok (c.fact 91 (f := .meth "Book" "told") rfl),
   He.cls_ok (c.fact 92 (f := .cls "Machine") rfl),
   He.mkr_ok (c.fact 93 (f := .mkr "Machine") rfl),
   He.noat_ok (c.fact 94 (f := .noat "Machine" "width") rfl),
   He.noat_ok (c.fact 95 (f := .noat "Machine" "table") rfl),
   He.noat_ok (c.fact 96 (f := .noat "Machine" "accepting") rfl),
   He.meth_ok (c.fact 97 (f := .meth "Machine" "behind") rfl),
   He.meth_ok (c.fact 98 (f := .meth "Machine" "accepts") rfl),
   He.meth_ok (c.fact 99 (f := .meth "Machine" "takes") rfl),
   He.cls_ok (c.fact 100 (f := .cls "Search") rfl),
   He.mkr_ok (c.fact 101 (f := .mkr "Search") rfl),
   He.noat_ok (c.fact 102 (f := .noat "Search" "found") rfl),
   He.noat_ok (c.fact 103 (f := .noat "Search" "places") rfl)⟩
theorem txt3 {K : PySem.W.Frag} {mg : Str → Option Value} {h : Heap} (X : K.In h) (G : h.Ns mainGlobals mg) (c : He.SaysD fa fn K) : Txt3 K mg :=
  ⟨He.noat_ok (c.fact 104 (f := .noat "Search" "rows") rfl),
   He.meth_ok (c.fact 105 (f := .meth "Search" "place") rfl),
   He.meth_ok (c.fact 106 (f := .meth "Search" "waiting") rfl),
   He.meth_ok (c.fact 107 (f := .meth "Search" "current") rfl),
   He.meth_ok (c.fact 108 (f := .meth "Search" "enter") rfl),
   He.cls_ok (c.fact 109 (f := .cls "Told") rfl),
   He.mkr_ok (c.fact 110 (f := .mkr "Told") rfl),
   He.noat_ok (c.fact 111 (f := .noat "Told" "outputs") rfl),
   He.noat_ok (c.fact 112 (f := .noat "Told" "table") rfl),
   He.meth_ok (c.fact 113 (f := .meth "Told" "machine") rfl),
   He.cls_ok (c.fact 114 (f := .cls "Compiler") rfl),
   He.mkr_ok (c.fact 115 (f := .mkr "Compiler") rfl),
   He.noat_ok (c.fact 116 (f := .noat "Compiler" "_book") rfl),
   He.noat_ok (c.fact 117 (f := .noat "Compiler" "_definitions") rfl),
   He.meth_ok (c.fact 118 (f := .meth "Compiler" "compiled") rfl),
   He.meth_ok (c.fact 119 (f := .meth "Compiler" "definition") rfl),
   He.meth_ok (c.fact 120 (f := .meth "Compiler" "_made") rfl),
   He.meth_ok (c.fact 121 (f := .meth "Compiler" "_made_linear") rfl),
   He.meth_ok (c.fact 122 (f := .meth "Compiler" "_made_joined") rfl),
   He.meth_ok (c.fact 123 (f := .meth "Compiler" "_made_call") rfl)⟩
end K36
/-! K36HX: the facts of the top that the library's Hook does not look at -/
namespace K36
open PySem PySem.Spec PyProof.Rows L2
abbrev Fg := PySem.W.Frag
abbrev FnC : Type := Option (Str × Str × Arguments × FuncBody × Scope × Addr × List Str × Addr)
def fnC (K : Fg) (a : Addr) : FnC := match K.lookup a with
  | some ⟨_, _, .func fd, _⟩ => some (fd.name, fd.qualname, fd.params, fd.body, fd.scope, fd.globals, fd.closure.map (·.1), fd.builtins)
  | _ => none
def szV : FnC := some ("size", "Machine.size", defArgs s_Machine_size, .stmts (defBody s_Machine_size), defScope s_Machine_size, mainGlobals, [], builtinsNs)
def inV' : FnC := some ("__init__", "Oversized.__init__", defArgs s_Oversized_init, .stmts (defBody s_Oversized_init), defScope s_Oversized_init, mainGlobals, ["__class__"], builtinsNs)
def inAd (K : Fg) : Addr := He.ma K (He.ga K "Oversized") "__init__"
/-- the getter of size -/
def szB (K : Fg) : Bool := PySem.W.keepIn K (.ref (sizeAd K)) && ((match K.lookup (sizeAd K) with
  | some ⟨_, _, .func fd, _⟩ => PySem.W.codeIn K fd.code "Machine.size" && (He.dflB K fd.defaults [] && He.kwdB K fd.kwdefaults [])
  | _ => false) && match PySem.W.findIn K (.ref (He.ga K "Machine")) "size" with
  | some (some (.ref p)) => He.eqO (PySem.W.specialIn K (.ref p) "__get__") (some (some (.builtin "property.__get__"))) && (decide (PySem.W.takesIn K (.ref p) = some true) && (match PySem.W.recIn K p "property" with
    | some (.ref _ :: _) => true
    | _ => false))
  | _ => false)
theorem sz_ok {K : Fg} (h : szB K = true) (e : fnC K (sizeAd K) = szV) :
    (∃ fd, FunD K "size" "Machine.size" (defArgs s_Machine_size) (defBody s_Machine_size) (defScope s_Machine_size) [] [] (sizeAd K) fd) ∧ ∃ p, PropOf K (He.ga K "Machine") "size" p (sizeAd K) := by
  unfold szB at h
  obtain ⟨kp, h⟩ := He.ba h
  obtain ⟨h1, h2⟩ := He.ba h
  constructor
  · unfold fnC at e
    cases q : K.lookup (sizeAd K) with
    | none => rw [q] at h1; cases h1
    | some o =>
      obtain ⟨oc, od, dt, osl⟩ := o
      rw [q] at h1 e
      cases dt with
      | func fd =>
        obtain ⟨n1, n2, n3, n4, n5, n6, n7, n8, n9, n10, n11, n12, n13, n14, n15⟩ := fd
        have e2 : (some (n1, n2, n3, n4, n5, n6, n7.map (·.1), n15) : FnC) = szV := e
        have e2 := Option.some.inj e2
        simp only [Prod.mk.injEq] at e2
        obtain ⟨g1, g2, g3, g4, g5, g6, g7, g8⟩ := e2
        have g7 : n7 = [] := List.map_eq_nil_iff.mp g7
        subst g1 g2 g3 g4 g5 g6 g7 g8
        have c3 : (PySem.W.codeIn K n13 "Machine.size" && (He.dflB K n8 [] && He.kwdB K n9 [])) = true := h1
        obtain ⟨k1, k2⟩ := He.ba c3
        obtain ⟨k3, k4⟩ := He.ba k2
        exact ⟨_, ⟨oc, od, n8, n9, n10, n11, n12, n13, n14, osl, rfl, q, k1, He.dflB_ok k3, He.kwdB_ok k4⟩, kp⟩
      | _ => cases h1
  · cases q : PySem.W.findIn K (.ref (He.ga K "Machine")) "size" with
    | none => rw [q] at h2; cases h2
    | some r =>
      cases r with
      | none => rw [q] at h2; cases h2
      | some v =>
        cases v with
        | ref p =>
          rw [q] at h2
          have h2 : (He.eqO (PySem.W.specialIn K (.ref p) "__get__") (some (some (.builtin "property.__get__"))) && (decide (PySem.W.takesIn K (.ref p) = some true) && (match PySem.W.recIn K p "property" with
            | some (.ref _ :: _) => true
            | _ => false))) = true := h2
          obtain ⟨k1, k2⟩ := He.ba h2
          obtain ⟨k3, k4⟩ := He.ba k2
          refine ⟨p, q, He.eqO_ok k1, of_decide_eq_true k3, ?_⟩
          unfold sizeAd
          rw [q]
          show ∃ rest, PySem.W.recIn K p "property" = some (.ref (match PySem.W.recIn K p "property" with
            | some (.ref g :: _) => g
            | _ => 0) :: rest)
          cases z : PySem.W.recIn K p "property" with
          | none => rw [z] at k4; cases k4
          | some l =>
            cases l with
            | nil => rw [z] at k4; cases k4
            | cons v r =>
              cases v with
              | ref g => exact ⟨r, rfl⟩
              | _ => rw [z] at k4; cases k4
        | _ => rw [q] at h2; cases h2
def sgB (K : Fg) : Bool := heads.all fun z => match PySem.W.nsIn K (He.ga K "SIGNS") z with
  | some r => r.isSome == decide (z ∈ ops4)
  | none => false
theorem sg_ok {K : Fg} (h : sgB K = true) : ∀ z ∈ heads, ∃ r, PySem.W.nsIn K (He.ga K "SIGNS") z = some r ∧ r.isSome = decide (z ∈ ops4) := fun z hz => by
  have := List.all_eq_true.mp h z hz
  cases e : PySem.W.nsIn K (He.ga K "SIGNS") z with
  | none => rw [e] at this; cases this
  | some r => rw [e] at this; exact ⟨r, rfl, eq_of_beq this⟩
/-- the class of the exception -/
def exB (K : Fg) (C : Addr) : Bool := match K.lookup C with
  | some ⟨.type t, _, .cls cd, sl⟩ => (match cd.mro, sl.toList with
    | .ref C' :: bm, [_, _, _, _, some (.builtin n), _] => decide (t = "type") && (decide (C' = C) && (decide (n = "ValueError.__new__") && (cd.hasDict && (!cd.hasDel && PySem.HandSPX.refsVE bm))))
    | _, _ => false)
  | _ => false
theorem ex_ok {K : Fg} {C : Addr} (h : exB K C = true) : ∃ nm q N bs bm sn sub ab col dd k0 k1 k2 k3 k5, K.lookup C = some (excClassObj nm q C N bs bm true sn sub ab col dd k0 k1 k2 k3 k5 "ValueError.__new__") ∧ PySem.HandSPX.refsVE bm = true := by
  unfold exB at h
  split at h
  · rename_i t dd cd sl ho
    split at h
    · rename_i C' bm k0 k1 k2 k3 n k5 hm hs
      obtain ⟨h1, h⟩ := He.ba h
      obtain ⟨h2, h⟩ := He.ba h
      obtain ⟨h3, h⟩ := He.ba h
      obtain ⟨h4, h⟩ := He.ba h
      obtain ⟨h5, h6⟩ := He.ba h
      have e1 := of_decide_eq_true h1
      have e2 := of_decide_eq_true h2
      have e3 := of_decide_eq_true h3
      subst e1 e2 e3
      obtain ⟨nm, bs, mro, N, q, hd, sn, sub, ab, col, hdel⟩ := cd
      have hm : mro = .ref C' :: bm := hm
      have g4 : hd = true := h4
      have g5 : hdel = false := by
        cases hdel with
        | false => rfl
        | true => exact absurd (show false = true from h5) (by decide)
      clear h4 h5
      subst hm
      subst g4
      subst g5
      obtain ⟨l⟩ := sl
      have hs : l = _ := hs
      subst hs
      exact ⟨_, _, _, _, _, _, _, _, _, _, _, _, _, _, _, ho, h6⟩
    · cases h
  · cases h
/-- its __init__ -/
def inB (K : Fg) (file : Str) : Bool := match K.lookup (inAd K) with
  | some ⟨_, _, .func fd, _⟩ => (match fd.defaults, fd.code, fd.closure with
    | .none, .ref cda, [(_, cc)] => PySem.W.codeIn K (.ref cda) fd.qualname && ((match K.lookup cda with
      | some ⟨_, _, .fields vs, _⟩ => (match (vs[2]? : Option Value) with
        | some (.str fl _) => file == fl
        | _ => false)
      | _ => false) && (match K.lookup cc with
      | some ⟨_, _, .cell (some (.ref C')), _⟩ => decide (C' = He.ga K "Oversized")
      | _ => false))
    | _, _, _ => false)
  | _ => false
def ovB (K : Fg) : Bool :=
  exB K (He.ga K "Oversized") && (He.eqO (PySem.W.findIn K (.ref (He.ga K "Oversized")) "__setattr__") (some (some (.builtin "object.__setattr__"))) && (decide (PySem.W.subIn K (.ref (He.ga K "Oversized")) (.type "BaseException") = some true) &&
  (decide (PySem.W.typeIn K (.ref (He.ga K "Oversized")) = some (.type "type")) && (PySem.W.keepIn K (.ref (He.ga K "Oversized")) && (He.eqO (PySem.W.findIn K (.ref (He.ga K "Oversized")) "__init__") (some (some (.ref (inAd K)))) &&
  (decide (PySem.W.typeIn K (.ref (inAd K)) = some (.type "function")) && (He.eqO (PySem.W.findIn K (.ref (He.ga K "Oversized")) "limit") (some none) && (He.eqO (PySem.W.nsIn K mainGlobals "super") (some none) && (He.eqO (PySem.W.nsIn K mainGlobals "str") (some none) &&
  (He.eqO (PySem.W.ks_superIn K (He.ga K "Oversized") (He.ga K "Oversized") "__init__") (some (some (.builtin "ValueError.__init__"))) && (decide (PySem.W.mroIn K (He.ga K "Oversized") (.ref (He.ga K "Oversized")) = some true) &&
  (decide (PySem.W.subIn K (.ref (He.ga K "Oversized")) (.type "ValueError") = some true) && (He.eqO (PySem.W.nsIn K cStatics "thirdparty.any") (some none) && (He.eqO (PySem.W.nsIn K mainGlobals "Oversized") (some (some (.ref (He.ga K "Oversized")))) && (xfB K (He.ga K "Oversized") && decide (PySem.W.exmOne K (.ref (He.ga K "Oversized")) (.ref (He.ga K "Oversized")) = some true))))))))))))))))
theorem in_ok {K : Fg} {file : Str} (h : inB K file = true) (e : fnC K (inAd K) = inV') :
    ∃ oc od osl name qual kV doc pm an cda ct cc ccl cdd ccs vs fl tf cl cld csl, K.lookup (inAd K) = some ⟨oc, od, .func (PySem.W.ksFn name qual (defArgs s_Oversized_init) (defBody s_Oversized_init) (defScope s_Oversized_init) .none kV doc pm an (.ref cda) ct cc), osl⟩ ∧ PySem.W.codeIn K (.ref cda) qual = true ∧
      K.lookup cda = some ⟨ccl, cdd, .fields vs, ccs⟩ ∧ vs[2]? = some (.str fl tf) ∧ (file == fl) = true ∧ K.lookup cc = some ⟨cl, cld, .cell (some (.ref (He.ga K "Oversized"))), csl⟩ := by
  unfold inB at h
  unfold fnC at e
  cases q : K.lookup (inAd K) with
  | none => rw [q] at h; cases h
  | some o =>
    obtain ⟨oc, od, dt, osl⟩ := o
    rw [q] at h e
    cases dt with
    | func fd =>
      obtain ⟨n1, n2, n3, n4, n5, n6, n7, n8, n9, n10, n11, n12, n13, n14, n15⟩ := fd
      have e2 : (some (n1, n2, n3, n4, n5, n6, n7.map (·.1), n15) : FnC) = inV' := e
      have e2 := Option.some.inj e2
      simp only [Prod.mk.injEq] at e2
      obtain ⟨g1, g2, g3, g4, g5, g6, g7, g8⟩ := e2
      subst g1 g2 g3 g4 g5 g6 g8
      dsimp only at h
      split at h
      · rename_i cda x cc
        have : x = "__class__" := by simpa using g7
        subst this
        obtain ⟨k1, h⟩ := He.ba h
        obtain ⟨h1, h2⟩ := He.ba h
        split at h1
        · rename_i ccl cdd vs ccs lk
          split at h1
          · rename_i fl tf hv
            split at h2
            · rename_i cl cld C' csl lc
              have := of_decide_eq_true h2
              subst this
              exact ⟨oc, od, osl, _, _, n9, _, _, _, cda, _, cc, ccl, cdd, ccs, vs, fl, tf, cl, cld, csl, rfl, k1, lk, hv, h1, lc⟩
            · cases h2
          · cases h1
        · cases h1
      · cases h
    | _ => cases h
abbrev progF : Str := PySem.Challenge.pw_digitwise_k36_whole_plain_formulas.main.file
def xB (K : Fg) : Bool := szB K && (sgB K && (He.tupB K "NAMES" [.str "and", .str "or", .str "imp", .str "iff"] && (He.eqO (PySem.W.nsIn K mainGlobals "NAMES") (some (some (.ref (He.ga K "NAMES")))) && (He.eqO (PySem.W.nsIn K mainGlobals "SIGNS") (some (some (.ref (He.ga K "SIGNS")))) && (inB K progF && ovB K)))))
def ts : List He.Tab := [(fun K => He.ga K "SIGNS", ["and", "or", "imp", "iff"])]
abbrev Al2 : Type := Bool × List He.FnW
abbrev Al3 : Type := List (Option (List (Option (Str × Int)))) × FnC × FnC × Bool
abbrev AlX : Type := Bool × Al2 × Al3
def obs1 (K : Fg) : Bool := fa.all fun f => f.ok K
def obs2 (K : Fg) : Al2 := (fn.all fun d => d.ok K, fn.map fun d => He.fnW K d.at_)
def obs3 (K : Fg) : Al3 := (ts.map fun t => He.dicW K (t.1 K), fnC K (sizeAd K), fnC K (inAd K), xB K)
def val2 : Al2 := (true, fn.map He.DefD.val)
def val3 (w : World) : Al3 := (ts.map fun t => some (He.keysIn w.params t.2), szV, inV', true)
def obsK (K : Fg) : AlX := (obs1 K, obs2 K, obs3 K)
def valX (w : World) : AlX := (true, val2, val3 w)
def ads0 : List Addr := [3, 31, 53, 74, 95, 116, 221, 321, 368, 524, 624, 6, 119, 0, 30, 52, 73, 94, 115, 220]
def ads1 : List Addr := [320, 367, 523, 623, 2, 92, 289, 290, 435, 80, 124, 131, 136, 141, 155, 162, 169, 176, 183, 190]
def ads2 : List Addr := [232, 239, 246, 253, 258, 270, 282, 297, 304, 311, 339, 346, 353, 360, 365, 379, 384, 389, 396, 403]
def ads3 : List Addr := [410, 417, 424, 429, 434, 442, 447, 454, 459, 490, 497, 509, 521, 535, 540, 545, 552, 557, 576, 583]
def ads4 : List Addr := [590, 597, 602, 609, 621, 635, 642, 649, 656, 663, 668, 673, 680, 687, 694, 701, 708, 715, 722, 729]
def ads5 : List Addr := [736, 746, 753, 760, 765, 772, 779, 784, 123, 130, 135, 140, 154, 161, 168, 175, 182, 189, 231, 238]
def ads6 : List Addr := [245, 252, 257, 269, 281, 296, 303, 310, 338, 345, 352, 359, 364, 378, 383, 388, 395, 402, 409, 416]
def ads7 : List Addr := [423, 428, 433, 441, 446, 453, 458, 489, 496, 508, 520, 534, 539, 544, 551, 556, 575, 582, 589, 596]
def ads8 : List Addr := [601, 608, 620, 634, 641, 648, 655, 662, 667, 672, 679, 686, 693, 700, 707, 714, 721, 728, 735, 745]
def ads9 : List Addr := [752, 759, 764, 771, 778, 783, 91, 288]
/-- where the top's things lie that the facts speak of: names, classes, their names, defs, their code -/
def ads : List Addr := ads0 ++ ads1 ++ ads2 ++ ads3 ++ ads4 ++ ads5 ++ ads6 ++ ads7 ++ ads8 ++ ads9
def frX (g : Addr → Option Obj) : Fg := He.frG g ads
def obsX (g : Addr → Option Obj) : AlX := obsK (frX g)
def hookX : PySem.W.Hook where
  α := AlX
  obs := fun s => obsX s.heap.get?
  val := fun w => valX w
  says := fun w h => ∃ K : Fg, K.In h ∧ obsK K = valX w
  of := fun _ _ e => ⟨_, He.frG_in, e⟩
  keeps := fun _ _ _ ⟨K, hK, c⟩ k => ⟨K, PySem.W.Frag.In.keeps hK k, c⟩
theorem obsX_eq {g : Addr → Option Obj} {s : Shared} (h : ∀ a, g a = s.heap.get? a) : obsX g = hookX.obs s := by
  have e : g = s.heap.get? := funext h
  rw [e] <;> rfl
/-- the catching of the exception -/
structure Catch (K : Fg) : Prop where
  xf : XfC K (He.ga K "Oversized")
  em : PySem.W.exmOne K (.ref (He.ga K "Oversized")) (.ref (He.ga K "Oversized")) = some true
theorem txt_of {w : World} {K : Fg} {mg : Str → Option Value} {h : Heap} (X : K.In h) (G : h.Ns mainGlobals mg) (c : obsK K = valX w) : Txt PySem.Challenge.pw_digitwise_k36_whole_plain_formulas w K mg ∧ Catch K := by
  have e1 : obs1 K = true := congrArg (fun z : AlX => z.1) c
  have e2 : obs2 K = val2 := congrArg (fun z : AlX => z.2.1) c
  have e3 : obs3 K = val3 w := congrArg (fun z : AlX => z.2.2) c
  have e21 : (fn.all fun d => d.ok K) = true := congrArg (fun z : Al2 => z.1) e2
  have e22 : (fn.map fun d => He.fnW K d.at_) = fn.map He.DefD.val := congrArg (fun z : Al2 => z.2) e2
  have e31 : (ts.map fun t => He.dicW K (t.1 K)) = ts.map fun t => some (He.keysIn w.params t.2) := congrArg (fun z : Al3 => z.1) e3
  have c2 : fnC K (sizeAd K) = szV := congrArg (fun z : Al3 => z.2.1) e3
  have c3 : fnC K (inAd K) = inV' := congrArg (fun z : Al3 => z.2.2.1) e3
  have c4 : xB K = true := congrArg (fun z : Al3 => z.2.2.2) e3
  have cd : He.SaysD fa fn K := by
    show ((fa.all fun f => f.ok K) && fn.all fun d => d.ok K, fn.map fun d => He.fnW K d.at_) = (true, fn.map He.DefD.val)
    rw [show (fa.all fun f => f.ok K) = true from e1, e21, e22]
    rfl
  have c1 : He.SaysT fa fn ts w K := by
    show (He.obsD fa fn K, ts.map fun t => He.dicW K (t.1 K)) = (He.valD fn, ts.map fun t => some (He.keysIn w.params t.2))
    rw [e31, show He.obsD fa fn K = He.valD fn from cd]
  obtain ⟨k1, k⟩ := He.ba c4
  obtain ⟨k2, k⟩ := He.ba k
  obtain ⟨k3, k⟩ := He.ba k
  obtain ⟨k4, k⟩ := He.ba k
  obtain ⟨k5, k⟩ := He.ba k
  obtain ⟨k6, k⟩ := He.ba k
  obtain ⟨o1, k⟩ := He.ba k
  obtain ⟨o2, k⟩ := He.ba k
  obtain ⟨o3, k⟩ := He.ba k
  obtain ⟨o4, k⟩ := He.ba k
  obtain ⟨o5, k⟩ := He.ba k
  obtain ⟨o6, k⟩ := He.ba k
  obtain ⟨o7, k⟩ := He.ba k
  obtain ⟨o8, k⟩ := He.ba k
  obtain ⟨o9, k⟩ := He.ba k
  obtain ⟨o10, k⟩ := He.ba k
  obtain ⟨o11, k⟩ := He.ba k
  obtain ⟨o12, k⟩ := He.ba k
  obtain ⟨o13, k⟩ := He.ba k
  obtain ⟨o14, k⟩ := He.ba k
  obtain ⟨o15, k⟩ := He.ba k
  obtain ⟨o16, o17⟩ := He.ba k
  obtain ⟨z1, z2⟩ := sz_ok k1 c2
  obtain ⟨es, n, hk⟩ := c1.tab 0
  refine ⟨{ txt0 X G cd, txt1 X G cd, txt2 X G cd, txt3 X G cd with F_Machine_size := z1, p_size := z2, g_NAMES := ?_, g_SIGNS := ?_, over := ?_ }, xfB_ok o16, of_decide_eq_true o17⟩
  · exact ⟨_, PySem.W.mg_of X G (He.eqO_ok k4), fun H => He.tupB_ok k3 H⟩
  · exact ⟨_, es, n, PySem.W.mg_of X G (He.eqO_ok k5), hk, sg_ok k2⟩
  · exact ⟨⟨ex_ok o1, He.eqO_ok o2, of_decide_eq_true o3, of_decide_eq_true o4, o5⟩, He.eqO_ok o6, of_decide_eq_true o7, He.eqO_ok o8, PySem.W.mg_of X G (He.eqO_ok o15), PySem.W.mg_none_of X G (He.eqO_ok o9), PySem.W.mg_none_of X G (He.eqO_ok o10), He.eqO_ok o11, of_decide_eq_true o12, of_decide_eq_true o13, He.eqO_ok o14, (by kernel_rfl), in_ok k6 c3⟩
end K36
section
set_option maxHeartbeats 0
/-! K36Hd: the top's run -/
namespace K36.Hd
open PySem PySem.W PySem.Calls PyProof.Rows HandSHeadRun
abbrev R : OpenRow := OpenLaw.row PySem.Challenge.rw_digitwise_k36_whole_plain_formulas
abbrev qv : Program := view R.prog [92]
def loose0 : List PySem.Str := ["_wall", "__name__", "Refused", "Unknown", "Clashing", "Oversized", "Misused", "SIGNS", "own_names", "parts", "free_list", "free_names", "Book", "check_formula", "letters", "digit", "letter_of", "word_of", "with_track", "STATES"]
def loose1 : List PySem.Str := ["TRACKS", "is_table", "Machine", "Search", "numbered", "classes", "least_with_map", "least", "MAX_STATES_linear", "digit_sum", "equal_step", "at_most_step", "labelled", "equation", "at_most", "NAMES", "joined", "both_with_pairs", "both", "complement"]
def loose2 : List PySem.Str := ["ranks", "successors_of", "some_with_sets", "some", "MAX_STATES_told", "MOST", "is_output", "is_row", "Told", "powers", "check_places", "spread_with_states", "spread", "MAX_WIDTH", "places_in", "without", "Compiler", "compile_formula", "_law_wide", "_law_take"]
def loose3 : List PySem.Str := ["_law_pool", "_law_number", "_law_told_states", "_law_small_term", "_law_atom", "_law_plain", "_law_world", "_law_book", "_law_output", "_law_power", "_law_joins_truth", "_law_total", "_law_truth", "_law_sets", "_law_too_large", "_law_made", "_law_called", "_law_free", "_law_marked", "_law_once"]
def loose : List PySem.Str := loose0 ++ loose1 ++ loose2 ++ loose3
abbrev hk : Hook := hookX
def ob (s : SharedT) : AlX := obsX (getT s)
theorem ob_eq (s : SharedT) : ob s = hk.obs s.abs := obsX_eq (getT_eq s)
theorem map3 {S A B C : Type} {o : Option S} {f : S → A} {g : S → B} {h : S → C} {a : A} {b : B} {c : C} (h1 : o.map (fun s => (f s, g s)) = some (a, b)) (h2 : o.map h = some c) : o.map (fun s => (f s, g s, h s)) = some (a, b, c) := by
  cases o with
  | none => cases h1
  | some s =>
    have e0 : (f s, g s) = (a, b) := Option.some.inj h1
    obtain ⟨e1, e3⟩ := Prod.mk.inj e0
    have e2 : h s = c := Option.some.inj h2
    subst e1
    subst e2
    subst e3
    rfl
/-- the top's end -/
noncomputable abbrev endW (w : World) (os : OsState) : Option SharedT := endF (stepQ (denQ tabQ) R.prog w) 6000 R.prog w os
theorem run0F (w : World) (os : OsState) : (endW (w.withFollow "special-get-raises" false) os).map (fun s => (looksF R.prog (boot_heap (w.withFollow "special-get-raises" false).params) s.abs, seenQ qv loose (importedModules R.prog.main.body) (fun s => xlAt qv [] s && recOk R.toRowW.records s) s.abs)) = some (true, openGood qv loose) := by kernel_rfl
theorem run1F (w : World) (os : OsState) : (endW (w.withFollow "special-get-raises" false) os).map ob = some (valX (w.withFollow "special-get-raises" false)) := by kernel_rfl
theorem runF (w : World) : RunEq R qv hk ob 6000 loose (w.withFollow "special-get-raises" false) := fun os => map3 (run0F w os) (run1F w os)
theorem run0T (w : World) (os : OsState) : (endW (w.withFollow "special-get-raises" true) os).map (fun s => (looksF R.prog (boot_heap (w.withFollow "special-get-raises" true).params) s.abs, seenQ qv loose (importedModules R.prog.main.body) (fun s => xlAt qv [] s && recOk R.toRowW.records s) s.abs)) = some (true, openGood qv loose) := by kernel_rfl
theorem run1T (w : World) (os : OsState) : (endW (w.withFollow "special-get-raises" true) os).map ob = some (valX (w.withFollow "special-get-raises" true)) := by kernel_rfl
theorem runT (w : World) : RunEq R qv hk ob 6000 loose (w.withFollow "special-get-raises" true) := fun os => map3 (run0T w os) (run1T w os)
theorem run (w : World) : RunEq R qv hk ob 6000 loose w := byRow2 (P := fun w => RunEq R qv hk ob 6000 loose w) "special-get-raises" runF runT w
end K36.Hd
end
/-! K36Q4: list comprehensions where an exception may be in hand, and whose element may raise -/
namespace K36
open PySem PySem.Spec PyProof.Rows L2 HotX
/-- the context of a block -/
abbrev blkQ (X : Cx) (s : Shared) (H : Hp) (scope : Scope) (cenv : Env) (fp : List Addr) (l : Pn) (E : Value → Shared → Prop) : Cx := { X.blk s H scope cenv fp with calm := l.isEmpty, pn := l, xe := E }
theorem blkOk {X : Cx} {s : Shared} {H : Hp} {scope : Scope} {cenv : Env} {fp : List Addr} {l : Pn} {E : Value → Shared → Prop} (ok : (X.blk s H scope cenv fp).Ok) (hc : X.calm = l.isEmpty) : (blkQ X s H scope cenv fp l E).Ok :=
  ⟨ok.mod, ok.kind, ok.glob, ok.blt, ok.above, ok.inj, ok.has, ok.cab, fun z => ok.hd (hc.trans z), ok.frames, ok.stk, ok.exf, ok.bs, ok.bsz, ok.noex, ok.exfs, ok.funs, ok.frf⟩
section
variable {X : Cx} {pins : Pn} {σ : St} {H : Hp} {s : Shared}
/-- the env of a block that starts at s -/
abbrev ceOf (X : Cx) (s : Shared) (scope : Scope) : Env := compEnvC scope (cellsFrom (s.heap.objs.size + 1) scope.names (cloFrom X.env.cells scope.names [])) s.heap.objs.size X.env
theorem block_startQ {scope : Scope} {own : List (Str × Nat)} {fp : List Addr} {l : Pn} {E : Value → Shared → Prop} (I : Inv X pins σ H s) (ok : BlkOk X.N X.env.scope scope own) (hN : X.N.Nodup) (hfp : ∀ b ∈ fp, FpOk X pins H b ∧ b < s.heap.objs.size) (hl : ∀ p ∈ l, p ∈ X.pn) (hc : X.calm = l.isEmpty) :
    Inv (blkQ X s H scope (ceOf X s scope) fp l E) [] (wipe σ (own.map (·.2))) H { s with heap := pushCells (s.heap.push { cls := .type "dict", data := .dict #[] }) scope.names } := by
  have J := block_start I ok hN hfp
  refine ⟨blkOk J.ok hc, J.os, J.bare, J.base, J.loc, J.cell, J.free, J.freeC, fun p hp => ?_, J.hok, J.len⟩
  have hp' : p ∈ l := by simpa using hp
  obtain ⟨e, n, ne, nf, d⟩ := I.pin p (List.mem_append_left _ (hl p hp'))
  refine ⟨pushCells_keeps _ _ _ _ (Heap.get?_push_of_some _ e), n, ?_, fun z => (List.mem_cons.mp (I.stkSub p.1 z)).elim ne nf, d⟩
  exact Nat.ne_of_lt (Heap.lt_size e)

/-! ### an exception out of the element -/
/-- in the air of the def, the block's names at C as they stand -/
def AirC (X : Cx) (E : XK) (C : Addr) (u : Value) (s' : Shared) : Prop := L2N.XE X (fun c d _ H => E c d H ∧ H C = none) u s' ∧ ∃ m, s'.heap.Ns C m
theorem cx_none {P : Program} {w : World} {outer : List Env} {H : Hp} {s s' : Shared} {E : XK} {u : Value} {C : Addr} {o : Obj} (c : CXq P w outer H s E u s') (hC : s.heap.get? C = some o) (hn : H C = none) : CXq P w outer H s (fun c d H' => E c d H' ∧ H' C = none) u s' := by
  obtain ⟨a, B, H', cls, d, e, fl, hok, ub, na, os, ag, z⟩ := c
  exact ⟨a, B, H', cls, d, e, fl, hok, ub, na, os, ag, z, ub.free C o hC hn⟩
theorem cx_ns {P : Program} {w : World} {outer : List Env} {H : Hp} {s s' : Shared} {E : XK} {u : Value} {C : Addr} {m : Str → Option Value} (c : CXq P w outer H s E u s') (hC : s.heap.Ns C m) (hn : H C = none) (hf : C ∉ frs outer) : s'.heap.Ns C m := by
  obtain ⟨a, B, H', cls, d, e, fl, hok, ub, na, os, ag, z⟩ := c
  obtain ⟨o, es, ep, ho, r⟩ := hC
  exact ⟨o, es, ep, fl.1 C o (ub.keep C o ho hn hf), r⟩
theorem air_fails {E : XK} {C : Addr} {ce : Env} (tk : L2N.Takes X (fun c d _ H => E c d H)) (hs : X.stack = X.env :: X.outer) (hf : X.env.frame = some X.env.locals) (hcf : ce.frame = X.env.frame) (hcl : ce.locals = C)
    (nL : C ≠ X.env.locals) (nF : C ∉ X.fs) (ny : C ∈ X.ex ∨ X.s_0.heap.objs.size ≤ C) (nc : ∀ x c, X.env.cells.lookup x = some c → c ≠ C) (np : ∀ p ∈ X.pn, p.1 ≠ C) {u : Value} {s' : Shared} (x : AirC X E C u s') :
    notedBy (model X.prog X.w) X.A ce (CompFails (model X.prog X.w) X.A X.xe ce) u s' := by
  obtain ⟨⟨a, B, sI, pins, σ, H, cls, d, rfl, I, nb, up, sky, na, os, ag, w, hC⟩, m, hn⟩ := x
  have hfr : X.A.frames = some (X.env :: X.outer) := by rw [I.ok.frames, hs]
  have nst : C ∉ frs X.stack := fun z => (List.mem_cons.mp (I.stkSub C z)).elim nL nF
  show wpAny _ _ (noteFrame (.ref a) ce) _ _ s'
  rw [noteFrame_env _ hcf]
  -- noted
  have fin : ∀ h1, HandSPX.HeldZ B X.stack a (L2N.Zn cls d) X.env.locals h1 → s'.heap.UpToSlots h1 → CompFails (model X.prog X.w) X.A X.xe ce (.ref a) { s' with heap := h1 } := by
    intro h1 hh up1
    obtain ⟨k1, k2, k3, oe, vs, T, oT, ts, he, hz, hd, h1', hnT, hTe, hT, hdT, h3⟩ := hh
    have hn1 : h1.Ns C m := Heap.UpToSlots.ns up1 hn
    obtain ⟨oC, esC, epC, hoC, hdC, _⟩ := id hn1
    have aC : a ≠ C := fun z => by rw [z, hoC] at he; cases he; rw [hdC] at hd; cases hd
    have TC : T ≠ C := fun z => by rw [z, hoC] at hT; cases hT; rw [hdC] at hdT; cases hdT
    refine ⟨m, by rw [hcl]; exact hn1, fun h2 m2 hn2 sb2 => ?_⟩
    rw [hcl] at hn2 sb2
    have st2 : (PySem.W.hideAll B [C]).StaysIn h2 := fun b o e => by
      have e0 := PySem.W.of_hideAll _ e
      have hb : b ≠ C := fun z => by rw [z, PySem.W.hideAll_none _ (List.mem_singleton.mpr rfl)] at e; cases e
      exact (sb2.2 b hb).trans (k1 b o e0)
    have ff2 : h2.FunFrames (PySem.W.hideAll B [C]) X.stack := Heap.FunFrames.sameBut sb2 hn2 (funFrames_none k3 fun L hL => by
      cases q : (PySem.W.hideAll B [C]).get? L with
      | none => rfl
      | some o =>
        have e0 := PySem.W.of_hideAll _ q
        obtain ⟨hbn, _⟩ := k3.mem hL
        rw [hbn] at e0; cases e0)
    have tr2 : HandSPX.TracedZ h2 (PySem.W.hideAll B [C]) a (L2N.Zn cls d) (rawInt X.env.locals) := by
      refine ⟨oe, vs, T, oT, ts, (sb2.2 a aC).trans he, hz, hd, h1', ?_, hTe, (sb2.2 T TC).trans hT, hdT, h3⟩
      cases q : (PySem.W.hideAll B [C]).get? T with
      | none => rfl
      | some o => rw [PySem.W.of_hideAll _ q] at hnT; cases hnT
    unfold PySem.passOn
    refine wpAny_bind (wpAny_field ((sb2.2 a aC).trans he) hd h1' ?_)
    rw [if_neg (show ¬ ((Value.ref T == Value.none) = true) from by simp)]
    rw [hcf, hf]
    refine wpAny_bind (HandSPX.setFlight_anyZ (fr := some X.env.locals) st2 ff2 tr2 fun h4 st4 ff4 tr4 up4 => ?_)
    refine wpAny_throw (tk _ _ ⟨a, PySem.W.hideAll B [C], { sI with heap := PySem.W.hideAll sI.heap [C] }, [], σ, H, cls, d, rfl, ?_, fun b o e hb => ?_, fun b o e hnf => ?_, .inr (.inr ⟨st4, ?_, ff4, tr4⟩), na, os, ag, w⟩)
    · have J : Inv X [] σ H sI := I.pins_of fun p hp => nomatch hp
      exact J.turned (it := C) (t' := sI.toks) (fun b o hb e => PySem.W.hideAll_get _ e (by simp [hb])) hC nL ny nc fun p hp => np p (by simpa using hp)
    · have e0 := PySem.W.of_hideAll _ e
      have hbC : b ≠ C := fun z => by rw [z, PySem.W.hideAll_none _ (List.mem_singleton.mpr rfl)] at e; cases e
      exact PySem.W.hideAll_get _ (nb b o e0 hb) (by simp [hbC])
    · have e0 := PySem.W.of_hideAll _ e
      have hbC : b ≠ C := fun z => by rw [z, PySem.W.hideAll_none _ (List.mem_singleton.mpr rfl)] at e; cases e
      obtain ⟨sl1, e1⟩ := up b o e0 hnf
      obtain ⟨sl2, e2⟩ := up1 b _ e1 hnf
      obtain ⟨sl3, e3⟩ := up4 b _ ((sb2.2 b hbC).trans e2) hnf
      exact ⟨sl3, e3⟩
    · cases q : (PySem.W.hideAll B [C]).get? a with
      | none => rfl
      | some o => rw [PySem.W.of_hideAll _ q] at k2; cases k2
  rw [hs] at fin sky
  rcases sky with ⟨hB, hnB, hl, oe, vs, he, hz, hd, h1⟩ | fl | hh
  · exact PXN.look_newZ L2N.Zn.steady hfr hl hf he hB hnB hd h1 hz fin
  · exact PXN.looks_onZ L2N.Zn.steady hfr hf fl fin
  · exact HandSPX.againZ hf hh.2.2.2 (fin s'.heap hh (Heap.UpToSlots.refl _))

/-! ### the block -/
theorem lc_coreQ {scope : Scope} {own : List (Str × Nat)} {elt tg iter : Expr} {ifs : List Expr} {pos pos' : Pos} {wi : TI} {g : TG} {tt : TT} {te : TE} {use : Option (Value → Sem Unit)} {Qf : Value → Shared → Prop} {Q : VK} (Eb : Addr → Value → Shared → Prop)
    (hq : Quiet X) (hN : X.N.Nodup) (I : Inv X pins σ H s) (hi : PIQ X tg iter wi) (ok : BlkOk X.N X.env.scope scope own)
    (hE : ∀ (C : Addr) (ce : Env), ce.locals = C → ce.frame = X.env.frame → C ≠ X.env.locals → C ∉ X.fs → (C ∈ X.ex ∨ X.s_0.heap.objs.size ≤ C) → (∀ x c, X.env.cells.lookup x = some c → c ≠ C) → (∀ p ∈ X.pn, p.1 ≠ C) → ∀ u s', Eb C u s' → notedBy (model X.prog X.w) X.A ce (CompFails (model X.prog X.w) X.A X.xe ce) u s')
    (hg : ∀ (s : Shared) (H : Hp) (fp : List Addr) (l : Pn), Quiet (blkQ X s H scope (ceOf X s scope) fp l (Eb s.heap.objs.size)) → PG (blkQ X s H scope (ceOf X s scope) fp l (Eb s.heap.objs.size)) tg g)
    (ht : ∀ (s : Shared) (H : Hp) (fp : List Addr) (l : Pn), Quiet (blkQ X s H scope (ceOf X s scope) fp l (Eb s.heap.objs.size)) → PTs (blkQ X s H scope (ceOf X s scope) fp l (Eb s.heap.objs.size)) ifs tt)
    (he : ∀ (s : Shared) (H : Hp) (fp : List Addr) (l : Pn), Quiet (blkQ X s H scope (ceOf X s scope) fp l (Eb s.heap.objs.size)) → (blkQ X s H scope (ceOf X s scope) fp l (Eb s.heap.objs.size)).calm = X.calm → (∃ pins σ, Inv X pins σ H s ∧ ∀ b ∈ fp, FpOk X pins H b) → PE (blkQ X s H scope (ceOf X s scope) fp l (Eb s.heap.objs.size)) elt te)
    (hs : ∀ x, foldedSetIterable iter X.env x = pure x) (h : tLc wi g tt te (own.map (·.2)) σ H Q)
    (hR : ∀ D C s' m H' (ce : Env), ce.locals = C → Inv X pins σ H' s' → Q (.ref D) H' → s'.heap.Ns C m → FpOk X pins H' C → compEnds (model X.prog X.w) X.A X.xe use Qf (.ref D) ce (.ok .next) s') :
    wpAny (model X.prog X.w) X.A (comprehension (.ListComp elt [⟨tg, iter, ifs, 0⟩] scope pos) scope X.env pos' (newList []) false (eval iter X.env) use) Qf X.xe s := by
  obtain ⟨l, qa, hl, hcm⟩ := hq
  have hfree : ∀ y ∈ scope.names, y.2 = .free → ∃ c, X.env.cells.lookup y.1 = some c := fun y hy e => (ok.free y hy e).elim (fun k => I.ok.has _ (.inl k)) fun k => I.ok.has _ (.inr k)
  refine comprehension_at (use := use) rfl hs (closure_ok hfree) ok.kind (fun y hy e => by rw [ok.uniq y hy, e]) (thn (hi.run pins s σ H _ I h) fun xv s1 hx => thn hx fun itv s2 z2 => ?_)
  obtain ⟨it, fp, tn, J, H2, rfl, I2, T, st2, f2, q⟩ := z2
  refine wpAny_newObj_type (newEnv_comp ?_) (by show 0 ≤ sizeLine; decide)
  generalize hD : s2.heap.objs.size = D
  have hDn : H2 D = none := I2.hok.fresh (Nat.le_of_eq hD)
  obtain ⟨W, ⟨m0, w0⟩, turn⟩ := q D hDn
  generalize hs3 : ({ s2 with heap := s2.heap.push { cls := .type "list", data := .seq ([] : List Value).toArray } } : Shared) = s3
  have h3 : s3.heap = s2.heap.push { cls := .type "list", data := .seq ([] : List Value).toArray } := by rw [← hs3]
  have I3 : Inv X pins σ (upd H2 D (.lst [])) s3 := by
    rw [← hs3]
    refine I2.laid (t' := s2.toks) (fun b o e => Heap.get?_push_of_some _ e) (Nat.le_of_eq hD) ⟨Nat.zero_le _, [], 0, .nil, ?_⟩
    rw [← hD]
    exact Heap.get?_push_size _ rfl
  have f3 : ∀ b ∈ fp, FpOk X pins (upd H2 D (.lst [])) b ∧ b < s3.heap.objs.size := fun b hb => by
    obtain ⟨o, e, _⟩ := T.obj _ _ st2 b hb
    have hlt := Heap.lt_size e
    refine ⟨⟨?_, (f2 b hb).2⟩, by rw [h3, Heap.size_push]; exact Nat.lt_succ_of_lt hlt⟩
    rw [upd_ne (by rw [← hD]; exact Nat.ne_of_lt hlt)]
    exact (f2 b hb).1
  have st3 : tn 0 s3.heap := T.keep _ _ _ st2 fun b _ o e => by rw [h3]; exact Heap.get?_push_of_some _ e
  have I4 := block_startQ (E := Eb s3.heap.objs.size) I3 ok hN f3 hl hcm
  generalize hH3 : upd H2 D (.lst []) = H3 at I3 I4 w0 f3
  have qb : Quiet (blkQ X s3 H3 scope (ceOf X s3 scope) fp l (Eb s3.heap.objs.size)) := ⟨l, qa, fun _ z => z, rfl⟩
  have pg := hg s3 H3 fp l qb
  have pt := ht s3 H3 fp l qb
  have pe := he s3 H3 fp l qb hcm.symm ⟨pins, σ, I3, fun b hb => (f3 b hb).1⟩
  have fC := I3.fpOk (H' := H3) (b := s3.heap.objs.size) (Nat.le_refl _) (I3.hok.fresh (Nat.le_refl _))
  have eE := hE s3.heap.objs.size (ceOf X s3 scope) rfl rfl fC.2.1 fC.2.2.1 fC.2.2.2.1 fC.2.2.2.2.1 fun p hp => fC.2.2.2.2.2 p (List.mem_append_left _ hp)
  show codeAny _ _ (.compStart (.ListComp elt [⟨tg, iter, ifs, 0⟩] scope pos) 0 (.ref it) (.ref D) (ceOf X s3 scope)) (compEnds (model X.prog X.w) X.A X.xe use Qf (.ref D) (ceOf X s3 scope)) { s3 with heap := pushCells (s3.heap.push { cls := .type "dict", data := .dict #[] }) scope.names }
  have cL : (ceOf X s3 scope).locals = s3.heap.objs.size := rfl
  generalize ceOf X s3 scope = ce at I4 qb pg pt pe eE cL ⊢
  generalize hs4 : ({ s3 with heap := pushCells (s3.heap.push { cls := .type "dict", data := .dict #[] }) scope.names } : Shared) = s4 at I4 ⊢
  have st4 : tn 0 s4.heap := T.keep _ _ _ st3 fun b _ o e => by rw [← hs4]; exact pushCells_keeps _ _ _ _ (Heap.get?_push_of_some _ e)
  have stat : ∀ {σ' : L2.St} {H' : Hp} {s' : Shared}, Inv (blkQ X s3 H3 scope ce fp l (Eb s3.heap.objs.size)) [] σ' H' s' → (∀ b ∈ fp, H' b = none) → ∀ b ∈ fp, FpOk (blkQ X s3 H3 scope ce fp l (Eb s3.heap.objs.size)) [] H' b := fun {σ' H' s'} I' hn b hb =>
    ⟨hn b hb, (I'.ok.exf b hb).1, I'.ok.exfs b hb, .inl hb, fun x c e => (I'.ok.exf b hb).2 x c e, fun p hp => (f3 b hb).1.2.2.2.2.2 p (List.mem_append_left _ (hl p (by simpa using hp)))⟩
  have ws : ∀ {α : Type} {t : Sem α} {Q1 Q2 : α → Shared → Prop} {s' : Shared}, wpAny (model X.prog X.w) X.A t Q1 (Eb s3.heap.objs.size) s' → (∀ a s, Q1 a s → Q2 a s) →
      wpAny (model X.prog X.w) X.A t Q2 (notedBy (model X.prog X.w) X.A ce fun e s' => compEnds (model X.prog X.w) X.A X.xe use Qf (.ref D) ce (.error e) s') s' := fun z k => wpAny_mono z k fun u s' e => wpAny_mono (eE u s' e) (fun _ _ z => by cases use <;> exact z) fun u s' z => by
        cases use <;> exact z
  have loop : codeAny (model X.prog X.w) X.A (.compLoop (.ListComp elt [⟨tg, iter, ifs, 0⟩] scope pos) 0 (.ref it) (.ref D) ce) (compEnds (model X.prog X.w) X.A X.xe use Qf (.ref D) ce) s4 := by
    refine compLoop_any (fun n s' => ∃ i H', Inv (blkQ X s3 H3 scope ce fp l (Eb s3.heap.objs.size)) [] (wipe σ (own.map (·.2))) H' s' ∧ tn i s'.heap ∧ (∀ b ∈ fp, H' b = none) ∧ W i n H') ?_ m0 ⟨0, H3, I4, st4, fun b hb => (f3 b hb).1.1, w0⟩
    rintro n s5 ⟨i, H5, I5, st5, n5, w5⟩
    rcases turn i n H5 w5 with ⟨stop, qq⟩ | ⟨go, Nx, hNx, step⟩
    · refine ws (T.done (blkQ X s3 H3 scope ce fp l (Eb s3.heap.objs.size)) rfl rfl rfl qb i [] s5 _ H5 _ I5 (stat I5 n5) st5 stop) fun r s6 ⟨hr, I6⟩ => ?_
      subst hr
      have I7 : Inv X pins σ H5 s6 := I3.call' (ch := fp) I6.os I6.base I6.hok I6.bare fun b hb => ⟨(f3 b hb).1.2.2.2.1, (f3 b hb).1.2.1, (f3 b hb).1.2.2.2.2.1, (f3 b hb).1.2.2.2.2.2⟩
      have nC : H5 s3.heap.objs.size = none := by
        have z : H5 ce.locals = none := I6.free
        rw [cL] at z
        exact z
      obtain ⟨m, hn, _⟩ := I6.loc
      have hn : s6.heap.Ns ce.locals m := hn
      rw [cL] at hn
      exact hR D s3.heap.objs.size s6 m H5 ce cL I7 qq hn (I3.fpOk (Nat.le_refl _) nC)
    · refine ws (T.item (blkQ X s3 H3 scope ce fp l (Eb s3.heap.objs.size)) rfl rfl rfl i [] s5 _ H5 _ I5 (stat I5 n5) st5 go) fun r s6 ⟨u, hr, h6⟩ => ?_
      subst hr
      refine ws h6 fun _ s7 ⟨x, H7, I7, r7, y7, st7, n7⟩ => ?_
      have ob := T.obj _ _ st7
      refine ws (pg.run _ s7 _ H7 x u _ (I7.pinned (stat I7 n7) ob) r7 (step x H7 y7)) fun _ s8 ⟨σ8, H8, I8, hw8, q8⟩ => ?_
      refine ws (pt.run _ s8 σ8 H8 _ I8 q8) fun b s9 ⟨H9, I9, q9⟩ => ?_
      have fin : ∀ {s' : Shared} {H' : Hp}, Inv (blkQ X s3 H3 scope ce fp l (Eb s3.heap.objs.size)) ([] ++ pinsAt fp s7.heap) σ8 H' s' → Nx H' → ∃ m, m < n ∧ ∃ i H', Inv (blkQ X s3 H3 scope ce fp l (Eb s3.heap.objs.size)) [] (wipe σ (own.map (·.2))) H' s' ∧ tn i s'.heap ∧ (∀ b ∈ fp, H' b = none) ∧ W i m H' := fun {s' H'} I' nx => by
        obtain ⟨m', hm, w'⟩ := hNx H' nx
        have pp : ∀ b ∈ fp, ∀ o, s7.heap.get? b = some o → s'.heap.get? b = some o ∧ H' b = none := fun b hb o e =>
          let z := I'.pin (b, o) (List.mem_append_right _ (List.mem_append_right _ (mem_pinsAt hb e)))
          ⟨z.1, z.2.1⟩
        have hlen : (wipe σ (own.map (·.2))).length = σ8.length := by rw [← hw8, wipe_length]
        refine ⟨m', hm, i + 1, H', (I'.unpinned (pins := [])).weak hlen (fun j v e => ?_), T.keep _ _ _ st7 fun b hb o e => (pp b hb o e).1, fun b hb => ?_, w'⟩
        · rw [← hw8] at e
          exact (wipe_some e).1
        · obtain ⟨o, e, _⟩ := ob b hb
          exact (pp b hb o e).2
      cases b with
      | false =>
        simp only [Bool.false_eq_true, if_false] at q9 ⊢
        exact fin I9 q9
      | true =>
        simp only [if_true] at q9 ⊢
        refine ws (pe.run _ s9 σ8 H9 _ I9 q9) fun z s10 ⟨yv, H10, I10, r10, acc, hD10, hz10, nx⟩ => ?_
        exact app_ok (X := blkQ X s3 H3 scope ce fp l (Eb s3.heap.objs.size)) I10 hD10 hz10 r10 fun s11 I11 => fin I11 nx
  exact codeAny_compStart_list loop (T.self X.A 0 _ _ _ st4 loop)

theorem lc_endV {D C : Addr} {s' : Shared} {m : Str → Option Value} {H' : Hp} {ce : Env} {Q : VK} (hc : ce.locals = C) (I' : Inv X pins σ H' s') (q : Q (.ref D) H') (hn : s'.heap.Ns C m) (f : FpOk X pins H' C) :
    compEnds (model X.prog X.w) X.A X.xe none (EP X pins σ Q) (.ref D) ce (.ok .next) s' := by
  obtain ⟨f0, f1, f2, f3, f4, f5⟩ := f
  refine ⟨m, by rw [hc]; exact hn, fun h2 sb => ⟨.ref D, H', I'.turned (it := C) (t' := s'.toks) (fun b o hb e => ?_) f0 f1 f3 f4 f5, rfl, q⟩⟩
  rw [hc] at sb
  exact (sb.2 b hb).trans e
theorem lc_endS {D C : Addr} {s' : Shared} {m : Str → Option Value} {H' : Hp} {ce : Env} {y : Str} {py : Pos} {i : Nat} {En : Ends} (hN : X.N.Nodup) (hy : X.N[i]? = some y) (hyl : X.env.scope.names.lookup y = some .local) (hc : ce.locals = C) (I' : Inv X pins σ H' s') (q : gName i (.ref D) σ H' En.nx) (hn : s'.heap.Ns C m) (f : FpOk X pins H' C) :
    compEnds (model X.prog X.w) X.A X.xe (some (assign (.Name y py) X.env)) (fun _ s' => SP X pins En .next s') (.ref D) ce (.ok .next) s' := by
  refine wpAny_assign_Name (store_ok2 (v := V.ref D) I' hN hy (.inl hyl) rfl (fun s2 I2 ⟨a, sb, ha⟩ => ?_) (.inr hyl))
  obtain ⟨f0, f1, f2, f3, f4, f5⟩ := f
  have haC : C ≠ a := ha.elim (fun z => by rw [z]; exact f1) fun z e => f4 y a z e.symm
  refine ⟨m, by rw [hc]; exact hn.sameBut sb haC, fun h3 sb3 => ⟨_, H', I2.turned (it := C) (t' := s2.toks) (fun b o hb e => ?_) f0 f1 f3 f4 f5, q⟩⟩
  rw [hc] at sb3
  exact (sb3.2 b hb).trans e
section
variable {elt tg iter : Expr} {ifs : List Expr} {scope : Scope} {own : List (Str × Nat)} {pos spos : Pos} {wi : TI} {g : TG} {tt : TT} {te : TE}
/-- [elt for tg in iter if ..] as a value, nothing is raised within -/
theorem pe_lcQ (hq : Quiet X) (hN : X.N.Nodup) (hi : PIQ X tg iter wi) (ok : BlkOk X.N X.env.scope scope own)
    (hg : ∀ (s : Shared) (H : Hp) (fp : List Addr) (l : Pn), Quiet (blkQ X s H scope (ceOf X s scope) fp l fun _ _ => False) → PG (blkQ X s H scope (ceOf X s scope) fp l fun _ _ => False) tg g)
    (ht : ∀ (s : Shared) (H : Hp) (fp : List Addr) (l : Pn), Quiet (blkQ X s H scope (ceOf X s scope) fp l fun _ _ => False) → PTs (blkQ X s H scope (ceOf X s scope) fp l fun _ _ => False) ifs tt)
    (he : ∀ (s : Shared) (H : Hp) (fp : List Addr) (l : Pn), Quiet (blkQ X s H scope (ceOf X s scope) fp l fun _ _ => False) → (blkQ X s H scope (ceOf X s scope) fp l fun _ _ => False).calm = X.calm → PE (blkQ X s H scope (ceOf X s scope) fp l fun _ _ => False) elt te)
    (hs : ∀ x, foldedSetIterable iter X.env x = pure x := by intro _; rfl) : PE X (.ListComp elt [⟨tg, iter, ifs, 0⟩] scope pos) (tLc wi g tt te (own.map (·.2))) := by
  refine ⟨fun pins s σ H Q I h => ?_⟩
  rw [eval_ListComp]
  exact lc_coreQ (fun _ _ _ => False) hq hN I hi ok (fun _ _ _ _ _ _ _ _ _ _ _ z => z.elim) hg ht (fun s H fp l q c _ => he s H fp l q c) hs h fun D C s' m H' ce hc I' q hn f => lc_endV hc I' q hn f
/-- name = [..] on one line -/
theorem ps_setLcQ {i : Nat} {y : Str} {py : Pos} (hq : Quiet X) (hN : X.N.Nodup) (hy : X.N[i]? = some y) (hyl : X.env.scope.names.lookup y = some .local) (hsw : swapsWith (.ListComp elt [⟨tg, iter, ifs, 0⟩] scope pos) (some (.Name y py)) spos.line X.env = pure true) (hi : PIQ X tg iter wi) (ok : BlkOk X.N X.env.scope scope own)
    (hg : ∀ (s : Shared) (H : Hp) (fp : List Addr) (l : Pn), Quiet (blkQ X s H scope (ceOf X s scope) fp l fun _ _ => False) → PG (blkQ X s H scope (ceOf X s scope) fp l fun _ _ => False) tg g)
    (ht : ∀ (s : Shared) (H : Hp) (fp : List Addr) (l : Pn), Quiet (blkQ X s H scope (ceOf X s scope) fp l fun _ _ => False) → PTs (blkQ X s H scope (ceOf X s scope) fp l fun _ _ => False) ifs tt)
    (he : ∀ (s : Shared) (H : Hp) (fp : List Addr) (l : Pn), Quiet (blkQ X s H scope (ceOf X s scope) fp l fun _ _ => False) → (blkQ X s H scope (ceOf X s scope) fp l fun _ _ => False).calm = X.calm → PE (blkQ X s H scope (ceOf X s scope) fp l fun _ _ => False) elt te)
    (hs : ∀ x, foldedSetIterable iter X.env x = pure x := by intro _; rfl) : PS X (.Assign [.Name y py] (.ListComp elt [⟨tg, iter, ifs, 0⟩] scope pos) spos) (tAsg (tLc wi g tt te (own.map (·.2))) (gName i)) := by
  refine ⟨fun pins s σ H D I h => ?_⟩
  rw [exec_Assign_Name_used _ _ _ _ hsw]
  refine wpAny_bind (wpAny_standAt (wpAny_bind ?_))
  show wpAny _ X.A (do let _ ← comprehension (.ListComp elt [⟨tg, iter, ifs, 0⟩] scope pos) scope X.env (firstIterPos [⟨tg, iter, ifs, 0⟩] pos) (newList []) false (eval iter X.env) (some (assign (.Name y py) X.env))) _ _ s
  have h : tLc wi g tt te (own.map (·.2)) σ H (fun x H1 => gName i x σ H1 D.nx) := h
  exact wpAny_bind (thn (lc_coreQ (Qf := fun _ s' => SP X pins D .next s') (fun _ _ _ => False) hq hN I hi ok (fun _ _ _ _ _ _ _ _ _ _ _ z => z.elim) hg ht (fun s H fp l q c _ => he s H fp l q c) hs h fun L C s' m H' ce hc I' q hn f => lc_endS hN hy hyl hc I' q hn f) fun _ s' hq => wpAny_pure (wpAny_pure hq))
/-- as a value, the element may raise what E says -/
theorem pe_lcX {E : XK} (hst : X.stack = X.env :: X.outer) (hfr : X.env.frame = some X.env.locals) (tk : L2N.Takes X (fun c d _ H => E c d H)) (hq : Quiet X) (hN : X.N.Nodup) (hi : PIQ X tg iter wi) (ok : BlkOk X.N X.env.scope scope own)
    (hg : ∀ (s : Shared) (H : Hp) (fp : List Addr) (l : Pn), PG (blkQ X s H scope (ceOf X s scope) fp l (AirC X E s.heap.objs.size)) tg g)
    (ht : ∀ (s : Shared) (H : Hp) (fp : List Addr) (l : Pn), PTs (blkQ X s H scope (ceOf X s scope) fp l (AirC X E s.heap.objs.size)) ifs tt)
    (he : ∀ (s : Shared) (H : Hp) (fp : List Addr) (l : Pn), Quiet (blkQ X s H scope (ceOf X s scope) fp l (AirC X E s.heap.objs.size)) → (blkQ X s H scope (ceOf X s scope) fp l (AirC X E s.heap.objs.size)).calm = X.calm → PassQ (blkQ X s H scope (ceOf X s scope) fp l (AirC X E s.heap.objs.size)) E →
      PE (blkQ X s H scope (ceOf X s scope) fp l (AirC X E s.heap.objs.size)) elt te)
    (hs : ∀ x, foldedSetIterable iter X.env x = pure x := by intro _; rfl) : PE X (.ListComp elt [⟨tg, iter, ifs, 0⟩] scope pos) (tLc wi g tt te (own.map (·.2))) := by
  refine ⟨fun pins s σ H Q I h => ?_⟩
  rw [eval_ListComp]
  refine lc_coreQ (AirC X E) hq hN I hi ok (fun C ce hcl hcf nL nF ny nc np u s' x => air_fails tk hst hfr hcf hcl nL nF ny nc np x) (fun s H fp l _ => hg s H fp l) (fun s H fp l _ => ht s H fp l) (fun s H fp l q c ⟨pins0, σ0, I0, f0⟩ => he s H fp l q c fun p1 σ1 H1 s1 e s2 I1 cx => ?_) hs h fun D C s' m H' ce hc I' q hn f => lc_endV hc I' q hn f
  obtain ⟨m, hn, _⟩ := I1.loc
  have hn : s1.heap.Ns s.heap.objs.size m := hn
  have hC : H1 s.heap.objs.size = none := I1.free
  obtain ⟨o, es, ep, ho, _⟩ := id hn
  have J : Inv X pins0 σ0 H1 s1 := I0.call' (ch := fp) I1.os I1.base I1.hok I1.bare fun b hb => ⟨(f0 b hb).2.2.2.1, (f0 b hb).2.1, (f0 b hb).2.2.2.2.1, (f0 b hb).2.2.2.2.2⟩
  refine ⟨L2N.XE.of_call J (fun _ _ _ z => z) (cx_none cx ho hC), m, cx_ns cx hn hC fun z => ?_⟩
  exact absurd rfl (Nat.ne_of_gt (Nat.lt_of_le_of_lt (Nat.le_refl s.heap.objs.size) (by
    obtain ⟨_, o', ho', _⟩ := I0.stack.mem z
    exact Heap.lt_size ho')))
end
end
end K36
/-! K36Q5: any, max where an exception may be in hand -/
namespace K36
open PySem PySem.Spec PyProof.Rows L2 HotX
theorem walkLQ {P : Program} {w : World} {A : Around} {l : Pn} (qa : QA A l) (I a : Addr) (hne : a ≠ I) (hI : I ∉ l.map (·.1)) (items : Array Value) :
    Walks P w A I (I :: a :: l.map (·.1)) [I] items.size (fun i v => items[i]? = some v) (fun i h => h.IsListIter I a i ∧ h.IsList a items ∧ PinIn l h) where
  sub := fun b hb => by simp at hb; simp [hb]
  frame := fun _ _ _ st hk => ⟨st.1.at fun o e => hk I (by simp) o e, st.2.1.at fun o e => hk a (by simp) o e, fun p hp => hk p.1 (List.mem_cons_of_mem _ (List.mem_cons_of_mem _ (List.mem_map_of_mem hp))) _ (st.2.2 p hp)⟩
  item := fun i s Q E hi st hQ => by
    refine wpAny_pyNext_list_item st.1 st.2.1 (x := items[i]) (by simp [hi]) fun h' it' k' => ?_
    exact hQ _ h' s.toks (by simp [hi]) ⟨it', st.2.1.extBut k'.extBut hne, fun p hp => k'.extBut p.1 p.2 (fun z => hI (z ▸ List.mem_map_of_mem hp)) (st.2.2 p hp)⟩ fun b o hb e => k'.extBut b o (fun h => hb (by simp [h])) e
  done := fun s Q E st hQ => listEndQ qa st.2.2 hI st.1 st.2.1 (by simp) fun h' k' => hQ h' s.toks fun b o hb e => k' b o (fun h => hb (by simp [h])) e
  self := fun _ _ _ _ st hQ => wpAny_pyIter_listiter st.1 hQ
section
variable {X : Cx}
theorem pin_new {l : Pn} {h : Heap} (x : PinIn l h) : h.objs.size ∉ l.map (·.1) := fun hb => by
  obtain ⟨p, hp, e⟩ := List.mem_map.mp hb
  exact absurd (Heap.lt_size (x p hp)) (by rw [e]; exact Nat.lt_irrefl _)
theorem cr_anyQ (hq : Quiet X) : CallR X (.builtin "any") (rAny X.K) := by
  rintro pins s σ H vs us Q I r ⟨a, bs, rfl, hs, q⟩
  obtain ⟨its, rv, hl, _⟩ := I.list hs
  rw [Vals.ref1 r]
  have hb := rv.bls
  obtain ⟨l, qa, pin, _⟩ := hq.at_ I
  refine call_any_walk (iter_any hl.isList fun s₂ e2 st hne => ?_)
  subst e2
  refine ⟨_, _, _, _, _, _, _, rfl, walkLQ (A := X.A.in1) qa.in1 _ a hne (pin_new pin) its.toArray, ⟨st.1, st.2, pin.keep fun b o e => Heap.get?_push_of_some _ e⟩, truth_bools hb, fun h' tk hk => ?_⟩
  refine ⟨.bl _, H, I.kept fun b o eo => hk b o (fun hm => ?_) (Heap.get?_push_of_some _ eo), ?_, q⟩
  · exact absurd (List.mem_singleton.mp hm ▸ Heap.lt_size eo) (Nat.lt_irrefl _)
  · show Value.bool _ = Value.bool _
    rw [← L2.any_range, hb, List.size_toArray, List.length_map]
theorem cr_maxQ (hq : Quiet X) : CallR X (.builtin "max") (rMax X.K) := by
  rintro pins s σ H vs us Q I r ⟨a, ns, rfl, hs, hne, q⟩
  obtain ⟨its, rv, hl, _⟩ := I.list hs
  rw [Vals.ref1 r]
  obtain ⟨l, qa, pin, _⟩ := hq.at_ I
  have hl := hl.isList
  have hi := rv.ints
  obtain ⟨xs, e⟩ := hi.allInts.items
  have hn : numsOf (intItems xs).toList = ns := by rw [← e]; exact hi.numsOf
  rw [nums_intItems] at hn
  subst hn
  rw [e] at hl
  have hsz : 0 < xs.size := by simpa using hne
  refine call_max_walk (iter_intList hl fun s₂ e st hfp hlI => ?_)
  subst e
  refine ⟨_, _, _, _, _, _, _, rfl, walkLQ (A := X.A.in1) qa.in1 _ a hlI (pin_new pin) (intItems xs), ⟨st.1, st.2, pin.keep fun b o e => Heap.get?_push_of_some _ e⟩, ?_, by simpa [intItems] using hsz, CmpOf.ints_gt (numAt xs) (fun _ _ => intItems_at), fun v h' tk hP hk => ?_⟩
  · intro b hb
    rcases List.mem_cons.mp hb with z | hb
    · exact hfp b (by simp [z])
    · rcases List.mem_cons.mp hb with z | hb
      · exact hfp b (by simp [z])
      · obtain ⟨p, hp, z⟩ := List.mem_map.mp hb
        rw [← z]
        exact Heap.lt_size (Heap.get?_push_of_some _ (pin p hp))
  · have hP' : (intItems xs)[argBest (fun i j => decide (numAt xs i > numAt xs j)) (xs.size - 1)]? = some v := by simpa [intItems] using hP
    obtain ⟨t, rfl⟩ := intItems_at hP'
    obtain ⟨h1, h2⟩ := argBest_gt (numAt xs) (xs.size - 1)
    refine ⟨.int _, H, I.kept (old_kept hk), ⟨_, rfl⟩, q _ ?_ fun y hy => ?_⟩
    · rw [numAt_eq]; exact PySem.getD_mem (by rw [List.length_map, Array.length_toList]; omega)
    · obtain ⟨j, hj, rfl⟩ := mem_getD hy
      rw [List.length_map, Array.length_toList] at hj
      rw [← numAt_eq]; exact h2 j (by omega)
end
end K36
/-! K36Q6: dicts whose keys are None, bools, whole numbers, or tuples of such, nested -/
namespace K36
open PySem PySem.Spec PyProof.Rows L2 HotX
abbrev NK := NestedKey
mutual
/-- the value v is the key k, its tuples tracked in H -/
inductive KAt (H : Hp) : NK → V → Prop
  | non : KAt H .none .non
  | bl (b : Bool) : KAt H (.num (if b = true then 1 else 0)) (.bl b)
  | int (i : Int) : KAt H (.num i) (.int i)
  | str (x : Str) : KAt H (.text x) (.str x)
  | tup {a ks xs} : H a = some (.tup xs) → KAll H ks xs → KAt H (.tup ks) (.ref a)
inductive KAll (H : Hp) : List NK → List V → Prop
  | nil : KAll H [] []
  | cons {k v ks vs} : KAt H k v → KAll H ks vs → KAll H (k :: ks) (v :: vs)
end
mutual
theorem KAt.keep {H H' : Hp} (ht : ∀ b xs, H b = some (.tup xs) → H' b = some (.tup xs)) : ∀ {k : NK} {v : V}, KAt H k v → KAt H' k v
  | _, _, .non => .non
  | _, _, .bl b => .bl b
  | _, _, .int i => .int i
  | _, _, .str x => .str x
  | _, _, .tup e r => .tup (ht _ _ e) (KAll.keep ht r)
theorem KAll.keep {H H' : Hp} (ht : ∀ b xs, H b = some (.tup xs) → H' b = some (.tup xs)) : ∀ {ks : List NK} {vs : List V}, KAll H ks vs → KAll H' ks vs
  | _, _, .nil => .nil
  | _, _, .cons r t => .cons (KAt.keep ht r) (KAll.keep ht t)
end
mutual
theorem KAt.is {P : Program} {w : World} {H : Hp} {h : Heap} (ok : HOk P w H h) : ∀ {k : NK} {v : V} {u : Value}, KAt H k v → RelV v u → NestedIs h k u
  | _, _, _, .non, r => by cases r; exact .none
  | _, _, _, .bl b, r => by cases r; exact .bool rfl
  | _, _, _, .int i, r => by obtain ⟨t, rfl⟩ := r; exact .int _ _
  | _, _, _, .str x, r => by obtain ⟨t, rfl⟩ := r; exact .text _ _
  | _, _, _, .tup (a := a) (xs := xs) e q, r => by
    cases r
    obtain ⟨_, its, rv, o, h1, h2, n, h3⟩ := (show ObjOk P w H h a (.tup xs) from ok a _ e)
    exact .tup h1 h2 h3 (KAll.is ok q rv)
theorem KAll.is {P : Program} {w : World} {H : Hp} {h : Heap} (ok : HOk P w H h) : ∀ {ks : List NK} {vs : List V} {us : List Value}, KAll H ks vs → Vals vs us → NestedAll h ks us
  | _, _, _, .nil, .nil => .nil
  | _, _, _, .cons q t, .cons r rs => .cons (KAt.is ok q r) (KAll.is ok t rs)
end
def isTup : NK → Bool
  | .tup _ => true
  | _ => false
theorem leaf_of {H : Hp} {k : NK} {v : V} {u : Value} (q : KAt H k v) (r : RelV v u) (h : isTup k = false) : ∃ l : Leaf, l.key = k ∧ Leaf.isOf l u = true := by
  cases q with
  | non => cases r; exact ⟨.none, rfl, rfl⟩
  | bl b => cases r; exact ⟨.num _, rfl, decide_eq_true rfl⟩
  | int i => obtain ⟨t, rfl⟩ := r; exact ⟨.num i, rfl, decide_eq_true rfl⟩
  | str x => obtain ⟨t, rfl⟩ := r; exact ⟨.text x, rfl, by show (x == x) = true; simp⟩
  | tup _ _ => cases h
theorem tup_of {H : Hp} {k : NK} {v : V} (q : KAt H k v) (h : isTup k = true) : ∃ a, v = .ref a := by
  cases q with
  | tup _ _ => exact ⟨_, rfl⟩
  | _ => cases h
/-- a dict with leaf keys; one with tuple keys (the address of each key's tuple beside it) -/
def hoL (P : Program) (w : World) (d : Addr) (kvs : List (Leaf × V)) : HO := .ext fun h => kvs.length ≤ sizeLine ∧ (d == sysModules) = false ∧ ∃ vs, KV kvs vs ∧ h.DictOf (leafKind P w) d vs
abbrev NP (xs : List (NK × Addr × V)) (vs : List (NK × Addr × Value)) : Prop := Paired (fun x y => x.1 = y.1 ∧ x.2.1 = y.2.1 ∧ RelV x.2.2 y.2.2) xs vs
def hoN (P : Program) (w : World) (d : Addr) (xs : List (NK × Addr × V)) : HO := .ext fun h => xs.length ≤ sizeLine ∧ (d == sysModules) = false ∧ ∃ vs, NP xs vs ∧
  ∃ o es ep, h.get? d = some o ∧ o.ExactDict ∧ o.data = .dict es ep ∧ es.toList = vs.map (entryOfKey (nestedKind P w)) ∧ (vs.map (·.1)).Nodup
theorem okL {P : Program} {w : World} {H : Hp} {h : Heap} {d : Addr} {kvs : List (Leaf × V)} {vs : List (Leaf × Value)} (z : kvs.length ≤ sizeLine) (hd : (d == sysModules) = false) (r : KV kvs vs) (dd : h.DictOf (leafKind P w) d vs) : ObjOk P w H h d (hoL P w d kvs) :=
  ⟨⟨z, hd, vs, r, dd⟩, let ⟨o, _, _, e, _⟩ := dd; ⟨o, e⟩, fun _ _ ⟨z, y, vs, r, dd⟩ k => ⟨z, y, vs, r, dd.at k⟩⟩
theorem okN {P : Program} {w : World} {H : Hp} {h : Heap} {d : Addr} {xs : List (NK × Addr × V)} {vs : List (NK × Addr × Value)} (z : xs.length ≤ sizeLine) (hd : (d == sysModules) = false) (r : NP xs vs) (dd : h.DictOfH (nestedKind P w) d vs) : ObjOk P w H h d (hoN P w d xs) := by
  obtain ⟨o, es, ep, e, c, dt, l, _, nd⟩ := dd
  exact ⟨⟨z, hd, vs, r, o, es, ep, e, c, dt, l, nd⟩, ⟨o, e⟩, fun _ _ ⟨z, y, vs, r, o, es, ep, e, q⟩ k => ⟨z, y, vs, r, o, es, ep, k _ e, q⟩⟩
/-- at d stands a dict of these keys and values -/
inductive DN (P : Program) (w : World) (H : Hp) (d : Addr) : List (NK × V) → Prop
  | leaf (kvs : List (Leaf × V)) : H d = some (hoL P w d kvs) → DN P w H d (kvs.map fun p => (p.1.key, p.2))
  | tup (xs : List (NK × Addr × V)) : H d = some (hoN P w d xs) → (∀ x ∈ xs, KAt H x.1 (.ref x.2.1) ∧ isTup x.1 = true ∧ x.1.depth ≤ 8) → DN P w H d (xs.map fun x => (x.1, x.2.2))
theorem DN.some {P : Program} {w : World} {H : Hp} {d : Addr} {kvs : List (NK × V)} (x : DN P w H d kvs) : ∃ φ, H d = some (.ext φ) := by
  cases x with
  | leaf _ e => exact ⟨_, e⟩
  | tup _ e _ => exact ⟨_, e⟩
theorem DN.keep {P : Program} {w : World} {H H' : Hp} {d : Addr} {kvs : List (NK × V)} (x : DN P w H d kvs) (hd : H' d = H d) (ht : ∀ b xs, H b = Option.some (.tup xs) → H' b = Option.some (.tup xs)) : DN P w H' d kvs := by
  cases x with
  | leaf ls e => exact .leaf ls (hd.trans e)
  | tup xs e q => exact .tup xs (hd.trans e) fun x hx => ⟨(q x hx).1.keep ht, (q x hx).2⟩
theorem valL (ls : List (Leaf × V)) (l : Leaf) : valV (ls.map fun p => (p.1.key, p.2)) l.key = valV ls l := by
  induction ls with
  | nil => rfl
  | cons p r ih =>
    rw [List.map_cons]
    by_cases e : p.1 = l
    · rw [valV_pos (show (p.1.key, p.2).1 = l.key by rw [e]), valV_pos e]
    · rw [valV_neg (fun z => e (Leaf.key_inj z)), valV_neg e, ih]
theorem valN {xs : List (NK × Addr × V)} {vs : List (NK × Addr × Value)} (r : NP xs vs) (k : NK) : RelO (valV (xs.map fun x => (x.1, x.2.2)) k) ((atKey vs k).map (·.2)) := by
  induction r with
  | nil => exact True.intro
  | @cons p q ps qs h t ih =>
    obtain ⟨h1, _, h2⟩ := h
    rw [List.map_cons]
    by_cases e : p.1 = k
    · rw [valV_pos (show (p.1, p.2.2).1 = k from e)]
      have e' : q.1 = k := h1.symm.trans e
      have e2 : atKey (q :: qs) k = some q.2 := by simp [atKey, e']
      rw [e2]
      exact h2
    · rw [valV_neg (show ¬ (p.1, p.2.2).1 = k from e)]
      have e' : ¬ q.1 = k := fun z => e (h1.trans z)
      simpa [atKey, e'] using ih
def Hom (kvs : List (NK × V)) (k : NK) : Prop := ∀ kv ∈ kvs, isTup kv.1 = isTup k
section
variable {X : Cx} {pins : Pn} {σ : St} {H : Hp} {s : Shared} {d : Addr} {kvs : List (NK × V)} {k : NK} {y v : V} {u r : Value} {A : Around} {E : Value → Shared → Prop}
/-- as a dict of leaves -/
theorem DN.toL (ok : HOk X.prog X.w H s.heap) (x : DN X.prog X.w H d kvs) (hk : isTup k = false) (hm : Hom kvs k) : (d == sysModules) = false ∧ kvs.length ≤ sizeLine ∧ ∃ (ls : List (Leaf × V)) (vs : List (Leaf × Value)), kvs = ls.map (fun p => (p.1.key, p.2)) ∧ KV ls vs ∧ s.heap.DictOf (leafKind X.prog X.w) d vs := by
  cases x with
  | leaf ls e =>
    obtain ⟨⟨z, hd, vs, r, dd⟩, _⟩ := ok d _ e
    exact ⟨hd, by rw [List.length_map]; exact z, ls, vs, rfl, r, dd⟩
  | tup xs e q =>
    cases xs with
    | nil =>
      obtain ⟨⟨z, hd, vs, r, o, es, ep, h1, h2, h3, h4, h5⟩, _⟩ := ok d _ e
      cases r
      have he : es = #[] := by simpa using h4
      subst he
      exact ⟨hd, z, [], [], rfl, .nil, o, #[], ep, h1, h2, h3, (fun e he => by simp at he), .nil, List.nodup_nil⟩
    | cons x xs =>
      have h1 := (q x List.mem_cons_self).2.1
      have h2 := hm _ (List.mem_cons_self (a := (x.1, x.2.2)))
      rw [hk, h1] at h2
      cases h2
theorem DN.toN (ok : HOk X.prog X.w H s.heap) (x : DN X.prog X.w H d kvs) (hk : isTup k = true) (hm : Hom kvs k) : (d == sysModules) = false ∧ kvs.length ≤ sizeLine ∧ ∃ (xs : List (NK × Addr × V)) (vs : List (NK × Addr × Value)), kvs = xs.map (fun x => (x.1, x.2.2)) ∧ NP xs vs ∧
    s.heap.DictOfH (nestedKind X.prog X.w) d vs ∧ ∀ x ∈ xs, KAt H x.1 (.ref x.2.1) ∧ isTup x.1 = true ∧ x.1.depth ≤ 8 := by
  cases x with
  | tup xs e q =>
    obtain ⟨⟨z, hd, vs, r, o, es, ep, h1, h2, h3, h4, h5⟩, _⟩ := ok d _ e
    refine ⟨hd, by rw [List.length_map]; exact z, xs, vs, rfl, r, ⟨o, es, ep, h1, h2, h3, h4, fun y hy => ?_, h5⟩, q⟩
    have all : ∀ {l : List (NK × Addr × V)} {m : List (NK × Addr × Value)}, NP l m → (∀ x ∈ l, KAt H x.1 (.ref x.2.1) ∧ isTup x.1 = true ∧ x.1.depth ≤ 8) → ∀ y ∈ m, (nestedKind X.prog X.w).is s.heap y.1 y.2.1 := by
      intro l m z
      induction z with
      | nil => intro _ y hy; exact nomatch hy
      | @cons p q ps qs hq t ih =>
        intro hp y hy
        rcases List.mem_cons.mp hy with e | hy
        · subst e
          have a := hp p List.mem_cons_self
          exact ⟨by rw [← hq.1, ← hq.2.1]; exact a.1.is ok rfl, by rw [← hq.1]; exact a.2.2⟩
        · exact ih (fun x hx => hp x (List.mem_cons_of_mem _ hx)) y hy
    exact all r q y hy
  | leaf ls e =>
    cases ls with
    | nil =>
      obtain ⟨⟨z, hd, vs, r, o, es, ep, h1, h2, h3, h4, h5, h6⟩, _⟩ := ok d _ e
      cases r
      have he : es = #[] := by
        have q : es.toList = [] := by cases h5' : es.toList with
          | nil => rfl
          | cons a l => rw [h5'] at h5; cases h5
        simpa using q
      subst he
      exact ⟨hd, z, [], [], rfl, .nil, ⟨o, #[], ep, h1, h2, h3, rfl, (fun _ hx => nomatch hx), List.nodup_nil⟩, fun _ hx => nomatch hx⟩
    | cons l ls =>
      have h2 := hm _ (List.mem_cons_self (a := (l.1.key, l.2)))
      have h1 : isTup l.1.key = false := by cases l.1 <;> rfl
      rw [hk] at h2
      exact absurd (h1.symm.trans h2) (by decide)
/-- what the dict at d holds at y -/
def NGet (P : Program) (w : World) (H : Hp) (d : Addr) (y : V) (o : Option V) : Prop := ∃ kvs k, DN P w H d kvs ∧ KAt H k y ∧ k.depth ≤ 8 ∧ Hom kvs k ∧ o = valV kvs k
theorem n_get {o : Option V} (I : Inv X pins σ H s) (g : NGet X.prog X.w H d y o) (ry : RelV y u) :
    (d == sysModules) = false ∧ ((∃ l vs, Leaf.isOf l u = true ∧ s.heap.DictOf (leafKind X.prog X.w) d vs ∧ RelO o (valueAt vs l)) ∨
      ∃ a k vs, u = .ref a ∧ (nestedKind X.prog X.w).is s.heap k a ∧ s.heap.DictOfH (nestedKind X.prog X.w) d vs ∧ RelO o ((atKey vs k).map (·.2))) := by
  obtain ⟨kvs, k, dn, ka, dp, hm, rfl⟩ := g
  cases hk : isTup k with
  | false =>
    obtain ⟨hd, hz, ls, vs, rfl, r, dd⟩ := dn.toL I.hok hk hm
    obtain ⟨l, rfl, hl⟩ := leaf_of ka ry hk
    exact ⟨hd, .inl ⟨l, vs, hl, dd, by rw [valL]; exact r.val l⟩⟩
  | true =>
    obtain ⟨hd, hz, xs, vs, rfl, r, dd, _⟩ := dn.toN I.hok hk hm
    obtain ⟨a, rfl⟩ := tup_of ka hk
    cases (show u = Value.ref a from ry)
    exact ⟨hd, .inr ⟨a, k, vs, rfl, ⟨ka.is I.hok rfl, dp⟩, dd, valN r k⟩⟩
theorem n_notIn {o : Option V} {Q : Value → Shared → Prop} (hu : A.units + 64 < cLine) (I : Inv X pins σ H s) (g : NGet X.prog X.w H d y o) (ry : RelV y u) (h : ∀ s', Inv X pins σ H s' → Q (.bool (!o.isSome)) s') : wpAny (model X.prog X.w) A (compareOp .NotIn u (.ref d)) Q E s := by
  obtain ⟨hd, ⟨l, vs, hl, dd, r⟩ | ⟨a, k, vs, rfl, hk, dd, r⟩⟩ := n_get I g ry
  · refine wpAny_notIn_of hl hd dd.mapOf ?_
    rw [← r.isSome_eq]
    exact h _ (I.tok _)
  · refine wpAny_notIn_heap (show A.units + 1 + 8 < cLine by omega) hk hd dd ?_
    have q := r.isSome_eq
    rw [Option.isSome_map] at q
    rw [← q]
    exact h _ (I.tok _)
theorem n_getItem {Q : Value → Shared → Prop} (hu : A.units + 64 < cLine) (I : Inv X pins σ H s) (g : NGet X.prog X.w H d y (some v)) (ry : RelV y u) (h : ∀ w' s', Inv X pins σ H s' → RelV v w' → Q w' s') : wpAny (model X.prog X.w) A (getItem (.ref d) u) Q E s := by
  obtain ⟨hd, ⟨l, vs, hl, dd, r⟩ | ⟨a, k, vs, rfl, hk, dd, r⟩⟩ := n_get I g ry
  · obtain ⟨w', hw, rw'⟩ := RelO.some_of r
    exact wpAny_getItem_of hl dd.mapOf hw (h w' _ (I.tok _) rw')
  · obtain ⟨w', hw, rw'⟩ := RelO.some_of r
    obtain ⟨p, hp, hp2⟩ := Option.map_eq_some_iff.mp hw
    refine wpAny_getItem_heap (show A.units + 1 + 8 < cLine by omega) hk dd hp ?_
    rw [hp2]
    exact h w' _ (I.tok _) rw'
theorem n_get1 {o : Option V} {Q : Value → Shared → Prop} (hu : A.units + 64 < cLine) (I : Inv X pins σ H s) (g : NGet X.prog X.w H d y o) (ry : RelV y u) (h : ∀ w' s', Inv X pins σ H s' → RelV (o.getD .non) w' → Q w' s') : wpAny (model X.prog X.w) A (call (.builtin "dict.get") [.ref d, u]) Q E s := by
  obtain ⟨hd, ⟨l, vs, hl, dd, r⟩ | ⟨a, k, vs, rfl, hk, dd, r⟩⟩ := n_get I g ry
  · exact call_meetsIn PySem.F.slot_dict_get dd.typeIs PySem.F.entry_dict_get (PySem.F.args_dict_get_2 _ _) (meets_dict_get (leafKind X.prog X.w) d hl hd) ⟨_, dd.mapOf, h _ _ (I.tok _) (r.getD rfl)⟩
  · exact call_meetsIn PySem.F.slot_dict_get dd.typeIs PySem.F.entry_dict_get (PySem.F.args_dict_get_2 _ _) (meetsH_dict_get (nestedKind X.prog X.w) d a hd) ⟨show A.units + 1 + 8 < cLine by omega, k, vs, hk, dd, h _ _ (I.tok _) (r.getD rfl)⟩
/-- d[y] = v, y a new key -/
def NPut (P : Program) (w : World) (H : Hp) (d : Addr) (y v : V) (Q : Hp → Prop) : Prop := ∃ kvs k, DN P w H d kvs ∧ KAt H k y ∧ k.depth ≤ 8 ∧ Hom kvs k ∧ valV kvs k = none ∧ kvs.length < sizeLine ∧ ∀ o, DN P w (upd H d o) d (kvs ++ [(k, v)]) → Q (upd H d o)
theorem n_setItem {Q : Unit → Shared → Prop} {R : Hp → Prop} (hu : A.units + 64 < cLine) (I : Inv X pins σ H s) (g : NPut X.prog X.w H d y v R) (ry : RelV y u) (rv : RelV v r) (h : ∀ H' s', Inv X pins σ H' s' → R H' → Q () s') : wpAny (model X.prog X.w) A (setItem (.ref d) u r) Q E s := by
  obtain ⟨kvs, k, dn, ka, dp, hm, hn, hz, hq⟩ := g
  obtain ⟨φ, hφ⟩ := dn.some
  have mu : Mut (H d) := by rw [hφ]; exact True.intro
  have tk : ∀ (o : HO) b xs, H b = some (.tup xs) → upd H d o b = some (.tup xs) := fun o b xs e => by rw [upd_ne (ne_of e hφ (fun z => nomatch z))]; exact e
  cases hk : isTup k with
  | false =>
    obtain ⟨hd, hl, ls, vs, rfl, r2, dd⟩ := dn.toL I.hok hk hm
    obtain ⟨l, rfl, hlf⟩ := leaf_of ka ry hk
    rw [List.length_map] at hz
    rw [valL] at hn
    have rp := r2.put l rv
    rw [putK_new _ hn] at rp
    refine wpAny_setItem_pairs (hsz := by rw [← r2.length]; exact Nat.le_of_lt hz) hlf dd fun h' dd' hs => ?_
    have he : ∃ q, h'.get? d = some q := let ⟨q, _, _, hq, _⟩ := dd'; ⟨q, hq⟩
    have e : (ls ++ [(l, v)]).map (fun p : Leaf × V => (p.1.key, p.2)) = ls.map (fun p => (p.1.key, p.2)) ++ [(l.key, v)] := by rw [List.map_append]; rfl
    exact h _ _ (d_write (ob := hoL X.prog X.w d (ls ++ [(l, v)])) I mu hs he (okL (by rw [List.length_append]; exact hz) hd rp dd')) (hq _ (e ▸ DN.leaf _ upd_same))
  | true =>
    obtain ⟨hd, hl, xs, vs, rfl, r2, dd, al⟩ := dn.toN I.hok hk hm
    obtain ⟨a, rfl⟩ := tup_of ka hk
    cases (show u = Value.ref a from ry)
    rw [List.length_map] at hz
    have hn2 : atKey vs k = none := by
      have q := valN r2 k
      rw [hn] at q
      cases e : atKey vs k with
      | none => rfl
      | some p => rw [e] at q; exact q.elim
    refine wpAny_setItem_heap (knd := nestedKind X.prog X.w) (k := k) (hsz := by rw [← Paired.length r2]; exact Nat.le_of_lt hz) (show A.units + 1 + 8 < cLine by omega) ⟨ka.is I.hok rfl, dp⟩ dd fun h' dd' hs => ?_
    rw [storedH_new hn2] at dd'
    have he : ∃ q, h'.get? d = some q := let ⟨q, _, _, hq, _⟩ := dd'; ⟨q, hq⟩
    have rp : NP (xs ++ [(k, a, v)]) (vs ++ [(k, a, r)]) := by
      have app : ∀ {l : List (NK × Addr × V)} {m : List (NK × Addr × Value)}, NP l m → NP (l ++ [(k, a, v)]) (m ++ [(k, a, r)]) := by
        intro l m z
        induction z with
        | nil => exact .cons ⟨rfl, rfl, rv⟩ .nil
        | cons p t ih => exact .cons p ih
      exact app r2
    have e : (xs ++ [(k, a, v)]).map (fun x : NK × Addr × V => (x.1, x.2.2)) = xs.map (fun x => (x.1, x.2.2)) ++ [(k, v)] := by rw [List.map_append]; rfl
    refine h _ _ (d_write (ob := hoN X.prog X.w d (xs ++ [(k, a, v)])) I mu hs he (okN (by rw [List.length_append]; exact hz) hd rp dd')) (hq _ (e ▸ DN.tup _ upd_same fun x hx => ?_))
    rcases List.mem_append.mp hx with hx | hx
    · exact ⟨(al x hx).1.keep (tk _), (al x hx).2⟩
    · obtain rfl := List.mem_singleton.mp hx
      exact ⟨ka.keep (tk _), hk, dp⟩
end
end K36
/-! K36Q7: the rules over such dicts -/
namespace K36
open PySem PySem.Spec PyProof.Rows L2 HotX
def ho0 (P : Program) (w : World) (kt : Bool) (p : Addr) : HO := if kt = true then hoN P w p [] else hoL P w p []
section
variable {X : Cx} {pins : Pn} {σ : St} {H : Hp} {s : Shared} {d : Addr} {kvs : List (NK × V)} {o i e value : Expr} {pos pos' apos cpos : Pos} {td ty tv tk : TE}
theorem DN.raw (I : Inv X pins σ H s) (x : DN X.prog X.w H d kvs) : (d == sysModules) = false ∧ ∃ es ep, s.heap.DictRaw d es ep ∧ es.size = kvs.length := by
  cases x with
  | leaf ls e =>
    obtain ⟨⟨z, hd, vs, r, ob, es, ep, h1, h2, h3, h4, h5, h6⟩, _⟩ := I.hok d _ e
    refine ⟨hd, es, ep, ⟨ob, h1, h2, h3⟩, ?_⟩
    have q := h5.length
    rw [Array.length_toList] at q
    rw [List.length_map, q, r.length]
  | tup xs e q =>
    obtain ⟨⟨z, hd, vs, r, ob, es, ep, h1, h2, h3, h4, h5⟩, _⟩ := I.hok d _ e
    refine ⟨hd, es, ep, ⟨ob, h1, h2, h3⟩, ?_⟩
    have q := congrArg List.length h4
    rw [Array.length_toList, List.length_map] at q
    rw [List.length_map, q, Paired.length r]
theorem NGet.dn {P : Program} {w : World} {y : V} {ov : Option V} (g : NGet P w H d y ov) : ∃ kvs, DN P w H d kvs := let ⟨kvs, _, h, _⟩ := g; ⟨kvs, h⟩
/-- d[y], there -/
def tNGet (P : Program) (w : World) (td ty : TE) : TE := fun σ H Q => td σ H fun x H1 => ty σ H1 fun y H2 => ∃ a v, x = .ref a ∧ NGet P w H2 a y (some v) ∧ Q v H2
theorem pe_nget (hu : X.A.units + 64 < cLine) (ho : PE X o td) (hi : PE X i ty) (hs : NoSl i) : PE X (.Subscript o i pos) (tNGet X.prog X.w td ty) := by
  refine ⟨fun pins s σ H Q I h => subD_of PySem.F.slot_dict_getitem.lookup hs (thn (ho.run pins s σ H _ I h) fun u s1 ⟨x, H1, I1, rx, q1⟩ => thn (hi.run pins s1 σ H1 _ I1 q1) fun iv s2 ⟨y, H2, I2, ry, a, v, ex, g, q2⟩ => ?_)⟩
  subst ex
  obtain rfl : u = Value.ref a := rx
  obtain ⟨kvs, dn⟩ := g.dn
  obtain ⟨_, es, ep, hr, _⟩ := dn.raw I2
  exact ⟨hr.typeIs, n_getItem hu I2 g ry fun w' s3 I3 rw' => ⟨v, H2, I3, rw', q2⟩⟩
/-- y not in d -/
def tNNotIn (P : Program) (w : World) (ty td : TE) : TE := fun σ H Q => ty σ H fun y H1 => td σ H1 fun x H2 => ∃ a ov, x = .ref a ∧ NGet P w H2 a y ov ∧ Q (.bl (!ov.isSome)) H2
theorem pc_nnotin (hu : X.A.units + 64 < cLine) (hi : PE X i ty) (ho : PE X o td) : PC X .NotIn i o (tNNotIn X.prog X.w ty td) := by
  refine ⟨fun pins s σ H Q I h => thn (hi.run pins s σ H _ I h) fun iv s1 ⟨y, H1, I1, ry, q1⟩ => thn (ho.run pins s1 σ H1 _ I1 q1) fun u s2 ⟨x, H2, I2, rx, a, ov, ex, g, q2⟩ => ?_⟩
  subst ex
  obtain rfl : u = Value.ref a := rx
  exact n_notIn hu I2 g ry fun s3 I3 => ⟨.bl (!ov.isSome), H2, I3, rfl, q2⟩
/-- d[y] = v, y new -/
def sNPut (P : Program) (w : World) (td ty tv : TE) : TS := fun D σ H => tv σ H fun v H1 => td σ H1 fun x H2 => ty σ H2 fun y H3 => ∃ a, x = .ref a ∧ NPut P w H3 a y v fun H4 => D.nx σ H4
theorem ps_nput (hu : X.A.units + 64 < cLine) (ho : PE X o td) (hi : PE X i ty) (hv : PE X value tv) (hs : swapsWith value (some (.Subscript o i pos')) pos.line X.env = pure false := by rfl) : PS X (.Assign [.Subscript o i pos'] value pos) (sNPut X.prog X.w td ty tv) := by
  refine ⟨fun pins s σ H D I h => wpAny_Assign_Subscript (thn (hv.run pins s σ H _ I h) fun r s1 ⟨v, H1, I1, rv, q1⟩ => thn (ho.run pins s1 σ H1 _ I1 q1) fun u s2 ⟨x, H2, I2, rx, q2⟩ => thn (hi.run pins s2 σ H2 _ I2 q2) fun iv s3 ⟨y, H3, I3, ry, a, ex, g⟩ => ?_) hs⟩
  subst ex
  obtain rfl : u = Value.ref a := rx
  exact n_setItem hu I3 g ry rv fun H4 s4 I4 q4 => ⟨σ, H4, I4, q4⟩
/-- d.get(y) -/
def tNGet1 (P : Program) (w : World) (td ty : TE) : TE := fun σ H Q => td σ H fun x H1 => ∃ a, x = .ref a ∧ (∃ kvs, DN P w H1 a kvs) ∧ ty σ H1 fun y H2 => ∃ ov, NGet P w H2 a y ov ∧ Q (ov.getD .non) H2
theorem pe_nget1 (hu : X.A.units + 64 < cLine) (ho : PE X o td) (he : PE X e ty) (m : M1 X o "get" apos e cpos) : PE X (.Call (.Attribute o "get" apos) [e] [] cpos) (tNGet1 X.prog X.w td ty) := by
  refine ⟨fun pins s σ H Q I h => wpAny_Call_method m.base m.few m.line PySem.F.plainAttrs_dict PySem.F.slot_dict_get PySem.F.type_dict_get (thn (ho.run pins s σ H _ I h) fun u s1 ⟨x, H1, I1, rx, a, ex, ⟨kvs, dn⟩, q1⟩ => ?_)⟩
  subst ex
  obtain rfl : u = Value.ref a := rx
  obtain ⟨_, es, ep, hr, _⟩ := dn.raw I1
  obtain ⟨ob, h1, h2, h3⟩ := id hr
  refine ⟨hr.typeIs, fun b q => by cases q; exact ⟨ob, h1, h2.2.1⟩, ?_⟩
  rw [m.trees]
  refine Calls.callWith_builtin rfl (Calls.evalArgs_plain (Calls.spliced_cons (thn (he.run pins s1 σ H1 _ I1 q1) fun iv s2 ⟨y, H2, I2, ry, ov, g, q2⟩ => Calls.spliced_nil ?_)))
  exact n_get1 hu I2 g ry fun w' s3 I3 rw' => ⟨_, H2, I3, rw', q2⟩
/-- len(d) -/
theorem call_lenN : CallR X (.builtin "len") (fun xs H Q => ∃ a kvs, xs = [V.ref a] ∧ DN X.prog X.w H a kvs ∧ kvs.length ≤ 1000000 ∧ Q (.int kvs.length) H) := by
  rintro pins s σ H xs us Q I r ⟨a, kvs, rfl, dn, hz, q⟩
  obtain ⟨u, rfl, ru⟩ := r.one
  cases ru
  obtain ⟨hd, es, ep, hr, hs⟩ := dn.raw I
  refine PyProof.Rows.call_len_slot (n := kvs.length) hr.typeIs PySem.F.slot_dict_len (fun Q' hq => call_len_raw hd hr (by rw [hs]; exact hq)) (by omega) (by omega) ?_
  exact ⟨.int kvs.length, H, I.tok _, ⟨_, rfl⟩, q⟩
/-- {} -/
def tNNew (P : Program) (w : World) : TE := fun _ H Q => ∀ p, H p = none → Q (.ref p) (upd H p (hoL P w p []))
theorem ho0_ok {H' : Hp} {h : Heap} (kt : Bool) (hb : sysModules < h.objs.size) : ObjOk X.prog X.w H' (h.push { cls := .type "dict", data := .dict #[] }) h.objs.size (ho0 X.prog X.w kt h.objs.size) := by
  have hd : (h.objs.size == sysModules) = false := beq_eq_false_iff_ne.mpr (Ne.symm (Nat.ne_of_lt hb))
  cases kt with
  | false => exact okL (Nat.zero_le _) hd .nil (Heap.DictOf.new h)
  | true => exact okN (Nat.zero_le _) hd .nil (Heap.DictOfH.new h)
theorem pe_nnew : PE X (.Dict [] [] pos) (tNNew X.prog X.w) := ⟨fun pins s σ H Q I h =>
  wpAny_Dict_empty ⟨.ref s.heap.objs.size, _, I.laid (a := s.heap.objs.size) (o := ho0 X.prog X.w false s.heap.objs.size) (t' := s.toks) (fun _ _ q => Heap.get?_push_of_some _ q) (Nat.le_refl _) (ho0_ok false I.big), rfl, h _ (I.hok.fresh (Nat.le_refl _))⟩⟩
/-- {k: v} -/
def tNDisp (P : Program) (w : World) (tk tv : TE) : TE := fun σ H Q => ∃ kt : Bool, ∀ p, H p = none → tk σ (upd H p (ho0 P w kt p)) fun x H1 => tv σ H1 fun y H2 => ∃ x' y', [(x, y)] = [(x', y')] ∧ H2 p = some (ho0 P w kt p) ∧ ∃ k, KAt H2 k x' ∧ k.depth ≤ 8 ∧ isTup k = kt ∧ ∀ o, DN P w (upd H2 p o) p [(k, y')] → Q (.ref p) (upd H2 p o)
theorem pe_ndisp {k v : Expr} (hu : X.A.units + 64 < cLine) (hk : PE X k tk) (hv : PE X v tv) : PE X (.Dict [some k] [v] pos) (tNDisp X.prog X.w tk tv) := by
  refine ⟨fun pins s σ H Q I h => ?_⟩
  obtain ⟨kt, q⟩ := h
  have hn := I.hok.fresh (Nat.le_refl s.heap.objs.size)
  have I1 := I.laid (a := s.heap.objs.size) (o := ho0 X.prog X.w kt s.heap.objs.size) (h' := s.heap.push { cls := .type "dict", data := .dict #[] }) (t' := s.toks) (fun _ _ q => Heap.get?_push_of_some _ q) (Nat.le_refl _) (ho0_ok kt I.big)
  have pp : PPs X pos [some k] [v] [(tk, tv)] := pps_cons hk hv pps_nil
  have q1 := q _ hn
  have run := pp.run pins _ σ _ (fun ps H2 => ∃ x y, ps = [(x, y)] ∧ H2 s.heap.objs.size = some (ho0 X.prog X.w kt s.heap.objs.size) ∧ ∃ k, KAt H2 k x ∧ k.depth ≤ 8 ∧ isTup k = kt ∧ ∀ o, DN X.prog X.w (upd H2 s.heap.objs.size o) s.heap.objs.size [(k, y)] → Q (.ref s.heap.objs.size) (upd H2 s.heap.objs.size o)) I1 ?_
  · cases kt with
    | false =>
      refine wpAny_Dict_walk (knd := leafKind X.prog X.w) rfl rfl (by simp) (by simp) (thn run fun ws s2 z0 => ?_)
      obtain ⟨ps, H2, I2, rel, x, y, rfl, hp, k', ka, dp, hk', hq⟩ := z0
      cases rel with
      | cons r t =>
        cases t
        obtain ⟨rk, rv⟩ := r
        obtain ⟨l, rfl, hl⟩ := leaf_of ka rk hk'
        obtain ⟨⟨z, hd, vs0, r0, dd⟩, _⟩ := I2.hok _ _ hp
        cases r0
        refine ⟨[(l, _)], ⟨hl, rfl, True.intro⟩, dd, fun h' dd' hs => ?_⟩
        have he : ∃ q, h'.get? s.heap.objs.size = some q := let ⟨q, _, _, hq, _⟩ := dd'; ⟨q, hq⟩
        exact ⟨.ref s.heap.objs.size, _, d_write (ob := hoL X.prog X.w _ [(l, y)]) I2 (by rw [hp]; exact True.intro) hs he (okL (by show 1 ≤ sizeLine; decide) hd (.cons ⟨rfl, rv⟩ .nil) dd'), rfl, hq _ (DN.leaf [(l, y)] upd_same)⟩
    | true =>
      have hpl := pairTrees_length [some k] [v] X.env pos rfl rfl
      rw [arm_eval_Dict, zip_pairTrees [some k] [v] X.env pos rfl rfl, dictDisplay_pairs (pairTrees [some k] [v] X.env pos) (fun z => by rw [z] at hpl; cases hpl) (by rw [hpl]; simp)]
      refine wpAny_bind (wpAny_standAt (wpAny_bind (wpAny_subDictH (knd := nestedKind X.prog X.w) (show X.A.units + 8 < cLine by omega) (by rw [hpl]; simp) (thn run fun ws s2 z0 => ?_))))
      obtain ⟨ps, H2, I2, rel, x, y, rfl, hp, k', ka, dp, hk', hq⟩ := z0
      cases rel with
      | cons r t =>
        cases t
        obtain ⟨rk, rv⟩ := r
        obtain ⟨a, rfl⟩ := tup_of ka hk'
        have dn0 : DN X.prog X.w H2 s.heap.objs.size (([] : List (NK × Addr × V)).map fun x => (x.1, x.2.2)) := .tup [] hp fun _ hx => nomatch hx
        obtain ⟨hd, hz, xs, vs0, e0, r0, dd, al⟩ := DN.toN (k := k') I2.hok dn0 hk' (fun _ hx => nomatch hx)
        have xs0 : xs = [] := by cases xs with | nil => rfl | cons _ _ => cases e0
        subst xs0
        cases r0
        refine ⟨[(k', a, _)], ⟨rk, rfl, ⟨ka.is I2.hok rfl, dp⟩, True.intro⟩, dd, fun h' tk' dd' hs => wpAny_pure ?_⟩
        have he : ∃ q, h'.get? s.heap.objs.size = some q := let ⟨q, _, _, hq, _⟩ := dd'; ⟨q, hq⟩
        refine ⟨.ref s.heap.objs.size, _, d_write (ob := hoN X.prog X.w _ [(k', a, y)]) I2 (by rw [hp]; exact True.intro) hs he (okN (by show 1 ≤ sizeLine; decide) hd (.cons ⟨rfl, rfl, rv⟩ .nil) dd'), rfl, hq _ (DN.tup [(k', a, y)] upd_same fun x hx => ?_)⟩
        obtain rfl := List.mem_singleton.mp hx
        exact ⟨ka.keep fun b xs e => by rw [upd_ne (ne_of e hp (fun z => nomatch z))]; exact e, hk', dp⟩
  · exact q1
end
end K36
/-! K36Q8: sets of texts: comprehension, sorted; an exception may be in hand -/
namespace K36
open PySem PySem.Spec PyProof.Rows L2 HotX PySem.Froz
/-- the set of the texts l at a; its table can be walked -/
def SXr (P : Program) (w : World) (h : Heap) (a : Addr) (l : List Str) : Prop :=
  ∃ D : SD, h.get? a = some (sObj "set" D) ∧ TxOk P w D l ∧ l.Nodup ∧ Ris D.2.2.place.toList ∧ (w.params.followText "set-order" = true ∨ D.2.2.led = true)
def SX (P : Program) (w : World) (a : Addr) (l : List Str) : HO := .ext fun h => SXr P w h a l
theorem SXr.at {P : Program} {w : World} {h h' : Heap} {a : Addr} {l : List Str} (R : SXr P w h a l) (k : ∀ o, h.get? a = some o → h'.get? a = some o) : SXr P w h' a l := by
  obtain ⟨D, ho, r⟩ := R
  exact ⟨D, k _ ho, r⟩
theorem sx_new {P : Program} {w : World} {H : Hp} {h : Heap} {a : Addr} {l : List Str} (R : SXr P w h a l) : ObjOk P w H h a (SX P w a l) := by
  have ⟨_, ho, _⟩ := R
  exact ⟨R, ⟨_, ho⟩, fun _ _ p k => SXr.at p k⟩
/-! ### the table of a text more -/
theorem tail_ris {ep : Nat} {es1 : Array (Int × Value)} {t2 : SetTable} {wd : Bool} (r : Ris t2.place.toList) : Ris (tailTx ep es1 t2 wd).2.2.place.toList := by
  unfold tailTx
  by_cases c : (!wd && t2.tooFull) = true
  · rw [if_pos c]; exact relayAll_ris _ _ _
  · rw [if_neg c]; exact r
theorem tail_led {ep : Nat} {es1 : Array (Int × Value)} {t2 : SetTable} {wd : Bool} : (tailTx ep es1 t2 wd).2.2.led = t2.led := by
  unfold tailTx
  by_cases c : (!wd && t2.tooFull) = true
  · rw [if_pos c]; exact relayAll_led _ _ _
  · rw [if_neg c]
theorem addTx_ris {D : SD} {x : Int} {v : Value} (r : Ris D.2.2.place.toList) : Ris (addTx x v D).2.2.place.toList := by
  have r1 := layNew_ris D.2.2 D.1 x v r
  refine tail_ris ?_
  by_cases c : (layNew D.2.2 D.1 x v).2.1.plain = true
  · rw [if_pos c]; exact r1
  · rw [if_neg c]; exact r1
theorem addTx_led {D : SD} {x : Int} {v : Value} : (addTx x v D).2.2.led = D.2.2.led := by
  have r1 := layNew_led D.2.2 D.1 x v
  refine tail_led.trans ?_
  by_cases c : (layNew D.2.2 D.1 x v).2.1.plain = true
  · rw [if_pos c]; exact r1
  · rw [if_neg c]; exact r1
def insS (k : Str) (l : List Str) : List Str := if k ∈ l then l else k :: l
section
variable {P : Program} {w : World} {A : Around} {E : Value → Shared → Prop} {s : Shared} {a : Addr} {l : List Str}
theorem sx_hashed {k : Str} {u : Tok} {Q : Bool → Shared → Prop} (R : SXr P w s.heap a l) (room : l.length + 1 < scanBound)
    (hQ : ∀ b h', Heap.SameBut a s.heap h' → SXr P w h' a (insS k l) → Q b { s with heap := h' }) : wpAny (model P w) A (setAddHashed a (.str k u) (hashStr w k)) Q E s := by
  obtain ⟨D, ho, F, nd, r, led⟩ := R
  by_cases hk : k ∈ l
  · have h1 := hQ false s.heap (Heap.SameBut.refl a s.heap) (by unfold insS; rw [if_pos hk]; exact ⟨D, ho, F, nd, r, led⟩)
    have hkey : (PySem.strKind P w).is k (.str k u) = true := is_str k u
    obtain ⟨es, ep, t⟩ := D
    have hsz : es.size < scanBound := by have : es.size = l.length := F.sz; omega
    obtain ⟨e, he, hi⟩ := (F.mem k).mp hk
    have fi : ∃ j, List.findIdx? (fun e => (PySem.strKind P w).is k e.2) es.toList = some j := by
      cases q : List.findIdx? (fun e => (PySem.strKind P w).is k e.2) es.toList with
      | some j => exact ⟨j, rfl⟩
      | none =>
        have z := List.findIdx?_eq_none_iff.mp q e he
        rw [hi] at z
        cases z
    obtain ⟨j, fi⟩ := fi
    unfold setAddHashed setAddHashedIn
    refine wpAny_holding (wpAny_bind (wpAny_setState_of ho rfl F.fit ?_))
    dsimp only
    rw [byScan_of rfl hsz F.el, if_pos rfl]
    unfold setAddByScan
    refine wpAny_bind (wpAny_bind (wpAny_rule (wpAny_bind (wpAny_setScan_of (knd := PySem.strKind P w) hkey ho rfl F.fit F.el ?_))))
    rw [fi]
    exact wpAny_pure (wpAny_pure h1)
  · refine add_x ho F hk room (hQ true _ (Heap.SameBut.update _ a _) ?_)
    unfold insS
    rw [if_neg hk]
    exact ⟨_, Heap.get?_update_self _ ho rfl, add_ok u F, List.nodup_cons.mpr ⟨hk, nd⟩, addTx_ris r, by rw [addTx_led]; exact led⟩
theorem sx_add {k : Str} {u : Tok} {Q : Value → Shared → Prop} (R : SXr P w s.heap a l) (room : l.length + 1 < scanBound)
    (hQ : ∀ h', Heap.SameBut a s.heap h' → SXr P w h' a (insS k l) → Q .none { s with heap := h', toks := s.toks + 1 }) : wpAny (model P w) A (call (.builtin "set.add") [.ref a, .str k u]) Q E s := by
  have hT : s.TypeIs (.ref a) "set" := let ⟨_, ho, _⟩ := R; ⟨_, ho, rfl⟩
  refine wpAny_call_entry F.slot_set_add hT F.entry_set_add ?_ (F.args_set_add_2 _ _)
  unfold Builtin.«set.add» Builtin.Frozenset.oneOther
  simp only [List.isEmpty_nil, bind_assoc]
  unfold Builtin.Frozenset.addrOf setAdd
  refine wpAny_bind (wpAny_pure ?_)
  try dsimp only
  refine wpAny_bind (wpAny_pure ?_)
  try dsimp only
  refine wpAny_bind (wpAny_holding (wpAny_bind ((PySem.strKind P w).pyHash (is_str k u) ?_)))
  refine sx_hashed (s := { s with toks := s.toks + 1 }) R room fun b h' sb r => ?_
  show wpAny _ _ (ret Value.none) _ _ _
  exact wpAny_pure ⟨_, rfl, hQ h' sb r⟩
end
theorem addX_ok {X : Cx} {pins : Pn} {σ : St} {H : Hp} {s : Shared} {E : Value → Shared → Prop} {D : Addr} {l : List Str} {y : Str} {u : Tok} {Q : Value → Shared → Prop} (I : Inv X pins σ H s) (hD : H D = some (SX X.prog X.w D l)) (room : l.length + 1 < scanBound)
    (h : ∀ s', Inv X pins σ (upd H D (SX X.prog X.w D (insS y l))) s' → Q .none s') : wpAny (model X.prog X.w) X.A (call (.builtin "set.add") [.ref D, .str y u]) Q E s := by
  have R : SXr X.prog X.w s.heap D l := (I.hok D _ hD).1
  refine sx_add R room fun h' sb new => ?_
  have he : ∃ o, h'.get? D = some o := let ⟨_, ho, _⟩ := new; ⟨_, ho⟩
  exact h _ (I.write (e := D) (t' := s.toks + 1) (by rw [hD]; trivial) (.inl rfl) (fun b o hb hu => (sb.2 b hb).trans hu) he (sx_new new))
/-! ### {elt for tg in iter if ..}, elt a text -/
def tSx (P : Program) (w : World) (wi : TI) (g : TG) (tt : TT) (te : TE) (vs : List Nat) : TE := fun σ H Q => wi σ H fun J H1 => ∀ D, H1 D = none → ∃ W : Nat → Nat → Hp → Prop, (∃ m, W 0 m (upd H1 D (SX P w D []))) ∧ ∀ i m H, W i m H →
  (J.stop i H ∧ Q (.ref D) H) ∨ (J.go i H ∧ ∃ Nx : Hp → Prop, (∀ H', Nx H' → ∃ m', m' < m ∧ W (i + 1) m' H') ∧ ∀ x H', J.yld i H x H' → g x (wipe σ vs) H' fun σ2 H2 => wipe σ2 vs = wipe σ vs ∧ tt σ2 H2 fun b H3 =>
    if b = true then te σ2 H3 fun y H4 => ∃ (k : Str) (l : List Str), y = .str k ∧ H4 D = some (SX P w D l) ∧ l.length + 1 < scanBound ∧ Nx (upd H4 D (SX P w D (insS k l))) else Nx H3)
section
variable {X : Cx}
theorem pe_sxQ {elt tg iter : Expr} {ifs : List Expr} {scope : Scope} {own : List (Str × Nat)} {pos : Pos} {wi : TI} {g : TG} {tt : TT} {te : TE} (hq : Quiet X) (hN : X.N.Nodup) (hi : PIQ X tg iter wi) (ok : BlkOk X.N X.env.scope scope own)
    (hg : ∀ (s : Shared) (H : Hp) (fp : List Addr) (l : Pn), Quiet (blkQ X s H scope (ceOf X s scope) fp l fun _ _ => False) → PG (blkQ X s H scope (ceOf X s scope) fp l fun _ _ => False) tg g)
    (ht : ∀ (s : Shared) (H : Hp) (fp : List Addr) (l : Pn), Quiet (blkQ X s H scope (ceOf X s scope) fp l fun _ _ => False) → PTs (blkQ X s H scope (ceOf X s scope) fp l fun _ _ => False) ifs tt)
    (he : ∀ (s : Shared) (H : Hp) (fp : List Addr) (l : Pn), Quiet (blkQ X s H scope (ceOf X s scope) fp l fun _ _ => False) → PE (blkQ X s H scope (ceOf X s scope) fp l fun _ _ => False) elt te)
    (hs : ∀ x, foldedSetIterable iter X.env x = pure x := by intro _; rfl) : PE X (.SetComp elt [⟨tg, iter, ifs, 0⟩] scope pos) (tSx X.prog X.w wi g tt te (own.map (·.2))) := by
  refine ⟨fun pins s σ H Q I h => ?_⟩
  obtain ⟨l, qa, hl, hcm⟩ := hq
  rw [PpSet.eval_SetComp]
  have hfree : ∀ y ∈ scope.names, y.2 = .free → ∃ c, X.env.cells.lookup y.1 = some c := fun y hy e => (ok.free y hy e).elim (fun k => I.ok.has _ (.inl k)) fun k => I.ok.has _ (.inr k)
  show wpAny _ _ (comprehension (.SetComp elt [⟨tg, iter, ifs, 0⟩] scope pos) scope X.env (firstIterPos [⟨tg, iter, ifs, 0⟩] pos) (newSet (.type "set")) false (eval iter X.env) none) _ _ s
  refine comprehension_at (use := none) rfl hs (closure_ok hfree) ok.kind (fun y hy e => by rw [ok.uniq y hy, e]) (thn (hi.run pins s σ H _ I h) fun xv s1 hx => thn hx fun itv s2 z2 => ?_)
  obtain ⟨it, fp, tn, J, H2, rfl, I2, T, st2, f2, q⟩ := z2
  refine PpSet.newSet_ok (newEnv_comp ?_)
  generalize hD : s2.heap.objs.size = D
  have hDn : H2 D = none := I2.hok.fresh (Nat.le_of_eq hD)
  obtain ⟨W, ⟨m0, w0⟩, turn⟩ := q D hDn
  generalize hs3 : ({ s2 with heap := s2.heap.push { cls := .type "set", dict := none, data := .set #[] 0 (.fresh 0 0 (!X.w.params.followText "set-order")) } } : Shared) = s3
  have h3 : s3.heap = s2.heap.push { cls := .type "set", dict := none, data := .set #[] 0 (.fresh 0 0 (!X.w.params.followText "set-order")) } := by rw [← hs3]
  have I3 : Inv X pins σ (upd H2 D (SX X.prog X.w D [])) s3 := by
    rw [← hs3]
    refine I2.laid (t' := s2.toks) (fun b o e => Heap.get?_push_of_some _ e) (Nat.le_of_eq hD) (sx_new ?_)
    rw [← hD]
    refine ⟨(#[], 0, .fresh 0 0 (!X.w.params.followText "set-order")), Heap.get?_push_size _ rfl, TxOk.nil (by rfl), List.nodup_nil, List.Pairwise.nil, ?_⟩
    show _ ∨ (!X.w.params.followText "set-order") = true
    cases X.w.params.followText "set-order"
    · exact .inr rfl
    · exact .inl rfl
  have f3 : ∀ b ∈ fp, FpOk X pins (upd H2 D (SX X.prog X.w D [])) b ∧ b < s3.heap.objs.size := fun b hb => by
    obtain ⟨o, e, _⟩ := T.obj _ _ st2 b hb
    have hlt := Heap.lt_size e
    refine ⟨⟨?_, (f2 b hb).2⟩, by rw [h3, Heap.size_push]; exact Nat.lt_succ_of_lt hlt⟩
    rw [upd_ne (by rw [← hD]; exact Nat.ne_of_lt hlt)]
    exact (f2 b hb).1
  have st3 : tn 0 s3.heap := T.keep _ _ _ st2 fun b _ o e => by rw [h3]; exact Heap.get?_push_of_some _ e
  have I4 := block_startQ (E := fun _ _ => False) I3 ok hN f3 hl hcm
  generalize hH3 : upd H2 D (SX X.prog X.w D []) = H3 at I3 I4 w0 f3
  have qb : Quiet (blkQ X s3 H3 scope (ceOf X s3 scope) fp l fun _ _ => False) := ⟨l, qa, fun _ z => z, rfl⟩
  have pg := hg s3 H3 fp l qb
  have pt := ht s3 H3 fp l qb
  have pe := he s3 H3 fp l qb
  show codeAny _ _ (.compStart (.SetComp elt [⟨tg, iter, ifs, 0⟩] scope pos) 0 (.ref it) (.ref D) (ceOf X s3 scope)) (compEnds (model X.prog X.w) X.A X.xe none (EP X pins σ Q) (.ref D) (ceOf X s3 scope)) { s3 with heap := pushCells (s3.heap.push { cls := .type "dict", data := .dict #[] }) scope.names }
  have cL : (ceOf X s3 scope).locals = s3.heap.objs.size := rfl
  generalize ceOf X s3 scope = ce at I4 qb pg pt pe cL ⊢
  generalize hs4 : ({ s3 with heap := pushCells (s3.heap.push { cls := .type "dict", data := .dict #[] }) scope.names } : Shared) = s4 at I4 ⊢
  have st4 : tn 0 s4.heap := T.keep _ _ _ st3 fun b _ o e => by rw [← hs4]; exact pushCells_keeps _ _ _ _ (Heap.get?_push_of_some _ e)
  generalize hB : blkQ X s3 H3 scope ce fp l (fun _ _ => False) = B at I4 qb pg pt pe
  have stat : ∀ {σ' : L2.St} {H' : Hp} {s' : Shared}, Inv B [] σ' H' s' → (∀ b ∈ fp, H' b = none) → ∀ b ∈ fp, FpOk B [] H' b := fun {σ' H' s'} I' hn b hb => by
    subst hB
    exact ⟨hn b hb, (I'.ok.exf b hb).1, I'.ok.exfs b hb, .inl hb, fun x c e => (I'.ok.exf b hb).2 x c e, fun p hp => (f3 b hb).1.2.2.2.2.2 p (List.mem_append_left _ (hl p (by simpa using hp)))⟩
  have ws : ∀ {α : Type} {t : Sem α} {Q1 Q2 : α → Shared → Prop} {s' : Shared}, wpAny (model X.prog X.w) X.A t Q1 (fun _ _ => False) s' → (∀ a s, Q1 a s → Q2 a s) →
      wpAny (model X.prog X.w) X.A t Q2 (notedBy (model X.prog X.w) X.A ce fun e s' => compEnds (model X.prog X.w) X.A X.xe none (EP X pins σ Q) (.ref D) ce (.error e) s') s' := fun z k => wpAny_mono z k fun u s' e => e.elim
  have bp : B.prog = X.prog := by subst hB; rfl
  have bw : B.w = X.w := by subst hB; rfl
  have bK : B.K = X.K := by subst hB; rfl
  have bA : B.A = X.A := by subst hB; rfl
  have bx : B.xe = fun _ _ => False := by subst hB; rfl
  have bl : B.env.locals = ce.locals := by subst hB; rfl
  have loop : codeAny (model X.prog X.w) X.A (.compLoop (.SetComp elt [⟨tg, iter, ifs, 0⟩] scope pos) 0 (.ref it) (.ref D) ce) (compEnds (model X.prog X.w) X.A X.xe none (EP X pins σ Q) (.ref D) ce) s4 := by
    refine PpSet.compLoopS_any (fun n s' => ∃ i H', Inv B [] (wipe σ (own.map (·.2))) H' s' ∧ tn i s'.heap ∧ (∀ b ∈ fp, H' b = none) ∧ W i n H') ?_ m0 ⟨0, H3, I4, st4, fun b hb => (f3 b hb).1.1, w0⟩
    rintro n s5 ⟨i, H5, I5, st5, n5, w5⟩
    rcases turn i n H5 w5 with ⟨stop, qq⟩ | ⟨go, Nx, hNx, step⟩
    · have td := T.done B bp bw bK qb i [] s5 _ H5 (fun _ _ => False) I5 (stat I5 n5) st5 stop
      rw [bA] at td
      refine ws td fun r s6 ⟨hr, I6⟩ => ?_
      subst hr
      have nC : H5 s3.heap.objs.size = none := by
        have z : H5 B.env.locals = none := I6.free
        rw [bl, cL] at z
        exact z
      have fC : FpOk X pins H5 s3.heap.objs.size := I3.fpOk (Nat.le_refl _) nC
      subst hB
      have I7 : Inv X pins σ H5 s6 := I3.call' (ch := fp) I6.os I6.base I6.hok I6.bare fun b hb => ⟨(f3 b hb).1.2.2.2.1, (f3 b hb).1.2.1, (f3 b hb).1.2.2.2.2.1, (f3 b hb).1.2.2.2.2.2⟩
      obtain ⟨m, hn, _⟩ := I6.loc
      have hn : s6.heap.Ns ce.locals m := hn
      rw [cL] at hn
      exact lc_endV cL I7 qq hn fC
    · have ti := T.item B bp bw bK i [] s5 _ H5 (fun _ _ => False) I5 (stat I5 n5) st5 go
      rw [bA] at ti
      refine ws ti fun r s6 ⟨u, hr, h6⟩ => ?_
      subst hr
      refine ws h6 fun _ s7 ⟨x, H7, I7, r7, y7, st7, n7⟩ => ?_
      have ob := T.obj _ _ st7
      have pr := pg.run _ s7 _ H7 x u _ (I7.pinned (stat I7 n7) ob) r7 (step x H7 y7)
      subst hB
      refine ws pr fun _ s8 ⟨σ8, H8, I8, hw8, q8⟩ => ?_
      refine ws (pt.run _ s8 σ8 H8 _ I8 q8) fun b s9 ⟨H9, I9, q9⟩ => ?_
      have fin : ∀ {s' : Shared} {H' : Hp}, Inv (blkQ X s3 H3 scope ce fp l fun _ _ => False) ([] ++ pinsAt fp s7.heap) σ8 H' s' → Nx H' → ∃ m, m < n ∧ ∃ i H', Inv (blkQ X s3 H3 scope ce fp l fun _ _ => False) [] (wipe σ (own.map (·.2))) H' s' ∧ tn i s'.heap ∧ (∀ b ∈ fp, H' b = none) ∧ W i m H' := fun {s' H'} I' nx => by
        obtain ⟨m', hm, w'⟩ := hNx H' nx
        have pp : ∀ b ∈ fp, ∀ o, s7.heap.get? b = some o → s'.heap.get? b = some o ∧ H' b = none := fun b hb o e =>
          let z := I'.pin (b, o) (List.mem_append_right _ (List.mem_append_right _ (mem_pinsAt hb e)))
          ⟨z.1, z.2.1⟩
        have hlen : (wipe σ (own.map (·.2))).length = σ8.length := by rw [← hw8, wipe_length]
        refine ⟨m', hm, i + 1, H', (I'.unpinned (pins := [])).weak hlen (fun j v e => ?_), T.keep _ _ _ st7 fun b hb o e => (pp b hb o e).1, fun b hb => ?_, w'⟩
        · rw [← hw8] at e
          exact (wipe_some e).1
        · obtain ⟨o, e, _⟩ := ob b hb
          exact (pp b hb o e).2
      cases b with
      | false =>
        simp only [Bool.false_eq_true, if_false] at q9 ⊢
        exact fin I9 q9
      | true =>
        simp only [if_true] at q9 ⊢
        refine ws (pe.run _ s9 σ8 H9 _ I9 q9) fun z s10 ⟨yv, H10, I10, r10, k, l0, ey, hD10, hz10, nx⟩ => ?_
        subst ey
        obtain ⟨tk, rfl⟩ := r10
        exact addX_ok (X := blkQ X s3 H3 scope ce fp l fun _ _ => False) I10 hD10 hz10 fun s11 I11 => fin I11 nx
  have ts := T.self X.A 0 s4 (fun it' s' => codeAny (model X.prog X.w) X.A (.compLoop (.SetComp elt [⟨tg, iter, ifs, 0⟩] scope pos) 0 it' (.ref D) ce) (compEnds (model X.prog X.w) X.A X.xe none (EP X pins σ Q) (.ref D) ce) s') (notedBy (model X.prog X.w) X.A ce fun e s' => compEnds (model X.prog X.w) X.A X.xe none (EP X pins σ Q) (.ref D) ce (.error e) s') st4 loop
  exact PpSet.codeAny_compStart_set loop ts
end
/-- over a list that the block leaves as it is -/
theorem sx_list {P : Program} {w : World} {K : PySem.W.Frag} {a : Addr} {xs : List V} {g : TG} {tt : TT} {te : TE} {vs : List Nat} {σ : L2.St} {H1 : Hp} {D : Addr} {Qd : Hp → Prop} (Pv : Nat → Hp → Prop) (h0 : Pv 0 (upd H1 D (SX P w D []))) (hl : ∀ i H, i ≤ xs.length → Pv i H → SqL K H a xs)
    (hs : ∀ i x H, xs[i]? = some x → Pv i H → g x (wipe σ vs) H fun σ2 H2 => wipe σ2 vs = wipe σ vs ∧ tt σ2 H2 fun b H3 =>
      if b = true then te σ2 H3 fun y H4 => ∃ (k : Str) (l : List Str), y = .str k ∧ H4 D = some (SX P w D l) ∧ l.length + 1 < scanBound ∧ Pv (i + 1) (upd H4 D (SX P w D (insS k l))) else Pv (i + 1) H3) (hd : ∀ H, Pv xs.length H → Qd H) :
    ∃ W : Nat → Nat → Hp → Prop, (∃ m, W 0 m (upd H1 D (SX P w D []))) ∧ ∀ i m H, W i m H →
      ((Itl K a).stop i H ∧ Qd H) ∨ ((Itl K a).go i H ∧ ∃ Nx : Hp → Prop, (∀ H', Nx H' → ∃ m', m' < m ∧ W (i + 1) m' H') ∧ ∀ x H', (Itl K a).yld i H x H' → g x (wipe σ vs) H' fun σ2 H2 => wipe σ2 vs = wipe σ vs ∧ tt σ2 H2 fun b H3 =>
        if b = true then te σ2 H3 fun y H4 => ∃ (k : Str) (l : List Str), y = .str k ∧ H4 D = some (SX P w D l) ∧ l.length + 1 < scanBound ∧ Nx (upd H4 D (SX P w D (insS k l))) else Nx H3) := by
  refine ⟨fun i m H => m = xs.length - i ∧ i ≤ xs.length ∧ Pv i H, ⟨xs.length, by simp, Nat.zero_le _, h0⟩, ?_⟩
  rintro i m H ⟨rfl, hi, p⟩
  have q := hl i H hi p
  by_cases hlt : i < xs.length
  · refine .inr ⟨⟨xs, xs[i], q, by simp [hlt]⟩, Pv (i + 1), fun H' p' => ⟨xs.length - (i + 1), by omega, rfl, hlt, p'⟩, fun x H' y => ?_⟩
    obtain ⟨e, y⟩ := y
    subst e
    exact hs i x _ (y xs q) p
  · have e : i = xs.length := by omega
    subst e
    exact .inl ⟨⟨xs, q, Nat.le_refl _⟩, hd H p⟩
end K36
/-! K36Q9: sorted of a set of texts; an exception may be in hand -/
namespace K36
open PySem PySem.Spec PyProof.Rows L2 HotX PySem.Froz
section
variable {P : Program} {w : World} {A : Around} {E : Value → Shared → Prop} {s : Shared} {a it : Addr} {es : Array (Int × Value)} {ep : Nat} {t : SetTable} {i sl : Nat} {l : Pn}
/-- at the end of a walk the iterator lets the set go, then StopIteration -/
theorem setEndQ {Q : Option Value → Shared → Prop} (qa : QA A l) (pin : PinIn l s.heap) (np : it ∉ l.map (·.1)) (hit : IsSI s.heap it (.int (sl : Int) 0) i a es.size ep) (ha : SetAt s.heap a es ep t) (hf : t.fits es.size = true)
    (hN : ∀ (A' : Around) (E' : Value → Shared → Prop) (Q' : Option (Value × Nat) → Shared → Prop), Q' none s → wpAny (model P w) A' (setNext a sl i ep) Q' E' s)
    (hQ : ∀ h', Heap.ExtBut it s.heap h' → Q none { s with heap := h' }) : wpAny (model P w) A (pyNext (.ref it)) Q E s := by
  obtain ⟨o, ho, hc, hd⟩ := id hit
  obtain ⟨oa, hoa, _, hda⟩ := id ha
  unfold pyNext
  refine wpAny_bind (wpAny_attempt (wpAny_callSpecial?_slot (name := Str.ofString "__next__") hit.typeIs slot_si_next (wpAny_call_entry slot_si_next hit.typeIs entry_si_next ?_ (args_si_next _))))
  unfold Builtin.«set_iterator.__next__»
  refine wpAny_bind (m := slotArgs "__next__" 0 _) (wpAny_pure (wpAny_bind (wpAny_fieldsOf ho hd ?_)))
  show wpAny _ _ (setEntries a >>= _) _ _ s
  refine wpAny_bind (wpAny_setEntries_of hoa hda hf (wp_if_neg (by simp) ?_))
  try refine wpAny_bind (wpAny_pure ?_)
  show wpAny _ _ (setNext a sl i ep >>= _) _ _ s
  refine wpAny_bind (hN _ _ _ ?_)
  show wpAny _ _ (setField (.ref it) 2 .none >>= _) _ _ s
  refine wpAny_bind (wpAny_setField ho hd (by simp) ?_)
  exact wpAny_mono (stopQ (s := s) (it := it) (Q := Q) (E := E) qa (pin.upd np) (fun b ob hb e => upd_old hb e) hQ) (fun _ _ z => z.elim) fun _ _ z => z
theorem setEndDrawnQ {p : Addr} {ys : List Nat} {Q : Option Value → Shared → Prop} (qa : QA A l) (pin : PinIn l s.heap) (np : it ∉ l.map (·.1)) (hit : IsSI s.heap it (.ref p) i a es.size ep) (ha : SetAt s.heap a es ep t) (hf : t.fits es.size = true)
    (hp : s.heap.get? p = some { cls := .type "tuple", data := .seq (ys.map fun (k : Nat) => rawInt (k : Int)).toArray }) (hj : ys[i]? = none)
    (hQ : ∀ h', Heap.ExtBut it s.heap h' → Q none { s with heap := h' }) : wpAny (model P w) A (pyNext (.ref it)) Q E s := by
  obtain ⟨o, ho, hc, hd⟩ := id hit
  obtain ⟨oa, hoa, _, hda⟩ := id ha
  unfold pyNext
  refine wpAny_bind (wpAny_attempt (wpAny_callSpecial?_slot (name := Str.ofString "__next__") hit.typeIs slot_si_next (wpAny_call_entry slot_si_next hit.typeIs entry_si_next ?_ (args_si_next _))))
  unfold Builtin.«set_iterator.__next__»
  refine wpAny_bind (m := slotArgs "__next__" 0 _) (wpAny_pure (wpAny_bind (wpAny_fieldsOf ho hd ?_)))
  show wpAny _ _ (setEntries a >>= _) _ _ s
  refine wpAny_bind (wpAny_setEntries_of hoa hda hf (wp_if_neg (by simp) ?_))
  try refine wpAny_bind (wpAny_pure ?_)
  show wpAny _ _ (seqItems? (.ref p) >>= _) _ _ s
  refine wpAny_bind (wpAny_seqItems hp rfl ?_)
  have hij : (ys.map fun (k : Nat) => rawInt (k : Int)).toArray[(Int.toNat (i : Int))]? = none := by simp [hj]
  dsimp only
  rw [hij]
  show wpAny _ _ (setField (.ref it) 0 (rawInt 0) >>= _) _ _ s
  refine wpAny_bind (wpAny_setField ho hd (by simp) ?_)
  have ho1 := Heap.get?_update_self (Obj.mapFields (·.setIfInBounds 0 (rawInt 0))) ho (Obj.isFreed_of_fields (Obj.data_mapFields hd _))
  have hd1 := Obj.data_mapFields hd (·.setIfInBounds 0 (rawInt 0))
  show wpAny _ _ (setField (.ref it) 2 .none >>= _) _ _ _
  refine wpAny_bind (wpAny_setField ho1 hd1 (by simp) ?_)
  exact wpAny_mono (stopQ (s := s) (it := it) (Q := Q) (E := E) qa ((pin.upd np).upd np) (fun b ob hb e => upd_old hb (upd_old hb e)) hQ) (fun _ _ z => z.elim) fun _ _ z => z
end
/-! ### the walks, the pins among what they read -/
section
variable {P : Program} {w : World} {A : Around} {a I : Addr} {es : Array (Int × Value)} {ep : Nat} {t : SetTable} {l : Pn}
theorem pin_keep {h h' : Heap} {fp : List Addr} (x : PinIn l h) (k : ∀ b ∈ fp ++ l.map (·.1), ∀ o, h.get? b = some o → h'.get? b = some o) : PinIn l h' := fun p hp => k _ (List.mem_append_right _ (List.mem_map_of_mem hp)) _ (x p hp)
theorem pin_but {h h' : Heap} (x : PinIn l h) (np : I ∉ l.map (·.1)) (k : Heap.SameBut I h h') : PinIn l h' := fun p hp => k.extBut p.1 p.2 (fun z => np (z ▸ List.mem_map_of_mem hp)) (x p hp)
theorem walkTextQ (qa : QA A l) (np : I ∉ l.map (·.1)) (hne : a ≠ I) (hf : t.fits es.size = true) (hbt : w.params.followText "set-order" = true) :
    Walks P w A I ([I, a] ++ l.map (·.1)) [I] (pickOrder (w.params.setOrder a ep) es).size (fun j v => ((pickOrder (w.params.setOrder a ep) es)[j]?).map (·.2) = some v)
      (fun i h => IsSI h I (.int ((0 : Nat) : Int) 0) i a es.size ep ∧ SetAt h a es ep t ∧ PinIn l h) where
  sub := fun b hb => by simp at hb; simp [hb]
  frame := fun _ _ _ st hk => ⟨st.1.at fun o e => hk I (by simp) o e, st.2.1.at fun o e => hk a (by simp) o e, pin_keep st.2.2 hk⟩
  item := fun i s Q E hi st hQ => by
    have e := Array.getElem?_eq_getElem hi
    refine next_item (x := ((pickOrder (w.params.setOrder a ep) es)[i]).2) (nx := 0) st.1 st.2.1 hf (fun A' E' Q' h => setNext_text st.2.1 hf hbt (by rw [e]; exact h)) fun h' hit' hs' => ?_
    exact hQ _ h' s.toks (congrArg (Option.map fun q : Int × Value => q.2) e) ⟨hit', st.2.1.at fun o q => hs'.extBut a o hne q, pin_but st.2.2 np hs'⟩ fun b o hb q => hs'.extBut b o (fun z => hb (by simp [z])) q
  done := fun s Q E st hQ => by
    have e : (pickOrder (w.params.setOrder a ep) es)[(pickOrder (w.params.setOrder a ep) es).size]? = none := Array.getElem?_eq_none (Nat.le_refl _)
    exact setEndQ qa st.2.2 np st.1 st.2.1 hf (fun A' E' Q' h => setNext_text st.2.1 hf hbt (by rw [e]; exact h)) fun h' he' => hQ h' s.toks fun b o hb q => he' b o (fun z => hb (by simp [z])) q
  self := fun _ _ _ _ st hQ => iter_self st.1 hQ
theorem walkLedQ (qa : QA A l) (np : I ∉ l.map (·.1)) (hne : a ≠ I) (hf : t.fits es.size = true) (r : Ris t.place.toList) (hbt : w.params.followText "set-order" = false)
    (hdr : (!t.plain && decide (es.size > 1)) = false) (hl : t.led = true) :
    Walks P w A I ([I, a] ++ l.map (·.1)) [I] es.size (fun j v => (es[j]?).map (·.2) = some v)
      (fun i h => IsSI h I (.int ((slotAt t i : Nat) : Int) 0) i a es.size ep ∧ SetAt h a es ep t ∧ PinIn l h) := by
  have hps : t.place.size = es.size := by
    simp only [SetTable.fits, Bool.and_eq_true, beq_iff_eq] at hf
    exact hf.1
  refine ⟨fun b hb => by simp at hb; simp [hb], fun _ _ _ st hk => ⟨st.1.at fun o e => hk I (by simp) o e, st.2.1.at fun o e => hk a (by simp) o e, pin_keep st.2.2 hk⟩, fun i s Q E hi st hQ => ?_, fun s Q E st hQ => ?_, fun _ _ _ _ st hQ => iter_self st.1 hQ⟩
  · have hip : i < t.place.size := by rw [hps]; exact hi
    have e := Array.getElem?_eq_getElem hi
    have e2 := Array.getElem?_eq_getElem hip
    have hb := below_slotAt r (Nat.le_of_lt hip)
    have hnx : slotAt t (i + 1) = t.place[i] + 1 := by
      show (t.place.toList[i]?.getD 0) + 1 = _
      rw [Array.getElem?_toList, e2] <;> rfl
    refine next_item (x := (es[i]).2) (nx := t.place[i] + 1) st.1 st.2.1 hf (fun A' E' Q' h => setNext_led st.2.1 hf hbt hdr hl (by rw [hb, e, e2]; exact h)) fun h' hit' hs' => ?_
    exact hQ _ h' s.toks (congrArg (Option.map fun q : Int × Value => q.2) e) ⟨by rw [hnx]; exact hit', st.2.1.at fun o q => hs'.extBut a o hne q, pin_but st.2.2 np hs'⟩ fun b o hb q => hs'.extBut b o (fun z => hb (by simp [z])) q
  · have e : es[es.size]? = none := Array.getElem?_eq_none (Nat.le_refl _)
    have e2 : t.place[es.size]? = none := Array.getElem?_eq_none (Nat.le_of_eq hps)
    have hb : SetTable.below t.place (slotAt t es.size) = es.size := below_slotAt r (Nat.le_of_eq hps.symm)
    exact setEndQ qa st.2.2 np st.1 st.2.1 hf (fun A' E' Q' h => setNext_led st.2.1 hf hbt hdr hl (by rw [hb, e, e2]; exact h)) fun h' he' => hQ h' s.toks fun b o hb q => he' b o (fun z => hb (by simp [z])) q
theorem walkDrawnQ {p : Addr} {ys : List Nat} (qa : QA A l) (np : I ∉ l.map (·.1)) (hne : a ≠ I) (hpe : p ≠ I) (hf : t.fits es.size = true) (hy : ∀ j ∈ ys, j < es.size) :
    Walks P w A I ([I, a, p] ++ l.map (·.1)) [I] ys.length (fun j v => (ys[j]?).bind (fun q => (es[q]?).map (·.2)) = some v)
      (fun i h => IsSI h I (.ref p) i a es.size ep ∧ SetAt h a es ep t ∧ h.get? p = some { cls := .type "tuple", data := .seq (ys.map fun (k : Nat) => rawInt (k : Int)).toArray } ∧ PinIn l h) where
  sub := fun b hb => by simp at hb; simp [hb]
  frame := fun _ _ _ st hk => ⟨st.1.at fun o e => hk I (by simp) o e, st.2.1.at fun o e => hk a (by simp) o e, hk p (by simp) _ st.2.2.1, pin_keep st.2.2.2 hk⟩
  item := fun i s Q E hi st hQ => by
    have e := List.getElem?_eq_getElem hi
    have hlt : ys[i] < es.size := hy _ (List.getElem_mem hi)
    have e2 := Array.getElem?_eq_getElem hlt
    refine next_drawn_item st.1 st.2.1 hf st.2.2.1 e e2 fun h' hit' hs' => ?_
    have hpv : (ys[i]?).bind (fun q => (es[q]?).map (·.2)) = some (es[ys[i]]'hlt).2 := by
      rw [e]
      show (es[ys[i]]?).map (·.2) = _
      rw [e2] <;> rfl
    exact hQ _ h' s.toks hpv ⟨hit', st.2.1.at fun o q => hs'.extBut a o hne q, hs'.extBut p _ hpe st.2.2.1, pin_but st.2.2.2 np hs'⟩ fun b o hb q => hs'.extBut b o (fun z => hb (by simp [z])) q
  done := fun s Q E st hQ => by
    have e : ys[ys.length]? = none := List.getElem?_eq_none (Nat.le_refl _)
    exact setEndDrawnQ qa st.2.2.2 np st.1 st.2.1 hf st.2.2.1 e fun h' he' => hQ h' s.toks fun b o hb q => he' b o (fun z => hb (by simp [z])) q
  self := fun _ _ _ _ st hQ => iter_self st.1 hQ
end
section
variable {P : Program} {w : World} {A : Around} {E : Value → Shared → Prop} {s : Shared} {a : Addr} {es : Array (Int × Value)} {ep : Nat} {t : SetTable} {l : Pn}
def SetItQ (P : Program) (w : World) (l : Pn) (s : Shared) (a : Addr) (es : Array (Int × Value)) (s₂ : Shared) (I : Addr) : Prop :=
  ∃ (fp : List Addr) (St : Nat → Heap → Prop) (out : List Value) (Pv : Nat → Value → Prop), (∀ b o, s.heap.get? b = some o → s₂.heap.get? b = some o) ∧ s₂.gens = s.gens ∧ s₂.os = s.os ∧
    s.heap.objs.size ≤ I ∧ (∀ b ∈ fp, b = a ∨ s.heap.objs.size ≤ b ∨ b ∈ l.map (·.1)) ∧ out.Perm (es.toList.map (·.2)) ∧ (∀ A' : Around, QA A' l → Walks P w A' I fp [I] out.length Pv St) ∧
    (∀ j v, Pv j v → out[j]? = some v) ∧ St 0 s₂.heap
theorem SetItQ.of {s₂ : Shared} {I : Addr} {fp : List Addr} {St : Nat → Heap → Prop} {out : List Value} {Pv : Nat → Value → Prop} {n : Nat} (W : ∀ A' : Around, QA A' l → Walks P w A' I fp [I] n Pv St) (hn : out.length = n)
    (k : ∀ b o, s.heap.get? b = some o → s₂.heap.get? b = some o) (g : s₂.gens = s.gens) (ho : s₂.os = s.os) (hI : s.heap.objs.size ≤ I) (hfp : ∀ b ∈ fp, b = a ∨ s.heap.objs.size ≤ b ∨ b ∈ l.map (·.1))
    (hp : out.Perm (es.toList.map (·.2))) (hPv : ∀ j v, Pv j v → out[j]? = some v) (hst : St 0 s₂.heap) : SetItQ P w l s a es s₂ I := by
  subst hn
  exact ⟨fp, St, out, Pv, k, g, ho, hI, hfp, hp, W, hPv, hst⟩
theorem iterSetQ {Q : Value → Shared → Prop} (pin : PinIn l s.heap) (ha : SetAt s.heap a es ep t) (hf : t.fits es.size = true) (hsz : es.size < scanBound) (r : Ris t.place.toList)
    (hl : w.params.followText "set-order" = true ∨ t.led = true) (hQ : ∀ s₂ I, SetItQ P w l s a es s₂ I → Q (.ref I) s₂) : wpAny (model P w) A (pyIter (.ref a)) Q E s := by
  obtain ⟨o, ho, hc, hd⟩ := id ha
  have hT : s.TypeIs (.ref a) "set" := ⟨o, ho, hc⟩
  have hlt : a < s.heap.objs.size := Heap.lt_size ho
  have lo : ∀ b ∈ l.map (·.1), b < s.heap.objs.size := fun b hb => by
    obtain ⟨p, hp, e⟩ := List.mem_map.mp hb
    rw [← e]
    exact Heap.lt_size (pin p hp)
  have npF : ∀ b, s.heap.objs.size ≤ b → b ∉ l.map (·.1) := fun b hb z => absurd (lo b z) (Nat.not_lt_of_le hb)
  refine wpAny_pyIter_slot hT F.slot_set_iter (wpAny_call_entry F.slot_set_iter hT entry_s_iter ?_ (F.args_set_iter_1 _))
  unfold Builtin.«frozenset.__iter__»
  refine wpAny_bind (m := Builtin.Frozenset.slot0 "__iter__" _) (wpAny_of_eq (a := a) (by rfl) ?_)
  refine wpAny_bind (m := Builtin.Frozenset.sizeOf a) ?_
  unfold Builtin.Frozenset.sizeOf
  refine wpAny_bind (wpAny_setEntries_of ho hd hf (wpAny_pure ?_))
  first | refine wpAny_bind (setDrawn_at ha hf ?_) | refine wpAny_bind (wpAny_bind (setDrawn_at ha hf ?_))
  cases hb : w.params.followText "set-order" with
  | true =>
    refine wp_if_neg (by simp) ?_
    first | refine wpAny_bind (wpAny_pure ?_) | refine wpAny_pure ?_
    refine wpAny_bind (wpAny_setEpoch_of ho hd hf ?_)
    refine wpAny_bind (wpAny_newObj_type (wpAny_pure ⟨_, rfl, "set_iterator", _, ⟨_, Heap.get?_push_size _ rfl, rfl⟩, slot_si_next.lookup, ?_⟩))
    have hp := pick_perm (w.params.setOrder a ep) es
    have hlen : ((pickOrder (w.params.setOrder a ep) es).toList.map (·.2)).length = (pickOrder (w.params.setOrder a ep) es).size := by rw [List.length_map, Array.length_toList]
    refine hQ _ _ (SetItQ.of (fun A' qa => walkTextQ (P := P) (ep := ep) qa (npF _ (Nat.le_refl _)) (Nat.ne_of_lt hlt) hf hb) hlen (fun b u e => Heap.get?_push_of_some _ e) rfl rfl (Nat.le_refl _) (fun b hb' => ?_) (hp.map _)
      (fun j v q => ?_) ⟨⟨_, Heap.get?_push_size _ rfl, rfl, rfl⟩, ha.at fun u e => Heap.get?_push_of_some _ e, fun p hp => Heap.get?_push_of_some _ (pin p hp)⟩)
    · rcases List.mem_append.mp hb' with z | z
      · rcases List.mem_cons.mp z with z | z
        · exact .inr (.inl (Nat.le_of_eq z.symm))
        · exact .inl (List.mem_singleton.mp z)
      · exact .inr (.inr z)
    · rw [List.getElem?_map, Array.getElem?_toList]; exact q
  | false =>
    have hled : t.led = true := hl.resolve_left (by rw [hb]; exact Bool.false_ne_true)
    cases hdr : (!t.plain && decide (es.size > 1)) with
    | false =>
      refine wp_if_neg (by simp) ?_
      first | refine wpAny_bind (wpAny_pure ?_) | refine wpAny_pure ?_
      refine wpAny_bind (wpAny_setEpoch_of ho hd hf ?_)
      refine wpAny_bind (wpAny_newObj_type (wpAny_pure ⟨_, rfl, "set_iterator", _, ⟨_, Heap.get?_push_size _ rfl, rfl⟩, slot_si_next.lookup, ?_⟩))
      have hlen : (es.toList.map (·.2)).length = es.size := by rw [List.length_map, Array.length_toList]
      refine hQ _ _ (SetItQ.of (fun A' qa => walkLedQ (P := P) (ep := ep) qa (npF _ (Nat.le_refl _)) (Nat.ne_of_lt hlt) hf r hb hdr hled) hlen (fun b u e => Heap.get?_push_of_some _ e) rfl rfl (Nat.le_refl _) (fun b hb' => ?_) (List.Perm.refl _)
        (fun j v q => ?_) ⟨⟨_, Heap.get?_push_size _ rfl, rfl, rfl⟩, ha.at fun u e => Heap.get?_push_of_some _ e, fun p hp => Heap.get?_push_of_some _ (pin p hp)⟩)
      · rcases List.mem_append.mp hb' with z | z
        · rcases List.mem_cons.mp z with z | z
          · exact .inr (.inl (Nat.le_of_eq z.symm))
          · exact .inl (List.mem_singleton.mp z)
        · exact .inr (.inr z)
      · rw [List.getElem?_map, Array.getElem?_toList]; exact q
    | true =>
      refine wp_if_pos rfl ?_
      refine wpAny_bind (drawOrder_at _ _ _ _ (Nat.le_of_eq List.length_range) fun ys d hp => ?_)
      have hyl : ys.length = es.size := by rw [hp.length_eq, List.length_range]
      have hsl : (ys.map fun (k : Nat) => rawInt (k : Int)).length ≤ sizeLine := by rw [List.length_map, hyl]; exact fits_of_scanBound hsz
      first | refine wpAny_bind (wpAny_newTuple ?_ hsl) | refine wpAny_newTuple ?_ hsl
      have ho2 : (s.heap.push { cls := .type "tuple", data := .seq (ys.map fun (k : Nat) => rawInt (k : Int)).toArray }).get? a = some o := Heap.get?_push_of_some _ ho
      refine wpAny_bind (wpAny_setEpoch_of ho2 hd hf ?_)
      refine wpAny_bind (wpAny_newObj_type (wpAny_pure ⟨_, rfl, "set_iterator", _, ⟨_, Heap.get?_push_size _ rfl, rfl⟩, slot_si_next.lookup, ?_⟩))
      have hsz2 : (s.heap.push { cls := .type "tuple", data := .seq (ys.map fun (k : Nat) => rawInt (k : Int)).toArray }).objs.size = s.heap.objs.size + 1 := size_push' _ _
      have hne : a ≠ (s.heap.push { cls := .type "tuple", data := .seq (ys.map fun (k : Nat) => rawInt (k : Int)).toArray }).objs.size := by rw [hsz2]; exact Nat.ne_of_lt (Nat.lt_succ_of_lt (Heap.lt_size ho))
      have hpe : s.heap.objs.size ≠ (s.heap.push { cls := .type "tuple", data := .seq (ys.map fun (k : Nat) => rawInt (k : Int)).toArray }).objs.size := by rw [hsz2]; omega
      have hys : ∀ j ∈ ys, j < es.size := fun j hj => List.mem_range.mp (hp.mem_iff.mp hj)
      have hlen : (ys.map fun q => ((es[q]?).map (·.2)).getD Value.none).length = ys.length := List.length_map _
      have hpm : (ys.map fun q => ((es[q]?).map (·.2)).getD Value.none).Perm (es.toList.map (·.2)) := by
        rw [← range_map es]
        exact hp.map _
      refine hQ _ _ (SetItQ.of (fun A' qa => walkDrawnQ (P := P) (w := w) (ep := ep) (t := t) qa (npF _ (by rw [hsz2]; exact Nat.le_succ _)) hne hpe hf hys) hlen (fun b u e => Heap.get?_push_of_some _ (Heap.get?_push_of_some _ e)) rfl rfl ?_ (fun b hb' => ?_) hpm
        (fun j v q => ?_) ⟨⟨_, Heap.get?_push_size _ rfl, rfl, rfl⟩, ha.at fun u e => Heap.get?_push_of_some _ (Heap.get?_push_of_some _ e), Heap.get?_push_of_some _ (Heap.get?_push_size _ rfl), fun p hp => Heap.get?_push_of_some _ (Heap.get?_push_of_some _ (pin p hp))⟩)
      · rw [hsz2]; exact Nat.le_succ _
      · rcases List.mem_append.mp hb' with z | z
        · rcases List.mem_cons.mp z with z | z
          · exact .inr (.inl (by rw [z, hsz2]; exact Nat.le_succ _))
          · rcases List.mem_cons.mp z with z | z
            · exact .inl z
            · exact .inr (.inl (Nat.le_of_eq (List.mem_singleton.mp z).symm))
        · exact .inr (.inr z)
      · rw [List.getElem?_map]
        cases hy : ys[j]? with
        | none => rw [hy] at q; cases q
        | some k =>
          rw [hy] at q
          have q' : (es[k]?).map (·.2) = some v := q
          show some (((es[k]?).map (·.2)).getD Value.none) = some v
          rw [q'] <;> rfl
/-- the members, gathered -/
theorem collectSetQ {Q : List Value → Shared → Prop} (qa : QA A l) (pin : PinIn l s.heap) (ha : SetAt s.heap a es ep t) (hf : t.fits es.size = true) (hsz : es.size < scanBound) (r : Ris t.place.toList)
    (hl : w.params.followText "set-order" = true ∨ t.led = true)
    (hQ : ∀ s' out, (∀ b o, s.heap.get? b = some o → s'.heap.get? b = some o) → s.heap.objs.size ≤ s'.heap.objs.size → s'.gens = s.gens → s'.os = s.os → out.Perm (es.toList.map (·.2)) → Q out s') :
    wpAny (model P w) A (collect (.ref a)) Q E s := by
  obtain ⟨o, ho, hc, hd⟩ := id ha
  have hlt : a < s.heap.objs.size := Heap.lt_size ho
  have hSa : s.heap.objs.size ≠ a := Nat.ne_of_gt hlt
  unfold collect
  refine wpAny_bind (wpAny_runValue (codeAny_builtin F.entry_proto_collect ?_))
  rw [Around.under_plainId F.plain_proto_collect _]
  show wpAny _ A.in1 (newList [] >>= fun l => again (.builtin "list.__iadd__" ⟨[l, .ref a], []⟩)) _ _ s
  refine wpAny_bind (wpAny_newObj_type (wpAny_pure ⟨plainId_quiet F.plain_list_iadd _, codeAny_builtin F.entry_list_iadd ?_⟩))
  rw [Around.under_plainId F.plain_list_iadd _]
  have hS : (s.heap.push { cls := .type "list", data := .seq ([] : List Value).toArray }).get? s.heap.objs.size = some { cls := .type "list", data := .seq ([] : List Value).toArray } := Heap.get?_push_size _ rfl
  have ha1 : SetAt (s.heap.push { cls := .type "list", data := .seq ([] : List Value).toArray }) a es ep t := ha.at fun u e => Heap.get?_push_of_some _ e
  have hz1 : (s.heap.push { cls := .type "list", data := .seq ([] : List Value).toArray }).objs.size = s.heap.objs.size + 1 := size_push' _ _
  show wpAny _ A.in1 (Builtin.List.listExtendWith (.ref s.heap.objs.size) (.ref a) (.ref s.heap.objs.size)) _ _ _
  unfold Builtin.List.listExtendWith
  refine wpAny_bind (wpAny_typeOf (T := "set") ⟨o, Heap.get?_push_of_some _ ho, hc⟩ ?_)
  have h1 : Builtin.List.listSameRef (.ref s.heap.objs.size) (.ref a) = false := by simp [Builtin.List.listSameRef, hSa]
  have h2 : (Value.type "set" == Value.type "list") = false := by decide
  have h3 : (Value.type "set" == Value.type "tuple") = false := by decide
  simp only [h1, h2, h3, Bool.or_false, Bool.false_eq_true, if_false]
  refine wpAny_bind (iterSetQ (s := { s with heap := s.heap.push { cls := .type "list", data := .seq ([] : List Value).toArray } }) (l := l) (fun p hp => Heap.get?_push_of_some _ (pin p hp)) ha1 hf hsz r hl fun s₂ I hit => ?_)
  obtain ⟨fp, St, out, Pv, k2, g2, o2, hI, hfp, hp, hW, hPv, hst⟩ := hit
  have hI' : s.heap.objs.size + 1 ≤ I := by rw [← hz1]; exact hI
  have hSf : s.heap.objs.size ∉ fp := fun hm => by
    rcases hfp _ hm with z | z | z
    · exact hSa z
    · have z' : s.heap.objs.size + 1 ≤ s.heap.objs.size := by rw [← hz1]; exact z
      omega
    · obtain ⟨p, hp, e⟩ := List.mem_map.mp z
      have q := Heap.lt_size (pin p hp)
      rw [e] at q
      exact absurd q (Nat.lt_irrefl _)
  have ho2 := k2 a o (Heap.get?_push_of_some _ ho)
  have hT2 : s₂.TypeIs (.ref a) "set" := ⟨o, ho2, hc⟩
  refine wpAny_bind (wpAny_holding ?_)
  unfold Builtin.List.listLengthHint
  refine wpAny_bind (wpAny_specialOf hT2 F.slot_set_len.lookup ?_)
  (generalize hid : ("set.__len__" : String) = id0; (fail_if_success (clear hid id0)); wp_delta; rw [show splitId id0 = some ("set", "__len__") from by subst hid; decide +kernel]; subst hid)
  refine wpAny_bind (wpAny_isInstance (b := true) hT2 sub_set_self ?_)
  show wpAny _ A.in1 (typeOf (.ref a) >>= _) _ _ _
  refine wpAny_bind (wpAny_typeOf hT2 (wpAny_pure ?_))
  show wpAny _ A.in1 (rule "list.extend.makes-room" >>= fun _ => Builtin.List.listTouch (.ref s.heap.objs.size) >>= fun _ =>
    again (.builtin "list.extend.loop" ⟨[.ref s.heap.objs.size, .ref I, .ref s.heap.objs.size], []⟩)) _ _ _
  refine wpAny_bind (wpAny_rule ?_)
  have hS2 := k2 _ _ hS
  refine wpAny_bind ?_
  show wpAny _ A.in1 (updateSeq s.heap.objs.size (·.push .none) >>= fun _ => updateSeq s.heap.objs.size (·.pop)) _ _ _
  refine wpAny_bind (wpAny_updateSeq hS2 rfl ?_)
  have hS3 := Heap.get?_update_self (Obj.mapSeq (·.push Value.none)) hS2 rfl
  refine wpAny_updateSeq hS3 rfl ?_
  have hS4 := Heap.get?_update_self (Obj.mapSeq (·.pop)) hS3 rfl
  have oth : ∀ b u, b ≠ s.heap.objs.size → s₂.heap.get? b = some u → ((s₂.heap.update s.heap.objs.size (Obj.mapSeq (·.push Value.none))).update s.heap.objs.size (Obj.mapSeq (·.pop))).get? b = some u :=
    fun b u hb e => upd_old hb (upd_old hb e)
  have hn : out.length ≤ sizeLine := by
    rw [hp.length_eq, List.length_map, Array.length_toList]
    exact fits_of_scanBound hsz
  have W := hW A.in1 qa.in1
  have hst2 : St 0 ((s₂.heap.update s.heap.objs.size (Obj.mapSeq (·.push Value.none))).update s.heap.objs.size (Obj.mapSeq (·.pop))) :=
    W.frame 0 _ _ hst fun b hb u e => oth b u (fun z => hSf (z ▸ hb)) e
  refine wpAny_pure ⟨plainId_quiet F.plain_extend_loop _, codeAny_extend_loopS W.toS hn _ hSf _ out.length 0 _ _ _ rfl (Nat.zero_le _) hst2 hS4 (ItemsOf.nil Pv) fun s' acc' c' hm hS' hacc => ?_⟩
  show wpAny _ A (load s.heap.objs.size >>= _) _ _ s'
  refine wpAny_bind (wpAny_load hS' (wpAny_pure ?_))
  show Q acc'.toList s'
  rw [items_out hacc hPv]
  refine hQ s' out (fun b u e => ?_) (Nat.le_of_lt (Heap.lt_size hS')) (Eq.trans hm.gens g2) (Eq.trans hm.os o2) hp
  have hbl : b < s.heap.objs.size := Heap.lt_size e
  refine hm.heap b u (fun z => ?_) (oth b u (Nat.ne_of_lt hbl) (k2 b u (Heap.get?_push_of_some _ e)))
  have zz : b = s.heap.objs.size ∨ b = I := by simpa using z
  rcases zz with zz | zz
  · exact absurd hbl (by rw [zz]; exact Nat.lt_irrefl _)
  · exact absurd hbl (by rw [zz]; exact Nat.not_lt_of_le (Nat.le_of_succ_le hI'))
/-! ### sorted -/
theorem nodup_perm : ∀ (xs ys : List Str), xs.Nodup → (∀ x, x ∈ xs → x ∈ ys) → ys.length ≤ xs.length → ys.Perm xs
  | [], ys, _, _, h => by
    have : ys = [] := List.length_eq_zero_iff.mp (Nat.le_zero.mp h)
    subst this
    exact List.Perm.refl _
  | x :: xs, ys, nd, sub, h => by
    obtain ⟨n1, n2⟩ := List.nodup_cons.mp nd
    have hx : x ∈ ys := sub x List.mem_cons_self
    have p := List.perm_cons_erase hx
    refine p.trans ((nodup_perm xs (ys.erase x) n2 (fun y hy => ?_) ?_).cons x)
    · have hne : y ≠ x := fun z => n1 (z ▸ hy)
      exact (List.mem_erase_of_ne hne).mpr (sub y (List.mem_cons_of_mem _ hy))
    · have := List.length_erase_of_mem hx
      simp only [List.length_cons] at h
      omega
theorem strs_of : ∀ (l : List Value), (∀ v ∈ l, ∃ k tk, v = Value.str k tk) → ∃ xs, StrsAre l xs
  | [], _ => ⟨[], .nil⟩
  | v :: l, h => by
    obtain ⟨k, tk, rfl⟩ := h v List.mem_cons_self
    obtain ⟨xs, e⟩ := strs_of l fun u hu => h u (List.mem_cons_of_mem _ hu)
    exact ⟨k :: xs, .cons k tk e⟩
theorem StrsAre.has : ∀ {l : List Value} {xs : List Str}, StrsAre l xs → ∀ k tk, Value.str k tk ∈ l → k ∈ xs
  | _, _, .nil, _, _, h => nomatch h
  | _, _, .cons x t e, k, tk, h => by
    rcases List.mem_cons.mp h with z | z
    · cases z
      exact List.mem_cons_self
    · exact List.mem_cons_of_mem _ (StrsAre.has e k tk z)
theorem sortedSX {xs : List Str} {Q : Value → Shared → Prop} (qa : QA A l) (pin : PinIn l s.heap) (R : SXr P w s.heap a xs) (h64 : xs.length < 64)
    (hQ : ∀ s' p (out : Array Value) (c : Nat) (ys : List Str), (∀ b o, s.heap.get? b = some o → s'.heap.get? b = some o) → s'.gens = s.gens → s'.os = s.os → s.heap.objs.size ≤ p →
      s'.heap.get? p = some (seqObj "list" out c) → StrsAre out.toList ys → ys.Perm xs → sortedS ys = true → Q (.ref p) s') :
    wpAny (model P w) A (call (.builtin "sorted") [.ref a]) Q E s := by
  obtain ⟨⟨es, ep, t⟩, ho, F, nd, r, led⟩ := R
  have hsz : es.size = xs.length := F.sz
  have hb : es.size < scanBound := by rw [hsz]; exact Nat.lt_of_lt_of_le h64 (by decide)
  refine Calls.call_function_entry kind_sorted plain_sorted entry_sorted (args_sorted1 _) ?_
  unfold Builtin.«sorted»
  refine wpAny_bind (m := checkCount "sorted" 1 1 _) (wpAny_pure ?_)
  refine wpAny_bind (collectSetQ (A := A.in1) qa.in1 pin ⟨_, ho, rfl, rfl⟩ F.fit hb r led fun s1 vs k1 hz g1 o1 pm => ?_)
  have hvl : vs.length = xs.length := by rw [pm.length_eq, List.length_map, Array.length_toList]; exact hsz
  have shape : ∀ e ∈ es.toList, ∀ k, (PySem.strKind P w).is k e.2 = true → ∃ tk, e.2 = Value.str k tk := fun e _ k hk => by
    have hk : Value.isStrOf k e.2 = true := hk
    cases q : e.2 with
    | str x tk =>
      rw [q] at hk
      have : x = k := by simpa [Value.isStrOf] using hk
      rw [this]
      exact ⟨tk, rfl⟩
    | _ => rw [q] at hk; simp [Value.isStrOf] at hk
  obtain ⟨zs, hS⟩ := strs_of vs fun v hv => by
    obtain ⟨e, he, q⟩ := List.mem_map.mp (pm.mem_iff.mp hv)
    obtain ⟨⟨k, hk, _⟩, _⟩ := F.el e he
    obtain ⟨tk, q2⟩ := shape e he k hk
    exact ⟨k, tk, by rw [← q]; exact q2⟩
  have zl : zs.length = xs.length := by rw [← hvl]; exact hS.length.symm
  have pz : zs.Perm xs := nodup_perm xs zs nd (fun x hx => by
    obtain ⟨e, he, hk⟩ := (F.mem x).mp hx
    obtain ⟨tk, q2⟩ := shape e he x hk
    refine StrsAre.has hS x tk (pm.mem_iff.mpr ?_)
    rw [← q2]
    exact List.mem_map_of_mem he) (Nat.le_of_eq zl)
  refine wpAny_bind (wpAny_newList ?_ (by rw [hvl, sizeLine_eq]; omega))
  have hoL : (s1.heap.push (seqObj "list" vs.toArray 0)).get? s1.heap.objs.size = some (seqObj "list" vs.toArray 0) := Heap.get?_push_size _ rfl
  refine wpAny_bind (wpAny_holding (wpAny_call_entry slot_list_sort ⟨_, hoL, rfl⟩ entry_list_sort (list_sort_treeK strKind_oneLt hoL hS.keysOf (fun v₁ v₂ rest e => keyKind_strs (by rw [← e]; exact hS)) (by rw [hvl]; exact h64) fun st' hp hs => ⟨_, rfl, ?_⟩) (args_list_sort _)))
  obtain ⟨ys, y1, y2, y3⟩ := sorted_out_str hS hp hs
  obtain ⟨c, hc⟩ := sortedHeap_at (vs := vs) (out := (arrOf st').map (·.2)) hoL
  refine wpAny_pure ⟨_, rfl, hQ _ s1.heap.objs.size _ c ys (fun b u e => ?_) g1 o1 hz hc y1 (y2.trans pz) y3⟩
  have q := k1 b u e
  have hlt := Heap.lt_size q
  show (sortedHeap (s1.heap.push (seqObj "list" vs.toArray 0)) s1.heap.objs.size vs ((arrOf st').map (·.2))).get? b = some u
  rw [sortedHeap_old (Nat.ne_of_lt hlt) (by rw [size_push']; exact Nat.lt_succ_of_lt hlt)]
  exact Heap.get?_push_of_some _ q
end
/-- sorted(a set of texts), fewer than 64 -/
def rSortedX (P : Program) (w : World) : List V → Hp → VK → Prop := fun vs H Q => ∃ (a : Addr) (xs : List Str), vs = [V.ref a] ∧ H a = some (SX P w a xs) ∧ xs.length < 64 ∧
  ∀ (ys : List Str) (p : Addr), ys.Perm xs → sortedS ys = true → ys.Nodup → H p = none → Q (.ref p) (upd H p (.lst (ys.map V.str)))
theorem cr_sortedX {X : Cx} (hq : Quiet X) : CallR X (.builtin "sorted") (rSortedX X.prog X.w) := by
  intro pins s σ H vs us Q I r h
  obtain ⟨a, xs, rfl, ha, h64, q⟩ := h
  have R : SXr X.prog X.w s.heap a xs := (I.hok a _ ha).1
  have nd : xs.Nodup := let ⟨_, _, _, nd, _⟩ := R; nd
  obtain ⟨l, qa, pin, _⟩ := hq.at_ I
  rw [Vals.ref1 r]
  refine sortedSX qa pin R h64 fun s' p out c ys k g o hp hg hi py sy => ?_
  have hlen : (ys.map V.str).length ≤ sizeLine := by rw [List.length_map, py.length_eq, sizeLine_eq]; omega
  have hn : H p = none := I.hok.fresh hp
  have J : Inv X pins σ (upd H p (.lst (ys.map V.str))) { s with heap := s'.heap, gens := s'.gens, drawn := s'.drawn, toks := s'.toks } :=
    I.call (ch := []) (Un.laid k hp hn) (I.hok.laid k hp ⟨hlen, out.toList, c, vals_of_strs hi, hg⟩) (by rw [g]; exact I.bare) (fun _ z => nomatch z)
  have e : s' = { s with heap := s'.heap, gens := s'.gens, drawn := s'.drawn, toks := s'.toks } := by
    cases s'
    cases s
    cases o
    rfl
  rw [e]
  exact ⟨.ref p, _, J, rfl, q ys p py sy (py.nodup_iff.mpr nd) hn⟩
end K36
/-! K36H: promises by the number of arguments, heaps, comprehensions of plain elements -/
namespace K36
open PySem PySem.Spec PyProof.Rows L2 HotX
/-! ### promises -/
abbrev Q0 := Bool → Hp → VK → XK → Prop
abbrev Q1 := Bool → V → Hp → VK → XK → Prop
abbrev Q2 := Bool → V → V → Hp → VK → XK → Prop
abbrev Q3 := Bool → V → V → V → Hp → VK → XK → Prop
abbrev Q4 := Bool → V → V → V → V → Hp → VK → XK → Prop
def Sp0 (p : Q0) : SpQ := fun c vs H Q E => vs = [] ∧ p c H Q E
def Sp1 (p : Q1) : SpQ := fun c vs H Q E => ∃ a, vs = [a] ∧ p c a H Q E
def Sp2 (p : Q2) : SpQ := fun c vs H Q E => ∃ a b, vs = [a, b] ∧ p c a b H Q E
def Sp3 (p : Q3) : SpQ := fun c vs H Q E => ∃ a b d, vs = [a, b, d] ∧ p c a b d H Q E
def Sp4 (p : Q4) : SpQ := fun c vs H Q E => ∃ a b d e, vs = [a, b, d, e] ∧ p c a b d e H Q E
section
variable {P : Program} {w : World} {K : PySem.W.Frag} {mg : Str → Option Value} {base : Heap} {x qual : Str} {params : Arguments} {body : List Stmt} {scope : Scope} {f : Addr} {N : List Str} {k : Nat}
theorem fnQ0 {p : Q0} (F : ∃ fd, FunD K x qual params body scope [] [] f fd) (S : FnScope N [] scope)
    (hb : ∀ (kV doc pm : Value) (an : Option Addr) (cdv ct : Value) (us : List Value), us.length = 0 → bindArgs (PySem.W.fnOf x qual params body scope .none kV doc pm an cdv ct) ⟨us, []⟩ = pure (([] : List Str).zip us))
    (hbody : ∀ (cdv : Value) (A : Around) (outer : List Env) (s : Shared) (H : Hp) (Q : VK) (E : XK) (l : Pn), QA A l → RoomQ k (A.deeper (envOfC qual scope s.heap.objs.size f cdv)) → p l.isEmpty H Q E →
      ∃ t, PSs (cxQ P w K mg base N qual scope f cdv A outer s H E l) body t ∧ t { nx := fun _ H' => Q .non H', rt := Q } (start N []) H) : FnQ P w K mg base (k + 1) f 0 (Sp0 p) := by
  obtain ⟨fd, F⟩ := F
  refine fnQ_of F S hb (fun c vs H Q E h => ?_) fun cdv A outer s H vs Q E l qa hr h => ?_
  · obtain ⟨rfl, _⟩ := h; rfl
  · obtain ⟨rfl, h⟩ := h; exact hbody cdv A outer s H Q E l qa hr h
theorem fnQ1 {p : Q1} {x1 : Str} (F : ∃ fd, FunD K x qual params body scope [] [] f fd) (S : FnScope N [x1] scope)
    (hb : ∀ (kV doc pm : Value) (an : Option Addr) (cdv ct : Value) (us : List Value), us.length = 1 → bindArgs (PySem.W.fnOf x qual params body scope .none kV doc pm an cdv ct) ⟨us, []⟩ = pure ([x1].zip us))
    (hbody : ∀ (cdv : Value) (A : Around) (outer : List Env) (s : Shared) (H : Hp) (a : V) (Q : VK) (E : XK) (l : Pn), QA A l → RoomQ k (A.deeper (envOfC qual scope s.heap.objs.size f cdv)) → p l.isEmpty a H Q E →
      ∃ t, PSs (cxQ P w K mg base N qual scope f cdv A outer s H E l) body t ∧ t { nx := fun _ H' => Q .non H', rt := Q } (start N [a]) H) : FnQ P w K mg base (k + 1) f 1 (Sp1 p) := by
  obtain ⟨fd, F⟩ := F
  refine fnQ_of F S hb (fun c vs H Q E h => ?_) fun cdv A outer s H vs Q E l qa hr h => ?_
  · obtain ⟨_, rfl, _⟩ := h; rfl
  · obtain ⟨a, rfl, h⟩ := h; exact hbody cdv A outer s H a Q E l qa hr h
theorem fnQ2 {p : Q2} {x1 x2 : Str} (F : ∃ fd, FunD K x qual params body scope [] [] f fd) (S : FnScope N [x1, x2] scope)
    (hb : ∀ (kV doc pm : Value) (an : Option Addr) (cdv ct : Value) (us : List Value), us.length = 2 → bindArgs (PySem.W.fnOf x qual params body scope .none kV doc pm an cdv ct) ⟨us, []⟩ = pure ([x1, x2].zip us))
    (hbody : ∀ (cdv : Value) (A : Around) (outer : List Env) (s : Shared) (H : Hp) (a b : V) (Q : VK) (E : XK) (l : Pn), QA A l → RoomQ k (A.deeper (envOfC qual scope s.heap.objs.size f cdv)) → p l.isEmpty a b H Q E →
      ∃ t, PSs (cxQ P w K mg base N qual scope f cdv A outer s H E l) body t ∧ t { nx := fun _ H' => Q .non H', rt := Q } (start N [a, b]) H) : FnQ P w K mg base (k + 1) f 2 (Sp2 p) := by
  obtain ⟨fd, F⟩ := F
  refine fnQ_of F S hb (fun c vs H Q E h => ?_) fun cdv A outer s H vs Q E l qa hr h => ?_
  · obtain ⟨_, _, rfl, _⟩ := h; rfl
  · obtain ⟨a, b, rfl, h⟩ := h; exact hbody cdv A outer s H a b Q E l qa hr h
theorem fnQ3 {p : Q3} {x1 x2 x3 : Str} (F : ∃ fd, FunD K x qual params body scope [] [] f fd) (S : FnScope N [x1, x2, x3] scope)
    (hb : ∀ (kV doc pm : Value) (an : Option Addr) (cdv ct : Value) (us : List Value), us.length = 3 → bindArgs (PySem.W.fnOf x qual params body scope .none kV doc pm an cdv ct) ⟨us, []⟩ = pure ([x1, x2, x3].zip us))
    (hbody : ∀ (cdv : Value) (A : Around) (outer : List Env) (s : Shared) (H : Hp) (a b d : V) (Q : VK) (E : XK) (l : Pn), QA A l → RoomQ k (A.deeper (envOfC qual scope s.heap.objs.size f cdv)) → p l.isEmpty a b d H Q E →
      ∃ t, PSs (cxQ P w K mg base N qual scope f cdv A outer s H E l) body t ∧ t { nx := fun _ H' => Q .non H', rt := Q } (start N [a, b, d]) H) : FnQ P w K mg base (k + 1) f 3 (Sp3 p) := by
  obtain ⟨fd, F⟩ := F
  refine fnQ_of F S hb (fun c vs H Q E h => ?_) fun cdv A outer s H vs Q E l qa hr h => ?_
  · obtain ⟨_, _, _, rfl, _⟩ := h; rfl
  · obtain ⟨a, b, d, rfl, h⟩ := h; exact hbody cdv A outer s H a b d Q E l qa hr h
theorem fnQ4 {p : Q4} {x1 x2 x3 x4 : Str} (F : ∃ fd, FunD K x qual params body scope [] [] f fd) (S : FnScope N [x1, x2, x3, x4] scope)
    (hb : ∀ (kV doc pm : Value) (an : Option Addr) (cdv ct : Value) (us : List Value), us.length = 4 → bindArgs (PySem.W.fnOf x qual params body scope .none kV doc pm an cdv ct) ⟨us, []⟩ = pure ([x1, x2, x3, x4].zip us))
    (hbody : ∀ (cdv : Value) (A : Around) (outer : List Env) (s : Shared) (H : Hp) (a b d e : V) (Q : VK) (E : XK) (l : Pn), QA A l → RoomQ k (A.deeper (envOfC qual scope s.heap.objs.size f cdv)) → p l.isEmpty a b d e H Q E →
      ∃ t, PSs (cxQ P w K mg base N qual scope f cdv A outer s H E l) body t ∧ t { nx := fun _ H' => Q .non H', rt := Q } (start N [a, b, d, e]) H) : FnQ P w K mg base (k + 1) f 4 (Sp4 p) := by
  obtain ⟨fd, F⟩ := F
  refine fnQ_of F S hb (fun c vs H Q E h => ?_) fun cdv A outer s H vs Q E l qa hr h => ?_
  · obtain ⟨_, _, _, _, rfl, _⟩ := h; rfl
  · obtain ⟨a, b, d, e, rfl, h⟩ := h; exact hbody cdv A outer s H a b d e Q E l qa hr h
end
theorem huQ {k : Nat} {A : Around} (r : RoomQ k A) : A.units + 64 < cLine := by have := r.un; omega
theorem huD {k : Nat} {A : Around} (r : RoomQ k A) : A.units + 1 < cLine := by have := r.un; omega
/-! ### the rules whose readings name the written part or tell whether anything is in hand: both by equations, for a comprehension's block -/
section
variable {X : Cx} {K : PySem.W.Frag} {c : Bool}
theorem ix_listK (h : X.K = K := by rfl) : IxR X (rIxL K) := by subst h; exact ix_list
theorem ix_tupK (h : X.K = K := by rfl) : IxR X (rIxT K) := by subst h; exact ix_tup
def rLenS (K : PySem.W.Frag) : List V → Hp → VK → Prop := fun xs H Q => ∃ p ys, xs = [V.ref p] ∧ (SqL K H p ys ∨ SqT K H p ys) ∧ Q (.int ys.length) H
theorem len_seqK (h : X.K = K := by rfl) : CallR X (.builtin "len") (rLenS K) := by subst h; exact call_len_seq
def rListOf (K : PySem.W.Frag) : List V → Hp → VK → Prop := fun xs H Q => ∃ p ys, xs = [V.ref p] ∧ (SqL K H p ys ∨ SqT K H p ys) ∧ ∀ l, H l = none → Q (.ref l) (upd H l (.lst ys))
theorem list_ofK (h : X.K = K := by rfl) : CallR X (.type "list") (rListOf K) := by subst h; exact call_list_of
def rTupOf (K : PySem.W.Frag) : List V → Hp → VK → Prop := fun xs H Q => ∃ p ys, xs = [V.ref p] ∧ ((SqL K H p ys ∧ ∀ l, H l = none → Q (.ref l) (upd H l (.tup ys))) ∨ (SqT K H p ys ∧ Q (.ref p) H))
theorem tuple_ofK (h : X.K = K := by rfl) : CallR X (.type "tuple") (rTupOf K) := by subst h; exact call_tuple_of
def rTupIx (K : PySem.W.Frag) : V → List V → Hp → VK → Prop := fun x xs H Q => ∃ p, ∃ ys : List Str, ∃ z j, x = .ref p ∧ xs = [.str z] ∧ SqT K H p (ys.map V.str) ∧ ys[j]? = some z ∧ (∀ m, m < j → ys[m]? ≠ some z) ∧ Q (.int (j : Nat)) H
theorem tup_indexK (h : X.K = K := by rfl) : MtR X "tuple.index" (rTupIx K) := by subst h; exact mt_tup_index
theorem in_seqK (h : X.K = K := by rfl) : OpR X (compareOp .In) (rIn K false) := by subst h; exact op_in_seq
theorem notIn_seqK (h : X.K = K := by rfl) : OpR X (compareOp .NotIn) (rIn K true) := by subst h; exact op_notIn_seq
theorem anyK (hq : Quiet X) (h : X.K = K := by rfl) : CallR X (.builtin "any") (rAny K) := by subst h; exact cr_anyQ hq
theorem maxK (hq : Quiet X) (h : X.K = K := by rfl) : CallR X (.builtin "max") (rMax K) := by subst h; exact cr_maxQ hq
variable {k n : Nat} {f C : Addr} {sp : SpQ} {E : XK} {x m : Str} {q pos apos cpos : Pos} {e o : Expr} {es : List Expr} {ta to : TE} {t : TA}
theorem pe_fldK (he : PE X e ta) (h : X.K = K := by rfl) (hb : attributeBase e x X.env (eval e X.env) = eval e X.env := by rfl) : PE X (.Attribute e x pos) (tFld K ta x) := by subst h; exact pe_fld he hb
theorem pe_bmK {T name id : String} {r : V → List V → Hp → VK → Prop} (pa : PlainAttrs T) (slot : Slot T name id) (hty : typeOf (.builtin id) = pure (.type "method_descriptor")) (hm : MtR X id r) (ho : PE X o to) (ha : PA X (e :: es) t) (h : X.K = K := by rfl)
    (hbase : attributeBase o name X.env (eval o X.env) = eval o X.env := by rfl)
    (hfew : ((backTo cpos (starEach (e :: es) X.env)).all (fun x => !x.1) && (backToKw cpos (keywordEach [] X.env)).all (fun x => x.1.isSome)
      && decide ((e :: es).length + ([] : List Keyword).length + (if ([] : List Keyword).isEmpty then 0 else 1) < 30)) = true := by rfl)
    (hline : (apos.endLine == cpos.line) = true := by rfl) (hs : starEach (e :: es) X.env = (false, eval e X.env) :: starEach es X.env := by rfl) (hplain : (backTo cpos (starEach es X.env)).any (·.1) = false := by rfl) :
    PE X (.Call (.Attribute o name apos) (e :: es) [] cpos) (tBM K T r to t) := by subst h; exact pe_bm pa slot hty hm ho ha hbase hfew hline hs hplain
theorem pe_nget1K {P : Program} {w : World} {td ty : TE} (hu : X.A.units + 64 < cLine) (ho : PE X o td) (he : PE X e ty) (m : M1 X o "get" apos e cpos) (hp : X.prog = P := by rfl) (hw : X.w = w := by rfl) : PE X (.Call (.Attribute o "get" apos) [e] [] cpos) (tNGet1 P w td ty) := by
  subst hp; subst hw; exact pe_nget1 hu ho he m
theorem piLK {tg l : Expr} {tl : TE} (hl : PE X l tl) (h : X.K = K := by rfl) : PIQ X tg l (iList K tl) := by subst h; exact piL hl
theorem piTK {tg l : Expr} {tl : TE} (hl : PE X l tl) (h : X.K = K := by rfl) : PIQ X tg l (iTup K tl) := by subst h; exact piT hl
theorem pe_callK (F : FnQ X.prog X.w X.K X.mg X.base k f n sp) (hr : RoomQ k X.A) (hq : Quiet X) (hm : X.mg x = some (.ref f)) (hx : PassQ X E) (ha : PA X (e :: es) t) (hc : X.calm = c := by rfl) (hg : Gl X x := by rfl)
    (hdb : (x == ("__debug__" : Str)) = false := by decide) (he : starEach (e :: es) X.env = (false, eval e X.env) :: starEach es X.env := by rfl) (hpl : (backTo pos (starEach es X.env)).any (·.1) = false := by rfl) : PE X (.Call (.Name x q) (e :: es) [] pos) (tCallQ c sp E t) := by
  subst hc; exact pe_callQ F hr hq hm hx ha hg hdb he hpl
theorem pe_methK {pl : Sem Bool} (he : PE X o ta) (cl : Cls X.K C) (hm : Meth X.K C m f) (F : FnQ X.prog X.w X.K X.mg X.base k f n sp) (hr : RoomQ k X.A) (hq : Quiet X) (hx : PassQ X E) (ha : PA X (e :: es) t) (hc : X.calm = c := by rfl)
    (hst : starEach (e :: es) X.env = (false, eval e X.env) :: starEach es X.env := by rfl) (hpl : (backTo pos (starEach es X.env)).any (·.1) = false := by rfl)
    (ht : eval (.Call (.Attribute o m apos) (e :: es) [] pos) X.env = (do let ov ← eval o X.env; standAt apos.atName; let (f, first) ← holding [ov] (getMethod ov m pl); callWith pos f first (backTo pos (starEach (e :: es) X.env)) (backToKw pos (keywordEach [] X.env))) := by rfl) :
    PE X (.Call (.Attribute o m apos) (e :: es) [] pos) (tMethQ c C m sp E ta t) := by
  subst hc; exact pe_methQ he cl hm F hr hq hx ha hst hpl ht
end
/-! ### heaps -/
/-- all stands but what S names; tuples stand -/
structure Fx (S : List Addr) (H H' : Hp) : Prop where
  keep : ∀ b o, H b = some o → b ∉ S → H' b = some o
  tup : ∀ b xs, H b = some (.tup xs) → H' b = some (.tup xs)
theorem same_fx {S : List Addr} {H H' : Hp} (s : L2.Same H H') : Fx S H H' := ⟨fun b o e _ => s b o e, fun b xs e => s b _ e⟩
theorem Fx.same {H H' : Hp} (f : Fx [] H H') : L2.Same H H' := fun b o e => f.keep b o e (by simp)
theorem Fx.trans {S : List Addr} {H H1 H2 : Hp} (f : Fx S H H1) (g : Fx S H1 H2) : Fx S H H2 := ⟨fun b o e n => g.keep b o (f.keep b o e n) n, fun b xs e => g.tup b xs (f.tup b xs e)⟩
theorem Fx.mono {S S' : List Addr} {H H' : Hp} (f : Fx S H H') (h : ∀ b ∈ S, b ∈ S') : Fx S' H H' := ⟨fun b o e n => f.keep b o e fun z => n (h b z), f.tup⟩
/-- what S names is new -/
theorem Fx.new {S : List Addr} {H0 H H' : Hp} (s : L2.Same H0 H) (f : Fx S H H') (n : ∀ b ∈ S, H0 b = none) : L2.Same H0 H' := fun b o e => f.keep b o (s b o e) fun z => by
  rw [n b z] at e
  cases e
theorem same_upd {H : Hp} {p : Addr} {o : HO} (n : H p = none) : L2.Same H (upd H p o) := fun b u e => by rw [upd_ne (ne_of_none e n)]; exact e
theorem same_upd2 {H0 H : Hp} {p : Addr} {o : HO} (s : L2.Same H0 H) (n : H0 p = none) : L2.Same H0 (upd H p o) := fun b u e => by rw [upd_ne (ne_of_none e n)]; exact s b u e
theorem fx_upd {S : List Addr} {H : Hp} {p : Addr} {o : HO} (m : p ∈ S) (h : ∀ xs, H p ≠ some (.tup xs)) : Fx S H (upd H p o) :=
  ⟨fun b u e n => by rw [upd_ne (fun z : b = p => n (by rw [z]; exact m))]; exact e, fun b xs e => by rw [upd_ne (fun z : b = p => h xs (by rw [← z]; exact e))]; exact e⟩
theorem sqT_fx {K : PySem.W.Frag} {S : List Addr} {H H' : Hp} {a : Addr} {xs : List V} (f : Fx S H H') (h : H a = some (.tup xs)) : SqT K H' a xs := .of (f.tup a xs h)
theorem sqL_same {K : PySem.W.Frag} {H H' : Hp} {a : Addr} {xs : List V} (e : L2.Same H H') (h : SqL K H a xs) : SqL K H' a xs := L2.SqL.ext h e
theorem sqT_same {K : PySem.W.Frag} {H H' : Hp} {a : Addr} {xs : List V} (e : L2.Same H H') (h : SqT K H a xs) : SqT K H' a xs := L2.SqT.ext h e
theorem qi {Q : VK} {H : Hp} {a b : Int} (e : a = b) (q : Q (.int b) H) : Q (.int a) H := by rw [e]; exact q
theorem qb {Q : VK} {H : Hp} {a b : Bool} (e : a = b) (q : Q (.bl b) H) : Q (.bl a) H := by rw [e]; exact q
theorem dT {p : Prop} [Decidable p] (h : p) : V.bl (decide p) = .bl true := by rw [decide_eq_true h]
theorem dF {p : Prop} [Decidable p] (h : ¬ p) : V.bl (decide p) = .bl false := by rw [decide_eq_false h]
theorem nT {p : Prop} [Decidable p] (h : ¬ p) : V.bl (!decide p) = .bl true := by rw [decide_eq_false h]; rfl
theorem nF {p : Prop} [Decidable p] (h : p) : V.bl (!decide p) = .bl false := by rw [decide_eq_true h]; rfl
theorem intNe {a b : Int} (h : a ≠ b) : V.int a ≠ V.int b := fun e => h (V.int.inj e)
open Classical in
/-- the part of H where S -/
noncomputable def sub (S : Addr → Prop) (H : Hp) : Hp := fun b => if S b then H b else none
theorem sub_at {S : Addr → Prop} {H : Hp} {b : Addr} (h : S b) : sub S H b = H b := if_pos h
theorem sub_some {S : Addr → Prop} {H : Hp} {b : Addr} {o : HO} (h : sub S H b = some o) : S b ∧ H b = some o := by
  unfold sub at h
  split at h
  · exact ⟨by assumption, h⟩
  · cases h
/-! ### lists of plain things -/
abbrev iV (n : Nat) : V := .int (n : Int)
abbrev natsV (xs : List Nat) : List V := xs.map iV
theorem natsV_int (a : List Nat) : natsV a = (a.map fun (n : Nat) => (n : Int)).map V.int := by rw [List.map_map]; rfl
theorem natsV_app (a b : List Nat) : natsV (a ++ b) = natsV a ++ natsV b := List.map_append
theorem map_at {α β : Type} {f : α → β} {xs : List α} {i : Nat} {y : β} (h : (xs.map f)[i]? = some y) : ∃ x, xs[i]? = some x ∧ y = f x := by
  rw [List.getElem?_map] at h
  cases e : xs[i]? with
  | none => rw [e] at h; cases h
  | some x => rw [e] at h; cases h; exact ⟨x, rfl, rfl⟩
theorem take_snoc {α : Type} {l : List α} {i : Nat} {x : α} (h : l[i]? = some x) : l.take (i + 1) = l.take i ++ [x] := by
  rw [List.take_add_one, h]; rfl
/-- [e for x in xs], e leaves all as it is: ys, element by element -/
theorem lc_pureL {K : PySem.W.Frag} {a : Addr} {xs ys : List V} {g : TG} {te : TE} {vs : List Nat} {σ : L2.St} {H1 : Hp} {D : Addr} {Qd : Hp → Prop} (hD : H1 D = none) (hx : SqL K H1 a xs) (hl : ys.length = xs.length) (hz : xs.length ≤ 1000000)
    (hs : ∀ (i : Nat) (x y : V) (acc : List V) (k : VK), xs[i]? = some x → ys[i]? = some y → k y (upd H1 D (.lst acc)) → g x (wipe σ vs) (upd H1 D (.lst acc)) fun σ2 H2 => wipe σ2 vs = wipe σ vs ∧ te σ2 H2 k)
    (mono : ∀ x σ H (Q Q' : St → Hp → Prop), (∀ σ H, Q σ H → Q' σ H) → g x σ H Q → g x σ H Q') (hd : Qd (upd H1 D (.lst ys))) :
    ∃ W : Nat → Nat → Hp → Prop, (∃ m, W 0 m (upd H1 D (.lst []))) ∧ ∀ i m H, W i m H →
      ((Itl K a).stop i H ∧ Qd H) ∨ ((Itl K a).go i H ∧ ∃ Nx : Hp → Prop, (∀ H', Nx H' → ∃ m', m' < m ∧ W (i + 1) m' H') ∧ ∀ x H', (Itl K a).yld i H x H' → g x (wipe σ vs) H' fun σ2 H2 => wipe σ2 vs = wipe σ vs ∧ tYes σ2 H2 fun b H3 =>
        if b = true then te σ2 H3 fun y H4 => ∃ acc, H4 D = some (.lst acc) ∧ acc.length < sizeLine ∧ Nx (upd H4 D (.lst (acc ++ [y]))) else Nx H3) := by
  refine lc_list (xs := xs) (fun i H => H = upd H1 D (.lst (ys.take i))) (by simp) (fun i H _ e => ?_) (fun i x H hi e => ?_) fun H e => ?_
  · rw [e]; exact sqL_same (same_upd hD) hx
  · subst e
    have hlt : i < ys.length := by rw [hl]; exact (List.getElem?_eq_some_iff.mp hi).1
    have hy : ys[i]? = some ys[i] := List.getElem?_eq_getElem hlt
    refine mono _ _ _ _ _ (fun σ2 H2 z => ⟨z.1, z.2⟩) (hs i x ys[i] (ys.take i) (fun y H4 => ∃ acc, H4 D = some (.lst acc) ∧ acc.length < sizeLine ∧ upd H4 D (.lst (acc ++ [y])) = upd H1 D (.lst (ys.take (i + 1)))) hi hy ⟨_, upd_same, ?_, ?_⟩)
    · rw [List.length_take, sizeLine_eq]; omega
    · rw [upd_upd, take_snoc hy]
  · rw [e, ← hl, List.take_length]
    exact hd
/-- [e for x in xs], e may make new things: F what is known of an element, as long as all but D stands -/
theorem lc_objL {K : PySem.W.Frag} {a : Addr} {xs : List V} {g : TG} {te : TE} {vs : List Nat} {σ : L2.St} {H1 : Hp} {D : Addr} {Qd : Hp → Prop} (F : Nat → V → Hp → Prop) (hD : H1 D = none) (hx : SqL K H1 a xs) (hz : xs.length ≤ 1000000)
    (hF : ∀ i y H H' acc, F i y H → H D = some (.lst acc) → (∀ b o, H b = some o → b ≠ D → H' b = some o) → F i y H')
    (hs : ∀ (i : Nat) (x : V) (H : Hp) (acc : List V) (k : VK), xs[i]? = some x → L2.Same H1 H → H D = some (.lst acc) → (∀ y H4, L2.Same H H4 → F i y H4 → k y H4) → g x (wipe σ vs) H fun σ2 H2 => wipe σ2 vs = wipe σ vs ∧ te σ2 H2 k)
    (mono : ∀ x σ H (Q Q' : St → Hp → Prop), (∀ σ H, Q σ H → Q' σ H) → g x σ H Q → g x σ H Q')
    (hd : ∀ ys H, ys.length = xs.length → L2.Same H1 H → H D = some (.lst ys) → (∀ i y, ys[i]? = some y → F i y H) → Qd H) :
    ∃ W : Nat → Nat → Hp → Prop, (∃ m, W 0 m (upd H1 D (.lst []))) ∧ ∀ i m H, W i m H →
      ((Itl K a).stop i H ∧ Qd H) ∨ ((Itl K a).go i H ∧ ∃ Nx : Hp → Prop, (∀ H', Nx H' → ∃ m', m' < m ∧ W (i + 1) m' H') ∧ ∀ x H', (Itl K a).yld i H x H' → g x (wipe σ vs) H' fun σ2 H2 => wipe σ2 vs = wipe σ vs ∧ tYes σ2 H2 fun b H3 =>
        if b = true then te σ2 H3 fun y H4 => ∃ acc, H4 D = some (.lst acc) ∧ acc.length < sizeLine ∧ Nx (upd H4 D (.lst (acc ++ [y]))) else Nx H3) := by
  refine lc_list (xs := xs) (fun i H => ∃ ys, ys.length = i ∧ L2.Same H1 H ∧ H D = some (.lst ys) ∧ ∀ j y, ys[j]? = some y → F j y H) ⟨[], rfl, same_upd hD, upd_same, fun j y e => by simp at e⟩ (fun i H _ h => ?_) (fun i x H hi h => ?_) fun H h => ?_
  · obtain ⟨ys, _, s, _⟩ := h
    exact sqL_same s hx
  · obtain ⟨ys, hl, s, e, al⟩ := h
    have hlt : i < xs.length := (List.getElem?_eq_some_iff.mp hi).1
    refine mono _ _ _ _ _ (fun σ2 H2 z => ⟨z.1, z.2⟩) (hs i x H ys (fun y H4 => ∃ acc, H4 D = some (.lst acc) ∧ acc.length < sizeLine ∧ ∃ zs, zs.length = i + 1 ∧ L2.Same H1 (upd H4 D (.lst (acc ++ [y]))) ∧ upd H4 D (.lst (acc ++ [y])) D = some (.lst zs) ∧ ∀ j y', zs[j]? = some y' → F j y' (upd H4 D (.lst (acc ++ [y])))) hi s e fun y H4 s4 f4 => ?_)
    have keep : ∀ b o, H4 b = some o → b ≠ D → upd H4 D (.lst (ys ++ [y])) b = some o := fun b o q n => by rw [upd_ne n]; exact q
    refine ⟨ys, s4 _ _ e, by rw [hl, sizeLine_eq]; omega, ys ++ [y], by simp [hl], same_upd2 (s.trans s4) hD, upd_same, fun j y' q => ?_⟩
    rcases Nat.lt_or_ge j ys.length with hj | hj
    · rw [List.getElem?_append_left hj] at q
      exact hF _ _ _ _ _ (hF _ _ _ _ _ (al j y' q) e fun b o q _ => s4 b o q) (s4 _ _ e) keep
    · rw [List.getElem?_append_right hj] at q
      cases hk : j - ys.length with
      | zero =>
        rw [hk] at q
        cases q
        have : j = i := by omega
        rw [this]
        exact hF _ _ _ _ _ f4 (s4 _ _ e) keep
      | succ n => rw [hk] at q; cases q
  · obtain ⟨ys, hl, s, e, al⟩ := h
    exact hd ys H hl s e al
/-- the same over range(n) -/
theorem lc_objR {n : Nat} {g : TG} {te : TE} {vs : List Nat} {σ : L2.St} {H1 : Hp} {D : Addr} {Qd : Hp → Prop} (F : Nat → V → Hp → Prop) (hD : H1 D = none) (hz : n ≤ 1000000)
    (hF : ∀ i y H H' acc, F i y H → H D = some (.lst acc) → (∀ b o, H b = some o → b ≠ D → H' b = some o) → F i y H')
    (hs : ∀ (i : Nat) (H : Hp) (acc : List V) (k : VK), i < n → L2.Same H1 H → H D = some (.lst acc) → (∀ y H4, L2.Same H H4 → F i y H4 → k y H4) → g (iV i) (wipe σ vs) H fun σ2 H2 => wipe σ2 vs = wipe σ vs ∧ te σ2 H2 k)
    (mono : ∀ x σ H (Q Q' : St → Hp → Prop), (∀ σ H, Q σ H → Q' σ H) → g x σ H Q → g x σ H Q')
    (hd : ∀ ys H, ys.length = n → L2.Same H1 H → H D = some (.lst ys) → (∀ i y, ys[i]? = some y → F i y H) → Qd H) :
    ∃ W : Nat → Nat → Hp → Prop, (∃ m, W 0 m (upd H1 D (.lst []))) ∧ ∀ i m H, W i m H →
      ((Itr 0 n).stop i H ∧ Qd H) ∨ ((Itr 0 n).go i H ∧ ∃ Nx : Hp → Prop, (∀ H', Nx H' → ∃ m', m' < m ∧ W (i + 1) m' H') ∧ ∀ x H', (Itr 0 n).yld i H x H' → g x (wipe σ vs) H' fun σ2 H2 => wipe σ2 vs = wipe σ vs ∧ tYes σ2 H2 fun b H3 =>
        if b = true then te σ2 H3 fun y H4 => ∃ acc, H4 D = some (.lst acc) ∧ acc.length < sizeLine ∧ Nx (upd H4 D (.lst (acc ++ [y]))) else Nx H3) := by
  refine lc_range (fun i H => ∃ ys, ys.length = i ∧ L2.Same H1 H ∧ H D = some (.lst ys) ∧ ∀ j y, ys[j]? = some y → F j y H) ⟨[], rfl, same_upd hD, upd_same, fun j y e => by simp at e⟩ (fun i H hi h => ?_) fun H h => ?_
  · obtain ⟨ys, hl, s, e, al⟩ := h
    rw [Int.zero_add]
    refine mono _ _ _ _ _ (fun σ2 H2 z => ⟨z.1, z.2⟩) (hs i H ys (fun y H4 => ∃ acc, H4 D = some (.lst acc) ∧ acc.length < sizeLine ∧ ∃ zs, zs.length = i + 1 ∧ L2.Same H1 (upd H4 D (.lst (acc ++ [y]))) ∧ upd H4 D (.lst (acc ++ [y])) D = some (.lst zs) ∧ ∀ j y', zs[j]? = some y' → F j y' (upd H4 D (.lst (acc ++ [y])))) hi s e fun y H4 s4 f4 => ?_)
    have keep : ∀ b o, H4 b = some o → b ≠ D → upd H4 D (.lst (ys ++ [y])) b = some o := fun b o q n => by rw [upd_ne n]; exact q
    refine ⟨ys, s4 _ _ e, by rw [hl, sizeLine_eq]; omega, ys ++ [y], by simp [hl], same_upd2 (s.trans s4) hD, upd_same, fun j y' q => ?_⟩
    rcases Nat.lt_or_ge j ys.length with hj | hj
    · rw [List.getElem?_append_left hj] at q
      exact hF _ _ _ _ _ (hF _ _ _ _ _ (al j y' q) e fun b o q _ => s4 b o q) (s4 _ _ e) keep
    · rw [List.getElem?_append_right hj] at q
      cases hk : j - ys.length with
      | zero =>
        rw [hk] at q
        cases q
        have : j = i := by omega
        rw [this]
        exact hF _ _ _ _ _ f4 (s4 _ _ e) keep
      | succ n => rw [hk] at q; cases q
  · obtain ⟨ys, hl, s, e, al⟩ := h
    exact hd ys H hl s e al
theorem putF_ne {a b : Str} {x v : V} {r : List (Str × V)} (h : ¬ a = b) : putF b v ((a, x) :: r) = (a, x) :: putF b v r := by
  show (if a = b then _ else _) = _
  rw [if_neg h]
theorem putF_eq {a : Str} {x v : V} {r : List (Str × V)} : putF a v ((a, x) :: r) = (a, v) :: r := by
  show (if a = a then _ else _) = _
  rw [if_pos rfl]
theorem gName_mono {i : Nat} : ∀ (x : V) (σ : St) (H : Hp) (Q Q' : St → Hp → Prop), (∀ σ H, Q σ H → Q' σ H) → gName i x σ H Q → gName i x σ H Q' := fun x σ H Q Q' h q => h _ _ q
end K36
/-! K36W1: letters, digit, letter_of, word_of -/
namespace K36
open PySem PySem.Spec PyProof.Rows L2 HotX
theorem toN (n : Nat) : ((n : Int)).toNat = n := Int.toNat_natCast n
theorem shlN (a n : Nat) : (a : Int) * 2 ^ ((n : Int)).toNat = ((a * 2 ^ n : Nat) : Int) := by rw [toN]; simp
theorem shrN (a n : Nat) : (a : Int) / 2 ^ ((n : Int)).toNat = ((a / 2 ^ n : Nat) : Int) := by rw [toN]; simp
theorem modN (a b : Nat) : (a : Int) % (b : Int) = ((a % b : Nat) : Int) := (Int.natCast_emod a b).symm
theorem divN (a b : Nat) : (a : Int) / (b : Int) = ((a / b : Nat) : Int) := (Int.natCast_ediv a b).symm
/-- the letter of the digits -/
def lof : List Nat → Nat
  | [] => 0
  | d :: r => d + 2 * lof r
theorem lof_snoc : ∀ (l : List Nat) (d : Nat), lof (l ++ [d]) = lof l + d * 2 ^ l.length
  | [], d => by simp [lof]
  | x :: l, d => by
    have h : 2 * (d * 2 ^ l.length) = d * (2 ^ l.length * 2) := by rw [Nat.mul_comm (2 ^ l.length) 2, ← Nat.mul_assoc, ← Nat.mul_assoc, Nat.mul_comm 2 d]
    simp only [List.cons_append, lof, lof_snoc l d, List.length_cons, Nat.pow_succ, Nat.mul_add, h]
    omega
/-- the word of the numbers -/
inductive WordOf : List Nat → List Nat → Prop
  | nil {ns : List Nat} : (ns.any fun n => decide (0 < n)) = false → WordOf ns []
  | cons {ns wd : List Nat} : (ns.any fun n => decide (0 < n)) = true → WordOf (ns.map (· / 2)) wd → WordOf ns (lof (ns.map (· % 2)) :: wd)
section
variable {P : Program} {w : World} {K : PySem.W.Frag} {mg : Str → Option Value} {base : Heap}
def p_letters : Q1 := fun _ a H Q _ => ∃ n : Nat, a = iV n ∧ n ≤ 6 ∧ Q (iV (2 ^ n)) H
theorem ok_letters (T : Txt P w K mg) : FnQ P w K mg base 1 (He.ga K "letters") 1 (Sp1 p_letters) := by
  refine fnQ1 T.F_letters sc_letters (fun _ _ _ _ _ _ us hl => match us, hl with | [_], _ => rfl) fun cdv A outer s H a Q E l qa hr h => ?_
  obtain ⟨n, rfl, hn, q⟩ := h
  refine ⟨_, (pss_one (ps_ret (pe_op op_shl pe_int (pv 0)))), ?_⟩
  refine ⟨_, rfl, _, _, rfl, rfl, ⟨by omega, by omega, by decide⟩, ?_⟩
  have e : (1 : Int) * 2 ^ ((n : Int)).toNat = ((2 ^ n : Nat) : Int) := by have := shlN 1 n; simpa using this
  exact qi (Q := Q) e q
def p_digit : Q2 := fun _ a b H Q _ => ∃ n t : Nat, a = iV n ∧ b = iV t ∧ Q (iV (n / 2 ^ t % 2)) H
theorem ok_digit (T : Txt P w K mg) : FnQ P w K mg base 1 (He.ga K "digit") 2 (Sp2 p_digit) := by
  refine fnQ2 T.F_digit sc_digit (fun _ _ _ _ _ _ us hl => match us, hl with | [_, _], _ => rfl) fun cdv A outer s H a b Q E l qa hr h => ?_
  obtain ⟨n, t, rfl, rfl, q⟩ := h
  refine ⟨_, (pss_one (ps_ret (pe_op op_mod (pe_op op_shr (pv 0) (pv 1)) pe_int))), ?_⟩
  refine ⟨_, rfl, _, rfl, _, _, rfl, rfl, Int.natCast_nonneg _, _, _, rfl, rfl, (by show (0 : Int) < 2; decide), ?_⟩
  have e := modN (n / 2 ^ t) 2
  refine qi (Q := Q) ?_ q
  rw [shrN]
  exact e
def p_letter_of : Q1 := fun _ a H Q _ => ∃ (p : Addr) (ds : List Nat), a = .ref p ∧ (∀ K : PySem.W.Frag, SqL K H p (natsV ds)) ∧ ds.length ≤ 6 ∧ (∀ d ∈ ds, d < 2) ∧ Q (iV (lof ds)) H
theorem ok_letter_of (T : Txt P w K mg) : FnQ P w K mg base 1 (He.ga K "letter_of") 1 (Sp1 p_letter_of) := by
  refine fnQ1 T.F_letter_of sc_letter_of (fun _ _ _ _ _ _ us hl => match us, hl with | [_], _ => rfl) fun cdv A outer s H a Q E l qa hr h => ?_
  obtain ⟨p, ds, rfl, hp, hl, hd, q⟩ := h
  have hp := hp K
  have hlen : (natsV ds).length = ds.length := List.length_map _
  refine ⟨_, (pss_cons (ps_set (i := 1) sc_letter_of.nd rfl (Or.inl rfl) pe_int)
      (pss_cons (ps_forQ PassesOwn.leaving (cxQ_quiet qa) (piR1 rfl T.free_range (pa_cons (pe_callB call_len_seq rfl T.free_len PySem.boot_len (pa_cons (pv 0) pa_nil)) pa_nil)) (pg_name (i := 2) sc_letter_of.nd rfl (Or.inl rfl)) (pss_one (ps_set (i := 1) sc_letter_of.nd rfl (Or.inl rfl) (pe_op op_add (pv 1) (pe_op op_shl (pe_ix ix_list (pv 0) (pv 2) (fun _ _ => rfl)) (pv 2))))))
      (pss_one (ps_ret (pv 1))))), ?_⟩
  refine ⟨_, rfl, p, _, rfl, .inl hp, _, rfl, by omega, by omega, ?_⟩
  rw [hlen, toN]
  refine for_range (fun i σ H1 => H1 = H ∧ ∃ o, σ = [some (.ref p), some (iV (lof (ds.take i))), o]) ⟨rfl, _, rfl⟩ ?_ ?_
  · rintro i σ H1 hi ⟨rfl, o, rfl⟩
    have hx : ds[i]? = some ds[i] := List.getElem?_eq_getElem hi
    have hb := hd _ (List.mem_of_getElem? hx)
    have hv : (natsV ds)[i]? = some (iV ds[i]) := by rw [List.getElem?_map, hx]; rfl
    rw [Int.zero_add]
    refine ⟨_, rfl, _, rfl, _, rfl, p, _, _, _, rfl, rfl, hp, atI_nat hv, _, rfl, _, _, rfl, rfl, ⟨by omega, by omega, by omega⟩, _, _, rfl, rfl, rfl, some (iV i), ?_⟩
    have e : (lof (ds.take i) : Int) + (ds[i] : Int) * 2 ^ ((i : Int)).toNat = ((lof (ds.take (i + 1)) : Nat) : Int) := by
      rw [shlN, take_snoc hx, lof_snoc, List.length_take, Nat.min_eq_left (Nat.le_of_lt hi)]
      simp
    show [some (V.ref p), some (V.int ((lof (ds.take i) : Int) + (ds[i] : Int) * 2 ^ ((i : Int)).toNat)), some (iV i)] = _
    rw [e]
  · rintro σ H1 ⟨rfl, o, rfl⟩
    refine ⟨_, rfl, ?_⟩
    rw [List.take_length]
    exact q
def p_word_of : Q1 := fun _ a H Q _ => ∃ (p : Addr) (ns : List Nat), a = .ref p ∧ (∀ K : PySem.W.Frag, SqL K H p (natsV ns) ∨ SqT K H p (natsV ns)) ∧ ns.length ≤ 6 ∧ (∀ n ∈ ns, n < 2 ^ 40) ∧
  ∀ H' r wd, L2.Same H H' → H r = none → H' r = some (.lst (natsV wd)) → WordOf ns wd → wd.length ≤ 40 → Q (.ref r) H'
/-- the loop of word_of -/
def wofW (ns : List Nat) (p wd : Addr) (H : Hp) (m : Nat) (σ : St) (H1 : Hp) : Prop :=
  ∃ (i : Nat) (left pre : List Nat) (a : Addr) (o : Option V), m = 40 - i ∧ i ≤ 40 ∧ σ = [some (.ref p), some (.ref a), some (.ref wd), o] ∧ H1 a = some (.lst (natsV left)) ∧ H1 wd = some (.lst (natsV pre)) ∧ a ≠ wd ∧
    pre.length = i ∧ left.length = ns.length ∧ (∀ n ∈ left, n < 2 ^ (40 - i)) ∧ (∀ x, WordOf left x → WordOf ns (pre ++ x)) ∧ L2.Same H H1
theorem ok_word_of (T : Txt P w K mg) : FnQ P w K mg base 2 (He.ga K "word_of") 1 (Sp1 p_word_of) := by
  refine fnQ1 T.F_word_of sc_word_of (fun _ _ _ _ _ _ us hl => match us, hl with | [_], _ => rfl) fun cdv A outer s H a Q E l qa hr h => ?_
  obtain ⟨p, ns, rfl, hp, hl, hb, q⟩ := h
  refine ⟨_, (pss_cons (ps_set (i := 1) sc_word_of.nd rfl (Or.inl rfl) (pe_callTy call_list_of rfl T.free_list (by decide +kernel) (pa_cons (pv 0) pa_nil)))
      (pss_cons (ps_set (i := 2) sc_word_of.nd rfl (Or.inl rfl) (pe_lst pa_nil))
      (pss_cons (ps_while PassesOwn.leaving (pt_val (pe_callB (cr_anyQ (cxQ_quiet qa)) rfl T.free_any (by decide +kernel) (pa_cons (pe_lcQ (own := [("number", 3)]) (g := gName 3) (tt := tYes) (cxQ_quiet qa) sc_word_of.nd (piL (pv 1)) (blkOk_by (N := ["numbers", "left", "word", "number"]) (sc := defScope s_word_of) (by decide +kernel)) (fun _ _ _ _ hq => pg_name (i := 3) sc_word_of.nd rfl (Or.inl rfl)) (fun _ _ _ _ hq => pts_nil) (fun _ _ _ _ hq hcm => (pe_cmpR op_gt (pv 3) pe_int (nomark _)))) pa_nil))) (pss_cons (ps_expr (pe_bm PySem.F.plainAttrs_list PySem.F.slot_list_append PySem.F.type_list_append mt_append (pv 2) (pa_cons (pe_callQ (ok_letter_of T) (hr.mono (by omega)) (cxQ_quiet qa) T.g_letter_of pass0 (pa_cons (pe_lcQ (own := [("number", 3)]) (g := gName 3) (tt := tYes) (cxQ_quiet qa) sc_word_of.nd (piL (pv 1)) (blkOk_by (N := ["numbers", "left", "word", "number"]) (sc := defScope s_word_of) (by decide +kernel)) (fun _ _ _ _ hq => pg_name (i := 3) sc_word_of.nd rfl (Or.inl rfl)) (fun _ _ _ _ hq => pts_nil) (fun _ _ _ _ hq hcm => (pe_op op_mod (pv 3) pe_int))) pa_nil)) pa_nil)))
        (pss_one (ps_setLcQ (i := 1) (own := [("number", 3)]) (g := gName 3) (tt := tYes) (cxQ_quiet qa) sc_word_of.nd rfl rfl (sw_true rfl rfl rfl (by decide +kernel)) (piL (pv 1)) (blkOk_by (N := ["numbers", "left", "word", "number"]) (sc := defScope s_word_of) (by decide +kernel)) (fun _ _ _ _ hq => pg_name (i := 3) sc_word_of.nd rfl (Or.inl rfl)) (fun _ _ _ _ hq => pts_nil) (fun _ _ _ _ hq hcm => (pe_op op_fdiv (pv 3) pe_int))))))
      (pss_one (ps_ret (pv 2)))))), ?_⟩
  refine ⟨_, rfl, p, _, rfl, hp K, fun lf nlf => ⟨by decide, fun wd nwd => ?_⟩⟩
  have lw : lf ≠ wd := fun e => by rw [e, upd_same] at nwd; cases nwd
  rw [upd_ne lw.symm] at nwd
  have nwdH : H wd = none := nwd
  refine ⟨wofW ns p wd H, ⟨40, 0, ns, [], lf, none, rfl, by omega, rfl, ?_, upd_same, lw, rfl, rfl, hb, fun x h => h, ?_⟩, ?_⟩
  · rw [upd_ne lw]; exact upd_same
  · exact same_upd2 (same_upd nlf) nwd
  rintro m σ H1 ⟨i, left, pre, a, o, rfl, hi, rfl, ha, hw, aw, hpl, hll, hlb, hx, hs⟩
  refine ⟨_, rfl, a, rfl, ⟨_, SqL.of ha⟩, fun D hD => ?_⟩
  have hy0 : ∀ (f : Nat → V) (i : Nat) (x y : V), (natsV left)[i]? = some x → (left.map f)[i]? = some y → ∃ n, n ∈ left ∧ x = iV n ∧ y = f n := fun f i x y h1 h2 => by
    obtain ⟨n, e, rfl⟩ := map_at h1
    obtain ⟨n', e', rfl⟩ := map_at h2
    rw [e] at e'
    cases e'
    exact ⟨n, List.mem_of_getElem? e, rfl, rfl⟩
  have ll : (natsV left).length ≤ 1000000 := by rw [List.length_map]; omega
  refine lc_pureL (ys := left.map fun n => V.bl (decide (0 < n))) hD (SqL.of ha) (by simp) ll (fun i x y acc k h1 h2 hk => ?_) gName_mono ?_
  · obtain ⟨n, _, rfl, rfl⟩ := hy0 _ i x y h1 h2
    refine ⟨rfl, _, rfl, _, _, rfl, rfl, qb (Q := k) ?_ hk⟩
    simp
  · refine ⟨D, left.map fun n => decide (0 < n), rfl, SqL.of ?_, _, rfl, ?_⟩
    · rw [upd_same, List.map_map]; rfl
    have aD : a ≠ D := ne_of_none ha hD
    have wD : wd ≠ D := ne_of_none hw hD
    have s1 : L2.Same H (upd H1 D (.lst (left.map fun n => V.bl (decide (0 < n))))) := hs.trans (same_upd hD)
    have ha1 := same_upd (o := .lst (left.map fun n => V.bl (decide (0 < n)))) hD _ _ ha
    have hw1 := same_upd (o := .lst (left.map fun n => V.bl (decide (0 < n)))) hD _ _ hw
    generalize upd H1 D (.lst (left.map fun n => V.bl (decide (0 < n)))) = H2 at s1 ha1 hw1
    have ea : (left.map fun n => decide (0 < n)).any id = left.any fun n => decide (0 < n) := by rw [List.any_map]; rfl
    rw [ea]
    cases hany : left.any fun n => decide (0 < n) with
    | false =>
      refine ⟨_, rfl, q H2 wd pre s1 nwdH hw1 ?_ (by omega)⟩
      have := hx [] (.nil hany)
      simpa using this
    | true =>
      have hi' : i < 40 := by
        obtain ⟨n, hn, hp⟩ := List.any_eq_true.mp hany
        have h1 := hlb n hn
        have h2 := of_decide_eq_true hp
        rcases Nat.lt_or_ge i 40 with h | h
        · exact h
        · rw [show 40 - i = 0 by omega] at h1
          omega
      refine ⟨fun σ' H' => ∃ m', m' < 40 - i ∧ wofW ns p wd H m' σ' H', fun _ _ z => z, ?_⟩
      refine ⟨_, rfl, .inl ⟨rfl, _, SqL.of hw1⟩, _, rfl, a, rfl, ⟨_, SqL.of ha1⟩, fun D2 hD2 => ?_⟩
      refine lc_pureL (ys := left.map fun n => iV (n % 2)) hD2 (SqL.of ha1) (by simp) ll (fun i x y acc k h1 h2 hk => ?_) gName_mono ?_
      · obtain ⟨n, _, rfl, rfl⟩ := hy0 _ i x y h1 h2
        exact ⟨rfl, _, rfl, _, _, rfl, rfl, (by show (0 : Int) < 2; decide), qi (Q := k) (modN n 2) hk⟩
      have ha2 := same_upd (o := .lst (left.map fun n => iV (n % 2))) hD2 _ _ ha1
      have hw2 := same_upd (o := .lst (left.map fun n => iV (n % 2))) hD2 _ _ hw1
      have s2 := s1.trans (same_upd (o := .lst (left.map fun n => iV (n % 2))) hD2)
      have hd2 : upd H2 D2 (.lst (left.map fun n => iV (n % 2))) D2 = some (.lst (natsV (left.map (· % 2)))) := by rw [upd_same]; simp [natsV]
      generalize upd H2 D2 (.lst (left.map fun n => iV (n % 2))) = H3 at ha2 hw2 s2 hd2 ⊢
      refine ⟨_, rfl, D2, _, rfl, fun _ => SqL.of hd2, by rw [List.length_map]; omega, fun d hd => ?_, wd, _, _, rfl, rfl, hw2, by rw [List.length_map, sizeLine_eq]; omega, ?_⟩
      · obtain ⟨n, _, rfl⟩ := List.mem_map.mp hd
        exact Nat.mod_lt _ (by decide)
      have ha3 : upd H3 wd (.lst (natsV pre ++ [iV (lof (left.map (· % 2)))])) a = some (.lst (natsV left)) := by rw [upd_ne aw]; exact ha2
      have hw3 : upd H3 wd (.lst (natsV pre ++ [iV (lof (left.map (· % 2)))])) wd = some (.lst (natsV (pre ++ [lof (left.map (· % 2))]))) := by rw [upd_same]; simp [natsV]
      have s3 : L2.Same H (upd H3 wd (.lst (natsV pre ++ [iV (lof (left.map (· % 2)))]))) := same_upd2 s2 nwdH
      generalize upd H3 wd (.lst (natsV pre ++ [iV (lof (left.map (· % 2)))])) = H4 at ha3 hw3 s3 ⊢
      refine ⟨_, rfl, a, rfl, ⟨_, SqL.of ha3⟩, fun D3 hD3 => ?_⟩
      refine lc_pureL (ys := left.map fun n => iV (n / 2)) hD3 (SqL.of ha3) (by simp) ll (fun i x y acc k h1 h2 hk => ?_) gName_mono ?_
      · obtain ⟨n, _, rfl, rfl⟩ := hy0 _ i x y h1 h2
        exact ⟨rfl, _, rfl, _, _, rfl, rfl, ⟨by decide, by decide⟩, qi (Q := k) (divN n 2) hk⟩
      refine ⟨40 - (i + 1), by omega, i + 1, left.map (· / 2), pre ++ [lof (left.map (· % 2))], D3, _, rfl, by omega, rfl, ?_, ?_, (ne_of_none hw3 hD3).symm, by simp [hpl], by simp [hll], fun n hn => ?_, fun x hxx => ?_, s3.trans (same_upd hD3)⟩
      · rw [upd_same]; simp [natsV]
      · exact same_upd hD3 _ _ hw3
      · obtain ⟨n', h1, rfl⟩ := List.mem_map.mp hn
        have h2 := hlb n' h1
        rw [show 40 - i = (40 - (i + 1)) + 1 by omega, Nat.pow_succ] at h2
        exact Nat.div_lt_of_lt_mul (by rw [Nat.mul_comm]; exact h2)
      · have := hx _ (.cons hany hxx)
        simpa using this
end
end K36
/-! K36W2: is_table, the class Machine -/
namespace K36
open PySem PySem.Spec PyProof.Rows L2 HotX
/-! ### machines -/
structure M where
  w : Nat
  tab : List (List Nat)
  acc : List Bool
def M.st (m : M) (s a : Nat) : Nat := (m.tab.getD s []).getD a 0
def M.run (m : M) (s : Nat) (wd : List Nat) : Nat := wd.foldl m.st s
def M.accs (m : M) (s : Nat) : Bool := m.acc.getD s false
structure M.Ok (m : M) : Prop where
  w6 : m.w ≤ 6
  pos : 0 < m.tab.length
  small : m.tab.length ≤ 400
  alen : m.acc.length = m.tab.length
  rows : ∀ r ∈ m.tab, r.length = 2 ^ m.w ∧ ∀ x ∈ r, x < m.tab.length
  sett : ∀ s, s < m.tab.length → m.accs s = m.accs (m.st s 0)
theorem M.Ok.st_lt {m : M} (o : m.Ok) {s a : Nat} : m.st s a < m.tab.length := by
  unfold M.st
  cases h : m.tab[s]? with
  | none => simp [List.getD, h]; exact o.pos
  | some r =>
    have hr := o.rows r (List.mem_of_getElem? h)
    simp only [List.getD, h, Option.getD_some]
    cases h2 : r[a]? with
    | none => exact o.pos
    | some x => exact hr.2 x (List.mem_of_getElem? h2)
theorem M.Ok.st_at {m : M} (o : m.Ok) {s a : Nat} (hs : s < m.tab.length) (ha : a < 2 ^ m.w) : ∃ r, m.tab[s]? = some r ∧ r[a]? = some (m.st s a) := by
  have h : m.tab[s]? = some m.tab[s] := List.getElem?_eq_getElem hs
  have hr := o.rows _ (List.mem_of_getElem? h)
  refine ⟨_, h, ?_⟩
  have ha' : a < m.tab[s].length := by rw [hr.1]; exact ha
  unfold M.st
  simp [List.getD, h, List.getElem?_eq_getElem ha']
theorem M.Ok.accs_at {m : M} (o : m.Ok) {s : Nat} (hs : s < m.tab.length) : m.acc[s]? = some (m.accs s) := by
  have h : s < m.acc.length := by rw [o.alen]; exact hs
  unfold M.accs
  simp [List.getD, List.getElem?_eq_getElem h]
/-- rows as lists -/
def TabAt (H : Hp) (l : Addr) (tab : List (List Nat)) : Prop := ∃ ls : List Addr, H l = some (.lst (ls.map V.ref)) ∧ ls.length = tab.length ∧ ∀ (i : Nat) (a : Addr), ls[i]? = some a → ∃ r, tab[i]? = some r ∧ H a = some (.lst (natsV r))
theorem TabAt.same {H H' : Hp} {l : Addr} {tab : List (List Nat)} (s : ∀ b xs, H b = some (.lst xs) → H' b = some (.lst xs)) (t : TabAt H l tab) : TabAt H' l tab := by
  obtain ⟨ls, h1, h2, h3⟩ := t
  exact ⟨ls, s _ _ h1, h2, fun i a e => let ⟨r, e1, e2⟩ := h3 i a e; ⟨r, e1, s _ _ e2⟩⟩
theorem TabAt.row {H : Hp} {l : Addr} {tab : List (List Nat)} (t : TabAt H l tab) {i : Nat} {r : List Nat} (h : tab[i]? = some r) : ∃ (ls : List Addr) (a : Addr), H l = some (.lst (ls.map V.ref)) ∧ (ls.map V.ref)[i]? = some (V.ref a) ∧ H a = some (.lst (natsV r)) := by
  obtain ⟨ls, h1, h2, h3⟩ := t
  have hi : i < ls.length := by rw [h2]; exact (List.getElem?_eq_some_iff.mp h).1
  have e := List.getElem?_eq_getElem hi
  obtain ⟨r', e1, e2⟩ := h3 i _ e
  rw [h] at e1
  cases e1
  exact ⟨ls, ls[i], h1, by rw [List.getElem?_map, e]; rfl, e2⟩
def mf (w : Nat) (l la : Addr) : List (Str × V) := [("width", iV w), ("table", .ref l), ("accepting", .ref la)]
def MachAt (K : PySem.W.Frag) (H : Hp) (p : Addr) (m : M) : Prop := ∃ dx l la, H p = some (.ins (He.ga K "Machine") dx (mf m.w l la)) ∧ TabAt H l m.tab ∧ H la = some (.lst (m.acc.map V.bl))
theorem MachAt.same {K : PySem.W.Frag} {H H' : Hp} {p : Addr} {m : M} (s : L2.Same H H') (t : MachAt K H p m) : MachAt K H' p m := by
  obtain ⟨dx, l, la, h1, h2, h3⟩ := t
  exact ⟨dx, l, la, s _ _ h1, h2.same fun b xs e => s _ _ e, s _ _ h3⟩
/-- a machine at p in H', all of it new after H -/
def NewM (K : PySem.W.Frag) (H H' : Hp) (p : Addr) (m : M) : Prop := ∃ Hm, MachAt K Hm p m ∧ ∀ b o, Hm b = some o → H' b = some o ∧ H b = none
theorem NewM.at_ {K : PySem.W.Frag} {H H' : Hp} {p : Addr} {m : M} (n : NewM K H H' p m) : MachAt K H' p m := let ⟨_, h1, h2⟩ := n; h1.same fun b o e => (h2 b o e).1
theorem NewM.old {K : PySem.W.Frag} {H0 H H' : Hp} {p : Addr} {m : M} (s : L2.Same H0 H) (n : NewM K H H' p m) : NewM K H0 H' p m := let ⟨Hm, h1, h2⟩ := n; ⟨Hm, h1, fun b o e => ⟨(h2 b o e).1, s.free (h2 b o e).2⟩⟩
theorem NewM.keep {K : PySem.W.Frag} {H H' H'' : Hp} {p : Addr} {m : M} (s : ∀ b o, H b = none → H' b = some o → H'' b = some o) (n : NewM K H H' p m) : NewM K H H'' p m := let ⟨Hm, h1, h2⟩ := n; ⟨Hm, h1, fun b o e => ⟨s b o (h2 b o e).2 (h2 b o e).1, (h2 b o e).2⟩⟩
theorem NewM.same {K : PySem.W.Frag} {H H' H'' : Hp} {p : Addr} {m : M} (s : L2.Same H' H'') (n : NewM K H H' p m) : NewM K H H'' p m := n.keep fun b o _ e => s b o e
section
variable {P : Program} {w : World} {K : PySem.W.Frag} {mg : Str → Option Value} {base : Heap}
def p_is_table : Q3 := fun _ a b d H Q _ => ∃ (m : M) (l la : Addr), a = iV m.w ∧ b = .ref l ∧ d = .ref la ∧ m.Ok ∧ TabAt H l m.tab ∧ H la = some (.lst (m.acc.map V.bl)) ∧ ∀ H', L2.Same H H' → Q (.bl true) H'
theorem ok_is_table (T : Txt P w K mg) : FnQ P w K mg base 2 (He.ga K "is_table") 3 (Sp3 p_is_table) := by
  refine fnQ3 T.F_is_table sc_is_table (fun _ _ _ _ _ _ us hl => match us, hl with | [_, _, _], _ => rfl) fun cdv A outer s H a b d Q E l qa hr h => ?_
  obtain ⟨m, tl, la, rfl, rfl, rfl, ok, ht, hla, q⟩ := h
  obtain ⟨ls, h1, h2, h3⟩ := id ht
  have pos := ok.pos
  have sm := ok.small
  have alen := ok.alen
  have w6 := ok.w6
  have l1 : (ls.map V.ref).length = m.tab.length := by rw [List.length_map, h2]
  have l2 : (m.acc.map V.bl).length = m.tab.length := by rw [List.length_map, alen]
  refine ⟨_, (pss_cons (ps_if (PW.pt (pw_or (pt_cmpR op_eq (pe_callB call_len_seq rfl T.free_len PySem.boot_len (pa_cons (pv 1) pa_nil)) pe_int (nomark _)) (pw_or1 (pt_cmpR op_ne (pe_callB call_len_seq rfl T.free_len PySem.boot_len (pa_cons (pv 2) pa_nil)) (pe_callB call_len_seq rfl T.free_len PySem.boot_len (pa_cons (pv 1) pa_nil)) (nomark _))))) (pss_one (ps_ret pe_bl)) pss_nil)
      (pss_cons (ps_forQ PassesOwn.leaving (cxQ_quiet qa) (piL (pv 1)) (pg_name (i := 3) sc_is_table.nd rfl (Or.inl rfl)) (pss_one (ps_if (PW.pt (pw_or (pt_cmpR op_ne (pe_callB call_len_seq rfl T.free_len PySem.boot_len (pa_cons (pv 3) pa_nil)) (pe_callQ (ok_letters T) (hr.mono (by omega)) (cxQ_quiet qa) T.g_letters pass0 (pa_cons (pv 0) pa_nil)) (nomark _)) (pw_or1 (pt_val (pe_callB (cr_anyQ (cxQ_quiet qa)) rfl T.free_any (by decide +kernel) (pa_cons (pe_lcQ (own := [("state", 4)]) (g := gName 4) (tt := tYes) (cxQ_quiet qa) sc_is_table.nd (piL (pv 3)) (blkOk_by (N := ["width", "table", "accepting", "row", "state"]) (sc := defScope s_is_table) (by decide +kernel)) (fun _ _ _ _ hq => pg_name (i := 4) sc_is_table.nd rfl (Or.inl rfl)) (fun _ _ _ _ hq => pts_nil) (fun _ _ _ _ hq hcm => (pe_not (pe_chain op_le op_lt pe_int (pv 4) (pe_callB (len_seqK (K := K)) rfl T.free_len PySem.boot_len (pa_cons (pv 1) pa_nil)))))) pa_nil)))))) (pss_one (ps_ret pe_bl)) pss_nil)))
      (pss_one (ps_ret pe_bl)))), ?_⟩
  have e1 : ((ls.map V.ref).length : Int) ≠ 0 := by rw [l1]; omega
  have e2 : ((m.acc.map V.bl).length : Int) = ((ls.map V.ref).length : Int) := by rw [l1, l2]
  refine ⟨_, rfl, tl, _, rfl, .inl (SqL.of h1), rfl, false, dF (intNe e1), _, rfl, la, _, rfl, .inl (SqL.of hla), _, rfl, tl, _, rfl, .inl (SqL.of h1), rfl, false, nF (congrArg V.int e2), _, rfl, tl, rfl, ⟨_, SqL.of h1⟩, ?_⟩
  refine for_list (xs := ls.map V.ref) (fun i σ H1 => L2.Same H H1 ∧ ∃ o1 o2, σ = [some (iV m.w), some (.ref tl), some (.ref la), o1, o2]) ⟨Same.refl _, _, _, rfl⟩ (fun i σ H1 _ h => SqL.of (h.1 _ _ h1)) ?_ ?_
  · rintro i x σ H1 hx ⟨sm1, o1, o2, rfl⟩
    obtain ⟨ra, hra, rfl⟩ := map_at hx
    obtain ⟨r, hr1, hr2⟩ := h3 i ra hra
    have hrow := ok.rows r (List.mem_of_getElem? hr1)
    have hr2' := sm1 _ _ hr2
    have e3 : ((natsV r).length : Int) = ((2 ^ m.w : Nat) : Int) := by rw [List.length_map, hrow.1]
    refine ⟨_, rfl, ra, _, rfl, .inl (SqL.of hr2'), _, rfl, _, rfl, m.w, rfl, w6, rfl, false, nF (congrArg V.int e3), ?_⟩
    have rl : (natsV r).length ≤ 1000000 := by
      rw [List.length_map, hrow.1]
      have : 2 ^ m.w ≤ 2 ^ 6 := Nat.pow_le_pow_right (by decide) w6
      omega
    refine ⟨_, rfl, ra, rfl, ⟨_, SqL.of hr2'⟩, fun D hD => ?_⟩
    refine lc_pureL (ys := r.map fun _ => V.bl false) hD (SqL.of hr2') (by simp) rl (fun i x y acc k g1 g2 hk => ?_) gName_mono ?_
    · obtain ⟨n, e, rfl⟩ := map_at g1
      obtain ⟨n', e', rfl⟩ := map_at g2
      have hn := hrow.2 n (List.mem_of_getElem? e)
      have htl : upd H1 D (.lst acc) tl = some (.lst (ls.map V.ref)) := same_upd hD _ _ (sm1 _ _ h1)
      refine ⟨rfl, _, rfl, _, _, rfl, rfl, true, dT (Int.natCast_nonneg _), _, rfl, tl, _, rfl, .inl (SqL.of htl), _, _, rfl, rfl, true, dT (by rw [l1]; omega), hk⟩
    · refine ⟨D, r.map fun _ => false, rfl, SqL.of ?_, false, congrArg V.bl (by simp), ?_⟩
      · rw [upd_same, List.map_map]; rfl
      exact ⟨sm1.trans (same_upd hD), _, _, rfl⟩
  · rintro σ H1 ⟨sm1, _⟩
    exact q H1 sm1
theorem mf_put (w : Nat) (l la : Addr) : putF "accepting" (V.ref la) (putF "table" (V.ref l) (putF "width" (iV w) [])) = mf w l la := by
  rw [show putF "width" (iV w) [] = [(("width" : Str), iV w)] from rfl, putF_ne (by decide +kernel), putF_ne (by decide +kernel), show putF "table" (V.ref l) [] = [(("table" : Str), V.ref l)] from rfl, putF_ne (by decide +kernel)]
  rfl
theorem mf_width (w : Nat) (l la : Addr) : (mf w l la).lookup ("width" : Str) = some (iV w) := by rw [← mf_put, lookup_putF, if_neg (by decide +kernel), lookup_putF, if_neg (by decide +kernel), lookup_putF, if_pos rfl]
theorem mf_table (w : Nat) (l la : Addr) : (mf w l la).lookup ("table" : Str) = some (.ref l) := by rw [← mf_put, lookup_putF, if_neg (by decide +kernel), lookup_putF, if_pos rfl]
theorem mf_acc (w : Nat) (l la : Addr) : (mf w l la).lookup ("accepting" : Str) = some (.ref la) := by rw [← mf_put, lookup_putF, if_pos rfl]
theorem mf_no (w : Nat) (l la : Addr) {f : Str} (h1 : ¬ f = "width") (h2 : ¬ f = "table") (h3 : ¬ f = "accepting") : (mf w l la).lookup f = none := by
  rw [← mf_put, lookup_putF, if_neg h3, lookup_putF, if_neg h2, lookup_putF, if_neg h1]
  rfl
def p_Machine_init : Q4 := fun _ self a b d H Q _ => ∃ (p dx : Addr) (m : M) (tl la : Addr), self = .ref p ∧ a = iV m.w ∧ b = .ref tl ∧ d = .ref la ∧ m.Ok ∧ H p = some (.ins (He.ga K "Machine") dx []) ∧ TabAt H tl m.tab ∧ H la = some (.lst (m.acc.map V.bl)) ∧
  ∀ H' Hm, MachAt K Hm p m → (∀ b o, Hm b = some o → H' b = some o ∧ (b = p ∨ H b = none)) → (∀ b o, H b = some o → b ≠ p → H' b = some o) → Q .non H'
theorem ok_Machine_init (T : Txt P w K mg) : FnQ P w K mg base 3 (He.ma K (He.ga K "Machine") "__init__") 4 (Sp4 (p_Machine_init (K := K))) := by
  refine fnQ4 T.F_Machine_init sc_Machine_init (fun _ _ _ _ _ _ us hl => match us, hl with | [_, _, _, _], _ => rfl) fun cdv A outer s H self a b d Q E l qa hr h => ?_
  obtain ⟨p, dx, m, tl, la, rfl, rfl, rfl, rfl, ok, hp, ht, hla, q⟩ := h
  obtain ⟨ls, h1, h2, h3⟩ := id ht
  have pos := ok.pos
  have sm := ok.small
  have alen := ok.alen
  have w6 := ok.w6
  have l1 : (ls.map V.ref).length = m.tab.length := by rw [List.length_map, h2]
  have l2 : (m.acc.map V.bl).length = m.tab.length := by rw [List.length_map, alen]
  refine ⟨_, (pss_cons (ps_if (pt_not (pt_chain op_le op_le pe_int (pv 1) (pe_glob (v := .int 6) rfl T.i_TRACKS.choose_spec ⟨_, rfl⟩))) pss_never pss_nil)
      (pss_cons (ps_if (pt_cmpR op_gt (pe_callB call_len_seq rfl T.free_len PySem.boot_len (pa_cons (pv 2) pa_nil)) (pe_glob (v := .int 400) rfl T.i_STATES.choose_spec ⟨_, rfl⟩) (nomark _)) pss_never pss_nil)
      (pss_cons (ps_if (pt_not (pt_val (pe_callQ (ok_is_table T) (hr.mono (by omega)) (cxQ_quiet qa) T.g_is_table pass0 (pa_cons (pv 1) (pa_cons (pv 2) (pa_cons (pv 3) pa_nil)))))) pss_never pss_nil)
      (pss_cons (ps_forQ PassesOwn.leaving (cxQ_quiet qa) (piR1 rfl T.free_range (pa_cons (pe_callB call_len_seq rfl T.free_len PySem.boot_len (pa_cons (pv 2) pa_nil)) pa_nil)) (pg_name (i := 4) sc_Machine_init.nd rfl (Or.inl rfl)) (pss_one (ps_if (pt_cmpR op_ne (pe_ix ix_list (pv 3) (pv 4) (fun _ _ => rfl)) (pe_ix ix_list (pv 3) (pe_ix ix_list (pe_ix ix_list (pv 2) (pv 4) (fun _ _ => rfl)) pe_int (fun _ _ => rfl)) (fun _ _ => rfl)) (nomark _)) pss_never pss_nil)))
      (pss_cons (ps_fld (pv 0) (pv 1) rfl)
      (pss_cons (ps_fld (pv 0) (pe_lcQ (own := [("row", 5)]) (g := gName 5) (tt := tYes) (cxQ_quiet qa) sc_Machine_init.nd (piL (pv 2)) (blkOk_by (N := ["self", "width", "table", "accepting", "state", "row"]) (sc := defScope s_Machine_init) (by decide +kernel)) (fun _ _ _ _ hq => pg_name (i := 5) sc_Machine_init.nd rfl (Or.inl rfl)) (fun _ _ _ _ hq => pts_nil) (fun _ _ _ _ hq hcm => (pe_callTy (list_ofK (K := K)) rfl T.free_list (by decide +kernel) (pa_cons (pv 5) pa_nil)))) rfl)
      (pss_one (ps_fld (pv 0) (pe_callTy call_list_of rfl T.free_list (by decide +kernel) (pa_cons (pv 3) pa_nil)) rfl)))))))), ?_⟩
  refine ⟨_, rfl, _, _, rfl, rfl, true, dT (Int.natCast_nonneg _), _, _, rfl, rfl, true, dT (by omega), ?_⟩
  refine ⟨_, rfl, tl, _, rfl, .inl (SqL.of h1), _, _, rfl, rfl, false, dF (by rw [l1]; omega), ?_⟩
  refine ⟨_, rfl, _, rfl, _, rfl, _, _, _, rfl, m, tl, la, rfl, rfl, rfl, ok, ht, hla, fun H1 s1 => ⟨true, rfl, ?_⟩⟩
  have ht1 := ht.same fun b xs e => s1 _ _ e
  have h11 := s1 _ _ h1
  have hla1 := s1 _ _ hla
  refine ⟨_, rfl, tl, _, rfl, .inl (SqL.of h11), _, rfl, by omega, by rw [l1]; omega, ?_⟩
  refine for_range (fun i σ H2 => H2 = H1 ∧ ∃ o1 o2, σ = [some (.ref p), some (iV m.w), some (.ref tl), some (.ref la), o1, o2]) ⟨rfl, _, _, rfl⟩ ?_ ?_
  · rintro i σ H2 hi ⟨rfl, o1, o2, rfl⟩
    have hi : i < m.tab.length := by rw [← l1]; simpa using hi
    obtain ⟨r, hr1, hr2⟩ := ok.st_at hi (Nat.pos_of_ne_zero (by simp : 2 ^ m.w ≠ 0) : 0 < 2 ^ m.w)
    obtain ⟨ls', ra, g1, g2, g3⟩ := ht1.row hr1
    have hst := ok.st_lt (s := i) (a := 0)
    have a1 : (m.acc.map V.bl)[i]? = some (.bl (m.accs i)) := by rw [List.getElem?_map, ok.accs_at hi]; rfl
    have a2 : (m.acc.map V.bl)[m.st i 0]? = some (.bl (m.accs (m.st i 0))) := by rw [List.getElem?_map, ok.accs_at hst]; rfl
    have r1 : (natsV r)[0]? = some (iV (m.st i 0)) := by rw [List.getElem?_map, hr2]; rfl
    rw [Int.zero_add]
    refine ⟨_, rfl, _, rfl, la, _, _, _, rfl, rfl, SqL.of hla1, atI_nat a1, _, rfl, _, rfl, _, rfl, tl, _, _, _, rfl, rfl, SqL.of g1, atI_nat g2, ra, _, _, _, rfl, rfl, SqL.of g3, atI_nat (j := 0) r1, la, _, _, _, rfl, rfl, SqL.of hla1, atI_nat a2, rfl, false, nF ?_, rfl, _, _, rfl⟩
    rw [ok.sett i hi]
  · rintro σ H2 ⟨rfl, o1, o2, rfl⟩
    have hp1 := s1 _ _ hp
    refine ⟨_, rfl, _, rfl, p, _, dx, [], rfl, hp1, T.c_Machine, T.n_Machine_width, (by show 0 < 1000; decide), ?_⟩
    have tp : tl ≠ p := ne_of h11 hp1 (fun z => by cases z)
    have lp : la ≠ p := ne_of hla1 hp1 (fun z => by cases z)
    have k1 : ∀ b o, H2 b = some o → b ≠ p → upd H2 p (.ins (He.ga K "Machine") dx (putF "width" (iV m.w) [])) b = some o := fun b o e n => by rw [upd_ne n]; exact e
    have hp2 : upd H2 p (.ins (He.ga K "Machine") dx (putF "width" (iV m.w) [])) p = some (.ins (He.ga K "Machine") dx (putF "width" (iV m.w) [])) := upd_same
    have ht2 := ht1.same (H' := upd H2 p (.ins (He.ga K "Machine") dx (putF "width" (iV m.w) []))) fun b xs e => k1 b _ e (ne_of e hp1 (fun z => by cases z))
    generalize upd H2 p (.ins (He.ga K "Machine") dx (putF "width" (iV m.w) [])) = H3 at k1 hp2 ht2 ⊢
    obtain ⟨lt, t1, t2, t3⟩ := id ht2
    have hla3 := k1 _ _ hla1 lp
    refine ⟨_, rfl, tl, rfl, ⟨_, SqL.of t1⟩, fun D hD => ?_⟩
    refine lc_objL (fun i y H => ∃ b r, y = .ref b ∧ m.tab[i]? = some r ∧ H b = some (.lst (natsV r)) ∧ b ≠ D ∧ H3 b = none) hD (SqL.of t1) (by rw [List.length_map]; omega) (fun i y H H' _ ⟨b, r, e1, e2, e3, e4, e5⟩ _ k => ⟨b, r, e1, e2, k _ _ e3 e4, e4, e5⟩) (fun i x H4 acc k hx s4 hD4 hk => ?_) gName_mono fun ys H4 hyl s4 hD4 hF => ?_
    · obtain ⟨ra, e1, rfl⟩ := map_at hx
      obtain ⟨r, e2, e3⟩ := t3 i ra e1
      refine ⟨rfl, _, rfl, ra, _, rfl, .inl (SqL.of (s4 _ _ e3)), fun b nb => hk _ _ (same_upd nb) ⟨b, r, rfl, e2, upd_same, (ne_of_none hD4 nb).symm, s4.free nb⟩⟩
    refine ⟨_, rfl, p, _, dx, _, rfl, s4 _ _ hp2, T.c_Machine, T.n_Machine_table, (by show 1 < 1000; decide), ?_⟩
    have nD3 : D ≠ p := (ne_of_none hp2 hD).symm
    have hla4 := s4 _ _ hla3
    have ap : la ≠ p := lp
    refine ⟨_, rfl, la, _, rfl, .inl (SqL.of (by rw [upd_ne lp]; exact hla4)), fun la2 nla2 => ?_⟩
    have n2p : la2 ≠ p := fun z => by rw [z, upd_same] at nla2; cases nla2
    have n24 : H4 la2 = none := by rw [upd_ne n2p] at nla2; exact nla2
    have n2D : la2 ≠ D := (ne_of_none hD4 n24).symm
    refine ⟨_, rfl, p, _, dx, _, rfl, by rw [upd_ne n2p.symm]; exact upd_same, T.c_Machine, T.n_Machine_accepting, ?_, ?_⟩
    · rw [show putF "width" (iV m.w) [] = [(("width" : Str), iV m.w)] from rfl, putF_ne (by decide +kernel)]
      show 2 < 1000
      decide
    rw [mf_put]
    have e1 : ∀ b o, H4 b = some o → b ≠ p → b ≠ la2 → upd (upd (upd H4 p (.ins (He.ga K "Machine") dx (putF "table" (V.ref D) (putF "width" (iV m.w) [])))) la2 (.lst (m.acc.map V.bl))) p (.ins (He.ga K "Machine") dx (mf m.w D la2)) b = some o := fun b o e g1 g2 => by
      rw [upd_ne g1, upd_ne g2, upd_ne g1]; exact e
    have e2 : upd (upd (upd H4 p (.ins (He.ga K "Machine") dx (putF "table" (V.ref D) (putF "width" (iV m.w) [])))) la2 (.lst (m.acc.map V.bl))) p (.ins (He.ga K "Machine") dx (mf m.w D la2)) p = some (.ins (He.ga K "Machine") dx (mf m.w D la2)) := upd_same
    have e3 : upd (upd (upd H4 p (.ins (He.ga K "Machine") dx (putF "table" (V.ref D) (putF "width" (iV m.w) [])))) la2 (.lst (m.acc.map V.bl))) p (.ins (He.ga K "Machine") dx (mf m.w D la2)) la2 = some (.lst (m.acc.map V.bl)) := by
      rw [upd_ne n2p]; exact upd_same
    generalize upd (upd (upd H4 p (.ins (He.ga K "Machine") dx (putF "table" (V.ref D) (putF "width" (iV m.w) [])))) la2 (.lst (m.acc.map V.bl))) p (.ins (He.ga K "Machine") dx (mf m.w D la2)) = Hf at e1 e2 e3 ⊢
    have old : ∀ b, H3 b = none → H b = none := fun b n => by
      cases q : H b with
      | none => rfl
      | some o =>
        by_cases hb : b = p
        · rw [hb, hp2] at n; cases n
        · rw [k1 b o (s1 _ _ q) hb] at n; cases n
    have c1 : ∀ b o, H b = some o → b ≠ p → Hf b = some o := fun b o e n => e1 b o (s4 _ _ (k1 _ _ (s1 _ _ e) n)) n fun z => by
      have y := old la2 (s4.free n24)
      rw [← z, e] at y
      cases y
    refine q Hf (sub (fun b => b = p ∨ H b = none) Hf) ⟨dx, D, la2, ?_, ?_, ?_⟩ (fun b o e => ⟨(sub_some e).2, (sub_some e).1⟩) c1
    · rw [sub_at (.inl rfl)]; exact e2
    · refine ⟨ys.map fun v => match v with | .ref b => b | _ => 0, ?_, by rw [List.length_map, hyl, List.length_map, t2], fun i a e => ?_⟩
      · rw [sub_at (.inr (old D hD)), e1 D _ hD4 nD3 n2D.symm, List.map_map]
        refine congrArg (fun z => some (HO.lst z)) (List.ext_getElem? fun i => ?_)
        rw [List.getElem?_map]
        cases q : ys[i]? with
        | none => rfl
        | some y =>
          obtain ⟨b, r, rfl, _⟩ := hF i y q
          rfl
      · rw [List.getElem?_map] at e
        cases q : ys[i]? with
        | none => rw [q] at e; cases e
        | some y =>
          obtain ⟨b, r, rfl, f1, f2, f3, f4⟩ := hF i y q
          rw [q] at e
          cases e
          have bp : b ≠ p := fun z => by rw [z, hp2] at f4; cases f4
          refine ⟨r, f1, ?_⟩
          show sub _ Hf b = _
          rw [sub_at (.inr (old b f4))]
          exact e1 b _ f2 bp (ne_of_none f2 n24)
    · rw [sub_at (.inr (old la2 (s4.free n24)))]; exact e3
/-- what Machine(w, table, accepting) asks -/
theorem make_machine {c : Bool} {E : XK} {H1 : Hp} {Q : VK} {m : M} {tl la x dx : Addr} (nx : H1 x = none) (nd : H1 dx = none) (ok : m.Ok) (ht : TabAt H1 tl m.tab) (hla : H1 la = some (.lst (m.acc.map V.bl))) (q : ∀ H', NewM K H1 H' x m → L2.Same H1 H' → Q .non H') :
    Sp4 (p_Machine_init (K := K)) c [.ref x, iV m.w, .ref tl, .ref la] (upd (upd H1 dx (.own x)) x (.ins (He.ga K "Machine") dx [])) Q E := by
  have s0 : L2.Same H1 (upd (upd H1 dx (.own x)) x (.ins (He.ga K "Machine") dx [])) := same_upd2 (same_upd nd) nx
  refine ⟨_, _, _, _, rfl, x, dx, m, tl, la, rfl, rfl, rfl, rfl, ok, upd_same, ht.same fun b xs e => s0 _ _ e, s0 _ _ hla, fun H' Hm hm h1 h2 => q H' ⟨Hm, hm, fun b o e => ⟨(h1 b o e).1, ?_⟩⟩ ?_⟩
  · rcases (h1 b o e).2 with z | z
    · rw [z]; exact nx
    · exact s0.free z
  · intro b o e
    exact h2 b o (s0 _ _ e) (ne_of_none e nx)
/-! ### its methods -/
def p_Machine_size : Q1 := fun _ self H Q _ => ∃ (p : Addr) (m : M), self = .ref p ∧ MachAt K H p m ∧ Q (iV m.tab.length) H
theorem ok_Machine_size (T : Txt P w K mg) : FnQ P w K mg base 1 (sizeAd K) 1 (Sp1 (p_Machine_size (K := K))) := by
  refine fnQ1 T.F_Machine_size sc_Machine_size (fun _ _ _ _ _ _ us hl => match us, hl with | [_], _ => rfl) fun cdv A outer s H self Q E l qa hr h => ?_
  obtain ⟨p, m, rfl, ⟨dx, tl, la, h1, ⟨ls, t1, t2, t3⟩, h3⟩, q⟩ := h
  refine ⟨_, (pss_one (ps_ret (pe_callB call_len_seq rfl T.free_len PySem.boot_len (pa_cons (pe_fld (pv 0) rfl) pa_nil)))), ?_⟩
  refine ⟨_, rfl, p, _, dx, _, _, rfl, h1, T.c_Machine, T.n_Machine_table, mf_table _ _ _, tl, _, rfl, .inl (SqL.of t1), ?_⟩
  exact qi (Q := Q) (by rw [List.length_map, t2]) q
def p_Machine_behind : Q2 := fun _ self a H Q _ => ∃ (p b : Addr) (m : M) (wd : List Nat), self = .ref p ∧ a = .ref b ∧ MachAt K H p m ∧ m.Ok ∧ H b = some (.lst (natsV wd)) ∧ (∀ x ∈ wd, x < 2 ^ m.w) ∧ Q (iV (m.run 0 wd)) H
theorem M.run_snoc (m : M) (s : Nat) (wd : List Nat) (a : Nat) : m.run s (wd ++ [a]) = m.st (m.run s wd) a := by unfold M.run; rw [List.foldl_append]; rfl
theorem M.Ok.run_lt {m : M} (o : m.Ok) {s : Nat} (hs : s < m.tab.length) : ∀ wd, m.run s wd < m.tab.length := fun wd => by
  induction wd generalizing s with
  | nil => exact hs
  | cons a wd ih => exact ih o.st_lt
theorem ok_Machine_behind (T : Txt P w K mg) : FnQ P w K mg base 1 (He.ma K (He.ga K "Machine") "behind") 2 (Sp2 (p_Machine_behind (K := K))) := by
  refine fnQ2 T.F_Machine_behind sc_Machine_behind (fun _ _ _ _ _ _ us hl => match us, hl with | [_, _], _ => rfl) fun cdv A outer s H self a Q E l qa hr h => ?_
  obtain ⟨p, b, m, wd, rfl, rfl, ⟨dx, tl, la, h1, ht, h3⟩, ok, hb, hw, q⟩ := h
  refine ⟨_, (pss_cons (ps_set (i := 2) sc_Machine_behind.nd rfl (Or.inl rfl) pe_int)
      (pss_cons (ps_forQ PassesOwn.leaving (cxQ_quiet qa) (piL (pv 1)) (pg_name (i := 3) sc_Machine_behind.nd rfl (Or.inl rfl)) (pss_one (ps_set (i := 2) sc_Machine_behind.nd rfl (Or.inl rfl) (pe_ix ix_list (pe_ix ix_list (pe_fld (pv 0) rfl) (pv 2) (fun _ _ => rfl)) (pv 3) (fun _ _ => rfl)))))
      (pss_one (ps_ret (pv 2))))), ?_⟩
  refine ⟨_, rfl, b, rfl, ⟨_, SqL.of hb⟩, ?_⟩
  refine for_list (xs := natsV wd) (fun i σ H2 => H2 = H ∧ ∃ o, σ = [some (.ref p), some (.ref b), some (iV (m.run 0 (wd.take i))), o]) ⟨rfl, _, rfl⟩ (fun i σ H2 _ h => by rw [h.1]; exact SqL.of hb) ?_ ?_
  · rintro i x σ H2 hx ⟨rfl, o, rfl⟩
    obtain ⟨n, hn, rfl⟩ := map_at hx
    have hs := ok.run_lt ok.pos (wd.take i)
    obtain ⟨r, hr1, hr2⟩ := ok.st_at hs (hw n (List.mem_of_getElem? hn))
    obtain ⟨ls', ra, g1, g2, g3⟩ := ht.row hr1
    have r1 : (natsV r)[n]? = some (iV (m.st (m.run 0 (wd.take i)) n)) := by rw [List.getElem?_map, hr2]; rfl
    refine ⟨_, rfl, p, _, dx, _, _, rfl, h1, T.c_Machine, T.n_Machine_table, mf_table _ _ _, _, rfl, tl, _, _, _, rfl, rfl, SqL.of g1, atI_nat g2, _, rfl, ra, _, _, _, rfl, rfl, SqL.of g3, atI_nat r1, rfl, some (iV n), ?_⟩
    rw [take_snoc hn, M.run_snoc]
    rfl
  · rintro σ H2 ⟨rfl, o, rfl⟩
    refine ⟨_, rfl, ?_⟩
    rw [show (natsV wd).length = wd.length from List.length_map _, List.take_length]
    exact q
def p_Machine_accepts : Q2 := fun _ self a H Q _ => ∃ (p b : Addr) (m : M) (wd : List Nat), self = .ref p ∧ a = .ref b ∧ MachAt K H p m ∧ m.Ok ∧ H b = some (.lst (natsV wd)) ∧ (∀ x ∈ wd, x < 2 ^ m.w) ∧ Q (.bl (m.accs (m.run 0 wd))) H
theorem ok_Machine_accepts (T : Txt P w K mg) : FnQ P w K mg base 2 (He.ma K (He.ga K "Machine") "accepts") 2 (Sp2 (p_Machine_accepts (K := K))) := by
  refine fnQ2 T.F_Machine_accepts sc_Machine_accepts (fun _ _ _ _ _ _ us hl => match us, hl with | [_, _], _ => rfl) fun cdv A outer s H self a Q E l qa hr h => ?_
  obtain ⟨p, b, m, wd, rfl, rfl, hm, ok, hb, hw, q⟩ := h
  obtain ⟨dx, tl, la, h1, ht, h3⟩ := id hm
  have a1 : (m.acc.map V.bl)[m.run 0 wd]? = some (.bl (m.accs (m.run 0 wd))) := by rw [List.getElem?_map, ok.accs_at (ok.run_lt ok.pos wd)]; rfl
  refine ⟨_, (pss_one (ps_ret (pe_ix ix_list (pe_fld (pv 0) rfl) (pe_methQ (pv 0) T.c_Machine T.m_Machine_behind (ok_Machine_behind T) (hr.mono (by omega)) (cxQ_quiet qa) pass0 (pa_cons (pv 1) pa_nil)) (fun _ _ => rfl)))), ?_⟩
  refine ⟨_, rfl, p, _, dx, _, _, rfl, h1, T.c_Machine, T.n_Machine_accepting, mf_acc _ _ _, _, rfl, p, dx, _, rfl, h1, mf_no _ _ _ (by decide +kernel) (by decide +kernel) (by decide +kernel), _, rfl,
    _, _, rfl, p, b, m, wd, rfl, rfl, hm, ok, hb, hw, la, _, _, _, rfl, rfl, SqL.of h3, atI_nat a1, q⟩
def p_Machine_takes : Q2 := fun _ self a H Q _ => ∃ (p b : Addr) (m : M) (ns : List Nat), self = .ref p ∧ a = .ref b ∧ MachAt K H p m ∧ m.Ok ∧ H b = some (.tup (natsV ns)) ∧ ns.length = m.w ∧ (∀ n ∈ ns, n < 2 ^ 40) ∧
  ∀ wd H', L2.Same H H' → WordOf ns wd → Q (.bl (m.accs (m.run 0 wd))) H'
theorem lof_lt : ∀ (ds : List Nat), (∀ d ∈ ds, d < 2) → lof ds < 2 ^ ds.length
  | [], _ => by simp [lof]
  | d :: ds, h => by
    have h1 := lof_lt ds fun x hx => h x (List.mem_cons_of_mem _ hx)
    have h2 := h d List.mem_cons_self
    simp only [lof, List.length_cons, Nat.pow_succ]
    omega
theorem WordOf.lt {ns wd : List Nat} (h : WordOf ns wd) : ∀ x ∈ wd, x < 2 ^ ns.length := by
  induction h with
  | nil _ => intro x hx; cases hx
  | @cons ns wd _ _ ih =>
    intro x hx
    rcases List.mem_cons.mp hx with rfl | hx
    · have := lof_lt (ns.map (· % 2)) fun d hd => by
        obtain ⟨n, _, rfl⟩ := List.mem_map.mp hd
        exact Nat.mod_lt _ (by decide)
      rw [List.length_map] at this
      exact this
    · have := ih x hx
      rw [List.length_map] at this
      exact this
theorem ok_Machine_takes (T : Txt P w K mg) : FnQ P w K mg base 3 (He.ma K (He.ga K "Machine") "takes") 2 (Sp2 (p_Machine_takes (K := K))) := by
  refine fnQ2 T.F_Machine_takes sc_Machine_takes (fun _ _ _ _ _ _ us hl => match us, hl with | [_, _], _ => rfl) fun cdv A outer s H self a Q E l qa hr h => ?_
  obtain ⟨p, b, m, ns, rfl, rfl, hm, ok, hb, hl, hn, q⟩ := h
  obtain ⟨dx, tl, la, h1, ht, h3⟩ := id hm
  have w6 := ok.w6
  refine ⟨_, (pss_cons (ps_if (pt_cmpR op_ne (pe_callB call_len_seq rfl T.free_len PySem.boot_len (pa_cons (pv 1) pa_nil)) (pe_fld (pv 0) rfl) (nomark _)) pss_never pss_nil)
      (pss_one (ps_ret (pe_methQ (pv 0) T.c_Machine T.m_Machine_accepts (ok_Machine_accepts T) (hr.mono (by omega)) (cxQ_quiet qa) pass0 (pa_cons (pe_callQ (ok_word_of T) (hr.mono (by omega)) (cxQ_quiet qa) T.g_word_of pass0 (pa_cons (pv 1) pa_nil)) pa_nil))))), ?_⟩
  refine ⟨_, rfl, b, _, rfl, .inr (SqT.of hb), _, rfl, p, _, dx, _, _, rfl, h1, T.c_Machine, T.n_Machine_width, mf_width _ _ _, rfl, false, nF (by rw [List.length_map, hl]), ?_⟩
  refine ⟨_, rfl, p, dx, _, rfl, h1, mf_no _ _ _ (by decide +kernel) (by decide +kernel) (by decide +kernel), _, rfl, _, rfl, b, ns, rfl, fun _ => .inr (SqT.of hb), by omega, hn, fun H' r wd s1 nr hr' hw hl' => ?_⟩
  exact ⟨_, _, rfl, p, r, m, wd, rfl, rfl, hm.same s1, ok, hr', fun x hx => by rw [← hl]; exact hw.lt x hx, q wd H' s1 hw⟩
end
end K36
/-! K36W3: the class Search -/
namespace K36
open PySem PySem.Spec PyProof.Rows L2 HotX
/-! ### places -/
def plc : Nat → List NK → List (NK × V)
  | _, [] => []
  | n, k :: r => (k, iV n) :: plc (n + 1) r
theorem plc_snoc : ∀ (ks : List NK) (n : Nat) (k : NK), plc n (ks ++ [k]) = plc n ks ++ [(k, iV (n + ks.length))]
  | [], n, k => rfl
  | x :: ks, n, k => by
    show (x, iV n) :: plc (n + 1) (ks ++ [k]) = _
    rw [plc_snoc ks (n + 1) k]
    show _ = (x, iV n) :: (plc (n + 1) ks ++ _)
    rw [List.length_cons, show n + 1 + ks.length = n + (ks.length + 1) by omega]
theorem plc_val : ∀ (ks : List NK) (n : Nat) (k : NK), valV (plc n ks) k = if k ∈ ks then some (iV (n + ks.idxOf k)) else none
  | [], n, k => rfl
  | x :: ks, n, k => by
    show valV ((x, iV n) :: plc (n + 1) ks) k = _
    by_cases e : x = k
    · rw [valV_pos e, if_pos (by rw [e]; exact List.mem_cons_self), e, List.idxOf_cons_self]
      rfl
    · rw [valV_neg e, plc_val ks (n + 1) k]
      by_cases hk : k ∈ ks
      · rw [if_pos hk, if_pos (List.mem_cons_of_mem _ hk), show (x :: ks).idxOf k = ks.idxOf k + 1 by rw [List.idxOf_cons, show (x == k) = false from beq_eq_false_iff_ne.mpr e]; rfl, show n + 1 + ks.idxOf k = n + (ks.idxOf k + 1) by omega]
      · rw [if_neg hk, if_neg (fun z => (List.mem_cons.mp z).elim (fun q => e q.symm) hk)]
theorem plc_keys : ∀ (ks : List NK) (n : Nat) (kv : NK × V), kv ∈ plc n ks → kv.1 ∈ ks
  | [], _, _, h => nomatch h
  | x :: ks, n, kv, h => by
    rcases List.mem_cons.mp h with rfl | h
    · exact List.mem_cons_self
    · exact List.mem_cons_of_mem _ (plc_keys ks (n + 1) kv h)
theorem plc_len : ∀ (ks : List NK) (n : Nat), (plc n ks).length = ks.length
  | [], _ => rfl
  | _ :: ks, n => congrArg Nat.succ (plc_len ks (n + 1))
/-- what place does: none is too many -/
def placeF (keys : List NK) (k : NK) : Option (Nat × List NK) := if k ∈ keys then some (keys.idxOf k, keys) else if keys.length < 400 then some (keys.length, keys ++ [k]) else none
def enterF : List NK → List NK → Option (List Nat × List NK)
  | keys, [] => some ([], keys)
  | keys, k :: ks => match placeF keys k with
    | none => none
    | some (i, keys1) => match enterF keys1 ks with
      | none => none
      | some (r, keys2) => some (i :: r, keys2)
theorem enterF_snoc : ∀ (ks keys : List NK) (k : NK), enterF keys (ks ++ [k]) = match enterF keys ks with
    | none => none
    | some (r, keys1) => match placeF keys1 k with
      | none => none
      | some (i, keys2) => some (r ++ [i], keys2)
  | [], keys, k => by
    show (match placeF keys k with | none => none | some (i, keys1) => match enterF keys1 [] with | none => none | some (r, keys2) => some (i :: r, keys2)) = _
    cases h : placeF keys k with
    | none => simp [enterF, h]
    | some q => obtain ⟨i, k1⟩ := q; simp [enterF, h]
  | x :: ks, keys, k => by
    show (match placeF keys x with | none => none | some (i, keys1) => match enterF keys1 (ks ++ [k]) with | none => none | some (r, keys2) => some (i :: r, keys2)) = _
    cases h : placeF keys x with
    | none => simp [enterF, h]
    | some q =>
      obtain ⟨i, k1⟩ := q
      have ih := enterF_snoc ks k1 k
      cases h2 : enterF k1 ks with
      | none => simp [enterF, h, h2, ih]
      | some q2 =>
        obtain ⟨r, k2⟩ := q2
        cases h3 : placeF k2 k with
        | none => simp [enterF, h, h2, ih, h3]
        | some q3 => obtain ⟨j, k3⟩ := q3; simp [enterF, h, h2, ih, h3]
theorem enterF_none_app : ∀ (ks : List NK) (keys l : List NK), enterF keys ks = none → enterF keys (ks ++ l) = none
  | [], keys, l, h => nomatch h
  | x :: ks, keys, l, h => by
    cases q : placeF keys x with
    | none => simp [enterF, q]
    | some z =>
      obtain ⟨i, k1⟩ := z
      have h' : enterF k1 ks = none := by
        cases r : enterF k1 ks with
        | none => rfl
        | some y => obtain ⟨a, b⟩ := y; simp [enterF, q, r] at h
      simp [enterF, q, enterF_none_app ks k1 l h']
def sf (fa da ra : Addr) : List (Str × V) := [("found", .ref fa), ("places", .ref da), ("rows", .ref ra)]
theorem sf_put (fa da ra : Addr) : putF "rows" (V.ref ra) (putF "places" (V.ref da) (putF "found" (V.ref fa) [])) = sf fa da ra := by
  rw [show putF "found" (V.ref fa) [] = [(("found" : Str), V.ref fa)] from rfl, putF_ne (by decide +kernel), putF_ne (by decide +kernel), show putF "places" (V.ref da) [] = [(("places" : Str), V.ref da)] from rfl, putF_ne (by decide +kernel)]
  rfl
theorem sf_found (fa da ra : Addr) : (sf fa da ra).lookup ("found" : Str) = some (.ref fa) := by rw [← sf_put, lookup_putF, if_neg (by decide +kernel), lookup_putF, if_neg (by decide +kernel), lookup_putF, if_pos rfl]
theorem sf_places (fa da ra : Addr) : (sf fa da ra).lookup ("places" : Str) = some (.ref da) := by rw [← sf_put, lookup_putF, if_neg (by decide +kernel), lookup_putF, if_pos rfl]
theorem sf_rows (fa da ra : Addr) : (sf fa da ra).lookup ("rows" : Str) = some (.ref ra) := by rw [← sf_put, lookup_putF, if_pos rfl]
theorem sf_no (fa da ra : Addr) {f : Str} (h1 : ¬ f = "found") (h2 : ¬ f = "places") (h3 : ¬ f = "rows") : (sf fa da ra).lookup f = none := by
  rw [← sf_put, lookup_putF, if_neg h3, lookup_putF, if_neg h2, lookup_putF, if_neg h1]
  rfl
/-- a Search at p: its lists at fa, ra, its dict at da -/
structure SrAt (P : Program) (w : World) (K : PySem.W.Frag) (H : Hp) (p fa da ra : Addr) (kt : Bool) (keys : List NK) (vs : List V) (rl : List Addr) (rows : List (List Nat)) : Prop where
  ob : ∃ dx, H p = some (.ins (He.ga K "Search") dx (sf fa da ra))
  fl : H fa = some (.lst vs)
  ks : KAll H keys vs
  dp : ∀ k ∈ keys, k.depth ≤ 8 ∧ isTup k = kt
  dn : DN P w H da (plc 0 keys)
  rw : H ra = some (.lst (rl.map V.ref)) ∧ rl.length = rows.length ∧ ∀ (i : Nat) (a : Addr), rl[i]? = some a → ∃ r, rows[i]? = some r ∧ H a = some (.lst (natsV r)) ∧ a ≠ fa ∧ a ≠ ra
  sz : keys.length ≤ 400
  ne : ra ≠ fa
theorem KAll.length {H : Hp} : ∀ {ks : List NK} {vs : List V}, KAll H ks vs → ks.length = vs.length
  | _, _, .nil => rfl
  | _, _, .cons _ t => congrArg Nat.succ (KAll.length t)
theorem KAll.snoc {H : Hp} : ∀ {ks : List NK} {vs : List V} {k : NK} {v : V}, KAll H ks vs → KAt H k v → KAll H (ks ++ [k]) (vs ++ [v])
  | _, _, _, _, .nil, q => .cons q .nil
  | _, _, _, _, .cons r t, q => .cons r (KAll.snoc t q)
theorem KAll.at_ {H : Hp} : ∀ {ks : List NK} {vs : List V} {i : Nat} {v : V}, KAll H ks vs → vs[i]? = some v → ∃ k, ks[i]? = some k ∧ KAt H k v
  | _, _, 0, _, .cons r _, e => by cases e; exact ⟨_, rfl, r⟩
  | _, _, i + 1, _, .cons _ t, e => by
    obtain ⟨k, h1, h2⟩ := KAll.at_ (i := i) t (by simpa using e)
    exact ⟨k, by simpa using h1, h2⟩
theorem SrAt.keep {P : Program} {w : World} {K : PySem.W.Frag} {H H' : Hp} {p fa da ra : Addr} {kt : Bool} {keys : List NK} {vs : List V} {rl : List Addr} {rows : List (List Nat)} (s : SrAt P w K H p fa da ra kt keys vs rl rows) (f : L2.Same H H') : SrAt P w K H' p fa da ra kt keys vs rl rows where
  ob := let ⟨dx, e⟩ := s.ob; ⟨dx, f _ _ e⟩
  fl := f _ _ s.fl
  ks := s.ks.keep fun b xs e => f _ _ e
  dp := s.dp
  dn := by
    obtain ⟨φ, e⟩ := s.dn.some
    exact s.dn.keep ((f _ _ e).trans e.symm) fun b xs e => f _ _ e
  rw := let ⟨h1, h2, h3⟩ := s.rw; ⟨f _ _ h1, h2, fun i a e => let ⟨r, g1, g2, g3⟩ := h3 i a e; ⟨r, g1, f _ _ g2, g3⟩⟩
  sz := s.sz
  ne := s.ne
/-- a list D that is none of it is written -/
theorem SrAt.but {P : Program} {w : World} {K : PySem.W.Frag} {H H' : Hp} {p fa da ra D : Addr} {kt : Bool} {keys : List NK} {vs : List V} {rl : List Addr} {rows : List (List Nat)} {us : List V} (s : SrAt P w K H p fa da ra kt keys vs rl rows) (hD : H D = some (.lst us))
    (f : ∀ b o, H b = some o → b ≠ D → H' b = some o) (h1 : fa ≠ D) (h2 : ra ≠ D) (h3 : D ∉ rl) : SrAt P w K H' p fa da ra kt keys vs rl rows where
  ob := let ⟨dx, e⟩ := s.ob; ⟨dx, f _ _ e (ne_of e hD (fun z => by cases z))⟩
  fl := f _ _ s.fl h1
  ks := s.ks.keep fun b xs e => f _ _ e (ne_of e hD (fun z => by cases z))
  dp := s.dp
  dn := by
    obtain ⟨φ, e⟩ := s.dn.some
    exact s.dn.keep ((f _ _ e (ne_of e hD (fun z => by cases z))).trans e.symm) fun b xs e => f _ _ e (ne_of e hD (fun z => by cases z))
  rw := let ⟨g1, g2, g3⟩ := s.rw; ⟨f _ _ g1 h2, g2, fun i a e => let ⟨r, k1, k2, k3⟩ := g3 i a e; ⟨r, k1, f _ _ k2 (fun z => h3 (z ▸ List.mem_of_getElem? e)), k3⟩⟩
  sz := s.sz
  ne := s.ne
section
variable {P : Program} {w : World} {K : PySem.W.Frag} {mg : Str → Option Value} {base : Heap}
/-- what is asked where too many are found: nothing is in hand, and the error with its dict at d, all but S as before -/
def ovS (K : PySem.W.Frag) (S : List Addr) (c : Bool) (H : Hp) (E : XK) : Prop := c = true ∧ ∀ d H', H d = none → H' d = some (.xd [("limit", .str "states")]) → Fx S H H' → E (.ref (He.ga K "Oversized")) (some d) H'
theorem ovS.same {K : PySem.W.Frag} {S S' : List Addr} {c : Bool} {H H1 : Hp} {E : XK} (o : ovS K S c H E) (s : L2.Same H H1) (n : ∀ b ∈ S', b ∈ S ∨ H b = none) : ovS K S' c H1 E :=
  ⟨o.1, fun d H' nd hd fx => o.2 d H' (s.free nd) hd ⟨fun b v e h => fx.keep b v (s b v e) fun z => (n b z).elim h (fun y => by rw [y] at e; cases e), fun b xs e => fx.tup b xs (s b _ e)⟩⟩
def p_Search_place : Q2 := fun c self a H Q E => ∃ (p fa da ra : Addr) (keys : List NK) (vs : List V) (rl : List Addr) (rows : List (List Nat)) (k : NK), self = .ref p ∧ SrAt P w K H p fa da ra (isTup k) keys vs rl rows ∧ KAt H k a ∧ k.depth ≤ 8 ∧
  (∀ i keys', placeF keys k = some (i, keys') → ∀ H' vs', SrAt P w K H' p fa da ra (isTup k) keys' vs' rl rows → Fx [fa, da] H H' → (∀ v ∈ vs', v ∈ vs ∨ v = a) → Q (iV i) H') ∧ (placeF keys k = none → ovS K [] c H E)
theorem ok_Search_place (T : Txt P w K mg) : FnQ P w K mg base 3 (He.ma K (He.ga K "Search") "place") 2 (Sp2 (p_Search_place (P := P) (w := w) (K := K))) := by
  refine fnQ2 T.F_Search_place sc_Search_place (fun _ _ _ _ _ _ us hl => match us, hl with | [_, _], _ => rfl) fun cdv A outer s H self a Q E l qa hr h => ?_
  obtain ⟨p, fa, da, ra, keys, vs, rl, rows, k, rfl, sr, ka, kd, q1, q2⟩ := h
  obtain ⟨dx, h1⟩ := sr.ob
  have hom : Hom (plc 0 keys) k := fun kv h => (sr.dp _ (plc_keys _ _ _ h)).2
  refine ⟨_, (pss_cons (ps_if (pt_cmp (pc_nnotin (huQ hr) (pv 1) (pe_fld (pv 0) rfl))) (pss_cons (ps_if (pt_cmpR op_ge (pe_callB call_len_seq rfl T.free_len PySem.boot_len (pa_cons (pe_fld (pv 0) rfl) pa_nil)) (pe_glob (v := .int 400) rfl T.i_STATES.choose_spec ⟨_, rfl⟩) (nomark _)) (pss_one (ps_raiseQ cxQ_takes (pmk_over (k := 0) T.over (hr.mono (by omega)) pe_str rfl))) pss_nil)
        (pss_cons (ps_nput (huQ hr) (pe_fld (pv 0) rfl) (pv 1) (pe_callB call_len_seq rfl T.free_len PySem.boot_len (pa_cons (pe_fld (pv 0) rfl) pa_nil)))
        (pss_one (ps_expr (pe_bm PySem.F.plainAttrs_list PySem.F.slot_list_append PySem.F.type_list_append mt_append (pe_fld (pv 0) rfl) (pa_cons (pv 1) pa_nil)))))) pss_nil)
      (pss_one (ps_ret (pe_nget (huQ hr) (pe_fld (pv 0) rfl) (pv 1) (fun _ _ => rfl))))), ?_⟩
  refine ⟨_, rfl, _, rfl, p, _, dx, _, _, rfl, h1, T.c_Search, T.n_Search_places, sf_places _ _ _, da, _, rfl, ⟨_, k, sr.dn, ka, kd, hom, rfl⟩, _, rfl, ?_⟩
  rw [plc_val]
  by_cases hk : k ∈ keys
  · have e : placeF keys k = some (keys.idxOf k, keys) := by unfold placeF; rw [if_pos hk]
    rw [if_pos hk]
    refine ⟨_, rfl, p, _, dx, _, _, rfl, h1, T.c_Search, T.n_Search_places, sf_places _ _ _, _, rfl, da, iV (keys.idxOf k), rfl, ⟨_, k, sr.dn, ka, kd, hom, ?_⟩, q1 _ _ e H vs sr (same_fx (Same.refl H)) fun v hv => .inl hv⟩
    rw [plc_val, if_pos hk, Nat.zero_add]
  · rw [if_neg hk]
    have kl := sr.ks.length
    refine ⟨_, rfl, p, _, dx, _, _, rfl, h1, T.c_Search, T.n_Search_found, sf_found _ _ _, fa, _, rfl, .inl (SqL.of sr.fl), _, _, rfl, rfl, ?_⟩
    by_cases hz : keys.length < 400
    · have e : placeF keys k = some (keys.length, keys ++ [k]) := by unfold placeF; rw [if_neg hk, if_pos hz]
      refine ⟨false, dF (by rw [← kl]; omega), ?_⟩
      refine ⟨_, rfl, p, _, dx, _, _, rfl, h1, T.c_Search, T.n_Search_found, sf_found _ _ _, fa, _, rfl, .inl (SqL.of sr.fl), _, rfl, p, _, dx, _, _, rfl, h1, T.c_Search, T.n_Search_places, sf_places _ _ _, _, rfl, da, rfl, _, k, sr.dn, ka, kd, hom, ?_, ?_, fun o dn2 => ?_⟩
      · rw [plc_val, if_neg hk]
      · rw [plc_len, sizeLine_eq]; omega
      obtain ⟨φ, hda⟩ := sr.dn.some
      have pd : p ≠ da := ne_of h1 hda (fun z => by cases z)
      have fd : fa ≠ da := ne_of sr.fl hda (fun z => by cases z)
      have pf : p ≠ fa := ne_of h1 sr.fl (fun z => by cases z)
      have h2 : upd H da o p = some (.ins (He.ga K "Search") dx (sf fa da ra)) := by rw [upd_ne pd]; exact h1
      have f2 : upd H da o fa = some (.lst vs) := by rw [upd_ne fd]; exact sr.fl
      have x2 : Fx [fa, da] H (upd H da o) := fx_upd (by simp) fun xs z => by rw [hda] at z; cases z
      generalize upd H da o = H2 at dn2 h2 f2 x2 ⊢
      refine ⟨_, rfl, p, _, dx, _, _, rfl, h2, T.c_Search, T.n_Search_found, sf_found _ _ _, .inl ⟨rfl, _, SqL.of f2⟩, _, rfl, fa, _, _, rfl, rfl, f2, by rw [← kl, sizeLine_eq]; omega, ?_⟩
      have x3 : Fx [fa, da] H2 (upd H2 fa (.lst (vs ++ [a]))) := fx_upd (by simp) fun xs z => by rw [f2] at z; cases z
      have h3 : upd H2 fa (.lst (vs ++ [a])) p = some (.ins (He.ga K "Search") dx (sf fa da ra)) := by rw [upd_ne pf]; exact h2
      have d3 : DN P w (upd H2 fa (.lst (vs ++ [a]))) da (plc 0 (keys ++ [k])) := by
        have e3 : plc 0 (keys ++ [k]) = plc 0 keys ++ [(k, iV keys.length)] := by rw [plc_snoc, Nat.zero_add]
        rw [e3, kl]
        exact dn2.keep (upd_ne (fun z => fd z.symm)) x3.tup
      have f3 : upd H2 fa (.lst (vs ++ [a])) fa = some (.lst (vs ++ [a])) := upd_same
      have x4 := x2.trans x3
      generalize upd H2 fa (.lst (vs ++ [a])) = H3 at x4 h3 d3 f3 ⊢
      have ml : (keys ++ [k]).length ≤ 400 := by rw [List.length_append, List.length_singleton]; omega
      refine ⟨_, rfl, p, _, dx, _, _, rfl, h3, T.c_Search, T.n_Search_places, sf_places _ _ _, _, rfl, da, iV keys.length, rfl, ⟨_, k, d3, ka.keep x4.tup, kd, fun kv h => ?_, ?_⟩, q1 _ _ e H3 (vs ++ [a]) ⟨⟨dx, h3⟩, f3, (sr.ks.keep x4.tup).snoc (ka.keep x4.tup), fun k' hk' => ?_, d3, ?_, ml, sr.ne⟩ x4 fun v hv => ?_⟩
      · rcases List.mem_append.mp (plc_keys _ _ _ h) with z | z
        · exact (sr.dp _ z).2
        · rw [List.mem_singleton.mp z]
      · rw [plc_val, if_pos (by simp), Nat.zero_add, List.idxOf_append, if_neg hk]
        simp
      · rcases List.mem_append.mp hk' with z | z
        · exact sr.dp _ z
        · rw [List.mem_singleton.mp z]; exact ⟨kd, rfl⟩
      · obtain ⟨r1, r2, r3⟩ := sr.rw
        have nd : ∀ b xs, H b = some (.lst xs) → b ≠ da := fun b xs z => ne_of z hda (fun y => by cases y)
        have kp : ∀ b xs, H b = some (.lst xs) → b ≠ fa → H3 b = some (.lst xs) := fun b xs z n => x4.keep b _ z (by simp [n, nd b xs z])
        exact ⟨kp _ _ r1 sr.ne, r2, fun i a e => let ⟨r, g1, g2, g3, g4⟩ := r3 i a e; ⟨r, g1, kp _ _ g2 g3, g3, g4⟩⟩
      · rcases List.mem_append.mp hv with z | z
        · exact .inl z
        · exact .inr (List.mem_singleton.mp z)
    · have e : placeF keys k = none := by unfold placeF; rw [if_neg hk, if_neg hz]
      refine ⟨true, dT (by rw [← kl]; omega), ?_⟩
      obtain ⟨c1, c2⟩ := q2 e
      exact ⟨c1, "states", rfl, fun d nd => c2 d _ nd upd_same (same_fx (same_upd nd))⟩
def p_Search_init : Q2 := fun _ self a H Q _ => ∃ (p dx : Addr) (k : NK), self = .ref p ∧ H p = some (.ins (He.ga K "Search") dx []) ∧ KAt H k a ∧ k.depth ≤ 8 ∧
  ∀ H' fa da ra, SrAt P w K H' p fa da ra (isTup k) [k] [a] [] [] → H fa = none → H da = none → H ra = none → (∀ b o, H b = some o → b ≠ p → H' b = some o) → Q .non H'
theorem ok_Search_init (T : Txt P w K mg) : FnQ P w K mg base 1 (He.ma K (He.ga K "Search") "__init__") 2 (Sp2 (p_Search_init (P := P) (w := w) (K := K))) := by
  refine fnQ2 T.F_Search_init sc_Search_init (fun _ _ _ _ _ _ us hl => match us, hl with | [_, _], _ => rfl) fun cdv A outer s H self a Q E l qa hr h => ?_
  obtain ⟨p, dx, k, rfl, hp, ka, kd, q⟩ := h
  refine ⟨_, (pss_cons (ps_fld (pv 0) (pe_lst (pa_cons (pv 1) pa_nil)) rfl)
      (pss_cons (ps_fld (pv 0) (pe_ndisp (huQ hr) (pv 1) pe_int) rfl)
      (pss_one (ps_fld (pv 0) (pe_lst pa_nil) rfl)))), ?_⟩
  refine ⟨_, rfl, by show 1 ≤ sizeLine; decide, fun fa nf => ⟨_, rfl, p, _, dx, [], rfl, ?_, T.c_Search, T.n_Search_found, (by show 0 < 1000; decide), ?_⟩⟩
  · rw [upd_ne (ne_of_none hp nf)]; exact hp
  have pf : p ≠ fa := ne_of_none hp nf
  have x1 : ∀ b o, H b = some o → b ≠ p → upd (upd H fa (.lst [a])) p (.ins (He.ga K "Search") dx (putF "found" (V.ref fa) [])) b = some o := fun b o e n => by rw [upd_ne n, upd_ne (ne_of_none e nf)]; exact e
  have p1 : upd (upd H fa (.lst [a])) p (.ins (He.ga K "Search") dx (putF "found" (V.ref fa) [])) p = some (.ins (He.ga K "Search") dx (putF "found" (V.ref fa) [])) := upd_same
  have f1 : upd (upd H fa (.lst [a])) p (.ins (He.ga K "Search") dx (putF "found" (V.ref fa) [])) fa = some (.lst [a]) := by rw [upd_ne pf.symm]; exact upd_same
  have tupP : ∀ b xs, H b = some (.tup xs) → b ≠ p := fun b xs e => ne_of e hp (fun z => by cases z)
  generalize upd (upd H fa (.lst [a])) p (.ins (He.ga K "Search") dx (putF "found" (V.ref fa) [])) = H1 at x1 p1 f1 ⊢
  refine ⟨isTup k, fun da nd => ?_⟩
  have pd : p ≠ da := ne_of_none p1 nd
  have fd : fa ≠ da := ne_of_none f1 nd
  have ka1 : KAt (upd H1 da (ho0 P w (isTup k) da)) k a := ka.keep fun b xs e => by rw [upd_ne (ne_of_none (x1 _ _ e (tupP b xs e)) nd)]; exact x1 _ _ e (tupP b xs e)
  refine ⟨_, rfl, a, _, rfl, upd_same, k, ka1, kd, rfl, fun o dn => ?_⟩
  rw [upd_upd] at dn ⊢
  refine ⟨_, rfl, p, _, dx, _, rfl, by rw [upd_ne pd]; exact p1, T.c_Search, T.n_Search_places, (by show 1 < 1000; decide), ?_⟩
  have x2 : ∀ b o', H b = some o' → b ≠ p → upd (upd H1 da o) p (.ins (He.ga K "Search") dx (putF "places" (V.ref da) (putF "found" (V.ref fa) []))) b = some o' := fun b o' e n => by rw [upd_ne n, upd_ne (ne_of_none (x1 _ _ e n) nd)]; exact x1 _ _ e n
  have p2 : upd (upd H1 da o) p (.ins (He.ga K "Search") dx (putF "places" (V.ref da) (putF "found" (V.ref fa) []))) p = some (.ins (He.ga K "Search") dx (putF "places" (V.ref da) (putF "found" (V.ref fa) []))) := upd_same
  have f2 : upd (upd H1 da o) p (.ins (He.ga K "Search") dx (putF "places" (V.ref da) (putF "found" (V.ref fa) []))) fa = some (.lst [a]) := by rw [upd_ne pf.symm, upd_ne fd]; exact f1
  have d2 : DN P w (upd (upd H1 da o) p (.ins (He.ga K "Search") dx (putF "places" (V.ref da) (putF "found" (V.ref fa) [])))) da [(k, iV 0)] := dn.keep (upd_ne pd.symm) fun b xs e => by
    rw [upd_ne]
    · exact e
    · refine ne_of e (by rw [upd_ne pd]; exact p1) (fun z => by cases z)
  generalize upd (upd H1 da o) p (.ins (He.ga K "Search") dx (putF "places" (V.ref da) (putF "found" (V.ref fa) []))) = H2 at x2 p2 f2 d2 ⊢
  refine ⟨by decide, fun ra nr => ?_⟩
  have pr : p ≠ ra := ne_of_none p2 nr
  have fr : fa ≠ ra := ne_of_none f2 nr
  obtain ⟨φ, hda⟩ := d2.some
  have dr : da ≠ ra := ne_of_none hda nr
  refine ⟨_, rfl, p, _, dx, _, rfl, by rw [upd_ne pr]; exact p2, T.c_Search, T.n_Search_rows, ?_, ?_⟩
  · rw [show putF "found" (V.ref fa) [] = [(("found" : Str), V.ref fa)] from rfl, putF_ne (by decide +kernel)]
    show 2 < 1000
    decide
  rw [sf_put]
  have nn : ∀ q : Addr, H2 q = none → q ≠ p → H q = none := fun q n m => by
    cases z : H q with
    | none => rfl
    | some o => rw [x2 _ _ z m] at n; cases n
  have n1 : ∀ q : Addr, H1 q = none → q ≠ p → H q = none := fun q n m => by
    cases z : H q with
    | none => rfl
    | some o => rw [x1 _ _ z m] at n; cases n
  have x3 : ∀ b o', H b = some o' → b ≠ p → upd (upd H2 ra (.lst [])) p (.ins (He.ga K "Search") dx (sf fa da ra)) b = some o' := fun b o' e n => by rw [upd_ne n, upd_ne (ne_of_none (x2 _ _ e n) nr)]; exact x2 _ _ e n
  refine q _ fa da ra ⟨⟨dx, upd_same⟩, by rw [upd_ne pf.symm, upd_ne fr]; exact f2, .cons (ka.keep fun b xs e => x3 _ _ e (tupP b xs e)) .nil, fun k' h => by rw [List.mem_singleton.mp h]; exact ⟨kd, rfl⟩, ?_, ⟨?_, rfl, fun i a e => by simp at e⟩, (by show 1 ≤ 400; decide), fr.symm⟩ nf (n1 da nd pd.symm) (nn ra nr pr.symm) x3
  · exact d2.keep (by rw [upd_ne pd.symm, upd_ne dr]) fun b xs e => by
      rw [upd_ne (ne_of e p2 (fun z => by cases z)), upd_ne (ne_of_none e nr)]; exact e
  · rw [upd_ne pr.symm]; exact upd_same
/-- what Search(start) asks -/
theorem make_search {c : Bool} {E : XK} {H1 : Hp} {Q : VK} {k : NK} {v : V} {x dx : Addr} (nx : H1 x = none) (nd : H1 dx = none) (kv : KAt H1 k v) (kd : k.depth ≤ 8) (q : ∀ fa da ra H', SrAt P w K H' x fa da ra (isTup k) [k] [v] [] [] → H1 fa = none → H1 da = none → H1 ra = none → L2.Same H1 H' → Q .non H') :
    Sp2 (p_Search_init (P := P) (w := w) (K := K)) c [.ref x, v] (upd (upd H1 dx (.own x)) x (.ins (He.ga K "Search") dx [])) Q E := by
  have s0 : L2.Same H1 (upd (upd H1 dx (.own x)) x (.ins (He.ga K "Search") dx [])) := same_upd2 (same_upd nd) nx
  exact ⟨_, _, rfl, x, dx, k, rfl, upd_same, kv.keep fun b xs e => s0 _ _ e, kd, fun H' fa da ra sr n1 n2 n3 h => q fa da ra H' sr (s0.free n1) (s0.free n2) (s0.free n3) fun b o e => h b o (s0 _ _ e) (ne_of_none e nx)⟩
def p_Search_waiting : Q1 := fun _ self H Q _ => ∃ (p fa da ra : Addr) (kt : Bool) (keys : List NK) (vs : List V) (rl : List Addr) (rows : List (List Nat)), self = .ref p ∧ SrAt P w K H p fa da ra kt keys vs rl rows ∧ Q (.bl (decide (rows.length < keys.length))) H
theorem ok_Search_waiting (T : Txt P w K mg) : FnQ P w K mg base 1 (He.ma K (He.ga K "Search") "waiting") 1 (Sp1 (p_Search_waiting (P := P) (w := w) (K := K))) := by
  refine fnQ1 T.F_Search_waiting sc_Search_waiting (fun _ _ _ _ _ _ us hl => match us, hl with | [_], _ => rfl) fun cdv A outer s H self Q E l qa hr h => ?_
  obtain ⟨p, fa, da, ra, kt, keys, vs, rl, rows, rfl, sr, q⟩ := h
  obtain ⟨dx, h1⟩ := sr.ob
  obtain ⟨r1, r2, _⟩ := sr.rw
  have kl := sr.ks.length
  refine ⟨_, (pss_one (ps_ret (pe_cmpR op_lt (pe_callB call_len_seq rfl T.free_len PySem.boot_len (pa_cons (pe_fld (pv 0) rfl) pa_nil)) (pe_callB call_len_seq rfl T.free_len PySem.boot_len (pa_cons (pe_fld (pv 0) rfl) pa_nil)) (nomark _)))), ?_⟩
  refine ⟨_, rfl, p, _, dx, _, _, rfl, h1, T.c_Search, T.n_Search_rows, sf_rows _ _ _, ra, _, rfl, .inl (SqL.of r1), _, rfl, p, _, dx, _, _, rfl, h1, T.c_Search, T.n_Search_found, sf_found _ _ _, fa, _, rfl, .inl (SqL.of sr.fl), _, _, rfl, rfl, qb (Q := Q) ?_ q⟩
  rw [List.length_map, r2, ← kl]
  exact decide_eq_decide.mpr (by omega)
def p_Search_current : Q1 := fun _ self H Q _ => ∃ (p fa da ra : Addr) (kt : Bool) (keys : List NK) (vs : List V) (rl : List Addr) (rows : List (List Nat)) (v : V), self = .ref p ∧ SrAt P w K H p fa da ra kt keys vs rl rows ∧ vs[rows.length]? = some v ∧ Q v H
theorem ok_Search_current (T : Txt P w K mg) : FnQ P w K mg base 1 (He.ma K (He.ga K "Search") "current") 1 (Sp1 (p_Search_current (P := P) (w := w) (K := K))) := by
  refine fnQ1 T.F_Search_current sc_Search_current (fun _ _ _ _ _ _ us hl => match us, hl with | [_], _ => rfl) fun cdv A outer s H self Q E l qa hr h => ?_
  obtain ⟨p, fa, da, ra, kt, keys, vs, rl, rows, v, rfl, sr, hv, q⟩ := h
  obtain ⟨dx, h1⟩ := sr.ob
  obtain ⟨r1, r2, _⟩ := sr.rw
  refine ⟨_, (pss_one (ps_ret (pe_ix ix_list (pe_fld (pv 0) rfl) (pe_callB call_len_seq rfl T.free_len PySem.boot_len (pa_cons (pe_fld (pv 0) rfl) pa_nil)) (fun _ _ => rfl)))), ?_⟩
  refine ⟨_, rfl, p, _, dx, _, _, rfl, h1, T.c_Search, T.n_Search_found, sf_found _ _ _, _, rfl, p, _, dx, _, _, rfl, h1, T.c_Search, T.n_Search_rows, sf_rows _ _ _, ra, _, rfl, .inl (SqL.of r1), fa, _, _, v, rfl, rfl, SqL.of sr.fl, ?_, q⟩
  rw [List.length_map, r2]
  exact atI_nat hv
def p_Search_enter : Q2 := fun c self a H Q E => ∃ (p fa da ra b : Addr) (kt : Bool) (keys : List NK) (vs : List V) (rl : List Addr) (rows : List (List Nat)) (ks : List NK) (us : List V), self = .ref p ∧ a = .ref b ∧ SrAt P w K H p fa da ra kt keys vs rl rows ∧ H b = some (.lst us) ∧ b ≠ fa ∧ b ≠ ra ∧
  KAll H ks us ∧ (∀ k ∈ ks, k.depth ≤ 8 ∧ isTup k = kt) ∧ us.length ≤ 1000 ∧ rows.length ≤ 1000 ∧
  (∀ row keys', enterF keys ks = some (row, keys') → ∀ H' vs' D, H D = none → SrAt P w K H' p fa da ra kt keys' vs' (rl ++ [D]) (rows ++ [row]) → Fx [fa, da, ra] H H' → (∀ v ∈ vs', v ∈ vs ∨ v ∈ us) → Q .non H') ∧ (enterF keys ks = none → ovS K [fa, da, ra] c H E)
theorem ok_Search_enter (T : Txt P w K mg) : FnQ P w K mg base 4 (He.ma K (He.ga K "Search") "enter") 2 (Sp2 (p_Search_enter (P := P) (w := w) (K := K))) := by
  refine fnQ2 T.F_Search_enter sc_Search_enter (fun _ _ _ _ _ _ us hl => match us, hl with | [_, _], _ => rfl) fun cdv A outer s H self a Q E l qa hr h => ?_
  obtain ⟨p, fa, da, ra, b, kt, keys, vs, rl, rows, ks, us, rfl, rfl, sr, hb, bf, br, hks, hdp, hz, hrz, q1, q2⟩ := h
  obtain ⟨dx, h1⟩ := sr.ob
  obtain ⟨r1, r2, r3⟩ := sr.rw
  have kul := hks.length
  obtain ⟨φ, hda⟩ := sr.dn.some
  refine ⟨_, (pss_one (ps_expr (pe_bm PySem.F.plainAttrs_list PySem.F.slot_list_append PySem.F.type_list_append mt_append (pe_fld (pv 0) rfl) (pa_cons (pe_lcX (own := [("state", 2)]) (g := gName 2) (tt := tYes) rfl rfl cxQ_takes (cxQ_quiet qa) sc_Search_enter.nd (piL (pv 1)) (blkOk_by (N := ["self", "successors", "state"]) (sc := defScope s_Search_enter) (by decide +kernel)) (fun _ _ _ _ => pg_name (i := 2) sc_Search_enter.nd rfl (Or.inl rfl)) (fun _ _ _ _ => pts_nil) (fun _ _ _ _ hq hcm pq => (pe_methK (c := l.isEmpty) (pv 0) T.c_Search T.m_Search_place (ok_Search_place T) (hr.mono (by omega)) hq pq (pa_cons (pv 2) pa_nil) hcm))) pa_nil)))), ?_⟩
  refine ⟨_, rfl, p, _, dx, _, _, rfl, h1, T.c_Search, T.n_Search_rows, sf_rows _ _ _, .inl ⟨rfl, _, SqL.of r1⟩, _, rfl, b, rfl, ⟨_, SqL.of hb⟩, fun D nD => ?_⟩
  have bD : b ≠ D := ne_of_none hb nD
  have fD : fa ≠ D := ne_of_none sr.fl nD
  have rD : ra ≠ D := ne_of_none r1 nD
  have dD : da ≠ D := ne_of_none hda nD
  have bd : b ≠ da := ne_of hb hda (fun z => by cases z)
  have Drl : D ∉ rl := fun z => by
    obtain ⟨i, hi⟩ := List.mem_iff_getElem?.mp z
    obtain ⟨r, _, g, _⟩ := r3 i D hi
    rw [nD] at g
    cases g
  refine lc_list (xs := us) (fun i H1 => ∃ row keys' vs', enterF keys (ks.take i) = some (row, keys') ∧ SrAt P w K H1 p fa da ra kt keys' vs' rl rows ∧ Fx [fa, da] H H1 ∧ H1 D = some (.lst (natsV row)) ∧ row.length = i ∧ (∀ v ∈ vs', v ∈ vs ∨ v ∈ us)) ⟨[], keys, vs, rfl, sr.keep (same_upd nD), same_fx (same_upd nD), upd_same, rfl, fun v h => .inl h⟩ (fun i H1 _ ⟨_, _, _, _, _, fx, _⟩ => SqL.of (fx.keep _ _ hb (by simp [bf, bd]))) (fun i x H1 hx h => ?_) fun H1 h => ?_
  · obtain ⟨row, keys', vs', e1, sr1, fx, hD1, hl, hv⟩ := h
    obtain ⟨k, hk, ka⟩ := hks.at_ hx
    obtain ⟨kd, kk⟩ := hdp k (List.mem_of_getElem? hk)
    subst kk
    obtain ⟨dx1, h11⟩ := sr1.ob
    have e2 : enterF keys (ks.take (i + 1)) = match placeF keys' k with
        | none => none
        | some (j, keys2) => some (row ++ [j], keys2) := by rw [take_snoc hk, enterF_snoc, e1]
    refine ⟨rfl, _, rfl, p, dx1, _, rfl, h11, sf_no _ _ _ (by decide +kernel) (by decide +kernel) (by decide +kernel), _, rfl, _, _, rfl, p, fa, da, ra, keys', vs', rl, rows, k, rfl, sr1, ka.keep fx.tup, kd, fun j keys2 e3 H2 vs2 sr2 fx2 hv2 => ?_, fun e3 => ?_⟩
    · have hD2 : H2 D = some (.lst (natsV row)) := fx2.keep _ _ hD1 (by simp [fD.symm, dD.symm])
      rw [e3] at e2
      have kk : ∀ b o, H2 b = some o → b ≠ D → upd H2 D (.lst (natsV row ++ [iV j])) b = some o := fun b o e n => by rw [upd_ne n]; exact e
      refine ⟨_, hD2, by rw [List.length_map, hl, sizeLine_eq]; have := (List.getElem?_eq_some_iff.mp hx).1; omega, row ++ [j], keys2, vs2, e2, sr2.but hD2 kk fD rD Drl, ⟨fun b o e n => ?_, fun b xs e => kk _ _ (fx2.tup _ _ (fx.tup _ _ e)) (ne_of_none e nD)⟩, ?_, by simp [hl], fun v hv' => ?_⟩
      · exact kk _ _ ((fx.trans fx2).keep b o e n) (ne_of_none e nD)
      · rw [upd_same]; simp [natsV]
      · rcases hv2 v hv' with z | z
        · exact hv v z
        · exact .inr (by rw [z]; exact List.mem_of_getElem? hx)
    · rw [e3] at e2
      have e4 : enterF keys ks = none := by
        have := enterF_none_app (ks.take (i + 1)) keys (ks.drop (i + 1)) e2
        rwa [List.take_append_drop] at this
      obtain ⟨c1, c2⟩ := q2 e4
      refine ⟨c1, fun d H' nd hd ht => c2 d H' ?_ hd ((fx.mono (by simp)).trans (ht.mono (fun b z => by cases z)))⟩
      cases q : H d with
      | none => rfl
      | some o =>
        exfalso
        by_cases hm : d ∈ [fa, da]
        · simp at hm
          rcases hm with z | z
          · rw [z, sr1.fl] at nd; cases nd
          · obtain ⟨φ', e⟩ := sr1.dn.some
            rw [z, e] at nd; cases nd
        · rw [fx.keep d o q hm] at nd; cases nd
  · obtain ⟨row, keys', vs', e1, sr1, fx, hD1, hl, hv⟩ := h
    rw [← kul, List.take_length] at e1
    obtain ⟨g1, g2, g3⟩ := sr1.rw
    have kk : ∀ b o, H1 b = some o → b ≠ ra → upd H1 ra (.lst (rl.map V.ref ++ [.ref D])) b = some o := fun b o e n => by rw [upd_ne n]; exact e
    refine ⟨ra, _, _, rfl, rfl, g1, by rw [List.length_map, g2, sizeLine_eq]; omega, q1 row keys' e1 _ vs' D nD ?_ ⟨fun b o e n => ?_, fun b xs e => kk _ _ (fx.tup _ _ e) (ne_of e r1 (fun z => by cases z))⟩ hv⟩
    · obtain ⟨dx1, h11⟩ := sr1.ob
      obtain ⟨φ1, hda1⟩ := sr1.dn.some
      have tn : ∀ b xs, H1 b = some (.tup xs) → b ≠ ra := fun b xs e => ne_of e g1 (fun z => by cases z)
      refine ⟨⟨dx1, kk _ _ h11 (ne_of h11 g1 (fun z => by cases z))⟩, kk _ _ sr1.fl sr1.ne.symm, sr1.ks.keep fun b xs e => kk _ _ e (tn b xs e), sr1.dp, sr1.dn.keep ((kk _ _ hda1 (ne_of hda1 g1 (fun z => by cases z))).trans hda1.symm) fun b xs e => kk _ _ e (tn b xs e), ⟨?_, by simp [g2], fun i a e => ?_⟩, sr1.sz, sr1.ne⟩
      · rw [upd_same]; simp
      · rcases Nat.lt_or_ge i rl.length with hi | hi
        · rw [List.getElem?_append_left hi] at e
          obtain ⟨r, f1, f2, f3, f4⟩ := g3 i a e
          exact ⟨r, by rw [List.getElem?_append_left (by rw [← g2]; exact hi)]; exact f1, kk _ _ f2 f4, f3, f4⟩
        · rw [List.getElem?_append_right hi] at e
          cases hk : i - rl.length with
          | zero =>
            rw [hk] at e
            cases e
            exact ⟨row, by rw [List.getElem?_append_right (by omega), ← g2, hk]; rfl, kk _ _ hD1 rD.symm, fD.symm, rD.symm⟩
          | succ n => rw [hk] at e; cases e
    · exact kk _ _ (fx.keep b o e fun z => n (by simp at z; rcases z with z | z <;> simp [z])) fun z => n (by simp [z])
end
end K36
/-! K36M1: numberings, searches, machines: plain mathematics -/
namespace K36
open PySem
/-! ### pigeonholes -/
theorem nodup_le {α : Type} [DecidableEq α] : ∀ (xs ys : List α), xs.Nodup → (∀ x ∈ xs, x ∈ ys) → xs.length ≤ ys.length
  | [], ys, _, _ => Nat.zero_le _
  | x :: xs, ys, nd, sub => by
    obtain ⟨n1, n2⟩ := List.nodup_cons.mp nd
    have hx : x ∈ ys := sub x List.mem_cons_self
    have ih := nodup_le xs (ys.erase x) n2 fun y hy => (List.mem_erase_of_ne (fun z : y = x => n1 (by rw [← z]; exact hy))).mpr (sub y (List.mem_cons_of_mem _ hy))
    rw [List.length_erase_of_mem hx] at ih
    have := List.length_pos_of_mem hx
    simp only [List.length_cons]
    omega
theorem nodup_cover {α : Type} [DecidableEq α] : ∀ (xs ys : List α), xs.Nodup → (∀ x ∈ xs, x ∈ ys) → ys.length ≤ xs.length → ∀ y ∈ ys, y ∈ xs := by
  intro xs ys nd sub hl y hy
  by_cases h : y ∈ xs
  · exact h
  · have := nodup_le (y :: xs) ys (List.nodup_cons.mpr ⟨h, nd⟩) fun z hz => by
      rcases List.mem_cons.mp hz with rfl | hz
      · exact hy
      · exact sub z hz
    simp only [List.length_cons] at this
    omega
theorem idxOf_inj {α : Type} [DecidableEq α] {l : List α} {x y : α} (hx : x ∈ l) (h : l.idxOf x = l.idxOf y) : x = y := by
  have h1 := List.idxOf_lt_length_of_mem hx
  have h2 : l.idxOf y < l.length := by rw [← h]; exact h1
  have e1 : l[l.idxOf x] = x := List.getElem_idxOf h1
  have e2 : l[l.idxOf y] = y := List.getElem_idxOf h2
  rw [← e1, ← e2]
  simp [h]
theorem idxOf_getElem {α : Type} [DecidableEq α] {l : List α} (nd : l.Nodup) {i : Nat} {x : α} (h : l[i]? = some x) : l.idxOf x = i := by
  obtain ⟨hi, e⟩ := List.getElem?_eq_some_iff.mp h
  have hx : x ∈ l := List.mem_of_getElem? h
  have h1 := List.idxOf_lt_length_of_mem hx
  have e1 : l[l.idxOf x] = x := List.getElem_idxOf h1
  have pw := List.pairwise_iff_getElem.mp (show l.Pairwise (· ≠ ·) from nd)
  rcases Nat.lt_trichotomy (l.idxOf x) i with c | c | c
  · exact absurd (e1.trans e.symm) (pw _ _ h1 hi c)
  · exact c
  · exact absurd (e.trans e1.symm) (pw _ _ hi h1 c)
theorem getElem?_idxOf {α : Type} [DecidableEq α] {l : List α} {x : α} (hx : x ∈ l) : l[l.idxOf x]? = some x := by
  have h1 := List.idxOf_lt_length_of_mem hx
  rw [List.getElem?_eq_getElem h1, List.getElem_idxOf h1]
theorem idxOf_app {α : Type} [DecidableEq α] {l r : List α} {x : α} (hx : x ∈ l) : (l ++ r).idxOf x = l.idxOf x := by
  rw [List.idxOf_append, if_pos hx]
/-! ### numberings by the first turn -/
section
variable {α : Type} [DecidableEq α]
def seenF : List α → List α → List α
  | s, [] => s
  | s, k :: ks => if k ∈ s then seenF s ks else seenF (s ++ [k]) ks
theorem seenF_snoc : ∀ (ks s : List α) (k : α), seenF s (ks ++ [k]) = if k ∈ seenF s ks then seenF s ks else seenF s ks ++ [k]
  | [], s, k => by
    show (if k ∈ s then seenF s [] else seenF (s ++ [k]) []) = _
    rfl
  | x :: ks, s, k => by
    show (if x ∈ s then seenF s (ks ++ [k]) else seenF (s ++ [x]) (ks ++ [k])) = _
    by_cases h : x ∈ s
    · rw [if_pos h, seenF_snoc ks s k]
      have e : seenF s (x :: ks) = seenF s ks := if_pos h
      rw [e]
    · rw [if_neg h, seenF_snoc ks _ k]
      have e : seenF s (x :: ks) = seenF (s ++ [x]) ks := if_neg h
      rw [e]
theorem seenF_pre : ∀ (ks s : List α), ∃ r, seenF s ks = s ++ r
  | [], s => ⟨[], by simp [seenF]⟩
  | k :: ks, s => by
    by_cases h : k ∈ s
    · obtain ⟨r, e⟩ := seenF_pre ks s
      exact ⟨r, by show (if k ∈ s then _ else _) = _; rw [if_pos h, e]⟩
    · obtain ⟨r, e⟩ := seenF_pre ks (s ++ [k])
      exact ⟨k :: r, by show (if k ∈ s then _ else _) = _; rw [if_neg h, e]; simp⟩
theorem seenF_nodup : ∀ (ks s : List α), s.Nodup → (seenF s ks).Nodup
  | [], s, h => h
  | k :: ks, s, h => by
    show (if k ∈ s then seenF s ks else seenF (s ++ [k]) ks).Nodup
    by_cases hk : k ∈ s
    · rw [if_pos hk]; exact seenF_nodup ks s h
    · rw [if_neg hk]
      refine seenF_nodup ks _ ?_
      rw [List.nodup_append]
      exact ⟨h, by simp, fun a ha b hb => by rw [List.mem_singleton.mp hb]; exact fun e => hk (e ▸ ha)⟩
theorem seenF_mem : ∀ (ks s : List α) (x : α), x ∈ seenF s ks ↔ x ∈ s ∨ x ∈ ks
  | [], s, x => by simp [seenF]
  | k :: ks, s, x => by
    show x ∈ (if k ∈ s then seenF s ks else seenF (s ++ [k]) ks) ↔ _
    by_cases hk : k ∈ s
    · rw [if_pos hk, seenF_mem ks s x, List.mem_cons]
      constructor
      · rintro (h | h)
        · exact .inl h
        · exact .inr (.inr h)
      · rintro (h | h | h)
        · exact .inl h
        · exact .inl (h ▸ hk)
        · exact .inr h
    · rw [if_neg hk, seenF_mem ks _ x, List.mem_append, List.mem_singleton, List.mem_cons]
      exact or_assoc
def dd (ks : List α) : List α := seenF [] ks
def numF (ks : List α) : List Nat := ks.map fun k => (dd ks).idxOf k
theorem dd_nodup (ks : List α) : (dd ks).Nodup := seenF_nodup ks [] List.nodup_nil
theorem dd_mem (ks : List α) (x : α) : x ∈ dd ks ↔ x ∈ ks := by unfold dd; rw [seenF_mem]; simp
theorem dd_le (ks : List α) : (dd ks).length ≤ ks.length := nodup_le _ _ (dd_nodup ks) fun x h => (dd_mem ks x).mp h
theorem numF_len (ks : List α) : (numF ks).length = ks.length := List.length_map _
theorem numF_at {ks : List α} {i : Nat} {k : α} (h : ks[i]? = some k) : (numF ks)[i]? = some ((dd ks).idxOf k) := by unfold numF; rw [List.getElem?_map, h]; rfl
theorem numF_eq {ks : List α} {i j : Nat} {x y : α} (hi : ks[i]? = some x) (hj : ks[j]? = some y) : (numF ks).getD i 0 = (numF ks).getD j 0 ↔ x = y := by
  rw [List.getD_eq_getElem?_getD, List.getD_eq_getElem?_getD, numF_at hi, numF_at hj]
  exact ⟨fun h => idxOf_inj ((dd_mem ks x).mpr (List.mem_of_getElem? hi)) h, fun h => by rw [h]⟩
theorem numF_mem {ks : List α} {v : Nat} : v ∈ numF ks ↔ v < (dd ks).length := by
  unfold numF
  rw [List.mem_map]
  constructor
  · rintro ⟨k, hk, rfl⟩
    exact List.idxOf_lt_length_of_mem ((dd_mem ks k).mpr hk)
  · intro h
    have e := List.getElem?_eq_getElem h
    exact ⟨(dd ks)[v], (dd_mem ks _).mp (List.mem_of_getElem? e), idxOf_getElem (dd_nodup ks) e⟩
end
/-! ### two numberings, one finer -/
/-- F numbers n things by 0 .. k - 1, each number used -/
structure Num (n k : Nat) (F : List Nat) : Prop where
  len : F.length = n
  mem : ∀ v, v ∈ F ↔ v < k
theorem numF_num {α : Type} [DecidableEq α] (ks : List α) : Num ks.length (dd ks).length (numF ks) := ⟨numF_len ks, fun v => numF_mem⟩
theorem Num.max {n k : Nat} {F : List Nat} (N : Num n k F) {m : Nat} (h1 : m ∈ F) (h2 : ∀ y ∈ F, y ≤ m) : m + 1 = k := by
  have a := (N.mem m).mp h1
  have b := h2 (k - 1) ((N.mem _).mpr (by omega))
  omega
theorem Num.at_ {n k : Nat} {F : List Nat} (N : Num n k F) {c : Nat} (h : c < k) : ∃ i, i < n ∧ F.getD i 0 = c := by
  obtain ⟨i, hi⟩ := List.mem_iff_getElem?.mp ((N.mem c).mpr h)
  exact ⟨i, by rw [← N.len]; exact (List.getElem?_eq_some_iff.mp hi).1, by rw [List.getD_eq_getElem?_getD, hi]; rfl⟩
theorem Num.lt {n k : Nat} {F : List Nat} (N : Num n k F) {i : Nat} (h : i < n) : F.getD i 0 < k := by
  have hi : i < F.length := by rw [N.len]; exact h
  rw [List.getD_eq_getElem?_getD, List.getElem?_eq_getElem hi]
  exact (N.mem _).mp (List.getElem_mem hi)
theorem choose_list {P : Nat → Nat → Prop} : ∀ (k : Nat), (∀ c, c < k → ∃ i, P c i) → ∃ l : List Nat, l.length = k ∧ ∀ (c i : Nat), l[c]? = some i → P c i
  | 0, _ => ⟨[], rfl, fun c i e => by simp at e⟩
  | k + 1, h => by
    obtain ⟨l, hl, hp⟩ := choose_list k fun c hc => h c (Nat.lt_succ_of_lt hc)
    obtain ⟨i, hi⟩ := h k (Nat.lt_succ_self k)
    refine ⟨l ++ [i], by simp [hl], fun c j e => ?_⟩
    rcases Nat.lt_or_ge c l.length with hc | hc
    · rw [List.getElem?_append_left hc] at e
      exact hp c j e
    · rw [List.getElem?_append_right hc] at e
      cases hk : c - l.length with
      | zero =>
        rw [hk] at e
        cases e
        have : c = k := by omega
        rw [this]; exact hi
      | succ n => rw [hk] at e; cases e
theorem finer {n k k' : Nat} {F G : List Nat} (N : Num n k F) (N' : Num n k' G) (ref : ∀ i j, i < n → j < n → G.getD i 0 = G.getD j 0 → F.getD i 0 = F.getD j 0) :
    k ≤ k' ∧ (k = k' → ∀ i j, i < n → j < n → F.getD i 0 = F.getD j 0 → G.getD i 0 = G.getD j 0) := by
  obtain ⟨l, hl, hp⟩ := choose_list (P := fun c i => i < n ∧ F.getD i 0 = c) k fun c hc => N.at_ hc
  have nd : (l.map fun i => G.getD i 0).Nodup := by
    show List.Pairwise (· ≠ ·) _
    rw [List.pairwise_iff_getElem]
    intro a b ha hb hab e'
    rw [List.length_map] at hb ha
    have e1 := List.getElem?_eq_getElem ha
    have e2 := List.getElem?_eq_getElem hb
    rw [List.getElem_map, List.getElem_map] at e'
    obtain ⟨p1, p2⟩ := hp a _ e1
    obtain ⟨q1, q2⟩ := hp b _ e2
    have := ref _ _ p1 q1 e'
    omega
  have sub : ∀ x ∈ l.map (fun i => G.getD i 0), x ∈ List.range k' := fun x hx => by
    obtain ⟨i, hi, rfl⟩ := List.mem_map.mp hx
    obtain ⟨c, hc⟩ := List.mem_iff_getElem?.mp hi
    exact List.mem_range.mpr (N'.lt (hp c i hc).1)
  have le := nodup_le _ _ nd sub
  rw [List.length_map, hl, List.length_range] at le
  refine ⟨le, fun e i j hi hj h => ?_⟩
  have cov := nodup_cover _ _ nd sub (by rw [List.length_map, hl, List.length_range, e]; exact Nat.le_refl _)
  have key : ∀ i, i < n → ∃ r, l[F.getD i 0]? = some r ∧ G.getD i 0 = G.getD r 0 := fun i hi => by
    obtain ⟨r, hr, er⟩ := List.mem_map.mp (cov _ (List.mem_range.mpr (N'.lt hi)))
    obtain ⟨c, hc⟩ := List.mem_iff_getElem?.mp hr
    obtain ⟨p1, p2⟩ := hp c r hc
    have := ref r i p1 hi er
    refine ⟨r, ?_, er.symm⟩
    rw [← this, p2]
    exact hc
  obtain ⟨r1, a1, a2⟩ := key i hi
  obtain ⟨r2, b1, b2⟩ := key j hj
  rw [h, b1] at a1
  cases a1
  rw [a2, b2]
end K36
/-! K36M2: what a search finds; the machine of a search; the least machine -/
namespace K36
open PySem
/-! ### one row -/
theorem placeF_ok {keys : List NK} {k : NK} {i : Nat} {keys' : List NK} (h : placeF keys k = some (i, keys')) (nd : keys.Nodup) (hl : keys.length ≤ 400) :
    keys'.Nodup ∧ (∃ ext, keys' = keys ++ ext ∧ ∀ x ∈ ext, x = k) ∧ keys'[i]? = some k ∧ keys'.length ≤ 400 := by
  unfold placeF at h
  by_cases hk : k ∈ keys
  · rw [if_pos hk] at h
    cases h
    exact ⟨nd, ⟨[], by simp, fun x hx => nomatch hx⟩, getElem?_idxOf hk, hl⟩
  · rw [if_neg hk] at h
    by_cases hz : keys.length < 400
    · rw [if_pos hz] at h
      cases h
      refine ⟨?_, ⟨[k], rfl, fun x hx => List.mem_singleton.mp hx⟩, by simp, by simp; omega⟩
      rw [List.nodup_append]
      exact ⟨nd, by simp, fun a ha b hb => by rw [List.mem_singleton.mp hb]; exact fun e => hk (e ▸ ha)⟩
    · rw [if_neg hz] at h
      cases h
theorem app_at {α : Type} {l r : List α} {i : Nat} {x : α} (h : l[i]? = some x) : (l ++ r)[i]? = some x := by
  rw [List.getElem?_append_left (List.getElem?_eq_some_iff.mp h).1]; exact h
theorem enterF_ok : ∀ (ks keys : List NK) (row : List Nat) (keys' : List NK), enterF keys ks = some (row, keys') → keys.Nodup → keys.length ≤ 400 →
    keys'.Nodup ∧ (∃ ext, keys' = keys ++ ext ∧ ∀ x ∈ ext, x ∈ ks) ∧ row.length = ks.length ∧ keys'.length ≤ 400 ∧ ∀ (j : Nat) k, ks[j]? = some k → ∃ n, row[j]? = some n ∧ keys'[n]? = some k
  | [], keys, row, keys', h, nd, hl => by
    cases h
    exact ⟨nd, ⟨[], by simp, fun x hx => nomatch hx⟩, rfl, hl, fun j k e => by simp at e⟩
  | k :: ks, keys, row, keys', h, nd, hl => by
    cases q : placeF keys k with
    | none => simp [enterF, q] at h
    | some z =>
      obtain ⟨i, k1⟩ := z
      cases q2 : enterF k1 ks with
      | none => simp [enterF, q, q2] at h
      | some y =>
        obtain ⟨r, k2⟩ := y
        simp [enterF, q, q2] at h
        obtain ⟨rfl, rfl⟩ := h
        obtain ⟨a1, ⟨e1, a2, a3⟩, a4, a5⟩ := placeF_ok q nd hl
        obtain ⟨b1, ⟨e2, b2, b3⟩, b4, b5, b6⟩ := enterF_ok ks k1 r k2 q2 a1 a5
        refine ⟨b1, ⟨e1 ++ e2, by rw [b2, a2, List.append_assoc], fun x hx => ?_⟩, by simp [b4], b5, fun j k' e => ?_⟩
        · rcases List.mem_append.mp hx with hx | hx
          · rw [a3 x hx]; exact List.mem_cons_self
          · exact List.mem_cons_of_mem _ (b3 x hx)
        · cases j with
          | zero =>
            cases e
            exact ⟨i, rfl, by rw [b2]; exact app_at a4⟩
          | succ j =>
            obtain ⟨n, c1, c2⟩ := b6 j k' (by simpa using e)
            exact ⟨n, by simpa using c1, c2⟩
/-- too many: 401 keys, all known or asked for -/
theorem enterF_many : ∀ (ks keys : List NK), enterF keys ks = none → keys.Nodup → keys.length ≤ 400 → ∃ L : List NK, L.Nodup ∧ L.length = 401 ∧ ∀ k ∈ L, k ∈ keys ∨ k ∈ ks
  | [], keys, h, _, _ => nomatch h
  | k :: ks, keys, h, nd, hl => by
    cases q : placeF keys k with
    | none =>
      unfold placeF at q
      by_cases hk : k ∈ keys
      · rw [if_pos hk] at q; cases q
      · rw [if_neg hk] at q
        by_cases hz : keys.length < 400
        · rw [if_pos hz] at q; cases q
        · refine ⟨k :: keys, List.nodup_cons.mpr ⟨hk, nd⟩, by simp; omega, fun x hx => ?_⟩
          rcases List.mem_cons.mp hx with rfl | hx
          · exact .inr List.mem_cons_self
          · exact .inl hx
    | some z =>
      obtain ⟨i, k1⟩ := z
      obtain ⟨a1, ⟨e1, a2, a3⟩, a4, a5⟩ := placeF_ok q nd hl
      have h' : enterF k1 ks = none := by
        cases q2 : enterF k1 ks with
        | none => rfl
        | some y => obtain ⟨r, k2⟩ := y; simp [enterF, q, q2] at h
      obtain ⟨L, l1, l2, l3⟩ := enterF_many ks k1 h' a1 a5
      refine ⟨L, l1, l2, fun x hx => ?_⟩
      rcases l3 x hx with z | z
      · rw [a2] at z
        rcases List.mem_append.mp z with z | z
        · exact .inl z
        · rw [a3 x z]; exact .inr List.mem_cons_self
      · exact .inr (List.mem_cons_of_mem _ z)
/-! ### a search under way -/
structure Srch (succ : NK → List NK) (start : NK) (keys : List NK) (rows : List (List Nat)) : Prop where
  nd : keys.Nodup
  hd : keys[0]? = some start
  le : rows.length ≤ keys.length
  sz : keys.length ≤ 400
  row : ∀ (i : Nat) r, rows[i]? = some r → ∃ k, keys[i]? = some k ∧ r.length = (succ k).length ∧ ∀ (j : Nat) k', (succ k)[j]? = some k' → ∃ n, r[j]? = some n ∧ keys[n]? = some k'
  reach : ∀ R : NK → Prop, R start → (∀ k, R k → ∀ k' ∈ succ k, R k') → ∀ k ∈ keys, R k
theorem Srch.start (succ : NK → List NK) (k : NK) : Srch succ k [k] [] := ⟨by simp, rfl, Nat.zero_le _, by simp, fun i r e => by simp at e, fun R h _ k' hk => by rw [List.mem_singleton.mp hk]; exact h⟩
theorem Srch.step {succ : NK → List NK} {start k : NK} {keys keys' : List NK} {rows : List (List Nat)} {row : List Nat} (s : Srch succ start keys rows) (hk : keys[rows.length]? = some k) (e : enterF keys (succ k) = some (row, keys')) : Srch succ start keys' (rows ++ [row]) := by
  obtain ⟨a1, ⟨ext, a2, a3⟩, a4, a5, a6⟩ := enterF_ok _ _ _ _ e s.nd s.sz
  refine ⟨a1, by rw [a2]; exact app_at s.hd, ?_, a5, fun i r hr => ?_, fun R h1 h2 x hx => ?_⟩
  · have := (List.getElem?_eq_some_iff.mp hk).1
    rw [a2]; simp; omega
  · rcases Nat.lt_or_ge i rows.length with hi | hi
    · rw [List.getElem?_append_left hi] at hr
      obtain ⟨k0, b1, b2, b3⟩ := s.row i r hr
      exact ⟨k0, by rw [a2]; exact app_at b1, b2, fun j k' e' => let ⟨n, c1, c2⟩ := b3 j k' e'; ⟨n, c1, by rw [a2]; exact app_at c2⟩⟩
    · rw [List.getElem?_append_right hi] at hr
      cases hz : i - rows.length with
      | zero =>
        rw [hz] at hr
        cases hr
        have : i = rows.length := by omega
        subst this
        exact ⟨k, by rw [a2]; exact app_at hk, a4, a6⟩
      | succ n => rw [hz] at hr; cases hr
  · rw [a2] at hx
    rcases List.mem_append.mp hx with hx | hx
    · exact s.reach R h1 h2 x hx
    · exact h2 k (s.reach R h1 h2 k (List.mem_of_getElem? hk)) x (a3 x hx)
/-! ### its machine -/
def runK (succ : NK → List NK) (k : NK) (wd : List Nat) : NK := wd.foldl (fun k a => (succ k).getD a k) k
def Val (w : Nat) (wd : List Nat) : Prop := ∀ x ∈ wd, x < 2 ^ w
section
variable {succ : NK → List NK} {start : NK} {keys : List NK} {rows : List (List Nat)} {w : Nat} {mark : NK → Bool}
theorem Srch.st (s : Srch succ start keys rows) (full : rows.length = keys.length) (hs : ∀ k ∈ keys, (succ k).length = 2 ^ w) (acc : List Bool) {i a : Nat} {k : NK} (hi : keys[i]? = some k) (ha : a < 2 ^ w) :
    keys[(M.mk w rows acc).st i a]? = some ((succ k).getD a k) := by
  have hil : i < rows.length := by rw [full]; exact (List.getElem?_eq_some_iff.mp hi).1
  have e := List.getElem?_eq_getElem hil
  obtain ⟨k', h1, h2, h3⟩ := s.row i _ e
  rw [hi] at h1
  cases h1
  have hal : a < (succ k).length := by rw [hs k (List.mem_of_getElem? hi)]; exact ha
  have e2 := List.getElem?_eq_getElem hal
  obtain ⟨n, c1, c2⟩ := h3 a _ e2
  unfold M.st
  show keys[((rows.getD i []).getD a 0)]? = _
  rw [List.getD_eq_getElem?_getD, List.getD_eq_getElem?_getD, e, List.getD_eq_getElem?_getD, e2]
  show keys[((rows[i])[a]?.getD 0)]? = _
  rw [c1]
  exact c2
theorem Srch.run (s : Srch succ start keys rows) (full : rows.length = keys.length) (hs : ∀ k ∈ keys, (succ k).length = 2 ^ w) (acc : List Bool) : ∀ (wd : List Nat) {i : Nat} {k : NK}, keys[i]? = some k → Val w wd →
    keys[(M.mk w rows acc).run i wd]? = some (runK succ k wd)
  | [], i, k, hi, _ => hi
  | a :: wd, i, k, hi, hv => Srch.run s full hs acc wd (s.st full hs acc hi (hv a List.mem_cons_self)) fun x hx => hv x (List.mem_cons_of_mem _ hx)
theorem Srch.acc (s : Srch succ start keys rows) (full : rows.length = keys.length) (hs : ∀ k ∈ keys, (succ k).length = 2 ^ w) {i : Nat} {k : NK} (hi : keys[i]? = some k) {wd : List Nat} (hv : Val w wd) :
    (M.mk w rows (keys.map mark)).accs ((M.mk w rows (keys.map mark)).run i wd) = mark (runK succ k wd) := by
  have e := s.run full hs (keys.map mark) wd hi hv
  unfold M.accs
  show (keys.map mark).getD _ false = _
  rw [List.getD_eq_getElem?_getD, List.getElem?_map, e]
  rfl
theorem Srch.ok (s : Srch succ start keys rows) (full : rows.length = keys.length) (hs : ∀ k ∈ keys, (succ k).length = 2 ^ w) (w6 : w ≤ 6) (sett : ∀ k ∈ keys, mark k = mark ((succ k).getD 0 k)) : (M.mk w rows (keys.map mark)).Ok where
  w6 := w6
  pos := by
    have := (List.getElem?_eq_some_iff.mp s.hd).1
    show 0 < rows.length
    omega
  small := by
    have := s.sz
    show rows.length ≤ 400
    omega
  alen := by show (keys.map mark).length = rows.length; rw [List.length_map, full]
  rows := fun r hr => by
    obtain ⟨i, hi⟩ := List.mem_iff_getElem?.mp hr
    obtain ⟨k, h1, h2, h3⟩ := s.row i r hi
    have h4 := hs k (List.mem_of_getElem? h1)
    refine ⟨h2.trans h4, fun x hx => ?_⟩
    obtain ⟨j, hj⟩ := List.mem_iff_getElem?.mp hx
    have hjl : j < (succ k).length := by rw [← h2]; exact (List.getElem?_eq_some_iff.mp hj).1
    obtain ⟨n, c1, c2⟩ := h3 j _ (List.getElem?_eq_getElem hjl)
    rw [hj] at c1
    cases c1
    show x < rows.length
    rw [full]
    exact (List.getElem?_eq_some_iff.mp c2).1
  sett := fun i hi => by
    have hi : i < keys.length := by rw [← full]; exact hi
    have e := List.getElem?_eq_getElem hi
    have p : 0 < 2 ^ w := Nat.pow_pos (by decide)
    have e2 := s.st full hs (keys.map mark) e p
    unfold M.accs
    show (keys.map mark).getD i false = (keys.map mark).getD _ false
    rw [List.getD_eq_getElem?_getD, List.getD_eq_getElem?_getD, List.getElem?_map, List.getElem?_map, e2, e]
    exact sett _ (List.getElem_mem hi)
theorem runK_snoc (k : NK) (wd : List Nat) (a : Nat) : runK succ k (wd ++ [a]) = (succ (runK succ k wd)).getD a (runK succ k wd) := by unfold runK; rw [List.foldl_append]; rfl
theorem Srch.all (s : Srch succ start keys rows) (full : rows.length = keys.length) (hs : ∀ k ∈ keys, (succ k).length = 2 ^ w) (acc : List Bool) {i : Nat} (hi : i < keys.length) : ∃ wd, Val w wd ∧ (M.mk w rows acc).run 0 wd = i := by
  have e := List.getElem?_eq_getElem hi
  have r := s.reach (fun k => ∃ wd, Val w wd ∧ k ∈ keys ∧ runK succ start wd = k) ⟨[], fun x hx => (nomatch hx), List.mem_of_getElem? s.hd, rfl⟩ (fun k ⟨wd, h1, h2, h3⟩ k' hk' => by
    obtain ⟨a, ha⟩ := List.mem_iff_getElem?.mp hk'
    have hal := (List.getElem?_eq_some_iff.mp ha).1
    rw [hs k h2] at hal
    obtain ⟨i, hi⟩ := List.mem_iff_getElem?.mp h2
    have e3 := s.st full hs [] hi hal
    have e4 : (succ k).getD a k = k' := by rw [List.getD_eq_getElem?_getD, ha]; rfl
    refine ⟨wd ++ [a], fun x hx => ?_, ?_, ?_⟩
    · rcases List.mem_append.mp hx with hx | hx
      · exact h1 x hx
      · rw [List.mem_singleton.mp hx]; exact hal
    · rw [e4] at e3; exact List.mem_of_getElem? e3
    · rw [runK_snoc, h3, e4]) _ (List.getElem_mem hi)
  obtain ⟨wd, h1, h2, h3⟩ := r
  refine ⟨wd, h1, ?_⟩
  have e5 := s.run full hs acc wd s.hd h1
  rw [h3] at e5
  have n1 := idxOf_getElem s.nd e5
  have n2 := idxOf_getElem s.nd e
  omega
end
/-! ### least -/
/-- every state is reached, no two alike -/
structure M.Min (m : M) : Prop where
  reach : ∀ s, s < m.tab.length → ∃ wd, Val m.w wd ∧ m.run 0 wd = s
  dist : ∀ s t, s < m.tab.length → t < m.tab.length → s ≠ t → ∃ wd, Val m.w wd ∧ m.accs (m.run s wd) ≠ m.accs (m.run t wd)
abbrev kN (n : Nat) : NK := .num (n : Int)
theorem kN_inj {a b : Nat} (h : kN a = kN b) : a = b := by
  have h : (NestedKey.num (a : Int)) = .num (b : Int) := h
  injection h with h
  exact Int.ofNat.inj h
/-- a partition that the letters keep and that tells nothing apart in vain -/
structure Cong (m : M) (k : Nat) (G : List Nat) : Prop where
  num : Num m.tab.length k G
  cong : ∀ i j, i < m.tab.length → j < m.tab.length → G.getD i 0 = G.getD j 0 → m.accs i = m.accs j ∧ ∀ a, a < 2 ^ m.w → G.getD (m.st i a) 0 = G.getD (m.st j a) 0
  dist : ∀ i j, i < m.tab.length → j < m.tab.length → G.getD i 0 ≠ G.getD j 0 → ∃ wd, Val m.w wd ∧ m.accs (m.run i wd) ≠ m.accs (m.run j wd)
/-- the letters' way over classes -/
def sucL (m : M) (G : List Nat) : NK → List NK
  | .num c => (m.tab.getD (G.idxOf c.toNat) []).map fun s => kN (G.getD s 0)
  | _ => []
def markL (m : M) (G : List Nat) : NK → Bool
  | .num c => m.accs (G.idxOf c.toNat)
  | _ => false
section
variable {m : M} {k : Nat} {G : List Nat}
theorem Cong.rep (C : Cong m k G) {c : Nat} (h : c < k) : G.idxOf c < m.tab.length ∧ G.getD (G.idxOf c) 0 = c := by
  have hm := (C.num.mem c).mpr h
  refine ⟨by rw [← C.num.len]; exact List.idxOf_lt_length_of_mem hm, ?_⟩
  rw [List.getD_eq_getElem?_getD, getElem?_idxOf hm]
  rfl
theorem sucL_len (o : m.Ok) (C : Cong m k G) {c : Nat} (h : c < k) : (sucL m G (kN c)).length = 2 ^ m.w := by
  obtain ⟨h1, _⟩ := C.rep h
  show (List.map _ (m.tab.getD (G.idxOf ((c : Int).toNat)) [])).length = _
  rw [Int.toNat_natCast, List.length_map, List.getD_eq_getElem?_getD, List.getElem?_eq_getElem h1]
  exact (o.rows _ (List.getElem_mem h1)).1
theorem sucL_at (o : m.Ok) (C : Cong m k G) {s a : Nat} (hs : s < m.tab.length) (ha : a < 2 ^ m.w) : (sucL m G (kN (G.getD s 0)))[a]? = some (kN (G.getD (m.st s a) 0)) := by
  have hc := C.num.lt hs
  obtain ⟨h1, h2⟩ := C.rep hc
  obtain ⟨r, r1, r2⟩ := o.st_at h1 ha
  show (List.map _ (m.tab.getD (G.idxOf ((G.getD s 0 : Nat) : Int).toNat) []))[a]? = _
  rw [Int.toNat_natCast, List.getElem?_map, List.getD_eq_getElem?_getD, r1]
  show Option.map _ (r[a]?) = _
  rw [r2]
  show some (kN _) = _
  rw [(C.cong _ _ h1 hs h2).2 a ha]
theorem sucL_run (o : m.Ok) (C : Cong m k G) : ∀ (wd : List Nat) (s : Nat), s < m.tab.length → Val m.w wd → runK (sucL m G) (kN (G.getD s 0)) wd = kN (G.getD (m.run s wd) 0)
  | [], s, _, _ => rfl
  | a :: wd, s, hs, hv => by
    have ha := hv a List.mem_cons_self
    show runK (sucL m G) ((sucL m G (kN (G.getD s 0))).getD a (kN (G.getD s 0))) wd = kN (G.getD (m.run (m.st s a) wd) 0)
    rw [List.getD_eq_getElem?_getD, sucL_at o C hs ha]
    exact sucL_run o C wd (m.st s a) o.st_lt fun x hx => hv x (List.mem_cons_of_mem _ hx)
theorem markL_at (o : m.Ok) (C : Cong m k G) {s : Nat} (hs : s < m.tab.length) : markL m G (kN (G.getD s 0)) = m.accs s := by
  obtain ⟨h1, h2⟩ := C.rep (C.num.lt hs)
  show m.accs (G.idxOf ((G.getD s 0 : Nat) : Int).toNat) = _
  rw [Int.toNat_natCast]
  exact (C.cong _ _ h1 hs h2).1
theorem keysL (o : m.Ok) (C : Cong m k G) {keys : List NK} {rows : List (List Nat)} (S : Srch (sucL m G) (kN (G.getD 0 0)) keys rows) : ∀ x ∈ keys, ∃ s, s < m.tab.length ∧ x = kN (G.getD s 0) :=
  S.reach (fun x => ∃ s, s < m.tab.length ∧ x = kN (G.getD s 0)) ⟨0, o.pos, rfl⟩ fun x ⟨s, hs, e⟩ y hy => by
    subst e
    obtain ⟨a, ha⟩ := List.mem_iff_getElem?.mp hy
    have hal := (List.getElem?_eq_some_iff.mp ha).1
    rw [sucL_len o C (C.num.lt hs)] at hal
    rw [sucL_at o C hs hal] at ha
    exact ⟨m.st s a, o.st_lt, (Option.some.inj ha).symm⟩
/-- the machine of the classes -/
theorem least_ok (o : m.Ok) (C : Cong m k G) {keys : List NK} {rows : List (List Nat)} (S : Srch (sucL m G) (kN (G.getD 0 0)) keys rows) (full : rows.length = keys.length) :
    (M.mk m.w rows (keys.map (markL m G))).Ok ∧ (M.mk m.w rows (keys.map (markL m G))).Min ∧
    ∀ wd, Val m.w wd → (M.mk m.w rows (keys.map (markL m G))).accs ((M.mk m.w rows (keys.map (markL m G))).run 0 wd) = m.accs (m.run 0 wd) := by
  have ks := keysL o C S
  have hs : ∀ x ∈ keys, (sucL m G x).length = 2 ^ m.w := fun x hx => by
    obtain ⟨s, h, rfl⟩ := ks x hx
    exact sucL_len o C (C.num.lt h)
  have lang : ∀ wd s, s < m.tab.length → Val m.w wd → markL m G (runK (sucL m G) (kN (G.getD s 0)) wd) = m.accs (m.run s wd) := fun wd s h hv => by
    rw [sucL_run o C wd s h hv]
    exact markL_at o C (o.run_lt h wd)
  refine ⟨S.ok full hs o.w6 fun x hx => ?_, ⟨fun s h => ?_, fun s t h1 h2 ne => ?_⟩, fun wd hv => ?_⟩
  · obtain ⟨s, h, rfl⟩ := ks x hx
    have p : 0 < 2 ^ m.w := Nat.pow_pos (by decide)
    show markL m G _ = markL m G (((sucL m G (kN (G.getD s 0)))[0]?).getD _)
    rw [sucL_at o C h p]
    show markL m G _ = markL m G (kN _)
    rw [markL_at o C h, markL_at o C o.st_lt]
    exact o.sett s h
  · have h' : s < keys.length := by rw [← full]; exact h
    exact S.all full hs _ h'
  · have h1' : s < keys.length := by rw [← full]; exact h1
    have h2' : t < keys.length := by rw [← full]; exact h2
    have e1 := List.getElem?_eq_getElem h1'
    have e2 := List.getElem?_eq_getElem h2'
    obtain ⟨a, ha, ea⟩ := ks _ (List.getElem_mem h1')
    obtain ⟨b, hb, eb⟩ := ks _ (List.getElem_mem h2')
    have nab : G.getD a 0 ≠ G.getD b 0 := fun z => by
      have e3 : keys[s] = keys[t] := by rw [ea, eb, z]
      have n1 := idxOf_getElem S.nd e1
      have n2 := idxOf_getElem S.nd e2
      rw [e3] at n1
      exact ne (n1.symm.trans n2)
    obtain ⟨wd, hv, hd⟩ := C.dist a b ha hb nab
    refine ⟨wd, hv, ?_⟩
    rw [S.acc full hs e1 hv, S.acc full hs e2 hv, ea, eb, lang wd a ha hv, lang wd b hb hv]
    exact hd
  · rw [S.acc full hs S.hd hv]
    exact lang wd 0 o.pos hv
end
/-! ### the rounds of classes -/
/-- what a round keeps -/
structure Rnd (m : M) (k : Nat) (F : List Nat) : Prop where
  num : Num m.tab.length k F
  acc : ∀ i j, i < m.tab.length → j < m.tab.length → F.getD i 0 = F.getD j 0 → m.accs i = m.accs j
  dist : ∀ i j, i < m.tab.length → j < m.tab.length → F.getD i 0 ≠ F.getD j 0 → ∃ wd, Val m.w wd ∧ m.accs (m.run i wd) ≠ m.accs (m.run j wd)
/-- the keys of the first round -/
def keys0 (m : M) : List NK := m.acc.map fun b => NestedKey.num (if b = true then 1 else 0)
/-- the keys of a further round -/
def keysF (m : M) (F : List Nat) : List NK := m.tab.zipIdx.map fun (r, i) => .tup [kN (F.getD i 0), .tup (r.map fun s => kN (F.getD s 0))]
theorem keys0_at {m : M} (o : m.Ok) {i : Nat} (h : i < m.tab.length) : (keys0 m)[i]? = some (NestedKey.num (if m.accs i = true then 1 else 0)) := by
  unfold keys0
  rw [List.getElem?_map, o.accs_at h]
  rfl
theorem keysF_at {m : M} {F : List Nat} {i : Nat} {r : List Nat} (h : m.tab[i]? = some r) : (keysF m F)[i]? = some (.tup [kN (F.getD i 0), .tup (r.map fun s => kN (F.getD s 0))]) := by
  unfold keysF
  rw [List.getElem?_map, List.getElem?_zipIdx, h]
  simp
theorem rnd0 {m : M} (o : m.Ok) : Rnd m (dd (keys0 m)).length (numF (keys0 m)) := by
  have hl : (keys0 m).length = m.tab.length := by unfold keys0; rw [List.length_map, o.alen]
  have N := numF_num (keys0 m)
  rw [hl] at N
  refine ⟨N, fun i j hi hj e => ?_, fun i j hi hj e => ⟨[], fun x hx => (nomatch hx), fun z => e ?_⟩⟩
  · have q := (numF_eq (keys0_at o hi) (keys0_at o hj)).mp e
    injection q with q
    cases h1 : m.accs i <;> cases h2 : m.accs j <;> simp [h1, h2] at q <;> rfl
  · have z : m.accs i = m.accs j := z
    exact (numF_eq (keys0_at o hi) (keys0_at o hj)).mpr (by rw [z])
theorem keysF_eq {m : M} (o : m.Ok) {F : List Nat} {i j : Nat} (hi : i < m.tab.length) (hj : j < m.tab.length) : (numF (keysF m F)).getD i 0 = (numF (keysF m F)).getD j 0 ↔ F.getD i 0 = F.getD j 0 ∧ ∀ a, a < 2 ^ m.w → F.getD (m.st i a) 0 = F.getD (m.st j a) 0 := by
  have e1 := List.getElem?_eq_getElem hi
  have e2 := List.getElem?_eq_getElem hj
  have r1 := o.rows _ (List.getElem_mem hi)
  have r2 := o.rows _ (List.getElem_mem hj)
  rw [numF_eq (keysF_at e1) (keysF_at e2)]
  have st1 : ∀ a, a < 2 ^ m.w → m.tab[i][a]? = some (m.st i a) := fun a ha => by
    obtain ⟨r, g1, g2⟩ := o.st_at hi ha
    rw [e1] at g1; cases g1; exact g2
  have st2 : ∀ a, a < 2 ^ m.w → m.tab[j][a]? = some (m.st j a) := fun a ha => by
    obtain ⟨r, g1, g2⟩ := o.st_at hj ha
    rw [e2] at g1; cases g1; exact g2
  constructor
  · intro h
    injection h with h
    injection h with h3 h4
    injection h4 with h4 _
    injection h4 with h4
    refine ⟨kN_inj h3, fun a ha => ?_⟩
    have q := congrArg (fun l : List NK => l[a]?) h4
    simp only [List.getElem?_map, st1 a ha, st2 a ha] at q
    exact kN_inj (Option.some.inj q)
  · rintro ⟨h1, h2⟩
    rw [h1]
    have : (m.tab[i].map fun s => kN (F.getD s 0)) = m.tab[j].map fun s => kN (F.getD s 0) := by
      apply List.ext_getElem?
      intro a
      rw [List.getElem?_map, List.getElem?_map]
      rcases Nat.lt_or_ge a (2 ^ m.w) with ha | ha
      · rw [st1 a ha, st2 a ha]
        show some (kN _) = some (kN _)
        rw [h2 a ha]
      · rw [List.getElem?_eq_none (by rw [r1.1]; exact ha), List.getElem?_eq_none (by rw [r2.1]; exact ha)]
    rw [this]
theorem keysF_len (m : M) (F : List Nat) : (keysF m F).length = m.tab.length := by unfold keysF; simp
theorem rndS {m : M} (o : m.Ok) {k : Nat} {F : List Nat} (R : Rnd m k F) : Rnd m (dd (keysF m F)).length (numF (keysF m F)) ∧ k ≤ (dd (keysF m F)).length ∧ (k = (dd (keysF m F)).length → Cong m (dd (keysF m F)).length (numF (keysF m F))) := by
  have N := numF_num (keysF m F)
  rw [keysF_len] at N
  have fin := finer R.num N fun i j hi hj e => ((keysF_eq o hi hj).mp e).1
  have D : ∀ i j, i < m.tab.length → j < m.tab.length → (numF (keysF m F)).getD i 0 ≠ (numF (keysF m F)).getD j 0 → ∃ wd, Val m.w wd ∧ m.accs (m.run i wd) ≠ m.accs (m.run j wd) := fun i j hi hj e => by
    by_cases h : F.getD i 0 = F.getD j 0
    · have : ∃ a, a < 2 ^ m.w ∧ F.getD (m.st i a) 0 ≠ F.getD (m.st j a) 0 := by
        apply Classical.byContradiction
        intro hn
        refine e ((keysF_eq o hi hj).mpr ⟨h, fun a ha => ?_⟩)
        apply Classical.byContradiction
        intro z
        exact hn ⟨a, ha, z⟩
      obtain ⟨a, ha, hne⟩ := this
      obtain ⟨wd, hv, hd⟩ := R.dist _ _ o.st_lt o.st_lt hne
      exact ⟨a :: wd, fun x hx => (List.mem_cons.mp hx).elim (fun z => by rw [z]; exact ha) (hv x), hd⟩
    · exact R.dist i j hi hj h
  refine ⟨⟨N, fun i j hi hj e => R.acc i j hi hj ((keysF_eq o hi hj).mp e).1, D⟩, fin.1, fun e => ⟨N, fun i j hi hj q => ?_, D⟩⟩
  obtain ⟨q1, q2⟩ := (keysF_eq o hi hj).mp q
  exact ⟨R.acc i j hi hj q1, fun a ha => fin.2 e _ _ o.st_lt o.st_lt (q2 a ha)⟩
end K36
/-! K36W4: numbered, classes, least -/
namespace K36
open PySem PySem.Spec PyProof.Rows L2 HotX
theorem idxOf_snoc {l : List NK} {k x : NK} (h : x ∈ l) : (l ++ [k]).idxOf x = l.idxOf x := idxOf_app h
section
variable {P : Program} {w : World} {K : PySem.W.Frag} {mg : Str → Option Value} {base : Heap}
def p_numbered : Q1 := fun _ a H Q _ => ∃ (b : Addr) (us : List V) (ks : List NK) (kt : Bool), a = .ref b ∧ H b = some (.lst us) ∧ KAll H ks us ∧ (∀ k ∈ ks, k.depth ≤ 8 ∧ isTup k = kt) ∧ us.length ≤ 1000 ∧
  ∀ H' r, L2.Same H H' → H r = none → H' r = some (.lst (natsV (numF ks))) → Q (.ref r) H'
theorem DN.nil' {H : Hp} {d : Addr} : DN P w (upd H d (hoL P w d [])) d [] := .leaf [] upd_same
theorem ok_numbered (T : Txt P w K mg) : FnQ P w K mg base 1 (He.ga K "numbered") 1 (Sp1 p_numbered) := by
  refine fnQ1 T.F_numbered sc_numbered (fun _ _ _ _ _ _ us hl => match us, hl with | [_], _ => rfl) fun cdv A outer s H a Q E l qa hr h => ?_
  obtain ⟨b, us, ks, kt, rfl, hb, hks, hd, hz, q⟩ := h
  have kul := hks.length
  refine ⟨_, (pss_cons (ps_set (i := 1) sc_numbered.nd rfl (Or.inl rfl) pe_nnew)
      (pss_cons (ps_set (i := 2) sc_numbered.nd rfl (Or.inl rfl) (pe_lst pa_nil))
      (pss_cons (ps_forQ PassesOwn.leaving (cxQ_quiet qa) (piL (pv 0)) (pg_name (i := 3) sc_numbered.nd rfl (Or.inl rfl)) (pss_cons (ps_if (pt_cmp (pc_nnotin (huQ hr) (pv 3) (pv 1))) (pss_one (ps_nput (huQ hr) (pv 1) (pv 3) (pe_callB call_lenN rfl T.free_len PySem.boot_len (pa_cons (pv 1) pa_nil)))) pss_nil)
        (pss_one (ps_expr (pe_bm PySem.F.plainAttrs_list PySem.F.slot_list_append PySem.F.type_list_append mt_append (pv 2) (pa_cons (pe_nget (huQ hr) (pv 1) (pv 3) (fun _ _ => rfl)) pa_nil))))))
      (pss_one (ps_ret (pv 2)))))), ?_⟩
  intro d nd
  refine ⟨by decide, fun r nr => ?_⟩
  have dr : d ≠ r := fun e => by rw [e, upd_same] at nr; cases nr
  have nrH : H r = none := by rw [upd_ne dr.symm] at nr; exact nr
  have bd : b ≠ d := ne_of_none hb nd
  have br : b ≠ r := ne_of_none hb nrH
  refine ⟨_, rfl, b, rfl, ⟨_, SqL.of (by rw [upd_ne br, upd_ne bd]; exact hb)⟩, ?_⟩
  refine for_list (xs := us) (fun i σ H1 => (∃ o, σ = [some (.ref b), some (.ref d), some (.ref r), o]) ∧ L2.Same H H1 ∧ DN P w H1 d (plc 0 (seenF [] (ks.take i))) ∧ H1 r = some (.lst (natsV ((ks.take i).map fun k => (seenF [] (ks.take i)).idxOf k))))
    ⟨⟨_, rfl⟩, same_upd2 (same_upd nd) nrH, ?_, ?_⟩ (fun i σ H1 _ h => SqL.of (h.2.1 _ _ hb)) (fun i x σ H1 hx h => ?_) fun σ H1 h => ?_
  · exact DN.nil'.keep (upd_ne dr) fun b xs e => by rw [upd_ne (ne_of_none e nr)]; exact e
  · exact upd_same
  · obtain ⟨⟨o, rfl⟩, s1, dn, hr1⟩ := h
    obtain ⟨k, hk, ka⟩ := hks.at_ hx
    obtain ⟨kd, kk⟩ := hd k (List.mem_of_getElem? hk)
    have mem : ∀ x ∈ seenF [] (ks.take i), x ∈ ks := fun x hx => by
      rcases (seenF_mem _ _ _).mp hx with z | z
      · cases z
      · exact List.mem_of_mem_take z
    have hom : Hom (plc 0 (seenF [] (ks.take i))) k := fun kv h => ((hd _ (mem _ (plc_keys _ _ _ h))).2).trans kk.symm
    have ka1 := ka.keep fun b xs e => s1 _ _ e
    have hsl : (seenF [] (ks.take i)).length ≤ 1000 := by
      have := nodup_le _ ks (seenF_nodup (ks.take i) [] List.nodup_nil) mem
      omega
    have sn : seenF [] (ks.take (i + 1)) = if k ∈ seenF [] (ks.take i) then seenF [] (ks.take i) else seenF [] (ks.take i) ++ [k] := by rw [take_snoc hk, seenF_snoc]
    have il : i ≤ 1000 := by have := (List.getElem?_eq_some_iff.mp hx).1; omega
    have rl : (natsV ((ks.take i).map fun k => (seenF [] (ks.take i)).idxOf k)).length ≤ 1000 := by rw [List.length_map, List.length_map, List.length_take]; omega
    have memT : ∀ x ∈ ks.take i, x ∈ seenF [] (ks.take i) := fun x hx => (seenF_mem _ _ _).mpr (.inr hx)
    generalize seenF [] (ks.take i) = sn0 at dn hr1 mem hom hsl sn rl memT
    refine ⟨_, rfl, _, rfl, d, _, rfl, ⟨_, k, dn, ka1, kd, hom, rfl⟩, _, rfl, ?_⟩
    rw [plc_val]
    by_cases hm : k ∈ sn0
    · rw [if_pos hm] at sn ⊢
      rw [sn]
      refine ⟨_, rfl, .inl ⟨rfl, _, SqL.of hr1⟩, _, rfl, _, rfl, d, iV (sn0.idxOf k), rfl, ⟨_, k, dn, ka1, kd, hom, ?_⟩, r, _, _, rfl, rfl, hr1, by rw [sizeLine_eq]; omega, ⟨_, rfl⟩, same_upd2 s1 nrH, ?_, ?_⟩
      · rw [plc_val, if_pos hm, Nat.zero_add]
      · refine dn.keep (upd_ne dr) fun b xs e => by rw [upd_ne (ne_of e hr1 (fun z => by cases z))]; exact e
      · rw [upd_same, take_snoc hk, List.map_append, natsV_app]
        rfl
    · rw [if_neg hm] at sn ⊢
      rw [sn]
      obtain ⟨φ, hdd⟩ := dn.some
      refine ⟨_, rfl, d, _, rfl, dn, by rw [plc_len]; omega, _, rfl, _, rfl, d, rfl, _, k, dn, ka1, kd, hom, by rw [plc_val, if_neg hm], by rw [plc_len, sizeLine_eq]; omega, fun o' dn2 => ?_⟩
      have e3 : plc 0 (sn0 ++ [k]) = plc 0 sn0 ++ [(k, iV (plc 0 sn0).length)] := by rw [plc_snoc, Nat.zero_add, plc_len]
      rw [← e3] at dn2
      have hr2 : upd H1 d o' r = some (.lst (natsV ((ks.take i).map fun k => sn0.idxOf k))) := by rw [upd_ne dr.symm]; exact hr1
      have s2 : L2.Same H (upd H1 d o') := same_upd2 s1 nd
      generalize upd H1 d o' = H2 at dn2 hr2 s2 ⊢
      have hom2 : Hom (plc 0 (sn0 ++ [k])) k := fun kv h => by
        rcases List.mem_append.mp (plc_keys _ _ _ h) with z | z
        · exact ((hd _ (mem _ z)).2).trans kk.symm
        · rw [List.mem_singleton.mp z]
      refine ⟨_, rfl, .inl ⟨rfl, _, SqL.of hr2⟩, _, rfl, _, rfl, d, iV ((sn0 ++ [k]).idxOf k), rfl, ⟨_, k, dn2, ka.keep fun b xs e => s2 _ _ e, kd, hom2, ?_⟩, r, _, _, rfl, rfl, hr2, by rw [sizeLine_eq]; omega, ⟨_, rfl⟩, same_upd2 s2 nrH, ?_, ?_⟩
      · rw [plc_val, if_pos (by simp), Nat.zero_add]
      · refine dn2.keep (upd_ne dr) fun b xs e => by rw [upd_ne (ne_of e hr2 (fun z => by cases z))]; exact e
      · rw [upd_same, take_snoc hk, List.map_append, natsV_app]
        have : (ks.take i).map (fun k_1 => (sn0 ++ [k]).idxOf k_1) = (ks.take i).map fun k => sn0.idxOf k := List.map_congr_left fun x hx => idxOf_app (memT x hx)
        rw [this]
        rfl
  · obtain ⟨⟨o, rfl⟩, s1, dn, hr1⟩ := h
    rw [← kul, List.take_length] at hr1
    exact ⟨_, rfl, q H1 r s1 nrH hr1⟩
theorem KAll.nums {H : Hp} : ∀ (xs : List Nat), KAll H (xs.map kN) (natsV xs)
  | [] => .nil
  | _ :: xs => .cons (.int _) (KAll.nums xs)
theorem depth_nums : ∀ (xs : List Nat), NestedKey.depthAll (xs.map kN) = 0
  | [] => rfl
  | x :: xs => by
    show max (NestedKey.depth (kN x)) (NestedKey.depthAll (xs.map kN)) = 0
    rw [depth_nums xs]
    rfl
theorem getD_at {l : List Nat} {i : Nat} (h : i < l.length) : l[i]? = some (l.getD i 0) := by rw [List.getD_eq_getElem?_getD, List.getElem?_eq_getElem h]; rfl
def p_classes : Q1 := fun _ a H Q _ => ∃ (p : Addr) (m : M), a = .ref p ∧ MachAt K H p m ∧ m.Ok ∧ ∀ H' r k G, L2.Same H H' → H r = none → H' r = some (.lst (natsV G)) → Cong m k G → Q (.ref r) H'
theorem KAll.of_ix {H : Hp} : ∀ (ks : List NK) (ys : List V), ys.length = ks.length → (∀ (i : Nat) y, ys[i]? = some y → ∃ k, ks[i]? = some k ∧ KAt H k y) → KAll H ks ys
  | [], [], _, _ => .nil
  | k :: ks, y :: ys, hl, h => by
    obtain ⟨k', e, ka⟩ := h 0 y rfl
    cases e
    exact .cons ka (KAll.of_ix ks ys (Nat.succ.inj hl) fun i y e => by simpa using h (i + 1) y (by simpa using e))
/-- the loop of classes -/
def clsW (m : M) (p : Addr) (H : Hp) (n : Nat) (σ : St) (H1 : Hp) : Prop :=
  ∃ (k : Nat) (F : List Nat) (f : Addr) (o2 o3 o4 : Option V), n = 401 - k ∧ k ≤ 400 ∧ σ = [some (.ref p), some (.ref f), o2, o3, o4] ∧ H1 f = some (.lst (natsV F)) ∧ Rnd m k F ∧ L2.Same H H1 ∧ H f = none
theorem ok_classes (T : Txt P w K mg) : FnQ P w K mg base 3 (He.ga K "classes") 1 (Sp1 (p_classes (K := K))) := by
  refine fnQ1 T.F_classes sc_classes (fun _ _ _ _ _ _ us hl => match us, hl with | [_], _ => rfl) fun cdv A outer s H a Q E l qa hr h => ?_
  obtain ⟨p, m, rfl, hm, ok, q⟩ := h
  obtain ⟨dx, tl, la, h1, ht, h3⟩ := id hm
  have sm := ok.small
  have pos := ok.pos
  refine ⟨_, (pss_cons (ps_set (i := 1) sc_classes.nd rfl (Or.inr rfl) (pe_callQ (ok_numbered T) (hr.mono (by omega)) (cxQ_quiet qa) T.g_numbered pass0 (pa_cons (pe_fld (pv 0) rfl) pa_nil)))
      (pss_one (ps_while PassesOwn.leaving (pt_val pe_bl) (pss_cons (ps_set (i := 2) sc_classes.nd rfl (Or.inl rfl) (pe_callQ (ok_numbered T) (hr.mono (by omega)) (cxQ_quiet qa) T.g_numbered pass0 (pa_cons (pe_lcQ (own := [("k", 4)]) (g := gName 4) (tt := tYes) (cxQ_quiet qa) sc_classes.nd (piR1 rfl T.free_range (pa_cons (pe_propQ (pv 0) T.c_Machine T.p_size.choose_spec (ok_Machine_size T) (hr.mono (by omega)) (cxQ_quiet qa) rfl) pa_nil)) (blkOk_by (N := ["machine", "found", "finer", "state", "k"]) (sc := defScope s_classes) (by decide +kernel)) (fun _ _ _ _ hq => pg_name (i := 4) sc_classes.nd rfl (Or.inl rfl)) (fun _ _ _ _ hq => pts_nil) (fun _ _ _ _ hq hcm => (pe_tup (pa_cons (pe_ix (ix_listK (K := K)) (pv 1) (pv 4) (fun _ _ => rfl)) (pa_cons (pe_callTy (tuple_ofK (K := K)) rfl T.free_tuple (by decide +kernel) (pa_cons (pe_lcQ (own := [("state", 3)]) (g := gName 3) (tt := tYes) hq sc_classes.nd (piLK (K := K) (pe_ix (ix_listK (K := K)) (pe_fldK (K := K) (pv 0)) (pv 4) (fun _ _ => rfl))) (blkOk_by (N := ["machine", "found", "finer", "state", "k"]) (by rfl)) (fun _ _ _ _ hq => pg_name (i := 3) sc_classes.nd rfl (Or.inl rfl)) (fun _ _ _ _ hq => pts_nil) (fun _ _ _ _ hq hcm => (pe_ix (ix_listK (K := K)) (pv 1) (pv 3) (fun _ _ => rfl)))) pa_nil)) pa_nil))))) pa_nil)))
        (pss_cons (ps_if (pt_cmpR op_eq (pe_callB (cr_maxQ (cxQ_quiet qa)) rfl T.free_max (by decide +kernel) (pa_cons (pv 2) pa_nil)) (pe_callB (cr_maxQ (cxQ_quiet qa)) rfl T.free_max (by decide +kernel) (pa_cons (pv 1) pa_nil)) (nomark _)) (pss_one (ps_ret (pv 2))) pss_nil)
        (pss_one (ps_set (i := 1) sc_classes.nd rfl (Or.inr rfl) (pv 2)))))))), ?_⟩
  have k0 : KAll H (keys0 m) (m.acc.map V.bl) := KAll.of_ix _ _ (by unfold keys0; simp) fun i y e => by
    obtain ⟨b, e1, rfl⟩ := map_at e
    exact ⟨_, by unfold keys0; rw [List.getElem?_map, e1]; rfl, .bl b⟩
  refine ⟨_, rfl, p, _, dx, _, _, rfl, h1, T.c_Machine, T.n_Machine_accepting, mf_acc _ _ _, _, rfl, la, _, keys0 m, false, rfl, h3, k0, fun k hk => ?_, by rw [List.length_map, ok.alen]; omega, fun H1 f s1 nf hf => ?_⟩
  · obtain ⟨b, _, rfl⟩ := List.mem_map.mp hk
    exact ⟨Nat.zero_le _, rfl⟩
  have R0 := rnd0 ok
  have kle : ∀ {k : Nat} {F : List Nat}, Rnd m k F → k ≤ 400 := fun {k F} R => by
    have := nodup_le (List.range k) F List.nodup_range fun x hx => (R.num.mem x).mpr (List.mem_range.mp hx)
    rw [List.length_range, R.num.len] at this
    omega
  refine ⟨clsW m p H, ⟨_, _, _, f, none, none, none, rfl, kle R0, rfl, hf, R0, s1, nf⟩, ?_⟩
  rintro n σ H2 ⟨k, F, f2, o2, o3, o4, rfl, hk, rfl, hf2, R, s2, nf2⟩
  refine ⟨true, rfl, fun σ' H' => ∃ m', m' < 401 - k ∧ clsW m p H m' σ' H', fun _ _ z => z, ?_⟩
  have h12 := s2 _ _ h1
  have ht2 := ht.same fun b xs e => s2 _ _ e
  refine ⟨_, rfl, p, dx, _, rfl, h12, _, rfl, p, m, rfl, hm.same s2, _, rfl, by omega, by omega, fun D nD => ?_⟩
  rw [toN]
  have fD : f2 ≠ D := ne_of_none hf2 nD
  refine lc_objR (fun i y H => ∃ kk, (keysF m F)[i]? = some kk ∧ KAt H kk y) nD (by omega) (fun i y H H' _ ⟨kk, e1, e2⟩ hD' kp => ⟨kk, e1, e2.keep fun b xs e => kp _ _ e (ne_of e hD' (fun z => by cases z))⟩) (fun i H3 acc kc hi s3 hD3 hk3 => ?_) gName_mono fun ys H3 hyl s3 hD3 hF => ?_
  · have hi' : i < m.tab.length := hi
    have e := List.getElem?_eq_getElem hi'
    have hfi : (natsV F)[i]? = some (iV (F.getD i 0)) := by rw [List.getElem?_map, getD_at (by rw [R.num.len]; exact hi')]; rfl
    obtain ⟨ls', ra, g1, g2, g3⟩ := (ht2.same fun b xs e => s3 _ _ e).row e
    have hf3 := s3 _ _ hf2
    have h13 := s3 _ _ h12
    have hr := ok.rows _ (List.getElem_mem hi')
    have rlen : (natsV m.tab[i]).length ≤ 1000000 := by
      rw [List.length_map, hr.1]
      have := ok.w6
      have : 2 ^ m.w ≤ 2 ^ 6 := Nat.pow_le_pow_right (by decide) this
      omega
    refine ⟨rfl, _, rfl, _, rfl, f2, _, _, _, rfl, rfl, SqL.of hf3, atI_nat hfi, _, rfl, p, _, dx, _, _, rfl, h13, T.c_Machine, T.n_Machine_table, mf_table _ _ _, _, rfl, tl, _, _, _, rfl, rfl, SqL.of g1, atI_nat g2, ra, rfl, ⟨_, SqL.of g3⟩, fun D2 nD2 => ?_⟩
    have f2D : f2 ≠ D2 := ne_of_none hf3 nD2
    refine lc_pureL (ys := m.tab[i].map fun s => iV (F.getD s 0)) nD2 (SqL.of g3) (by simp) rlen (fun j x y acc2 k2 hx hy hk2 => ?_) gName_mono ?_
    · obtain ⟨sx, e1, rfl⟩ := map_at hx
      obtain ⟨sy, e2, rfl⟩ := map_at hy
      rw [e1] at e2
      cases e2
      have hs := hr.2 sx (List.mem_of_getElem? e1)
      have hfs : (natsV F)[sx]? = some (iV (F.getD sx 0)) := by rw [List.getElem?_map, getD_at (by rw [R.num.len]; exact hs)]; rfl
      exact ⟨rfl, _, rfl, _, rfl, f2, _, _, _, rfl, rfl, SqL.of (by rw [upd_ne f2D]; exact hf3), atI_nat hfs, hk2⟩
    · refine ⟨D2, _, rfl, .inl ⟨SqL.of upd_same, fun t1 nt1 => ⟨by show 2 ≤ sizeLine; decide, fun t2 nt2 => ?_⟩⟩⟩
      have n1 : H3 t1 = none := (same_upd nD2).free nt1
      have n12 : t1 ≠ t2 := fun z => by rw [z, upd_same] at nt2; cases nt2
      refine hk3 _ _ (((same_upd nD2).trans (same_upd nt1)).trans (same_upd nt2)) ⟨_, keysF_at e, .tup upd_same (.cons (.int _) (.cons (.tup (xs := m.tab[i].map fun s => iV (F.getD s 0)) ?_ ?_) .nil))⟩
      · rw [upd_ne n12]; exact upd_same
      · have := KAll.nums (H := upd (upd (upd H3 D2 (.lst (m.tab[i].map fun s => iV (F.getD s 0)))) t1 (.tup (m.tab[i].map fun s => iV (F.getD s 0)))) t2 (.tup [iV (F.getD i 0), .ref t1])) (m.tab[i].map fun s => F.getD s 0)
        rw [List.map_map, natsV, List.map_map] at this
        exact this
  · have kk := KAll.of_ix (keysF m F) ys (by rw [hyl, keysF_len]) hF
    refine ⟨_, rfl, D, ys, keysF m F, true, rfl, hD3, kk, fun k' hk' => ?_, by rw [hyl]; omega, fun H4 g s4 ng hg => ?_⟩
    · obtain ⟨i, hi⟩ := List.mem_iff_getElem?.mp hk'
      have hil : i < m.tab.length := by rw [← keysF_len m F]; exact (List.getElem?_eq_some_iff.mp hi).1
      have e := keysF_at (F := F) (List.getElem?_eq_getElem hil)
      rw [hi] at e
      cases e
      refine ⟨?_, rfl⟩
      have : (m.tab[i].map fun s => kN (F.getD s 0)) = (m.tab[i].map fun s => F.getD s 0).map kN := by rw [List.map_map]; rfl
      show max (NestedKey.depth (kN (F.getD i 0))) (max (NestedKey.depthAll (m.tab[i].map fun s => kN (F.getD s 0)) + 1) 0) + 1 ≤ 8
      rw [this, depth_nums]
      show max 0 (max (0 + 1) 0) + 1 ≤ 8
      decide
    obtain ⟨R2, kle2, cg⟩ := rndS ok R
    have hf4 := s4 _ _ (s3 _ _ hf2)
    have glen : 0 < (numF (keysF m F)).length := by rw [numF_len, keysF_len]; exact pos
    have flen : 0 < F.length := by rw [R.num.len]; exact pos
    refine ⟨_, rfl, g, (numF (keysF m F)).map fun (n : Nat) => (n : Int), rfl, by rw [← natsV_int]; exact SqL.of hg, by rw [List.length_map]; exact glen, fun mg1 hm1 hm2 => ?_⟩
    refine ⟨_, rfl, f2, F.map fun (n : Nat) => (n : Int), rfl, by rw [← natsV_int]; exact SqL.of hf4, by rw [List.length_map]; exact flen, fun mf1 hn1 hn2 => ?_⟩
    obtain ⟨a, ha, rfl⟩ := List.mem_map.mp hm1
    obtain ⟨b, hb, rfl⟩ := List.mem_map.mp hn1
    have ea := R2.num.max ha fun y hy => by
      have := hm2 y (List.mem_map_of_mem hy)
      omega
    have eb := R.num.max hb fun y hy => by
      have := hn2 y (List.mem_map_of_mem hy)
      omega
    have nH : H g = none := (s2.trans s3).free ng
    by_cases hab : a = b
    · refine ⟨rfl, true, dT (by rw [hab]), _, rfl, q H4 g _ _ ((s2.trans s3).trans s4) nH hg (cg (by omega))⟩
    · refine ⟨rfl, false, dF (intNe (fun z => hab (Int.ofNat.inj z))), _, rfl, 401 - (dd (keysF m F)).length, by have := kle R2; omega, _, _, g, _, _, _, rfl, kle R2, rfl, hg, R2, (s2.trans s3).trans s4, nH⟩
end
end K36
/-! K36W5: least -/
namespace K36
open PySem PySem.Spec PyProof.Rows L2 HotX
/-- member: each class's first state -/
def MemAt (kvs : List (Key × V)) (G : List Nat) : Prop := ∀ c : Nat, valV kvs (Sum.inl (c : Int)) = if c ∈ G then some (iV (G.idxOf c)) else none
theorem MemAt.step {kvs : List (Key × V)} {G : List Nat} {c : Nat} (h : MemAt kvs G) (hc : c ∉ G) : MemAt (putK kvs (Sum.inl (c : Int)) (iV G.length)) (G ++ [c]) := fun d => by
  rw [valV_put]
  by_cases e : d = c
  · subst e
    rw [if_pos rfl, if_pos (by simp), List.idxOf_append, if_neg hc]
    simp
  · rw [if_neg (show ¬ ((Sum.inl (d : Int) : Key) = Sum.inl (c : Int)) from fun z => e (by injection z with z; exact Int.ofNat.inj z)), h d]
    by_cases hd : d ∈ G
    · rw [if_pos hd, if_pos (List.mem_append_left _ hd), idxOf_app hd]
    · rw [if_neg hd, if_neg (fun z => (List.mem_append.mp z).elim hd fun z => e (List.mem_singleton.mp z))]
theorem MemAt.same {kvs : List (Key × V)} {G : List Nat} {c : Nat} (h : MemAt kvs G) (hc : c ∈ G) : MemAt kvs (G ++ [c]) := fun d => by
  rw [h d]
  by_cases hd : d ∈ G
  · rw [if_pos hd, if_pos (List.mem_append_left _ hd), idxOf_app hd]
  · rw [if_neg hd, if_neg (fun z => (List.mem_append.mp z).elim hd fun z => hd (by rw [List.mem_singleton.mp z]; exact hc))]
theorem nodup_kN : ∀ (L : List NK), (∀ k ∈ L, ∃ c : Nat, c < 400 ∧ k = kN c) → L.Nodup → L.length ≤ 400 := fun L h nd => by
  have := nodup_le L ((List.range 400).map kN) nd fun k hk => by
    obtain ⟨c, hc, rfl⟩ := h k hk
    exact List.mem_map_of_mem (List.mem_range.mpr hc)
  simpa using this
section
variable {P : Program} {w : World} {K : PySem.W.Frag} {mg : Str → Option Value} {base : Heap}
/-- what least gives -/
def LeastOf (m m' : M) : Prop := m'.Ok ∧ m'.Min ∧ m'.w = m.w ∧ ∀ wd, Val m.w wd → m'.accs (m'.run 0 wd) = m.accs (m.run 0 wd)
def p_least_with_map : Q1 := fun _ a H Q _ => ∃ (p : Addr) (m : M), a = .ref p ∧ MachAt K H p m ∧ m.Ok ∧ ∀ H' t p' v m', L2.Same H H' → H' t = some (.tup [.ref p', v]) → NewM K H H' p' m' → LeastOf m m' → Q (.ref t) H'
/-- the loop of least_with_map -/
def lstW (P : Program) (w : World) (K : PySem.W.Frag) (m : M) (G : List Nat) (p g md sp fa da ra : Addr) (H0 : Hp) (n : Nat) (σ : St) (H1 : Hp) : Prop :=
  ∃ (keys : List NK) (vs : List V) (rl : List Addr) (rows : List (List Nat)) (o3 o5 : Option V), n = 401 - rows.length ∧ σ = [some (.ref p), some (.ref g), some (.ref md), o3, some (.ref sp), o5, none, none, none] ∧ SrAt P w K H1 sp fa da ra false keys vs rl rows ∧
    Srch (sucL m G) (kN (G.getD 0 0)) keys rows ∧ (∀ v ∈ vs, ∃ c : Nat, v = iV c) ∧ L2.Same H0 H1
theorem ok_least_with_map (T : Txt P w K mg) : FnQ P w K mg base 5 (He.ga K "least_with_map") 1 (Sp1 (p_least_with_map (K := K))) := by
  refine fnQ1 T.F_least_with_map sc_least_with_map (fun _ _ _ _ _ _ us hl => match us, hl with | [_], _ => rfl) fun cdv A outer s H a Q E l qa hr h => ?_
  obtain ⟨p, m, rfl, hm, ok, q⟩ := h
  have sm := ok.small
  have pos := ok.pos
  have w6 : 2 ^ m.w ≤ 2 ^ 6 := Nat.pow_le_pow_right (by decide) ok.w6
  refine ⟨_, (pss_cons (ps_set (i := 1) sc_least_with_map.nd rfl (Or.inr rfl) (pe_callQ (ok_classes T) (hr.mono (by omega)) (cxQ_quiet qa) T.g_classes pass0 (pa_cons (pv 0) pa_nil)))
      (pss_cons (ps_set (i := 2) sc_least_with_map.nd rfl (Or.inr rfl) pe_dnewK)
      (pss_cons (ps_forQ PassesOwn.leaving (cxQ_quiet qa) (piR1 rfl T.free_range (pa_cons (pe_propQ (pv 0) T.c_Machine T.p_size.choose_spec (ok_Machine_size T) (hr.mono (by omega)) (cxQ_quiet qa) rfl) pa_nil)) (pg_name (i := 3) sc_least_with_map.nd rfl (Or.inl rfl)) (pss_one (ps_if (pt_cmp (pc_dnotin (huD hr) (pe_ix ix_list (pv 1) (pv 3) (fun _ _ => rfl)) (pv 2))) (pss_one (ps_dput (huD hr) (pv 2) (pe_ix ix_list (pv 1) (pv 3) (fun _ _ => rfl)) (pv 3) rfl)) pss_nil)))
      (pss_cons (ps_set (i := 4) sc_least_with_map.nd rfl (Or.inr rfl) (pe_makeQ T.k_Search (ok_Search_init T) (hr.mono (by omega)) (cxQ_quiet qa) T.g_Search pass0 (pa_cons (pe_ix ix_list (pv 1) pe_int (fun _ _ => rfl)) pa_nil)))
      (pss_cons (ps_while PassesOwn.leaving (pt_val (pe_meth0Q (pv 4) T.c_Search T.m_Search_waiting (ok_Search_waiting T) (hr.mono (by omega)) (cxQ_quiet qa) pass0)) (pss_cons (ps_set (i := 5) sc_least_with_map.nd rfl (Or.inl rfl) (pe_ix ix_list (pe_fld (pv 0) rfl) (pe_dget (huD hr) (pv 2) (pe_meth0Q (pv 4) T.c_Search T.m_Search_current (ok_Search_current T) (hr.mono (by omega)) (cxQ_quiet qa) pass0) (fun _ _ => rfl)) (fun _ _ => rfl)))
        (pss_one (ps_expr (pe_methQ (pv 4) T.c_Search T.m_Search_enter (ok_Search_enter T) (hr.mono (by omega)) (cxQ_quiet qa) pass0 (pa_cons (pe_lcQ (own := [("state", 3)]) (g := gName 3) (tt := tYes) (cxQ_quiet qa) sc_least_with_map.nd (piL (pv 5)) (blkOk_by (N := ["machine", "group", "member", "state", "search", "row", "marks", "number", "places"]) (sc := defScope s_least_with_map) (by decide +kernel)) (fun _ _ _ _ hq => pg_name (i := 3) sc_least_with_map.nd rfl (Or.inl rfl)) (fun _ _ _ _ hq => pts_nil) (fun _ _ _ _ hq hcm => (pe_ix (ix_listK (K := K)) (pv 1) (pv 3) (fun _ _ => rfl)))) pa_nil))))))
      (pss_cons (ps_setLcQ (i := 6) (own := [("number", 7)]) (g := gName 7) (tt := tYes) (cxQ_quiet qa) sc_least_with_map.nd rfl rfl (sw_true rfl rfl rfl (by decide +kernel)) (piL (pe_fld (pv 4) rfl)) (blkOk_by (N := ["machine", "group", "member", "state", "search", "row", "marks", "number", "places"]) (sc := defScope s_least_with_map) (by decide +kernel)) (fun _ _ _ _ hq => pg_name (i := 7) sc_least_with_map.nd rfl (Or.inl rfl)) (fun _ _ _ _ hq => pts_nil) (fun _ _ _ _ hq hcm => (pe_ix (ix_listK (K := K)) (pe_fldK (K := K) (pv 0)) (pe_dget (huD hr) (pv 2) (pv 7) (fun _ _ => rfl)) (fun _ _ => rfl))))
      (pss_cons (ps_setLcQ (i := 8) (own := [("number", 7)]) (g := gName 7) (tt := tYes) (cxQ_quiet qa) sc_least_with_map.nd rfl rfl (sw_true rfl rfl rfl (by decide +kernel)) (piL (pv 1)) (blkOk_by (N := ["machine", "group", "member", "state", "search", "row", "marks", "number", "places"]) (sc := defScope s_least_with_map) (by decide +kernel)) (fun _ _ _ _ hq => pg_name (i := 7) sc_least_with_map.nd rfl (Or.inl rfl)) (fun _ _ _ _ hq => pts_nil) (fun _ _ _ _ hq hcm => (pe_nget1K (P := P) (w := w) (huQ hr) (pe_fldK (K := K) (pv 4)) (pv 7) ⟨rfl, rfl, rfl, rfl⟩)))
      (pss_one (ps_ret (pe_tup (pa_cons (pe_makeQ T.k_Machine (ok_Machine_init T) (hr.mono (by omega)) (cxQ_quiet qa) T.g_Machine pass0 (pa_cons (pe_fld (pv 0) rfl) (pa_cons (pe_fld (pv 4) rfl) (pa_cons (pv 6) pa_nil)))) (pa_cons (pv 8) pa_nil)))))))))))), ?_⟩
  refine ⟨_, rfl, _, rfl, p, m, rfl, hm, ok, fun H1 g kc G s1 ng hg C md nmd => ?_⟩
  have gl := C.num.len
  have gmd : g ≠ md := ne_of_none hg nmd
  have nmdH := s1.free nmd
  refine ⟨_, rfl, p, hm.same (s1.trans (same_upd nmd)) |>.choose, _, rfl, (hm.same (s1.trans (same_upd nmd))).choose_spec.choose_spec.choose_spec.1, _, rfl, p, m, rfl, hm.same (s1.trans (same_upd nmd)), _, rfl, by omega, by omega, ?_⟩
  rw [toN]
  refine for_range (fun i σ H2 => ∃ kvs o3, σ = [some (.ref p), some (.ref g), some (.ref md), o3, none, none, none, none, none] ∧ L2.Same H1 H2 ∧ H2 md = some (.dK kvs) ∧ MemAt kvs (G.take i) ∧ kvs.length ≤ i) ⟨[], none, rfl, same_upd nmd, upd_same, fun c => rfl, Nat.le_refl _⟩ ?_ ?_
  · rintro i σ H2 hi ⟨kvs, o3, rfl, s2, hmd, hM, hkl⟩
    have hgi : (natsV G)[i]? = some (iV (G.getD i 0)) := by rw [List.getElem?_map, getD_at (by rw [gl]; exact hi)]; rfl
    have hgt := getD_at (l := G) (i := i) (by rw [gl]; exact hi)
    have hg2 := s2 _ _ hg
    rw [Int.zero_add]
    refine ⟨_, rfl, _, rfl, g, _, _, _, rfl, rfl, SqL.of hg2, atI_nat hgi, _, rfl, md, _, rfl, DGet.k (k := Sum.inl ((G.getD i 0 : Nat) : Int)) hmd, _, rfl, ?_⟩
    rw [hM (G.getD i 0)]
    by_cases hc : G.getD i 0 ∈ G.take i
    · rw [if_pos hc]
      refine ⟨kvs, _, rfl, s2, hmd, ?_, Nat.le_succ_of_le hkl⟩
      rw [take_snoc hgt]
      exact hM.same hc
    · rw [if_neg hc]
      refine ⟨_, rfl, _, rfl, _, rfl, _, rfl, g, _, _, _, rfl, rfl, SqL.of hg2, atI_nat hgi, md, _, rfl, DPut.k (k := Sum.inl ((G.getD i 0 : Nat) : Int)) hmd (by rw [sizeLine_eq]; omega), putK kvs (Sum.inl ((G.getD i 0 : Nat) : Int)) (iV i), _, rfl, ?_, upd_same, ?_, ?_⟩
      · exact same_upd2 s2 nmd
      · rw [take_snoc hgt]
        have := hM.step hc
        rw [List.length_take, Nat.min_eq_left (by omega)] at this
        exact this
      · have := length_putK kvs (Sum.inl ((G.getD i 0 : Nat) : Int)) (iV i)
        omega
  · rintro σ H2 ⟨kvs, o3, rfl, s2, hmd, hM, hkl⟩
    rw [← gl, List.take_length] at hM
    have hg2 := s2 _ _ hg
    have g0 : (natsV G)[0]? = some (iV (G.getD 0 0)) := by rw [List.getElem?_map, getD_at (by rw [gl]; exact pos)]; rfl
    refine ⟨_, rfl, g, _, _, _, rfl, rfl, SqL.of hg2, atI_nat (j := 0) g0, fun sp dxs nsp ndxs _ => make_search (k := kN (G.getD 0 0)) nsp ndxs (.int _) (Nat.zero_le _) fun fa da ra H3 sr nfa nda nra s3 => ⟨rfl, ?_⟩⟩
    refine ⟨lstW P w K m G p g md sp fa da ra H2, ⟨_, _, _, _, _, _, _, rfl, rfl, sr, .start _ _, fun v hv => ⟨_, List.mem_singleton.mp hv⟩, s3⟩, ?_⟩
    rintro n σ H4 ⟨keys, vs, rl, rows, o3', o5, rfl, rfl, sr4, S, hv, s4⟩
    obtain ⟨dx4, h14⟩ := sr4.ob
    have kl := sr4.ks.length
    have hm4 := hm.same ((s1.trans s2).trans s4)
    obtain ⟨dx, tl, la, m1, mt, m3⟩ := id hm4
    have hmd4 := s4 _ _ hmd
    have hg4 := s4 _ _ hg2
    have nofr : ∀ b o, H2 b = some o → b ∉ [fa, da, ra] := fun b o e z => by
      simp at z
      rcases z with z | z | z
      · rw [z, nfa] at e; cases e
      · rw [z, nda] at e; cases e
      · rw [z, nra] at e; cases e
    have cls : ∀ {i : Nat} {v : V}, vs[i]? = some v → ∃ c : Nat, v = iV c ∧ keys[i]? = some (kN c) ∧ c < kc := fun {i v} e => by
      obtain ⟨k, hk, ka⟩ := sr4.ks.at_ e
      obtain ⟨c, rfl⟩ := hv v (List.mem_of_getElem? e)
      cases ka
      obtain ⟨s, hs, e2⟩ := keysL ok C S _ (List.mem_of_getElem? hk)
      have := kN_inj e2
      exact ⟨c, rfl, hk, by rw [this]; exact C.num.lt hs⟩
    have memv : ∀ {c : Nat}, c < kc → valV kvs (Sum.inl (c : Int)) = some (iV (G.idxOf c)) := fun {c} hc => by rw [hM c, if_pos ((C.num.mem c).mpr hc)]
    refine ⟨_, rfl, sp, dx4, _, rfl, h14, sf_no _ _ _ (by decide +kernel) (by decide +kernel) (by decide +kernel), _, rfl, sp, fa, da, ra, false, keys, vs, rl, rows, rfl, sr4, ?_⟩
    by_cases hlt : rows.length < keys.length
    · refine ⟨true, dT hlt, fun σ' H' => ∃ m', m' < 401 - rows.length ∧ lstW P w K m G p g md sp fa da ra H2 m' σ' H', fun _ _ z => z, ?_⟩
      have hvl : rows.length < vs.length := by omega
      have ev := List.getElem?_eq_getElem hvl
      obtain ⟨c, ec, ek, hc⟩ := cls ev
      obtain ⟨r1, r2⟩ := C.rep hc
      have er := List.getElem?_eq_getElem r1
      obtain ⟨ls', rra, t1, t2, t3⟩ := mt.row er
      have hrow := ok.rows _ (List.getElem_mem r1)
      refine ⟨_, rfl, p, _, dx, _, _, rfl, m1, T.c_Machine, T.n_Machine_table, mf_table _ _ _, _, rfl, _, rfl, sp, dx4, _, rfl, h14, sf_no _ _ _ (by decide +kernel) (by decide +kernel) (by decide +kernel), _, rfl, sp, fa, da, ra, false, keys, vs, rl, rows, _, rfl, sr4, ev, md, iV (G.idxOf c), rfl, ?_, tl, _, _, _, rfl, rfl, SqL.of t1, atI_nat t2, ?_⟩
      · rw [ec, ← memv hc]; exact DGet.k (k := Sum.inl (c : Int)) hmd4
      refine ⟨_, rfl, sp, dx4, _, rfl, h14, sf_no _ _ _ (by decide +kernel) (by decide +kernel) (by decide +kernel), _, rfl, rra, rfl, ⟨_, SqL.of t3⟩, fun D nD => ?_⟩
      have rlen : (natsV m.tab[G.idxOf c]).length ≤ 1000000 := by rw [List.length_map, hrow.1]; omega
      refine lc_pureL (ys := natsV (m.tab[G.idxOf c].map fun s => G.getD s 0)) nD (SqL.of t3) (by simp [natsV]) rlen (fun j x y acc2 k2 hx hy hk2 => ?_) gName_mono ?_
      · obtain ⟨sx, e1, rfl⟩ := map_at hx
        obtain ⟨sy, e2, rfl⟩ := map_at hy
        obtain ⟨sz, e3, rfl⟩ := map_at e2
        rw [e1] at e3
        cases e3
        have hs := hrow.2 sx (List.mem_of_getElem? e1)
        have hfs : (natsV G)[sx]? = some (iV (G.getD sx 0)) := by rw [List.getElem?_map, getD_at (by rw [gl]; exact hs)]; rfl
        exact ⟨rfl, _, rfl, _, rfl, g, _, _, _, rfl, rfl, SqL.of (by rw [upd_ne (ne_of_none hg4 nD)]; exact hg4), atI_nat hfs, hk2⟩
      · have esuc : sucL m G (kN c) = (m.tab[G.idxOf c].map fun s => G.getD s 0).map kN := by
          show (m.tab.getD (G.idxOf (c : Int).toNat) []).map _ = _
          rw [Int.toNat_natCast, List.getD_eq_getElem?_getD, er, List.map_map]
          rfl
        have fD : fa ≠ D := ne_of_none sr4.fl nD
        have rD : ra ≠ D := ne_of_none sr4.rw.1 nD
        have rl400 : rows.length ≤ 400 := by have := sr4.sz; omega
        refine ⟨_, _, rfl, sp, fa, da, ra, D, false, keys, vs, rl, rows, sucL m G (kN c), natsV (m.tab[G.idxOf c].map fun s => G.getD s 0), rfl, rfl, sr4.keep (same_upd nD), upd_same, fD.symm, rD.symm, by rw [esuc]; exact KAll.nums _, fun k hk => ?_, by rw [List.length_map, List.length_map, hrow.1]; omega, by omega, fun row keys' e H5 vs' D' nD' sr5 fx hv' => ?_, fun e => ?_⟩
        · rw [esuc] at hk
          obtain ⟨_, _, rfl⟩ := List.mem_map.mp hk
          exact ⟨Nat.zero_le _, rfl⟩
        · refine ⟨401 - (rows.length + 1), by omega, keys', vs', rl ++ [D'], rows ++ [row], _, _, by rw [List.length_append]; rfl, rfl, sr5, S.step ek e, fun v h => ?_, fx.new (s4.trans (same_upd nD)) fun b hb => ?_⟩
          · rcases hv' v h with z | z
            · exact hv v z
            · obtain ⟨x, _, rfl⟩ := List.mem_map.mp z
              exact ⟨_, rfl⟩
          · cases z : H2 b with
            | none => rfl
            | some o => exact absurd hb (nofr b o z)
        · exfalso
          obtain ⟨L, l1, l2, l3⟩ := enterF_many _ _ e S.nd S.sz
          have kc400 : kc ≤ 400 := by
            have := nodup_le (List.range kc) G List.nodup_range fun x hx => (C.num.mem x).mpr (List.mem_range.mp hx)
            rw [List.length_range, gl] at this
            omega
          have := nodup_kN L (fun k hk => by
            rcases l3 k hk with z | z
            · obtain ⟨s, hs, rfl⟩ := keysL ok C S k z
              exact ⟨_, Nat.lt_of_lt_of_le (C.num.lt hs) kc400, rfl⟩
            · rw [esuc, List.map_map] at z
              obtain ⟨s, hs, rfl⟩ := List.mem_map.mp z
              exact ⟨_, Nat.lt_of_lt_of_le (C.num.lt (hrow.2 s hs)) kc400, rfl⟩) l1
          omega
    · refine ⟨false, dF hlt, ?_⟩
      have full : rows.length = keys.length := by have := S.le; omega
      obtain ⟨o1, o2, o3, o4⟩ := (fun z : _ ∧ _ ∧ _ => (⟨z.1, z.2.1, z.2.2, trivial⟩ : _ ∧ _ ∧ _ ∧ True)) (least_ok ok C S full)
      refine ⟨_, rfl, sp, _, dx4, _, _, rfl, h14, T.c_Search, T.n_Search_found, sf_found _ _ _, fa, rfl, ⟨_, SqL.of sr4.fl⟩, fun D nD => ?_⟩
      refine lc_pureL (ys := (keys.map (markL m G)).map V.bl) nD (SqL.of sr4.fl) (by rw [List.length_map, List.length_map, kl]) (by have := sr4.sz; omega) (fun j x y acc2 k2 hx hy hk2 => ?_) gName_mono ?_
      · obtain ⟨c, rfl, ek, hc⟩ := cls hx
        obtain ⟨b, e1, rfl⟩ := map_at hy
        obtain ⟨kk, e2, rfl⟩ := map_at e1
        rw [ek] at e2
        cases e2
        obtain ⟨r1, r2⟩ := C.rep hc
        have sD := same_upd (o := .lst acc2) nD
        have a1 : (m.acc.map V.bl)[G.idxOf c]? = some (.bl (m.accs (G.idxOf c))) := by rw [List.getElem?_map, ok.accs_at r1]; rfl
        refine ⟨rfl, _, rfl, p, _, dx, _, _, rfl, sD _ _ m1, T.c_Machine, T.n_Machine_accepting, mf_acc _ _ _, _, rfl, _, rfl, md, iV (G.idxOf c), rfl, ?_, la, _, _, _, rfl, rfl, SqL.of (sD _ _ m3), atI_nat a1, hk2⟩
        rw [← memv hc]; exact DGet.k (k := Sum.inl (c : Int)) (sD _ _ hmd4)
      have hD5 : upd H4 D (.lst ((keys.map (markL m G)).map V.bl)) D = some (.lst ((keys.map (markL m G)).map V.bl)) := upd_same
      have sr5 := sr4.keep (same_upd (o := .lst ((keys.map (markL m G)).map V.bl)) nD)
      have s5 : L2.Same H4 (upd H4 D (.lst ((keys.map (markL m G)).map V.bl))) := same_upd nD
      generalize upd H4 D (.lst ((keys.map (markL m G)).map V.bl)) = H5 at hD5 sr5 s5 ⊢
      have hg5 := s5 _ _ hg4
      refine ⟨_, rfl, g, rfl, ⟨_, SqL.of hg5⟩, fun D2 nD2 => ?_⟩
      refine lc_pureL (ys := G.map fun c => ((if kN c ∈ keys then some (iV (0 + keys.idxOf (kN c))) else none).getD .non)) nD2 (SqL.of hg5) (by simp) (by rw [List.length_map, gl]; omega) (fun j x y acc2 k2 hx hy hk2 => ?_) gName_mono ?_
      · obtain ⟨c, e1, rfl⟩ := map_at hx
        obtain ⟨c', e2, rfl⟩ := map_at hy
        rw [e1] at e2
        cases e2
        have sr6 := sr5.keep (same_upd (o := .lst acc2) nD2)
        obtain ⟨dx6, h16⟩ := sr6.ob
        refine ⟨rfl, _, rfl, sp, _, dx6, _, _, rfl, h16, T.c_Search, T.n_Search_places, sf_places _ _ _, da, rfl, ⟨_, sr6.dn⟩, _, rfl, _, ⟨_, kN c, sr6.dn, .int _, Nat.zero_le _, fun kv h => (sr6.dp _ (plc_keys _ _ _ h)).2, rfl⟩, ?_⟩
        rw [plc_val]
        exact hk2
      have sr6 := sr5.keep (same_upd (o := .lst (G.map fun c => ((if kN c ∈ keys then some (iV (0 + keys.idxOf (kN c))) else none).getD .non))) nD2)
      have s6 := s5.trans (same_upd (o := .lst (G.map fun c => ((if kN c ∈ keys then some (iV (0 + keys.idxOf (kN c))) else none).getD .non))) nD2)
      have hD6 := same_upd (o := .lst (G.map fun c => ((if kN c ∈ keys then some (iV (0 + keys.idxOf (kN c))) else none).getD .non))) nD2 _ _ hD5
      generalize upd H5 D2 (.lst (G.map fun c => ((if kN c ∈ keys then some (iV (0 + keys.idxOf (kN c))) else none).getD .non))) = H6 at sr6 s6 hD6 ⊢
      obtain ⟨dx6, h16⟩ := sr6.ob
      have tab6 : TabAt H6 ra rows := ⟨rl, sr6.rw.1, sr6.rw.2.1, fun i a e => let ⟨r, f1, f2, _⟩ := sr6.rw.2.2 i a e; ⟨r, f1, f2⟩⟩
      have sAll := ((s1.trans s2).trans s4).trans s6
      refine ⟨_, rfl, p, _, dx, _, _, rfl, s6 _ _ m1, T.c_Machine, T.n_Machine_width, mf_width _ _ _, _, rfl, sp, _, dx6, _, _, rfl, h16, T.c_Search, T.n_Search_rows, sf_rows _ _ _, _, rfl, fun x dxm nx ndx _ => make_machine (m := ⟨m.w, rows, keys.map (markL m G)⟩) nx ndx o1 tab6 hD6 fun H7 nm s7 => ⟨rfl, _, rfl, by show 2 ≤ sizeLine; decide, fun t nt => ?_⟩⟩
      exact q _ t x (.ref D2) ⟨m.w, rows, keys.map (markL m G)⟩ ((sAll.trans s7).trans (same_upd nt)) upd_same ((nm.same (same_upd nt)).old sAll) ⟨o1, o2, rfl, o3⟩
def p_least : Q1 := fun _ a H Q _ => ∃ (p : Addr) (m : M), a = .ref p ∧ MachAt K H p m ∧ m.Ok ∧ ∀ H' p' m', L2.Same H H' → NewM K H H' p' m' → LeastOf m m' → Q (.ref p') H'
theorem ok_least (T : Txt P w K mg) : FnQ P w K mg base 6 (He.ga K "least") 1 (Sp1 (p_least (K := K))) := by
  refine fnQ1 T.F_least sc_least (fun _ _ _ _ _ _ us hl => match us, hl with | [_], _ => rfl) fun cdv A outer s H a Q E l qa hr h => ?_
  obtain ⟨p, m, rfl, hm, ok, q⟩ := h
  refine ⟨_, (pss_one (ps_ret (pe_ix ix_tup (pe_callQ (ok_least_with_map T) (hr.mono (by omega)) (cxQ_quiet qa) T.g_least_with_map pass0 (pa_cons (pv 0) pa_nil)) pe_int (fun _ _ => rfl)))), ?_⟩
  refine ⟨_, rfl, _, rfl, p, m, rfl, hm, ok, fun H1 t p' v m' s1 ht nm lo => ⟨t, _, _, _, rfl, rfl, SqT.of ht, atI_nat (j := 0) rfl, q H1 p' m' s1 nm lo⟩⟩
end
end K36
/-! K36M3: products -/
namespace K36
open PySem
abbrev kP (a b : Nat) : NK := .tup [kN a, kN b]
theorem kP_inj {a b c d : Nat} (h : kP a b = kP c d) : a = c ∧ b = d := by
  have h : NestedKey.tup [kN a, kN b] = .tup [kN c, kN d] := h
  injection h with h
  injection h with h1 h2
  injection h2 with h2 _
  exact ⟨kN_inj h1, kN_inj h2⟩
/-- what joined says -/
def jn (s : Str) (a b : Bool) : Bool := if s = "and" then a && b else if s = "or" then a || b else if s = "imp" then b || !a else a == b
def sucP (m1 m2 : M) : NK → List NK
  | .tup [.num a, .num b] => (List.range (2 ^ m1.w)).map fun x => kP (m1.st a.toNat x) (m2.st b.toNat x)
  | _ => []
def markP (s : Str) (m1 m2 : M) : NK → Bool
  | .tup [.num a, .num b] => jn s (m1.accs a.toNat) (m2.accs b.toNat)
  | _ => false
section
variable {m1 m2 : M} {s : Str}
theorem sucP_eq (a b : Nat) : sucP m1 m2 (kP a b) = (List.range (2 ^ m1.w)).map fun x => kP (m1.st a x) (m2.st b x) := by
  show (List.range (2 ^ m1.w)).map (fun x => kP (m1.st (a : Int).toNat x) (m2.st (b : Int).toNat x)) = _
  rw [Int.toNat_natCast, Int.toNat_natCast]
theorem markP_eq (a b : Nat) : markP s m1 m2 (kP a b) = jn s (m1.accs a) (m2.accs b) := by
  show jn s (m1.accs (a : Int).toNat) (m2.accs (b : Int).toNat) = _
  rw [Int.toNat_natCast, Int.toNat_natCast]
theorem sucP_at {a b x : Nat} (h : x < 2 ^ m1.w) : (sucP m1 m2 (kP a b))[x]? = some (kP (m1.st a x) (m2.st b x)) := by
  rw [sucP_eq, List.getElem?_map, List.getElem?_range h]; rfl
theorem sucP_run : ∀ (wd : List Nat) (a b : Nat), Val m1.w wd → runK (sucP m1 m2) (kP a b) wd = kP (m1.run a wd) (m2.run b wd)
  | [], _, _, _ => rfl
  | x :: wd, a, b, hv => by
    show runK (sucP m1 m2) (((sucP m1 m2 (kP a b))[x]?).getD _) wd = _
    rw [sucP_at (hv x List.mem_cons_self)]
    exact sucP_run wd _ _ fun y hy => hv y (List.mem_cons_of_mem _ hy)
theorem keysP (o1 : m1.Ok) (o2 : m2.Ok) {keys : List NK} {rows : List (List Nat)} (S : Srch (sucP m1 m2) (kP 0 0) keys rows) : ∀ k ∈ keys, ∃ a b, a < m1.tab.length ∧ b < m2.tab.length ∧ k = kP a b :=
  S.reach (fun k => ∃ a b, a < m1.tab.length ∧ b < m2.tab.length ∧ k = kP a b) ⟨0, 0, o1.pos, o2.pos, rfl⟩ fun k ⟨a, b, _, _, e⟩ k' hk' => by
    subst e
    rw [sucP_eq] at hk'
    obtain ⟨x, _, rfl⟩ := List.mem_map.mp hk'
    exact ⟨_, _, o1.st_lt, o2.st_lt, rfl⟩
theorem product_ok (o1 : m1.Ok) (o2 : m2.Ok) {keys : List NK} {rows : List (List Nat)} (S : Srch (sucP m1 m2) (kP 0 0) keys rows) (full : rows.length = keys.length) :
    (M.mk m1.w rows (keys.map (markP s m1 m2))).Ok ∧ ∀ wd, Val m1.w wd → (M.mk m1.w rows (keys.map (markP s m1 m2))).accs ((M.mk m1.w rows (keys.map (markP s m1 m2))).run 0 wd) = jn s (m1.accs (m1.run 0 wd)) (m2.accs (m2.run 0 wd)) := by
  have ks := keysP o1 o2 S
  have hs : ∀ x ∈ keys, (sucP m1 m2 x).length = 2 ^ m1.w := fun x hx => by
    obtain ⟨a, b, _, _, rfl⟩ := ks x hx
    rw [sucP_eq, List.length_map, List.length_range]
  refine ⟨S.ok full hs o1.w6 fun x hx => ?_, fun wd hv => ?_⟩
  · obtain ⟨a, b, ha, hb, rfl⟩ := ks x hx
    have p : 0 < 2 ^ m1.w := Nat.pow_pos (by decide)
    show _ = markP s m1 m2 (((sucP m1 m2 (kP a b))[0]?).getD _)
    rw [sucP_at p]
    show _ = markP s m1 m2 (kP _ _)
    rw [markP_eq, markP_eq, ← o1.sett a ha, ← o2.sett b hb]
  · rw [S.acc full hs S.hd hv, sucP_run wd 0 0 hv, markP_eq]
theorem sum_const (n : Nat) : ∀ l : List Nat, (l.map fun _ => n).sum = l.length * n
  | [] => by simp
  | x :: l => by rw [List.map_cons, List.sum_cons, sum_const n l, List.length_cons, Nat.succ_mul, Nat.add_comm]
theorem pairs_le {L : List NK} {n1 n2 : Nat} (nd : L.Nodup) (h : ∀ k ∈ L, ∃ a b, a < n1 ∧ b < n2 ∧ k = kP a b) : L.length ≤ n1 * n2 := by
  have e : ((List.range n1).flatMap fun a => (List.range n2).map (kP a)).length = n1 * n2 := by
    rw [List.length_flatMap]
    simp only [List.length_map, List.length_range]
    rw [sum_const, List.length_range]
  rw [← e]
  refine nodup_le _ _ nd fun k hk => ?_
  obtain ⟨a, b, ha, hb, rfl⟩ := h k hk
  exact List.mem_flatMap.mpr ⟨a, List.mem_range.mpr ha, List.mem_map_of_mem (List.mem_range.mpr hb)⟩
end
end K36
/-! K36W6: complement, joined, both -/
namespace K36
open PySem PySem.Spec PyProof.Rows L2 HotX
section
variable {P : Program} {w : World} {K : PySem.W.Frag} {mg : Str → Option Value} {base : Heap}
def p_complement : Q1 := fun _ a H Q _ => ∃ (p : Addr) (m : M), a = .ref p ∧ MachAt K H p m ∧ m.Ok ∧ ∀ H' p' m', L2.Same H H' → NewM K H H' p' m' → m'.Ok → m'.w = m.w → (∀ wd, m'.accs (m'.run 0 wd) = !m.accs (m.run 0 wd)) → Q (.ref p') H'
theorem comp_accs {m : M} (o : m.Ok) {s : Nat} (h : s < m.tab.length) : (M.mk m.w m.tab (m.acc.map fun b => !b)).accs s = !m.accs s := by
  show (m.acc.map fun b => !b).getD s false = _
  rw [List.getD_eq_getElem?_getD, List.getElem?_map, o.accs_at h]
  rfl
theorem comp_ok {m : M} (o : m.Ok) : (M.mk m.w m.tab (m.acc.map fun b => !b)).Ok :=
  ⟨o.w6, o.pos, o.small, by show (m.acc.map _).length = _; rw [List.length_map]; exact o.alen, o.rows, fun s hs => by
    rw [comp_accs o hs, comp_accs o (show (M.mk m.w m.tab (m.acc.map fun b => !b)).st s 0 < m.tab.length from o.st_lt)]
    exact congrArg _ (o.sett s hs)⟩
theorem ok_complement (T : Txt P w K mg) : FnQ P w K mg base 5 (He.ga K "complement") 1 (Sp1 (p_complement (K := K))) := by
  refine fnQ1 T.F_complement sc_complement (fun _ _ _ _ _ _ us hl => match us, hl with | [_], _ => rfl) fun cdv A outer s H a Q E l qa hr h => ?_
  obtain ⟨p, m, rfl, hm, ok, q⟩ := h
  obtain ⟨dx, tl, la, h1, ht, h3⟩ := id hm
  refine ⟨_, (pss_one (ps_ret (pe_makeQ T.k_Machine (ok_Machine_init T) (hr.mono (by omega)) (cxQ_quiet qa) T.g_Machine pass0 (pa_cons (pe_fld (pv 0) rfl) (pa_cons (pe_fld (pv 0) rfl) (pa_cons (pe_lcQ (own := [("mark", 1)]) (g := gName 1) (tt := tYes) (cxQ_quiet qa) sc_complement.nd (piL (pe_fld (pv 0) rfl)) (blkOk_by (N := ["machine", "mark"]) (sc := defScope s_complement) (by decide +kernel)) (fun _ _ _ _ hq => pg_name (i := 1) sc_complement.nd rfl (Or.inl rfl)) (fun _ _ _ _ hq => pts_nil) (fun _ _ _ _ hq hcm => (pe_not (pv 1)))) pa_nil)))))), ?_⟩
  refine ⟨_, rfl, p, _, dx, _, _, rfl, h1, T.c_Machine, T.n_Machine_width, mf_width _ _ _, _, rfl, p, _, dx, _, _, rfl, h1, T.c_Machine, T.n_Machine_table, mf_table _ _ _, _, rfl, p, _, dx, _, _, rfl, h1, T.c_Machine, T.n_Machine_accepting, mf_acc _ _ _, la, rfl, ⟨_, SqL.of h3⟩, fun D nD => ?_⟩
  refine lc_pureL (ys := (m.acc.map fun b => !b).map V.bl) nD (SqL.of h3) (by simp) (by rw [List.length_map, ok.alen]; have := ok.small; omega) (fun j x y acc2 k2 hx hy hk2 => ?_) gName_mono ?_
  · obtain ⟨b, e1, rfl⟩ := map_at hx
    obtain ⟨b', e2, rfl⟩ := map_at hy
    obtain ⟨b'', e3, rfl⟩ := map_at e2
    rw [e1] at e3
    cases e3
    exact ⟨rfl, _, rfl, _, rfl, hk2⟩
  · refine fun x dxm nx ndx _ => make_machine (m := ⟨m.w, m.tab, m.acc.map fun b => !b⟩) nx ndx (comp_ok ok) (ht.same fun b xs e => same_upd nD _ _ e) upd_same fun H7 nm s7 => ⟨rfl, ?_⟩
    exact q _ x _ ((same_upd nD).trans s7) (nm.old (same_upd nD)) (comp_ok ok) rfl fun wd => comp_accs ok (ok.run_lt ok.pos wd)
def p_joined : Q3 := fun _ a b d H Q _ => ∃ (s : Str) (x y : Bool), a = .str s ∧ b = .bl x ∧ d = .bl y ∧ s ∈ ops4 ∧ Q (.bl (jn s x y)) H
theorem strNe {a b : Str} (h : a ≠ b) : V.str a ≠ V.str b := fun e => h (V.str.inj e)
theorem ok_joined (T : Txt P w K mg) : FnQ P w K mg base 1 (He.ga K "joined") 3 (Sp3 p_joined) := by
  refine fnQ3 T.F_joined sc_joined (fun _ _ _ _ _ _ us hl => match us, hl with | [_, _, _], _ => rfl) fun cdv A outer s H a b d Q E l qa hr h => ?_
  obtain ⟨z, x, y, rfl, rfl, rfl, hs, q⟩ := h
  refine ⟨_, (pss_cons (ps_if (pt_cmpR op_eq (pv 0) pe_str (nomark _)) (pss_one (ps_ret (pe_and (pv 1) (pe_one (pv 2))))) pss_nil)
      (pss_cons (ps_if (pt_cmpR op_eq (pv 0) pe_str (nomark _)) (pss_one (ps_ret (pe_or (pv 1) (pe_one (pv 2))))) pss_nil)
      (pss_cons (ps_if (pt_cmpR op_eq (pv 0) pe_str (nomark _)) (pss_one (ps_ret (pe_or (pv 2) (pe_one (pe_not (pv 1)))))) pss_nil)
      (pss_one (ps_ret (pe_cmpR op_eq (pv 1) (pv 2) (nomark _))))))), ?_⟩
  by_cases h1 : z = "and"
  · subst h1
    refine ⟨_, rfl, rfl, true, dT rfl, _, rfl, x, rfl, ?_⟩
    cases x
    · exact q
    · exact ⟨_, rfl, q⟩
  refine ⟨_, rfl, rfl, false, dF (strNe h1), ?_⟩
  by_cases h2 : z = "or"
  · subst h2
    refine ⟨_, rfl, rfl, true, dT rfl, _, rfl, x, rfl, ?_⟩
    cases x
    · exact ⟨_, rfl, q⟩
    · exact q
  refine ⟨_, rfl, rfl, false, dF (strNe h2), ?_⟩
  by_cases h3 : z = "imp"
  · subst h3
    refine ⟨_, rfl, rfl, true, dT rfl, _, rfl, y, rfl, ?_⟩
    cases y
    · exact ⟨_, rfl, x, rfl, q⟩
    · exact q
  refine ⟨_, rfl, rfl, false, dF (strNe h3), _, rfl, _, rfl, rfl, ?_⟩
  have e : jn z x y = (x == y) := by unfold jn; rw [if_neg h1, if_neg h2, if_neg h3]
  rw [e] at q
  refine qb (Q := Q) ?_ q
  cases x <;> cases y <;> rfl
theorem rngB {n : Nat} (h : n ≤ 1000) : -(2 : Int) ^ 62 ≤ (n : Int) ∧ (n : Int) < 2 ^ 62 := by omega
/-- a pair of numbers -/
def PairV (H : Hp) (v : V) : Prop := ∃ q i j, v = .ref q ∧ H q = some (.tup [iV i, iV j])
theorem PairV.keep {H H' : Hp} {v : V} (p : PairV H v) (k : ∀ b xs, H b = some (.tup xs) → H' b = some (.tup xs)) : PairV H' v := let ⟨q, i, j, e, h⟩ := p; ⟨q, i, j, e, k _ _ h⟩
theorem PairV.key {H : Hp} {v : V} {k : NK} (p : PairV H v) (ka : KAt H k v) : ∃ q i j, v = .ref q ∧ H q = some (.tup [iV i, iV j]) ∧ k = kP i j := by
  obtain ⟨q, i, j, rfl, h⟩ := p
  refine ⟨q, i, j, rfl, h, ?_⟩
  cases ka with
  | tup e r =>
    rw [h] at e
    cases e
    cases r with
    | cons r1 t =>
      cases t with
      | cons r2 t2 =>
        cases t2
        cases r1
        cases r2
        rfl
theorem gTup2_mono {K : PySem.W.Frag} {i j : Nat} : ∀ (x : V) (σ : L2.St) (H : Hp) (Q Q' : St → Hp → Prop), (∀ σ H, Q σ H → Q' σ H) → gTup K 2 (gCons (gName i) (gCons (gName j) gNil)) x σ H Q → gTup K 2 (gCons (gName i) (gCons (gName j) gNil)) x σ H Q' := by
  rintro x σ H Q Q' h ⟨a, xs, e1, e2, e3, v1, r1, e4, v2, r2, e5, e6, q⟩
  exact ⟨a, xs, e1, e2, e3, v1, r1, e4, v2, r2, e5, e6, h _ _ q⟩
def p_both_with_pairs : Q3 := fun c a b d H Q E => ∃ (p1 p2 : Addr) (m1 m2 : M) (z : Str), a = .ref p1 ∧ b = .ref p2 ∧ d = .str z ∧ MachAt K H p1 m1 ∧ MachAt K H p2 m2 ∧ m1.Ok ∧ m2.Ok ∧ m1.w = m2.w ∧ z ∈ ops4 ∧
  (∀ H' t p' v m', L2.Same H H' → H' t = some (.tup [.ref p', v]) → NewM K H H' p' m' → m'.Ok → m'.w = m1.w → (∀ wd, Val m1.w wd → m'.accs (m'.run 0 wd) = jn z (m1.accs (m1.run 0 wd)) (m2.accs (m2.run 0 wd))) → Q (.ref t) H') ∧
  (400 < m1.tab.length * m2.tab.length → ovS K [] c H E)
/-- the loop of both_with_pairs -/
def bthW (P : Program) (w : World) (K : PySem.W.Frag) (m1 m2 : M) (z : Str) (p1 p2 sp fa da ra : Addr) (H0 : Hp) (n : Nat) (σ : St) (H1 : Hp) : Prop :=
  ∃ (keys : List NK) (vs : List V) (rl : List Addr) (rows : List (List Nat)) (o4 o5 o6 o7 : Option V), n = 401 - rows.length ∧ σ = [some (.ref p1), some (.ref p2), some (.str z), some (.ref sp), o4, o5, o6, o7, none] ∧ SrAt P w K H1 sp fa da ra true keys vs rl rows ∧
    Srch (sucP m1 m2) (kP 0 0) keys rows ∧ (∀ v ∈ vs, PairV H1 v) ∧ L2.Same H0 H1
theorem ok_both_with_pairs (T : Txt P w K mg) : FnQ P w K mg base 5 (He.ga K "both_with_pairs") 3 (Sp3 (p_both_with_pairs (K := K))) := by
  refine fnQ3 T.F_both_with_pairs sc_both_with_pairs (fun _ _ _ _ _ _ us hl => match us, hl with | [_, _, _], _ => rfl) fun cdv A outer s H a b d Q E l qa hr h => ?_
  obtain ⟨p1, p2, m1, m2, z, rfl, rfl, rfl, hm1, hm2, o1, o2, ew, hz, q, qo⟩ := h
  have w6 : 2 ^ m1.w ≤ 2 ^ 6 := Nat.pow_le_pow_right (by decide) o1.w6
  obtain ⟨dx1, t1, a1, h11, _, _⟩ := id hm1
  obtain ⟨dx2, t2, a2, h21, _, _⟩ := id hm2
  obtain ⟨an, _, hnT⟩ := id T.g_NAMES
  refine ⟨_, (pss_cons (ps_if (pt_cmpR op_ne (pe_fld (pv 0) rfl) (pe_fld (pv 1) rfl) (nomark _)) pss_never pss_nil)
      (pss_cons (ps_if (pt_cmpR op_notIn_seq (pv 2) (pe_glob (v := .ref _) rfl T.g_NAMES.choose_spec.1 rfl) (by with_unfolding_all rfl)) pss_never pss_nil)
      (pss_cons (ps_set (i := 3) sc_both_with_pairs.nd rfl (Or.inl rfl) (pe_makeQ T.k_Search (ok_Search_init T) (hr.mono (by omega)) (cxQ_quiet qa) T.g_Search pass0 (pa_cons (pe_tup (pa_cons pe_int (pa_cons pe_int pa_nil))) pa_nil)))
      (pss_cons (ps_while PassesOwn.leaving (pt_val (pe_meth0Q (pv 3) T.c_Search T.m_Search_waiting (ok_Search_waiting T) (hr.mono (by omega)) (cxQ_quiet qa) pass0)) (pss_cons (ps_asg (pe_meth0Q (pv 3) T.c_Search T.m_Search_current (ok_Search_current T) (hr.mono (by omega)) (cxQ_quiet qa) pass0) (pg_tupQ (cxQ_quiet qa) (pgs_cons (pg_name (i := 4) sc_both_with_pairs.nd rfl (Or.inl rfl)) (pgs_cons (pg_name (i := 5) sc_both_with_pairs.nd rfl (Or.inl rfl)) pgs_nil))))
        (pss_cons (ps_set (i := 6) sc_both_with_pairs.nd rfl (Or.inl rfl) (pe_lst pa_nil))
        (pss_cons (ps_forQ PassesOwn.leaving (cxQ_quiet qa) (piR1 rfl T.free_range (pa_cons (pe_callQ (ok_letters T) (hr.mono (by omega)) (cxQ_quiet qa) T.g_letters pass0 (pa_cons (pe_fld (pv 0) rfl) pa_nil)) pa_nil)) (pg_name (i := 7) sc_both_with_pairs.nd rfl (Or.inl rfl)) (pss_one (ps_expr (pe_bm PySem.F.plainAttrs_list PySem.F.slot_list_append PySem.F.type_list_append mt_append (pv 6) (pa_cons (pe_tup (pa_cons (pe_ix ix_list (pe_ix ix_list (pe_fld (pv 0) rfl) (pv 4) (fun _ _ => rfl)) (pv 7) (fun _ _ => rfl)) (pa_cons (pe_ix ix_list (pe_ix ix_list (pe_fld (pv 1) rfl) (pv 5) (fun _ _ => rfl)) (pv 7) (fun _ _ => rfl)) pa_nil))) pa_nil)))))
        (pss_one (ps_expr (pe_methQ (pv 3) T.c_Search T.m_Search_enter (ok_Search_enter T) (hr.mono (by omega)) (cxQ_quiet qa) passE (pa_cons (pv 6) pa_nil))))))))
      (pss_cons (ps_setLcQ (i := 8) (own := [("first", 4), ("second", 5)]) (g := gTup K 2 (gCons (gName 4) (gCons (gName 5) gNil))) (tt := tYes) (cxQ_quiet qa) sc_both_with_pairs.nd rfl rfl (sw_true rfl rfl rfl (by decide +kernel)) (piL (pe_fld (pv 3) rfl)) (blkOk_by (N := ["one", "two", "name", "search", "first", "second", "successors", "letter", "marks"]) (sc := defScope s_both_with_pairs) (by decide +kernel)) (fun _ _ _ _ hq => pg_tupQ hq (pgs_cons (pg_name (i := 4) sc_both_with_pairs.nd rfl (Or.inl rfl)) (pgs_cons (pg_name (i := 5) sc_both_with_pairs.nd rfl (Or.inl rfl)) pgs_nil))) (fun _ _ _ _ hq => pts_nil) (fun _ _ _ _ hq hcm => (pe_callK (c := l.isEmpty) (ok_joined T) (hr.mono (by omega)) hq T.g_joined pass0 (pa_cons (pv 2) (pa_cons (pe_ix (ix_listK (K := K)) (pe_fldK (K := K) (pv 0)) (pv 4) (fun _ _ => rfl)) (pa_cons (pe_ix (ix_listK (K := K)) (pe_fldK (K := K) (pv 1)) (pv 5) (fun _ _ => rfl)) pa_nil))) hcm)))
      (pss_one (ps_ret (pe_tup (pa_cons (pe_makeQ T.k_Machine (ok_Machine_init T) (hr.mono (by omega)) (cxQ_quiet qa) T.g_Machine pass0 (pa_cons (pe_fld (pv 0) rfl) (pa_cons (pe_fld (pv 3) rfl) (pa_cons (pv 8) pa_nil)))) (pa_cons (pe_callTy call_list_of rfl T.free_list (by decide +kernel) (pa_cons (pe_fld (pv 3) rfl) pa_nil)) pa_nil)))))))))), ?_⟩
  refine ⟨_, rfl, p1, _, dx1, _, _, rfl, h11, T.c_Machine, T.n_Machine_width, mf_width _ _ _, _, rfl, p2, _, dx2, _, _, rfl, h21, T.c_Machine, T.n_Machine_width, mf_width _ _ _, rfl, false, nF (by rw [ew]), ?_⟩
  refine ⟨_, rfl, _, _, rfl, .inr (T.g_NAMES.choose_spec.2 H), rfl, by decide +kernel, false, ?_, ?_⟩
  · simp only [ops4, List.mem_cons, List.not_mem_nil, or_false] at hz
    rcases hz with rfl | rfl | rfl | rfl <;> decide +kernel
  refine ⟨by show 2 ≤ sizeLine; decide, fun t0 nt0 => fun sp dxs nsp ndxs _ => make_search (k := kP 0 0) nsp ndxs (.tup upd_same (.cons (.int 0) (.cons (.int 0) .nil))) (by decide) fun fa da ra H3 sr nfa nda nra s3' => ⟨rfl, ?_⟩⟩
  have pv0 : PairV (upd H t0 (.tup [V.int 0, V.int 0])) (.ref t0) := ⟨t0, 0, 0, rfl, upd_same⟩
  have sH : L2.Same H (upd H t0 (.tup [V.int 0, V.int 0])) := same_upd nt0
  generalize upd H t0 (.tup [V.int 0, V.int 0]) = H2 at nsp ndxs nfa nda nra s3' pv0 sH
  refine ⟨bthW P w K m1 m2 z p1 p2 sp fa da ra H2, ⟨_, _, _, _, _, _, _, _, _, rfl, rfl, sr, .start _ _, fun v hv => by rw [List.mem_singleton.mp hv]; exact pv0.keep fun b xs e => s3' _ _ e, s3'⟩, ?_⟩
  rintro n σ H4 ⟨keys, vs, rl, rows, o4, o5, o6, o7, rfl, rfl, sr4, S, hv, s4⟩
  obtain ⟨dx4, h14⟩ := sr4.ob
  have kl := sr4.ks.length
  have sA := sH.trans s4
  have nofr : ∀ b o, H2 b = some o → b ∉ [fa, da, ra] := fun b o e z => by
    simp at z
    rcases z with z | z | z
    · rw [z, nfa] at e; cases e
    · rw [z, nda] at e; cases e
    · rw [z, nra] at e; cases e
  have cls : ∀ {i : Nat} {v : V}, vs[i]? = some v → ∃ q a b, v = .ref q ∧ H4 q = some (.tup [iV a, iV b]) ∧ keys[i]? = some (kP a b) ∧ a < m1.tab.length ∧ b < m2.tab.length := fun {i v} e => by
    obtain ⟨k, hk, ka⟩ := sr4.ks.at_ e
    obtain ⟨q, a, b, e1, e2, e3⟩ := (hv v (List.mem_of_getElem? e)).key ka
    rw [e3] at hk
    obtain ⟨a', b', ha, hb, e4⟩ := keysP o1 o2 S _ (List.mem_of_getElem? hk)
    obtain ⟨e5, e6⟩ := kP_inj e4
    exact ⟨q, a, b, e1, e2, hk, by omega, by omega⟩
  refine ⟨_, rfl, sp, dx4, _, rfl, h14, sf_no _ _ _ (by decide +kernel) (by decide +kernel) (by decide +kernel), _, rfl, sp, fa, da, ra, true, keys, vs, rl, rows, rfl, sr4, ?_⟩
  by_cases hlt : rows.length < keys.length
  · refine ⟨true, dT hlt, fun σ' H' => ∃ m', m' < 401 - rows.length ∧ bthW P w K m1 m2 z p1 p2 sp fa da ra H2 m' σ' H', fun _ _ z => z, ?_⟩
    have hvl : rows.length < vs.length := by omega
    have ev := List.getElem?_eq_getElem hvl
    obtain ⟨qa', x, y, ec, et, ek, hx, hy⟩ := cls ev
    refine ⟨_, rfl, sp, dx4, _, rfl, h14, sf_no _ _ _ (by decide +kernel) (by decide +kernel) (by decide +kernel), _, rfl, sp, fa, da, ra, true, keys, vs, rl, rows, _, rfl, sr4, ev, qa', _, ec, SqT.of et, rfl, _, _, rfl, _, _, rfl, rfl, by decide, fun su nsu => ?_⟩
    have m14 := hm1.same sA
    obtain ⟨dxa, ta, aa, ha1, _, _⟩ := id m14
    have fs : fa ≠ su := ne_of_none sr4.fl nsu
    have rs : ra ≠ su := ne_of_none sr4.rw.1 nsu
    have nrl : su ∉ rl := fun zz => by
      obtain ⟨i, hi⟩ := List.mem_iff_getElem?.mp zz
      obtain ⟨r, _, g, _⟩ := sr4.rw.2.2 i su hi
      rw [nsu] at g
      cases g
    refine ⟨_, rfl, p1, _, dxa, _, _, rfl, same_upd nsu _ _ ha1, T.c_Machine, T.n_Machine_width, mf_width _ _ _, _, rfl, m1.w, rfl, o1.w6, _, rfl, (rngB (n := 2 ^ m1.w) (by omega)).1, (rngB (n := 2 ^ m1.w) (by omega)).2, ?_⟩
    rw [toN]
    refine for_range (fun i σ H5 => ∃ us o7, σ = [some (.ref p1), some (.ref p2), some (.str z), some (.ref sp), some (iV x), some (iV y), some (.ref su), o7, none] ∧ H5 su = some (.lst us) ∧ KAll H5 ((sucP m1 m2 (kP x y)).take i) us ∧ (∀ u ∈ us, PairV H5 u) ∧ SrAt P w K H5 sp fa da ra true keys vs rl rows ∧ L2.Same H4 H5)
      ⟨[], _, rfl, upd_same, .nil, fun u h => (nomatch h), sr4.keep (same_upd nsu), same_upd nsu⟩ ?_ ?_
    · rintro i σ H5 hi ⟨us, o7', rfl, hsu, kus, hpu, sr5, s5⟩
      have hi : i < 2 ^ m1.w := hi
      have m15 := m14.same s5
      have m25 := (hm2.same sA).same s5
      obtain ⟨dxa, ta, aa, ha1, hta, _⟩ := id m15
      obtain ⟨dxb, tb, ab, hb1, htb, _⟩ := id m25
      obtain ⟨r1, f1, f2⟩ := o1.st_at hx hi
      obtain ⟨r2, g1, g2⟩ := o2.st_at hy (by rw [← ew]; exact hi)
      obtain ⟨la1, ra1, e11, e12, e13⟩ := hta.row f1
      obtain ⟨la2, ra2, e21, e22, e23⟩ := htb.row g1
      have i1 : (natsV r1)[i]? = some (iV (m1.st x i)) := by rw [List.getElem?_map, f2]; rfl
      have i2 : (natsV r2)[i]? = some (iV (m2.st y i)) := by rw [List.getElem?_map, g2]; rfl
      have ul : us.length = i := by rw [← kus.length, List.length_take, sucP_eq, List.length_map, List.length_range]; omega
      rw [Int.zero_add]
      refine ⟨_, rfl, .inl ⟨rfl, _, SqL.of hsu⟩, _, rfl, p1, _, dxa, _, _, rfl, ha1, T.c_Machine, T.n_Machine_table, mf_table _ _ _, _, rfl, ta, _, _, _, rfl, rfl, SqL.of e11, atI_nat e12, _, rfl, ra1, _, _, _, rfl, rfl, SqL.of e13, atI_nat i1,
        _, rfl, p2, _, dxb, _, _, rfl, hb1, T.c_Machine, T.n_Machine_table, mf_table _ _ _, _, rfl, tb, _, _, _, rfl, rfl, SqL.of e21, atI_nat e22, _, rfl, ra2, _, _, _, rfl, rfl, SqL.of e23, atI_nat i2, by show 2 ≤ sizeLine; decide, fun tt ntt => ?_⟩
      have hsu2 := same_upd (o := .tup [iV (m1.st x i), iV (m2.st y i)]) ntt _ _ hsu
      have kk : ∀ b o, upd H5 tt (.tup [iV (m1.st x i), iV (m2.st y i)]) b = some o → b ≠ su → upd (upd H5 tt (.tup [iV (m1.st x i), iV (m2.st y i)])) su (.lst (us ++ [.ref tt])) b = some o := fun b o e n => by rw [upd_ne n]; exact e
      have tk : ∀ b xs, H5 b = some (.tup xs) → upd (upd H5 tt (.tup [iV (m1.st x i), iV (m2.st y i)])) su (.lst (us ++ [.ref tt])) b = some (.tup xs) := fun b xs e => kk _ _ (same_upd ntt _ _ e) (ne_of e hsu (fun z => by cases z))
      have ttn : tt ≠ su := (ne_of_none hsu ntt).symm
      have tte : upd (upd H5 tt (.tup [iV (m1.st x i), iV (m2.st y i)])) su (.lst (us ++ [.ref tt])) tt = some (.tup [iV (m1.st x i), iV (m2.st y i)]) := kk _ _ upd_same ttn
      refine ⟨su, _, _, rfl, rfl, hsu2, by rw [ul, sizeLine_eq]; omega, us ++ [.ref tt], _, rfl, upd_same, ?_, fun u hu => ?_, (sr5.keep (same_upd ntt)).but hsu2 kk fs rs nrl, fun b o e => ?_⟩
      · rw [take_snoc (sucP_at hi)]
        exact (kus.keep tk).snoc (.tup tte (.cons (.int _) (.cons (.int _) .nil)))
      · rcases List.mem_append.mp hu with zz | zz
        · exact (hpu u zz).keep tk
        · rw [List.mem_singleton.mp zz]; exact ⟨tt, _, _, rfl, tte⟩
      · exact kk _ _ (same_upd ntt _ _ (s5 _ _ e)) (ne_of_none e nsu)
    · rintro σ H5 ⟨us, o7', rfl, hsu, kus, hpu, sr5, s5⟩
      obtain ⟨dx5, h15⟩ := sr5.ob
      have esl : (sucP m1 m2 (kP x y)).length = 2 ^ m1.w := by rw [sucP_eq, List.length_map, List.length_range]
      rw [← esl, List.take_length] at kus
      have ul : us.length = 2 ^ m1.w := by rw [← kus.length, esl]
      have rl400 : rows.length ≤ 400 := by have := sr4.sz; omega
      refine ⟨_, rfl, sp, dx5, _, rfl, h15, sf_no _ _ _ (by decide +kernel) (by decide +kernel) (by decide +kernel), _, rfl, _, _, rfl, sp, fa, da, ra, su, true, keys, vs, rl, rows, sucP m1 m2 (kP x y), us, rfl, rfl, sr5, hsu, fs.symm, rs.symm, kus, fun k hk => ?_, by omega, by omega, fun row keys' e H6 vs' D' nD' sr6 fx hv' => ?_, fun e => ?_⟩
      · rw [sucP_eq] at hk
        obtain ⟨_, _, rfl⟩ := List.mem_map.mp hk
        exact ⟨by show max 0 (max 0 0) + 1 ≤ 8; decide, rfl⟩
      · refine ⟨401 - (rows.length + 1), by omega, keys', vs', rl ++ [D'], rows ++ [row], _, _, _, _, by rw [List.length_append]; rfl, rfl, sr6, S.step ek e, fun v h => ?_, fx.new (s4.trans s5) fun b hb => ?_⟩
        · rcases hv' v h with zz | zz
          · exact ((hv v zz).keep fun b xs e => s5 _ _ e).keep fx.tup
          · exact (hpu v zz).keep fx.tup
        · cases zz : H2 b with
          | none => rfl
          | some o => exact absurd hb (nofr b o zz)
      · obtain ⟨L, l1, l2, l3⟩ := enterF_many _ _ e S.nd S.sz
        have := pairs_le (n1 := m1.tab.length) (n2 := m2.tab.length) l1 fun k hk => by
          rcases l3 k hk with zz | zz
          · exact keysP o1 o2 S k zz
          · rw [sucP_eq] at zz
            obtain ⟨_, _, rfl⟩ := List.mem_map.mp zz
            exact ⟨_, _, o1.st_lt, o2.st_lt, rfl⟩
        refine (qo (by omega)).same (sA.trans s5) fun b hb => .inr (sH.free ?_)
        cases zz : H2 b with
        | none => rfl
        | some o => exact absurd hb (nofr b o zz)
  · refine ⟨false, dF hlt, ?_⟩
    have full : rows.length = keys.length := by have := S.le; omega
    have po := product_ok (s := z) o1 o2 S full
    refine ⟨_, rfl, sp, _, dx4, _, _, rfl, h14, T.c_Search, T.n_Search_found, sf_found _ _ _, fa, rfl, ⟨_, SqL.of sr4.fl⟩, fun D nD => ?_⟩
    have m14 := hm1.same sA
    have m24 := hm2.same sA
    refine lc_pureL (ys := (keys.map (markP z m1 m2)).map V.bl) nD (SqL.of sr4.fl) (by rw [List.length_map, List.length_map, kl]) (by have := sr4.sz; omega) (fun j x y acc2 k2 hx hy hk2 => ?_) gTup2_mono ?_
    · obtain ⟨qq, a, b, rfl, et, ek, ha, hb⟩ := cls hx
      obtain ⟨bb, e1, rfl⟩ := map_at hy
      obtain ⟨kk, e2, rfl⟩ := map_at e1
      rw [ek] at e2
      cases e2
      rw [markP_eq] at hk2
      have sD := same_upd (o := .lst acc2) nD
      obtain ⟨dxa, ta, aa, ha1, _, ha3⟩ := m14.same sD
      obtain ⟨dxb, tb, ab, hb1, _, hb3⟩ := m24.same sD
      have i1 : (m1.acc.map V.bl)[a]? = some (.bl (m1.accs a)) := by rw [List.getElem?_map, o1.accs_at ha]; rfl
      have i2 : (m2.acc.map V.bl)[b]? = some (.bl (m2.accs b)) := by rw [List.getElem?_map, o2.accs_at hb]; rfl
      exact ⟨qq, _, rfl, SqT.of (sD _ _ et), rfl, _, _, rfl, _, _, rfl, rfl, rfl, _, rfl, _, rfl, p1, _, dxa, _, _, rfl, ha1, T.c_Machine, T.n_Machine_accepting, mf_acc _ _ _, _, rfl, aa, _, _, _, rfl, rfl, SqL.of ha3, atI_nat i1,
        _, rfl, p2, _, dxb, _, _, rfl, hb1, T.c_Machine, T.n_Machine_accepting, mf_acc _ _ _, _, rfl, ab, _, _, _, rfl, rfl, SqL.of hb3, atI_nat i2, _, _, _, rfl, z, _, _, rfl, rfl, rfl, hz, hk2⟩
    have hD5 : upd H4 D (.lst ((keys.map (markP z m1 m2)).map V.bl)) D = some (.lst ((keys.map (markP z m1 m2)).map V.bl)) := upd_same
    have sr5 := sr4.keep (same_upd (o := .lst ((keys.map (markP z m1 m2)).map V.bl)) nD)
    have s5 : L2.Same H4 (upd H4 D (.lst ((keys.map (markP z m1 m2)).map V.bl))) := same_upd nD
    generalize upd H4 D (.lst ((keys.map (markP z m1 m2)).map V.bl)) = H5 at hD5 sr5 s5 ⊢
    obtain ⟨dx5, h15⟩ := sr5.ob
    have tab5 : TabAt H5 ra rows := ⟨rl, sr5.rw.1, sr5.rw.2.1, fun i a e => let ⟨r, f1, f2, _⟩ := sr5.rw.2.2 i a e; ⟨r, f1, f2⟩⟩
    obtain ⟨dxa, ta, aa, ha1, _, _⟩ := m14.same s5
    have sAll := sA.trans s5
    refine ⟨_, rfl, p1, _, dxa, _, _, rfl, ha1, T.c_Machine, T.n_Machine_width, mf_width _ _ _, _, rfl, sp, _, dx5, _, _, rfl, h15, T.c_Search, T.n_Search_rows, sf_rows _ _ _, _, rfl, fun x dxm nx ndx _ => make_machine (m := ⟨m1.w, rows, keys.map (markP z m1 m2)⟩) nx ndx po.1 tab5 hD5 fun H7 nm s7 => ⟨rfl, _, rfl, sp, _, dx5, _, _, rfl, s7 _ _ h15, T.c_Search, T.n_Search_found, sf_found _ _ _, fa, _, rfl, .inl (SqL.of (s7 _ _ sr5.fl)), fun lf nlf => ⟨by show 2 ≤ sizeLine; decide, fun t nt => ?_⟩⟩⟩
    exact q _ t x (.ref lf) ⟨m1.w, rows, keys.map (markP z m1 m2)⟩ (((sAll.trans s7).trans (same_upd nlf)).trans (same_upd nt)) upd_same (((nm.same (same_upd nlf)).same (same_upd nt)).old sAll) po.1 rfl po.2
def p_both : Q3 := fun c a b d H Q E => ∃ (p1 p2 : Addr) (m1 m2 : M) (z : Str), a = .ref p1 ∧ b = .ref p2 ∧ d = .str z ∧ MachAt K H p1 m1 ∧ MachAt K H p2 m2 ∧ m1.Ok ∧ m2.Ok ∧ m1.w = m2.w ∧ z ∈ ops4 ∧
  (∀ H' p' m', L2.Same H H' → NewM K H H' p' m' → m'.Ok → m'.w = m1.w → (∀ wd, Val m1.w wd → m'.accs (m'.run 0 wd) = jn z (m1.accs (m1.run 0 wd)) (m2.accs (m2.run 0 wd))) → Q (.ref p') H') ∧
  (400 < m1.tab.length * m2.tab.length → ovS K [] c H E)
theorem ok_both (T : Txt P w K mg) : FnQ P w K mg base 6 (He.ga K "both") 3 (Sp3 (p_both (K := K))) := by
  refine fnQ3 T.F_both sc_both (fun _ _ _ _ _ _ us hl => match us, hl with | [_, _, _], _ => rfl) fun cdv A outer s H a b d Q E l qa hr h => ?_
  obtain ⟨p1, p2, m1, m2, z, rfl, rfl, rfl, hm1, hm2, o1, o2, ew, hz, q, qo⟩ := h
  refine ⟨_, (pss_one (ps_ret (pe_ix ix_tup (pe_callQ (ok_both_with_pairs T) (hr.mono (by omega)) (cxQ_quiet qa) T.g_both_with_pairs passE (pa_cons (pv 0) (pa_cons (pv 1) (pa_cons (pv 2) pa_nil)))) pe_int (fun _ _ => rfl)))), ?_⟩
  exact ⟨_, rfl, _, rfl, _, rfl, _, _, _, rfl, p1, p2, m1, m2, z, rfl, rfl, rfl, hm1, hm2, o1, o2, ew, hz, fun H1 t p' v m' s1 ht nm ok ww lg => ⟨t, _, _, _, rfl, rfl, SqT.of ht, atI_nat (j := 0) rfl, q H1 p' m' s1 nm ok ww lg⟩, qo⟩
end
end K36
/-! K36Q11: tuples whose object is known (so that a method of theirs can be called); walks over a list or a tuple -/
namespace K36
open PySem PySem.Spec PyProof.Rows L2 HotX
/-- a tuple at a, its object known -/
def TupZ (H : Hp) (a : Addr) (xs : List V) : Prop := ∃ o : Obj, H a = some (.frz o (.tup xs)) ∧ o.dict = none
theorem TupZ.sq {K : PySem.W.Frag} {H : Hp} {a : Addr} {xs : List V} (t : TupZ H a xs) : SqT K H a xs := let ⟨o, h, _⟩ := t; .inl (.inr ⟨o, h⟩)
theorem TupZ.keep {S : List Addr} {H H' : Hp} {a : Addr} {xs : List V} (t : TupZ H a xs) (f : ∀ b o, H b = some o → b ∉ S → H' b = some o) (n : a ∉ S) : TupZ H' a xs := let ⟨o, h, z⟩ := t; ⟨o, f _ _ h n, z⟩
theorem TupZ.same {H H' : Hp} {a : Addr} {xs : List V} (t : TupZ H a xs) (f : L2.Same H H') : TupZ H' a xs := let ⟨o, h, z⟩ := t; ⟨o, f _ _ h, z⟩
section
variable {X : Cx} {K : PySem.W.Frag} {apos cpos pos : Pos} {e o : Expr} {es : List Expr} {ta to : TE} {t : TA}
def rTupZ (K : PySem.W.Frag) : List V → Hp → VK → Prop := fun xs H Q => ∃ p ys, xs = [V.ref p] ∧ ((SqL K H p ys ∧ ∀ l o, H l = none → o.dict = none → Q (.ref l) (upd H l (.frz o (.tup ys)))) ∨ (SqT K H p ys ∧ Q (.ref p) H))
theorem tuple_ofZ (hK : X.K = K := by rfl) : CallR X (.type "tuple") (rTupZ K) := by
  subst hK
  intro pins s σ H xs us Q I r h
  obtain ⟨p, ys, rfl, h⟩ := h
  have e := Vals.ref1 r
  subst e
  rcases h with ⟨hq, q⟩ | ⟨hq, q⟩
  · obtain ⟨its, r', pl, hz⟩ := I.list hq
    have hlen := r'.length
    refine call_tuple_list pl.isList (fun h' kp => ?_) (by simp only [List.size_toArray] <;> omega)
    have I1 : Inv X pins σ H { s with heap := h' } := I.kept (t' := s.toks) kp
    have I2 : Inv X pins σ (upd H h'.objs.size (.frz { cls := .type "tuple", data := .seq its.toArray } (.tup ys))) { s with heap := h'.push { cls := .type "tuple", data := .seq its.toArray } } :=
      I1.laid (t' := s.toks) (fun b o e => Heap.get?_push_of_some _ e) (Nat.le_refl _) (show ObjOk X.prog X.w _ _ _ (.frz _ (.tup ys)) from ⟨Heap.get?_push_size _ rfl, hz, its, r', IsTup.new _ _⟩)
    exact ⟨.ref h'.objs.size, _, I2, rfl, q _ _ (I1.hok.fresh (Nat.le_refl _)) rfl⟩
  · obtain ⟨its, r', pl, hz⟩ := I.tuple hq
    exact call_tuple_same pl ⟨.ref p, H, I, rfl, q⟩
def tTupZ (t : TA) : TE := fun σ H Q => t σ H fun xs H1 => xs.length ≤ sizeLine ∧ ∀ p o, H1 p = none → o.dict = none → Q (.ref p) (upd H1 p (.frz o (.tup xs)))
theorem pe_tupZ {x1} (h : PA X es t) : PE X (.Tuple es x1 pos) (tTupZ t) := by
  refine ⟨fun pins s σ H Q I hq => ?_⟩
  refine wpAny_Tuple_spliced (thn (h.run pos pins s σ H _ I hq) fun us s1 ⟨xs, H1, I1, r, z, q⟩ => ⟨by rw [← r.length]; exact z, ?_⟩)
  have hf : H1 s1.heap.objs.size = none := I1.hok.fresh (Nat.le_refl _)
  refine ⟨.ref s1.heap.objs.size, upd H1 s1.heap.objs.size (.frz { cls := .type "tuple", data := .seq us.toArray } (.tup xs)), I1.laid (t' := s1.toks) (fun b u e => Heap.get?_push_of_some _ e) (Nat.le_refl _) ?_, rfl, q _ _ hf rfl⟩
  exact ⟨Heap.get?_push_size _ rfl, z, us, r, ⟨_, Heap.get?_push_size _ rfl, rfl, _, rfl⟩⟩
def tyTupZ (x : V) (H : Hp) : Prop := ∃ a xs, x = .ref a ∧ TupZ H a xs
theorem ty_tupZ : TyOk X "tuple" tyTupZ := by
  intro pins σ H s x v I r ty
  obtain ⟨a, xs, rfl, ob, h, hd⟩ := ty
  cases r
  obtain ⟨e, z, its, rv, o', g1, g2, n, g3⟩ := (show ObjOk X.prog X.w H s.heap a (.frz ob (.tup xs)) from I.hok a _ h)
  rw [e] at g1
  cases g1
  refine ⟨⟨_, e, g2⟩, fun b eb => ?_⟩
  cases eb
  exact ⟨_, e, hd⟩
/-- t.index(x) -/
theorem pe_tupIx (ho : PE X o to) (ha : PA X (e :: es) t) (hK : X.K = K := by rfl)
    (hbase : attributeBase o "index" X.env (eval o X.env) = eval o X.env := by rfl)
    (hfew : ((backTo cpos (starEach (e :: es) X.env)).all (fun x => !x.1) && (backToKw cpos (keywordEach [] X.env)).all (fun x => x.1.isSome)
      && decide ((e :: es).length + ([] : List Keyword).length + (if ([] : List Keyword).isEmpty then 0 else 1) < 30)) = true := by rfl)
    (hline : (apos.endLine == cpos.line) = true := by rfl) (hs : starEach (e :: es) X.env = (false, eval e X.env) :: starEach es X.env := by rfl) (hplain : (backTo cpos (starEach es X.env)).any (·.1) = false := by rfl) :
    PE X (.Call (.Attribute o "index" apos) (e :: es) [] cpos) (tMG tyTupZ (rTupIx K) to t) :=
  pe_mG ty_tupZ PySem.F.plainAttrs_tuple PySem.F.slot_tuple_index PySem.F.type_tuple_index (tup_indexK hK) ho ha hbase hfew hline hs hplain
/-- over a list or a tuple -/
def iSeq (K : PySem.W.Frag) (t : TE) : TI := fun σ H R => t σ H fun x H1 => ∃ a, x = .ref a ∧ (((∃ xs, SqL K H1 a xs) ∧ R (Itl K a) H1) ∨ ((∃ xs, SqT K H1 a xs) ∧ R (Itt K a) H1))
theorem piSK {tg l : Expr} {tl : TE} (hl : PE X l tl) (h : X.K = K := by rfl) : PIQ X tg l (iSeq K tl) := by
  subst h
  refine ⟨fun pins s σ H R I h => thn (hl.run pins s σ H _ I h) fun v s1 ⟨x, H1, I1, r1, a, e, q⟩ => ?_⟩
  subst e
  cases r1
  rcases q with ⟨⟨xs, hx⟩, q⟩ | ⟨⟨xs, hx⟩, q⟩
  · obtain ⟨its, rv, pl, _⟩ := I1.list hx
    refine wpAny_pyIter_list pl.isList ?_
    exact ⟨s1.heap.objs.size, [s1.heap.objs.size], _, _, H1, rfl, I1.kept (t' := s1.toks) fun b o e => Heap.get?_push_of_some _ e, turnL a _, ⟨_, Heap.get?_push_size _ rfl, rfl, rfl⟩, newFp I1, q⟩
  · obtain ⟨its, rv, pl, _⟩ := I1.tuple hx
    refine wpAny_pyIter_tuple (show s1.heap.IsTuple a its.toArray from pl) ?_
    exact ⟨s1.heap.objs.size, [s1.heap.objs.size], _, _, H1, rfl, I1.kept (t' := s1.toks) fun b o e => Heap.get?_push_of_some _ e, turnT a _, ⟨_, Heap.get?_push_size _ rfl, rfl, rfl⟩, newFp I1, q⟩
end
/-- [e for x in t], e leaves all as it is -/
theorem lc_pureT {K : PySem.W.Frag} {a : Addr} {xs ys : List V} {g : TG} {te : TE} {vs : List Nat} {σ : L2.St} {H1 : Hp} {D : Addr} {Qd : Hp → Prop} (hD : H1 D = none) (hx : SqT K H1 a xs) (hl : ys.length = xs.length) (hz : xs.length ≤ 1000000)
    (hs : ∀ (i : Nat) (x y : V) (acc : List V) (k : VK), xs[i]? = some x → ys[i]? = some y → k y (upd H1 D (.lst acc)) → g x (wipe σ vs) (upd H1 D (.lst acc)) fun σ2 H2 => wipe σ2 vs = wipe σ vs ∧ te σ2 H2 k)
    (mono : ∀ x σ H (Q Q' : St → Hp → Prop), (∀ σ H, Q σ H → Q' σ H) → g x σ H Q → g x σ H Q') (hd : Qd (upd H1 D (.lst ys))) :
    ∃ W : Nat → Nat → Hp → Prop, (∃ m, W 0 m (upd H1 D (.lst []))) ∧ ∀ i m H, W i m H →
      ((Itt K a).stop i H ∧ Qd H) ∨ ((Itt K a).go i H ∧ ∃ Nx : Hp → Prop, (∀ H', Nx H' → ∃ m', m' < m ∧ W (i + 1) m' H') ∧ ∀ x H', (Itt K a).yld i H x H' → g x (wipe σ vs) H' fun σ2 H2 => wipe σ2 vs = wipe σ vs ∧ tYes σ2 H2 fun b H3 =>
        if b = true then te σ2 H3 fun y H4 => ∃ acc, H4 D = some (.lst acc) ∧ acc.length < sizeLine ∧ Nx (upd H4 D (.lst (acc ++ [y]))) else Nx H3) := by
  refine lc_tup (xs := xs) (fun i H => H = upd H1 D (.lst (ys.take i))) (by simp) (fun i H _ e => ?_) (fun i x H hi e => ?_) fun H e => ?_
  · rw [e]; exact sqT_same (same_upd hD) hx
  · subst e
    have hlt : i < ys.length := by rw [hl]; exact (List.getElem?_eq_some_iff.mp hi).1
    have hy : ys[i]? = some ys[i] := List.getElem?_eq_getElem hlt
    refine mono _ _ _ _ _ (fun σ2 H2 z => ⟨z.1, z.2⟩) (hs i x ys[i] (ys.take i) (fun y H4 => ∃ acc, H4 D = some (.lst acc) ∧ acc.length < sizeLine ∧ upd H4 D (.lst (acc ++ [y])) = upd H1 D (.lst (ys.take (i + 1)))) hi hy ⟨_, upd_same, ?_, ?_⟩)
    · rw [List.length_take, sizeLine_eq]; omega
    · rw [upd_upd, take_snoc hy]
  · rw [e, ← hl, List.take_length]
    exact hd
end K36
/-! K36W7: check_places, spread, places_in -/
namespace K36
open PySem PySem.Spec PyProof.Rows L2 HotX
theorem idxOf_min {α : Type} [DecidableEq α] : ∀ (l : List α) (i : Nat) (x : α), l[i]? = some x → l.idxOf x ≤ i
  | [], _, _, h => by simp at h
  | a :: l, i, x, h => by
    rw [List.idxOf_cons]
    by_cases e : a = x
    · rw [show (a == x) = true from beq_iff_eq.mpr e]; exact Nat.zero_le _
    · rw [show (a == x) = false from beq_eq_false_iff_ne.mpr e]
      cases i with
      | zero => exact absurd (Option.some.inj h) e
      | succ i => exact Nat.succ_le_succ (idxOf_min l i x (by simpa using h))
/-! ### spread: mathematics -/
/-- the old letter -/
def olt (pl : List Nat) (a : Nat) : Nat := lof (pl.map fun t => a / 2 ^ t % 2)
theorem olt_lt (pl : List Nat) (a : Nat) : olt pl a < 2 ^ pl.length := by
  have := lof_lt (pl.map fun t => a / 2 ^ t % 2) fun d hd => by
    obtain ⟨t, _, rfl⟩ := List.mem_map.mp hd
    exact Nat.mod_lt _ (by decide)
  rw [List.length_map] at this
  exact this
def sucT (m : M) (pl : List Nat) (W : Nat) : NK → List NK
  | .num s => (List.range (2 ^ W)).map fun a => kN (m.st s.toNat (olt pl a))
  | _ => []
def markT (m : M) : NK → Bool
  | .num s => m.accs s.toNat
  | _ => false
section
variable {m : M} {pl : List Nat} {W : Nat}
theorem sucT_eq (s : Nat) : sucT m pl W (kN s) = (List.range (2 ^ W)).map fun a => kN (m.st s (olt pl a)) := by
  show (List.range (2 ^ W)).map (fun a => kN (m.st (s : Int).toNat (olt pl a))) = _
  rw [Int.toNat_natCast]
theorem sucT_at {s a : Nat} (h : a < 2 ^ W) : (sucT m pl W (kN s))[a]? = some (kN (m.st s (olt pl a))) := by rw [sucT_eq, List.getElem?_map, List.getElem?_range h]; rfl
theorem sucT_run : ∀ (wd : List Nat) (s : Nat), Val W wd → runK (sucT m pl W) (kN s) wd = kN (m.run s (wd.map (olt pl)))
  | [], _, _ => rfl
  | x :: wd, s, hv => by
    show runK (sucT m pl W) (((sucT m pl W (kN s))[x]?).getD _) wd = _
    rw [sucT_at (hv x List.mem_cons_self)]
    exact sucT_run wd _ fun y hy => hv y (List.mem_cons_of_mem _ hy)
theorem markT_eq (s : Nat) : markT m (kN s) = m.accs s := by show m.accs (s : Int).toNat = _; rw [Int.toNat_natCast]
theorem keysT (o : m.Ok) {keys : List NK} {rows : List (List Nat)} (S : Srch (sucT m pl W) (kN 0) keys rows) : ∀ k ∈ keys, ∃ s, s < m.tab.length ∧ k = kN s :=
  S.reach (fun k => ∃ s, s < m.tab.length ∧ k = kN s) ⟨0, o.pos, rfl⟩ fun k ⟨s, _, e⟩ k' hk' => by
    subst e
    rw [sucT_eq] at hk'
    obtain ⟨x, _, rfl⟩ := List.mem_map.mp hk'
    exact ⟨_, o.st_lt, rfl⟩
theorem olt_zero (pl : List Nat) : olt pl 0 = 0 := by
  unfold olt
  have : (pl.map fun t => 0 / 2 ^ t % 2) = pl.map fun _ => 0 := List.map_congr_left fun t _ => by simp
  rw [this]
  induction pl with
  | nil => rfl
  | cons t pl ih => show 0 + 2 * lof (pl.map fun _ => 0) = 0; rw [ih (List.map_congr_left fun t _ => by simp)]
theorem spread_ok (o : m.Ok) (hW : W ≤ 6) {keys : List NK} {rows : List (List Nat)} (S : Srch (sucT m pl W) (kN 0) keys rows) (full : rows.length = keys.length) :
    (M.mk W rows (keys.map (markT m))).Ok ∧ rows.length ≤ m.tab.length ∧ ∀ wd, Val W wd → (M.mk W rows (keys.map (markT m))).accs ((M.mk W rows (keys.map (markT m))).run 0 wd) = m.accs (m.run 0 (wd.map (olt pl))) := by
  have ks := keysT o S
  have hs : ∀ x ∈ keys, (sucT m pl W x).length = 2 ^ W := fun x hx => by
    obtain ⟨s, _, rfl⟩ := ks x hx
    rw [sucT_eq, List.length_map, List.length_range]
  refine ⟨S.ok full hs hW fun x hx => ?_, ?_, fun wd hv => ?_⟩
  · obtain ⟨s, h, rfl⟩ := ks x hx
    have p : 0 < 2 ^ W := Nat.pow_pos (by decide)
    show _ = markT m (((sucT m pl W (kN s))[0]?).getD _)
    rw [sucT_at p]
    show _ = markT m (kN _)
    rw [markT_eq, markT_eq, olt_zero]
    exact o.sett s h
  · have := nodup_le keys ((List.range m.tab.length).map kN) S.nd fun k hk => by
      obtain ⟨s, h, rfl⟩ := ks k hk
      exact List.mem_map_of_mem (List.mem_range.mpr h)
    rw [List.length_map, List.length_range] at this
    omega
  · rw [S.acc full hs S.hd hv, sucT_run wd 0 hv, markT_eq]
end
section
variable {P : Program} {w : World} {K : PySem.W.Frag} {mg : Str → Option Value} {base : Heap}
def p_places_in : Q2 := fun _ a b H Q _ => ∃ (p q : Addr) (ns ws : List Str), a = .ref p ∧ b = .ref q ∧ (SqL K H p (ns.map V.str) ∨ SqT K H p (ns.map V.str)) ∧ TupZ H q (ws.map V.str) ∧ (∀ x ∈ ns, x ∈ ws) ∧ ns.length ≤ 1000 ∧
  ∀ H' r, L2.Same H H' → H r = none → H' r = some (.lst (natsV (ns.map fun x => ws.idxOf x))) → Q (.ref r) H'
theorem ok_places_in (T : Txt P w K mg) : FnQ P w K mg base 1 (He.ga K "places_in") 2 (Sp2 (p_places_in (K := K))) := by
  refine fnQ2 T.F_places_in sc_places_in (fun _ _ _ _ _ _ us hl => match us, hl with | [_, _], _ => rfl) fun cdv A outer s H a b Q E l qa hr h => ?_
  obtain ⟨p, q', ns, ws, rfl, rfl, hp, hq, hm, hl, q⟩ := h
  refine ⟨_, (pss_one (ps_ret (pe_lcQ (own := [("name", 2)]) (g := gName 2) (tt := tYes) (cxQ_quiet qa) sc_places_in.nd (piSK (K := K) (pv 0)) (blkOk_by (N := ["names", "wider", "name"]) (sc := defScope s_places_in) (by decide +kernel)) (fun _ _ _ _ hq => pg_name (i := 2) sc_places_in.nd rfl (Or.inl rfl)) (fun _ _ _ _ hq => pts_nil) (fun _ _ _ _ hq hcm => (pe_tupIx (K := K) (pv 1) (pa_cons (pv 2) pa_nil)))))), ?_⟩
  have el : ∀ (D : Addr), H D = none → ∀ (j : Nat) (x y : V) (acc : List V) (k : VK), (ns.map V.str)[j]? = some x → (natsV (ns.map fun x => ws.idxOf x))[j]? = some y → k y (upd H D (.lst acc)) →
      ∃ z i, x = .str z ∧ y = iV i ∧ ws[i]? = some z ∧ (∀ m, m < i → ws[m]? ≠ some z) := fun D nD j x y acc k hx hy hk => by
    obtain ⟨z, e1, rfl⟩ := map_at hx
    obtain ⟨i, e2, rfl⟩ := map_at hy
    obtain ⟨z', e3, rfl⟩ := map_at e2
    rw [e1] at e3
    cases e3
    have hz := hm z (List.mem_of_getElem? e1)
    refine ⟨z, _, rfl, rfl, getElem?_idxOf hz, fun m hm' e => ?_⟩
    have := idxOf_min ws m z e
    omega
  rcases hp with hp | hp
  · refine ⟨_, rfl, p, rfl, .inl ⟨⟨_, hp⟩, fun D nD => ?_⟩⟩
    refine lc_pureL (ys := natsV (ns.map fun x => ws.idxOf x)) nD hp (by simp [natsV]) (by rw [List.length_map]; omega) (fun j x y acc k hx hy hk => ?_) gName_mono (q _ D (same_upd nD) nD upd_same)
    obtain ⟨z, i, rfl, rfl, g1, g2⟩ := el D nD j x y acc k hx hy hk
    exact ⟨rfl, _, rfl, ⟨q', _, rfl, hq.same (same_upd nD)⟩, _, rfl, q', ws, z, i, rfl, rfl, (hq.same (same_upd nD)).sq, g1, g2, hk⟩
  · refine ⟨_, rfl, p, rfl, .inr ⟨⟨_, hp⟩, fun D nD => ?_⟩⟩
    refine lc_pureT (ys := natsV (ns.map fun x => ws.idxOf x)) nD hp (by simp [natsV]) (by rw [List.length_map]; omega) (fun j x y acc k hx hy hk => ?_) gName_mono (q _ D (same_upd nD) nD upd_same)
    obtain ⟨z, i, rfl, rfl, g1, g2⟩ := el D nD j x y acc k hx hy hk
    exact ⟨rfl, _, rfl, ⟨q', _, rfl, hq.same (same_upd nD)⟩, _, rfl, q', ws, z, i, rfl, rfl, (hq.same (same_upd nD)).sq, g1, g2, hk⟩
def p_check_places : Q3 := fun _ a b d H Q _ => ∃ (p q : Addr) (m : M) (pl : List Nat) (W : Nat), a = .ref p ∧ b = .ref q ∧ d = iV W ∧ MachAt K H p m ∧ H q = some (.lst (natsV pl)) ∧ pl.length = m.w ∧ m.w ≤ 6 ∧ W ≤ 6 ∧ (∀ t ∈ pl, t < W) ∧ ∀ H', L2.Same H H' → Q .non H'
theorem ok_check_places (T : Txt P w K mg) : FnQ P w K mg base 1 (He.ga K "check_places") 3 (Sp3 (p_check_places (K := K))) := by
  refine fnQ3 T.F_check_places sc_check_places (fun _ _ _ _ _ _ us hl => match us, hl with | [_, _, _], _ => rfl) fun cdv A outer s H a b d Q E l qa hr h => ?_
  obtain ⟨p, q', m, pl, W, rfl, rfl, rfl, hm, hq, hl, hw, hW, hpl, q⟩ := h
  obtain ⟨dx, tl, la, h1, _, _⟩ := id hm
  refine ⟨_, (pss_cons (ps_if (pt_not (pt_chain op_le op_le pe_int (pv 2) (pe_glob (v := .int 6) rfl T.i_TRACKS.choose_spec ⟨_, rfl⟩))) pss_never pss_nil)
      (pss_one (ps_if (PW.pt (pw_or (pt_cmpR op_ne (pe_callB call_len_seq rfl T.free_len PySem.boot_len (pa_cons (pv 1) pa_nil)) (pe_fld (pv 0) rfl) (nomark _)) (pw_or1 (pt_val (pe_callB (cr_anyQ (cxQ_quiet qa)) rfl T.free_any (by decide +kernel) (pa_cons (pe_lcQ (own := [("place", 3)]) (g := gName 3) (tt := tYes) (cxQ_quiet qa) sc_check_places.nd (piL (pv 1)) (blkOk_by (N := ["machine", "places", "width", "place"]) (sc := defScope s_check_places) (by decide +kernel)) (fun _ _ _ _ hq => pg_name (i := 3) sc_check_places.nd rfl (Or.inl rfl)) (fun _ _ _ _ hq => pts_nil) (fun _ _ _ _ hq hcm => (pe_not (pe_chain op_le op_lt pe_int (pv 3) (pv 2))))) pa_nil)))))) pss_never pss_nil))), ?_⟩
  refine ⟨_, rfl, _, _, rfl, rfl, true, dT (Int.natCast_nonneg _), _, _, rfl, rfl, true, dT (by omega), ?_⟩
  refine ⟨_, rfl, q', _, rfl, .inl (SqL.of hq), _, rfl, p, _, dx, _, _, rfl, h1, T.c_Machine, T.n_Machine_width, mf_width _ _ _, rfl, false, nF (by rw [List.length_map, hl]), _, rfl, q', rfl, ⟨_, SqL.of hq⟩, fun D nD => ?_⟩
  refine lc_pureL (ys := pl.map fun _ => V.bl false) nD (SqL.of hq) (by simp) (by rw [List.length_map]; omega) (fun i x y acc k g1 g2 hk => ?_) gName_mono ?_
  · obtain ⟨t, e, rfl⟩ := map_at g1
    obtain ⟨t', e', rfl⟩ := map_at g2
    have ht := hpl t (List.mem_of_getElem? e)
    exact ⟨rfl, _, rfl, _, _, rfl, rfl, true, dT (Int.natCast_nonneg _), _, rfl, _, _, rfl, rfl, true, dT (by omega), hk⟩
  · refine ⟨D, pl.map fun _ => false, rfl, SqL.of ?_, false, congrArg V.bl (by simp), q _ (same_upd nD)⟩
    rw [upd_same, List.map_map]; rfl
def p_spread_with_states : Q3 := fun _ a b d H Q _ => ∃ (p q : Addr) (m : M) (pl : List Nat) (W : Nat), a = .ref p ∧ b = .ref q ∧ d = iV W ∧ MachAt K H p m ∧ m.Ok ∧ H q = some (.lst (natsV pl)) ∧ pl.length = m.w ∧ W ≤ 6 ∧ (∀ t ∈ pl, t < W) ∧
  ∀ H' t p' v m', L2.Same H H' → H' t = some (.tup [.ref p', v]) → NewM K H H' p' m' → m'.Ok → m'.w = W → m'.tab.length ≤ m.tab.length → (∀ wd, Val W wd → m'.accs (m'.run 0 wd) = m.accs (m.run 0 (wd.map (olt pl)))) → Q (.ref t) H'
/-- the loop of spread_with_states -/
def sprW (P : Program) (w : World) (K : PySem.W.Frag) (m : M) (pl : List Nat) (W : Nat) (p q od sp fa da ra : Addr) (H0 : Hp) (n : Nat) (σ : St) (H1 : Hp) : Prop :=
  ∃ (keys : List NK) (vs : List V) (rl : List Addr) (rows : List (List Nat)) (o4 o5 o7 : Option V), n = 401 - rows.length ∧ σ = [some (.ref p), some (.ref q), some (iV W), some (.ref od), o4, o5, some (.ref sp), o7, none, none] ∧ SrAt P w K H1 sp fa da ra false keys vs rl rows ∧
    Srch (sucT m pl W) (kN 0) keys rows ∧ (∀ v ∈ vs, ∃ c : Nat, v = iV c) ∧ L2.Same H0 H1
theorem ok_spread_with_states (T : Txt P w K mg) : FnQ P w K mg base 5 (He.ga K "spread_with_states") 3 (Sp3 (p_spread_with_states (K := K))) := by
  refine fnQ3 T.F_spread_with_states sc_spread_with_states (fun _ _ _ _ _ _ us hl => match us, hl with | [_, _, _], _ => rfl) fun cdv A outer s H a b d Q E l qa hr h => ?_
  obtain ⟨p, q', m, pl, W, rfl, rfl, rfl, hm, ok, hq, hl, hW, hpl, q⟩ := h
  have w6 : 2 ^ W ≤ 2 ^ 6 := Nat.pow_le_pow_right (by decide) hW
  have mw6 := ok.w6
  refine ⟨_, (pss_cons (ps_expr (pe_callQ (ok_check_places T) (hr.mono (by omega)) (cxQ_quiet qa) T.g_check_places pass0 (pa_cons (pv 0) (pa_cons (pv 1) (pa_cons (pv 2) pa_nil)))))
      (pss_cons (ps_set (i := 3) sc_spread_with_states.nd rfl (Or.inl rfl) (pe_lst pa_nil))
      (pss_cons (ps_forQ PassesOwn.leaving (cxQ_quiet qa) (piR1 rfl T.free_range (pa_cons (pe_callQ (ok_letters T) (hr.mono (by omega)) (cxQ_quiet qa) T.g_letters pass0 (pa_cons (pv 2) pa_nil)) pa_nil)) (pg_name (i := 4) sc_spread_with_states.nd rfl (Or.inr rfl)) (pss_one (ps_expr (pe_bm PySem.F.plainAttrs_list PySem.F.slot_list_append PySem.F.type_list_append mt_append (pv 3) (pa_cons (pe_callQ (ok_letter_of T) (hr.mono (by omega)) (cxQ_quiet qa) T.g_letter_of pass0 (pa_cons (pe_lcQ (own := [("place", 5)]) (g := gName 5) (tt := tYes) (cxQ_quiet qa) sc_spread_with_states.nd (piL (pv 1)) (blkOk_by (N := ["machine", "places", "width", "old", "letter", "place", "search", "row", "marks", "state"]) (sc := defScope s_spread_with_states) (by decide +kernel)) (fun _ _ _ _ hq => pg_name (i := 5) sc_spread_with_states.nd rfl (Or.inl rfl)) (fun _ _ _ _ hq => pts_nil) (fun _ _ _ _ hq hcm => (pe_callK (c := l.isEmpty) (ok_digit T) (hr.mono (by omega)) hq T.g_digit pass0 (pa_cons (pv 4) (pa_cons (pv 5) pa_nil)) hcm))) pa_nil)) pa_nil)))))
      (pss_cons (ps_set (i := 6) sc_spread_with_states.nd rfl (Or.inl rfl) (pe_makeQ T.k_Search (ok_Search_init T) (hr.mono (by omega)) (cxQ_quiet qa) T.g_Search pass0 (pa_cons pe_int pa_nil)))
      (pss_cons (ps_while PassesOwn.leaving (pt_val (pe_meth0Q (pv 6) T.c_Search T.m_Search_waiting (ok_Search_waiting T) (hr.mono (by omega)) (cxQ_quiet qa) pass0)) (pss_cons (ps_set (i := 7) sc_spread_with_states.nd rfl (Or.inr rfl) (pe_ix ix_list (pe_fld (pv 0) rfl) (pe_meth0Q (pv 6) T.c_Search T.m_Search_current (ok_Search_current T) (hr.mono (by omega)) (cxQ_quiet qa) pass0) (fun _ _ => rfl)))
        (pss_one (ps_expr (pe_methQ (pv 6) T.c_Search T.m_Search_enter (ok_Search_enter T) (hr.mono (by omega)) (cxQ_quiet qa) pass0 (pa_cons (pe_lcQ (own := [("letter", 4)]) (g := gName 4) (tt := tYes) (cxQ_quiet qa) sc_spread_with_states.nd (piL (pv 3)) (blkOk_by (N := ["machine", "places", "width", "old", "letter", "place", "search", "row", "marks", "state"]) (sc := defScope s_spread_with_states) (by decide +kernel)) (fun _ _ _ _ hq => pg_name (i := 4) sc_spread_with_states.nd rfl (Or.inl rfl)) (fun _ _ _ _ hq => pts_nil) (fun _ _ _ _ hq hcm => (pe_ix (ix_listK (K := K)) (pv 7) (pv 4) (fun _ _ => rfl)))) pa_nil))))))
      (pss_cons (ps_setLcQ (i := 8) (own := [("state", 9)]) (g := gName 9) (tt := tYes) (cxQ_quiet qa) sc_spread_with_states.nd rfl rfl (sw_true rfl rfl rfl (by decide +kernel)) (piL (pe_fld (pv 6) rfl)) (blkOk_by (N := ["machine", "places", "width", "old", "letter", "place", "search", "row", "marks", "state"]) (sc := defScope s_spread_with_states) (by decide +kernel)) (fun _ _ _ _ hq => pg_name (i := 9) sc_spread_with_states.nd rfl (Or.inl rfl)) (fun _ _ _ _ hq => pts_nil) (fun _ _ _ _ hq hcm => (pe_ix (ix_listK (K := K)) (pe_fldK (K := K) (pv 0)) (pv 9) (fun _ _ => rfl))))
      (pss_one (ps_ret (pe_tup (pa_cons (pe_makeQ T.k_Machine (ok_Machine_init T) (hr.mono (by omega)) (cxQ_quiet qa) T.g_Machine pass0 (pa_cons (pv 2) (pa_cons (pe_fld (pv 6) rfl) (pa_cons (pv 8) pa_nil)))) (pa_cons (pe_callTy call_list_of rfl T.free_list (by decide +kernel) (pa_cons (pe_fld (pv 6) rfl) pa_nil)) pa_nil))))))))))), ?_⟩
  refine ⟨_, rfl, _, rfl, _, rfl, _, _, _, rfl, p, q', m, pl, W, rfl, rfl, rfl, hm, hq, hl, by omega, hW, hpl, fun H1 s1 => ⟨by decide, fun od nod => ?_⟩⟩
  refine ⟨_, rfl, _, rfl, W, rfl, hW, _, rfl, (rngB (n := 2 ^ W) (by omega)).1, (rngB (n := 2 ^ W) (by omega)).2, ?_⟩
  rw [toN]
  refine for_range (fun i σ H2 => ∃ o4, σ = [some (.ref p), some (.ref q'), some (iV W), some (.ref od), o4, none, none, none, none, none] ∧ L2.Same H1 H2 ∧ H2 od = some (.lst (natsV ((List.range i).map (olt pl))))) ⟨none, rfl, same_upd nod, upd_same⟩ ?_ ?_
  · rintro i σ H2 hi ⟨o4, rfl, s2, hod⟩
    have hq2 := s2 _ _ (s1 _ _ hq)
    have hi : i < 2 ^ W := hi
    rw [Int.zero_add]
    refine ⟨_, rfl, .inl ⟨rfl, _, SqL.of hod⟩, _, rfl, q', rfl, ⟨_, SqL.of hq2⟩, fun D nD => ?_⟩
    refine lc_pureL (ys := natsV (pl.map fun t => i / 2 ^ t % 2)) nD (SqL.of hq2) (by simp [natsV]) (by rw [List.length_map]; omega) (fun j x y acc k g1 g2 hk => ?_) gName_mono ?_
    · obtain ⟨t, e, rfl⟩ := map_at g1
      obtain ⟨v, e', rfl⟩ := map_at g2
      obtain ⟨t', e2, rfl⟩ := map_at e'
      rw [e] at e2
      cases e2
      exact ⟨rfl, _, rfl, _, rfl, _, _, rfl, i, t, rfl, rfl, hk⟩
    · have od2 := same_upd (o := .lst (natsV (pl.map fun t => i / 2 ^ t % 2))) nD _ _ hod
      refine ⟨_, rfl, D, _, rfl, fun _ => SqL.of upd_same, by rw [List.length_map]; omega, fun d hd => ?_, od, _, _, rfl, rfl, od2, by rw [List.length_map, List.length_map, List.length_range, sizeLine_eq]; omega, some (iV i), rfl, ?_, ?_⟩
      · obtain ⟨t, _, rfl⟩ := List.mem_map.mp hd
        exact Nat.mod_lt _ (by decide)
      · exact same_upd2 (s2.trans (same_upd nD)) nod
      · rw [upd_same, List.range_succ, List.map_append, natsV_app]
        rfl
  · rintro σ H2 ⟨o4, rfl, s2, hod⟩
    refine fun sp dxs nsp ndxs _ => make_search (k := kN 0) nsp ndxs (.int _) (Nat.zero_le _) fun fa da ra H3 sr nfa nda nra s3 => ⟨rfl, ?_⟩
    refine ⟨sprW P w K m pl W p q' od sp fa da ra H2, ⟨_, _, _, _, _, _, _, _, rfl, rfl, sr, .start _ _, fun v hv => ⟨0, List.mem_singleton.mp hv⟩, s3⟩, ?_⟩
    rintro n σ H4 ⟨keys, vs, rl, rows, o4', o5, o7, rfl, rfl, sr4, S, hv, s4⟩
    obtain ⟨dx4, h14⟩ := sr4.ob
    have kl := sr4.ks.length
    have sA := (s1.trans s2).trans s4
    obtain ⟨dx, tl, la, m1, mt, m3⟩ := hm.same sA
    have hod4 := s4 _ _ hod
    have nofr : ∀ b o, H2 b = some o → b ∉ [fa, da, ra] := fun b o e z => by
      simp at z
      rcases z with z | z | z
      · rw [z, nfa] at e; cases e
      · rw [z, nda] at e; cases e
      · rw [z, nra] at e; cases e
    have cls : ∀ {i : Nat} {v : V}, vs[i]? = some v → ∃ c : Nat, v = iV c ∧ keys[i]? = some (kN c) ∧ c < m.tab.length := fun {i v} e => by
      obtain ⟨k, hk, ka⟩ := sr4.ks.at_ e
      obtain ⟨c, rfl⟩ := hv v (List.mem_of_getElem? e)
      cases ka
      obtain ⟨s, hs, e2⟩ := keysT ok S _ (List.mem_of_getElem? hk)
      have := kN_inj e2
      exact ⟨c, rfl, hk, by rw [this]; exact hs⟩
    refine ⟨_, rfl, sp, dx4, _, rfl, h14, sf_no _ _ _ (by decide +kernel) (by decide +kernel) (by decide +kernel), _, rfl, sp, fa, da, ra, false, keys, vs, rl, rows, rfl, sr4, ?_⟩
    by_cases hlt : rows.length < keys.length
    · refine ⟨true, dT hlt, fun σ' H' => ∃ m', m' < 401 - rows.length ∧ sprW P w K m pl W p q' od sp fa da ra H2 m' σ' H', fun _ _ z => z, ?_⟩
      have hvl : rows.length < vs.length := by omega
      have ev := List.getElem?_eq_getElem hvl
      obtain ⟨c, ec, ek, hc⟩ := cls ev
      have er := List.getElem?_eq_getElem hc
      obtain ⟨ls', rra, t1, t2, t3⟩ := mt.row er
      have hrow := ok.rows _ (List.getElem_mem hc)
      refine ⟨_, rfl, p, _, dx, _, _, rfl, m1, T.c_Machine, T.n_Machine_table, mf_table _ _ _, _, rfl, sp, dx4, _, rfl, h14, sf_no _ _ _ (by decide +kernel) (by decide +kernel) (by decide +kernel), _, rfl, sp, fa, da, ra, false, keys, vs, rl, rows, _, rfl, sr4, ev, tl, _, (c : Int), _, rfl, ec, SqL.of t1, atI_nat t2, ?_⟩
      refine ⟨_, rfl, sp, dx4, _, rfl, h14, sf_no _ _ _ (by decide +kernel) (by decide +kernel) (by decide +kernel), _, rfl, od, rfl, ⟨_, SqL.of hod4⟩, fun D nD => ?_⟩
      have olen : (natsV ((List.range (2 ^ W)).map (olt pl))).length = 2 ^ W := by rw [List.length_map, List.length_map, List.length_range]
      refine lc_pureL (ys := natsV ((List.range (2 ^ W)).map fun a => m.st c (olt pl a))) nD (SqL.of hod4) (by simp [natsV]) (by rw [olen]; omega) (fun j x y acc2 k2 hx hy hk2 => ?_) gName_mono ?_
      · obtain ⟨u, e1, rfl⟩ := map_at hx
        obtain ⟨a, e2, rfl⟩ := map_at e1
        obtain ⟨u', e3, rfl⟩ := map_at hy
        obtain ⟨a', e4, rfl⟩ := map_at e3
        rw [e2] at e4
        cases e4
        have hol : olt pl a < 2 ^ m.w := by rw [← hl]; exact olt_lt pl a
        obtain ⟨r, g1, g2⟩ := ok.st_at hc hol
        rw [er] at g1
        cases g1
        have r1 : (natsV m.tab[c])[olt pl a]? = some (iV (m.st c (olt pl a))) := by rw [List.getElem?_map, g2]; rfl
        exact ⟨rfl, _, rfl, _, rfl, rra, _, _, _, rfl, rfl, SqL.of (same_upd nD _ _ t3), atI_nat r1, hk2⟩
      · have esuc : sucT m pl W (kN c) = ((List.range (2 ^ W)).map fun a => m.st c (olt pl a)).map kN := by rw [sucT_eq, List.map_map]; rfl
        have fD : fa ≠ D := ne_of_none sr4.fl nD
        have rD : ra ≠ D := ne_of_none sr4.rw.1 nD
        have rl400 : rows.length ≤ 400 := by have := sr4.sz; omega
        refine ⟨_, _, rfl, sp, fa, da, ra, D, false, keys, vs, rl, rows, sucT m pl W (kN c), natsV ((List.range (2 ^ W)).map fun a => m.st c (olt pl a)), rfl, rfl, sr4.keep (same_upd nD), upd_same, fD.symm, rD.symm, by rw [esuc]; exact KAll.nums _, fun k hk => ?_, by rw [List.length_map, List.length_map, List.length_range]; omega, by omega, fun row keys' e H5 vs' D' nD' sr5 fx hv' => ?_, fun e => ?_⟩
        · rw [esuc] at hk
          obtain ⟨_, _, rfl⟩ := List.mem_map.mp hk
          exact ⟨Nat.zero_le _, rfl⟩
        · refine ⟨401 - (rows.length + 1), by omega, keys', vs', rl ++ [D'], rows ++ [row], _, _, _, by rw [List.length_append]; rfl, rfl, sr5, S.step ek e, fun v h => ?_, fx.new (s4.trans (same_upd nD)) fun b hb => ?_⟩
          · rcases hv' v h with z | z
            · exact hv v z
            · obtain ⟨x, _, rfl⟩ := List.mem_map.mp z
              exact ⟨_, rfl⟩
          · cases z : H2 b with
            | none => rfl
            | some o => exact absurd hb (nofr b o z)
        · exfalso
          obtain ⟨L, l1, l2, l3⟩ := enterF_many _ _ e S.nd S.sz
          have sm := ok.small
          have := nodup_kN L (fun k hk => by
            rcases l3 k hk with z | z
            · obtain ⟨s, hs, rfl⟩ := keysT ok S k z
              exact ⟨_, Nat.lt_of_lt_of_le hs sm, rfl⟩
            · rw [sucT_eq] at z
              obtain ⟨a, _, rfl⟩ := List.mem_map.mp z
              exact ⟨_, Nat.lt_of_lt_of_le ok.st_lt sm, rfl⟩) l1
          omega
    · refine ⟨false, dF hlt, ?_⟩
      have full : rows.length = keys.length := by have := S.le; omega
      have po := spread_ok ok hW S full
      refine ⟨_, rfl, sp, _, dx4, _, _, rfl, h14, T.c_Search, T.n_Search_found, sf_found _ _ _, fa, rfl, ⟨_, SqL.of sr4.fl⟩, fun D nD => ?_⟩
      refine lc_pureL (ys := (keys.map (markT m)).map V.bl) nD (SqL.of sr4.fl) (by rw [List.length_map, List.length_map, kl]) (by have := sr4.sz; omega) (fun j x y acc2 k2 hx hy hk2 => ?_) gName_mono ?_
      · obtain ⟨c, rfl, ek, hc⟩ := cls hx
        obtain ⟨b, e1, rfl⟩ := map_at hy
        obtain ⟨kk, e2, rfl⟩ := map_at e1
        rw [ek] at e2
        cases e2
        rw [markT_eq] at hk2
        have sD := same_upd (o := .lst acc2) nD
        have a1 : (m.acc.map V.bl)[c]? = some (.bl (m.accs c)) := by rw [List.getElem?_map, ok.accs_at hc]; rfl
        exact ⟨rfl, _, rfl, p, _, dx, _, _, rfl, sD _ _ m1, T.c_Machine, T.n_Machine_accepting, mf_acc _ _ _, _, rfl, la, _, _, _, rfl, rfl, SqL.of (sD _ _ m3), atI_nat a1, hk2⟩
      have hD5 : upd H4 D (.lst ((keys.map (markT m)).map V.bl)) D = some (.lst ((keys.map (markT m)).map V.bl)) := upd_same
      have sr5 := sr4.keep (same_upd (o := .lst ((keys.map (markT m)).map V.bl)) nD)
      have s5 : L2.Same H4 (upd H4 D (.lst ((keys.map (markT m)).map V.bl))) := same_upd nD
      generalize upd H4 D (.lst ((keys.map (markT m)).map V.bl)) = H5 at hD5 sr5 s5 ⊢
      obtain ⟨dx5, h15⟩ := sr5.ob
      have tab5 : TabAt H5 ra rows := ⟨rl, sr5.rw.1, sr5.rw.2.1, fun i a e => let ⟨r, f1, f2, _⟩ := sr5.rw.2.2 i a e; ⟨r, f1, f2⟩⟩
      have sAll := sA.trans s5
      refine ⟨_, rfl, _, rfl, sp, _, dx5, _, _, rfl, h15, T.c_Search, T.n_Search_rows, sf_rows _ _ _, _, rfl, fun x dxm nx ndx _ => make_machine (m := ⟨W, rows, keys.map (markT m)⟩) nx ndx po.1 tab5 hD5 fun H7 nm s7 => ⟨rfl, _, rfl, sp, _, dx5, _, _, rfl, s7 _ _ h15, T.c_Search, T.n_Search_found, sf_found _ _ _, fa, _, rfl, .inl (SqL.of (s7 _ _ sr5.fl)), fun lf nlf => ⟨by show 2 ≤ sizeLine; decide, fun t nt => ?_⟩⟩⟩
      exact q _ t x (.ref lf) ⟨W, rows, keys.map (markT m)⟩ (((sAll.trans s7).trans (same_upd nlf)).trans (same_upd nt)) upd_same (((nm.same (same_upd nlf)).same (same_upd nt)).old sAll) po.1 rfl po.2.1 po.2.2
def p_spread : Q3 := fun _ a b d H Q _ => ∃ (p q : Addr) (m : M) (pl : List Nat) (W : Nat), a = .ref p ∧ b = .ref q ∧ d = iV W ∧ MachAt K H p m ∧ m.Ok ∧ H q = some (.lst (natsV pl)) ∧ pl.length = m.w ∧ W ≤ 6 ∧ (∀ t ∈ pl, t < W) ∧
  ∀ H' p' m', L2.Same H H' → NewM K H H' p' m' → m'.Ok → m'.w = W → m'.tab.length ≤ m.tab.length → (∀ wd, Val W wd → m'.accs (m'.run 0 wd) = m.accs (m.run 0 (wd.map (olt pl)))) → Q (.ref p') H'
theorem ok_spread (T : Txt P w K mg) : FnQ P w K mg base 6 (He.ga K "spread") 3 (Sp3 (p_spread (K := K))) := by
  refine fnQ3 T.F_spread sc_spread (fun _ _ _ _ _ _ us hl => match us, hl with | [_, _, _], _ => rfl) fun cdv A outer s H a b d Q E l qa hr h => ?_
  obtain ⟨p, q', m, pl, W, rfl, rfl, rfl, hm, ok, hq, hl, hW, hpl, q⟩ := h
  refine ⟨_, (pss_one (ps_ret (pe_ix ix_tup (pe_callQ (ok_spread_with_states T) (hr.mono (by omega)) (cxQ_quiet qa) T.g_spread_with_states pass0 (pa_cons (pv 0) (pa_cons (pv 1) (pa_cons (pv 2) pa_nil)))) pe_int (fun _ _ => rfl)))), ?_⟩
  exact ⟨_, rfl, _, rfl, _, rfl, _, _, _, rfl, p, q', m, pl, W, rfl, rfl, rfl, hm, ok, hq, hl, hW, hpl, fun H1 t p' v m' s1 ht nm o ww sz lg => ⟨t, _, _, _, rfl, rfl, SqT.of ht, atI_nat (j := 0) rfl, q H1 p' m' s1 nm o ww sz lg⟩⟩
end
end K36
/-! K36W8: linear terms -/
namespace K36
open PySem PySem.Spec PyProof.Rows L2 HotX
abbrev intsV (xs : List Int) : List V := xs.map V.int
/-! ### mathematics -/
/-- the sum of the coefficients whose digit in the letter is 1 -/
def dsum : List Int → Nat → Int
  | [], _ => 0
  | c :: cs, a => (if a % 2 = 1 then c else 0) + dsum cs (a / 2)
/-- the value that a word gives the coefficients -/
def lval (cs : List Int) : List Nat → Int
  | [] => 0
  | a :: wd => dsum cs a + 2 * lval cs wd
def absS (cs : List Int) : Int := (cs.map fun c => (c.natAbs : Int)).sum
theorem dsum_abs : ∀ (cs : List Int) (a : Nat), -absS cs ≤ dsum cs a ∧ dsum cs a ≤ absS cs
  | [], _ => by show -(0 : Int) ≤ 0 ∧ (0 : Int) ≤ 0; omega
  | c :: cs, a => by
    have ih := dsum_abs cs (a / 2)
    unfold absS at ih ⊢
    simp only [dsum, List.map_cons, List.sum_cons]
    split <;> omega
theorem dsum_zero : ∀ (cs : List Int), dsum cs 0 = 0
  | [] => rfl
  | c :: cs => by
    show (if 0 % 2 = 1 then c else 0) + dsum cs (0 / 2) = 0
    rw [if_neg (by decide), show 0 / 2 = 0 from rfl, dsum_zero cs]
    rfl
def stepK (ex : Bool) : NK → Int → NK
  | .num l, t => if ex = true ∧ (l - t) % 2 = 1 then .none else .num ((l - t) / 2)
  | _, _ => .none
def sucK (ex : Bool) (cs : List Int) (k : NK) : List NK := (List.range (2 ^ cs.length)).map fun a => stepK ex k (dsum cs a)
def markK (ex : Bool) : NK → Bool
  | .num l => if ex = true then decide (l = 0) else decide (0 ≤ l)
  | _ => false
def labV : NK → V
  | .num l => .int l
  | _ => .non
theorem stepT1 {l t : Int} (h : (l - t) % 2 = 1) : stepK true (.num l) t = .none := if_pos ⟨rfl, h⟩
theorem stepT0 {l t : Int} (h : ¬ (l - t) % 2 = 1) : stepK true (.num l) t = .num ((l - t) / 2) := if_neg fun z => h z.2
theorem stepF {l t : Int} : stepK false (.num l) t = .num ((l - t) / 2) := rfl
theorem markT1 {l : Int} : markK true (.num l) = decide (l = 0) := rfl
theorem markF1 {l : Int} : markK false (.num l) = decide (0 ≤ l) := rfl
/-- a label -/
def LabK (ex : Bool) (k : NK) : Prop := (ex = true ∧ k = .none) ∨ ∃ l : Int, k = .num l ∧ -10 ≤ l ∧ l ≤ 10
section
variable {ex : Bool} {cs : List Int}
theorem step_lab (hc : absS cs ≤ 9) {k : NK} (h : LabK ex k) (a : Nat) : LabK ex (stepK ex k (dsum cs a)) := by
  rcases h with ⟨e, rfl⟩ | ⟨l, rfl, h1, h2⟩
  · exact .inl ⟨e, rfl⟩
  · have := dsum_abs cs a
    cases ex with
    | true =>
      by_cases e : (l - dsum cs a) % 2 = 1
      · exact .inl ⟨rfl, stepT1 e⟩
      · exact .inr ⟨_, stepT0 e, by omega, by omega⟩
    | false => exact .inr ⟨_, stepF, by omega, by omega⟩
theorem sucK_at {k : NK} {a : Nat} (h : a < 2 ^ cs.length) : (sucK ex cs k)[a]? = some (stepK ex k (dsum cs a)) := by unfold sucK; rw [List.getElem?_map, List.getElem?_range h]; rfl
theorem keysK (hc : absS cs ≤ 9) {start : Int} (hs : -9 ≤ start ∧ start ≤ 9) {keys : List NK} {rows : List (List Nat)} (S : Srch (sucK ex cs) (.num start) keys rows) : ∀ k ∈ keys, LabK ex k :=
  S.reach (LabK ex) (.inr ⟨start, rfl, by omega, by omega⟩) fun k h k' hk' => by
    obtain ⟨a, _, rfl⟩ := List.mem_map.mp hk'
    exact step_lab hc h a
def allLab : List NK := .none :: (List.range 21).map fun (i : Nat) => NestedKey.num ((i : Int) - 10)
theorem lab_all {k : NK} (h : LabK ex k) : k ∈ allLab := by
  rcases h with ⟨_, rfl⟩ | ⟨l, rfl, h1, h2⟩
  · exact List.mem_cons_self
  · refine List.mem_cons_of_mem _ (List.mem_map.mpr ⟨(l + 10).toNat, List.mem_range.mpr (by omega), ?_⟩)
    rw [show (((l + 10).toNat : Nat) : Int) - 10 = l by omega]
theorem lab_len {L : List NK} (nd : L.Nodup) (h : ∀ k ∈ L, LabK ex k) : L.length ≤ 22 := nodup_le L allLab nd fun k hk => lab_all (h k hk)
theorem runK_none (ex : Bool) (cs : List Int) : ∀ (wd : List Nat), Val cs.length wd → runK (sucK ex cs) .none wd = .none
  | [], _ => rfl
  | a :: wd, hv => by
    show runK (sucK ex cs) (((sucK ex cs .none)[a]?).getD _) wd = _
    rw [sucK_at (hv a List.mem_cons_self)]
    exact runK_none ex cs wd fun y hy => hv y (List.mem_cons_of_mem _ hy)
theorem runK_eq (cs : List Int) : ∀ (wd : List Nat) (l : Int), Val cs.length wd → markK true (runK (sucK true cs) (.num l) wd) = decide (lval cs wd = l)
  | [], l, _ => by
    show markK true (.num l) = decide ((0 : Int) = l)
    rw [markT1]
    exact decide_eq_decide.mpr (by omega)
  | a :: wd, l, hv => by
    show markK true (runK (sucK true cs) (((sucK true cs (.num l))[a]?).getD _) wd) = decide (dsum cs a + 2 * lval cs wd = l)
    rw [sucK_at (hv a List.mem_cons_self)]
    show markK true (runK (sucK true cs) (stepK true (.num l) (dsum cs a)) wd) = _
    by_cases h : (l - dsum cs a) % 2 = 1
    · rw [stepT1 h, runK_none _ _ _ fun y hy => hv y (List.mem_cons_of_mem _ hy)]
      exact (decide_eq_false (by omega)).symm
    · rw [stepT0 h, runK_eq cs wd _ fun y hy => hv y (List.mem_cons_of_mem _ hy)]
      exact decide_eq_decide.mpr (by omega)
theorem runK_le (cs : List Int) : ∀ (wd : List Nat) (l : Int), Val cs.length wd → markK false (runK (sucK false cs) (.num l) wd) = decide (lval cs wd ≤ l)
  | [], l, _ => markF1
  | a :: wd, l, hv => by
    show markK false (runK (sucK false cs) (((sucK false cs (.num l))[a]?).getD _) wd) = decide (dsum cs a + 2 * lval cs wd ≤ l)
    rw [sucK_at (hv a List.mem_cons_self)]
    show markK false (runK (sucK false cs) (stepK false (.num l) (dsum cs a)) wd) = _
    rw [stepF, runK_le cs wd _ fun y hy => hv y (List.mem_cons_of_mem _ hy)]
    exact decide_eq_decide.mpr (by omega)
/-- what the machine of a linear term says -/
def linS (ex : Bool) (v c : Int) : Bool := if ex = true then decide (v = -c) else decide (v ≤ -c)
theorem linear_ok (hc : absS cs ≤ 9) (hn : cs.length ≤ 6) {c : Int} (hs : -9 ≤ c ∧ c ≤ 9) {keys : List NK} {rows : List (List Nat)} (S : Srch (sucK ex cs) (.num (-c)) keys rows) (full : rows.length = keys.length) :
    (M.mk cs.length rows (keys.map (markK ex))).Ok ∧ ∀ wd, Val cs.length wd → (M.mk cs.length rows (keys.map (markK ex))).accs ((M.mk cs.length rows (keys.map (markK ex))).run 0 wd) = linS ex (lval cs wd) c := by
  have ks := keysK hc (by omega) S
  have hl : ∀ x ∈ keys, (sucK ex cs x).length = 2 ^ cs.length := fun x _ => by unfold sucK; rw [List.length_map, List.length_range]
  refine ⟨S.ok full hl hn fun x hx => ?_, fun wd hv => ?_⟩
  · have p : 0 < 2 ^ cs.length := Nat.pow_pos (by decide)
    show _ = markK ex (((sucK ex cs x)[0]?).getD _)
    rw [sucK_at p, dsum_zero]
    show _ = markK ex (stepK ex x 0)
    rcases ks x hx with ⟨_, rfl⟩ | ⟨l, rfl, _⟩
    · rfl
    · cases ex with
      | true =>
        rw [markT1]
        by_cases h : (l - 0) % 2 = 1
        · rw [stepT1 h]; exact decide_eq_false (by omega)
        · rw [stepT0 h, markT1]; exact decide_eq_decide.mpr (by omega)
      | false =>
        rw [markF1, stepF, markF1]
        exact decide_eq_decide.mpr (by omega)
  · rw [S.acc full hl S.hd hv]
    cases ex with
    | true => rw [runK_eq cs wd _ hv]; rfl
    | false => rw [runK_le cs wd _ hv]; rfl
end
end K36
/-! K36W9: the walks of linear terms -/
namespace K36
open PySem PySem.Spec PyProof.Rows L2 HotX
theorem drop_at {α : Type} {l : List α} {i : Nat} {x : α} (h : l[i]? = some x) : l.drop i = x :: l.drop (i + 1) := by
  obtain ⟨hi, rfl⟩ := List.getElem?_eq_some_iff.mp h
  exact List.drop_eq_getElem_cons hi
section
variable {P : Program} {w : World} {K : PySem.W.Frag} {mg : Str → Option Value} {base : Heap}
def p_digit_sum : Q2 := fun _ x y H Q _ => ∃ (b : Addr) (cs : List Int) (a : Nat), x = .ref b ∧ y = iV a ∧ H b = some (.lst (intsV cs)) ∧ Q (.int (dsum cs a)) H
theorem ok_digit_sum (T : Txt P w K mg) : FnQ P w K mg base 1 (He.ga K "digit_sum") 2 (Sp2 p_digit_sum) := by
  refine fnQ2 T.F_digit_sum sc_digit_sum (fun _ _ _ _ _ _ us hl => match us, hl with | [_, _], _ => rfl) fun cdv A outer s H x y Q E l qa hr h => ?_
  obtain ⟨b, cs, a, rfl, rfl, hb, q⟩ := h
  refine ⟨_, (pss_cons (ps_set (i := 2) sc_digit_sum.nd rfl (Or.inl rfl) pe_int)
      (pss_cons (ps_forQ PassesOwn.leaving (cxQ_quiet qa) (piL (pv 0)) (pg_name (i := 3) sc_digit_sum.nd rfl (Or.inl rfl)) (pss_cons (ps_if (pt_cmpR op_eq (pe_op op_mod (pv 1) pe_int) pe_int (nomark _)) (pss_one (ps_set (i := 2) sc_digit_sum.nd rfl (Or.inl rfl) (pe_op op_add (pv 2) (pv 3)))) pss_nil)
        (pss_one (ps_set (i := 1) sc_digit_sum.nd rfl (Or.inl rfl) (pe_op op_fdiv (pv 1) pe_int)))))
      (pss_one (ps_ret (pv 2))))), ?_⟩
  refine ⟨_, rfl, b, rfl, ⟨_, SqL.of hb⟩, ?_⟩
  refine for_list (xs := intsV cs) (fun i σ H1 => H1 = H ∧ ∃ (t : Int) (u : Nat) (o : Option V), σ = [some (.ref b), some (iV u), some (.int t), o] ∧ t + dsum (cs.drop i) u = dsum cs a) ⟨rfl, 0, a, none, rfl, by simp⟩ (fun i σ H1 _ h => by rw [h.1]; exact SqL.of hb) ?_ ?_
  · rintro i v σ H1 hx ⟨rfl, t, u, o, rfl, e⟩
    obtain ⟨c, hc, rfl⟩ := map_at hx
    rw [drop_at hc] at e
    have e' : t + ((if u % 2 = 1 then c else 0) + dsum (cs.drop (i + 1)) (u / 2)) = dsum cs a := e
    have m2 : (u : Int) % 2 = ((u % 2 : Nat) : Int) := modN u 2
    have d2 : (u : Int) / 2 = ((u / 2 : Nat) : Int) := divN u 2
    by_cases h : u % 2 = 1
    · rw [if_pos h] at e'
      refine ⟨_, rfl, _, _, rfl, rfl, (by show (0 : Int) < 2; decide), rfl, true, dT (congrArg V.int (by rw [m2, h]; rfl)), _, rfl, _, rfl, _, _, rfl, rfl, _, rfl, _, _, rfl, rfl, ⟨by decide, by decide⟩, rfl, t + c, u / 2, some (.int c), ?_, by omega⟩
      show [some (V.ref b), some (V.int ((u : Int) / 2)), some (V.int (t + c)), some (V.int c)] = _
      rw [d2]
    · rw [if_neg h] at e'
      refine ⟨_, rfl, _, _, rfl, rfl, (by show (0 : Int) < 2; decide), rfl, false, dF (intNe (by rw [m2]; omega)), _, rfl, _, _, rfl, rfl, ⟨by decide, by decide⟩, rfl, t, u / 2, some (.int c), ?_, by omega⟩
      show [some (V.ref b), some (V.int ((u : Int) / 2)), some (V.int t), some (V.int c)] = _
      rw [d2]
  · rintro σ H1 ⟨rfl, t, u, o, rfl, e⟩
    refine ⟨_, rfl, qi (Q := Q) ?_ q⟩
    rw [← e, show (intsV cs).length = cs.length from List.length_map _, List.drop_length]
    show t = t + 0
    omega
def p_equal_step : Q2 := fun _ x y H Q _ => ∃ (k : NK) (t : Int), x = labV k ∧ y = .int t ∧ (k = .none ∨ ∃ l, k = .num l) ∧ Q (labV (stepK true k t)) H
theorem ok_equal_step (T : Txt P w K mg) : FnQ P w K mg base 1 (He.ga K "equal_step") 2 (Sp2 p_equal_step) := by
  refine fnQ2 T.F_equal_step sc_equal_step (fun _ _ _ _ _ _ us hl => match us, hl with | [_, _], _ => rfl) fun cdv A outer s H x y Q E l qa hr h => ?_
  obtain ⟨k, t, rfl, rfl, hk, q⟩ := h
  refine ⟨_, (pss_cons (ps_if (PW.pt (pw_or (pt_cmpR op_isN (pv 0) pe_non (nomark _)) (pw_or1 (pt_cmpR op_eq (pe_op op_mod (pe_op op_sub (pv 0) (pv 1)) pe_int) pe_int (nomark _))))) (pss_one (ps_ret pe_non)) pss_nil)
      (pss_one (ps_ret (pe_op op_fdiv (pe_op op_sub (pv 0) (pv 1)) pe_int)))), ?_⟩
  rcases hk with rfl | ⟨l, rfl⟩
  · exact ⟨_, rfl, rfl, true, dT rfl, q⟩
  · refine ⟨_, rfl, rfl, false, dF (fun e => by cases e), _, rfl, _, rfl, _, _, rfl, rfl, _, _, rfl, rfl, (by show (0 : Int) < 2; decide), rfl, ?_⟩
    by_cases h : (l - t) % 2 = 1
    · rw [stepT1 h] at q
      exact ⟨true, dT (congrArg V.int h), q⟩
    · rw [stepT0 h] at q
      exact ⟨false, dF (intNe h), _, rfl, _, rfl, _, _, rfl, rfl, _, _, rfl, rfl, ⟨by decide, by decide⟩, q⟩
def p_at_most_step : Q2 := fun _ x y H Q _ => ∃ (l t : Int), x = .int l ∧ y = .int t ∧ Q (.int ((l - t) / 2)) H
theorem ok_at_most_step (T : Txt P w K mg) : FnQ P w K mg base 1 (He.ga K "at_most_step") 2 (Sp2 p_at_most_step) := by
  refine fnQ2 T.F_at_most_step sc_at_most_step (fun _ _ _ _ _ _ us hl => match us, hl with | [_, _], _ => rfl) fun cdv A outer s H x y Q E l qa hr h => ?_
  obtain ⟨l, t, rfl, rfl, q⟩ := h
  refine ⟨_, (pss_one (ps_ret (pe_op op_fdiv (pe_op op_sub (pv 0) (pv 1)) pe_int))), ?_⟩
  exact ⟨_, rfl, _, rfl, _, _, rfl, rfl, _, _, rfl, rfl, ⟨by decide, by decide⟩, q⟩
/-- labels at la, states at da, table at ta -/
structure LbAt (P : Program) (w : World) (H : Hp) (la da ta : Addr) (keys : List NK) (rl : List Addr) (rows : List (List Nat)) : Prop where
  fl : H la = some (.lst (keys.map labV))
  dn : DN P w H da (plc 0 keys)
  tb : H ta = some (.lst (rl.map V.ref))
  tl : rl.length = rows.length
  tr : ∀ (i : Nat) (a : Addr), rl[i]? = some a → ∃ r, rows[i]? = some r ∧ H a = some (.lst (natsV r)) ∧ a ≠ la ∧ a ≠ ta
  ne : la ≠ ta
theorem LbAt.same {H H' : Hp} {la da ta : Addr} {keys : List NK} {rl : List Addr} {rows : List (List Nat)} (x : LbAt P w H la da ta keys rl rows) (s : L2.Same H H') : LbAt P w H' la da ta keys rl rows where
  fl := s _ _ x.fl
  dn := by
    obtain ⟨φ, e⟩ := x.dn.some
    exact x.dn.keep ((s _ _ e).trans e.symm) fun b xs e => s _ _ e
  tb := s _ _ x.tb
  tl := x.tl
  tr := fun i a e => let ⟨r, g1, g2, g3⟩ := x.tr i a e; ⟨r, g1, s _ _ g2, g3⟩
  ne := x.ne
theorem LbAt.but {H H' : Hp} {la da ta D : Addr} {keys : List NK} {rl : List Addr} {rows : List (List Nat)} {us : List V} (x : LbAt P w H la da ta keys rl rows) (hD : H D = some (.lst us)) (f : ∀ b o, H b = some o → b ≠ D → H' b = some o) (h1 : la ≠ D) (h2 : ta ≠ D) (h3 : D ∉ rl) : LbAt P w H' la da ta keys rl rows where
  fl := f _ _ x.fl h1
  dn := by
    obtain ⟨φ, e⟩ := x.dn.some
    exact x.dn.keep ((f _ _ e (ne_of e hD (fun z => by cases z))).trans e.symm) fun b xs e => f _ _ e (ne_of e hD (fun z => by cases z))
  tb := f _ _ x.tb h2
  tl := x.tl
  tr := fun i a e => let ⟨r, g1, g2, g3⟩ := x.tr i a e; ⟨r, g1, f _ _ g2 (fun z => h3 (z ▸ List.mem_of_getElem? e)), g3⟩
  ne := x.ne
theorem labAt {H : Hp} {k : NK} (h : k = .none ∨ ∃ l, k = .num l) : KAt H k (labV k) := by
  rcases h with rfl | ⟨l, rfl⟩
  · exact .non
  · exact .int l
theorem LabK.two {ex : Bool} {k : NK} (h : LabK ex k) : (k = .none ∨ ∃ l, k = .num l) ∧ k.depth ≤ 8 ∧ isTup k = false := by
  rcases h with ⟨_, rfl⟩ | ⟨l, rfl, _⟩
  · exact ⟨.inl rfl, Nat.zero_le _, rfl⟩
  · exact ⟨.inr ⟨l, rfl⟩, Nat.zero_le _, rfl⟩
def p_labelled : Q3 := fun _ x y z H Q _ => ∃ (b : Addr) (cs : List Int) (st : Int) (ex : Bool), x = .ref b ∧ y = .int st ∧ z = .bl ex ∧ H b = some (.lst (intsV cs)) ∧ cs.length ≤ 6 ∧ absS cs ≤ 9 ∧ -9 ≤ st ∧ st ≤ 9 ∧
  ∀ H' t la ta keys rows, L2.Same H H' → H' t = some (.tup [.ref la, .ref ta]) → H' la = some (.lst (keys.map labV)) → TabAt H' ta rows → Srch (sucK ex cs) (.num st) keys rows → rows.length = keys.length → Q (.ref t) H'
/-- the loop of labelled -/
def labW (P : Program) (w : World) (ex : Bool) (cs : List Int) (st : Int) (b su la da ta : Addr) (H0 : Hp) (n : Nat) (σ : St) (H1 : Hp) : Prop :=
  ∃ (keys : List NK) (rl : List Addr) (rows : List (List Nat)) (o4 o5 o6 o10 o11 o12 o13 : Option V), n = 401 - rows.length ∧ σ = [some (.ref b), some (.int st), some (.bl ex), some (.ref su), o4, o5, o6, some (.ref la), some (.ref da), some (.ref ta), o10, o11, o12, o13] ∧ LbAt P w H1 la da ta keys rl rows ∧
    Srch (sucK ex cs) (.num st) keys rows ∧ L2.Same H0 H1 ∧ H1 su = some (.lst (intsV ((List.range (2 ^ cs.length)).map (dsum cs)))) ∧ su ∉ rl
theorem intsV_app (a b : List Int) : intsV (a ++ b) = intsV a ++ intsV b := List.map_append
theorem ok_labelled (T : Txt P w K mg) : FnQ P w K mg base 2 (He.ga K "labelled") 3 (Sp3 (p_labelled)) := by
  refine fnQ3 T.F_labelled sc_labelled (fun _ _ _ _ _ _ us hl => match us, hl with | [_, _, _], _ => rfl) fun cdv A outer s H x y z Q E l qa hr h => ?_
  obtain ⟨b, cs, st, ex, rfl, rfl, rfl, hb, hn, hc, hs1, hs2, q⟩ := h
  have n6 : 2 ^ cs.length ≤ 2 ^ 6 := Nat.pow_le_pow_right (by decide) hn
  refine ⟨_, (pss_cons (ps_set (i := 3) sc_labelled.nd rfl (Or.inl rfl) (pe_lst pa_nil))
      (pss_cons (ps_set (i := 4) sc_labelled.nd rfl (Or.inl rfl) pe_int)
      (pss_cons (ps_forQ PassesOwn.leaving (cxQ_quiet qa) (piL (pv 0)) (pg_name (i := 5) sc_labelled.nd rfl (Or.inl rfl)) (pss_one (ps_set (i := 4) sc_labelled.nd rfl (Or.inl rfl) (pe_op op_mul pe_int (pv 4)))))
      (pss_cons (ps_forQ PassesOwn.leaving (cxQ_quiet qa) (piR1 rfl T.free_range (pa_cons (pv 4) pa_nil)) (pg_name (i := 6) sc_labelled.nd rfl (Or.inl rfl)) (pss_one (ps_expr (pe_bm PySem.F.plainAttrs_list PySem.F.slot_list_append PySem.F.type_list_append mt_append (pv 3) (pa_cons (pe_callQ (ok_digit_sum T) (hr.mono (by omega)) (cxQ_quiet qa) T.g_digit_sum pass0 (pa_cons (pv 0) (pa_cons (pv 6) pa_nil))) pa_nil)))))
      (pss_cons (ps_set (i := 7) sc_labelled.nd rfl (Or.inl rfl) (pe_lst (pa_cons (pv 1) pa_nil)))
      (pss_cons (ps_set (i := 8) sc_labelled.nd rfl (Or.inl rfl) (pe_ndisp (huQ hr) (pv 1) pe_int))
      (pss_cons (ps_set (i := 9) sc_labelled.nd rfl (Or.inl rfl) (pe_lst pa_nil))
      (pss_cons (ps_while PassesOwn.leaving (PW.pt (pw_and (pt_cmpR op_lt (pe_callB call_len_seq rfl T.free_len PySem.boot_len (pa_cons (pv 9) pa_nil)) (pe_callB call_len_seq rfl T.free_len PySem.boot_len (pa_cons (pv 7) pa_nil)) (nomark _)) (pw_and1 (pt_cmpR op_le (pe_callB call_len_seq rfl T.free_len PySem.boot_len (pa_cons (pv 7) pa_nil)) (pe_glob (v := .int 400) rfl T.i_MAX_STATES_linear.choose_spec ⟨_, rfl⟩) (nomark _))))) (pss_cons (ps_set (i := 10) sc_labelled.nd rfl (Or.inl rfl) (pe_ix ix_list (pv 7) (pe_callB call_len_seq rfl T.free_len PySem.boot_len (pa_cons (pv 9) pa_nil)) (fun _ _ => rfl)))
        (pss_cons (ps_set (i := 11) sc_labelled.nd rfl (Or.inl rfl) (pe_lst pa_nil))
        (pss_cons (ps_forQ PassesOwn.leaving (cxQ_quiet qa) (piL (pv 3)) (pg_name (i := 12) sc_labelled.nd rfl (Or.inl rfl)) (pss_cons (ps_set (i := 13) sc_labelled.nd rfl (Or.inl rfl) (pe_ifExp (pt_val (pv 2)) (pe_callQ (ok_equal_step T) (hr.mono (by omega)) (cxQ_quiet qa) T.g_equal_step pass0 (pa_cons (pv 10) (pa_cons (pv 12) pa_nil))) (pe_callQ (ok_at_most_step T) (hr.mono (by omega)) (cxQ_quiet qa) T.g_at_most_step pass0 (pa_cons (pv 10) (pa_cons (pv 12) pa_nil)))))
          (pss_cons (ps_if (pt_cmp (pc_nnotin (huQ hr) (pv 13) (pv 8))) (pss_cons (ps_nput (huQ hr) (pv 8) (pv 13) (pe_callB call_len_seq rfl T.free_len PySem.boot_len (pa_cons (pv 7) pa_nil)))
            (pss_one (ps_expr (pe_bm PySem.F.plainAttrs_list PySem.F.slot_list_append PySem.F.type_list_append mt_append (pv 7) (pa_cons (pv 13) pa_nil))))) pss_nil)
          (pss_one (ps_expr (pe_bm PySem.F.plainAttrs_list PySem.F.slot_list_append PySem.F.type_list_append mt_append (pv 11) (pa_cons (pe_nget (huQ hr) (pv 8) (pv 13) (fun _ _ => rfl)) pa_nil)))))))
        (pss_one (ps_expr (pe_bm PySem.F.plainAttrs_list PySem.F.slot_list_append PySem.F.type_list_append mt_append (pv 9) (pa_cons (pv 11) pa_nil))))))))
      (pss_cons (ps_if (pt_cmpR op_gt (pe_callB call_len_seq rfl T.free_len PySem.boot_len (pa_cons (pv 7) pa_nil)) (pe_glob (v := .int 400) rfl T.i_MAX_STATES_linear.choose_spec ⟨_, rfl⟩) (nomark _)) pss_never pss_nil)
      (pss_one (ps_ret (pe_tup (pa_cons (pv 7) (pa_cons (pv 9) pa_nil)))))))))))))), ?_⟩
  refine ⟨by decide, fun su nsu => ?_⟩
  have s0 := same_upd (o := .lst []) nsu
  refine ⟨_, rfl, b, rfl, ⟨_, SqL.of (s0 _ _ hb)⟩, ?_⟩
  refine for_list (xs := intsV cs) (fun i σ H1 => H1 = upd H su (.lst []) ∧ ∃ o5, σ = [some (.ref b), some (.int st), some (.bl ex), some (.ref su), some (iV (2 ^ i)), o5, none, none, none, none, none, none, none, none]) ⟨rfl, none, rfl⟩ (fun i σ H1 _ h => by rw [h.1]; exact SqL.of (s0 _ _ hb)) ?_ ?_
  · rintro i v σ H1 hx ⟨rfl, o5, rfl⟩
    refine ⟨_, rfl, _, _, rfl, rfl, .inl ⟨by decide, by decide⟩, rfl, some v, ?_⟩
    have e : (2 : Int) * ((2 ^ i : Nat) : Int) = ((2 ^ (i + 1) : Nat) : Int) := by rw [Nat.pow_succ, Nat.mul_comm]; rfl
    show [some (V.ref b), some (V.int st), some (V.bl ex), some (V.ref su), some (V.int ((2 : Int) * ((2 ^ i : Nat) : Int))), some v, none, none, none, none, none, none, none, none] = _
    rw [e]
  · rintro σ H1 ⟨rfl, o5, rfl⟩
    rw [show (intsV cs).length = cs.length from List.length_map _]
    refine ⟨_, rfl, _, rfl, (rngB (n := 2 ^ cs.length) (by omega)).1, (rngB (n := 2 ^ cs.length) (by omega)).2, ?_⟩
    rw [toN]
    refine for_range (fun i σ H1 => ∃ o6, σ = [some (.ref b), some (.int st), some (.bl ex), some (.ref su), some (iV (2 ^ cs.length)), o5, o6, none, none, none, none, none, none, none] ∧ L2.Same H H1 ∧ H1 su = some (.lst (intsV ((List.range i).map (dsum cs))))) ⟨none, rfl, s0, upd_same⟩ ?_ ?_
    · rintro i σ H1 hi ⟨o6, rfl, s1, hsu⟩
      have hi : i < 2 ^ cs.length := hi
      rw [Int.zero_add]
      refine ⟨_, rfl, .inl ⟨rfl, _, SqL.of hsu⟩, _, rfl, _, rfl, _, _, rfl, b, cs, i, rfl, rfl, s1 _ _ hb, su, _, _, rfl, rfl, hsu, by rw [List.length_map, List.length_map, List.length_range, sizeLine_eq]; omega, _, rfl, same_upd2 s1 nsu, ?_⟩
      rw [upd_same, List.range_succ, List.map_append, intsV_app]
      rfl
    · rintro σ H1 ⟨o6, rfl, s1, hsu⟩
      refine ⟨_, rfl, by show 1 ≤ sizeLine; decide, fun la nla => ⟨false, fun da nda => ⟨_, rfl, .int st, _, rfl, upd_same, .num st, .int st, Nat.zero_le _, rfl, fun od dn => ?_⟩⟩⟩
      rw [upd_upd] at dn ⊢
      have ld : la ≠ da := fun e => by rw [e, upd_same] at nda; cases nda
      have nda1 : H1 da = none := (same_upd nla).free nda
      have la2 : upd (upd H1 la (.lst [.int st])) da od la = some (.lst [.int st]) := by rw [upd_ne ld]; exact upd_same
      have s2 : L2.Same H1 (upd (upd H1 la (.lst [.int st])) da od) := same_upd2 (same_upd nla) nda1
      generalize upd (upd H1 la (.lst [.int st])) da od = H2 at dn la2 s2 ⊢
      refine ⟨by decide, fun ta nta => ?_⟩
      have lt : la ≠ ta := ne_of_none la2 nta
      obtain ⟨φ, hda⟩ := dn.some
      have L0 : LbAt P w (upd H2 ta (.lst [])) la da ta [.num st] [] [] := ⟨same_upd nta _ _ la2, dn.keep (upd_ne (ne_of_none hda nta)) fun b xs e => same_upd nta _ _ e, upd_same, rfl, fun i a e => by simp at e, lt⟩
      have s3 := (s1.trans s2).trans (same_upd (o := .lst []) nta)
      have hsu3 := same_upd (o := .lst []) nta _ _ (s2 _ _ hsu)
      have nlaH : H la = none := s1.free nla
      have ndaH : H da = none := s1.free nda1
      have ntaH : H ta = none := (s1.trans s2).free nta
      have sula : su ≠ la := ne_of_none hsu nla
      have suta : su ≠ ta := ne_of_none (s2 _ _ hsu) nta
      have suda : su ≠ da := ne_of_none hsu nda1
      generalize upd H2 ta (.lst []) = H3 at L0 s3 hsu3 ⊢
      refine ⟨labW P w ex cs st b su la da ta H, ⟨_, _, _, _, _, _, _, _, _, _, _, rfl, rfl, L0, .start _ _, s3, hsu3, by simp⟩, ?_⟩
      clear dn la2 s2 hda nda nta nla hsu3 L0 s3 s1 hsu
      rintro n σ H4 ⟨keys, rl, rows, o4, o5, o6, o10, o11, o12, o13, rfl, rfl, L, S, s4, hsu4, snr⟩
      have ks := keysK hc ⟨hs1, hs2⟩ S
      have k22 := lab_len S.nd ks
      have kl : (keys.map labV).length = keys.length := List.length_map _
      have rlen : (rl.map V.ref).length = rows.length := by rw [List.length_map, L.tl]
      have Sle := S.le
      refine ⟨_, rfl, ta, _, rfl, .inl (SqL.of L.tb), _, rfl, la, _, rfl, .inl (SqL.of L.fl), _, _, rfl, rfl, ?_⟩
      by_cases hlt : rows.length < keys.length
      · refine ⟨true, dT (by rw [rlen, kl]; omega), _, rfl, la, _, rfl, .inl (SqL.of L.fl), _, _, rfl, rfl, true, dT (by rw [kl]; omega), fun σ' H' => ∃ m', m' < 401 - rows.length ∧ labW P w ex cs st b su la da ta H m' σ' H', fun _ _ z => z, ?_⟩
        have ek := List.getElem?_eq_getElem hlt
        have lk := ks _ (List.getElem_mem hlt)
        have el : (keys.map labV)[rows.length]? = some (labV keys[rows.length]) := by rw [List.getElem?_map, ek]; rfl
        generalize keys[rows.length] = k at ek lk el
        refine ⟨_, rfl, _, rfl, ta, _, rfl, .inl (SqL.of L.tb), la, _, _, labV k, rfl, rfl, SqL.of L.fl, ?_, by decide, fun rw nrw => ?_⟩
        · rw [rlen]; exact atI_nat el
        have larw : la ≠ rw := ne_of_none L.fl nrw
        have tarw : ta ≠ rw := ne_of_none L.tb nrw
        have rwrl : rw ∉ rl := fun zz => by
          obtain ⟨i, hi⟩ := List.mem_iff_getElem?.mp zz
          obtain ⟨r, _, g, _⟩ := L.tr i rw hi
          rw [nrw] at g
          cases g
        obtain ⟨φ4, hda4⟩ := L.dn.some
        have darw : da ≠ rw := ne_of_none hda4 nrw
        have surw : su ≠ rw := ne_of_none hsu4 nrw
        refine ⟨_, rfl, su, rfl, ⟨_, SqL.of (same_upd nrw _ _ hsu4)⟩, ?_⟩
        have sl : (intsV ((List.range (2 ^ cs.length)).map (dsum cs))).length = 2 ^ cs.length := by rw [List.length_map, List.length_map, List.length_range]
        refine for_list (xs := intsV ((List.range (2 ^ cs.length)).map (dsum cs))) (fun i σ H5 => ∃ row keys' o12 o13, σ = [some (.ref b), some (.int st), some (.bl ex), some (.ref su), o4, o5, o6, some (.ref la), some (.ref da), some (.ref ta), some (labV k), some (.ref rw), o12, o13] ∧
          enterF keys ((sucK ex cs k).take i) = some (row, keys') ∧ LbAt P w H5 la da ta keys' rl rows ∧ H5 rw = some (.lst (natsV row)) ∧ row.length = i ∧ (∀ x ∈ keys', LabK ex x) ∧ keys'.Nodup ∧ L2.Same H H5 ∧ H5 su = some (.lst (intsV ((List.range (2 ^ cs.length)).map (dsum cs)))))
          ⟨[], keys, _, _, rfl, rfl, L.same (same_upd nrw), upd_same, rfl, ks, S.nd, s4.trans (same_upd nrw), same_upd nrw _ _ hsu4⟩ (fun i σ H5 _ h => ?_) ?_ ?_
        · obtain ⟨_, _, _, _, _, _, _, _, _, _, _, _, h⟩ := h; exact SqL.of h
        · rintro i v σ H5 hx ⟨row, keys', o12', o13', rfl, e1, L5, hrw, hrl, hk', nd', s5, hsu5⟩
          obtain ⟨t, e2, rfl⟩ := map_at hx
          obtain ⟨a, e3, rfl⟩ := map_at e2
          have hai : a = i ∧ i < 2 ^ cs.length := by
            have hi := (List.getElem?_eq_some_iff.mp e3).1
            rw [List.length_range] at hi
            rw [List.getElem?_range hi] at e3
            exact ⟨(Option.some.inj e3).symm, hi⟩
          obtain ⟨rfl, hai⟩ := hai
          have esu := sucK_at (ex := ex) (cs := cs) (k := k) hai
          have lk2 := step_lab hc lk a
          obtain ⟨kt1, kt2, kt3⟩ := lk2.two
          have e4 : enterF keys ((sucK ex cs k).take (a + 1)) = match placeF keys' (stepK ex k (dsum cs a)) with
              | none => none
              | some (j, keys2) => some (row ++ [j], keys2) := by rw [take_snoc esu, enterF_snoc, e1] <;> rfl
          have kl22 := lab_len nd' hk'
          refine ⟨_, rfl, ex, rfl, ?_⟩
          have five : ∀ (rst : St → Hp → Prop), True := fun _ => trivial
          cases ex
          case' false =>
            obtain ⟨e, _⟩ | ⟨l0, rfl, _⟩ := lk
            · cases e
            refine (if_neg Bool.false_ne_true).mpr ?_
            refine ⟨_, rfl, _, rfl, _, _, rfl, l0, dsum cs a, rfl, rfl, ?_⟩
            have hom : Hom (plc 0 keys') (stepK false (.num l0) (dsum cs a)) := fun kv h => ((hk' _ (plc_keys _ _ _ h)).two.2.2).trans kt3.symm
            rw [show V.int ((l0 - dsum cs a) / 2) = labV (stepK false (.num l0) (dsum cs a)) from rfl]
            generalize stepK false (.num l0) (dsum cs a) = k2 at esu lk2 kt1 kt2 kt3 e4 hom ⊢
          case' true =>
            refine (if_pos rfl).mpr ?_
            refine ⟨_, rfl, _, rfl, _, _, rfl, k, dsum cs a, rfl, rfl, lk.two.1, ?_⟩
            have hom : Hom (plc 0 keys') (stepK true k (dsum cs a)) := fun kv h => ((hk' _ (plc_keys _ _ _ h)).two.2.2).trans kt3.symm
            generalize stepK true k (dsum cs a) = k2 at esu lk2 kt1 kt2 kt3 e4 hom ⊢
          all_goals
            refine ⟨_, rfl, _, rfl, da, _, rfl, ⟨_, k2, L5.dn, labAt kt1, kt2, hom, rfl⟩, _, rfl, ?_⟩
            rw [plc_val]
            have row64 : (natsV row).length ≤ 100 := by rw [List.length_map]; omega
            have darl : ∀ a, a ∈ rl → a ≠ da := fun a ha z => by
              obtain ⟨i, hi⟩ := List.mem_iff_getElem?.mp ha
              obtain ⟨_, _, g, _⟩ := L5.tr i a hi
              obtain ⟨φ, hd⟩ := L5.dn.some
              rw [z, hd] at g
              cases g
            by_cases hm : k2 ∈ keys'
            · rw [if_pos hm]
              have epl : placeF keys' k2 = some (keys'.idxOf k2, keys') := if_pos hm
              rw [epl] at e4
              refine ⟨_, rfl, .inl ⟨rfl, _, SqL.of hrw⟩, _, rfl, _, rfl, da, iV (keys'.idxOf k2), rfl, ⟨_, k2, L5.dn, labAt kt1, kt2, hom, ?_⟩, rw, _, _, rfl, rfl, hrw, by rw [sizeLine_eq]; omega, row ++ [keys'.idxOf k2], keys', _, _, rfl, e4, L5.but hrw (fun b o h ne => (upd_ne ne).trans h) larw tarw rwrl, ?_, by simp [hrl], hk', nd', same_upd2 s5 (s4.free nrw), ?_⟩
              · rw [plc_val, if_pos hm, Nat.zero_add]
              · rw [upd_same, natsV_app]; rfl
              · rw [upd_ne surw]; exact hsu5
            · rw [if_neg hm]
              obtain ⟨φ5, hda5⟩ := L5.dn.some
              have ell : (keys'.map labV).length = keys'.length := List.length_map _
              refine ⟨_, rfl, la, _, rfl, .inl (SqL.of L5.fl), _, rfl, _, rfl, da, rfl, _, k2, L5.dn, labAt kt1, kt2, hom, by rw [plc_val, if_neg hm], by rw [plc_len, sizeLine_eq]; omega, fun o' dn2 => ?_⟩
              have e3' : plc 0 (keys' ++ [k2]) = plc 0 keys' ++ [(k2, iV (keys'.map labV).length)] := by rw [plc_snoc, Nat.zero_add, ell]
              rw [← e3'] at dn2
              have lada : la ≠ da := ne_of L5.fl hda5 (fun z => by cases z)
              have tada : ta ≠ da := ne_of L5.tb hda5 (fun z => by cases z)
              have suda5 : su ≠ da := ne_of hsu5 hda5 (fun z => by cases z)
              have rwda : rw ≠ da := ne_of hrw hda5 (fun z => by cases z)
              have h6l : upd H5 da o' la = some (.lst (keys'.map labV)) := by rw [upd_ne lada]; exact L5.fl
              have h6t : upd H5 da o' ta = some (.lst (rl.map V.ref)) := by rw [upd_ne tada]; exact L5.tb
              have h6s : upd H5 da o' su = some (.lst (intsV ((List.range (2 ^ cs.length)).map (dsum cs)))) := by rw [upd_ne suda5]; exact hsu5
              have h6r : upd H5 da o' rw = some (.lst (natsV row)) := by rw [upd_ne rwda]; exact hrw
              have h6w : ∀ (i : Nat) (a : Addr), rl[i]? = some a → ∃ r, rows[i]? = some r ∧ upd H5 da o' a = some (.lst (natsV r)) ∧ a ≠ la ∧ a ≠ ta := fun i a e => by
                obtain ⟨r, g1, g2, g3⟩ := L5.tr i a e
                exact ⟨r, g1, by rw [upd_ne (darl a (List.mem_of_getElem? e))]; exact g2, g3⟩
              have s6 : L2.Same H (upd H5 da o') := same_upd2 s5 ndaH
              generalize upd H5 da o' = H6 at dn2 h6l h6t h6s h6r h6w s6 ⊢
              obtain ⟨φ6, hda6⟩ := dn2.some
              refine ⟨_, rfl, .inl ⟨rfl, _, SqL.of h6l⟩, _, rfl, la, _, _, rfl, rfl, h6l, by rw [ell, sizeLine_eq]; omega, ?_⟩
              have lasu : su ≠ la := sula
              have h7l : upd H6 la (.lst (keys'.map labV ++ [labV k2])) la = some (.lst ((keys' ++ [k2]).map labV)) := by rw [upd_same, List.map_append]; rfl
              have dn7 : DN P w (upd H6 la (.lst (keys'.map labV ++ [labV k2]))) da (plc 0 (keys' ++ [k2])) := dn2.keep (upd_ne lada.symm) fun b xs e => by rw [upd_ne (ne_of e h6l (fun z => by cases z))]; exact e
              have h7t : upd H6 la (.lst (keys'.map labV ++ [labV k2])) ta = some (.lst (rl.map V.ref)) := by rw [upd_ne L5.ne.symm]; exact h6t
              have h7s : upd H6 la (.lst (keys'.map labV ++ [labV k2])) su = some (.lst (intsV ((List.range (2 ^ cs.length)).map (dsum cs)))) := by rw [upd_ne sula]; exact h6s
              have h7r : upd H6 la (.lst (keys'.map labV ++ [labV k2])) rw = some (.lst (natsV row)) := by rw [upd_ne larw.symm]; exact h6r
              have h7w : ∀ (i : Nat) (a : Addr), rl[i]? = some a → ∃ r, rows[i]? = some r ∧ upd H6 la (.lst (keys'.map labV ++ [labV k2])) a = some (.lst (natsV r)) ∧ a ≠ la ∧ a ≠ ta := fun i a e => by
                obtain ⟨r, g1, g2, g3, g4⟩ := h6w i a e
                exact ⟨r, g1, by rw [upd_ne g3]; exact g2, g3, g4⟩
              have s7 : L2.Same H (upd H6 la (.lst (keys'.map labV ++ [labV k2]))) := same_upd2 s6 nlaH
              generalize upd H6 la (.lst (keys'.map labV ++ [labV k2])) = H7 at h7l dn7 h7t h7s h7r h7w s7 ⊢
              have L7 : LbAt P w H7 la da ta (keys' ++ [k2]) rl rows := ⟨h7l, dn7, h7t, L5.tl, h7w, L5.ne⟩
              have hom2 : Hom (plc 0 (keys' ++ [k2])) k2 := fun kv h => by
                rcases List.mem_append.mp (plc_keys _ _ _ h) with z | z
                · exact ((hk' _ z).two.2.2).trans kt3.symm
                · rw [List.mem_singleton.mp z]
              have hm2 : k2 ∈ keys' ++ [k2] := by simp
              have epl : placeF keys' k2 = some (keys'.length, keys' ++ [k2]) := by unfold placeF; rw [if_neg hm, if_pos (by omega)]
              have eix : (keys' ++ [k2]).idxOf k2 = keys'.length := by rw [List.idxOf_append, if_neg hm, List.idxOf_cons_self, Nat.zero_add]
              rw [epl] at e4
              refine ⟨_, rfl, .inl ⟨rfl, _, SqL.of h7r⟩, _, rfl, _, rfl, da, iV keys'.length, rfl, ⟨_, k2, dn7, labAt kt1, kt2, hom2, ?_⟩, rw, _, _, rfl, rfl, h7r, by rw [sizeLine_eq]; omega, row ++ [keys'.length], keys' ++ [k2], _, _, rfl, e4, L7.but h7r (fun b o h ne => (upd_ne ne).trans h) larw tarw rwrl, ?_, by simp [hrl], ?_, ?_, same_upd2 s7 (s4.free nrw), ?_⟩
              · rw [plc_val, if_pos hm2, Nat.zero_add, eix]
              · rw [upd_same, natsV_app]; rfl
              · intro x hx
                rcases List.mem_append.mp hx with z | z
                · exact hk' x z
                · rw [List.mem_singleton.mp z]; exact lk2
              · exact List.nodup_append.mpr ⟨nd', by simp, fun x hx y hy e => hm (by rw [List.mem_singleton.mp hy] at e; exact e ▸ hx)⟩
              · rw [upd_ne surw]; exact h7s
        · rintro σ H5 ⟨row, keys', o12', o13', rfl, e1, L5, hrw, hrl, hk', nd', s5, hsu5⟩
          rw [sl, show (sucK ex cs k).take (2 ^ cs.length) = sucK ex cs k from List.take_of_length_le (by unfold sucK; rw [List.length_map, List.length_range]; exact Nat.le_refl _)] at e1
          have rl22 : (rl.map V.ref).length ≤ 22 := by rw [rlen]; omega
          refine ⟨_, rfl, .inl ⟨rfl, _, SqL.of L5.tb⟩, _, rfl, ta, _, _, rfl, rfl, L5.tb, by rw [sizeLine_eq]; omega, ?_⟩
          have frw : rw ≠ ta := tarw.symm
          have rll : rl.length = rows.length := L.tl
          refine ⟨401 - (rows.length + 1), by omega, keys', rl ++ [rw], rows ++ [row], _, _, _, _, _, _, _, by rw [List.length_append]; rfl, rfl, ⟨?_, ?_, ?_, by simp [rll], fun i a e => ?_, L5.ne⟩, S.step ek e1, same_upd2 s5 ntaH, ?_, ?_⟩
          · rw [upd_ne L5.ne]; exact L5.fl
          · obtain ⟨φ, hd⟩ := L5.dn.some
            exact L5.dn.keep (upd_ne (ne_of hd L5.tb (fun z => by cases z))) fun b xs e => by rw [upd_ne (ne_of e L5.tb (fun z => by cases z))]; exact e
          · rw [upd_same, List.map_append]; rfl
          · by_cases hi : i < rl.length
            · rw [List.getElem?_append_left hi] at e
              obtain ⟨r, g1, g2, g3, g4⟩ := L5.tr i a e
              exact ⟨r, by rw [List.getElem?_append_left (by omega)]; exact g1, by rw [upd_ne g4]; exact g2, g3, g4⟩
            · rw [List.getElem?_append_right (by omega)] at e
              have hz : i - rl.length = 0 := by
                have := (List.getElem?_eq_some_iff.mp e).1
                simp at this
                omega
              rw [hz] at e
              cases e
              exact ⟨row, by rw [List.getElem?_append_right (by omega), show i - rows.length = 0 by omega]; rfl, by rw [upd_ne frw]; exact hrw, larw.symm, frw⟩
          · rw [upd_ne suta]; exact hsu5
          · intro hm
            rcases List.mem_append.mp hm with z | z
            · exact snr z
            · exact surw (List.mem_singleton.mp z)
      · refine ⟨false, dF (by rw [rlen, kl]; omega), ?_⟩
        have full : rows.length = keys.length := by omega
        refine ⟨_, rfl, la, _, rfl, .inl (SqL.of L.fl), _, _, rfl, rfl, false, dF (by rw [kl]; omega), _, rfl, _, rfl, by show 2 ≤ sizeLine; decide, fun t nt => ?_⟩
        have L6 := L.same (same_upd (o := .tup [.ref la, .ref ta]) nt)
        exact q _ t la ta keys rows (s4.trans (same_upd nt)) upd_same L6.fl ⟨rl, L6.tb, L6.tl, fun i a e => let ⟨r, f1, f2, _⟩ := L6.tr i a e; ⟨r, f1, f2⟩⟩ S full
def p_linear (K : PySem.W.Frag) (ex : Bool) : Q2 := fun _ x y H Q _ => ∃ (b : Addr) (cs : List Int) (c : Int), x = .ref b ∧ y = .int c ∧ H b = some (.lst (intsV cs)) ∧ cs.length ≤ 6 ∧ absS cs ≤ 9 ∧ -9 ≤ c ∧ c ≤ 9 ∧
  ∀ H' t p v m, L2.Same H H' → H' t = some (.tup [.ref p, v]) → NewM K H H' p m → m.Ok → m.w = cs.length → (∀ wd, Val cs.length wd → m.accs (m.run 0 wd) = linS ex (lval cs wd) c) → Q (.ref t) H'
theorem labV_z {ex : Bool} {k : NK} (h : LabK ex k) (e : ex = true) : (labV k = .int 0 ∧ markK true k = true) ∨ (labV k ≠ .int 0 ∧ markK true k = false) := by
  rcases h with ⟨_, rfl⟩ | ⟨l, rfl, _⟩
  · exact .inr ⟨(fun z => nomatch z), rfl⟩
  · by_cases h : l = 0
    · exact .inl ⟨by rw [h]; rfl, by rw [h]; rfl⟩
    · exact .inr ⟨intNe h, by rw [markT1]; exact decide_eq_false h⟩
theorem ok_equation (T : Txt P w K mg) : FnQ P w K mg base 5 (He.ga K "equation") 2 (Sp2 (p_linear K true)) := by
  refine fnQ2 T.F_equation sc_equation (fun _ _ _ _ _ _ us hl => match us, hl with | [_, _], _ => rfl) fun cdv A outer s H x y Q E l qa hr h => ?_
  obtain ⟨b, cs, c, rfl, rfl, hb, hn, hc, h1, h2, q⟩ := h
  refine ⟨_, (pss_cons (ps_asg (pe_callQ (ok_labelled T) (hr.mono (by omega)) (cxQ_quiet qa) T.g_labelled pass0 (pa_cons (pv 0) (pa_cons (pe_un un_neg (pv 1)) (pa_cons pe_bl pa_nil)))) (pg_tupQ (cxQ_quiet qa) (pgs_cons (pg_name (i := 2) sc_equation.nd rfl (Or.inl rfl)) (pgs_cons (pg_name (i := 3) sc_equation.nd rfl (Or.inl rfl)) pgs_nil))))
      (pss_cons (ps_setLcQ (i := 4) (own := [("label", 5)]) (g := gName 5) (tt := tYes) (cxQ_quiet qa) sc_equation.nd rfl rfl (sw_true rfl rfl rfl (by decide +kernel)) (piL (pv 2)) (blkOk_by (N := ["coefficients", "constant", "labels", "table", "accepting", "label"]) (sc := defScope s_equation) (by decide +kernel)) (fun _ _ _ _ hq => pg_name (i := 5) sc_equation.nd rfl (Or.inl rfl)) (fun _ _ _ _ hq => pts_nil) (fun _ _ _ _ hq hcm => (pe_cmpR op_eq (pv 5) pe_int (nomark _))))
      (pss_one (ps_ret (pe_tup (pa_cons (pe_makeQ T.k_Machine (ok_Machine_init T) (hr.mono (by omega)) (cxQ_quiet qa) T.g_Machine pass0 (pa_cons (pe_callB call_len_seq rfl T.free_len PySem.boot_len (pa_cons (pv 0) pa_nil)) (pa_cons (pv 3) (pa_cons (pv 4) pa_nil)))) (pa_cons (pv 2) pa_nil))))))), ?_⟩
  refine ⟨_, rfl, _, rfl, _, rfl, _, _, _, rfl, b, cs, -c, true, rfl, rfl, rfl, hb, hn, hc, by omega, by omega, fun H1 t la ta keys rows s1 ht hla tab S full => ?_⟩
  have ks := keysK hc (by omega) S
  have k22 := lab_len S.nd ks
  have lo := linear_ok hc hn ⟨h1, h2⟩ S full
  refine ⟨t, _, rfl, SqT.of ht, rfl, _, _, rfl, _, _, rfl, rfl, _, rfl, la, rfl, ⟨_, SqL.of hla⟩, fun D nD => ?_⟩
  refine lc_pureL (ys := (keys.map (markK true)).map V.bl) nD (SqL.of hla) (by simp) (by rw [List.length_map]; omega) (fun j x y acc2 k2 hx hy hk2 => ?_) gName_mono ?_
  · obtain ⟨kk, e1, rfl⟩ := map_at hx
    obtain ⟨bb, e2, rfl⟩ := map_at hy
    obtain ⟨kk', e3, rfl⟩ := map_at e2
    rw [e1] at e3
    cases e3
    rcases labV_z (ks _ (List.mem_of_getElem? e1)) rfl with ⟨h1, h2⟩ | ⟨h1, h2⟩
    · rw [h2] at hk2
      exact ⟨rfl, _, rfl, by cases kk <;> rfl, by rw [decide_eq_true h1]; exact hk2⟩
    · rw [h2] at hk2
      exact ⟨rfl, _, rfl, by cases kk <;> rfl, by rw [decide_eq_false h1]; exact hk2⟩
  · have hD5 : upd H1 D (.lst ((keys.map (markK true)).map V.bl)) D = some (.lst ((keys.map (markK true)).map V.bl)) := upd_same
    have s5 : L2.Same H1 (upd H1 D (.lst ((keys.map (markK true)).map V.bl))) := same_upd nD
    generalize upd H1 D (.lst ((keys.map (markK true)).map V.bl)) = H5 at hD5 s5 ⊢
    have sA := s1.trans s5
    have tab5 : TabAt H5 ta rows := tab.same fun b xs e => s5 _ _ e
    refine ⟨_, rfl, b, _, rfl, .inl (SqL.of (sA _ _ hb)), _, rfl, _, rfl, fun x dxm nx ndx _ => ?_⟩
    rw [show (intsV cs).length = cs.length from List.length_map _]
    refine make_machine (m := ⟨cs.length, rows, keys.map (markK true)⟩) nx ndx lo.1 tab5 hD5 fun H7 nm s7 => ⟨rfl, _, rfl, by show 2 ≤ sizeLine; decide, fun t2 nt => ?_⟩
    exact q _ t2 x (.ref la) ⟨cs.length, rows, keys.map (markK true)⟩ ((sA.trans s7).trans (same_upd nt)) upd_same ((nm.same (same_upd nt)).old sA) lo.1 rfl lo.2
theorem ok_at_most (T : Txt P w K mg) : FnQ P w K mg base 5 (He.ga K "at_most") 2 (Sp2 (p_linear K false)) := by
  refine fnQ2 T.F_at_most sc_at_most (fun _ _ _ _ _ _ us hl => match us, hl with | [_, _], _ => rfl) fun cdv A outer s H x y Q E l qa hr h => ?_
  obtain ⟨b, cs, c, rfl, rfl, hb, hn, hc, h1, h2, q⟩ := h
  refine ⟨_, (pss_cons (ps_asg (pe_callQ (ok_labelled T) (hr.mono (by omega)) (cxQ_quiet qa) T.g_labelled pass0 (pa_cons (pv 0) (pa_cons (pe_un un_neg (pv 1)) (pa_cons pe_bl pa_nil)))) (pg_tupQ (cxQ_quiet qa) (pgs_cons (pg_name (i := 2) sc_at_most.nd rfl (Or.inl rfl)) (pgs_cons (pg_name (i := 3) sc_at_most.nd rfl (Or.inl rfl)) pgs_nil))))
      (pss_cons (ps_setLcQ (i := 4) (own := [("label", 5)]) (g := gName 5) (tt := tYes) (cxQ_quiet qa) sc_at_most.nd rfl rfl (sw_true rfl rfl rfl (by decide +kernel)) (piL (pv 2)) (blkOk_by (N := ["coefficients", "constant", "labels", "table", "accepting", "label"]) (sc := defScope s_at_most) (by decide +kernel)) (fun _ _ _ _ hq => pg_name (i := 5) sc_at_most.nd rfl (Or.inl rfl)) (fun _ _ _ _ hq => pts_nil) (fun _ _ _ _ hq hcm => (pe_cmpR op_ge (pv 5) pe_int (nomark _))))
      (pss_one (ps_ret (pe_tup (pa_cons (pe_makeQ T.k_Machine (ok_Machine_init T) (hr.mono (by omega)) (cxQ_quiet qa) T.g_Machine pass0 (pa_cons (pe_callB call_len_seq rfl T.free_len PySem.boot_len (pa_cons (pv 0) pa_nil)) (pa_cons (pv 3) (pa_cons (pv 4) pa_nil)))) (pa_cons (pv 2) pa_nil))))))), ?_⟩
  refine ⟨_, rfl, _, rfl, _, rfl, _, _, _, rfl, b, cs, -c, false, rfl, rfl, rfl, hb, hn, hc, by omega, by omega, fun H1 t la ta keys rows s1 ht hla tab S full => ?_⟩
  have ks := keysK hc (by omega) S
  have k22 := lab_len S.nd ks
  have lo := linear_ok hc hn ⟨h1, h2⟩ S full
  refine ⟨t, _, rfl, SqT.of ht, rfl, _, _, rfl, _, _, rfl, rfl, _, rfl, la, rfl, ⟨_, SqL.of hla⟩, fun D nD => ?_⟩
  refine lc_pureL (ys := (keys.map (markK false)).map V.bl) nD (SqL.of hla) (by simp) (by rw [List.length_map]; omega) (fun j x y acc2 k2 hx hy hk2 => ?_) gName_mono ?_
  · obtain ⟨kk, e1, rfl⟩ := map_at hx
    obtain ⟨bb, e2, rfl⟩ := map_at hy
    obtain ⟨kk', e3, rfl⟩ := map_at e2
    rw [e1] at e3
    cases e3
    rcases ks _ (List.mem_of_getElem? e1) with ⟨z, _⟩ | ⟨l0, rfl, _⟩
    · cases z
    · by_cases h : 0 ≤ l0
      · rw [show markK false (.num l0) = true by show decide (0 ≤ l0) = true; exact decide_eq_true h] at hk2
        exact ⟨rfl, _, rfl, _, _, rfl, rfl, by show k2 (V.bl (decide (0 ≤ l0))) _; rw [decide_eq_true h]; exact hk2⟩
      · rw [show markK false (.num l0) = false by show decide (0 ≤ l0) = false; exact decide_eq_false h] at hk2
        exact ⟨rfl, _, rfl, _, _, rfl, rfl, by show k2 (V.bl (decide (0 ≤ l0))) _; rw [decide_eq_false h]; exact hk2⟩
  · have hD5 : upd H1 D (.lst ((keys.map (markK false)).map V.bl)) D = some (.lst ((keys.map (markK false)).map V.bl)) := upd_same
    have s5 : L2.Same H1 (upd H1 D (.lst ((keys.map (markK false)).map V.bl))) := same_upd nD
    generalize upd H1 D (.lst ((keys.map (markK false)).map V.bl)) = H5 at hD5 s5 ⊢
    have sA := s1.trans s5
    have tab5 : TabAt H5 ta rows := tab.same fun b xs e => s5 _ _ e
    refine ⟨_, rfl, b, _, rfl, .inl (SqL.of (sA _ _ hb)), _, rfl, _, rfl, fun x dxm nx ndx _ => ?_⟩
    rw [show (intsV cs).length = cs.length from List.length_map _]
    refine make_machine (m := ⟨cs.length, rows, keys.map (markK false)⟩) nx ndx lo.1 tab5 hD5 fun H7 nm s7 => ⟨rfl, _, rfl, by show 2 ≤ sizeLine; decide, fun t2 nt => ?_⟩
    exact q _ t2 x (.ref la) ⟨cs.length, rows, keys.map (markK false)⟩ ((sA.trans s7).trans (same_upd nt)) upd_same ((nm.same (same_upd nt)).old sA) lo.1 rfl lo.2
end
end K36
/-! K36Q12: all where an exception may be in hand -/
namespace K36
open PySem PySem.Spec PyProof.Rows L2 HotX
section
variable {X : Cx}
theorem cr_allQ (hq : Quiet X) : CallR X (.builtin "all") (rAll X.K) := by
  rintro pins s σ H vs us Q I r ⟨a, bs, rfl, hs, q⟩
  obtain ⟨its, rv, hl, _⟩ := I.list hs
  rw [Vals.ref1 r]
  have hb := rv.bls
  obtain ⟨l, qa, pin, _⟩ := hq.at_ I
  refine call_all_walk (iter_any hl.isList fun s₂ e2 st hne => ?_)
  subst e2
  refine ⟨_, _, _, _, _, _, _, rfl, walkLQ (A := X.A.in1) qa.in1 _ a hne (pin_new pin) its.toArray, ⟨st.1, st.2, pin.keep fun b o e => Heap.get?_push_of_some _ e⟩, truth_bools hb, fun h' tk hk => ?_⟩
  refine ⟨.bl _, H, I.kept fun b o eo => hk b o (fun hm => ?_) (Heap.get?_push_of_some _ eo), ?_, q⟩
  · exact absurd (List.mem_singleton.mp hm ▸ Heap.lt_size eo) (Nat.lt_irrefl _)
  · show Value.bool _ = Value.bool _
    rw [← L2.all_range, hb, List.size_toArray, List.length_map]
theorem isI {K : PySem.W.Frag} {H : Hp} {i : Int} {b : Bool} {n : String} {Q : VK} (e : kitB "int" n = some b) (q : Q (.bl b) H) : rIsi K [.int i, .ty n] H Q := ⟨_, _, _, _, b, rfl, .ty n, .base (.int i), kit_ty e, q⟩
theorem isL {K : PySem.W.Frag} {H : Hp} {a : Addr} {xs : List V} {Q : VK} (h : H a = some (.lst xs)) (q : Q (.bl true) H) : rIsi K [.ref a, .ty "list"] H Q := ⟨_, _, _, _, true, rfl, .ty _, .base (.lst h), kit_ty (by decide +kernel), q⟩
/-- the call of a local that holds one of two defs -/
def tCallV (c : Bool) (f1 f2 : Addr) (sp1 sp2 : SpQ) (E : XK) (tv : TE) (t : TA) : TE := fun σ H Q => tv σ H fun v H1 => (v = .ref f1 ∧ tCallQ c sp1 E t σ H1 Q) ∨ (v = .ref f2 ∧ tCallQ c sp2 E t σ H1 Q)
theorem pe_callVQ {x : Str} {q pos : Pos} {e : Expr} {es : List Expr} {t : TA} {tv : TE} {k n : Nat} {f1 f2 : Addr} {sp1 sp2 : SpQ} {E : XK} (F1 : FnQ X.prog X.w X.K X.mg X.base k f1 n sp1) (F2 : FnQ X.prog X.w X.K X.mg X.base k f2 n sp2) (hr : RoomQ k X.A) (hq : Quiet X) (hx : PassQ X E) (hv : PE X (.Name x q) tv) (ha : PA X (e :: es) t)
    (he : starEach (e :: es) X.env = (false, eval e X.env) :: starEach es X.env := by rfl) (hpl : (backTo pos (starEach es X.env)).any (·.1) = false := by rfl) : PE X (.Call (.Name x q) (e :: es) [] pos) (tCallV X.calm f1 f2 sp1 sp2 E tv t) := by
  refine ⟨fun pins s σ H Q I h => wpAny_Call_Name_kw (thn (hv.run pins s σ H _ I h) fun v s1 ⟨y, H1, I1, r, hh⟩ => ?_)⟩
  rcases hh with ⟨e1, z⟩ | ⟨e1, z⟩
  · subst e1
    cases r
    exact PySem.W.callWith_K (h₀ := X.base) I1.ok.mod.kin F1.kp (thn (ha.run pos pins s1 σ H1 _ I1 z) fun us s2 ⟨vs, H2, I2, r2, z2⟩ => ⟨I2.kIn, run_fnQ F1 hr hq hx I2 r2 z2⟩) he hpl
  · subst e1
    cases r
    exact PySem.W.callWith_K (h₀ := X.base) I1.ok.mod.kin F2.kp (thn (ha.run pos pins s1 σ H1 _ I1 z) fun us s2 ⟨vs, H2, I2, r2, z2⟩ => ⟨I2.kIn, run_fnQ F2 hr hq hx I2 r2 z2⟩) he hpl
end
end K36
/-! K36W10: words told by states, the powers of two -/
namespace K36
open PySem PySem.Spec PyProof.Rows L2 HotX
structure Tl where
  outs : List Nat
  tab : List (List Nat)
def Tl.st (t : Tl) (s a : Nat) : Nat := (t.tab.getD s []).getD a 0
structure Tl.Ok (t : Tl) : Prop where
  pos : 0 < t.outs.length
  small : t.outs.length ≤ 40
  out9 : ∀ x ∈ t.outs, x ≤ 9
  tlen : t.tab.length = t.outs.length
  rows : ∀ r ∈ t.tab, r.length = 2 ∧ ∀ x ∈ r, x < t.outs.length
  sett : ∀ s, s < t.outs.length → t.outs.getD (t.st s 0) 0 = t.outs.getD s 0
def Tl.m (t : Tl) (o : Nat) : M := ⟨1, t.tab, t.outs.map fun x => decide (x = o)⟩
theorem Tl.Ok.st_lt {t : Tl} (h : t.Ok) {s a : Nat} : t.st s a < t.outs.length := by
  unfold Tl.st
  cases e : t.tab[s]? with
  | none => simp [List.getD, e]; exact h.pos
  | some r =>
    have hr := h.rows r (List.mem_of_getElem? e)
    simp only [List.getD, e, Option.getD_some]
    cases h2 : r[a]? with
    | none => exact h.pos
    | some x => exact hr.2 x (List.mem_of_getElem? h2)
theorem Tl.Ok.st_at {t : Tl} (h : t.Ok) {s a : Nat} (hs : s < t.outs.length) (ha : a < 2) : ∃ r, t.tab[s]? = some r ∧ r[a]? = some (t.st s a) := by
  have e : t.tab[s]? = some (t.tab[s]'(by rw [h.tlen]; exact hs)) := List.getElem?_eq_getElem _
  have hr := h.rows _ (List.mem_of_getElem? e)
  refine ⟨_, e, ?_⟩
  have ha' : a < (t.tab[s]'(by rw [h.tlen]; exact hs)).length := by rw [hr.1]; exact ha
  unfold Tl.st
  rw [List.getD_eq_getElem?_getD, List.getD_eq_getElem?_getD, e]
  show _ = some (((t.tab[s]'(by rw [h.tlen]; exact hs))[a]?).getD 0)
  rw [List.getElem?_eq_getElem ha']
  rfl
theorem Tl.Ok.out_at {t : Tl} (h : t.Ok) {s : Nat} (hs : s < t.outs.length) : t.outs[s]? = some (t.outs.getD s 0) := getD_at hs
theorem Tl.accs {t : Tl} (h : t.Ok) {o s : Nat} (hs : s < t.outs.length) : (t.m o).accs s = decide (t.outs.getD s 0 = o) := by
  unfold M.accs Tl.m
  rw [List.getD_eq_getElem?_getD, List.getElem?_map, h.out_at hs]
  rfl
theorem Tl.m_ok {t : Tl} (h : t.Ok) (o : Nat) : (t.m o).Ok where
  w6 := by show 1 ≤ 6; decide
  pos := by show 0 < t.tab.length; rw [h.tlen]; exact h.pos
  small := by show t.tab.length ≤ 400; have := h.small; rw [h.tlen]; omega
  alen := by show (t.outs.map _).length = t.tab.length; rw [List.length_map, h.tlen]
  rows := fun r hr => ⟨(h.rows r hr).1, fun x hx => by show x < t.tab.length; rw [h.tlen]; exact (h.rows r hr).2 x hx⟩
  sett := fun s hs => by
    have hs' : s < t.outs.length := by rw [← h.tlen]; exact hs
    rw [show (t.m o).st s 0 = t.st s 0 from rfl, Tl.accs h hs', Tl.accs h h.st_lt, h.sett s hs']
def tf (oa ta : Addr) : List (Str × V) := [("outputs", .ref oa), ("table", .ref ta)]
theorem tf_put (oa ta : Addr) : putF "table" (V.ref ta) (putF "outputs" (V.ref oa) []) = tf oa ta := by
  rw [show putF "outputs" (V.ref oa) [] = [(("outputs" : Str), V.ref oa)] from rfl, putF_ne (by decide +kernel)]
  rfl
theorem tf_outs (oa ta : Addr) : (tf oa ta).lookup ("outputs" : Str) = some (.ref oa) := by rw [← tf_put, lookup_putF, if_neg (by decide +kernel), lookup_putF, if_pos rfl]
theorem tf_table (oa ta : Addr) : (tf oa ta).lookup ("table" : Str) = some (.ref ta) := by rw [← tf_put, lookup_putF, if_pos rfl]
theorem tf_no (oa ta : Addr) {f : Str} (h1 : ¬ f = "outputs") (h2 : ¬ f = "table") : (tf oa ta).lookup f = none := by
  rw [← tf_put, lookup_putF, if_neg h2, lookup_putF, if_neg h1]
  rfl
def ToldAt (K : PySem.W.Frag) (H : Hp) (p : Addr) (t : Tl) : Prop := ∃ dx oa ta, H p = some (.ins (He.ga K "Told") dx (tf oa ta)) ∧ H oa = some (.lst (natsV t.outs)) ∧ TabAt H ta t.tab
theorem ToldAt.same {K : PySem.W.Frag} {H H' : Hp} {p : Addr} {t : Tl} (s : L2.Same H H') (h : ToldAt K H p t) : ToldAt K H' p t := by
  obtain ⟨dx, oa, ta, h1, h2, h3⟩ := h
  exact ⟨dx, oa, ta, s _ _ h1, s _ _ h2, h3.same fun b xs e => s _ _ e⟩
/-- a heap that changed at dicts only -/
theorem ToldAt.fx {K : PySem.W.Frag} {S : List Addr} {H H' : Hp} {p : Addr} {t : Tl} (f : Fx S H H') (n : ∀ b ∈ S, (∀ xs, H b ≠ some (.lst xs)) ∧ ∀ C dx fs, H b ≠ some (.ins C dx fs)) (h : ToldAt K H p t) : ToldAt K H' p t := by
  obtain ⟨dx, oa, ta, h1, h2, h3⟩ := h
  have k : ∀ b xs, H b = some (.lst xs) → H' b = some (.lst xs) := fun b xs e => f.keep b _ e fun z => (n b z).1 xs e
  exact ⟨dx, oa, ta, f.keep _ _ h1 fun z => (n _ z).2 _ _ _ h1, k _ _ h2, h3.same k⟩
section
variable {P : Program} {w : World} {K : PySem.W.Frag} {mg : Str → Option Value} {base : Heap}
def p_is_output : Q1 := fun _ a H Q _ => ∃ n : Nat, a = iV n ∧ n ≤ 9 ∧ Q (.bl true) H
theorem ok_is_output (T : Txt P w K mg) : FnQ P w K mg base 1 (He.ga K "is_output") 1 (Sp1 p_is_output) := by
  refine fnQ1 T.F_is_output sc_is_output (fun _ _ _ _ _ _ us hl => match us, hl with | [_], _ => rfl) fun cdv A outer s H a Q E l qa hr h => ?_
  obtain ⟨n, rfl, hn, q⟩ := h
  refine ⟨_, (pss_one (ps_ret (pe_and (pe_callB call_isi rfl T.free_isinstance (by decide +kernel) (pa_cons (pv 0) (pa_cons (pe_bltn (v := .ty "int") rfl T.free_int (by decide +kernel) rfl) pa_nil))) (pe_and (pe_not (pe_callB call_isi rfl T.free_isinstance (by decide +kernel) (pa_cons (pv 0) (pa_cons (pe_bltn (v := .ty "bool") rfl T.free_bool (by decide +kernel) rfl) pa_nil)))) (pe_one (pe_chain op_le op_le pe_int (pv 0) (pe_glob (v := .int 9) rfl T.i_MOST.choose_spec ⟨_, rfl⟩))))))), ?_⟩
  refine ⟨_, rfl, _, _, _, _, true, rfl, .ty "int", .base (.int _), kit_ty (by decide +kernel), true, rfl, ?_⟩
  refine ⟨_, rfl, _, _, _, _, false, rfl, .ty "bool", .base (.int _), kit_ty (by decide +kernel), false, rfl, true, rfl, ?_⟩
  refine ⟨_, rfl, _, _, rfl, rfl, true, dT (Int.natCast_nonneg _), _, _, rfl, rfl, ?_⟩
  exact qb (Q := Q) (decide_eq_true (by omega)) q
def p_is_row : Q2 := fun _ a b H Q _ => ∃ (r : Addr) (xs : List Nat) (n : Nat), a = .ref r ∧ b = iV n ∧ H r = some (.lst (natsV xs)) ∧ xs.length = 2 ∧ (∀ x ∈ xs, x < n) ∧ Q (.bl true) H
theorem ok_is_row (T : Txt P w K mg) : FnQ P w K mg base 1 (He.ga K "is_row") 2 (Sp2 p_is_row) := by
  refine fnQ2 T.F_is_row sc_is_row (fun _ _ _ _ _ _ us hl => match us, hl with | [_, _], _ => rfl) fun cdv A outer s H a b Q E l qa hr h => ?_
  obtain ⟨r, xs, n, rfl, rfl, hr1, h2, hx, q⟩ := h
  refine ⟨_, (pss_cons (ps_if (PW.pt (pw_or (pt_not (pt_val (pe_callB call_isi rfl T.free_isinstance (by decide +kernel) (pa_cons (pv 0) (pa_cons (pe_bltn (v := .ty "list") rfl T.free_list (by decide +kernel) rfl) pa_nil))))) (pw_or1 (pt_cmpR op_ne (pe_callB call_len_seq rfl T.free_len PySem.boot_len (pa_cons (pv 0) pa_nil)) pe_int (nomark _))))) (pss_one (ps_ret pe_bl)) pss_nil)
      (pss_cons (ps_forQ PassesOwn.leaving (cxQ_quiet qa) (piL (pv 0)) (pg_name (i := 2) sc_is_row.nd rfl (Or.inl rfl)) (pss_one (ps_if (PW.pt (pw_or (pt_not (pt_val (pe_callB call_isi rfl T.free_isinstance (by decide +kernel) (pa_cons (pv 2) (pa_cons (pe_bltn (v := .ty "int") rfl T.free_int (by decide +kernel) rfl) pa_nil))))) (pw_or (pt_val (pe_callB call_isi rfl T.free_isinstance (by decide +kernel) (pa_cons (pv 2) (pa_cons (pe_bltn (v := .ty "bool") rfl T.free_bool (by decide +kernel) rfl) pa_nil)))) (pw_or1 (pt_not (pt_chain op_le op_lt pe_int (pv 2) (pv 1))))))) (pss_one (ps_ret pe_bl)) pss_nil)))
      (pss_one (ps_ret pe_bl)))), ?_⟩
  refine ⟨_, rfl, _, _, _, _, true, rfl, .ty "list", .base (.lst hr1), kit_ty (by decide +kernel), true, rfl, _, rfl, r, _, rfl, .inl (SqL.of hr1), rfl, false, nF (by rw [List.length_map, h2]; rfl), ?_⟩
  refine ⟨_, rfl, r, rfl, ⟨_, SqL.of hr1⟩, ?_⟩
  refine for_list (xs := natsV xs) (fun i σ H1 => H1 = H ∧ ∃ o, σ = [some (.ref r), some (iV n), o]) ⟨rfl, _, rfl⟩ (fun i σ H1 _ h => by rw [h.1]; exact SqL.of hr1) ?_ ?_
  · rintro i x σ H1 hi ⟨rfl, o, rfl⟩
    obtain ⟨k, hk, rfl⟩ := map_at hi
    have hkn := hx k (List.mem_of_getElem? hk)
    refine ⟨_, rfl, _, _, _, _, true, rfl, .ty "int", .base (.int _), kit_ty (by decide +kernel), true, rfl, _, rfl, _, _, _, _, false, rfl, .ty "bool", .base (.int _), kit_ty (by decide +kernel), false, rfl, _, rfl, _, _, rfl, rfl, true, dT (Int.natCast_nonneg _), _, rfl, _, _, rfl, rfl, true, dT (by omega), rfl, _, rfl⟩
  · rintro σ H1 ⟨rfl, o, rfl⟩
    exact q

theorem tru_list {xs : List V} (h : 0 < xs.length) : true = !xs.isEmpty := by
  cases xs with
  | nil => cases h
  | cons _ _ => rfl
def p_Told_init : Q3 := fun _ self a b H Q _ => ∃ (p dx oa ta : Addr) (t : Tl), self = .ref p ∧ a = .ref oa ∧ b = .ref ta ∧ t.Ok ∧ H p = some (.ins (He.ga K "Told") dx []) ∧ H oa = some (.lst (natsV t.outs)) ∧ TabAt H ta t.tab ∧
  ∀ H', ToldAt K H' p t → (∀ b o, H b = some o → b ≠ p → H' b = some o) → Q .non H'
theorem ok_Told_init (T : Txt P w K mg) : FnQ P w K mg base 3 (He.ma K (He.ga K "Told") "__init__") 3 (Sp3 (p_Told_init (K := K))) := by
  refine fnQ3 T.F_Told_init sc_Told_init (fun _ _ _ _ _ _ us hl => match us, hl with | [_, _, _], _ => rfl) fun cdv A outer s H self a b Q E l qa hr h => ?_
  obtain ⟨p, dx, oa, ta, t, rfl, rfl, rfl, ok, hp, hoa, ht, q⟩ := h
  obtain ⟨ls, h1, h2, h3⟩ := id ht
  have pos := ok.pos
  have sm := ok.small
  have tlen := ok.tlen
  have ol : (natsV t.outs).length = t.outs.length := List.length_map _
  have tl : (ls.map V.ref).length = t.outs.length := by rw [List.length_map, h2, tlen]
  refine ⟨_, (pss_cons (ps_if (PW.pt (pw_or (pt_not (pt_truth (pv 1) (by intro _; rfl))) (pw_or1 (pt_not (pt_val (pe_callB (cr_allQ (cxQ_quiet qa)) rfl T.free_all (by decide +kernel) (pa_cons (pe_lcQ (own := [("output", 3)]) (g := gName 3) (tt := tYes) (cxQ_quiet qa) sc_Told_init.nd (piL (pv 1)) (blkOk_by (N := ["self", "outputs", "table", "output", "row", "state"]) (sc := defScope s_Told_init) (by decide +kernel)) (fun _ _ _ _ hq => pg_name (i := 3) sc_Told_init.nd rfl (Or.inl rfl)) (fun _ _ _ _ hq => pts_nil) (fun _ _ _ _ hq hcm => (pe_callK (c := l.isEmpty) (ok_is_output T) (hr.mono (by omega)) hq T.g_is_output pass0 (pa_cons (pv 3) pa_nil) hcm))) pa_nil))))))) pss_never pss_nil)
      (pss_cons (ps_if (PW.pt (pw_or (pt_cmpR op_ne (pe_callB call_len_seq rfl T.free_len PySem.boot_len (pa_cons (pv 2) pa_nil)) (pe_callB call_len_seq rfl T.free_len PySem.boot_len (pa_cons (pv 1) pa_nil)) (nomark _)) (pw_or1 (pt_not (pt_val (pe_callB (cr_allQ (cxQ_quiet qa)) rfl T.free_all (by decide +kernel) (pa_cons (pe_lcQ (own := [("row", 4)]) (g := gName 4) (tt := tYes) (cxQ_quiet qa) sc_Told_init.nd (piL (pv 2)) (blkOk_by (N := ["self", "outputs", "table", "output", "row", "state"]) (sc := defScope s_Told_init) (by decide +kernel)) (fun _ _ _ _ hq => pg_name (i := 4) sc_Told_init.nd rfl (Or.inl rfl)) (fun _ _ _ _ hq => pts_nil) (fun _ _ _ _ hq hcm => (pe_callK (c := l.isEmpty) (ok_is_row T) (hr.mono (by omega)) hq T.g_is_row pass0 (pa_cons (pv 4) (pa_cons (pe_callB (len_seqK (K := K)) rfl T.free_len PySem.boot_len (pa_cons (pv 1) pa_nil)) pa_nil)) hcm))) pa_nil))))))) pss_never pss_nil)
      (pss_cons (ps_if (pt_cmpR op_gt (pe_callB call_len_seq rfl T.free_len PySem.boot_len (pa_cons (pv 1) pa_nil)) (pe_glob (v := .int 40) rfl T.i_MAX_STATES_told.choose_spec ⟨_, rfl⟩) (nomark _)) pss_never pss_nil)
      (pss_cons (ps_forQ PassesOwn.leaving (cxQ_quiet qa) (piR1 rfl T.free_range (pa_cons (pe_callB call_len_seq rfl T.free_len PySem.boot_len (pa_cons (pv 1) pa_nil)) pa_nil)) (pg_name (i := 5) sc_Told_init.nd rfl (Or.inl rfl)) (pss_one (ps_if (pt_cmpR op_ne (pe_ix ix_list (pv 1) (pe_ix ix_list (pe_ix ix_list (pv 2) (pv 5) (fun _ _ => rfl)) pe_int (fun _ _ => rfl)) (fun _ _ => rfl)) (pe_ix ix_list (pv 1) (pv 5) (fun _ _ => rfl)) (nomark _)) pss_never pss_nil)))
      (pss_cons (ps_fld (pv 0) (pe_callTy call_list_of rfl T.free_list (by decide +kernel) (pa_cons (pv 1) pa_nil)) rfl)
      (pss_one (ps_fld (pv 0) (pe_lcQ (own := [("row", 4)]) (g := gName 4) (tt := tYes) (cxQ_quiet qa) sc_Told_init.nd (piL (pv 2)) (blkOk_by (N := ["self", "outputs", "table", "output", "row", "state"]) (sc := defScope s_Told_init) (by decide +kernel)) (fun _ _ _ _ hq => pg_name (i := 4) sc_Told_init.nd rfl (Or.inl rfl)) (fun _ _ _ _ hq => pts_nil) (fun _ _ _ _ hq hcm => (pe_callTy (list_ofK (K := K)) rfl T.free_list (by decide +kernel) (pa_cons (pv 4) pa_nil)))) rfl))))))), ?_⟩
  refine ⟨_, rfl, true, .inl ⟨_, SqL.of hoa, tru_list (by rw [ol]; exact pos)⟩, ?_⟩
  refine ⟨_, rfl, oa, rfl, ⟨_, SqL.of hoa⟩, fun D nD => ?_⟩
  refine lc_pureL (ys := (t.outs.map fun _ => true).map V.bl) nD (SqL.of hoa) (by simp) (by rw [ol]; omega) (fun j x y acc2 k2 hx hy hk2 => ?_) gName_mono ?_
  · obtain ⟨n, e1, rfl⟩ := map_at hx
    obtain ⟨b, e2, rfl⟩ := map_at hy
    obtain ⟨n', e3, rfl⟩ := map_at e2
    exact ⟨rfl, _, rfl, _, rfl, n, rfl, ok.out9 n (List.mem_of_getElem? e1), hk2⟩
  have s1 : L2.Same H (upd H D (.lst ((t.outs.map fun _ => true).map V.bl))) := same_upd nD
  refine ⟨D, t.outs.map fun _ => true, rfl, SqL.of upd_same, true, congrArg V.bl (by simp), ?_⟩
  generalize upd H D (.lst ((t.outs.map fun _ => true).map V.bl)) = H1 at s1 ⊢
  refine ⟨_, rfl, ta, _, rfl, .inl (SqL.of (s1 _ _ h1)), _, rfl, oa, _, rfl, .inl (SqL.of (s1 _ _ hoa)), rfl, false, nF (by rw [tl, ol]), ?_⟩
  refine ⟨_, rfl, ta, rfl, ⟨_, SqL.of (s1 _ _ h1)⟩, fun D2 nD2 => ?_⟩
  refine lc_pureL (ys := (t.outs.map fun _ => true).map V.bl) nD2 (SqL.of (s1 _ _ h1)) (by rw [tl]; simp) (by rw [tl]; omega) (fun j x y acc2 k2 hx hy hk2 => ?_) gName_mono ?_
  · obtain ⟨ra, e1, rfl⟩ := map_at hx
    obtain ⟨b, e2, rfl⟩ := map_at hy
    obtain ⟨n', e3, rfl⟩ := map_at e2
    obtain ⟨r, e4, e5⟩ := h3 j ra e1
    have hr := ok.rows r (List.mem_of_getElem? e4)
    have s2 : L2.Same H1 (upd H1 D2 (.lst acc2)) := same_upd nD2
    exact ⟨rfl, _, rfl, _, rfl, oa, _, rfl, .inl (SqL.of (s2 _ _ (s1 _ _ hoa))), _, _, rfl, ra, r, t.outs.length, rfl, by rw [ol], s2 _ _ (s1 _ _ e5), hr.1, hr.2, hk2⟩
  have s2 : L2.Same H1 (upd H1 D2 (.lst ((t.outs.map fun _ => true).map V.bl))) := same_upd nD2
  refine ⟨D2, t.outs.map fun _ => true, rfl, SqL.of upd_same, true, congrArg V.bl (by simp), ?_⟩
  generalize upd H1 D2 (.lst ((t.outs.map fun _ => true).map V.bl)) = H2 at s2 ⊢
  have sA := s1.trans s2
  have hoa2 := sA _ _ hoa
  have h12 := sA _ _ h1
  have ht2 := ht.same fun b xs e => sA _ _ e
  refine ⟨_, rfl, oa, _, rfl, .inl (SqL.of hoa2), _, _, rfl, rfl, false, dF (by rw [ol]; omega), ?_⟩
  refine ⟨_, rfl, oa, _, rfl, .inl (SqL.of hoa2), _, rfl, by omega, by rw [ol]; omega, ?_⟩
  refine for_range (fun i σ H3 => H3 = H2 ∧ ∃ o1 o2 o3, σ = [some (.ref p), some (.ref oa), some (.ref ta), o1, o2, o3]) ⟨rfl, _, _, _, rfl⟩ ?_ ?_
  · rintro i σ H3 hi ⟨rfl, o1, o2, o3, rfl⟩
    have hi : i < t.outs.length := by rw [← ol]; simpa using hi
    obtain ⟨r, hr1, hr2⟩ := ok.st_at hi (by decide : 0 < 2)
    obtain ⟨ls', ra, g1, g2, g3⟩ := ht2.row hr1
    have hst := ok.st_lt (s := i) (a := 0)
    have a1 : (natsV t.outs)[i]? = some (iV (t.outs.getD i 0)) := by rw [List.getElem?_map, ok.out_at hi]; rfl
    have a2 : (natsV t.outs)[t.st i 0]? = some (iV (t.outs.getD (t.st i 0) 0)) := by rw [List.getElem?_map, ok.out_at hst]; rfl
    have r1 : (natsV r)[0]? = some (iV (t.st i 0)) := by rw [List.getElem?_map, hr2]; rfl
    rw [Int.zero_add]
    refine ⟨_, rfl, _, rfl, _, rfl, ta, _, _, _, rfl, rfl, SqL.of g1, atI_nat g2, ra, _, _, _, rfl, rfl, SqL.of g3, atI_nat (j := 0) r1, oa, _, _, _, rfl, rfl, SqL.of hoa2, atI_nat a2, _, rfl, _, rfl, oa, _, _, _, rfl, rfl, SqL.of hoa2, atI_nat a1, rfl, false, nF ?_, rfl, _, _, _, rfl⟩
    rw [ok.sett i hi]
  · rintro σ H3 ⟨rfl, o1, o2, o3, rfl⟩
    have hp2 := sA _ _ hp
    refine ⟨_, rfl, oa, _, rfl, .inl (SqL.of hoa2), fun oa2 noa2 => ?_⟩
    have po : p ≠ oa2 := ne_of_none hp2 noa2
    refine ⟨_, rfl, p, _, dx, [], rfl, by rw [upd_ne po]; exact hp2, T.c_Told, T.n_Told_outputs, (by show 0 < 1000; decide), ?_⟩
    have k1 : ∀ b o, H3 b = some o → b ≠ p → upd (upd H3 oa2 (.lst (natsV t.outs))) p (.ins (He.ga K "Told") dx (putF "outputs" (V.ref oa2) [])) b = some o := fun b o e n => by rw [upd_ne n, upd_ne (ne_of_none e noa2)]; exact e
    have hp3 : upd (upd H3 oa2 (.lst (natsV t.outs))) p (.ins (He.ga K "Told") dx (putF "outputs" (V.ref oa2) [])) p = some (.ins (He.ga K "Told") dx (putF "outputs" (V.ref oa2) [])) := upd_same
    have ho3 : upd (upd H3 oa2 (.lst (natsV t.outs))) p (.ins (He.ga K "Told") dx (putF "outputs" (V.ref oa2) [])) oa2 = some (.lst (natsV t.outs)) := by rw [upd_ne po.symm]; exact upd_same
    generalize upd (upd H3 oa2 (.lst (natsV t.outs))) p (.ins (He.ga K "Told") dx (putF "outputs" (V.ref oa2) [])) = H4 at k1 hp3 ho3 ⊢
    have ht4 := ht2.same (H' := H4) fun b xs e => k1 b _ e (ne_of e hp2 (fun z => by cases z))
    obtain ⟨lt, t1, t2, t3⟩ := id ht4
    refine ⟨_, rfl, ta, rfl, ⟨_, SqL.of t1⟩, fun D3 nD3 => ?_⟩
    refine lc_objL (fun i y H => ∃ b r, y = .ref b ∧ t.tab[i]? = some r ∧ H b = some (.lst (natsV r)) ∧ b ≠ D3 ∧ H4 b = none) nD3 (SqL.of t1) (by rw [List.length_map]; omega) (fun i y H H' _ ⟨b, r, e1, e2, e3, e4, e5⟩ _ k => ⟨b, r, e1, e2, k _ _ e3 e4, e4, e5⟩) (fun i x H5 acc k hx s4 hD4 hk => ?_) gName_mono fun ys H5 hyl s5 hD5 hF => ?_
    · obtain ⟨ra, e1, rfl⟩ := map_at hx
      obtain ⟨r, e2, e3⟩ := t3 i ra e1
      refine ⟨rfl, _, rfl, ra, _, rfl, .inl (SqL.of (s4 _ _ e3)), fun b nb => hk _ _ (same_upd nb) ⟨b, r, rfl, e2, upd_same, (ne_of_none hD4 nb).symm, s4.free nb⟩⟩
    have nD : D3 ≠ p := (ne_of_none hp3 nD3).symm
    refine ⟨_, rfl, p, _, dx, _, rfl, s5 _ _ hp3, T.c_Told, T.n_Told_table, (by show 1 < 1000; decide), ?_⟩
    rw [tf_put]
    refine q _ ⟨dx, oa2, D3, upd_same, ?_, ys.map fun v => match v with | .ref b => b | _ => 0, ?_, by rw [List.length_map, hyl, List.length_map, t2], fun i a e => ?_⟩ fun b o e n => ?_
    · rw [upd_ne po.symm]; exact s5 _ _ ho3
    · rw [upd_ne nD, hD5, List.map_map]
      refine congrArg (fun z => some (HO.lst z)) (List.ext_getElem? fun i => ?_)
      rw [List.getElem?_map]
      cases q : ys[i]? with
      | none => rfl
      | some y =>
        obtain ⟨b, r, rfl, _⟩ := hF i y q
        rfl
    · rw [List.getElem?_map] at e
      cases q : ys[i]? with
      | none => rw [q] at e; cases e
      | some y =>
        obtain ⟨b, r, rfl, f1, f2, f3, f4⟩ := hF i y q
        rw [q] at e
        cases e
        have bp : b ≠ p := fun z => by rw [z, hp3] at f4; cases f4
        exact ⟨r, f1, by rw [upd_ne bp]; exact f2⟩
    · rw [upd_ne n]; exact s5 _ _ (k1 _ _ (sA _ _ e) n)
theorem make_told {c : Bool} {E : XK} {H1 : Hp} {Q : VK} {t : Tl} {oa ta x dx : Addr} (nx : H1 x = none) (nd : H1 dx = none) (ok : t.Ok) (ho : H1 oa = some (.lst (natsV t.outs))) (ht : TabAt H1 ta t.tab) (q : ∀ H', ToldAt K H' x t → L2.Same H1 H' → Q .non H') :
    Sp3 (p_Told_init (K := K)) c [.ref x, .ref oa, .ref ta] (upd (upd H1 dx (.own x)) x (.ins (He.ga K "Told") dx [])) Q E := by
  have s0 : L2.Same H1 (upd (upd H1 dx (.own x)) x (.ins (He.ga K "Told") dx [])) := same_upd2 (same_upd nd) nx
  exact ⟨_, _, _, rfl, x, dx, oa, ta, t, rfl, rfl, rfl, ok, upd_same, s0 _ _ ho, ht.same fun b xs e => s0 _ _ e, fun H' h1 h2 => q H' h1 fun b o e => h2 b o (s0 _ _ e) (ne_of_none e nx)⟩
def p_Told_machine : Q2 := fun _ self a H Q _ => ∃ (p : Addr) (t : Tl) (n : Nat), self = .ref p ∧ a = iV n ∧ ToldAt K H p t ∧ t.Ok ∧ ∀ H' pm, L2.Same H H' → NewM K H H' pm (t.m n) → Q (.ref pm) H'
theorem ok_Told_machine (T : Txt P w K mg) : FnQ P w K mg base 5 (He.ma K (He.ga K "Told") "machine") 2 (Sp2 (p_Told_machine (K := K))) := by
  refine fnQ2 T.F_Told_machine sc_Told_machine (fun _ _ _ _ _ _ us hl => match us, hl with | [_, _], _ => rfl) fun cdv A outer s H self a Q E l qa hr h => ?_
  obtain ⟨p, t, n, rfl, rfl, hp, ok, q⟩ := h
  obtain ⟨dx, oa, ta, h1, h2, h3⟩ := id hp
  have ol : (natsV t.outs).length = t.outs.length := List.length_map _
  have sm := ok.small
  refine ⟨_, (pss_one (ps_ret (pe_makeQ T.k_Machine (ok_Machine_init T) (hr.mono (by omega)) (cxQ_quiet qa) T.g_Machine pass0 (pa_cons pe_int (pa_cons (pe_fld (pv 0) rfl) (pa_cons (pe_lcQ (own := [("found", 2)]) (g := gName 2) (tt := tYes) (cxQ_quiet qa) sc_Told_machine.nd (piL (pe_fld (pv 0) rfl)) (blkOk_by (N := ["self", "output", "found"]) (sc := defScope s_Told_machine) (by decide +kernel)) (fun _ _ _ _ hq => pg_name (i := 2) sc_Told_machine.nd rfl (Or.inl rfl)) (fun _ _ _ _ hq => pts_nil) (fun _ _ _ _ hq hcm => (pe_cmpR op_eq (pv 2) (pv 1) (nomark _)))) pa_nil)))))), ?_⟩
  refine ⟨_, rfl, p, _, dx, _, _, rfl, h1, T.c_Told, T.n_Told_table, tf_table _ _, _, rfl, p, _, dx, _, _, rfl, h1, T.c_Told, T.n_Told_outputs, tf_outs _ _, oa, rfl, ⟨_, SqL.of h2⟩, fun D nD => ?_⟩
  refine lc_pureL (ys := (t.outs.map fun x => decide (x = n)).map V.bl) nD (SqL.of h2) (by simp) (by rw [ol]; omega) (fun j x y acc2 k2 hx hy hk2 => ?_) gName_mono ?_
  · obtain ⟨o, e1, rfl⟩ := map_at hx
    obtain ⟨b, e2, rfl⟩ := map_at hy
    obtain ⟨o', e3, rfl⟩ := map_at e2
    rw [e1] at e3
    cases e3
    refine ⟨rfl, _, rfl, _, rfl, rfl, ?_⟩
    exact qb (Q := k2) (decide_eq_decide.mpr ⟨fun e => Int.ofNat.inj (V.int.inj e), fun e => by rw [e]⟩) hk2
  · refine fun x dxm nx ndx _ => make_machine (m := t.m n) nx ndx (Tl.m_ok ok n) (h3.same fun b xs e => same_upd nD _ _ e) upd_same fun H7 nm s7 => ⟨rfl, ?_⟩
    exact q _ x ((same_upd nD).trans s7) (nm.old (same_upd nD))
def powM : M := ⟨1, [[0, 1], [1, 2], [2, 2]], [false, true, false]⟩
theorem powM_ok : powM.Ok where
  w6 := by decide
  pos := by decide
  small := by decide
  alen := rfl
  rows := by decide
  sett := by decide
def p_powers : Q0 := fun _ H Q _ => ∀ H' pm, L2.Same H H' → NewM K H H' pm powM → Q (.ref pm) H'
theorem ok_powers (T : Txt P w K mg) : FnQ P w K mg base 5 (He.ga K "powers") 0 (Sp0 (p_powers (K := K))) := by
  refine fnQ0 T.F_powers sc_powers (fun _ _ _ _ _ _ us hl => match us, hl with | [], _ => rfl) fun cdv A outer s H Q E l qa hr q => ?_
  refine ⟨_, (pss_one (ps_ret (pe_makeQ T.k_Machine (ok_Machine_init T) (hr.mono (by omega)) (cxQ_quiet qa) T.g_Machine pass0 (pa_cons pe_int (pa_cons (pe_lst (pa_cons (pe_lst (pa_cons pe_int (pa_cons pe_int pa_nil))) (pa_cons (pe_lst (pa_cons pe_int (pa_cons pe_int pa_nil))) (pa_cons (pe_lst (pa_cons pe_int (pa_cons pe_int pa_nil))) pa_nil)))) (pa_cons (pe_lst (pa_cons pe_bl (pa_cons pe_bl (pa_cons pe_bl pa_nil)))) pa_nil)))))), ?_⟩
  refine ⟨by show 2 ≤ sizeLine; decide, fun a1 n1 => ⟨by show 2 ≤ sizeLine; decide, fun a2 n2 => ⟨by show 2 ≤ sizeLine; decide, fun a3 n3 => ⟨by show 3 ≤ sizeLine; decide, fun tl nt => ⟨by show 3 ≤ sizeLine; decide, fun la nla => ?_⟩⟩⟩⟩⟩
  have s1 : L2.Same H (upd H a1 (.lst [.int 0, .int 1])) := same_upd n1
  have e1 : upd H a1 (.lst [.int 0, .int 1]) a1 = some (.lst (natsV [0, 1])) := upd_same
  generalize upd H a1 (.lst [.int 0, .int 1]) = H1 at n2 n3 nt nla s1 e1 ⊢
  have s2 : L2.Same H1 (upd H1 a2 (.lst [.int 1, .int 2])) := same_upd n2
  have e2 : upd H1 a2 (.lst [.int 1, .int 2]) a2 = some (.lst (natsV [1, 2])) := upd_same
  generalize upd H1 a2 (.lst [.int 1, .int 2]) = H2 at n3 nt nla s2 e2 ⊢
  have s3 : L2.Same H2 (upd H2 a3 (.lst [.int 2, .int 2])) := same_upd n3
  have e3 : upd H2 a3 (.lst [.int 2, .int 2]) a3 = some (.lst (natsV [2, 2])) := upd_same
  generalize upd H2 a3 (.lst [.int 2, .int 2]) = H3 at nt nla s3 e3 ⊢
  have s4 : L2.Same H3 (upd H3 tl (.lst [.ref a1, .ref a2, .ref a3])) := same_upd nt
  have e4 : upd H3 tl (.lst [.ref a1, .ref a2, .ref a3]) tl = some (.lst ([a1, a2, a3].map V.ref)) := upd_same
  generalize upd H3 tl (.lst [.ref a1, .ref a2, .ref a3]) = H4 at nla s4 e4 ⊢
  have s5 : L2.Same H4 (upd H4 la (.lst [.bl false, .bl true, .bl false])) := same_upd nla
  have e5 : upd H4 la (.lst [.bl false, .bl true, .bl false]) la = some (.lst (powM.acc.map V.bl)) := upd_same
  generalize upd H4 la (.lst [.bl false, .bl true, .bl false]) = H5 at s5 e5 ⊢
  have sA := (((s1.trans s2).trans s3).trans s4).trans s5
  refine fun x dxm nx ndx _ => make_machine (m := powM) nx ndx powM_ok ⟨[a1, a2, a3], s5 _ _ e4, rfl, fun i a e => ?_⟩ e5 fun H7 nm s7 => ⟨rfl, q _ x (sA.trans s7) (nm.old sA)⟩
  match i, e with
  | 0, e => cases e; exact ⟨_, rfl, s5 _ _ (s4 _ _ (s3 _ _ (s2 _ _ e1)))⟩
  | 1, e => cases e; exact ⟨_, rfl, s5 _ _ (s4 _ _ (s3 _ _ e2))⟩
  | 2, e => cases e; exact ⟨_, rfl, s5 _ _ (s4 _ _ e3)⟩
end
end K36
/-! K36W11: formulas -/
namespace K36
open PySem PySem.Spec PyProof.Rows L2 HotX
inductive Fm where
  | lin (ex : Bool) (ps : List (Str × Int)) (c : Int)
  | pow (x : Str)
  | word (wd x : Str) (o : Nat)
  | call (nm : Str) (as : List Str)
  | neg (f : Fm)
  | join (op : Str) (f g : Fm)
def PrAt (H : Hp) (pt : Addr) (ps : List (Str × Int)) : Prop := ∃ as : List Addr, H pt = some (.tup (as.map V.ref)) ∧ as.length = ps.length ∧ ∀ (i : Nat) (b : Addr), as[i]? = some b → ∃ p, ps[i]? = some p ∧ H b = some (.tup [.str p.1, .int p.2])
def hdL (ex : Bool) : Str := if ex = true then "eq" else "le"
def FmAt (H : Hp) : Fm → Addr → Prop
  | .lin ex ps c, a => ∃ t pt, H a = some (.tup [.str (hdL ex), .ref t]) ∧ H t = some (.tup [.ref pt, .int c]) ∧ PrAt H pt ps
  | .pow x, a => H a = some (.tup [.str "pow", .str x])
  | .word wd x o, a => H a = some (.tup [.str "word", .str wd, .str x, iV o])
  | .call nm as, a => ∃ t, H a = some (.tup [.str "call", .str nm, .ref t]) ∧ H t = some (.tup (as.map V.str))
  | .neg f, a => ∃ b, H a = some (.tup [.str "not", .ref b]) ∧ FmAt H f b
  | .join op f g, a => ∃ b c, H a = some (.tup [.str op, .ref b, .ref c]) ∧ op ∈ ops4 ∧ FmAt H f b ∧ FmAt H g c
theorem PrAt.keep {H H' : Hp} (k : ∀ b xs, H b = some (.tup xs) → H' b = some (.tup xs)) {pt : Addr} {ps : List (Str × Int)} (h : PrAt H pt ps) : PrAt H' pt ps :=
  let ⟨as, h1, h2, h3⟩ := h
  ⟨as, k _ _ h1, h2, fun i b e => let ⟨p, e1, e2⟩ := h3 i b e; ⟨p, e1, k _ _ e2⟩⟩
theorem FmAt.keep {H H' : Hp} (k : ∀ b xs, H b = some (.tup xs) → H' b = some (.tup xs)) : ∀ {f : Fm} {a : Addr}, FmAt H f a → FmAt H' f a
  | .lin .., _, ⟨t, pt, h1, h2, h3⟩ => ⟨t, pt, k _ _ h1, k _ _ h2, h3.keep k⟩
  | .pow _, _, h => k _ _ h
  | .word .., _, h => k _ _ h
  | .call .., _, ⟨t, h1, h2⟩ => ⟨t, k _ _ h1, k _ _ h2⟩
  | .neg _, _, ⟨b, h1, h2⟩ => ⟨b, k _ _ h1, FmAt.keep k h2⟩
  | .join .., _, ⟨b, c, h1, h0, h2, h3⟩ => ⟨b, c, k _ _ h1, h0, FmAt.keep k h2, FmAt.keep k h3⟩
def Fm.depth : Fm → Nat
  | .neg f => f.depth + 1
  | .join _ f g => max f.depth g.depth + 1
  | _ => 1
def Fm.own : Fm → List Str
  | .lin _ ps _ => ps.map (·.1)
  | .pow x => [x]
  | .word _ x _ => [x]
  | .call _ as => as
  | _ => []
def Fm.parts : Fm → List Fm
  | .neg f => [f]
  | .join _ f g => [f, g]
  | _ => []
def Fm.free : Fm → List Str
  | .lin _ ps _ => ps.map (·.1)
  | .pow x => [x]
  | .word _ x _ => [x]
  | .call _ as => as
  | .neg f => f.free
  | .join _ f g => f.free ++ g.free
def Fm.hd : Fm → Str
  | .lin ex _ _ => hdL ex
  | .pow _ => "pow"
  | .word .. => "word"
  | .call .. => "call"
  | .neg _ => "not"
  | .join op _ _ => op
/-- short enough -/
def Fm.sm : Fm → Prop
  | .lin _ ps _ => ps.length ≤ 6
  | .call _ as => as.length ≤ 6
  | .neg f => f.sm
  | .join _ f g => f.sm ∧ g.sm
  | _ => True
theorem FmAt.tup {H : Hp} : ∀ {f : Fm} {a : Addr}, FmAt H f a → ∃ xs, H a = some (.tup (.str f.hd :: xs))
  | .lin .., _, ⟨t, pt, h1, h2, h3⟩ => ⟨_, h1⟩
  | .pow _, _, h => ⟨_, h⟩
  | .word .., _, h => ⟨_, h⟩
  | .call .., _, ⟨t, h1, h2⟩ => ⟨_, h1⟩
  | .neg _, _, ⟨b, h1, h2⟩ => ⟨_, h1⟩
  | .join .., _, ⟨b, c, h1, h0, h2, h3⟩ => ⟨_, h1⟩
theorem iV0 {xs : List V} {x : V} : atI (x :: xs) (0 : Int) = some x := atI_nat (j := 0) rfl
theorem eqV_str (a b : Str) : eqV (.str a) (.str b) = decide (a = b) := by
  show (a == b) = _
  by_cases h : a = b
  · rw [decide_eq_true h]; exact beq_iff_eq.mpr h
  · rw [decide_eq_false h]; exact beq_eq_false_iff_ne.mpr h
theorem inV_strs (z : Str) : ∀ (l : List Str), inV (.str z) (l.map V.str) = decide (z ∈ l)
  | [] => rfl
  | a :: l => by
    show (eqV (.str a) (.str z) || inV (.str z) (l.map V.str)) = _
    rw [inV_strs z l, eqV_str]
    by_cases h : a = z
    · subst h; simp
    · have h' : ¬ z = a := fun e => h e.symm
      simp [h, h']
theorem in2T {z a b : Str} (h : z = a ∨ z = b) : V.bl (if false = true then !inV (.str z) [.str a, .str b] else inV (.str z) [.str a, .str b]) = .bl true := by
  rw [if_neg Bool.false_ne_true, show [V.str a, V.str b] = [a, b].map V.str from rfl, inV_strs, decide_eq_true (by simpa using h)]
theorem in2F {z a b : Str} (h1 : z ≠ a) (h2 : z ≠ b) : V.bl (if false = true then !inV (.str z) [.str a, .str b] else inV (.str z) [.str a, .str b]) = .bl false := by
  rw [if_neg Bool.false_ne_true, show [V.str a, V.str b] = [a, b].map V.str from rfl, inV_strs, decide_eq_false (by simp [h1, h2])]
theorem neS (a b : Str) (h : decide (a = b) = false := by decide +kernel) : a ≠ b := of_decide_eq_false h
theorem opNe {op z : Str} (h : op ∈ ops4) (n : z ∉ ops4) : op ≠ z := fun e => n (e ▸ h)
theorem hd_eq : ∀ ex, hdL ex = "eq" ∨ hdL ex = "le"
  | true => .inl rfl
  | false => .inr rfl
theorem ops_heads {op : Str} (h : op ∈ ops4) : op ∈ heads := by
  have : ∀ z ∈ ops4, z ∈ heads := by decide +kernel
  exact this op h
section
variable {P : Program} {w : World} {K : PySem.W.Frag} {mg : Str → Option Value} {base : Heap}
def p_own_names : Q1 := fun _ a H Q _ => ∃ (p : Addr) (f : Fm), a = .ref p ∧ FmAt H f p ∧ f.sm ∧ ∀ H' r, L2.Same H H' → H' r = some (.lst (f.own.map V.str)) → Q (.ref r) H'
theorem ok_own_names (T : Txt P w K mg) : FnQ P w K mg base 1 (He.ga K "own_names") 1 (Sp1 p_own_names) := by
  refine fnQ1 T.F_own_names sc_own_names (fun _ _ _ _ _ _ us hl => match us, hl with | [_], _ => rfl) fun cdv A outer s H a Q E l qa hr h => ?_
  obtain ⟨p, f, rfl, hf, sm, q⟩ := h
  refine ⟨_, (pss_cons (ps_set (i := 1) sc_own_names.nd rfl (Or.inl rfl) (pe_ix ix_tup (pv 0) pe_int (fun _ _ => rfl)))
      (pss_cons (ps_if (pt_cmpR op_in_seq (pv 1) (pe_tup (pa_cons pe_str (pa_cons pe_str pa_nil))) (by with_unfolding_all rfl)) (pss_one (ps_ret (pe_lcQ (own := [("name", 2), ("coefficient", 3)]) (g := gTup K 2 (gCons (gName 2) (gCons (gName 3) gNil))) (tt := tYes) (cxQ_quiet qa) sc_own_names.nd (piT (pe_ix ix_tup (pe_ix ix_tup (pv 0) pe_int (fun _ _ => rfl)) pe_int (fun _ _ => rfl))) (blkOk_by (N := ["formula", "head", "name", "coefficient"]) (sc := defScope s_own_names) (by decide +kernel)) (fun _ _ _ _ hq => pg_tupQ hq (pgs_cons (pg_name (i := 2) sc_own_names.nd rfl (Or.inl rfl)) (pgs_cons (pg_name (i := 3) sc_own_names.nd rfl (Or.inl rfl)) pgs_nil))) (fun _ _ _ _ hq => pts_nil) (fun _ _ _ _ hq hcm => (pv 2))))) pss_nil)
      (pss_cons (ps_if (pt_cmpR op_eq (pv 1) pe_str (nomark _)) (pss_one (ps_ret (pe_lst (pa_cons (pe_ix ix_tup (pv 0) pe_int (fun _ _ => rfl)) pa_nil)))) pss_nil)
      (pss_cons (ps_if (pt_cmpR op_eq (pv 1) pe_str (nomark _)) (pss_one (ps_ret (pe_lst (pa_cons (pe_ix ix_tup (pv 0) pe_int (fun _ _ => rfl)) pa_nil)))) pss_nil)
      (pss_cons (ps_if (pt_cmpR op_eq (pv 1) pe_str (nomark _)) (pss_one (ps_ret (pe_callTy call_list_of rfl T.free_list (by decide +kernel) (pa_cons (pe_ix ix_tup (pv 0) pe_int (fun _ _ => rfl)) pa_nil)))) pss_nil)
      (pss_one (ps_ret (pe_lst pa_nil)))))))), ?_⟩
  obtain ⟨xs, hp⟩ := hf.tup
  refine ⟨_, rfl, p, _, _, _, rfl, rfl, SqT.of hp, iV0, ?_⟩
  clear hp
  cases f with
  | lin ex ps c =>
    obtain ⟨t, pt, hp0, ht, as, h1, h2, h3⟩ := hf
    refine ⟨_, rfl, by show 2 ≤ sizeLine; decide, fun t2 nt => ⟨t2, _, rfl, .inr (SqT.of upd_same), rfl, rfl, true, in2T (hd_eq ex), ?_⟩⟩
    have s1 := same_upd (o := .tup [.str "eq", .str "le"]) nt
    generalize upd H t2 (.tup [.str "eq", .str "le"]) = H1 at s1 ⊢
    refine ⟨_, rfl, p, _, _, _, rfl, rfl, SqT.of (s1 _ _ hp0), atI_nat (j := 1) rfl, t, _, _, _, rfl, rfl, SqT.of (s1 _ _ ht), iV0, pt, rfl, ⟨_, SqT.of (s1 _ _ h1)⟩, fun D nD => ?_⟩
    have sm : ps.length ≤ 6 := sm
    refine lc_pureT (ys := (ps.map (·.1)).map V.str) nD (SqT.of (s1 _ _ h1)) (by simp [h2]) (by rw [List.length_map]; omega) (fun j x y acc2 k2 hx hy hk2 => ?_) gTup2_mono ?_
    · obtain ⟨b, e1, rfl⟩ := map_at hx
      obtain ⟨z, e2, rfl⟩ := map_at hy
      obtain ⟨pr, e3, e4⟩ := h3 j b e1
      obtain ⟨pr', e5, rfl⟩ := map_at e2
      rw [e3] at e5
      cases e5
      exact ⟨b, _, rfl, SqT.of (same_upd nD _ _ (s1 _ _ e4)), rfl, _, _, rfl, _, _, rfl, rfl, rfl, _, rfl, hk2⟩
    · exact q _ D (s1.trans (same_upd nD)) upd_same
  | pow x =>
    have hp0 : H p = some (.tup [.str "pow", .str x]) := hf
    refine ⟨_, rfl, by show 2 ≤ sizeLine; decide, fun t nt => ⟨t, _, rfl, .inr (SqT.of upd_same), rfl, rfl, false, in2F (neS "pow" "eq") (neS "pow" "le"), ?_⟩⟩
    have s1 := same_upd (o := .tup [.str "eq", .str "le"]) nt
    have hp1 := s1 _ _ hp0
    generalize upd H t (.tup [.str "eq", .str "le"]) = H1 at s1 hp1 ⊢
    refine ⟨_, rfl, rfl, true, dT rfl, _, rfl, p, _, _, _, rfl, rfl, SqT.of hp1, atI_nat (j := 1) rfl, by show 1 ≤ sizeLine; decide, fun r nr => ?_⟩
    exact q _ r (s1.trans (same_upd nr)) upd_same
  | word wd x o =>
    have hp0 : H p = some (.tup [.str "word", .str wd, .str x, iV o]) := hf
    refine ⟨_, rfl, by show 2 ≤ sizeLine; decide, fun t nt => ⟨t, _, rfl, .inr (SqT.of upd_same), rfl, rfl, false, in2F (neS "word" "eq") (neS "word" "le"), ?_⟩⟩
    have s1 := same_upd (o := .tup [.str "eq", .str "le"]) nt
    have hp1 := s1 _ _ hp0
    generalize upd H t (.tup [.str "eq", .str "le"]) = H1 at s1 hp1 ⊢
    refine ⟨_, rfl, rfl, false, dF (strNe (neS "word" "pow")), _, rfl, rfl, true, dT rfl, _, rfl, p, _, _, _, rfl, rfl, SqT.of hp1, atI_nat (j := 2) rfl, by show 1 ≤ sizeLine; decide, fun r nr => ?_⟩
    exact q _ r (s1.trans (same_upd nr)) upd_same
  | call nm as =>
    obtain ⟨t0, hp0, ht0⟩ := hf
    refine ⟨_, rfl, by show 2 ≤ sizeLine; decide, fun t nt => ⟨t, _, rfl, .inr (SqT.of upd_same), rfl, rfl, false, in2F (neS "call" "eq") (neS "call" "le"), ?_⟩⟩
    have s1 := same_upd (o := .tup [.str "eq", .str "le"]) nt
    have hp1 := s1 _ _ hp0
    generalize upd H t (.tup [.str "eq", .str "le"]) = H1 at s1 hp1 ⊢
    refine ⟨_, rfl, rfl, false, dF (strNe (neS "call" "pow")), _, rfl, rfl, false, dF (strNe (neS "call" "word")), _, rfl, rfl, true, dT rfl, _, rfl, p, _, _, _, rfl, rfl, SqT.of hp1, atI_nat (j := 2) rfl, t0, _, rfl, .inr (SqT.of (s1 _ _ ht0)), fun r nr => ?_⟩
    exact q _ r (s1.trans (same_upd nr)) upd_same
  | neg g =>
    obtain ⟨b, hp0, hb⟩ := hf
    refine ⟨_, rfl, by show 2 ≤ sizeLine; decide, fun t nt => ⟨t, _, rfl, .inr (SqT.of upd_same), rfl, rfl, false, in2F (neS "not" "eq") (neS "not" "le"), ?_⟩⟩
    have s1 := same_upd (o := .tup [.str "eq", .str "le"]) nt
    have hp1 := s1 _ _ hp0
    generalize upd H t (.tup [.str "eq", .str "le"]) = H1 at s1 hp1 ⊢
    refine ⟨_, rfl, rfl, false, dF (strNe (neS "not" "pow")), _, rfl, rfl, false, dF (strNe (neS "not" "word")), _, rfl, rfl, false, dF (strNe (neS "not" "call")), by decide, fun r nr => ?_⟩
    exact q _ r (s1.trans (same_upd nr)) upd_same
  | join op g h =>
    obtain ⟨b, c, hp0, hop, hb, hc⟩ := hf
    refine ⟨_, rfl, by show 2 ≤ sizeLine; decide, fun t nt => ⟨t, _, rfl, .inr (SqT.of upd_same), rfl, rfl, false, in2F (opNe hop (by decide +kernel)) (opNe hop (by decide +kernel)), ?_⟩⟩
    have s1 := same_upd (o := .tup [.str "eq", .str "le"]) nt
    have hp1 := s1 _ _ hp0
    generalize upd H t (.tup [.str "eq", .str "le"]) = H1 at s1 hp1 ⊢
    refine ⟨_, rfl, rfl, false, dF (strNe (opNe hop (by decide +kernel))), _, rfl, rfl, false, dF (strNe (opNe hop (by decide +kernel))), _, rfl, rfl, false, dF (strNe (opNe hop (by decide +kernel))), by decide, fun r nr => ?_⟩
    exact q _ r (s1.trans (same_upd nr)) upd_same
def PartsAt (H : Hp) (r : Addr) (fs : List Fm) : Prop := ∃ bs : List Addr, H r = some (.lst (bs.map V.ref)) ∧ bs.length = fs.length ∧ ∀ (i : Nat) (b : Addr), bs[i]? = some b → ∃ g, fs[i]? = some g ∧ FmAt H g b
def p_parts : Q1 := fun _ a H Q _ => ∃ (p : Addr) (f : Fm), a = .ref p ∧ FmAt H f p ∧ ∀ H' r, L2.Same H H' → PartsAt H' r f.parts → Q (.ref r) H'
theorem ok_parts (T : Txt P w K mg) : FnQ P w K mg base 1 (He.ga K "parts") 1 (Sp1 p_parts) := by
  refine fnQ1 T.F_parts sc_parts (fun _ _ _ _ _ _ us hl => match us, hl with | [_], _ => rfl) fun cdv A outer s H a Q E l qa hr h => ?_
  obtain ⟨p, f, rfl, hf, q⟩ := h
  obtain ⟨d, es, n, gS, kdS, hS⟩ := T.g_SIGNS
  refine ⟨_, (pss_cons (ps_set (i := 1) sc_parts.nd rfl (Or.inl rfl) (pe_ix ix_tup (pv 0) pe_int (fun _ _ => rfl)))
      (pss_cons (ps_if (pt_cmpR op_eq (pv 1) pe_str (nomark _)) (pss_one (ps_ret (pe_lst (pa_cons (pe_ix ix_tup (pv 0) pe_int (fun _ _ => rfl)) pa_nil)))) pss_nil)
      (pss_cons (ps_if (pt_cmpR (op_in_kd kdS) (pv 1) (pe_glob (v := .ref _) rfl gS rfl) (by with_unfolding_all rfl)) (pss_one (ps_ret (pe_lst (pa_cons (pe_ix ix_tup (pv 0) pe_int (fun _ _ => rfl)) (pa_cons (pe_ix ix_tup (pv 0) pe_int (fun _ _ => rfl)) pa_nil))))) pss_nil)
      (pss_cons (ps_if (pt_cmpR op_in_seq (pv 1) (pe_tup (pa_cons pe_str (pa_cons pe_str pa_nil))) (by with_unfolding_all rfl)) (pss_one (ps_ret (pe_lst (pa_cons (pe_ix ix_tup (pv 0) pe_int (fun _ _ => rfl)) pa_nil)))) pss_nil)
      (pss_one (ps_ret (pe_lst pa_nil))))))), ?_⟩
  obtain ⟨xs, hp⟩ := hf.tup
  refine ⟨_, rfl, p, _, _, _, rfl, rfl, SqT.of hp, iV0, ?_⟩
  clear hp
  have nil : ∀ (H1 : Hp), L2.Same H H1 → f.parts = [] → ∀ r, H1 r = none → Q (.ref r) (upd H1 r (.lst [])) := fun H1 s1 e r nr => q _ r (s1.trans (same_upd nr)) ⟨[], upd_same, by rw [e]; rfl, fun i b z => by simp at z⟩
  cases f with
  | lin ex ps c =>
    cases ex
    · obtain ⟨rr, hn1, hn2⟩ := hS "le" (by decide +kernel)
      refine ⟨_, rfl, rfl, false, dF (strNe (neS "le" "not")), _, rfl, _, rr, rfl, rfl, hn1, false, congrArg V.bl (hn2.trans (decide_eq_false (by decide +kernel))), ?_⟩
      refine ⟨_, rfl, by show 2 ≤ sizeLine; decide, fun t nt => ⟨t, _, rfl, .inr (SqT.of upd_same), rfl, rfl, false, in2F (neS "le" "some") (neS "le" "all"), by decide, fun r nr => nil _ (same_upd nt) rfl r nr⟩⟩
    · obtain ⟨rr, hn1, hn2⟩ := hS "eq" (by decide +kernel)
      refine ⟨_, rfl, rfl, false, dF (strNe (neS "eq" "not")), _, rfl, _, rr, rfl, rfl, hn1, false, congrArg V.bl (hn2.trans (decide_eq_false (by decide +kernel))), ?_⟩
      refine ⟨_, rfl, by show 2 ≤ sizeLine; decide, fun t nt => ⟨t, _, rfl, .inr (SqT.of upd_same), rfl, rfl, false, in2F (neS "eq" "some") (neS "eq" "all"), by decide, fun r nr => nil _ (same_upd nt) rfl r nr⟩⟩
  | pow x =>
    obtain ⟨rr, hn1, hn2⟩ := hS "pow" (by decide +kernel)
    refine ⟨_, rfl, rfl, false, dF (strNe (neS "pow" "not")), _, rfl, _, rr, rfl, rfl, hn1, false, congrArg V.bl (hn2.trans (decide_eq_false (by decide +kernel))), ?_⟩
    refine ⟨_, rfl, by show 2 ≤ sizeLine; decide, fun t nt => ⟨t, _, rfl, .inr (SqT.of upd_same), rfl, rfl, false, in2F (neS "pow" "some") (neS "pow" "all"), by decide, fun r nr => nil _ (same_upd nt) rfl r nr⟩⟩
  | word wd x o =>
    obtain ⟨rr, hn1, hn2⟩ := hS "word" (by decide +kernel)
    refine ⟨_, rfl, rfl, false, dF (strNe (neS "word" "not")), _, rfl, _, rr, rfl, rfl, hn1, false, congrArg V.bl (hn2.trans (decide_eq_false (by decide +kernel))), ?_⟩
    refine ⟨_, rfl, by show 2 ≤ sizeLine; decide, fun t nt => ⟨t, _, rfl, .inr (SqT.of upd_same), rfl, rfl, false, in2F (neS "word" "some") (neS "word" "all"), by decide, fun r nr => nil _ (same_upd nt) rfl r nr⟩⟩
  | call nm as =>
    obtain ⟨rr, hn1, hn2⟩ := hS "call" (by decide +kernel)
    refine ⟨_, rfl, rfl, false, dF (strNe (neS "call" "not")), _, rfl, _, rr, rfl, rfl, hn1, false, congrArg V.bl (hn2.trans (decide_eq_false (by decide +kernel))), ?_⟩
    refine ⟨_, rfl, by show 2 ≤ sizeLine; decide, fun t nt => ⟨t, _, rfl, .inr (SqT.of upd_same), rfl, rfl, false, in2F (neS "call" "some") (neS "call" "all"), by decide, fun r nr => nil _ (same_upd nt) rfl r nr⟩⟩
  | neg g =>
    obtain ⟨b, hp0, hb⟩ := hf
    refine ⟨_, rfl, rfl, true, dT rfl, _, rfl, p, _, _, _, rfl, rfl, SqT.of hp0, atI_nat (j := 1) rfl, by show 1 ≤ sizeLine; decide, fun r nr => ?_⟩
    refine q _ r (same_upd nr) ⟨[b], upd_same, rfl, fun i b' e => ?_⟩
    match i, e with
    | 0, e => cases e; exact ⟨g, rfl, hb.keep fun _ _ z => same_upd nr _ _ z⟩
  | join op g h =>
    obtain ⟨b, c, hp0, hop, hb, hc⟩ := hf
    obtain ⟨rr, hn1, hn2⟩ := hS op (ops_heads hop)
    refine ⟨_, rfl, rfl, false, dF (strNe (opNe hop (by decide +kernel))), _, rfl, _, rr, rfl, rfl, hn1, true, congrArg V.bl (hn2.trans (decide_eq_true hop)), ?_⟩
    refine ⟨_, rfl, p, _, _, _, rfl, rfl, SqT.of hp0, atI_nat (j := 1) rfl, _, rfl, p, _, _, _, rfl, rfl, SqT.of hp0, atI_nat (j := 2) rfl, by show 2 ≤ sizeLine; decide, fun r nr => ?_⟩
    refine q _ r (same_upd nr) ⟨[b, c], upd_same, rfl, fun i b' e => ?_⟩
    match i, e with
    | 0, e => cases e; exact ⟨g, rfl, hb.keep fun _ _ z => same_upd nr _ _ z⟩
    | 1, e => cases e; exact ⟨h, rfl, hc.keep fun _ _ z => same_upd nr _ _ z⟩
theorem free_eq : ∀ f : Fm, f.free = f.own ++ (f.parts.map Fm.free).flatten
  | .lin _ ps _ => by show ps.map (·.1) = ps.map (·.1) ++ []; rw [List.append_nil]
  | .pow _ => rfl
  | .word .. => rfl
  | .call _ as => by show as = as ++ []; rw [List.append_nil]
  | .neg f => by show f.free = [] ++ (f.free ++ []); simp
  | .join _ f g => by show f.free ++ g.free = [] ++ (f.free ++ (g.free ++ [])); simp
theorem parts_ok : ∀ {f : Fm} {g : Fm} {i : Nat}, f.parts[i]? = some g → f.sm → g.sm ∧ g.depth < f.depth ∧ g.free.length ≤ f.free.length
  | .lin .., g, i, e, _ => by simp [Fm.parts] at e
  | .pow _, g, i, e, _ => by simp [Fm.parts] at e
  | .word .., g, i, e, _ => by simp [Fm.parts] at e
  | .call .., g, i, e, _ => by simp [Fm.parts] at e
  | .neg f, g, i, e, s => by
    match i, e with
    | 0, e => cases e; exact ⟨s, Nat.lt_succ_self _, Nat.le_refl _⟩
  | .join _ f h, g, i, e, s => by
    match i, e with
    | 0, e => cases e; exact ⟨s.1, Nat.lt_succ_of_le (Nat.le_max_left _ _), by show f.free.length ≤ (f.free ++ h.free).length; simp⟩
    | 1, e => cases e; exact ⟨s.2, Nat.lt_succ_of_le (Nat.le_max_right _ _), by show h.free.length ≤ (f.free ++ h.free).length; simp⟩
def p_free_list (d : Nat) : Q1 := fun _ a H Q _ => ∃ (p : Addr) (f : Fm), a = .ref p ∧ FmAt H f p ∧ f.sm ∧ f.depth ≤ d ∧ f.free.length ≤ 60 ∧ ∀ H' r, L2.Same H H' → H' r = some (.lst (f.free.map V.str)) → Q (.ref r) H'
theorem Fm.depth_pos : ∀ f : Fm, 0 < f.depth
  | .lin .. => Nat.one_pos
  | .pow _ => Nat.one_pos
  | .word .. => Nat.one_pos
  | .call .. => Nat.one_pos
  | .neg _ => Nat.succ_pos _
  | .join .. => Nat.succ_pos _
theorem FmAt.notq {H : Hp} {f : Fm} {p : Addr} (h : FmAt H f p) : f.hd ≠ "some" ∧ f.hd ≠ "all" := by
  cases f with
  | lin ex ps c =>
    cases ex
    · exact ⟨neS "le" "some", neS "le" "all"⟩
    · exact ⟨neS "eq" "some", neS "eq" "all"⟩
  | pow _ => exact ⟨neS "pow" "some", neS "pow" "all"⟩
  | word _ _ _ => exact ⟨neS "word" "some", neS "word" "all"⟩
  | call _ _ => exact ⟨neS "call" "some", neS "call" "all"⟩
  | neg _ => exact ⟨neS "not" "some", neS "not" "all"⟩
  | join op _ _ =>
    obtain ⟨b, c, _, hop, _⟩ := h
    exact ⟨opNe hop (by decide +kernel), opNe hop (by decide +kernel)⟩
theorem ok_free_list (T : Txt P w K mg) : ∀ d, FnQ P w K mg base (d + 2) (He.ga K "free_list") 1 (Sp1 (p_free_list d))
  | 0 => by
    refine fnQ1 T.F_free_list sc_free_list (fun _ _ _ _ _ _ us hl => match us, hl with | [_], _ => rfl) fun cdv A outer s H a Q E l qa hr h => ?_
    obtain ⟨p, f, rfl, hf, sm, hd, _⟩ := h
    exact absurd f.depth_pos (by omega)
  | d + 1 => by
    have ih := ok_free_list T d
    refine fnQ1 T.F_free_list sc_free_list (fun _ _ _ _ _ _ us hl => match us, hl with | [_], _ => rfl) fun cdv A outer s H a Q E l qa hr h => ?_
    obtain ⟨p, f, rfl, hf, sm, hd, h60, q⟩ := h
    refine ⟨_, (pss_cons (ps_set (i := 1) sc_free_list.nd rfl (Or.inl rfl) (pe_callQ (ok_own_names T) (hr.mono (by omega)) (cxQ_quiet qa) T.g_own_names pass0 (pa_cons (pv 0) pa_nil)))
      (pss_cons (ps_forQ PassesOwn.leaving (cxQ_quiet qa) (piL (pe_callQ (ok_parts T) (hr.mono (by omega)) (cxQ_quiet qa) T.g_parts pass0 (pa_cons (pv 0) pa_nil))) (pg_name (i := 2) sc_free_list.nd rfl (Or.inl rfl)) (pss_one (ps_set (i := 1) sc_free_list.nd rfl (Or.inl rfl) (pe_op op_cat (pv 1) (pe_callQ ih (hr.mono (by omega)) (cxQ_quiet qa) T.g_free_list pass0 (pa_cons (pv 2) pa_nil))))))
      (pss_cons (ps_if (pt_cmpR op_in_seq (pe_ix ix_tup (pv 0) pe_int (fun _ _ => rfl)) (pe_tup (pa_cons pe_str (pa_cons pe_str pa_nil))) (by with_unfolding_all rfl)) (pss_one (ps_setLcQ (i := 1) (own := [("name", 3)]) (g := gName 3)  (cxQ_quiet qa) sc_free_list.nd rfl rfl (sw_true rfl rfl rfl (by decide +kernel)) (piL (pv 1)) (blkOk_by (N := ["formula", "found", "part", "name"]) (sc := defScope s_free_list) (by decide +kernel)) (fun _ _ _ _ hq => pg_name (i := 3) sc_free_list.nd rfl (Or.inl rfl)) (fun _ _ _ _ hq => pts_one (pt_cmpR op_ne (pv 3) (pe_ix (ix_tupK (K := K)) (pv 0) pe_int (fun _ _ => rfl)) (nomark _))) (fun _ _ _ _ hq hcm => (pv 3)))) pss_nil)
      (pss_one (ps_ret (pv 1)))))), ?_⟩
    refine ⟨_, rfl, _, rfl, p, f, rfl, hf, sm, fun H1 r0 s1 h0 => ?_⟩
    refine ⟨_, rfl, _, rfl, p, f, rfl, hf.keep fun _ _ z => s1 _ _ z, fun H2 pr s2 ⟨bs, hb1, hb2, hb3⟩ => ?_⟩
    have fe := free_eq f
    refine ⟨pr, rfl, ⟨_, SqL.of hb1⟩, ?_⟩
    refine for_list (xs := bs.map V.ref) (fun i σ H3 => L2.Same H2 H3 ∧ ∃ r o2, σ = [some (.ref p), some (.ref r), o2, none] ∧ H3 r = some (.lst ((f.own ++ ((f.parts.take i).map Fm.free).flatten).map V.str))) ⟨Same.refl _, r0, none, rfl, by simpa using s2 _ _ h0⟩ (fun i σ H3 _ h => SqL.of (h.1 _ _ hb1)) ?_ ?_
    · rintro i x σ H3 hx ⟨s3, r, o2, rfl, hr3⟩
      obtain ⟨b, e1, rfl⟩ := map_at hx
      obtain ⟨g, e2, hg⟩ := hb3 i b e1
      obtain ⟨gs, gd, gl⟩ := parts_ok e2 sm
      refine ⟨_, rfl, _, rfl, _, rfl, b, g, rfl, hg.keep fun _ _ z => s3 _ _ z, gs, by omega, by omega, fun H4 r4 s4 h4 => ?_⟩
      have fl : ((f.own ++ ((f.parts.take (i + 1)).map Fm.free).flatten)).length ≤ f.free.length := by
        rw [fe, List.length_append, List.length_append]
        have := List.length_append (as := ((f.parts.take (i + 1)).map Fm.free).flatten) (bs := ((f.parts.drop (i + 1)).map Fm.free).flatten)
        rw [← List.flatten_append, ← List.map_append, List.take_append_drop] at this
        omega
      have e5 : f.own ++ ((f.parts.take (i + 1)).map Fm.free).flatten = (f.own ++ ((f.parts.take i).map Fm.free).flatten) ++ g.free := by
        rw [take_snoc e2, List.map_append, List.flatten_append, List.append_assoc]
        simp
      rw [e5] at fl
      have hl : ((f.own ++ ((f.parts.take i).map Fm.free).flatten).map V.str).length + (g.free.map V.str).length ≤ 60 := by
        rw [List.length_map, List.length_map, ← List.length_append]
        omega
      refine ⟨r, r4, _, _, rfl, rfl, s4 _ _ hr3, h4, by rw [sizeLine_eq]; omega, fun r5 n5 => ⟨(s3.trans s4).trans (same_upd n5), r5, _, rfl, ?_⟩⟩
      rw [upd_same, e5, List.map_append (l₁ := _ ++ _)]
    · rintro σ H3 ⟨s3, r, o2, rfl, hr3⟩
      rw [show (bs.map V.ref).length = f.parts.length by rw [List.length_map, hb2], List.take_length, ← fe] at hr3
      have sA := (s1.trans s2).trans s3
      obtain ⟨xs, hp⟩ := (hf.keep fun _ _ z => sA _ _ z).tup
      refine ⟨_, rfl, p, _, _, _, rfl, rfl, SqT.of hp, iV0, by show 2 ≤ sizeLine; decide, fun t nt => ⟨t, _, rfl, .inr (SqT.of upd_same), rfl, rfl, false, in2F hf.notq.1 hf.notq.2, _, rfl, q _ r (sA.trans (same_upd nt)) (same_upd nt _ _ hr3)⟩⟩
/-- the names of a formula, in order -/
def NamesOf (f : Fm) (ys : List Str) : Prop := sortedS ys = true ∧ ys.Nodup ∧ ∀ x, x ∈ ys ↔ x ∈ f.free
def p_free_names (d : Nat) : Q1 := fun _ a H Q _ => ∃ (p : Addr) (f : Fm), a = .ref p ∧ FmAt H f p ∧ f.sm ∧ f.depth ≤ d ∧ f.free.length ≤ 60 ∧ ∀ H' r ys, L2.Same H H' → NamesOf f ys → H' r = some (.lst (ys.map V.str)) → Q (.ref r) H'
def insA (l : List Str) : List Str := l.foldl (fun s k => insS k s) []
theorem insA_snoc (l : List Str) (k : Str) : insA (l ++ [k]) = insS k (insA l) := by unfold insA; rw [List.foldl_append]; rfl
theorem insS_mem {k x : Str} {l : List Str} : x ∈ insS k l ↔ x = k ∨ x ∈ l := by
  unfold insS
  by_cases h : k ∈ l
  · rw [if_pos h]
    exact ⟨.inr, fun z => z.elim (fun e => e ▸ h) id⟩
  · rw [if_neg h]; exact List.mem_cons
theorem insS_len {k : Str} {l : List Str} : (insS k l).length ≤ l.length + 1 := by
  unfold insS
  by_cases h : k ∈ l
  · rw [if_pos h]; omega
  · rw [if_neg h]; exact Nat.le_refl _
theorem insA_mem (l : List Str) (x : Str) : x ∈ insA l ↔ x ∈ l := by
  suffices ∀ (l s : List Str), x ∈ l.foldl (fun s k => insS k s) s ↔ x ∈ l ∨ x ∈ s by
    unfold insA; rw [this]; simp
  intro l
  induction l with
  | nil => intro s; simp
  | cons a l ih => intro s; show x ∈ l.foldl _ (insS a s) ↔ _; rw [ih, insS_mem, List.mem_cons]; exact ⟨fun h => h.elim (fun z => .inl (.inr z)) fun h => h.elim (fun z => .inl (.inl z)) .inr, fun h => h.elim (fun h => h.elim (fun z => .inr (.inl z)) .inl) fun z => .inr (.inr z)⟩
theorem insA_len (l : List Str) : (insA l).length ≤ l.length := by
  suffices ∀ (l s : List Str), (l.foldl (fun s k => insS k s) s).length ≤ l.length + s.length by
    have := this l []; simpa [insA] using this
  intro l
  induction l with
  | nil => intro s; simp
  | cons a l ih => intro s; have := ih (insS a s); have := insS_len (k := a) (l := s); show (l.foldl _ (insS a s)).length ≤ _; rw [List.length_cons]; omega
theorem ok_free_names (T : Txt P w K mg) (d : Nat) : FnQ P w K mg base (d + 3) (He.ga K "free_names") 1 (Sp1 (p_free_names d)) := by
  have ih := ok_free_list (base := base) T d
  refine fnQ1 T.F_free_names sc_free_names (fun _ _ _ _ _ _ us hl => match us, hl with | [_], _ => rfl) fun cdv A outer s H a Q E l qa hr h => ?_
  obtain ⟨p, f, rfl, hf, sm, hd, h60, q⟩ := h
  refine ⟨_, (pss_one (ps_ret (pe_callB (cr_sortedX (cxQ_quiet qa)) rfl T.free_sorted (by decide +kernel) (pa_cons (pe_sxQ (own := [("name", 1)]) (g := gName 1) (tt := tYes) (cxQ_quiet qa) sc_free_names.nd (piL (pe_callQ ih (hr.mono (by omega)) (cxQ_quiet qa) T.g_free_list pass0 (pa_cons (pv 0) pa_nil))) (blkOk_by (N := ["formula", "name"]) (sc := defScope s_free_names) (by decide +kernel)) (fun _ _ _ _ hq => pg_name (i := 1) sc_free_names.nd rfl (Or.inl rfl)) (fun _ _ _ _ hq => pts_nil) (fun _ _ _ _ hq => (pv 1))) pa_nil)))), ?_⟩
  refine ⟨_, rfl, _, rfl, p, f, rfl, hf, sm, hd, h60, fun H1 r s1 hr1 => ?_⟩
  refine ⟨r, rfl, ⟨_, SqL.of hr1⟩, fun D nD => ?_⟩
  refine sx_list (xs := f.free.map V.str) (fun i H2 => L2.Same H1 H2 ∧ H2 D = some (SX P w D (insA (f.free.take i)))) ⟨same_upd nD, upd_same⟩ (fun i H2 _ h => SqL.of (h.1 _ _ hr1)) (fun i x H2 hx h => ?_) fun H2 h => ?_
  · obtain ⟨z, e1, rfl⟩ := map_at hx
    refine ⟨rfl, _, rfl, z, insA (f.free.take i), rfl, h.2, ?_, same_upd2 h.1 nD, ?_⟩
    · have := insA_len (f.free.take i)
      rw [List.length_take] at this
      show _ < scanBound
      have : (60 : Nat) + 1 < scanBound := by decide
      omega
    · rw [upd_same, take_snoc e1, insA_snoc]; rfl
  · rw [List.length_map, List.take_length] at h
    have hl := insA_len f.free
    refine ⟨D, _, rfl, h.2, by omega, fun ys r2 pm so nd nr => q _ r2 ys ((s1.trans h.1).trans (same_upd nr)) ⟨so, nd, fun x => ?_⟩ upd_same⟩
    rw [pm.mem_iff, insA_mem]
end
end K36
/-! K36W12: books -/
namespace K36
open PySem PySem.Spec PyProof.Rows L2 HotX
structure Env where
  words : Str → Option Tl
  defs : Str → Option (List Str × Fm)
def bf (dd wd : Addr) : List (Str × V) := [("_definitions", .ref dd), ("_words", .ref wd)]
theorem bf_put (dd wd : Addr) : putF "_words" (V.ref wd) (putF "_definitions" (V.ref dd) []) = bf dd wd := by
  rw [show putF "_definitions" (V.ref dd) [] = [(("_definitions" : Str), V.ref dd)] from rfl, putF_ne (by decide +kernel)]
  rfl
theorem bf_defs (dd wd : Addr) : (bf dd wd).lookup ("_definitions" : Str) = some (.ref dd) := by rw [← bf_put, lookup_putF, if_neg (by decide +kernel), lookup_putF, if_pos rfl]
theorem bf_words (dd wd : Addr) : (bf dd wd).lookup ("_words" : Str) = some (.ref wd) := by rw [← bf_put, lookup_putF, if_pos rfl]
theorem bf_no (dd wd : Addr) {f : Str} (h1 : ¬ f = "_definitions") (h2 : ¬ f = "_words") : (bf dd wd).lookup f = none := by
  rw [← bf_put, lookup_putF, if_neg h2, lookup_putF, if_neg h1]
  rfl
def WordsAt (K : PySem.W.Frag) (H : Hp) (kw : List (Key × V)) (ws : Str → Option Tl) : Prop :=
  (∀ z, ws z = none → valV kw (Sum.inr z) = none) ∧ ∀ z t, ws z = some t → ∃ p, valV kw (Sum.inr z) = some (.ref p) ∧ ToldAt K H p t ∧ t.Ok
def DefsAt (H : Hp) (kd : List (Key × V)) (ds : Str → Option (List Str × Fm)) : Prop :=
  (∀ z, ds z = none → valV kd (Sum.inr z) = none) ∧ ∀ z ps f, ds z = some (ps, f) → ∃ p a fa, valV kd (Sum.inr z) = some (.ref p) ∧ H p = some (.tup [.ref a, .ref fa]) ∧ TupZ H a (ps.map V.str) ∧ FmAt H f fa
structure BkAt (K : PySem.W.Frag) (H : Hp) (b dd wd : Addr) (kd kw : List (Key × V)) (e : Env) : Prop where
  ob : ∃ dx, H b = some (.ins (He.ga K "Book") dx (bf dd wd))
  hd : H dd = some (.dK kd)
  hw : H wd = some (.dK kw)
  ws : WordsAt K H kw e.words
  ds : DefsAt H kd e.defs
  ne : dd ≠ wd
  sz : kd.length ≤ 10 ∧ kw.length ≤ 10
/-- a heap that changed at one dict, not the book's -/
theorem BkAt.fx {K : PySem.W.Frag} {H H' : Hp} {b dd wd c : Addr} {kd kw ks : List (Key × V)} {e : Env} (x : BkAt K H b dd wd kd kw e) (f : Fx [c] H H') (hc : H c = some (.dK ks)) (n1 : dd ≠ c) (n2 : wd ≠ c) : BkAt K H' b dd wd kd kw e where
  ob := let ⟨dx, h⟩ := x.ob; ⟨dx, f.keep _ _ h (by simp; exact ne_of h hc (fun z => by cases z))⟩
  hd := f.keep _ _ x.hd (by simp; exact n1)
  hw := f.keep _ _ x.hw (by simp; exact n2)
  ws := ⟨x.ws.1, fun z t h => by
    obtain ⟨p, h1, h2, h3⟩ := x.ws.2 z t h
    refine ⟨p, h1, h2.fx f fun b hb => ?_, h3⟩
    rw [List.mem_singleton.mp hb, hc]
    exact ⟨(fun xs z => by cases z), (fun C dx fs z => by cases z)⟩⟩
  ds := ⟨x.ds.1, fun z ps g h => by
    obtain ⟨p, a, fa, h1, h2, h3, h4⟩ := x.ds.2 z ps g h
    refine ⟨p, a, fa, h1, f.tup _ _ h2, h3.keep f.keep fun z => ?_, h4.keep f.tup⟩
    obtain ⟨o, h, _⟩ := h3
    rw [List.mem_singleton.mp z, hc] at h
    cases h⟩
  ne := x.ne
  sz := x.sz
theorem BkAt.same {K : PySem.W.Frag} {H H' : Hp} {b dd wd : Addr} {kd kw : List (Key × V)} {e : Env} (x : BkAt K H b dd wd kd kw e) (f : L2.Same H H') : BkAt K H' b dd wd kd kw e where
  ob := let ⟨dx, h⟩ := x.ob; ⟨dx, f _ _ h⟩
  hd := f _ _ x.hd
  hw := f _ _ x.hw
  ws := ⟨x.ws.1, fun z t h => let ⟨p, h1, h2, h3⟩ := x.ws.2 z t h; ⟨p, h1, h2.same f, h3⟩⟩
  ds := ⟨x.ds.1, fun z ps g h => let ⟨p, a, fa, h1, h2, h3, h4⟩ := x.ds.2 z ps g h; ⟨p, a, fa, h1, f _ _ h2, h3.same f, h4.keep fun _ _ z => f _ _ z⟩⟩
  ne := x.ne
  sz := x.sz
section
variable {P : Program} {w : World} {K : PySem.W.Frag} {mg : Str → Option Value} {base : Heap}
def p_Book_init : Q1 := fun _ self H Q _ => ∃ (p dx : Addr), self = .ref p ∧ H p = some (.ins (He.ga K "Book") dx []) ∧ ∀ H' dd wd, BkAt K H' p dd wd [] [] ⟨fun _ => none, fun _ => none⟩ → H dd = none → H wd = none → (∀ b o, H b = some o → b ≠ p → H' b = some o) → Q .non H'
theorem ok_Book_init (T : Txt P w K mg) : FnQ P w K mg base 1 (He.ma K (He.ga K "Book") "__init__") 1 (Sp1 (p_Book_init (K := K))) := by
  refine fnQ1 T.F_Book_init sc_Book_init (fun _ _ _ _ _ _ us hl => match us, hl with | [_], _ => rfl) fun cdv A outer s H self Q E l qa hr h => ?_
  obtain ⟨p, dx, rfl, hp, q⟩ := h
  refine ⟨_, (pss_cons (ps_fld (pv 0) pe_dnewK rfl)
      (pss_one (ps_fld (pv 0) pe_dnewK rfl))), ?_⟩
  refine fun dd nd => ⟨_, rfl, p, _, dx, [], rfl, by rw [upd_ne (ne_of_none hp nd)]; exact hp, T.c_Book, T.n_Book_definitions, (by show 0 < 1000; decide), ?_⟩
  have pd : p ≠ dd := ne_of_none hp nd
  have x1 : ∀ b o, H b = some o → b ≠ p → upd (upd H dd (.dK [])) p (.ins (He.ga K "Book") dx (putF "_definitions" (V.ref dd) [])) b = some o := fun b o e n => by rw [upd_ne n, upd_ne (ne_of_none e nd)]; exact e
  have p1 : upd (upd H dd (.dK [])) p (.ins (He.ga K "Book") dx (putF "_definitions" (V.ref dd) [])) p = some (.ins (He.ga K "Book") dx (putF "_definitions" (V.ref dd) [])) := upd_same
  have d1 : upd (upd H dd (.dK [])) p (.ins (He.ga K "Book") dx (putF "_definitions" (V.ref dd) [])) dd = some (.dK []) := by rw [upd_ne pd.symm]; exact upd_same
  generalize upd (upd H dd (.dK [])) p (.ins (He.ga K "Book") dx (putF "_definitions" (V.ref dd) [])) = H1 at x1 p1 d1 ⊢
  refine fun wd nw => ⟨_, rfl, p, _, dx, _, rfl, by rw [upd_ne (ne_of_none p1 nw)]; exact p1, T.c_Book, T.n_Book_words, (by show 1 < 1000; decide), ?_⟩
  rw [bf_put]
  have pw : p ≠ wd := ne_of_none p1 nw
  have dw : dd ≠ wd := ne_of_none d1 nw
  have nwH : H wd = none := by
    cases z : H wd with
    | none => rfl
    | some o => rw [x1 wd o z pw.symm] at nw; cases nw
  refine q _ dd wd ⟨⟨dx, upd_same⟩, by rw [upd_ne pd.symm, upd_ne dw]; exact d1, by rw [upd_ne pw.symm]; exact upd_same, ⟨fun _ _ => rfl, fun _ _ z => by cases z⟩, ⟨fun _ _ => rfl, fun _ _ _ z => by cases z⟩, dw, ⟨Nat.zero_le _, Nat.zero_le _⟩⟩ nd nwH fun b o e n => ?_
  rw [upd_ne n, upd_ne (ne_of_none (x1 _ _ e n) nw)]
  exact x1 _ _ e n
def p_Book_told : Q2 := fun _ self a H Q _ => ∃ (b dd wd : Addr) (kd kw : List (Key × V)) (e : Env) (z : Str) (t : Tl), self = .ref b ∧ a = .str z ∧ BkAt K H b dd wd kd kw e ∧ e.words z = some t ∧ ∀ p, ToldAt K H p t → t.Ok → Q (.ref p) H
theorem ok_Book_told (T : Txt P w K mg) : FnQ P w K mg base 1 (He.ma K (He.ga K "Book") "told") 2 (Sp2 (p_Book_told (K := K))) := by
  refine fnQ2 T.F_Book_told sc_Book_told (fun _ _ _ _ _ _ us hl => match us, hl with | [_, _], _ => rfl) fun cdv A outer s H self a Q E l qa hr h => ?_
  obtain ⟨b, dd, wd, kd, kw, e, z, t, rfl, rfl, bk, hz, q⟩ := h
  obtain ⟨dx, hb⟩ := bk.ob
  obtain ⟨p, hv, ht, hok⟩ := bk.ws.2 z t hz
  refine ⟨_, (pss_cons (ps_if (pt_cmp (pc_dnotin (huD hr) (pv 1) (pe_fld (pv 0) rfl))) pss_never pss_nil)
      (pss_one (ps_ret (pe_dget (huD hr) (pe_fld (pv 0) rfl) (pv 1) (fun _ _ => rfl))))), ?_⟩
  refine ⟨_, rfl, _, rfl, b, _, dx, _, _, rfl, hb, T.c_Book, T.n_Book_words, bf_words _ _, wd, _, rfl, DGet.k (k := Sum.inr z) bk.hw, false, congrArg V.bl (by rw [hv]; rfl), ?_⟩
  refine ⟨_, rfl, b, _, dx, _, _, rfl, hb, T.c_Book, T.n_Book_words, bf_words _ _, _, rfl, wd, _, rfl, hv ▸ DGet.k (k := Sum.inr z) bk.hw, q p ht hok⟩
def p_Book_parameters : Q2 := fun _ self a H Q _ => ∃ (b dd wd : Addr) (kd kw : List (Key × V)) (e : Env) (z : Str) (ps : List Str) (f : Fm), self = .ref b ∧ a = .str z ∧ BkAt K H b dd wd kd kw e ∧ e.defs z = some (ps, f) ∧ ∀ p, TupZ H p (ps.map V.str) → Q (.ref p) H
theorem ok_Book_parameters (T : Txt P w K mg) : FnQ P w K mg base 1 (He.ma K (He.ga K "Book") "parameters") 2 (Sp2 (p_Book_parameters (K := K))) := by
  refine fnQ2 T.F_Book_parameters sc_Book_parameters (fun _ _ _ _ _ _ us hl => match us, hl with | [_, _], _ => rfl) fun cdv A outer s H self a Q E l qa hr h => ?_
  obtain ⟨b, dd, wd, kd, kw, e, z, ps, f, rfl, rfl, bk, hz, q⟩ := h
  obtain ⟨dx, hb⟩ := bk.ob
  obtain ⟨p, pa, fa, hv, hp, hpa, hf⟩ := bk.ds.2 z ps f hz
  refine ⟨_, (pss_cons (ps_if (pt_cmp (pc_dnotin (huD hr) (pv 1) (pe_fld (pv 0) rfl))) pss_never pss_nil)
      (pss_one (ps_ret (pe_ix ix_tup (pe_dget (huD hr) (pe_fld (pv 0) rfl) (pv 1) (fun _ _ => rfl)) pe_int (fun _ _ => rfl))))), ?_⟩
  refine ⟨_, rfl, _, rfl, b, _, dx, _, _, rfl, hb, T.c_Book, T.n_Book_definitions, bf_defs _ _, dd, _, rfl, DGet.k (k := Sum.inr z) bk.hd, false, congrArg V.bl (by rw [hv]; rfl), ?_⟩
  refine ⟨_, rfl, b, _, dx, _, _, rfl, hb, T.c_Book, T.n_Book_definitions, bf_defs _ _, _, rfl, dd, _, rfl, hv ▸ DGet.k (k := Sum.inr z) bk.hd, p, _, _, _, rfl, rfl, SqT.of hp, iV0, q pa hpa⟩
def p_Book_formula : Q2 := fun _ self a H Q _ => ∃ (b dd wd : Addr) (kd kw : List (Key × V)) (e : Env) (z : Str) (ps : List Str) (f : Fm), self = .ref b ∧ a = .str z ∧ BkAt K H b dd wd kd kw e ∧ e.defs z = some (ps, f) ∧ ∀ p, FmAt H f p → Q (.ref p) H
theorem ok_Book_formula (T : Txt P w K mg) : FnQ P w K mg base 1 (He.ma K (He.ga K "Book") "formula") 2 (Sp2 (p_Book_formula (K := K))) := by
  refine fnQ2 T.F_Book_formula sc_Book_formula (fun _ _ _ _ _ _ us hl => match us, hl with | [_, _], _ => rfl) fun cdv A outer s H self a Q E l qa hr h => ?_
  obtain ⟨b, dd, wd, kd, kw, e, z, ps, f, rfl, rfl, bk, hz, q⟩ := h
  obtain ⟨dx, hb⟩ := bk.ob
  obtain ⟨p, pa, fa, hv, hp, hpa, hf⟩ := bk.ds.2 z ps f hz
  refine ⟨_, (pss_cons (ps_if (pt_cmp (pc_dnotin (huD hr) (pv 1) (pe_fld (pv 0) rfl))) pss_never pss_nil)
      (pss_one (ps_ret (pe_ix ix_tup (pe_dget (huD hr) (pe_fld (pv 0) rfl) (pv 1) (fun _ _ => rfl)) pe_int (fun _ _ => rfl))))), ?_⟩
  refine ⟨_, rfl, _, rfl, b, _, dx, _, _, rfl, hb, T.c_Book, T.n_Book_definitions, bf_defs _ _, dd, _, rfl, DGet.k (k := Sum.inr z) bk.hd, false, congrArg V.bl (by rw [hv]; rfl), ?_⟩
  refine ⟨_, rfl, b, _, dx, _, _, rfl, hb, T.c_Book, T.n_Book_definitions, bf_defs _ _, _, rfl, dd, _, rfl, hv ▸ DGet.k (k := Sum.inr z) bk.hd, p, _, _, _, rfl, rfl, SqT.of hp, atI_nat (j := 1) rfl, q fa hf⟩
def Env.setW (e : Env) (z : Str) (t : Tl) : Env := ⟨fun y => if y = z then some t else e.words y, e.defs⟩
def Env.setD (e : Env) (z : Str) (d : List Str × Fm) : Env := ⟨e.words, fun y => if y = z then some d else e.defs y⟩
theorem kS_ne {y z : Str} (h : ¬ y = z) : ¬ ((Sum.inr y : Key) = Sum.inr z) := fun e => h (Sum.inr.inj e)
def p_Book_tell : Q3 := fun _ self a d H Q _ => ∃ (b dd wd : Addr) (kd kw : List (Key × V)) (e : Env) (z : Str) (tp : Addr) (t : Tl), self = .ref b ∧ a = .str z ∧ d = .ref tp ∧ BkAt K H b dd wd kd kw e ∧ e.words z = none ∧ ToldAt K H tp t ∧ t.Ok ∧ kw.length < 10 ∧
  ∀ H' kw', BkAt K H' b dd wd kd kw' (e.setW z t) → kw'.length ≤ kw.length + 1 → Fx [wd] H H' → Q .non H'
theorem ok_Book_tell (T : Txt P w K mg) : FnQ P w K mg base 1 (He.ma K (He.ga K "Book") "tell") 3 (Sp3 (p_Book_tell (K := K))) := by
  refine fnQ3 T.F_Book_tell sc_Book_tell (fun _ _ _ _ _ _ us hl => match us, hl with | [_, _, _], _ => rfl) fun cdv A outer s H self a d Q E l qa hr h => ?_
  obtain ⟨b, dd, wd, kd, kw, e, z, tp, t, rfl, rfl, rfl, bk, hz, ht, tok, h10, q⟩ := h
  obtain ⟨dx, hb⟩ := bk.ob
  have hv := bk.ws.1 z hz
  refine ⟨_, (pss_cons (ps_if (pt_cmp (pc_din (huD hr) (pv 1) (pe_fld (pv 0) rfl))) pss_never pss_nil)
      (pss_one (ps_dput (huD hr) (pe_fld (pv 0) rfl) (pv 1) (pv 2) rfl))), ?_⟩
  refine ⟨_, rfl, _, rfl, b, _, dx, _, _, rfl, hb, T.c_Book, T.n_Book_words, bf_words _ _, wd, _, rfl, DGet.k (k := Sum.inr z) bk.hw, false, congrArg V.bl (by rw [hv]; rfl), ?_⟩
  refine ⟨_, rfl, _, rfl, b, _, dx, _, _, rfl, hb, T.c_Book, T.n_Book_words, bf_words _ _, _, rfl, wd, _, rfl, DPut.k (k := Sum.inr z) bk.hw (by rw [sizeLine_eq]; omega), ?_⟩
  have fx : Fx [wd] H (upd H wd (.dK (putK kw (Sum.inr z) (.ref tp)))) := fx_upd (by simp) fun xs e => by rw [bk.hw] at e; cases e
  have nwd : ∀ b ∈ [wd], (∀ xs, H b ≠ some (.lst xs)) ∧ ∀ C dx fs, H b ≠ some (.ins C dx fs) := fun b hb => by
    rw [List.mem_singleton.mp hb, bk.hw]
    exact ⟨(fun xs z => by cases z), (fun C dx fs z => by cases z)⟩
  have len := length_putK kw (Sum.inr z) (V.ref tp)
  refine q _ (putK kw (Sum.inr z) (.ref tp)) ⟨⟨dx, fx.keep _ _ hb (by simp; exact ne_of hb bk.hw (fun z => by cases z))⟩, fx.keep _ _ bk.hd (by simp; exact bk.ne), upd_same, ⟨fun y hy => ?_, fun y t' hy => ?_⟩, ⟨bk.ds.1, fun y ps g h => ?_⟩, bk.ne, bk.sz.1, by omega⟩ len fx
  · by_cases hyz : y = z
    · simp [Env.setW, hyz] at hy
    · rw [valV_put, if_neg (kS_ne hyz)]
      exact bk.ws.1 y (by simpa [Env.setW, hyz] using hy)
  · rw [valV_put]
    by_cases hyz : y = z
    · have : t' = t := by simpa [Env.setW, hyz] using hy.symm
      subst this
      rw [if_pos (by rw [hyz])]
      exact ⟨tp, rfl, ht.fx fx nwd, tok⟩
    · rw [if_neg (kS_ne hyz)]
      obtain ⟨p, h1, h2, h3⟩ := bk.ws.2 y t' (by simpa [Env.setW, hyz] using hy)
      exact ⟨p, h1, h2.fx fx nwd, h3⟩
  · obtain ⟨p, a, fa, h1, h2, h3, h4⟩ := bk.ds.2 y ps g h
    refine ⟨p, a, fa, h1, fx.tup _ _ h2, h3.keep fx.keep fun z => ?_, h4.keep fx.tup⟩
    obtain ⟨o, h, _⟩ := h3
    rw [List.mem_singleton.mp z, bk.hw] at h
    cases h
def Fm.wf (e : Env) : Fm → Prop
  | .word wd _ _ => ∃ t, e.words wd = some t
  | .call nm as => ∃ ps g, e.defs nm = some (ps, g) ∧ ps.length = as.length
  | .neg f => f.wf e
  | .join _ f g => f.wf e ∧ g.wf e
  | _ => True
theorem parts_wf {e : Env} : ∀ {f : Fm} {g : Fm} {i : Nat}, f.parts[i]? = some g → f.wf e → g.wf e
  | .lin .., g, i, h, _ => by simp [Fm.parts] at h
  | .pow _, g, i, h, _ => by simp [Fm.parts] at h
  | .word .., g, i, h, _ => by simp [Fm.parts] at h
  | .call .., g, i, h, _ => by simp [Fm.parts] at h
  | .neg f, g, i, h, s => by
    match i, h with
    | 0, h => cases h; exact s
  | .join _ f k, g, i, h, s => by
    match i, h with
    | 0, h => cases h; exact s.1
    | 1, h => cases h; exact s.2
theorem parts_depth {f : Fm} {g : Fm} {i : Nat} (e : f.parts[i]? = some g) : g.depth < f.depth := by
  cases f with
  | neg f => match i, e with
    | 0, e => cases e; exact Nat.lt_succ_self _
  | join _ f h => match i, e with
    | 0, e => cases e; exact Nat.lt_succ_of_le (Nat.le_max_left _ _)
    | 1, e => cases e; exact Nat.lt_succ_of_le (Nat.le_max_right _ _)
  | _ => simp [Fm.parts] at e
def p_check_formula (d : Nat) : Q2 := fun _ x a H Q _ => ∃ (b dd wd : Addr) (kd kw : List (Key × V)) (e : Env) (p : Addr) (f : Fm), x = .ref b ∧ a = .ref p ∧ BkAt K H b dd wd kd kw e ∧ FmAt H f p ∧ f.wf e ∧ f.depth ≤ d ∧ ∀ H', L2.Same H H' → Q .non H'
theorem ok_check_formula (T : Txt P w K mg) : ∀ d, FnQ P w K mg base (d + 3) (He.ga K "check_formula") 2 (Sp2 (p_check_formula (K := K) d))
  | 0 => by
    refine fnQ2 T.F_check_formula sc_check_formula (fun _ _ _ _ _ _ us hl => match us, hl with | [_, _], _ => rfl) fun cdv A outer s H x a Q E l qa hr h => ?_
    obtain ⟨b, dd, wd, kd, kw, e, p, f, rfl, rfl, bk, hf, wf, hd, _⟩ := h
    exact absurd f.depth_pos (by omega)
  | d + 1 => by
    have ih := ok_check_formula T d
    refine fnQ2 T.F_check_formula sc_check_formula (fun _ _ _ _ _ _ us hl => match us, hl with | [_, _], _ => rfl) fun cdv A outer s H x a Q E l qa hr h => ?_
    obtain ⟨b, dd, wd, kd, kw, e, p, f, rfl, rfl, bk, hf, wf, hd, q⟩ := h
    refine ⟨_, (pss_cons (ps_if (pt_cmpR op_eq (pe_ix ix_tup (pv 1) pe_int (fun _ _ => rfl)) pe_str (nomark _)) (pss_one (ps_expr (pe_methQ (pv 0) T.c_Book T.m_Book_told (ok_Book_told T) (hr.mono (by omega)) (cxQ_quiet qa) pass0 (pa_cons (pe_ix ix_tup (pv 1) pe_int (fun _ _ => rfl)) pa_nil)))) (pss_one (ps_if (pt_cmpR op_eq (pe_ix ix_tup (pv 1) pe_int (fun _ _ => rfl)) pe_str (nomark _)) (pss_one (ps_if (pt_cmpR op_ne (pe_callB call_len_seq rfl T.free_len PySem.boot_len (pa_cons (pe_methQ (pv 0) T.c_Book T.m_Book_parameters (ok_Book_parameters T) (hr.mono (by omega)) (cxQ_quiet qa) pass0 (pa_cons (pe_ix ix_tup (pv 1) pe_int (fun _ _ => rfl)) pa_nil)) pa_nil)) (pe_callB call_len_seq rfl T.free_len PySem.boot_len (pa_cons (pe_ix ix_tup (pv 1) pe_int (fun _ _ => rfl)) pa_nil)) (nomark _)) pss_never pss_nil)) pss_nil)))
      (pss_one (ps_forQ PassesOwn.leaving (cxQ_quiet qa) (piL (pe_callQ (ok_parts T) (hr.mono (by omega)) (cxQ_quiet qa) T.g_parts pass0 (pa_cons (pv 1) pa_nil))) (pg_name (i := 2) sc_check_formula.nd rfl (Or.inl rfl)) (pss_one (ps_expr (pe_callQ ih (hr.mono (by omega)) (cxQ_quiet qa) T.g_check_formula pass0 (pa_cons (pv 0) (pa_cons (pv 2) pa_nil)))))))), ?_⟩
    have rest : ∀ (H1 : Hp), L2.Same H H1 → tFor (iList K (tCallQ l.isEmpty (Sp1 p_parts) E0 (tCons (tVar 1) tNil))) (gName 2) (tDrop (tCallQ l.isEmpty (Sp2 (p_check_formula (K := K) d)) E0 (tCons (tVar 0) (tCons (tVar 2) tNil)))) { nx := fun _ H' => Q .non H', rt := Q } [some (.ref b), some (.ref p), none] H1 := fun H1 s1 => by
      refine ⟨_, rfl, _, rfl, p, f, rfl, hf.keep fun _ _ z => s1 _ _ z, fun H2 pr s2 ⟨bs, hb1, hb2, hb3⟩ => ?_⟩
      refine ⟨pr, rfl, ⟨_, SqL.of hb1⟩, ?_⟩
      refine for_list (xs := bs.map V.ref) (fun i σ H3 => L2.Same H2 H3 ∧ ∃ o2, σ = [some (.ref b), some (.ref p), o2]) ⟨Same.refl _, none, rfl⟩ (fun i σ H3 _ h => SqL.of (h.1 _ _ hb1)) ?_ ?_
      · rintro i x σ H3 hx ⟨s3, o2, rfl⟩
        obtain ⟨c, e1, rfl⟩ := map_at hx
        obtain ⟨g, e2, hg⟩ := hb3 i c e1
        exact ⟨_, rfl, _, rfl, _, _, rfl, b, dd, wd, kd, kw, e, c, g, rfl, rfl, bk.same ((s1.trans s2).trans s3), hg.keep fun _ _ z => s3 _ _ z, parts_wf e2 wf, by have := parts_depth e2; omega, fun H4 s4 => ⟨s3.trans s4, _, rfl⟩⟩
      · rintro σ H3 ⟨s3, o2, rfl⟩
        exact q H3 ((s1.trans s2).trans s3)
    obtain ⟨dx, hb⟩ := bk.ob
    obtain ⟨xs, hp⟩ := hf.tup
    refine ⟨_, rfl, p, _, _, _, rfl, rfl, SqT.of hp, iV0, rfl, ?_⟩
    cases f with
    | word wd' x o =>
      have hp0 : H p = some (.tup [.str "word", .str wd', .str x, iV o]) := hf
      obtain ⟨t, ht⟩ := wf
      exact ⟨true, dT rfl, _, rfl, b, dx, _, rfl, hb, bf_no _ _ (by decide +kernel) (by decide +kernel), _, rfl, p, _, _, _, rfl, rfl, SqT.of hp0, atI_nat (j := 1) rfl, _, _, rfl, b, dd, wd, kd, kw, e, wd', t, rfl, rfl, bk, ht, fun _ _ _ => rest H (Same.refl _)⟩
    | call nm as =>
      obtain ⟨t0, hp0, ht0⟩ := hf
      obtain ⟨ps, g, hg, hl⟩ := wf
      refine ⟨false, dF (strNe (neS "call" "word")), _, rfl, p, _, _, _, rfl, rfl, SqT.of hp0, iV0, rfl, true, dT rfl, ?_⟩
      refine ⟨_, rfl, b, dx, _, rfl, hb, bf_no _ _ (by decide +kernel) (by decide +kernel), _, rfl, p, _, _, _, rfl, rfl, SqT.of hp0, atI_nat (j := 1) rfl, _, _, rfl, b, dd, wd, kd, kw, e, nm, ps, g, rfl, rfl, bk, hg, fun pz hz => ?_⟩
      refine ⟨pz, _, rfl, .inr hz.sq, _, rfl, p, _, _, _, rfl, rfl, SqT.of hp0, atI_nat (j := 2) rfl, t0, _, rfl, .inr (SqT.of ht0), rfl, false, nF (by rw [List.length_map, List.length_map, hl]), rest H (Same.refl _)⟩
    | lin ex ps c =>
      cases ex
      · exact ⟨false, dF (strNe (neS "le" "word")), _, rfl, p, _, _, _, rfl, rfl, SqT.of hp, iV0, rfl, false, dF (strNe (neS "le" "call")), rest H (Same.refl _)⟩
      · exact ⟨false, dF (strNe (neS "eq" "word")), _, rfl, p, _, _, _, rfl, rfl, SqT.of hp, iV0, rfl, false, dF (strNe (neS "eq" "call")), rest H (Same.refl _)⟩
    | pow x => exact ⟨false, dF (strNe (neS "pow" "word")), _, rfl, p, _, _, _, rfl, rfl, SqT.of hp, iV0, rfl, false, dF (strNe (neS "pow" "call")), rest H (Same.refl _)⟩
    | neg g => exact ⟨false, dF (strNe (neS "not" "word")), _, rfl, p, _, _, _, rfl, rfl, SqT.of hp, iV0, rfl, false, dF (strNe (neS "not" "call")), rest H (Same.refl _)⟩
    | join op g h =>
      obtain ⟨_, _, _, hop, _⟩ := id hf
      exact ⟨false, dF (strNe (opNe hop (by decide +kernel))), _, rfl, p, _, _, _, rfl, rfl, SqT.of hp, iV0, rfl, false, dF (strNe (opNe hop (by decide +kernel))), rest H (Same.refl _)⟩
theorem flat_strs (l : List Str) : (l.map V.str).all flatV = true := by
  rw [List.all_eq_true]
  intro x hx
  obtain ⟨z, _, rfl⟩ := List.mem_map.mp hx
  rfl
theorem nodup_take {l : List Str} (h : l.Nodup) {i : Nat} (hi : i < l.length) : l[i] ∉ l.take i := fun m => by
  obtain ⟨j, hj, e⟩ := List.mem_take_iff_getElem.mp m
  have := (List.getElem_inj h).mp e
  omega
def p_Book_define (d : Nat) : Q4 := fun _ self a y z H Q _ => ∃ (b dd wd : Addr) (kd kw : List (Key × V)) (e : Env) (nm : Str) (pa fa : Addr) (ps : List Str) (f : Fm), self = .ref b ∧ a = .str nm ∧ y = .ref pa ∧ z = .ref fa ∧ BkAt K H b dd wd kd kw e ∧ e.defs nm = none ∧
  TupZ H pa (ps.map V.str) ∧ ps.Nodup ∧ ps.length ≤ 6 ∧ FmAt H f fa ∧ f.wf e ∧ f.sm ∧ f.depth ≤ d ∧ f.free.length ≤ 60 ∧ (∀ x ∈ f.free, x ∈ ps) ∧ kd.length < 10 ∧
  ∀ H' kd', BkAt K H' b dd wd kd' kw (e.setD nm (ps, f)) → kd'.length ≤ kd.length + 1 → Fx [dd] H H' → Q .non H'
theorem ok_Book_define (T : Txt P w K mg) (d : Nat) : FnQ P w K mg base (d + 4) (He.ma K (He.ga K "Book") "define") 4 (Sp4 (p_Book_define (K := K) d)) := by
  have i1 := ok_check_formula (base := base) T d
  have i2 := ok_free_names (base := base) T d
  refine fnQ4 T.F_Book_define sc_Book_define (fun _ _ _ _ _ _ us hl => match us, hl with | [_, _, _, _], _ => rfl) fun cdv A outer s H self a y z Q E l qa hr h => ?_
  obtain ⟨b, dd, wd, kd, kw, e, nm, pa, fa, ps, f, rfl, rfl, rfl, rfl, bk, hz, hpa, nd, p6, hf, wf, sm, hd, h60, hsub, h10, q⟩ := h
  obtain ⟨dx, hb⟩ := bk.ob
  have hv := bk.ds.1 nm hz
  refine ⟨_, (pss_cons (ps_if (pt_cmp (pc_din (huD hr) (pv 1) (pe_fld (pv 0) rfl))) pss_never pss_nil)
      (pss_cons (ps_forQ PassesOwn.leaving (cxQ_quiet qa) (piR1 rfl T.free_range (pa_cons (pe_callB call_len_seq rfl T.free_len PySem.boot_len (pa_cons (pv 2) pa_nil)) pa_nil)) (pg_name (i := 4) sc_Book_define.nd rfl (Or.inl rfl)) (pss_one (ps_if (pt_cmpR op_in_seq (pe_ix ix_tup (pv 2) (pv 4) (fun _ _ => rfl)) (pe_slice sl_tupA (pv 2) po_none (po_some (pv 4))) (by with_unfolding_all rfl)) pss_never pss_nil)))
      (pss_cons (ps_expr (pe_callQ i1 (hr.mono (by omega)) (cxQ_quiet qa) T.g_check_formula pass0 (pa_cons (pv 0) (pa_cons (pv 3) pa_nil))))
      (pss_cons (ps_forQ PassesOwn.leaving (cxQ_quiet qa) (piL (pe_callQ i2 (hr.mono (by omega)) (cxQ_quiet qa) T.g_free_names pass0 (pa_cons (pv 3) pa_nil))) (pg_name (i := 5) sc_Book_define.nd rfl (Or.inl rfl)) (pss_one (ps_if (pt_cmpR op_notIn_seq (pv 5) (pv 2) (by with_unfolding_all rfl)) pss_never pss_nil)))
      (pss_one (ps_dput (huD hr) (pe_fld (pv 0) rfl) (pv 1) (pe_tup (pa_cons (pe_callTy call_tuple_of rfl T.free_tuple (by decide +kernel) (pa_cons (pv 2) pa_nil)) (pa_cons (pv 3) pa_nil))) rfl)))))), ?_⟩
  refine ⟨_, rfl, _, rfl, b, _, dx, _, _, rfl, hb, T.c_Book, T.n_Book_definitions, bf_defs _ _, dd, _, rfl, DGet.k (k := Sum.inr nm) bk.hd, false, congrArg V.bl (by rw [hv]; rfl), ?_⟩
  have pl : (ps.map V.str).length = ps.length := List.length_map _
  refine ⟨_, rfl, pa, _, rfl, .inr hpa.sq, _, rfl, by omega, by rw [pl]; omega, ?_⟩
  refine for_range (fun i σ H1 => L2.Same H H1 ∧ ∃ o4, σ = [some (.ref b), some (.str nm), some (.ref pa), some (.ref fa), o4, none]) ⟨Same.refl _, none, rfl⟩ ?_ ?_
  · rintro i σ H1 hi ⟨s1, o4, rfl⟩
    have hi : i < ps.length := by rw [← pl]; simpa using hi
    have e1 := List.getElem?_eq_getElem hi
    have e2 : (ps.map V.str)[i]? = some (.str ps[i]) := by rw [List.getElem?_map, e1]; rfl
    rw [Int.zero_add]
    refine ⟨_, rfl, _, rfl, pa, _, _, _, rfl, rfl, (hpa.same s1).sq, atI_nat e2, ?_⟩
    have cut : cutV (ps.map V.str) none (some (i : Int)) = (ps.take i).map V.str := by
      show List.take (HT.sIx (ps.map V.str).length (ps.map V.str).length (some (i : Int)) - 0) (List.drop 0 (ps.map V.str)) = _
      rw [HT.sIx_nat, pl, Nat.min_eq_left (by omega), Nat.sub_zero, List.drop_zero, List.map_take]
    refine ⟨_, rfl, _, rfl, _, rfl, pa, _, rfl, (hpa.same s1).sq, fun full => ?_, fun _ t nt => ?_⟩
    · have := full.2
      rw [HT.sIx_nat, pl] at this
      omega
    · rw [cut]
      refine ⟨t, _, rfl, .inr (SqT.of upd_same), rfl, flat_strs _, false, ?_, s1.trans (same_upd nt), _, rfl⟩
      rw [if_neg Bool.false_ne_true, inV_strs, decide_eq_false (nodup_take nd hi)]
  · rintro σ H1 ⟨s1, o4, rfl⟩
    refine ⟨_, rfl, _, rfl, _, _, rfl, b, dd, wd, kd, kw, e, fa, f, rfl, rfl, bk.same s1, hf.keep fun _ _ z => s1 _ _ z, wf, hd, fun H2 s2 => ?_⟩
    refine ⟨_, rfl, _, rfl, fa, f, rfl, hf.keep fun _ _ z => s2 _ _ (s1 _ _ z), sm, hd, h60, fun H3 r ys s3 hys hr3 => ?_⟩
    have sA := (s1.trans s2).trans s3
    refine ⟨r, rfl, ⟨_, SqL.of hr3⟩, ?_⟩
    refine for_list (xs := ys.map V.str) (fun i σ H4 => H4 = H3 ∧ ∃ o5, σ = [some (.ref b), some (.str nm), some (.ref pa), some (.ref fa), o4, o5]) ⟨rfl, none, rfl⟩ (fun i σ H4 _ h => by rw [h.1]; exact SqL.of hr3) ?_ ?_
    · rintro i x σ H4 hx ⟨rfl, o5, rfl⟩
      obtain ⟨y, e1, rfl⟩ := map_at hx
      have hy := hsub y ((hys.2.2 y).mp (List.mem_of_getElem? e1))
      refine ⟨_, rfl, _, rfl, pa, _, rfl, .inr (hpa.same sA).sq, rfl, flat_strs _, false, ?_, rfl, _, rfl⟩
      rw [if_pos rfl, inV_strs, decide_eq_true hy]; rfl
    · rintro σ H4 ⟨rfl, o5, rfl⟩
      have bk4 := bk.same sA
      refine ⟨_, rfl, pa, _, rfl, .inr ⟨(hpa.same sA).sq, _, rfl, by show 2 ≤ sizeLine; decide, fun t nt => ?_⟩⟩
      have s5 := same_upd (o := .tup [.ref pa, .ref fa]) nt
      have ht5 : upd H4 t (.tup [.ref pa, .ref fa]) t = some (.tup [.ref pa, .ref fa]) := upd_same
      have bk5 := bk4.same s5
      have hp5 := (hpa.same sA).same s5
      have hf5 := (hf.keep fun _ _ z => sA _ _ z).keep fun _ _ z => s5 _ _ z
      generalize upd H4 t (.tup [.ref pa, .ref fa]) = H5 at s5 ht5 bk5 hp5 hf5 ⊢
      obtain ⟨dx5, hb5⟩ := bk5.ob
      refine ⟨_, rfl, b, _, dx5, _, _, rfl, hb5, T.c_Book, T.n_Book_definitions, bf_defs _ _, _, rfl, dd, _, rfl, DPut.k (k := Sum.inr nm) bk5.hd (by rw [sizeLine_eq]; omega), ?_⟩
      have fx : Fx [dd] H5 (upd H5 dd (.dK (putK kd (Sum.inr nm) (.ref t)))) := fx_upd (by simp) fun xs e => by rw [bk5.hd] at e; cases e
      have ndd : ∀ b ∈ [dd], (∀ xs, H5 b ≠ some (.lst xs)) ∧ ∀ C dx fs, H5 b ≠ some (.ins C dx fs) := fun b hb => by
        rw [List.mem_singleton.mp hb, bk5.hd]
        exact ⟨(fun xs z => by cases z), (fun C dx fs z => by cases z)⟩
      have ndt : ∀ {a : Addr} {xs : List V}, TupZ H5 a xs → a ∉ [dd] := fun h z => by
        obtain ⟨o, h, _⟩ := h
        rw [List.mem_singleton.mp z, bk5.hd] at h
        cases h
      have len := length_putK kd (Sum.inr nm) (V.ref t)
      refine q _ (putK kd (Sum.inr nm) (.ref t)) ⟨⟨dx5, fx.keep _ _ hb5 (by simp; exact ne_of hb5 bk5.hd (fun z => by cases z))⟩, upd_same, fx.keep _ _ bk5.hw (by simp; exact bk.ne.symm), ⟨bk5.ws.1, fun y t' h => ?_⟩, ⟨fun y hy => ?_, fun y ps' g h => ?_⟩, bk.ne, by omega, bk.sz.2⟩ len ((same_fx (sA.trans s5)).trans fx)
      · obtain ⟨p, h1, h2, h3⟩ := bk5.ws.2 y t' h
        exact ⟨p, h1, h2.fx fx ndd, h3⟩
      · by_cases hyz : y = nm
        · simp [Env.setD, hyz] at hy
        · rw [valV_put, if_neg (kS_ne hyz)]
          exact bk5.ds.1 y (by simpa [Env.setD, hyz] using hy)
      · rw [valV_put]
        by_cases hyz : y = nm
        · have : ps = ps' ∧ f = g := by simpa [Env.setD, hyz] using h
          obtain ⟨rfl, rfl⟩ := this
          rw [if_pos (by rw [hyz])]
          exact ⟨t, pa, fa, rfl, fx.tup _ _ ht5, hp5.keep fx.keep (ndt hp5), hf5.keep fx.tup⟩
        · rw [if_neg (kS_ne hyz)]
          obtain ⟨p, a, fa', h1, h2, h3, h4⟩ := bk5.ds.2 y ps' g (by simpa [Env.setD, hyz] using h)
          exact ⟨p, a, fa', h1, fx.tup _ _ h2, h3.keep fx.keep (ndt h3), h4.keep fx.tup⟩
end
end K36
/-! K36M4: what formulas say, in plain Lean -/
namespace K36
open PySem PySem.Spec PyProof.Rows L2 HotX
/-- the number on a track of a word -/
def tval (j : Nat) : List Nat → Nat
  | [] => 0
  | a :: wd => a / 2 ^ j % 2 + 2 * tval j wd
def lvl : List Int → Nat → List Nat → Int
  | [], _, _ => 0
  | c :: cs, j, wd => c * (tval j wd : Int) + lvl cs (j + 1) wd
def dsl : List Int → Nat → Nat → Int
  | [], _, _ => 0
  | c :: cs, j, a => c * ((a / 2 ^ j % 2 : Nat) : Int) + dsl cs (j + 1) a
theorem dsum_dsl : ∀ (cs : List Int) (j a : Nat), dsum cs (a / 2 ^ j) = dsl cs j a
  | [], _, _ => rfl
  | c :: cs, j, a => by
    show (if a / 2 ^ j % 2 = 1 then c else 0) + dsum cs (a / 2 ^ j / 2) = c * ((a / 2 ^ j % 2 : Nat) : Int) + dsl cs (j + 1) a
    rw [Nat.div_div_eq_div_mul, ← Nat.pow_succ, dsum_dsl cs (j + 1) a]
    by_cases h : a / 2 ^ j % 2 = 1
    · rw [if_pos h, h]; simp
    · have h0 : a / 2 ^ j % 2 = 0 := by omega
      rw [if_neg h, h0]; simp
theorem lvl_cons : ∀ (cs : List Int) (j a : Nat) (wd : List Nat), lvl cs j (a :: wd) = dsl cs j a + 2 * lvl cs j wd
  | [], _, _, _ => rfl
  | c :: cs, j, a, wd => by
    show c * ((a / 2 ^ j % 2 + 2 * tval j wd : Nat) : Int) + lvl cs (j + 1) (a :: wd) = c * ((a / 2 ^ j % 2 : Nat) : Int) + dsl cs (j + 1) a + 2 * (c * (tval j wd : Int) + lvl cs (j + 1) wd)
    rw [lvl_cons cs (j + 1) a wd]
    have e : ((a / 2 ^ j % 2 + 2 * tval j wd : Nat) : Int) = ((a / 2 ^ j % 2 : Nat) : Int) + 2 * (tval j wd : Int) := by omega
    rw [e, Int.mul_add, Int.mul_add, Int.mul_left_comm c 2]
    omega
theorem lvl_nil : ∀ (cs : List Int) (j : Nat), lvl cs j [] = 0
  | [], _ => rfl
  | c :: cs, j => by
    show c * ((0 : Nat) : Int) + lvl cs (j + 1) [] = 0
    rw [lvl_nil cs (j + 1)]; simp
theorem lval_lvl (cs : List Int) : ∀ wd, lval cs wd = lvl cs 0 wd
  | [] => (lvl_nil cs 0).symm
  | a :: wd => by
    show dsum cs a + 2 * lval cs wd = _
    rw [lvl_cons, lval_lvl cs wd, ← dsum_dsl cs 0 a, Nat.pow_zero, Nat.div_one]
def lsum : List (Str × Int) → (Str → Nat) → Int
  | [], _ => 0
  | p :: ps, ν => p.2 * (ν p.1 : Int) + lsum ps ν
theorem lvl_lsum (wd : List Nat) : ∀ (l : List (Str × Int)) (pre : List Str), (pre ++ l.map (·.1)).Nodup → lvl (l.map (·.2)) pre.length wd = lsum l fun x => tval ((pre ++ l.map (·.1)).idxOf x) wd
  | [], _, _ => rfl
  | p :: l, pre, nd => by
    show p.2 * (tval pre.length wd : Int) + lvl (l.map (·.2)) (pre.length + 1) wd = p.2 * (tval ((pre ++ p.1 :: l.map (·.1)).idxOf p.1) wd : Int) + lsum l fun x => tval ((pre ++ p.1 :: l.map (·.1)).idxOf x) wd
    have e : pre ++ p.1 :: l.map (·.1) = (pre ++ [p.1]) ++ l.map (·.1) := by simp
    have np : p.1 ∉ pre := fun h => (List.nodup_append.mp nd).2.2 p.1 h p.1 List.mem_cons_self rfl
    have ih := lvl_lsum wd l (pre ++ [p.1]) (by rw [← e]; exact nd)
    rw [List.length_append] at ih
    rw [show (pre ++ p.1 :: l.map (·.1)).idxOf p.1 = pre.length by rw [List.idxOf_append, if_neg np, List.idxOf_cons_self, Nat.zero_add], e]
    rw [← ih]
    rfl
theorem lsum_congr {ν ν' : Str → Nat} : ∀ {ps : List (Str × Int)}, (∀ x ∈ ps.map (·.1), ν x = ν' x) → lsum ps ν = lsum ps ν'
  | [], _ => rfl
  | p :: ps, h => by
    show p.2 * (ν p.1 : Int) + lsum ps ν = p.2 * (ν' p.1 : Int) + lsum ps ν'
    rw [h p.1 List.mem_cons_self, lsum_congr fun x hx => h x (List.mem_cons_of_mem _ hx)]
/-! powers -/
def isPow (n : Nat) : Bool := if 1 < n ∧ n % 2 = 0 then isPow (n / 2) else decide (n = 1)
termination_by n
decreasing_by omega
theorem pow_even (t : Nat) : isPow (2 * t) = isPow t := by
  by_cases h : t = 0
  · subst h; rfl
  · rw [isPow, if_pos ⟨by omega, by omega⟩, Nat.mul_div_cancel_left _ (by decide)]
theorem pow_odd (t : Nat) : isPow (1 + 2 * t) = decide (t = 0) := by
  rw [isPow, if_neg (by omega)]
  exact decide_eq_decide.mpr ⟨fun _ => by omega, fun _ => by omega⟩
theorem run_cons (m : M) (s a : Nat) (wd : List Nat) : m.run s (a :: wd) = m.run (m.st s a) wd := rfl
theorem pow2 : ∀ (wd : List Nat), Val 1 wd → powM.run 2 wd = 2
  | [], _ => rfl
  | a :: wd, h => by
    have ha : a < 2 := h a List.mem_cons_self
    have ih := pow2 wd fun x hx => h x (List.mem_cons_of_mem _ hx)
    match a, ha with
    | 0, _ => exact ih
    | 1, _ => exact ih
theorem pow1 : ∀ (wd : List Nat), Val 1 wd → powM.accs (powM.run 1 wd) = decide (tval 0 wd = 0)
  | [], _ => rfl
  | a :: wd, h => by
    have ha : a < 2 := h a List.mem_cons_self
    have h' : Val 1 wd := fun x hx => h x (List.mem_cons_of_mem _ hx)
    match a, ha with
    | 0, _ =>
      rw [run_cons, show powM.st 1 0 = 1 from rfl, pow1 wd h']
      exact decide_eq_decide.mpr (by show tval 0 wd = 0 ↔ 0 / 2 ^ 0 % 2 + 2 * tval 0 wd = 0; simp; omega)
    | 1, _ =>
      rw [run_cons, show powM.st 1 1 = 2 from rfl, pow2 wd h']
      exact (decide_eq_false (by show ¬ 1 / 2 ^ 0 % 2 + 2 * tval 0 wd = 0; simp)).symm
theorem pow0 : ∀ (wd : List Nat), Val 1 wd → powM.accs (powM.run 0 wd) = isPow (tval 0 wd)
  | [], _ => by
    rw [show tval 0 [] = 0 from rfl, isPow]
    rfl
  | a :: wd, h => by
    have ha : a < 2 := h a List.mem_cons_self
    have h' : Val 1 wd := fun x hx => h x (List.mem_cons_of_mem _ hx)
    match a, ha with
    | 0, _ =>
      rw [run_cons, show powM.st 0 0 = 0 from rfl, pow0 wd h', show tval 0 (0 :: wd) = 2 * tval 0 wd by show 0 / 2 ^ 0 % 2 + 2 * tval 0 wd = _; simp, pow_even]
    | 1, _ =>
      rw [run_cons, show powM.st 0 1 = 1 from rfl, pow1 wd h', show tval 0 (1 :: wd) = 1 + 2 * tval 0 wd by show 1 / 2 ^ 0 % 2 + 2 * tval 0 wd = _; simp, pow_odd]
/-! words -/
def Tl.go (t : Tl) (s n : Nat) : Nat := if n = 0 then s else t.go (t.st s (n % 2)) (n / 2)
termination_by n
decreasing_by omega
def Tl.out (t : Tl) (n : Nat) : Nat := t.outs.getD (t.go 0 n) 0
theorem Tl.run_go {t : Tl} (ok : t.Ok) (o : Nat) : ∀ (wd : List Nat) (s : Nat), Val 1 wd → s < t.outs.length → t.outs.getD ((t.m o).run s wd) 0 = t.outs.getD (t.go s (tval 0 wd)) 0
  | [], s, _, _ => by
    rw [show tval 0 [] = 0 from rfl, Tl.go, if_pos rfl]
    rfl
  | a :: wd, s, h, hs => by
    have ha : a < 2 := h a List.mem_cons_self
    have h' : Val 1 wd := fun x hx => h x (List.mem_cons_of_mem _ hx)
    have e : tval 0 (a :: wd) = a + 2 * tval 0 wd := by
      show a / 2 ^ 0 % 2 + _ = _
      rw [Nat.pow_zero, Nat.div_one, Nat.mod_eq_of_lt ha]
    rw [run_cons, show (t.m o).st s a = t.st s a from rfl, Tl.run_go ok o wd _ h' ok.st_lt, e]
    by_cases z : a + 2 * tval 0 wd = 0
    · have a0 : a = 0 := by omega
      have t0 : tval 0 wd = 0 := by omega
      rw [t0, a0, Tl.go, if_pos rfl, Tl.go, if_pos rfl, ok.sett s hs]
    · rw [Tl.go.eq_1 t s, if_neg z, show (a + 2 * tval 0 wd) % 2 = a by omega, show (a + 2 * tval 0 wd) / 2 = tval 0 wd by omega]
theorem Tl.word_ok {t : Tl} (ok : t.Ok) (o : Nat) (wd : List Nat) (h : Val 1 wd) : (t.m o).accs ((t.m o).run 0 wd) = decide (t.out (tval 0 wd) = o) := by
  have lt : (t.m o).run 0 wd < t.outs.length := by
    have := (Tl.m_ok ok o).run_lt (Tl.m_ok ok o).pos wd
    rw [← ok.tlen]
    exact this
  rw [Tl.accs ok lt, Tl.run_go ok o wd 0 h ok.pos]
  rfl
/-! spreading -/
theorem lof_bit : ∀ (ds : List Nat) (j : Nat), (∀ d ∈ ds, d < 2) → lof ds / 2 ^ j % 2 = ds.getD j 0
  | [], j, _ => by simp [lof]
  | d :: ds, 0, h => by
    have := h d List.mem_cons_self
    show (d + 2 * lof ds) / 2 ^ 0 % 2 = d
    rw [Nat.pow_zero, Nat.div_one]
    omega
  | d :: ds, j + 1, h => by
    have := h d List.mem_cons_self
    have ih := lof_bit ds j fun x hx => h x (List.mem_cons_of_mem _ hx)
    show (d + 2 * lof ds) / 2 ^ (j + 1) % 2 = ds.getD j 0
    rw [Nat.pow_succ, Nat.mul_comm (2 ^ j) 2, ← Nat.div_div_eq_div_mul, show (d + 2 * lof ds) / 2 = lof ds by omega, ih]
theorem tval_olt (pl : List Nat) {j : Nat} (hj : j < pl.length) : ∀ wd, tval j (wd.map (olt pl)) = tval (pl.getD j 0) wd
  | [] => rfl
  | a :: wd => by
    show olt pl a / 2 ^ j % 2 + 2 * tval j (wd.map (olt pl)) = a / 2 ^ (pl.getD j 0) % 2 + 2 * tval (pl.getD j 0) wd
    rw [tval_olt pl hj wd]
    congr 1
    unfold olt
    rw [lof_bit _ _ fun d hd => by
      obtain ⟨t, _, rfl⟩ := List.mem_map.mp hd
      exact Nat.mod_lt _ (by decide)]
    rw [List.getD_eq_getElem?_getD, List.getElem?_map, List.getElem?_eq_getElem hj, List.getD_eq_getElem?_getD, List.getElem?_eq_getElem hj]
    rfl
/-! formulas -/
def Fm.tr0 (e : Env) (ν : Str → Nat) : Fm → Bool
  | .lin ex ps c => linS ex (lsum ps ν) c
  | .pow x => isPow (ν x)
  | .word wd x o => match e.words wd with
    | some t => decide (t.out (ν x) = o)
    | none => false
  | .call _ _ => false
  | .neg f => !f.tr0 e ν
  | .join op f g => jn op (f.tr0 e ν) (g.tr0 e ν)
def Fm.tr (e : Env) (ν : Str → Nat) : Fm → Bool
  | .call nm as => match e.defs nm with
    | some (ps, g) => g.tr0 e fun x => ν (as.getD (ps.idxOf x) "")
    | none => false
  | .neg f => !f.tr e ν
  | .join op f g => jn op (f.tr e ν) (g.tr e ν)
  | f => f.tr0 e ν
def Fm.nc : Fm → Prop
  | .call _ _ => False
  | .neg f => f.nc
  | .join _ f g => f.nc ∧ g.nc
  | _ => True
theorem Fm.tr_nc {e : Env} {ν : Str → Nat} : ∀ {f : Fm}, f.nc → f.tr e ν = f.tr0 e ν
  | .lin .., _ => rfl
  | .pow _, _ => rfl
  | .word .., _ => rfl
  | .neg f, h => by show (!f.tr e ν) = !f.tr0 e ν; rw [Fm.tr_nc (f := f) h]
  | .join op f g, h => by show jn op (f.tr e ν) (g.tr e ν) = jn op (f.tr0 e ν) (g.tr0 e ν); rw [Fm.tr_nc (f := f) h.1, Fm.tr_nc (f := g) h.2]
theorem Fm.tr0_congr {e : Env} {ν ν' : Str → Nat} : ∀ {f : Fm}, (∀ x ∈ f.free, ν x = ν' x) → f.tr0 e ν = f.tr0 e ν'
  | .lin ex ps c, h => by show linS ex (lsum ps ν) c = linS ex (lsum ps ν') c; rw [lsum_congr h]
  | .pow x, h => by show isPow (ν x) = isPow (ν' x); rw [h x (by simp [Fm.free])]
  | .word wd x o, h => by
    have := h x (by simp [Fm.free])
    unfold Fm.tr0
    rw [this]
  | .call .., _ => rfl
  | .neg f, h => by show (!f.tr0 e ν) = !f.tr0 e ν'; rw [Fm.tr0_congr (f := f) h]
  | .join op f g, h => by
    show jn op (f.tr0 e ν) (g.tr0 e ν) = jn op (f.tr0 e ν') (g.tr0 e ν')
    rw [Fm.tr0_congr (f := f) fun x hx => h x (List.mem_append_left _ hx), Fm.tr0_congr (f := g) fun x hx => h x (List.mem_append_right _ hx)]
/-- what a definition must be -/
def Fm.lok : Fm → Prop
  | .lin _ ps c => sortedS (ps.map (·.1)) = true ∧ (ps.map (·.1)).Nodup ∧ ps.length ≤ 6 ∧ absS (ps.map (·.2)) ≤ 9 ∧ -9 ≤ c ∧ c ≤ 9
  | .neg f => f.lok
  | .join _ f g => f.lok ∧ g.lok
  | _ => True
def Fm.cok (e : Env) : Fm → Prop
  | .call nm as => ∃ ps g, e.defs nm = some (ps, g) ∧ ps.length = as.length ∧ as.length ≤ 6 ∧ ps.Nodup ∧ g.nc ∧ g.lok ∧ g.sm ∧ g.wf e ∧ g.depth ≤ 2 ∧ g.free.length ≤ 60 ∧ ∀ x ∈ g.free, x ∈ ps
  | .neg f => f.cok e
  | .join _ f g => f.cok e ∧ g.cok e
  | _ => True
theorem getD_idx {ps as : List Str} {x : Str} (h : x ∈ ps) (l : ps.length = as.length) : as.getD (ps.idxOf x) "" ∈ as := by
  have : ps.idxOf x < as.length := by rw [← l]; exact List.idxOf_lt_length_of_mem h
  rw [List.getD_eq_getElem?_getD, List.getElem?_eq_getElem this]
  exact List.getElem_mem this
theorem Fm.tr_congr {e : Env} {ν ν' : Str → Nat} : ∀ {f : Fm}, f.cok e → (∀ x ∈ f.free, ν x = ν' x) → f.tr e ν = f.tr e ν'
  | .lin ex ps c, _, h => Fm.tr0_congr (f := .lin ex ps c) h
  | .pow x, _, h => Fm.tr0_congr (f := .pow x) h
  | .word wd x o, _, h => Fm.tr0_congr (f := .word wd x o) h
  | .call nm as, ⟨ps, g, h1, h2, _, _, _, _, _, _, _, _, h3⟩, h => by
    unfold Fm.tr
    rw [h1]
    exact Fm.tr0_congr fun x hx => h _ (getD_idx (h3 x hx) h2)
  | .neg f, c, h => by show (!f.tr e ν) = !f.tr e ν'; rw [Fm.tr_congr (f := f) c h]
  | .join op f g, c, h => by
    show jn op (f.tr e ν) (g.tr e ν) = jn op (f.tr e ν') (g.tr e ν')
    rw [Fm.tr_congr (f := f) c.1 fun x hx => h x (List.mem_append_left _ hx), Fm.tr_congr (f := g) c.2 fun x hx => h x (List.mem_append_right _ hx)]
/-- m is the least machine of f over the names ys -/
structure Res (e : Env) (f : Fm) (ys : List Str) (m : M) : Prop where
  nm : NamesOf f ys
  ok : m.Ok
  mn : m.Min
  wd : m.w = ys.length
  lg : ∀ w, Val m.w w → m.accs (m.run 0 w) = f.tr e fun x => tval (ys.idxOf x) w
end K36
/-! K36M5: results of compiling, the size of a least machine -/
namespace K36
open PySem PySem.Spec PyProof.Rows L2 HotX
theorem val_olt {pl : List Nat} {W : Nat} (wd : List Nat) : Val pl.length (wd.map (olt pl)) := fun x hx => by
  obtain ⟨a, _, rfl⟩ := List.mem_map.mp hx
  exact olt_lt pl a
theorem res_lin {e : Env} {ex : Bool} {ps : List (Str × Int)} {c : Int} {m m' : M} (lk : (Fm.lin ex ps c).lok) (mw : m.w = (ps.map (·.2)).length) (lg : ∀ wd, Val (ps.map (·.2)).length wd → m.accs (m.run 0 wd) = linS ex (lval (ps.map (·.2)) wd) c) (L : LeastOf m m') : Res e (.lin ex ps c) (ps.map (·.1)) m' := by
  obtain ⟨l1, l2, l3, l4⟩ := L
  obtain ⟨h1, h2, _⟩ := lk
  refine ⟨⟨h1, h2, fun x => Iff.rfl⟩, l1, l2, by rw [l3, mw]; simp, fun w hw => ?_⟩
  rw [l3] at hw
  rw [l4 w hw, lg w (by rw [← mw]; exact hw), lval_lvl]
  have := lvl_lsum w ps [] (by simpa using h2)
  show linS ex (lvl (ps.map (·.2)) 0 w) c = linS ex (lsum ps _) c
  rw [show (0 : Nat) = ([] : List Str).length from rfl, this]
  rfl
theorem one_idx {x : Str} : [x].idxOf x = 0 := List.idxOf_cons_self
theorem names_one {f : Fm} {x : Str} (h : f.free = [x]) : NamesOf f [x] := ⟨rfl, by simp, fun y => by rw [h]⟩
theorem res_pow {e : Env} {x : Str} {m' : M} (L : LeastOf powM m') : Res e (.pow x) [x] m' := by
  obtain ⟨l1, l2, l3, l4⟩ := L
  refine ⟨names_one rfl, l1, l2, l3, fun w hw => ?_⟩
  rw [l3] at hw
  rw [l4 w hw, pow0 w hw]
  show _ = isPow (tval ([x].idxOf x) w)
  rw [one_idx]
theorem res_word {e : Env} {wd x : Str} {o : Nat} {t : Tl} {m' : M} (ht : e.words wd = some t) (ok : t.Ok) (L : LeastOf (t.m o) m') : Res e (.word wd x o) [x] m' := by
  obtain ⟨l1, l2, l3, l4⟩ := L
  refine ⟨names_one rfl, l1, l2, l3, fun w hw => ?_⟩
  rw [l3] at hw
  rw [l4 w hw, Tl.word_ok ok o w hw]
  unfold Fm.tr Fm.tr0
  rw [ht]
  show _ = decide (t.out (tval ([x].idxOf x) w) = o)
  rw [one_idx]
theorem res_neg {e : Env} {f : Fm} {ys : List Str} {m mc m' : M} (r : Res e f ys m) (cw : mc.w = m.w) (cl : ∀ wd, mc.accs (mc.run 0 wd) = !m.accs (m.run 0 wd)) (L : LeastOf mc m') : Res e (.neg f) ys m' := by
  obtain ⟨l1, l2, l3, l4⟩ := L
  refine ⟨r.nm, l1, l2, by rw [l3, cw, r.wd], fun w hw => ?_⟩
  rw [l3] at hw
  rw [l4 w hw, cl, r.lg w (by rw [← cw]; exact hw)]
  rfl
/-- a part over more tracks -/
theorem res_spread {e : Env} {f : Fm} {ys zs : List Str} {m m' : M} (r : Res e f ys m) (hs : ∀ x ∈ ys, x ∈ zs) (c : f.cok e) (lg : ∀ wd, Val zs.length wd → m'.accs (m'.run 0 wd) = m.accs (m.run 0 (wd.map (olt (ys.map fun x => zs.idxOf x))))) :
    ∀ wd, Val zs.length wd → m'.accs (m'.run 0 wd) = f.tr e fun x => tval (zs.idxOf x) wd := fun wd hw => by
  have v : Val m.w (wd.map (olt (ys.map fun x => zs.idxOf x))) := by
    have := val_olt (pl := ys.map fun x => zs.idxOf x) (W := 0) wd
    rw [List.length_map, ← r.wd] at this
    exact this
  rw [lg wd hw, r.lg _ v]
  refine Fm.tr_congr c fun x hx => ?_
  have hy := (r.nm.2.2 x).mpr hx
  have hi := List.idxOf_lt_length_of_mem hy
  rw [tval_olt _ (by rw [List.length_map]; exact hi), List.getD_eq_getElem?_getD, List.getElem?_map, List.getElem?_eq_getElem hi, List.getElem_idxOf hi]
  rfl
theorem res_join {e : Env} {op : Str} {f g : Fm} {zs : List Str} {m m' : M} (nz : NamesOf (.join op f g) zs) (mw : m.w = zs.length)
    (lg : ∀ wd, Val zs.length wd → m.accs (m.run 0 wd) = jn op (f.tr e fun x => tval (zs.idxOf x) wd) (g.tr e fun x => tval (zs.idxOf x) wd)) (L : LeastOf m m') : Res e (.join op f g) zs m' := by
  obtain ⟨l1, l2, l3, l4⟩ := L
  refine ⟨nz, l1, l2, by rw [l3, mw], fun w hw => ?_⟩
  rw [l3] at hw
  rw [l4 w hw, lg w (by rw [← mw]; exact hw)]
  rfl
theorem res_call {e : Env} {nm : Str} {as ps ys zs : List Str} {g : Fm} {m0 m m' : M} (nz : NamesOf (.call nm as) zs) (hd : e.defs nm = some (ps, g)) (hl : ps.length = as.length) (nc : g.nc) (r : Res e g ys m0) (hsub : ∀ x ∈ g.free, x ∈ ps) (mw : m.w = zs.length)
    (lg : ∀ wd, Val zs.length wd → m.accs (m.run 0 wd) = m0.accs (m0.run 0 (wd.map (olt ((ys.map fun x => as.getD (ps.idxOf x) "").map fun x => zs.idxOf x))))) (L : LeastOf m m') : Res e (.call nm as) zs m' := by
  obtain ⟨l1, l2, l3, l4⟩ := L
  refine ⟨nz, l1, l2, by rw [l3, mw], fun w hw => ?_⟩
  rw [l3] at hw
  have v : Val m0.w (w.map (olt ((ys.map fun x => as.getD (ps.idxOf x) "").map fun x => zs.idxOf x))) := by
    have := val_olt (pl := (ys.map fun x => as.getD (ps.idxOf x) "").map fun x => zs.idxOf x) (W := 0) w
    rw [List.length_map, List.length_map, ← r.wd] at this
    exact this
  rw [l4 w hw, lg w (by rw [← mw]; exact hw), r.lg _ v, Fm.tr_nc nc]
  unfold Fm.tr
  rw [hd]
  refine Fm.tr0_congr fun x hx => ?_
  have hy := (r.nm.2.2 x).mpr hx
  have hi := List.idxOf_lt_length_of_mem hy
  rw [tval_olt _ (by rw [List.length_map, List.length_map]; exact hi), List.getD_eq_getElem?_getD, List.getElem?_map, List.getElem?_map, List.getElem?_eq_getElem hi, List.getElem_idxOf hi]
  rfl
end K36
/-! K36M6: sorted names are one list; least machines of one language have one size -/
namespace K36
open PySem PySem.Spec PyProof.Rows L2 HotX
theorem lt_cons {a b : Nat} {r t : List Nat} : ltCps (a :: r) (b :: t) = true ↔ a < b ∨ (a = b ∧ ltCps r t = true) := by
  rw [ltCps.eq_4, Bool.or_eq_true, decide_eq_true_iff, Bool.and_eq_true, beq_iff_eq]
theorem lt_tri : ∀ (a b : List Nat), ltCps a b = false → ltCps b a = false → a = b
  | [], [], _, _ => rfl
  | [], b :: t, h, _ => by rw [ltCps.eq_2] at h; cases h
  | a :: r, [], _, h => by rw [ltCps.eq_2] at h; cases h
  | a :: r, b :: t, h1, h2 => by
    have n1 : ¬ (a < b ∨ (a = b ∧ ltCps r t = true)) := fun z => by rw [lt_cons.mpr z] at h1; cases h1
    have n2 : ¬ (b < a ∨ (b = a ∧ ltCps t r = true)) := fun z => by rw [lt_cons.mpr z] at h2; cases h2
    have e : a = b := by omega
    subst e
    have := lt_tri r t (Bool.eq_false_iff.mpr fun z => n1 (.inr ⟨rfl, z⟩)) (Bool.eq_false_iff.mpr fun z => n2 (.inr ⟨rfl, z⟩))
    rw [this]
theorem le_trans' : ∀ (a b c : List Nat), ltCps b a = false → ltCps c b = false → ltCps c a = false
  | [], [], c, _, h => h
  | [], b :: t, [], _, _ => rfl
  | [], b :: t, c :: s, _, _ => ltCps.eq_3 _ _
  | a :: r, [], c, h, _ => by rw [ltCps.eq_2] at h; cases h
  | a :: r, b :: t, [], _, h => by rw [ltCps.eq_2] at h; cases h
  | a :: r, b :: t, c :: s, h1, h2 => by
    have n1 : ¬ (b < a ∨ (b = a ∧ ltCps t r = true)) := fun z => by rw [lt_cons.mpr z] at h1; cases h1
    have n2 : ¬ (c < b ∨ (c = b ∧ ltCps s t = true)) := fun z => by rw [lt_cons.mpr z] at h2; cases h2
    refine Bool.eq_false_iff.mpr fun z => ?_
    rcases lt_cons.mp z with z | ⟨e, z⟩
    · omega
    · have e1 : a = b := by omega
      have e2 : c = b := by omega
      have k := le_trans' r t s (Bool.eq_false_iff.mpr fun z => n1 (.inr ⟨e1.symm, z⟩)) (Bool.eq_false_iff.mpr fun z => n2 (.inr ⟨e2, z⟩))
      rw [k] at z
      cases z
def leS (a b : Str) : Prop := ltCps b.cps.toList a.cps.toList = false
theorem leS_anti {a b : Str} (h1 : leS a b) (h2 : leS b a) : a = b := by
  have := lt_tri _ _ h2 h1
  cases a; cases b
  simp only [Str.mk.injEq]
  exact Array.toList_inj.mp this
theorem leS_trans {a b c : Str} (h1 : leS a b) (h2 : leS b c) : leS a c := le_trans' _ _ _ h1 h2
theorem rising_all : ∀ {l : List Str} {x : Str}, risingS x l = true → ∀ y ∈ l, leS x y
  | [], _, _, y, h => nomatch h
  | a :: l, x, h, y, hy => by
    rw [risingS.eq_2, Bool.and_eq_true, Bool.not_eq_true'] at h
    rcases List.mem_cons.mp hy with rfl | hy
    · exact h.1
    · exact leS_trans h.1 (rising_all h.2 y hy)
theorem sorted_tail {l : List Str} {x : Str} (h : sortedS (x :: l) = true) : sortedS l = true := by
  cases l with
  | nil => rfl
  | cons a l =>
    have h : risingS x (a :: l) = true := h
    rw [risingS.eq_2, Bool.and_eq_true] at h
    exact h.2
theorem sorted_uniq : ∀ {xs ys : List Str}, sortedS xs = true → sortedS ys = true → xs.Nodup → ys.Nodup → (∀ x, x ∈ xs ↔ x ∈ ys) → xs = ys
  | [], [], _, _, _, _, _ => rfl
  | [], y :: ys, _, _, _, _, h => nomatch (h y).mpr List.mem_cons_self
  | x :: xs, [], _, _, _, _, h => nomatch (h x).mp List.mem_cons_self
  | x :: xs, y :: ys, s1, s2, n1, n2, h => by
    have e : x = y := by
      rcases List.mem_cons.mp ((h x).mp List.mem_cons_self) with e | hx
      · exact e
      · rcases List.mem_cons.mp ((h y).mpr List.mem_cons_self) with e | hy
        · exact e.symm
        · exact leS_anti (rising_all s1 y hy) (rising_all s2 x hx)
    subst e
    have n1' := List.nodup_cons.mp n1
    have n2' := List.nodup_cons.mp n2
    rw [sorted_uniq (sorted_tail s1) (sorted_tail s2) n1'.2 n2'.2 fun z => ⟨fun hz => ?_, fun hz => ?_⟩]
    · rcases List.mem_cons.mp ((h z).mp (List.mem_cons_of_mem _ hz)) with e | m
      · exact absurd (e ▸ hz) n1'.1
      · exact m
    · rcases List.mem_cons.mp ((h z).mpr (List.mem_cons_of_mem _ hz)) with e | m
      · exact absurd (e ▸ hz) n2'.1
      · exact m
theorem NamesOf.uniq {f : Fm} {ys zs : List Str} (a : NamesOf f ys) (b : NamesOf f zs) : ys = zs :=
  sorted_uniq a.1 b.1 a.2.1 b.2.1 fun x => (a.2.2 x).trans (b.2.2 x).symm
theorem run_app (m : M) (s : Nat) (u v : List Nat) : m.run s (u ++ v) = m.run (m.run s u) v := by unfold M.run; exact List.foldl_append
theorem size_le {m1 m2 : M} (o1 : m1.Ok) (n1 : m1.Min) (o2 : m2.Ok) (ew : m1.w = m2.w) (lg : ∀ wd, Val m1.w wd → m1.accs (m1.run 0 wd) = m2.accs (m2.run 0 wd)) : m1.tab.length ≤ m2.tab.length := by
  have ch : ∀ s, ∃ u, s < m1.tab.length → Val m1.w u ∧ m1.run 0 u = s := fun s => by
    by_cases h : s < m1.tab.length
    · obtain ⟨u, hu⟩ := n1.reach s h
      exact ⟨u, fun _ => hu⟩
    · exact ⟨[], fun z => absurd z h⟩
  have key : ∀ s t u v, s < m1.tab.length → t < m1.tab.length → Val m1.w u → m1.run 0 u = s → Val m1.w v → m1.run 0 v = t → m2.run 0 u = m2.run 0 v → s = t := fun s t u v hs ht hu eu hv ev e => by
    by_cases h : s = t
    · exact h
    · obtain ⟨wd, hw, d⟩ := n1.dist s t hs ht h
      refine absurd ?_ d
      have va : ∀ {u}, Val m1.w u → Val m1.w (u ++ wd) := fun hu x hx => (List.mem_append.mp hx).elim (hu x) (hw x)
      have e1 := lg (u ++ wd) (va hu)
      have e2 := lg (v ++ wd) (va hv)
      rw [run_app, run_app, eu] at e1
      rw [run_app, run_app, ev] at e2
      rw [e1, e2, e]
  have go : ∀ n, n ≤ m1.tab.length → ∃ L : List Nat, L.length = n ∧ L.Nodup ∧ (∀ x ∈ L, x < m2.tab.length) ∧ ∀ x ∈ L, ∃ s u, s < n ∧ Val m1.w u ∧ m1.run 0 u = s ∧ m2.run 0 u = x := fun n => by
    induction n with
    | zero => exact fun _ => ⟨[], rfl, List.nodup_nil, (fun x h => nomatch h), fun x h => nomatch h⟩
    | succ n ih =>
      intro hn
      obtain ⟨L, l1, l2, l3, l4⟩ := ih (by omega)
      obtain ⟨u, hu⟩ := ch n
      obtain ⟨hu1, hu2⟩ := hu (by omega)
      refine ⟨m2.run 0 u :: L, by rw [List.length_cons, l1], List.nodup_cons.mpr ⟨fun hm => ?_, l2⟩, fun x hx => ?_, fun x hx => ?_⟩
      · obtain ⟨s, v, hs, hv, ev, e⟩ := l4 _ hm
        have := key s n v u (by omega) (by omega) hv ev hu1 hu2 e
        omega
      · rcases List.mem_cons.mp hx with rfl | hx
        · exact o2.run_lt o2.pos u
        · exact l3 x hx
      · rcases List.mem_cons.mp hx with rfl | hx
        · exact ⟨n, u, Nat.lt_succ_self _, hu1, hu2, rfl⟩
        · obtain ⟨s, v, hs, h⟩ := l4 x hx
          exact ⟨s, v, by omega, h⟩
  obtain ⟨L, l1, l2, l3, _⟩ := go _ (Nat.le_refl _)
  have := nodup_le L (List.range m2.tab.length) l2 fun x hx => List.mem_range.mpr (l3 x hx)
  rw [List.length_range] at this
  omega
theorem Res.size {e : Env} {f : Fm} {ys zs : List Str} {m1 m2 : M} (a : Res e f ys m1) (b : Res e f zs m2) : m1.tab.length = m2.tab.length := by
  have ez := a.nm.uniq b.nm
  subst ez
  have ew : m1.w = m2.w := a.wd.trans b.wd.symm
  have lg : ∀ wd, Val m1.w wd → m1.accs (m1.run 0 wd) = m2.accs (m2.run 0 wd) := fun wd h => by rw [a.lg wd h, b.lg wd (by rw [← ew]; exact h)]
  exact Nat.le_antisymm (size_le a.ok a.mn b.ok ew lg) (size_le b.ok b.mn a.ok ew.symm fun wd h => (lg wd (by rw [ew]; exact h)).symm)
/-- some joining of parts that are too large together -/
def Big (e : Env) : Fm → Prop
  | .neg f => Big e f
  | .join _ f g => Big e f ∨ Big e g ∨ ∃ ys zs m1 m2, Res e f ys m1 ∧ Res e g zs m2 ∧ 400 < m1.tab.length * m2.tab.length
  | _ => False
end K36
/-! K36W13: the compiler -/
namespace K36
open PySem PySem.Spec PyProof.Rows L2 HotX
def NmAt (H : Hp) (a : Addr) (ys : List Str) : Prop := H a = some (.tup (ys.map V.str)) ∨ TupZ H a (ys.map V.str)
theorem NmAt.sq {K : PySem.W.Frag} {H : Hp} {a : Addr} {ys : List Str} (h : NmAt H a ys) : SqT K H a (ys.map V.str) := h.elim SqT.of TupZ.sq
theorem NmAt.fx {H H' : Hp} {a c : Addr} {ks : List (Key × V)} {ys : List Str} (f : Fx [c] H H') (hc : H c = some (.dK ks)) (h : NmAt H a ys) : NmAt H' a ys := by
  rcases h with h | h
  · exact .inl (f.tup _ _ h)
  · refine .inr (h.keep f.keep fun z => ?_)
    obtain ⟨o, h, _⟩ := h
    rw [List.mem_singleton.mp z, hc] at h
    cases h
theorem NmAt.same {H H' : Hp} {a : Addr} {ys : List Str} (f : L2.Same H H') (h : NmAt H a ys) : NmAt H' a ys := h.elim (fun h => .inl (f _ _ h)) fun h => .inr (h.same f)
theorem MachAt.fx {K : PySem.W.Frag} {H H' : Hp} {p c : Addr} {m : M} {ks : List (Key × V)} (f : Fx [c] H H') (hc : H c = some (.dK ks)) (t : MachAt K H p m) : MachAt K H' p m := by
  obtain ⟨dx, l, la, h1, h2, h3⟩ := t
  have k : ∀ b xs, H b = some (.lst xs) → H' b = some (.lst xs) := fun b xs e => f.keep b _ e (by simp; exact ne_of e hc (fun z => by cases z))
  exact ⟨dx, l, la, f.keep _ _ h1 (by simp; exact ne_of h1 hc (fun z => by cases z)), h2.same k, k _ _ h3⟩
/-- what compiling gives -/
def OutAt (K : PySem.W.Frag) (H : Hp) (e : Env) (t : Addr) (f : Fm) (ys : List Str) (m : M) : Prop := ∃ nt pm, H t = some (.tup [.ref nt, .ref pm]) ∧ NmAt H nt ys ∧ MachAt K H pm m ∧ Res e f ys m
theorem OutAt.fx {K : PySem.W.Frag} {H H' : Hp} {e : Env} {t c : Addr} {f : Fm} {ys : List Str} {m : M} {ks : List (Key × V)} (x : Fx [c] H H') (hc : H c = some (.dK ks)) (o : OutAt K H e t f ys m) : OutAt K H' e t f ys m :=
  let ⟨nt, pm, h1, h2, h3, h4⟩ := o
  ⟨nt, pm, x.tup _ _ h1, h2.fx x hc, h3.fx x hc, h4⟩
theorem OutAt.same {K : PySem.W.Frag} {H H' : Hp} {e : Env} {t : Addr} {f : Fm} {ys : List Str} {m : M} (x : L2.Same H H') (o : OutAt K H e t f ys m) : OutAt K H' e t f ys m :=
  let ⟨nt, pm, h1, h2, h3, h4⟩ := o
  ⟨nt, pm, x _ _ h1, h2.same x, h3.same x, h4⟩
def cf (b cd : Addr) : List (Str × V) := [("_book", .ref b), ("_definitions", .ref cd)]
theorem cf_put (b cd : Addr) : putF "_definitions" (V.ref cd) (putF "_book" (V.ref b) []) = cf b cd := by
  rw [show putF "_book" (V.ref b) [] = [(("_book" : Str), V.ref b)] from rfl, putF_ne (by decide +kernel)]
  rfl
theorem cf_book (b cd : Addr) : (cf b cd).lookup ("_book" : Str) = some (.ref b) := by rw [← cf_put, lookup_putF, if_neg (by decide +kernel), lookup_putF, if_pos rfl]
theorem cf_defs (b cd : Addr) : (cf b cd).lookup ("_definitions" : Str) = some (.ref cd) := by rw [← cf_put, lookup_putF, if_pos rfl]
theorem cf_no (b cd : Addr) {f : Str} (h1 : ¬ f = "_book") (h2 : ¬ f = "_definitions") : (cf b cd).lookup f = none := by
  rw [← cf_put, lookup_putF, if_neg h2, lookup_putF, if_neg h1]
  rfl
theorem valV_mem {k : Key} {v : V} : ∀ {kvs : List (Key × V)}, valV kvs k = some v → k ∈ kvs.map (·.1)
  | [], h => by cases h
  | (a, x) :: kvs, h => by
    by_cases e : a = k
    · rw [← e]; exact List.mem_cons_self
    · rw [valV_neg e] at h
      exact List.mem_cons_of_mem _ (valV_mem h)
/-- a compiler at cp: its cache at cd -/
structure CpAt (K : PySem.W.Frag) (H : Hp) (cp b cd dd wd : Addr) (kc kd kw : List (Key × V)) (e : Env) : Prop where
  ob : ∃ dx, H cp = some (.ins (He.ga K "Compiler") dx (cf b cd))
  bk : BkAt K H b dd wd kd kw e
  hc : H cd = some (.dK kc)
  n1 : dd ≠ cd
  n2 : wd ≠ cd
  ca : ∀ z v, valV kc (Sum.inr z) = some v → ∃ t ps g ys m, v = .ref t ∧ e.defs z = some (ps, g) ∧ OutAt K H e t g ys m
  sz : ∃ L : List Str, L.Nodup ∧ kc.length ≤ L.length ∧ ∀ z ∈ L, ∃ v, valV kc (Sum.inr z) = some v
theorem CpAt.len {K : PySem.W.Frag} {H : Hp} {cp b cd dd wd : Addr} {kc kd kw : List (Key × V)} {e : Env} (c : CpAt K H cp b cd dd wd kc kd kw e) : kc.length ≤ 10 := by
  obtain ⟨L, nd, hl, hL⟩ := c.sz
  have h := nodup_le (L.map (fun z => (Sum.inr z : Key))) (kd.map (·.1)) (List.Pairwise.map _ (fun a b h e => h (Sum.inr.inj e)) nd) fun k hk => by
    obtain ⟨z, hz, rfl⟩ := List.mem_map.mp hk
    obtain ⟨v, hv⟩ := hL z hz
    obtain ⟨t, ps, g, ys, m, _, hd, _⟩ := c.ca z v hv
    obtain ⟨p, a, fa, h1, _⟩ := c.bk.ds.2 z ps g hd
    exact valV_mem h1
  rw [List.length_map, List.length_map] at h
  have := c.bk.sz.1
  omega
theorem CpAt.same {K : PySem.W.Frag} {H H' : Hp} {cp b cd dd wd : Addr} {kc kd kw : List (Key × V)} {e : Env} (c : CpAt K H cp b cd dd wd kc kd kw e) (s : L2.Same H H') : CpAt K H' cp b cd dd wd kc kd kw e where
  ob := let ⟨dx, h⟩ := c.ob; ⟨dx, s _ _ h⟩
  bk := c.bk.same s
  hc := s _ _ c.hc
  n1 := c.n1
  n2 := c.n2
  ca := fun z v h => let ⟨t, ps, g, ys, m, h1, h2, h3⟩ := c.ca z v h; ⟨t, ps, g, ys, m, h1, h2, h3.same s⟩
  sz := c.sz
section
variable {P : Program} {w : World} {K : PySem.W.Frag} {mg : Str → Option Value} {base : Heap}
def p_Compiler_init : Q2 := fun _ self a H Q _ => ∃ (p dx b : Addr), self = .ref p ∧ a = .ref b ∧ H p = some (.ins (He.ga K "Compiler") dx []) ∧ ∀ H' cd, H' p = some (.ins (He.ga K "Compiler") dx (cf b cd)) → H' cd = some (.dK []) → H cd = none → (∀ b o, H b = some o → b ≠ p → H' b = some o) → Q .non H'
theorem ok_Compiler_init (T : Txt P w K mg) : FnQ P w K mg base 1 (He.ma K (He.ga K "Compiler") "__init__") 2 (Sp2 (p_Compiler_init (K := K))) := by
  refine fnQ2 T.F_Compiler_init sc_Compiler_init (fun _ _ _ _ _ _ us hl => match us, hl with | [_, _], _ => rfl) fun cdv A outer s H self a Q E l qa hr h => ?_
  obtain ⟨p, dx, b, rfl, rfl, hp, q⟩ := h
  refine ⟨_, (pss_cons (ps_fld (pv 0) (pv 1) rfl)
      (pss_one (ps_fld (pv 0) pe_dnewK rfl))), ?_⟩
  refine ⟨_, rfl, _, rfl, p, _, dx, [], rfl, hp, T.c_Compiler, T.n_Compiler_book, (by show 0 < 1000; decide), ?_⟩
  have x1 : ∀ b' o, H b' = some o → b' ≠ p → upd H p (.ins (He.ga K "Compiler") dx (putF "_book" (V.ref b) [])) b' = some o := fun b o e n => by rw [upd_ne n]; exact e
  have p1 : upd H p (.ins (He.ga K "Compiler") dx (putF "_book" (V.ref b) [])) p = some (.ins (He.ga K "Compiler") dx (putF "_book" (V.ref b) [])) := upd_same
  generalize upd H p (.ins (He.ga K "Compiler") dx (putF "_book" (V.ref b) [])) = H1 at x1 p1 ⊢
  refine fun cd nc => ⟨_, rfl, p, _, dx, _, rfl, by rw [upd_ne (ne_of_none p1 nc)]; exact p1, T.c_Compiler, T.n_Compiler_definitions, (by show 1 < 1000; decide), ?_⟩
  rw [cf_put]
  have pc : p ≠ cd := ne_of_none p1 nc
  refine q _ cd upd_same (by rw [upd_ne pc.symm]; exact upd_same) ?_ fun b o e n => ?_
  · cases z : H cd with
    | none => rfl
    | some o => rw [x1 cd o z pc.symm] at nc; cases nc
  · rw [upd_ne n, upd_ne (ne_of_none (x1 _ _ e n) nc)]
    exact x1 _ _ e n
def p_made_linear : Q3 := fun _ self a d H Q _ => ∃ (e : Env) (ex : Bool) (ps : List (Str × Int)) (c : Int) (t pt : Addr), a = .str (hdL ex) ∧ d = .ref t ∧ H t = some (.tup [.ref pt, .int c]) ∧ PrAt H pt ps ∧ (Fm.lin ex ps c).lok ∧
  ∀ H' t' m, L2.Same H H' → OutAt K H' e t' (.lin ex ps c) (ps.map (·.1)) m → Q (.ref t') H'
theorem ok_Compiler_made_linear (T : Txt P w K mg) : FnQ P w K mg base 8 (He.ma K (He.ga K "Compiler") "_made_linear") 3 (Sp3 (p_made_linear (K := K))) := by
  refine fnQ3 T.F_Compiler_made_linear sc_Compiler_made_linear (fun _ _ _ _ _ _ us hl => match us, hl with | [_, _, _], _ => rfl) fun cdv A outer s H self a d Q E l qa hr h => ?_
  obtain ⟨e, ex, ps, c, t, pt, rfl, rfl, ht, pr, lk, q⟩ := h
  refine ⟨_, (pss_cons (ps_set (i := 3) sc_Compiler_made_linear.nd rfl (Or.inl rfl) (pe_callTy call_tuple_of rfl T.free_tuple (by decide +kernel) (pa_cons (pe_lcQ (own := [("name", 4), ("coefficient", 5)]) (g := gTup K 2 (gCons (gName 4) (gCons (gName 5) gNil))) (tt := tYes) (cxQ_quiet qa) sc_Compiler_made_linear.nd (piT (pe_ix ix_tup (pv 2) pe_int (fun _ _ => rfl))) (blkOk_by (N := ["self", "head", "term", "names", "name", "coefficient", "coefficients", "maker"]) (sc := defScope s_Compiler_made_linear) (by decide +kernel)) (fun _ _ _ _ hq => pg_tupQ hq (pgs_cons (pg_name (i := 4) sc_Compiler_made_linear.nd rfl (Or.inl rfl)) (pgs_cons (pg_name (i := 5) sc_Compiler_made_linear.nd rfl (Or.inl rfl)) pgs_nil))) (fun _ _ _ _ hq => pts_nil) (fun _ _ _ _ hq hcm => (pv 4))) pa_nil)))
      (pss_cons (ps_if (pt_cmpR op_gt (pe_callB call_len_seq rfl T.free_len PySem.boot_len (pa_cons (pv 3) pa_nil)) (pe_glob (v := .int 6) rfl T.i_MAX_WIDTH.choose_spec ⟨_, rfl⟩) (nomark _)) pss_never pss_nil)
      (pss_cons (ps_setLcQ (i := 6) (own := [("name", 4), ("coefficient", 5)]) (g := gTup K 2 (gCons (gName 4) (gCons (gName 5) gNil))) (tt := tYes) (cxQ_quiet qa) sc_Compiler_made_linear.nd rfl rfl (sw_true rfl rfl rfl (by decide +kernel)) (piT (pe_ix ix_tup (pv 2) pe_int (fun _ _ => rfl))) (blkOk_by (N := ["self", "head", "term", "names", "name", "coefficient", "coefficients", "maker"]) (sc := defScope s_Compiler_made_linear) (by decide +kernel)) (fun _ _ _ _ hq => pg_tupQ hq (pgs_cons (pg_name (i := 4) sc_Compiler_made_linear.nd rfl (Or.inl rfl)) (pgs_cons (pg_name (i := 5) sc_Compiler_made_linear.nd rfl (Or.inl rfl)) pgs_nil))) (fun _ _ _ _ hq => pts_nil) (fun _ _ _ _ hq hcm => (pv 5)))
      (pss_cons (ps_set (i := 7) sc_Compiler_made_linear.nd rfl (Or.inl rfl) (pe_ifExp (pt_cmpR op_eq (pv 1) pe_str (nomark _)) (pe_glob (v := .ref _) rfl T.g_equation rfl) (pe_glob (v := .ref _) rfl T.g_at_most rfl)))
      (pss_one (ps_ret (pe_tup (pa_cons (pv 3) (pa_cons (pe_callQ (ok_least T) (hr.mono (by omega)) (cxQ_quiet qa) T.g_least pass0 (pa_cons (pe_ix ix_tup (pe_callVQ (ok_equation T) ((ok_at_most T).mono (by omega)) (hr.mono (by omega)) (cxQ_quiet qa) pass0 (pv 7) (pa_cons (pv 6) (pa_cons (pe_ix ix_tup (pv 2) pe_int (fun _ _ => rfl)) pa_nil))) pe_int (fun _ _ => rfl)) pa_nil)) pa_nil))))))))), ?_⟩
  obtain ⟨as, h1, h2, h3⟩ := id pr
  obtain ⟨k1, k2, k3, k4, k5, k6⟩ := id lk
  refine ⟨_, rfl, t, _, _, _, rfl, rfl, SqT.of ht, iV0, pt, rfl, ⟨_, SqT.of h1⟩, fun D nD => ?_⟩
  refine lc_pureT (ys := (ps.map (·.1)).map V.str) nD (SqT.of h1) (by simp [h2]) (by rw [List.length_map]; omega) (fun j x y acc2 kk hx hy hk => ?_) gTup2_mono ?_
  · obtain ⟨b, e1, rfl⟩ := map_at hx
    obtain ⟨p, e3, e4⟩ := h3 j b e1
    obtain ⟨z, e2, rfl⟩ := map_at hy
    obtain ⟨p', e5, rfl⟩ := map_at e2
    rw [e3] at e5
    cases e5
    exact ⟨b, _, rfl, SqT.of (same_upd nD _ _ e4), rfl, _, _, rfl, _, _, rfl, rfl, rfl, _, rfl, hk⟩
  have s1 : L2.Same H (upd H D (.lst ((ps.map (·.1)).map V.str))) := same_upd nD
  refine ⟨D, _, rfl, .inl ⟨SqL.of upd_same, fun nt nnt => ?_⟩⟩
  generalize upd H D (.lst ((ps.map (·.1)).map V.str)) = H1 at s1 nnt ⊢
  have s2 : L2.Same H1 (upd H1 nt (.tup ((ps.map (·.1)).map V.str))) := same_upd nnt
  have hnt : upd H1 nt (.tup ((ps.map (·.1)).map V.str)) nt = some (.tup ((ps.map (·.1)).map V.str)) := upd_same
  generalize upd H1 nt (.tup ((ps.map (·.1)).map V.str)) = H2 at s2 hnt ⊢
  have sA := s1.trans s2
  refine ⟨_, rfl, nt, _, rfl, .inr (SqT.of hnt), _, _, rfl, rfl, false, dF (by rw [List.length_map, List.length_map]; omega), ?_⟩
  refine ⟨_, rfl, t, _, _, _, rfl, rfl, SqT.of (sA _ _ ht), iV0, pt, rfl, ⟨_, SqT.of (sA _ _ h1)⟩, fun D2 nD2 => ?_⟩
  refine lc_pureT (ys := intsV (ps.map (·.2))) nD2 (SqT.of (sA _ _ h1)) (by rw [List.length_map, List.length_map, List.length_map, h2]) (by rw [List.length_map]; omega) (fun j x y acc2 kk hx hy hk => ?_) gTup2_mono ?_
  · obtain ⟨b, e1, rfl⟩ := map_at hx
    obtain ⟨p, e3, e4⟩ := h3 j b e1
    obtain ⟨z, e2, rfl⟩ := map_at hy
    obtain ⟨p', e5, rfl⟩ := map_at e2
    rw [e3] at e5
    cases e5
    exact ⟨b, _, rfl, SqT.of (same_upd nD2 _ _ (sA _ _ e4)), rfl, _, _, rfl, _, _, rfl, rfl, rfl, _, rfl, hk⟩
  have s3 : L2.Same H2 (upd H2 D2 (.lst (intsV (ps.map (·.2))))) := same_upd nD2
  have hD2 : upd H2 D2 (.lst (intsV (ps.map (·.2)))) D2 = some (.lst (intsV (ps.map (·.2)))) := upd_same
  generalize upd H2 D2 (.lst (intsV (ps.map (·.2)))) = H3 at s3 hD2 ⊢
  have sB := sA.trans s3
  cases ex
  · refine ⟨_, rfl, rfl, false, dF (strNe (neS "le" "eq")), ?_⟩
    refine ⟨_, rfl, _, rfl, .inr ⟨rfl, _, rfl, _, rfl, t, _, _, _, rfl, rfl, SqT.of (sB _ _ ht), atI_nat (j := 1) rfl, _, _, rfl, D2, ps.map (·.2), c, rfl, rfl, hD2, by rw [List.length_map]; exact k3, k4, k5, k6, fun H4 t4 p v m s4 h4 nm ok mw lg => ?_⟩⟩
    refine ⟨t4, _, _, _, rfl, rfl, SqT.of h4, iV0, _, rfl, p, m, rfl, nm.at_, ok, fun H5 p5 m5 s5 nm5 L => ?_⟩
    refine ⟨by show 2 ≤ sizeLine; decide, fun t5 nt5 => q _ t5 m5 (((sB.trans s4).trans s5).trans (same_upd nt5)) ⟨nt, p5, upd_same, .inl (same_upd nt5 _ _ (s5 _ _ (s4 _ _ (s3 _ _ hnt)))), nm5.at_.same (same_upd nt5), res_lin lk mw lg L⟩⟩
  · refine ⟨_, rfl, rfl, true, dT rfl, ?_⟩
    refine ⟨_, rfl, _, rfl, .inl ⟨rfl, _, rfl, _, rfl, t, _, _, _, rfl, rfl, SqT.of (sB _ _ ht), atI_nat (j := 1) rfl, _, _, rfl, D2, ps.map (·.2), c, rfl, rfl, hD2, by rw [List.length_map]; exact k3, k4, k5, k6, fun H4 t4 p v m s4 h4 nm ok mw lg => ?_⟩⟩
    refine ⟨t4, _, _, _, rfl, rfl, SqT.of h4, iV0, _, rfl, p, m, rfl, nm.at_, ok, fun H5 p5 m5 s5 nm5 L => ?_⟩
    refine ⟨by show 2 ≤ sizeLine; decide, fun t5 nt5 => q _ t5 m5 (((sB.trans s4).trans s5).trans (same_upd nt5)) ⟨nt, p5, upd_same, .inl (same_upd nt5 _ _ (s5 _ _ (s4 _ _ (s3 _ _ hnt)))), nm5.at_.same (same_upd nt5), res_lin lk mw lg L⟩⟩
def DefsSmall (e : Env) : Prop := ∀ nm ps g, e.defs nm = some (ps, g) → ¬ Big e g
def p_made (K : PySem.W.Frag) (r : Bool) (d : Nat) : Q2 := fun cl self a H Q E => ∃ (cp b cd dd wd : Addr) (kc kd kw : List (Key × V)) (e : Env) (p : Addr) (f : Fm) (L : List Str), self = .ref cp ∧ a = .ref p ∧ CpAt K H cp b cd dd wd kc kd kw e ∧ FmAt H f p ∧ f.wf e ∧ f.sm ∧ f.lok ∧ f.cok e ∧ DefsSmall e ∧ (r = false → f.nc) ∧ f.depth ≤ d ∧ f.free.length ≤ 60 ∧ L.length ≤ 6 ∧ (∀ x ∈ f.free, x ∈ L) ∧
  (∀ H' t ys m kc', Fx [cd] H H' → CpAt K H' cp b cd dd wd kc' kd kw e → OutAt K H' e t f ys m → Q (.ref t) H') ∧ (Big e f → ovS K [cd] cl H E)
end
end K36
/-! K36W14: compiling joinings and calls -/
namespace K36
open PySem PySem.Spec PyProof.Rows L2 HotX
theorem ovS.fx {K : PySem.W.Frag} {cd : Addr} {c : Bool} {H H1 : Hp} {E : XK} (o : ovS K [cd] c H E) (f : Fx [cd] H H1) (h : ∃ u, H1 cd = some u) : ovS K [cd] c H1 E :=
  ⟨o.1, fun d H' nd hd fx => o.2 d H' (by
    cases z : H d with
    | none => rfl
    | some u =>
      by_cases e : d = cd
      · obtain ⟨v, hv⟩ := h
        rw [e, hv] at nd
        cases nd
      · rw [f.keep d u z (by simp; exact e)] at nd
        cases nd) hd (f.trans fx)⟩
theorem ovS.nil {K : PySem.W.Frag} {S : List Addr} {c : Bool} {H : Hp} {E : XK} (o : ovS K S c H E) : ovS K [] c H E := ⟨o.1, fun d H' nd hd fx => o.2 d H' nd hd (fx.mono (fun _ h => nomatch h))⟩
theorem names_len {f : Fm} {ys L : List Str} (n : NamesOf f ys) (hL : ∀ x ∈ f.free, x ∈ L) (l6 : L.length ≤ 6) : ys.length ≤ 6 :=
  Nat.le_trans (nodup_le ys L n.2.1 fun x hx => hL x ((n.2.2 x).mp hx)) l6
section
variable {P : Program} {w : World} {K : PySem.W.Frag} {mg : Str → Option Value} {base : Heap}
def p_made_joined (K : PySem.W.Frag) (r : Bool) (d : Nat) : Q2 := fun cl self a H Q E => ∃ (cp b cd dd wd : Addr) (kc kd kw : List (Key × V)) (e : Env) (p : Addr) (f : Fm) (L : List Str), self = .ref cp ∧ a = .ref p ∧ CpAt K H cp b cd dd wd kc kd kw e ∧ FmAt H f p ∧ f.wf e ∧ f.sm ∧ f.lok ∧ f.cok e ∧ DefsSmall e ∧ (r = false → f.nc) ∧ f.depth ≤ d + 1 ∧ f.free.length ≤ 60 ∧ L.length ≤ 6 ∧ (∀ x ∈ f.free, x ∈ L) ∧ (∃ op g h, f = .join op g h) ∧
  (∀ H' t ys m kc', Fx [cd] H H' → CpAt K H' cp b cd dd wd kc' kd kw e → OutAt K H' e t f ys m → Q (.ref t) H') ∧ (Big e f → ovS K [cd] cl H E)
theorem ok_Compiler_made_joined (T : Txt P w K mg) {r : Bool} {d k : Nat} (ih : FnQ P w K mg base k (He.ma K (He.ga K "Compiler") "_made") 2 (Sp2 (p_made K r d))) (hk : d + 12 ≤ k) : FnQ P w K mg base (k + 1) (He.ma K (He.ga K "Compiler") "_made_joined") 2 (Sp2 (p_made_joined K r d)) := by
  have i2 := ok_free_names (base := base) T (d + 1)
  refine fnQ2 T.F_Compiler_made_joined sc_Compiler_made_joined (fun _ _ _ _ _ _ us hl => match us, hl with | [_, _], _ => rfl) fun cdv A outer s H self a Q E l qa hr h => ?_
  obtain ⟨cp, b, cd, dd, wd, kc, kd, kw, e, p, f, L, rfl, rfl, ca, hf, wf, sm, lok, cok, ds, nc, hd, h60, l6, hL, ⟨op, g, h, rfl⟩, q, qo⟩ := h
  obtain ⟨dx, hcp⟩ := ca.ob
  obtain ⟨bg, bh, hp, hop, hg, hh⟩ := id hf
  have dg : g.depth ≤ d ∧ h.depth ≤ d := by
    have h1 : max g.depth h.depth + 1 ≤ d + 1 := hd
    have := Nat.le_max_left g.depth h.depth
    have := Nat.le_max_right g.depth h.depth
    omega
  have fl : g.free.length + h.free.length ≤ 60 := by
    have : (g.free ++ h.free).length ≤ 60 := h60
    rw [List.length_append] at this
    exact this
  refine ⟨_, (pss_cons (ps_asg (pe_methQ (pv 0) T.c_Compiler T.m_Compiler_made ih (hr.mono (by omega)) (cxQ_quiet qa) passE (pa_cons (pe_ix ix_tup (pv 1) pe_int (fun _ _ => rfl)) pa_nil)) (pg_tupQ (cxQ_quiet qa) (pgs_cons (pg_name (i := 2) sc_Compiler_made_joined.nd rfl (Or.inl rfl)) (pgs_cons (pg_name (i := 3) sc_Compiler_made_joined.nd rfl (Or.inl rfl)) pgs_nil))))
      (pss_cons (ps_asg (pe_methQ (pv 0) T.c_Compiler T.m_Compiler_made ih (hr.mono (by omega)) (cxQ_quiet qa) passE (pa_cons (pe_ix ix_tup (pv 1) pe_int (fun _ _ => rfl)) pa_nil)) (pg_tupQ (cxQ_quiet qa) (pgs_cons (pg_name (i := 4) sc_Compiler_made_joined.nd rfl (Or.inl rfl)) (pgs_cons (pg_name (i := 5) sc_Compiler_made_joined.nd rfl (Or.inl rfl)) pgs_nil))))
      (pss_cons (ps_set (i := 6) sc_Compiler_made_joined.nd rfl (Or.inl rfl) (pe_callTy (tuple_ofZ (K := K)) rfl T.free_tuple (by decide +kernel) (pa_cons (pe_callQ i2 (hr.mono (by omega)) (cxQ_quiet qa) T.g_free_names pass0 (pa_cons (pv 1) pa_nil)) pa_nil)))
      (pss_cons (ps_if (pt_cmpR op_gt (pe_callB call_len_seq rfl T.free_len PySem.boot_len (pa_cons (pv 6) pa_nil)) (pe_glob (v := .int 6) rfl T.i_MAX_WIDTH.choose_spec ⟨_, rfl⟩) (nomark _)) pss_never pss_nil)
      (pss_cons (ps_set (i := 7) sc_Compiler_made_joined.nd rfl (Or.inl rfl) (pe_callQ (ok_spread T) (hr.mono (by omega)) (cxQ_quiet qa) T.g_spread pass0 (pa_cons (pv 3) (pa_cons (pe_callQ (ok_places_in T) (hr.mono (by omega)) (cxQ_quiet qa) T.g_places_in pass0 (pa_cons (pv 2) (pa_cons (pv 6) pa_nil))) (pa_cons (pe_callB call_len_seq rfl T.free_len PySem.boot_len (pa_cons (pv 6) pa_nil)) pa_nil)))))
      (pss_cons (ps_set (i := 8) sc_Compiler_made_joined.nd rfl (Or.inl rfl) (pe_callQ (ok_spread T) (hr.mono (by omega)) (cxQ_quiet qa) T.g_spread pass0 (pa_cons (pv 5) (pa_cons (pe_callQ (ok_places_in T) (hr.mono (by omega)) (cxQ_quiet qa) T.g_places_in pass0 (pa_cons (pv 4) (pa_cons (pv 6) pa_nil))) (pa_cons (pe_callB call_len_seq rfl T.free_len PySem.boot_len (pa_cons (pv 6) pa_nil)) pa_nil)))))
      (pss_one (ps_ret (pe_tup (pa_cons (pv 6) (pa_cons (pe_callQ (ok_least T) (hr.mono (by omega)) (cxQ_quiet qa) T.g_least pass0 (pa_cons (pe_callQ (ok_both T) (hr.mono (by omega)) (cxQ_quiet qa) T.g_both passE (pa_cons (pv 7) (pa_cons (pv 8) (pa_cons (pe_ix ix_tup (pv 1) pe_int (fun _ _ => rfl)) pa_nil)))) pa_nil)) pa_nil))))))))))), ?_⟩
  refine ⟨_, rfl, cp, dx, _, rfl, hcp, cf_no _ _ (by decide +kernel) (by decide +kernel), _, rfl, p, _, _, _, rfl, rfl, SqT.of hp, atI_nat (j := 1) rfl, _, _, rfl, cp, b, cd, dd, wd, kc, kd, kw, e, bg, g, L, rfl, rfl, ca, hg, wf.1, sm.1, lok.1, cok.1, ds, fun z => (nc z).1, dg.1, by omega, l6, fun x hx => hL x (List.mem_append_left _ hx), fun H1 t1 ys1 m1 kc1 f1 c1 o1 => ?_, fun bg => qo (.inl bg)⟩
  obtain ⟨nt1, pm1, ht1, hn1, hm1, r1⟩ := o1
  refine ⟨t1, _, rfl, SqT.of ht1, rfl, _, _, rfl, _, _, rfl, rfl, ?_⟩
  obtain ⟨dx1, hcp1⟩ := c1.ob
  refine ⟨_, rfl, cp, dx1, _, rfl, hcp1, cf_no _ _ (by decide +kernel) (by decide +kernel), _, rfl, p, _, _, _, rfl, rfl, SqT.of (f1.tup _ _ hp), atI_nat (j := 2) rfl, _, _, rfl, cp, b, cd, dd, wd, kc1, kd, kw, e, bh, h, L, rfl, rfl, c1, hh.keep f1.tup, wf.2, sm.2, lok.2, cok.2, ds, fun z => (nc z).2, dg.2, by omega, l6, fun x hx => hL x (List.mem_append_right _ hx), fun H2 t2 ys2 m2 kc2 f2 c2 o2 => ?_, fun bg => (qo (.inr (.inl bg))).fx f1 ⟨_, c1.hc⟩⟩
  obtain ⟨nt2, pm2, ht2, hn2, hm2, r2⟩ := o2
  refine ⟨t2, _, rfl, SqT.of ht2, rfl, _, _, rfl, _, _, rfl, rfl, ?_⟩
  have hn1 := hn1.fx f2 c1.hc
  have hm1 := hm1.fx f2 c1.hc
  have fA := f1.trans f2
  have hf2 := hf.keep fA.tup
  refine ⟨_, rfl, _, rfl, p, _, rfl, hf2, sm, hd, h60, fun H3 r3 zs s3 nz h3 => ⟨r3, _, rfl, .inl ⟨SqL.of h3, fun nt o nnt od => ?_⟩⟩⟩
  have z6 := names_len nz hL l6
  have s4 : L2.Same H3 (upd H3 nt (.frz o (.tup (zs.map V.str)))) := same_upd nnt
  have tz : TupZ (upd H3 nt (.frz o (.tup (zs.map V.str)))) nt (zs.map V.str) := ⟨o, upd_same, od⟩
  generalize upd H3 nt (.frz o (.tup (zs.map V.str))) = H4 at s4 tz ⊢
  have sB := s3.trans s4
  have zl : (zs.map V.str).length = zs.length := List.length_map _
  have hn1B := hn1.same sB
  have hn2B := hn2.same sB
  have hm1B := hm1.same sB
  have hm2B := hm2.same sB
  have in1 : ∀ x ∈ ys1, x ∈ zs := fun x hx => (nz.2.2 x).mpr (List.mem_append_left _ ((r1.nm.2.2 x).mp hx))
  have in2 : ∀ x ∈ ys2, x ∈ zs := fun x hx => (nz.2.2 x).mpr (List.mem_append_right _ ((r2.nm.2.2 x).mp hx))
  have y1 := names_len r1.nm (fun x hx => hL x (List.mem_append_left _ hx)) l6
  have y2 := names_len r2.nm (fun x hx => hL x (List.mem_append_right _ hx)) l6
  refine ⟨_, rfl, nt, _, rfl, .inr tz.sq, _, _, rfl, rfl, false, dF (by rw [zl]; omega), ?_⟩
  refine ⟨_, rfl, _, rfl, _, rfl, _, _, rfl, nt1, nt, ys1, zs, rfl, rfl, .inr hn1B.sq, tz, in1, by omega, fun H5 q1 s5 _ hq1 => ?_⟩
  refine ⟨_, rfl, nt, _, rfl, .inr (tz.same s5).sq, _, _, _, rfl, pm1, q1, m1, _, (zs.map V.str).length, rfl, rfl, rfl, hm1B.same s5, r1.ok, hq1, by rw [List.length_map, r1.wd], by rw [zl]; exact z6, fun t ht => by
    obtain ⟨x, hx, rfl⟩ := List.mem_map.mp ht
    rw [zl]
    exact List.idxOf_lt_length_of_mem (in1 x hx), fun H6 p6 m6 s6 nm6 ok6 w6 le6 lg6 => ?_⟩
  have s56 := s5.trans s6
  refine ⟨_, rfl, _, rfl, _, rfl, _, _, rfl, nt2, nt, ys2, zs, rfl, rfl, .inr (hn2B.same s56).sq, tz.same s56, in2, by omega, fun H7 q2 s7 _ hq2 => ?_⟩
  refine ⟨_, rfl, nt, _, rfl, .inr (tz.same (s56.trans s7)).sq, _, _, _, rfl, pm2, q2, m2, _, (zs.map V.str).length, rfl, rfl, rfl, hm2B.same (s56.trans s7), r2.ok, hq2, by rw [List.length_map, r2.wd], by rw [zl]; exact z6, fun t ht => by
    obtain ⟨x, hx, rfl⟩ := List.mem_map.mp ht
    rw [zl]
    exact List.idxOf_lt_length_of_mem (in2 x hx), fun H8 p8 m8 s8 nm8 ok8 w8 le8 lg8 => ?_⟩
  rw [zl] at w6 lg6 w8 lg8
  have s78 := s7.trans s8
  have sC := sB.trans (s56.trans s78)
  have fC : Fx [cd] H H8 := fA.trans (same_fx sC)
  have c8 := c2.same sC
  have e1 := res_spread r1 in1 cok.1 lg6
  have e2 := res_spread r2 in2 cok.2 lg8
  refine ⟨_, rfl, _, rfl, _, rfl, _, rfl, p, _, _, _, rfl, rfl, SqT.of (fC.tup _ _ hp), iV0, _, _, _, rfl, p6, p8, m6, m8, op, rfl, rfl, rfl, (nm6.at_.same s78), nm8.at_, ok6, ok8, by rw [w6, w8], hop, fun H9 p9 m9 s9 nm9 ok9 w9 lg9 => ?_, fun big => ?_⟩
  · refine ⟨_, rfl, p9, m9, rfl, nm9.at_, ok9, fun H10 p10 m10 s10 nm10 L10 => ⟨by show 2 ≤ sizeLine; decide, fun t11 n11 => ?_⟩⟩
    have sD := (s9.trans s10).trans (same_upd (o := .tup [.ref nt, .ref p10]) n11)
    refine q _ t11 zs m10 kc2 (fC.trans (same_fx sD)) (c8.same sD) ⟨nt, p10, upd_same, .inr (tz.same ((s56.trans s78).trans sD)), nm10.at_.same (same_upd n11), res_join nz (by rw [w9, w6]) (fun wd hv => ?_) L10⟩
    rw [lg9 wd (by rw [w6]; exact hv), e1 wd hv, e2 wd hv]
  · refine ((qo (.inr (.inr ⟨ys1, ys2, m1, m2, r1, r2, Nat.lt_of_lt_of_le big (Nat.mul_le_mul le6 le8)⟩))).fx fC ⟨_, c8.hc⟩).nil
theorem length_putK_old {kvs : List (Key × V)} {k : Key} {v u : V} (h : valV kvs k = some u) : (putK kvs k v).length = kvs.length := by
  have hm := valV_mem h
  obtain ⟨kv, h1, h2⟩ := List.mem_map.mp hm
  unfold putK
  rw [if_pos (List.any_eq_true.mpr ⟨kv, h1, decide_eq_true h2⟩), List.length_map]
def p_Compiler_definition (K : PySem.W.Frag) : Q2 := fun _ self a H Q _ => ∃ (cp b cd dd wd : Addr) (kc kd kw : List (Key × V)) (e : Env) (nm : Str) (ps : List Str) (g : Fm), self = .ref cp ∧ a = .str nm ∧ CpAt K H cp b cd dd wd kc kd kw e ∧ e.defs nm = some (ps, g) ∧ ps.length ≤ 6 ∧ g.nc ∧ g.lok ∧ g.sm ∧ g.wf e ∧ g.depth ≤ 2 ∧ g.free.length ≤ 60 ∧ (∀ x ∈ g.free, x ∈ ps) ∧ DefsSmall e ∧
  ∀ H' t ys m kc', Fx [cd] H H' → CpAt K H' cp b cd dd wd kc' kd kw e → OutAt K H' e t g ys m → Q (.ref t) H'
theorem nc_cok {e : Env} : ∀ {f : Fm}, f.nc → f.cok e
  | .lin .., _ => trivial
  | .pow _, _ => trivial
  | .word .., _ => trivial
  | .neg f, h => nc_cok (f := f) h
  | .join _ f g, h => ⟨nc_cok (f := f) h.1, nc_cok (f := g) h.2⟩
theorem ok_Compiler_definition (T : Txt P w K mg) {k : Nat} (ih : FnQ P w K mg base k (He.ma K (He.ga K "Compiler") "_made") 2 (Sp2 (p_made K false 2))) (hk : 1 ≤ k) : FnQ P w K mg base (k + 1) (He.ma K (He.ga K "Compiler") "definition") 2 (Sp2 (p_Compiler_definition K)) := by
  refine fnQ2 T.F_Compiler_definition sc_Compiler_definition (fun _ _ _ _ _ _ us hl => match us, hl with | [_, _], _ => rfl) fun cdv A outer s H self a Q E l qa hr h => ?_
  obtain ⟨cp, b, cd, dd, wd, kc, kd, kw, e, nm, ps, g, rfl, rfl, ca, hd, p6, nc, lok, sm, wf, dep, h60, sub, ds, q⟩ := h
  obtain ⟨dx, hcp⟩ := ca.ob
  refine ⟨_, (pss_cons (ps_if (pt_cmp (pc_dnotin (huD hr) (pv 1) (pe_fld (pv 0) rfl))) (pss_cons (ps_set (i := 2) sc_Compiler_definition.nd rfl (Or.inl rfl) (pe_methQ (pe_fld (pv 0) rfl) T.c_Book T.m_Book_formula (ok_Book_formula T) (hr.mono (by omega)) (cxQ_quiet qa) pass0 (pa_cons (pv 1) pa_nil)))
        (pss_one (ps_dput (huD hr) (pe_fld (pv 0) rfl) (pv 1) (pe_methQ (pv 0) T.c_Compiler T.m_Compiler_made ih (hr.mono (by omega)) (cxQ_quiet qa) pass0 (pa_cons (pv 2) pa_nil)) rfl))) pss_nil)
      (pss_one (ps_ret (pe_dget (huD hr) (pe_fld (pv 0) rfl) (pv 1) (fun _ _ => rfl))))), ?_⟩
  refine ⟨_, rfl, _, rfl, cp, _, dx, _, _, rfl, hcp, T.c_Compiler, T.n_Compiler_definitions, cf_defs _ _, cd, _, rfl, DGet.k (k := Sum.inr nm) ca.hc, ?_⟩
  cases hv : valV kc (Sum.inr nm) with
  | some v =>
    obtain ⟨t, ps', g', ys, m, rfl, hd', o⟩ := ca.ca nm v hv
    rw [hd] at hd'
    cases hd'
    refine ⟨false, rfl, _, rfl, cp, _, dx, _, _, rfl, hcp, T.c_Compiler, T.n_Compiler_definitions, cf_defs _ _, _, rfl, cd, _, rfl, hv ▸ DGet.k (k := Sum.inr nm) ca.hc, q H t ys m kc (same_fx (Same.refl _)) ca o⟩
  | none =>
    refine ⟨true, rfl, _, rfl, cp, _, dx, _, _, rfl, hcp, T.c_Compiler, T.n_Compiler_book, cf_book _ _, ?_⟩
    obtain ⟨dxb, hb⟩ := ca.bk.ob
    refine ⟨b, dxb, _, rfl, hb, bf_no _ _ (by decide +kernel) (by decide +kernel), _, rfl, _, _, rfl, b, dd, wd, kd, kw, e, nm, ps, g, rfl, rfl, ca.bk, hd, fun fa hfa => ?_⟩
    refine ⟨_, rfl, cp, dx, _, rfl, hcp, cf_no _ _ (by decide +kernel) (by decide +kernel), _, rfl, _, _, rfl, cp, b, cd, dd, wd, kc, kd, kw, e, fa, g, ps, rfl, rfl, ca, hfa, wf, sm, lok, nc_cok nc, ds, fun _ => nc, dep, h60, p6, sub, fun H1 t ys m kc1 f1 c1 o1 => ?_, fun bg => absurd bg (ds nm ps g hd)⟩
    obtain ⟨dx1, hcp1⟩ := c1.ob
    have l10 := c1.len
    refine ⟨_, rfl, cp, _, dx1, _, _, rfl, hcp1, T.c_Compiler, T.n_Compiler_definitions, cf_defs _ _, _, rfl, cd, _, rfl, DPut.k (k := Sum.inr nm) c1.hc (by rw [sizeLine_eq]; omega), ?_⟩
    have fx : Fx [cd] H1 (upd H1 cd (.dK (putK kc1 (Sum.inr nm) (.ref t)))) := fx_upd (by simp) fun xs e => by rw [c1.hc] at e; cases e
    have hcd : upd H1 cd (.dK (putK kc1 (Sum.inr nm) (.ref t))) cd = some (.dK (putK kc1 (Sum.inr nm) (.ref t))) := upd_same
    have c2 : CpAt K (upd H1 cd (.dK (putK kc1 (Sum.inr nm) (.ref t)))) cp b cd dd wd (putK kc1 (Sum.inr nm) (.ref t)) kd kw e := by
      refine ⟨⟨dx1, fx.keep _ _ hcp1 (by simp; exact ne_of hcp1 c1.hc (fun z => by cases z))⟩, c1.bk.fx fx c1.hc c1.n1 c1.n2, hcd, c1.n1, c1.n2, fun z v hz => ?_, ?_⟩
      · rw [valV_put] at hz
        by_cases hzn : z = nm
        · rw [if_pos (by rw [hzn])] at hz
          cases hz
          exact ⟨t, ps, g, ys, m, rfl, by rw [hzn]; exact hd, o1.fx fx c1.hc⟩
        · rw [if_neg (kS_ne hzn)] at hz
          obtain ⟨t', ps', g', ys', m', h1, h2, h3⟩ := c1.ca z v hz
          exact ⟨t', ps', g', ys', m', h1, h2, h3.fx fx c1.hc⟩
      · obtain ⟨L, nd, hl, hL⟩ := c1.sz
        have len := length_putK kc1 (Sum.inr nm) (V.ref t)
        have keep : ∀ z ∈ L, ∃ v, valV (putK kc1 (Sum.inr nm) (V.ref t)) (Sum.inr z) = some v := fun z hz => by
          rw [valV_put]
          by_cases hzn : z = nm
          · rw [if_pos (by rw [hzn])]; exact ⟨_, rfl⟩
          · rw [if_neg (kS_ne hzn)]; exact hL z hz
        by_cases hm : nm ∈ L
        · obtain ⟨v, hv'⟩ := hL nm hm
          refine ⟨L, nd, ?_, keep⟩
          rw [length_putK_old hv']
          exact hl
        · refine ⟨nm :: L, List.nodup_cons.mpr ⟨hm, nd⟩, by rw [List.length_cons]; omega, fun z hz => ?_⟩
          rcases List.mem_cons.mp hz with rfl | hz
          · exact ⟨_, by rw [valV_put, if_pos rfl]⟩
          · exact keep z hz
    obtain ⟨dx2, hcp2⟩ := c2.ob
    have hg : DGet (upd H1 cd (.dK (putK kc1 (Sum.inr nm) (.ref t)))) cd (.str nm) (some (.ref t)) := by
      have := DGet.k (k := Sum.inr nm) hcd
      rw [valV_put, if_pos rfl] at this
      exact this
    refine ⟨_, rfl, cp, _, dx2, _, _, rfl, hcp2, T.c_Compiler, T.n_Compiler_definitions, cf_defs _ _, _, rfl, cd, _, rfl, hg, q _ t ys m _ (f1.trans fx) c2 (o1.fx fx c1.hc)⟩
end
end K36
/-! K36W15: compiling calls, formulas -/
namespace K36
open PySem PySem.Spec PyProof.Rows L2 HotX
section
variable {P : Program} {w : World} {K : PySem.W.Frag} {mg : Str → Option Value} {base : Heap}
def p_made_call (K : PySem.W.Frag) (r : Bool) : Q2 := fun cl self a H Q E => r = true ∧ ∃ (cp b cd dd wd : Addr) (kc kd kw : List (Key × V)) (e : Env) (p : Addr) (nm : Str) (as : List Str) (L : List Str), self = .ref cp ∧ a = .ref p ∧ CpAt K H cp b cd dd wd kc kd kw e ∧ FmAt H (.call nm as) p ∧ (Fm.call nm as).cok e ∧ DefsSmall e ∧ L.length ≤ 6 ∧ (∀ x ∈ as, x ∈ L) ∧
  (∀ H' t ys m kc', Fx [cd] H H' → CpAt K H' cp b cd dd wd kc' kd kw e → OutAt K H' e t (.call nm as) ys m → Q (.ref t) H')
theorem ok_Compiler_made_call (T : Txt P w K mg) {k : Nat} (ih : FnQ P w K mg base k (He.ma K (He.ga K "Compiler") "definition") 2 (Sp2 (p_Compiler_definition K))) (hk : 8 ≤ k) : FnQ P w K mg base (k + 1) (He.ma K (He.ga K "Compiler") "_made_call") 2 (Sp2 (p_made_call K true)) := by
  have i2 := ok_free_names (base := base) T 1
  refine fnQ2 T.F_Compiler_made_call sc_Compiler_made_call (fun _ _ _ _ _ _ us hl => match us, hl with | [_, _], _ => rfl) fun cdv A outer s H self a Q E l qa hr h => ?_
  obtain ⟨_, cp, b, cd, dd, wd, kc, kd, kw, e, p, nm, as, L, rfl, rfl, ca, hf, ⟨ps, g, hd, pl, a6, pnd, nc, lok, sm, wf, dep, h60, sub⟩, ds, l6, hL, q⟩ := h
  obtain ⟨dx, hcp⟩ := ca.ob
  obtain ⟨ta, hp, hta⟩ := id hf
  refine ⟨_, (pss_cons (ps_asg (pe_methQ (pv 0) T.c_Compiler T.m_Compiler_definition ih (hr.mono (by omega)) (cxQ_quiet qa) pass0 (pa_cons (pe_ix ix_tup (pv 1) pe_int (fun _ _ => rfl)) pa_nil)) (pg_tupQ (cxQ_quiet qa) (pgs_cons (pg_name (i := 2) sc_Compiler_made_call.nd rfl (Or.inl rfl)) (pgs_cons (pg_name (i := 3) sc_Compiler_made_call.nd rfl (Or.inl rfl)) pgs_nil))))
      (pss_cons (ps_set (i := 4) sc_Compiler_made_call.nd rfl (Or.inr rfl) (pe_methQ (pe_fld (pv 0) rfl) T.c_Book T.m_Book_parameters (ok_Book_parameters T) (hr.mono (by omega)) (cxQ_quiet qa) pass0 (pa_cons (pe_ix ix_tup (pv 1) pe_int (fun _ _ => rfl)) pa_nil)))
      (pss_cons (ps_set (i := 5) sc_Compiler_made_call.nd rfl (Or.inl rfl) (pe_callTy (tuple_ofZ (K := K)) rfl T.free_tuple (by decide +kernel) (pa_cons (pe_callQ i2 (hr.mono (by omega)) (cxQ_quiet qa) T.g_free_names pass0 (pa_cons (pv 1) pa_nil)) pa_nil)))
      (pss_cons (ps_if (pt_cmpR op_gt (pe_callB call_len_seq rfl T.free_len PySem.boot_len (pa_cons (pv 5) pa_nil)) (pe_glob (v := .int 6) rfl T.i_MAX_WIDTH.choose_spec ⟨_, rfl⟩) (nomark _)) pss_never pss_nil)
      (pss_cons (ps_setLcQ (i := 6) (own := [("name", 7)]) (g := gName 7) (tt := tYes) (cxQ_quiet qa) sc_Compiler_made_call.nd rfl rfl (sw_true rfl rfl rfl (by decide +kernel)) (piT (pv 2)) (blkOk_by (N := ["self", "formula", "own_names", "machine", "parameters", "names", "given", "name"]) (sc := defScope s_Compiler_made_call) (by decide +kernel)) (fun _ _ _ _ hq => pg_name (i := 7) sc_Compiler_made_call.nd rfl (Or.inl rfl)) (fun _ _ _ _ hq => pts_nil) (fun _ _ _ _ hq hcm => (pe_ix (ix_tupK (K := K)) (pe_ix (ix_tupK (K := K)) (pv 1) pe_int (fun _ _ => rfl)) (pe_tupIx (K := K) (pv 4) (pa_cons (pv 7) pa_nil)) (fun _ _ => rfl))))
      (pss_one (ps_ret (pe_tup (pa_cons (pv 5) (pa_cons (pe_callQ (ok_least T) (hr.mono (by omega)) (cxQ_quiet qa) T.g_least pass0 (pa_cons (pe_callQ (ok_spread T) (hr.mono (by omega)) (cxQ_quiet qa) T.g_spread pass0 (pa_cons (pv 3) (pa_cons (pe_callQ (ok_places_in T) (hr.mono (by omega)) (cxQ_quiet qa) T.g_places_in pass0 (pa_cons (pv 6) (pa_cons (pv 5) pa_nil))) (pa_cons (pe_callB call_len_seq rfl T.free_len PySem.boot_len (pa_cons (pv 5) pa_nil)) pa_nil)))) pa_nil)) pa_nil)))))))))), ?_⟩
  refine ⟨_, rfl, cp, dx, _, rfl, hcp, cf_no _ _ (by decide +kernel) (by decide +kernel), _, rfl, p, _, _, _, rfl, rfl, SqT.of hp, atI_nat (j := 1) rfl, _, _, rfl, cp, b, cd, dd, wd, kc, kd, kw, e, nm, ps, g, rfl, rfl, ca, hd, by omega, nc, lok, sm, wf, dep, h60, sub, ds, fun H1 t1 ys m0 kc1 f1 c1 o1 => ?_⟩
  obtain ⟨nt1, pm1, ht1, hn1, hm1, r1⟩ := o1
  refine ⟨t1, _, rfl, SqT.of ht1, rfl, _, _, rfl, _, _, rfl, rfl, ?_⟩
  obtain ⟨dx1, hcp1⟩ := c1.ob
  obtain ⟨dxb, hb⟩ := c1.bk.ob
  have hp1 := f1.tup _ _ hp
  have hta1 := f1.tup _ _ hta
  refine ⟨_, rfl, cp, _, dx1, _, _, rfl, hcp1, T.c_Compiler, T.n_Compiler_book, cf_book _ _, b, dxb, _, rfl, hb, bf_no _ _ (by decide +kernel) (by decide +kernel), _, rfl, p, _, _, _, rfl, rfl, SqT.of hp1, atI_nat (j := 1) rfl, _, _, rfl, b, dd, wd, kd, kw, e, nm, ps, g, rfl, rfl, c1.bk, hd, fun pz hpz => ?_⟩
  have fd : (Fm.call nm as).free = as := rfl
  refine ⟨_, rfl, _, rfl, p, .call nm as, rfl, hf.keep f1.tup, a6, Nat.le_refl _, by rw [fd]; omega, fun H3 r3 zs s3 nz h3 => ⟨r3, _, rfl, .inl ⟨SqL.of h3, fun nt o nnt od => ?_⟩⟩⟩
  have z6 := names_len nz hL l6
  have s4 : L2.Same H3 (upd H3 nt (.frz o (.tup (zs.map V.str)))) := same_upd nnt
  have tz : TupZ (upd H3 nt (.frz o (.tup (zs.map V.str)))) nt (zs.map V.str) := ⟨o, upd_same, od⟩
  generalize upd H3 nt (.frz o (.tup (zs.map V.str))) = H4 at s4 tz ⊢
  have sB := s3.trans s4
  have zl : (zs.map V.str).length = zs.length := List.length_map _
  have yl : ys.length ≤ 6 := names_len r1.nm sub (by omega)
  have inp : ∀ x ∈ ys, x ∈ ps := fun x hx => sub x ((r1.nm.2.2 x).mp hx)
  have hn4 := hn1.same sB
  refine ⟨_, rfl, nt, _, rfl, .inr tz.sq, _, _, rfl, rfl, false, dF (by rw [zl]; omega), ?_⟩
  refine ⟨_, rfl, nt1, rfl, ⟨_, hn4.sq⟩, fun D nD => ?_⟩
  refine lc_pureT (ys := (ys.map fun x => as.getD (ps.idxOf x) "").map V.str) nD hn4.sq (by simp) (by rw [List.length_map]; omega) (fun j x y acc2 kk hx hy hk => ?_) gName_mono ?_
  · obtain ⟨z, e1, rfl⟩ := map_at hx
    obtain ⟨u, e2, rfl⟩ := map_at hy
    obtain ⟨z', e3, rfl⟩ := map_at e2
    rw [e1] at e3
    cases e3
    have sX := sB.trans (same_upd (o := .lst acc2) nD)
    have hz := inp z (List.mem_of_getElem? e1)
    have iz := List.idxOf_lt_length_of_mem hz
    have e5 : (as.map V.str)[ps.idxOf z]? = some (.str (as.getD (ps.idxOf z) "")) := by
      rw [List.getElem?_map, List.getD_eq_getElem?_getD, List.getElem?_eq_getElem (by rw [← pl]; exact iz)]
      rfl
    exact ⟨rfl, _, rfl, p, _, _, _, rfl, rfl, SqT.of (sX _ _ hp1), atI_nat (j := 2) rfl, _, rfl, ⟨pz, _, rfl, hpz.same sX⟩, _, rfl, pz, ps, z, ps.idxOf z, rfl, rfl, (hpz.same sX).sq, getElem?_idxOf hz, fun m hm' e => by have := idxOf_min ps m z e; omega, ta, _, _, _, rfl, rfl, SqT.of (sX _ _ hta1), atI_nat e5, hk⟩
  · have s5 : L2.Same H4 (upd H4 D (.lst ((ys.map fun x => as.getD (ps.idxOf x) "").map V.str))) := same_upd nD
    have hD5 : upd H4 D (.lst ((ys.map fun x => as.getD (ps.idxOf x) "").map V.str)) D = some (.lst ((ys.map fun x => as.getD (ps.idxOf x) "").map V.str)) := upd_same
    generalize upd H4 D (.lst ((ys.map fun x => as.getD (ps.idxOf x) "").map V.str)) = H5 at s5 hD5 ⊢
    have sC := sB.trans s5
    have tz5 := tz.same s5
    have inz : ∀ x ∈ ys.map (fun x => as.getD (ps.idxOf x) ""), x ∈ zs := fun x hx => by
      obtain ⟨y, hy, rfl⟩ := List.mem_map.mp hx
      exact (nz.2.2 _).mpr (getD_idx (inp y hy) pl)
    refine ⟨_, rfl, _, rfl, _, rfl, _, rfl, _, _, rfl, D, nt, ys.map (fun x => as.getD (ps.idxOf x) ""), zs, rfl, rfl, .inl (SqL.of hD5), tz5, inz, by rw [List.length_map]; omega, fun H6 q6 s6 _ hq6 => ?_⟩
    refine ⟨_, rfl, nt, _, rfl, .inr (tz5.same s6).sq, _, _, _, rfl, pm1, q6, m0, _, (zs.map V.str).length, rfl, rfl, rfl, hm1.same (sC.trans s6), r1.ok, hq6, by rw [List.length_map, List.length_map, r1.wd], by rw [zl]; exact z6, fun t ht => by
      obtain ⟨x, hx, rfl⟩ := List.mem_map.mp ht
      rw [zl]
      exact List.idxOf_lt_length_of_mem (inz x hx), fun H7 p7 m7 s7 nm7 ok7 w7 le7 lg7 => ?_⟩
    rw [zl] at w7 lg7
    refine ⟨_, rfl, p7, m7, rfl, nm7.at_, ok7, fun H8 p8 m8 s8 nm8 L8 => ⟨by show 2 ≤ sizeLine; decide, fun t9 n9 => ?_⟩⟩
    have sD := ((s6.trans s7).trans s8).trans (same_upd (o := .tup [.ref nt, .ref p8]) n9)
    exact q _ t9 zs m8 kc1 (f1.trans (same_fx (sC.trans sD))) (c1.same (sC.trans sD)) ⟨nt, p8, upd_same, .inr (tz5.same sD), nm8.at_.same (same_upd n9), res_call nz hd pl nc r1 sub w7 lg7 L8⟩
theorem ok_made_call0 (T : Txt P w K mg) (k : Nat) : FnQ P w K mg base (k + 1) (He.ma K (He.ga K "Compiler") "_made_call") 2 (Sp2 (p_made_call K false)) := by
  refine fnQ2 T.F_Compiler_made_call sc_Compiler_made_call (fun _ _ _ _ _ _ us hl => match us, hl with | [_, _], _ => rfl) fun cdv A outer s H self a Q E l qa hr h => ?_
  exact absurd h.1 Bool.false_ne_true
theorem in4 {z : Str} {b : Bool} (h : decide (z ∈ ops4) = b) : V.bl (if false = true then !inV (.str z) [.str "and", .str "or", .str "imp", .str "iff"] else inV (.str z) [.str "and", .str "or", .str "imp", .str "iff"]) = .bl b := by
  rw [if_neg Bool.false_ne_true, show [V.str "and", V.str "or", V.str "imp", V.str "iff"] = ops4.map V.str from rfl, inV_strs, h]
theorem ok_Compiler_made (T : Txt P w K mg) {r : Bool} {B : Nat} (hB : 20 ≤ B) (hc : FnQ P w K mg base B (He.ma K (He.ga K "Compiler") "_made_call") 2 (Sp2 (p_made_call K r))) : ∀ d, FnQ P w K mg base (B + 2 * d) (He.ma K (He.ga K "Compiler") "_made") 2 (Sp2 (p_made K r d))
  | 0 => by
    obtain ⟨B, rfl⟩ : ∃ B', B = B' + 1 := ⟨B - 1, by omega⟩
    refine fnQ2 T.F_Compiler_made sc_Compiler_made (fun _ _ _ _ _ _ us hl => match us, hl with | [_, _], _ => rfl) fun cdv A outer s H self a Q E l qa hr h => ?_
    obtain ⟨cp, b, cd, dd, wd, kc, kd, kw, e, p, f, L, rfl, rfl, ca, hf, wf, sm, lok, cok, ds, nc, hd, _⟩ := h
    exact absurd f.depth_pos (by omega)
  | d + 1 => by
    have ih := ok_Compiler_made T hB hc d
    have ij := ok_Compiler_made_joined T ih (by omega)
    refine fnQ2 T.F_Compiler_made sc_Compiler_made (fun _ _ _ _ _ _ us hl => match us, hl with | [_, _], _ => rfl) (k := B + 2 * d + 1) fun cdv A outer s H self a Q E l qa hr h => ?_
    obtain ⟨cp, b, cd, dd, wd, kc, kd, kw, e, p, f, L, rfl, rfl, ca, hf, wf, sm, lok, cok, ds, nc, hd, h60, l6, hL, q, qo⟩ := h
    obtain ⟨dx, hcp⟩ := ca.ob
    refine ⟨_, (pss_cons (ps_set (i := 2) sc_Compiler_made.nd rfl (Or.inl rfl) (pe_ix ix_tup (pv 1) pe_int (fun _ _ => rfl)))
      (pss_cons (ps_if (pt_cmpR op_in_seq (pv 2) (pe_tup (pa_cons pe_str (pa_cons pe_str pa_nil))) (by with_unfolding_all rfl)) (pss_one (ps_ret (pe_methQ (pv 0) T.c_Compiler T.m_Compiler_made_linear (ok_Compiler_made_linear T) (hr.mono (by omega)) (cxQ_quiet qa) pass0 (pa_cons (pv 2) (pa_cons (pe_ix ix_tup (pv 1) pe_int (fun _ _ => rfl)) pa_nil))))) pss_nil)
      (pss_cons (ps_if (pt_cmpR op_eq (pv 2) pe_str (nomark _)) (pss_one (ps_ret (pe_tup (pa_cons (pe_tup (pa_cons (pe_ix ix_tup (pv 1) pe_int (fun _ _ => rfl)) pa_nil)) (pa_cons (pe_callQ (ok_least T) (hr.mono (by omega)) (cxQ_quiet qa) T.g_least pass0 (pa_cons (pe_call0Q (ok_powers T) (hr.mono (by omega)) (cxQ_quiet qa) T.g_powers pass0) pa_nil)) pa_nil))))) pss_nil)
      (pss_cons (ps_if (pt_cmpR op_eq (pv 2) pe_str (nomark _)) (pss_one (ps_ret (pe_tup (pa_cons (pe_tup (pa_cons (pe_ix ix_tup (pv 1) pe_int (fun _ _ => rfl)) pa_nil)) (pa_cons (pe_callQ (ok_least T) (hr.mono (by omega)) (cxQ_quiet qa) T.g_least pass0 (pa_cons (pe_methQ (pe_methQ (pe_fld (pv 0) rfl) T.c_Book T.m_Book_told (ok_Book_told T) (hr.mono (by omega)) (cxQ_quiet qa) pass0 (pa_cons (pe_ix ix_tup (pv 1) pe_int (fun _ _ => rfl)) pa_nil)) T.c_Told T.m_Told_machine (ok_Told_machine T) (hr.mono (by omega)) (cxQ_quiet qa) pass0 (pa_cons (pe_ix ix_tup (pv 1) pe_int (fun _ _ => rfl)) pa_nil)) pa_nil)) pa_nil))))) pss_nil)
      (pss_cons (ps_if (pt_cmpR op_eq (pv 2) pe_str (nomark _)) (pss_cons (ps_asg (pe_methQ (pv 0) T.c_Compiler T.m_Compiler_made ih (hr.mono (by omega)) (cxQ_quiet qa) passE (pa_cons (pe_ix ix_tup (pv 1) pe_int (fun _ _ => rfl)) pa_nil)) (pg_tupQ (cxQ_quiet qa) (pgs_cons (pg_name (i := 3) sc_Compiler_made.nd rfl (Or.inl rfl)) (pgs_cons (pg_name (i := 4) sc_Compiler_made.nd rfl (Or.inl rfl)) pgs_nil))))
        (pss_one (ps_ret (pe_tup (pa_cons (pv 3) (pa_cons (pe_callQ (ok_least T) (hr.mono (by omega)) (cxQ_quiet qa) T.g_least pass0 (pa_cons (pe_callQ (ok_complement T) (hr.mono (by omega)) (cxQ_quiet qa) T.g_complement pass0 (pa_cons (pv 4) pa_nil)) pa_nil)) pa_nil)))))) pss_nil)
      (pss_cons (ps_if (pt_cmpR op_in_seq (pv 2) (pe_tup (pa_cons pe_str (pa_cons pe_str (pa_cons pe_str (pa_cons pe_str pa_nil))))) (by with_unfolding_all rfl)) (pss_one (ps_ret (pe_methQ (pv 0) T.c_Compiler T.m_Compiler_made_joined ij (hr.mono (by omega)) (cxQ_quiet qa) passE (pa_cons (pv 1) pa_nil)))) pss_nil)
      (pss_cons (ps_if (pt_cmpR op_eq (pv 2) pe_str (nomark _)) (pss_one (ps_ret (pe_methQ (pv 0) T.c_Compiler T.m_Compiler_made_call hc (hr.mono (by omega)) (cxQ_quiet qa) pass0 (pa_cons (pv 1) pa_nil)))) pss_nil)
      (pss_cons (ps_if (pt_cmpR op_eq (pv 2) pe_str (nomark _)) (pss_one ps_never) pss_nil)
      (pss_one ps_never))))))))), ?_⟩
    obtain ⟨xs, hp⟩ := hf.tup
    refine ⟨_, rfl, p, _, _, _, rfl, rfl, SqT.of hp, iV0, ?_⟩
    clear hp
    cases f with
    | lin ex ps c =>
      obtain ⟨t, pt, hp0, ht, pr⟩ := hf
      refine ⟨_, rfl, by show 2 ≤ sizeLine; decide, fun t0 n0 => ⟨t0, _, rfl, .inr (SqT.of upd_same), rfl, rfl, true, in2T (hd_eq ex), ?_⟩⟩
      have s1 := same_upd (o := .tup [.str "eq", .str "le"]) n0
      generalize upd H t0 (.tup [.str "eq", .str "le"]) = H1 at s1 ⊢
      refine ⟨_, rfl, cp, dx, _, rfl, s1 _ _ hcp, cf_no _ _ (by decide +kernel) (by decide +kernel), _, rfl, _, rfl, p, _, _, _, rfl, rfl, SqT.of (s1 _ _ hp0), atI_nat (j := 1) rfl, _, _, _, rfl, e, ex, ps, c, t, pt, rfl, rfl, s1 _ _ ht, pr.keep fun _ _ z => s1 _ _ z, lok, fun H2 t2 m s2 o => ?_⟩
      exact q H2 t2 _ m kc (same_fx (s1.trans s2)) (ca.same (s1.trans s2)) o
    | pow x =>
      have hp0 : H p = some (.tup [.str "pow", .str x]) := hf
      refine ⟨_, rfl, by show 2 ≤ sizeLine; decide, fun t0 n0 => ⟨t0, _, rfl, .inr (SqT.of upd_same), rfl, rfl, false, in2F (neS "pow" "eq") (neS "pow" "le"), ?_⟩⟩
      have s1 := same_upd (o := .tup [.str "eq", .str "le"]) n0
      generalize upd H t0 (.tup [.str "eq", .str "le"]) = H1 at s1 ⊢
      refine ⟨_, rfl, rfl, true, dT rfl, _, rfl, p, _, _, _, rfl, rfl, SqT.of (s1 _ _ hp0), atI_nat (j := 1) rfl, by show 1 ≤ sizeLine; decide, fun nt nnt => ?_⟩
      have s2 := same_upd (o := .tup [.str x]) nnt
      have hnt : upd H1 nt (.tup [.str x]) nt = some (.tup ([x].map V.str)) := upd_same
      generalize upd H1 nt (.tup [.str x]) = H2 at s2 hnt ⊢
      refine ⟨rfl, fun H3 pm s3 nm3 => ⟨_, rfl, pm, powM, rfl, nm3.at_, powM_ok, fun H4 p4 m4 s4 nm4 L4 => ⟨by show 2 ≤ sizeLine; decide, fun t5 n5 => ?_⟩⟩⟩
      have sD := ((s1.trans s2).trans (s3.trans s4)).trans (same_upd (o := .tup [.ref nt, .ref p4]) n5)
      exact q _ t5 [x] m4 kc (same_fx sD) (ca.same sD) ⟨nt, p4, upd_same, .inl (same_upd n5 _ _ (s4 _ _ (s3 _ _ hnt))), nm4.at_.same (same_upd n5), res_pow L4⟩
    | word wd' x o =>
      have hp0 : H p = some (.tup [.str "word", .str wd', .str x, iV o]) := hf
      obtain ⟨t, ht⟩ := wf
      refine ⟨_, rfl, by show 2 ≤ sizeLine; decide, fun t0 n0 => ⟨t0, _, rfl, .inr (SqT.of upd_same), rfl, rfl, false, in2F (neS "word" "eq") (neS "word" "le"), ?_⟩⟩
      have s1 := same_upd (o := .tup [.str "eq", .str "le"]) n0
      generalize upd H t0 (.tup [.str "eq", .str "le"]) = H1 at s1 ⊢
      refine ⟨_, rfl, rfl, false, dF (strNe (neS "word" "pow")), _, rfl, rfl, true, dT rfl, _, rfl, p, _, _, _, rfl, rfl, SqT.of (s1 _ _ hp0), atI_nat (j := 2) rfl, by show 1 ≤ sizeLine; decide, fun nt nnt => ?_⟩
      have s2 := same_upd (o := .tup [.str x]) nnt
      have hnt : upd H1 nt (.tup [.str x]) nt = some (.tup ([x].map V.str)) := upd_same
      generalize upd H1 nt (.tup [.str x]) = H2 at s2 hnt ⊢
      have sA := s1.trans s2
      obtain ⟨dxb, hb⟩ := (ca.bk.same sA).ob
      refine ⟨_, rfl, cp, _, dx, _, _, rfl, sA _ _ hcp, T.c_Compiler, T.n_Compiler_book, cf_book _ _, b, dxb, _, rfl, hb, bf_no _ _ (by decide +kernel) (by decide +kernel), _, rfl, p, _, _, _, rfl, rfl, SqT.of (sA _ _ hp0), atI_nat (j := 1) rfl, _, _, rfl, b, dd, wd, kd, kw, e, wd', t, rfl, rfl, ca.bk.same sA, ht, fun p0 h0 tok => ?_⟩
      obtain ⟨dx0, oa, ta, h0', _⟩ := id h0
      refine ⟨p0, dx0, _, rfl, h0', tf_no _ _ (by decide +kernel) (by decide +kernel), _, rfl, p, _, _, _, rfl, rfl, SqT.of (sA _ _ hp0), atI_nat (j := 3) rfl, _, _, rfl, p0, t, o, rfl, rfl, h0, tok, fun H3 pm s3 nm3 => ⟨_, rfl, pm, t.m o, rfl, nm3.at_, Tl.m_ok tok o, fun H4 p4 m4 s4 nm4 L4 => ⟨by show 2 ≤ sizeLine; decide, fun t5 n5 => ?_⟩⟩⟩
      have sD := (sA.trans (s3.trans s4)).trans (same_upd (o := .tup [.ref nt, .ref p4]) n5)
      exact q _ t5 [x] m4 kc (same_fx sD) (ca.same sD) ⟨nt, p4, upd_same, .inl (same_upd n5 _ _ (s4 _ _ (s3 _ _ hnt))), nm4.at_.same (same_upd n5), res_word ht tok L4⟩
    | call nm as =>
      have rt : r = true := by
        cases r with
        | true => rfl
        | false => exact (nc rfl).elim
      refine ⟨_, rfl, by show 2 ≤ sizeLine; decide, fun t0 n0 => ⟨t0, _, rfl, .inr (SqT.of upd_same), rfl, rfl, false, in2F (neS "call" "eq") (neS "call" "le"), ?_⟩⟩
      have s1 := same_upd (o := .tup [.str "eq", .str "le"]) n0
      generalize upd H t0 (.tup [.str "eq", .str "le"]) = H1 at s1 ⊢
      refine ⟨_, rfl, rfl, false, dF (strNe (neS "call" "pow")), _, rfl, rfl, false, dF (strNe (neS "call" "word")), _, rfl, rfl, false, dF (strNe (neS "call" "not")), _, rfl, by show 4 ≤ sizeLine; decide, fun t4 n4 => ⟨t4, _, rfl, .inr (SqT.of upd_same), rfl, rfl, false, in4 (decide_eq_false (show ¬ ("call" : Str) ∈ ops4 by decide +kernel)), ?_⟩⟩
      have s2 := same_upd (o := .tup [.str "and", .str "or", .str "imp", .str "iff"]) n4
      generalize upd H1 t4 (.tup [.str "and", .str "or", .str "imp", .str "iff"]) = H2 at s2 ⊢
      have sA := s1.trans s2
      refine ⟨_, rfl, rfl, true, dT rfl, _, rfl, cp, dx, _, rfl, sA _ _ hcp, cf_no _ _ (by decide +kernel) (by decide +kernel), _, rfl, _, _, rfl, rt, cp, b, cd, dd, wd, kc, kd, kw, e, p, nm, as, L, rfl, rfl, ca.same sA, hf.keep fun _ _ z => sA _ _ z, cok, ds, l6, hL, fun H3 t3 ys m kc3 f3 c3 o3 => q H3 t3 ys m kc3 ((same_fx sA).trans f3) c3 o3⟩
    | neg g =>
      obtain ⟨bg, hp0, hg⟩ := id hf
      have dg : g.depth ≤ d := Nat.le_of_succ_le_succ hd
      refine ⟨_, rfl, by show 2 ≤ sizeLine; decide, fun t0 n0 => ⟨t0, _, rfl, .inr (SqT.of upd_same), rfl, rfl, false, in2F (neS "not" "eq") (neS "not" "le"), ?_⟩⟩
      have s1 := same_upd (o := .tup [.str "eq", .str "le"]) n0
      generalize upd H t0 (.tup [.str "eq", .str "le"]) = H1 at s1 ⊢
      refine ⟨_, rfl, rfl, false, dF (strNe (neS "not" "pow")), _, rfl, rfl, false, dF (strNe (neS "not" "word")), _, rfl, rfl, true, dT rfl, _, rfl, cp, dx, _, rfl, s1 _ _ hcp, cf_no _ _ (by decide +kernel) (by decide +kernel), _, rfl, p, _, _, _, rfl, rfl, SqT.of (s1 _ _ hp0), atI_nat (j := 1) rfl, _, _, rfl, cp, b, cd, dd, wd, kc, kd, kw, e, bg, g, L, rfl, rfl, ca.same s1, hg.keep fun _ _ z => s1 _ _ z, wf, sm, lok, cok, ds, nc, dg, h60, l6, hL, fun H2 t2 ys m kc2 f2 c2 o2 => ?_, fun bg => (qo bg).fx (same_fx s1) ⟨_, s1 _ _ ca.hc⟩⟩
      obtain ⟨nt, pm, ht2, hn2, hm2, r2⟩ := o2
      refine ⟨t2, _, rfl, SqT.of ht2, rfl, _, _, rfl, _, _, rfl, rfl, _, rfl, _, rfl, _, rfl, pm, m, rfl, hm2, r2.ok, fun H3 pc mc s3 nm3 okc wc lc => ?_⟩
      refine ⟨_, rfl, pc, mc, rfl, nm3.at_, okc, fun H4 p4 m4 s4 nm4 L4 => ⟨by show 2 ≤ sizeLine; decide, fun t5 n5 => ?_⟩⟩
      have sD := (s3.trans s4).trans (same_upd (o := .tup [.ref nt, .ref p4]) n5)
      exact q _ t5 ys m4 kc2 (((same_fx s1).trans f2).trans (same_fx sD)) (c2.same sD) ⟨nt, p4, upd_same, hn2.same sD, nm4.at_.same (same_upd n5), res_neg r2 wc lc L4⟩
    | join op g h =>
      obtain ⟨bg, bh, hp0, hop, hg, hh⟩ := id hf
      refine ⟨_, rfl, by show 2 ≤ sizeLine; decide, fun t0 n0 => ⟨t0, _, rfl, .inr (SqT.of upd_same), rfl, rfl, false, in2F (opNe hop (by decide +kernel)) (opNe hop (by decide +kernel)), ?_⟩⟩
      have s1 := same_upd (o := .tup [.str "eq", .str "le"]) n0
      generalize upd H t0 (.tup [.str "eq", .str "le"]) = H1 at s1 ⊢
      refine ⟨_, rfl, rfl, false, dF (strNe (opNe hop (by decide +kernel))), _, rfl, rfl, false, dF (strNe (opNe hop (by decide +kernel))), _, rfl, rfl, false, dF (strNe (opNe hop (by decide +kernel))), _, rfl, by show 4 ≤ sizeLine; decide, fun t4 n4 => ⟨t4, _, rfl, .inr (SqT.of upd_same), rfl, rfl, true, in4 (decide_eq_true hop), ?_⟩⟩
      have s2 := same_upd (o := .tup [.str "and", .str "or", .str "imp", .str "iff"]) n4
      generalize upd H1 t4 (.tup [.str "and", .str "or", .str "imp", .str "iff"]) = H2 at s2 ⊢
      have sA := s1.trans s2
      refine ⟨_, rfl, cp, dx, _, rfl, sA _ _ hcp, cf_no _ _ (by decide +kernel) (by decide +kernel), _, rfl, _, _, rfl, cp, b, cd, dd, wd, kc, kd, kw, e, p, .join op g h, L, rfl, rfl, ca.same sA, hf.keep fun _ _ z => sA _ _ z, wf, sm, lok, cok, ds, nc, hd, h60, l6, hL, ⟨op, g, h, rfl⟩, fun H3 t3 ys m kc3 f3 c3 o3 => q H3 t3 ys m kc3 ((same_fx sA).trans f3) c3 o3, fun bg => (qo bg).fx (same_fx sA) ⟨_, sA _ _ ca.hc⟩⟩
theorem make_compiler {c : Bool} {E : XK} {H1 : Hp} {Q : VK} {b dd wd x dx : Addr} {kd kw : List (Key × V)} {e : Env} (nx : H1 x = none) (nd : H1 dx = none) (bk : BkAt K H1 b dd wd kd kw e) (q : ∀ H' cd, CpAt K H' x b cd dd wd [] kd kw e → H1 cd = none → L2.Same H1 H' → Q .non H') :
    Sp2 (p_Compiler_init (K := K)) c [.ref x, .ref b] (upd (upd H1 dx (.own x)) x (.ins (He.ga K "Compiler") dx [])) Q E := by
  have s0 : L2.Same H1 (upd (upd H1 dx (.own x)) x (.ins (He.ga K "Compiler") dx [])) := same_upd2 (same_upd nd) nx
  refine ⟨_, _, rfl, x, dx, b, rfl, rfl, upd_same, fun H' cd h1 h2 h3 h4 => ?_⟩
  have s1 : L2.Same H1 H' := fun b o e => h4 b o (s0 _ _ e) (ne_of_none e nx)
  have ncd := s0.free h3
  exact q H' cd ⟨⟨dx, h1⟩, bk.same s1, h2, ne_of_none bk.hd ncd, ne_of_none bk.hw ncd, (fun z v h => by cases h), [], List.nodup_nil, Nat.le_refl _, (fun z h => nomatch h)⟩ ncd s1
def p_compile (K : PySem.W.Frag) (d : Nat) : Q2 := fun cl x a H Q E => ∃ (b dd wd : Addr) (kd kw : List (Key × V)) (e : Env) (p : Addr) (f : Fm) (L : List Str), x = .ref b ∧ a = .ref p ∧ BkAt K H b dd wd kd kw e ∧ FmAt H f p ∧ f.wf e ∧ f.sm ∧ f.lok ∧ f.cok e ∧ DefsSmall e ∧ f.depth ≤ d ∧ f.free.length ≤ 60 ∧ L.length ≤ 6 ∧ (∀ x ∈ f.free, x ∈ L) ∧
  (∀ H' t ys m, L2.Same H H' → OutAt K H' e t f ys m → Q (.ref t) H') ∧ (Big e f → ovS K [] cl H E)
def p_compiled (K : PySem.W.Frag) (d : Nat) : Q2 := fun cl self a H Q E => ∃ (cp b cd dd wd : Addr) (kc kd kw : List (Key × V)) (e : Env) (p : Addr) (f : Fm) (L : List Str), self = .ref cp ∧ a = .ref p ∧ CpAt K H cp b cd dd wd kc kd kw e ∧ FmAt H f p ∧ f.wf e ∧ f.sm ∧ f.lok ∧ f.cok e ∧ DefsSmall e ∧ f.depth ≤ d ∧ f.free.length ≤ 60 ∧ L.length ≤ 6 ∧ (∀ x ∈ f.free, x ∈ L) ∧
  (∀ H' t ys m kc', Fx [cd] H H' → CpAt K H' cp b cd dd wd kc' kd kw e → OutAt K H' e t f ys m → Q (.ref t) H') ∧ (Big e f → ovS K [cd] cl H E)
theorem ok_made_all (T : Txt P w K mg) (d : Nat) : FnQ P w K mg base (30 + 2 * d) (He.ma K (He.ga K "Compiler") "_made") 2 (Sp2 (p_made K true d)) := by
  have h0 := ok_Compiler_made T (B := 20) (r := false) (Nat.le_refl _) (ok_made_call0 (base := base) T 19) 2
  have h1 := ok_Compiler_definition T h0 (by omega)
  have h2 := ok_Compiler_made_call T h1 (by omega)
  exact ok_Compiler_made T (B := 30) (r := true) (by omega) (h2.mono (by omega)) d
theorem ok_Compiler_compiled (T : Txt P w K mg) (d : Nat) : FnQ P w K mg base (31 + 2 * d) (He.ma K (He.ga K "Compiler") "compiled") 2 (Sp2 (p_compiled K d)) := by
  have ih := ok_made_all (base := base) T d
  have i2 := ok_check_formula (base := base) T d
  obtain ⟨k, hk⟩ : ∃ k, 31 + 2 * d = k + 1 := ⟨30 + 2 * d, by omega⟩
  rw [hk]
  refine fnQ2 T.F_Compiler_compiled sc_Compiler_compiled (fun _ _ _ _ _ _ us hl => match us, hl with | [_, _], _ => rfl) fun cdv A outer s H self a Q E l qa hr h => ?_
  obtain ⟨cp, b, cd, dd, wd, kc, kd, kw, e, p, f, L, rfl, rfl, ca, hf, wf, sm, lok, cok, ds, hd, h60, l6, hL, q, qo⟩ := h
  obtain ⟨dx, hcp⟩ := ca.ob
  refine ⟨_, (pss_cons (ps_expr (pe_callQ i2 (hr.mono (by omega)) (cxQ_quiet qa) T.g_check_formula pass0 (pa_cons (pe_fld (pv 0) rfl) (pa_cons (pv 1) pa_nil))))
      (pss_one (ps_ret (pe_methQ (pv 0) T.c_Compiler T.m_Compiler_made ih (hr.mono (by omega)) (cxQ_quiet qa) passE (pa_cons (pv 1) pa_nil))))), ?_⟩
  refine ⟨_, rfl, cp, _, dx, _, _, rfl, hcp, T.c_Compiler, T.n_Compiler_book, cf_book _ _, _, rfl, _, _, rfl, b, dd, wd, kd, kw, e, p, f, rfl, rfl, ca.bk, hf, wf, hd, fun H1 s1 => ?_⟩
  exact ⟨_, rfl, cp, dx, _, rfl, s1 _ _ hcp, cf_no _ _ (by decide +kernel) (by decide +kernel), _, rfl, _, _, rfl, cp, b, cd, dd, wd, kc, kd, kw, e, p, f, L, rfl, rfl, ca.same s1, hf.keep fun _ _ z => s1 _ _ z, wf, sm, lok, cok, ds, (fun z => nomatch z), hd, h60, l6, hL, fun H2 t ys m kc2 f2 c2 o2 => q H2 t ys m kc2 ((same_fx s1).trans f2) c2 o2, fun bg => (qo bg).fx (same_fx s1) ⟨_, s1 _ _ ca.hc⟩⟩
theorem ok_compile_formula (T : Txt P w K mg) (d : Nat) : FnQ P w K mg base (32 + 2 * d) (He.ga K "compile_formula") 2 (Sp2 (p_compile K d)) := by
  have ih := ok_Compiler_compiled (base := base) T d
  obtain ⟨k, hk⟩ : ∃ k, 32 + 2 * d = k + 1 := ⟨31 + 2 * d, by omega⟩
  rw [hk]
  refine fnQ2 T.F_compile_formula sc_compile_formula (fun _ _ _ _ _ _ us hl => match us, hl with | [_, _], _ => rfl) fun cdv A outer s H x a Q E l qa hr h => ?_
  obtain ⟨b, dd, wd, kd, kw, e, p, f, L, rfl, rfl, bk, hf, wf, sm, lok, cok, ds, hd, h60, l6, hL, q, qo⟩ := h
  refine ⟨_, (pss_one (ps_ret (pe_methQ (pe_makeQ T.k_Compiler (ok_Compiler_init T) (hr.mono (by omega)) (cxQ_quiet qa) T.g_Compiler pass0 (pa_cons (pv 0) pa_nil)) T.c_Compiler T.m_Compiler_compiled ih (hr.mono (by omega)) (cxQ_quiet qa) passE (pa_cons (pv 1) pa_nil)))), ?_⟩
  refine ⟨_, rfl, fun cp dx ncp ndx _ => ?_⟩
  refine make_compiler ncp ndx bk fun H1 cd c1 ncd s1 => ⟨rfl, ?_⟩
  obtain ⟨dx1, hcp⟩ := c1.ob
  exact ⟨cp, dx1, _, rfl, hcp, cf_no _ _ (by decide +kernel) (by decide +kernel), _, rfl, _, _, rfl, cp, b, cd, dd, wd, [], kd, kw, e, p, f, L, rfl, rfl, c1, hf.keep fun _ _ z => s1 _ _ z, wf, sm, lok, cok, ds, hd, h60, l6, hL, fun H2 t ys m kc2 f2 c2 o2 => q H2 t ys m (Fx.new s1 f2 fun b hb => by rw [List.mem_singleton.mp hb]; exact ncd) o2, fun bg => (qo bg).same s1 fun b hb => .inr (by rw [List.mem_singleton.mp hb]; exact ncd)⟩
end
end K36
/-! K36W16: the pool of the law -/
namespace K36
open PySem PySem.Spec PyProof.Rows L2 HotX
section
variable {P : Program} {w : World} {K : PySem.W.Frag} {mg : Str → Option Value} {base : Heap}
def p__law_power : Q1 := fun _ a H Q _ => ∃ n : Nat, a = iV n ∧ Q (.bl (isPow n)) H
theorem ok__law_power (T : Txt P w K mg) : FnQ P w K mg base 1 (He.ga K "_law_power") 1 (Sp1 p__law_power) := by
  refine fnQ1 T.F__law_power sc__law_power (fun _ _ _ _ _ _ us hl => match us, hl with | [_], _ => rfl) fun cdv A outer s H a Q E l qa hr h => ?_
  obtain ⟨n, rfl, q⟩ := h
  refine ⟨_, (pss_cons (ps_while PassesOwn.leaving (PW.pt (pw_and (pt_cmpR op_gt (pv 0) pe_int (nomark _)) (pw_and1 (pt_cmpR op_eq (pe_op op_mod (pv 0) pe_int) pe_int (nomark _))))) (pss_one (ps_set (i := 0) sc__law_power.nd rfl (Or.inl rfl) (pe_op op_fdiv (pv 0) pe_int))))
      (pss_one (ps_ret (pe_cmpR op_eq (pv 0) pe_int (nomark _))))), ?_⟩
  refine ⟨fun m σ H1 => H1 = H ∧ σ = [some (iV m)] ∧ isPow m = isPow n, ⟨n, rfl, rfl, rfl⟩, ?_⟩
  rintro m σ H1 ⟨rfl, rfl, e⟩
  by_cases h1 : 1 < m
  · by_cases h2 : m % 2 = 0
    · refine ⟨_, rfl, _, _, rfl, rfl, true, dT (by omega), _, rfl, _, _, rfl, rfl, (by show (0 : Int) < 2; decide), rfl, true, dT (congrArg V.int (show (m : Int) % 2 = 0 by omega)), fun σ' H' => ∃ m', m' < m ∧ H' = H1 ∧ σ' = [some (iV m')] ∧ isPow m' = isPow n, fun _ _ z => z, ?_⟩
      refine ⟨_, rfl, _, _, rfl, rfl, ⟨by decide, by decide⟩, m / 2, by omega, rfl, ?_, ?_⟩
      · show [some (V.int ((m : Int) / 2))] = _
        rw [show (m : Int) / 2 = ((m / 2 : Nat) : Int) from divN m 2]
      · rw [← e, isPow.eq_1 m, if_pos ⟨h1, h2⟩]
    · refine ⟨_, rfl, _, _, rfl, rfl, true, dT (by omega), _, rfl, _, _, rfl, rfl, (by show (0 : Int) < 2; decide), rfl, false, dF (intNe (show ¬ (m : Int) % 2 = 0 by omega)), _, rfl, rfl, ?_⟩
      refine qb (Q := Q) ?_ q
      rw [← e, isPow.eq_1 m, if_neg (fun z => h2 z.2)]
      exact decide_eq_decide.mpr ⟨fun z => Int.ofNat.inj (V.int.inj z), fun z => by rw [z]; rfl⟩
  · refine ⟨_, rfl, _, _, rfl, rfl, false, dF (by omega), _, rfl, rfl, ?_⟩
    refine qb (Q := Q) ?_ q
    rw [← e, isPow.eq_1 m, if_neg (fun z => h1 z.1)]
    exact decide_eq_decide.mpr ⟨fun z => Int.ofNat.inj (V.int.inj z), fun z => by rw [z]; rfl⟩
def p__law_joins_truth : Q3 := fun _ a b d H Q _ => ∃ (s : Str) (x y : Bool), a = .str s ∧ b = .bl x ∧ d = .bl y ∧ s ∈ ops4 ∧ Q (.bl (jn s x y)) H
/-- the pool at p: what is left, the script's cells, how far -/
def PoolAt (K : PySem.W.Frag) (H : Hp) (p sa : Addr) : Prop := ∃ (n : Nat) (xs : List Int) (k : Int), H p = some (.lst [iV n, .ref sa, .int k]) ∧ H sa = some (.lst (intsV xs)) ∧ -1 ≤ k ∧ p ≠ sa
def p__law_wide : Q2 := fun _ a b H Q _ => ∃ (sa : Addr) (xs : List Int) (k : Int), a = .ref sa ∧ b = .int k ∧ H sa = some (.lst (intsV xs)) ∧ 0 ≤ k ∧ ∀ n : Nat, Q (iV n) H
theorem ok__law_wide (T : Txt P w K mg) : FnQ P w K mg base 1 (He.ga K "_law_wide") 2 (Sp2 p__law_wide) := by
  refine fnQ2 T.F__law_wide sc__law_wide (fun _ _ _ _ _ _ us hl => match us, hl with | [_, _], _ => rfl) fun cdv A outer s H a b Q E l qa hr h => ?_
  obtain ⟨sa, xs, k, rfl, rfl, hs, hk, q⟩ := h
  refine ⟨_, (pss_cons (ps_set (i := 2) sc__law_wide.nd rfl (Or.inl rfl) pe_int)
      (pss_cons (ps_if (pt_cmpR op_lt (pv 1) (pe_callB call_len_seq rfl T.free_len PySem.boot_len (pa_cons (pv 0) pa_nil)) (nomark _)) (pss_one (ps_set (i := 2) sc__law_wide.nd rfl (Or.inl rfl) (pe_callB call_abs rfl T.free_abs (by decide +kernel) (pa_cons (pe_ix ix_list (pv 0) (pv 1) (fun _ _ => rfl)) pa_nil)))) pss_nil)
      (pss_cons (ps_if (pt_cmpR op_ge (pv 2) pe_int (nomark _)) (pss_one (ps_ret (pv 2))) pss_nil)
      (pss_cons (ps_set (i := 3) sc__law_wide.nd rfl (Or.inl rfl) (pe_op op_mod (pe_callTy call_int1 rfl T.free_int (by decide +kernel) (pa_cons (pe_op op_add (pe_op op_mul (pe_op op_add (pv 2) pe_int) pe_int) (pe_op op_mul (pe_op op_add (pv 1) pe_int) pe_int)) pa_nil)) pe_int))
      (pss_one (ps_ret (pe_op op_mod (pe_callTy call_int1 rfl T.free_int (by decide +kernel) (pa_cons (pe_op op_add (pe_op op_mul (pv 3) pe_int) (pe_op op_fdiv (pv 3) pe_int)) pa_nil)) pe_int))))))), ?_⟩
  have xl : (intsV xs).length = xs.length := List.length_map _
  have qn : ∀ i : Int, 0 ≤ i → Q (.int i) H := fun i hi => by
    have := q i.toNat
    rw [iV, Int.toNat_of_nonneg hi] at this
    exact this
  have br : ∀ (b : Bool), b = decide (k < (xs.length : Int)) → ∃ c : Int, 0 ≤ c ∧ (b = true → ∃ x, atI (intsV xs) k = some (.int x) ∧ (if x < 0 then -x else x) = c) ∧ (b = false → c = 0) := fun b hb => by
    cases b with
    | true =>
      have hlt : k < (xs.length : Int) := of_decide_eq_true hb.symm
      have hn : k.toNat < xs.length := by omega
      refine ⟨_, ?_, fun _ => ⟨xs[k.toNat], ?_, rfl⟩, fun z => by cases z⟩
      · by_cases h : xs[k.toNat] < 0
        · rw [if_pos h]; omega
        · rw [if_neg h]; omega
      · have e : atI (intsV xs) (k.toNat : Int) = some (.int xs[k.toNat]) := atI_nat (j := k.toNat) (by show (xs.map V.int)[k.toNat]? = _; rw [List.getElem?_map, List.getElem?_eq_getElem hn]; rfl)
        rw [Int.toNat_of_nonneg hk] at e
        exact e
    | false => exact ⟨0, Int.le_refl _, (fun z => by cases z), fun _ => rfl⟩
  obtain ⟨c, hc, b1, b2⟩ := br _ rfl
  refine ⟨_, rfl, _, rfl, sa, _, rfl, .inl (SqL.of hs), _, _, rfl, rfl, ?_⟩
  cases hb : decide (k < (xs.length : Int)) with
  | true =>
    obtain ⟨x, e1, e2⟩ := b1 hb
    refine ⟨true, (show V.bl (decide (k < ((intsV xs).length : Int))) = V.bl true by rw [xl, hb]), _, rfl, _, rfl, sa, _, _, _, rfl, rfl, SqL.of hs, e1, x, rfl, ?_⟩
    rw [e2]
    by_cases hbig : c ≥ 1000000000000000000
    · exact ⟨_, rfl, _, _, rfl, rfl, true, dT hbig, _, rfl, qn c hc⟩
    · refine ⟨_, rfl, _, _, rfl, rfl, false, dF hbig, ?_⟩
      refine ⟨_, rfl, _, _, rfl, rfl, _, _, rfl, rfl, .inr ⟨by decide, by decide⟩, _, rfl, _, _, rfl, rfl, _, _, rfl, rfl, .inr ⟨by decide, by decide⟩, _, _, rfl, rfl, .inl ⟨_, rfl, _, _, rfl, rfl, (show (0 : Int) < 2305843009213693951 by decide), ?_⟩⟩
      try generalize ((c + 1) * 6364136223846793005 + (k + 1) * 1442695040888963407) % 2305843009213693951 = z
      refine ⟨_, rfl, _, _, rfl, rfl, .inr ⟨by decide, by decide⟩, _, rfl, _, _, rfl, rfl, ⟨by decide, by decide⟩, _, _, rfl, rfl, .inl ⟨_, rfl, _, _, rfl, rfl, (show (0 : Int) < 2305843009213693951 by decide), ?_⟩⟩
      exact qn _ (Int.emod_nonneg _ (by decide))
  | false =>
    refine ⟨false, (show V.bl (decide (k < ((intsV xs).length : Int))) = V.bl false by rw [xl, hb]), ?_⟩
    obtain rfl := b2 hb
    by_cases hbig : (0 : Int) ≥ 1000000000000000000
    · exact ⟨_, rfl, _, _, rfl, rfl, true, dT hbig, _, rfl, qn 0 hc⟩
    · refine ⟨_, rfl, _, _, rfl, rfl, false, dF hbig, ?_⟩
      refine ⟨_, rfl, _, _, rfl, rfl, _, _, rfl, rfl, .inr ⟨by decide, by decide⟩, _, rfl, _, _, rfl, rfl, _, _, rfl, rfl, .inr ⟨by decide, by decide⟩, _, _, rfl, rfl, .inl ⟨_, rfl, _, _, rfl, rfl, (show (0 : Int) < 2305843009213693951 by decide), ?_⟩⟩
      try generalize (((0 : Int) + 1) * 6364136223846793005 + (k + 1) * 1442695040888963407) % 2305843009213693951 = z
      refine ⟨_, rfl, _, _, rfl, rfl, .inr ⟨by decide, by decide⟩, _, rfl, _, _, rfl, rfl, ⟨by decide, by decide⟩, _, _, rfl, rfl, .inl ⟨_, rfl, _, _, rfl, rfl, (show (0 : Int) < 2305843009213693951 by decide), ?_⟩⟩
      exact qn _ (Int.emod_nonneg _ (by decide))
def p__law_take : Q2 := fun _ a b H Q _ => ∃ (p sa : Addr) (m : Nat), a = .ref p ∧ b = iV m ∧ 0 < m ∧ m < 1073741824 ∧ PoolAt K H p sa ∧ ∀ H' n, PoolAt K H' p sa → n < m → Fx [p] H H' → Q (iV n) H'
theorem ok__law_take (T : Txt P w K mg) : FnQ P w K mg base 2 (He.ga K "_law_take") 2 (Sp2 (p__law_take (K := K))) := by
  refine fnQ2 T.F__law_take sc__law_take (fun _ _ _ _ _ _ us hl => match us, hl with | [_, _], _ => rfl) fun cdv A outer s H a b Q E l qa hr h => ?_
  obtain ⟨p, sa, m, rfl, rfl, m0, m1, ⟨n, xs, k, hp, hs, hk, ne⟩, q⟩ := h
  refine ⟨_, (pss_cons (ps_if (pt_cmpR op_lt (pe_ix ix_list (pv 0) pe_int (fun _ _ => rfl)) pe_int (nomark _)) (pss_cons (ps_asg (pe_op op_add (pe_ix ix_list (pv 0) pe_int (fun _ _ => rfl)) pe_int) (pg_sub (pv 0) pe_int set_list))
        (pss_one (ps_asg (pe_callQ (ok__law_wide T) (hr.mono (by omega)) (cxQ_quiet qa) T.g__law_wide pass0 (pa_cons (pe_ix ix_list (pv 0) pe_int (fun _ _ => rfl)) (pa_cons (pe_ix ix_list (pv 0) pe_int (fun _ _ => rfl)) pa_nil))) (pg_sub (pv 0) pe_int set_list)))) pss_nil)
      (pss_cons (ps_set (i := 2) sc__law_take.nd rfl (Or.inl rfl) (pe_op op_mod (pe_callTy call_int1 rfl T.free_int (by decide +kernel) (pa_cons (pe_ix ix_list (pv 0) pe_int (fun _ _ => rfl)) pa_nil)) (pv 1)))
      (pss_cons (ps_asg (pe_op op_fdiv (pe_ix ix_list (pv 0) pe_int (fun _ _ => rfl)) (pv 1)) (pg_sub (pv 0) pe_int set_list))
      (pss_one (ps_ret (pv 2)))))), ?_⟩
  have fin : ∀ (H1 : Hp) (n1 : Nat) (k1 : Int), H1 p = some (.lst [iV n1, .ref sa, .int k1]) → H1 sa = some (.lst (intsV xs)) → -1 ≤ k1 → Fx [p] H H1 → Q (iV (n1 % m)) (upd H1 p (.lst [iV (n1 / m), .ref sa, .int k1])) := fun H1 n1 k1 g1 g2 g3 g4 =>
    q _ _ ⟨n1 / m, xs, k1, upd_same, by rw [upd_ne ne.symm]; exact g2, g3, ne⟩ (Nat.mod_lt _ m0) (g4.trans (fx_upd (by simp) fun xs e => by rw [g1] at e; cases e))
  refine ⟨_, rfl, p, _, _, _, rfl, rfl, SqL.of hp, iV0, _, _, rfl, rfl, ?_⟩
  have m0' : (0 : Int) < (m : Int) := by omega
  have m1' : (m : Int) < 1073741824 := by omega
  by_cases h1 : (n : Int) < 1000
  · refine ⟨true, dT h1, _, rfl, p, _, _, _, rfl, rfl, SqL.of hp, atI_nat (j := 2) rfl, _, _, rfl, rfl, ?_⟩
    refine ⟨_, rfl, p, _, 2, 2, rfl, rfl, hp, rfl, ?_⟩
    have hp2 : upd H p (.lst ([V.int n, V.ref sa, V.int k].set 2 (V.int (k + 1)))) p = some (.lst [iV n, .ref sa, .int (k + 1)]) := upd_same
    have hs2 : upd H p (.lst ([V.int n, V.ref sa, V.int k].set 2 (V.int (k + 1)))) sa = some (.lst (intsV xs)) := by rw [upd_ne ne.symm]; exact hs
    have f2 : Fx [p] H (upd H p (.lst ([V.int n, V.ref sa, V.int k].set 2 (V.int (k + 1))))) := fx_upd (by simp) fun xs e => by rw [hp] at e; cases e
    refine ⟨_, rfl, p, _, _, _, rfl, rfl, SqL.of hp2, atI_nat (j := 1) rfl, _, rfl, p, _, _, _, rfl, rfl, SqL.of hp2, atI_nat (j := 2) rfl, _, _, rfl, sa, xs, k + 1, rfl, rfl, hs2, by omega, fun z => ?_⟩
    refine ⟨_, rfl, p, _, 0, 0, rfl, rfl, hp2, rfl, ?_⟩
    have f3 : Fx [p] (upd H p (.lst ([V.int n, V.ref sa, V.int k].set 2 (V.int (k + 1))))) (upd (upd H p (.lst ([V.int n, V.ref sa, V.int k].set 2 (V.int (k + 1))))) p (.lst ([iV n, .ref sa, .int (k + 1)].set 0 (iV z)))) := fx_upd (by simp) fun xs e => by rw [hp2] at e; cases e
    have hp3 : upd (upd H p (.lst ([V.int n, V.ref sa, V.int k].set 2 (V.int (k + 1))))) p (.lst ([iV n, .ref sa, .int (k + 1)].set 0 (iV z))) p = some (.lst [iV z, .ref sa, .int (k + 1)]) := upd_same
    have hs3 : upd (upd H p (.lst ([V.int n, V.ref sa, V.int k].set 2 (V.int (k + 1))))) p (.lst ([iV n, .ref sa, .int (k + 1)].set 0 (iV z))) sa = some (.lst (intsV xs)) := by rw [upd_ne ne.symm]; exact hs2
    have this := fin _ z (k + 1) hp3 hs3 (by omega) (f2.trans f3)
    generalize upd (upd H p (.lst ([V.int n, V.ref sa, V.int k].set 2 (V.int (k + 1))))) p (.lst ([iV n, .ref sa, .int (k + 1)].set 0 (iV z))) = H3 at hp3 hs3 this ⊢
    refine ⟨_, rfl, p, _, _, _, rfl, rfl, SqL.of hp3, iV0, .inl ⟨_, rfl, _, rfl, _, _, rfl, rfl, m0', _, rfl, p, _, _, _, rfl, rfl, SqL.of hp3, iV0, _, rfl, _, _, rfl, rfl, ⟨m0', m1'⟩, _, rfl, p, _, 0, 0, rfl, rfl, hp3, rfl, _, rfl, ?_⟩⟩
    have e1 : V.int ((z : Int) % (m : Int)) = iV (z % m) := by rw [modN]
    have e2 : V.int ((z : Int) / (m : Int)) = iV (z / m) := by rw [divN]
    show Q (V.int ((z : Int) % (m : Int))) (upd H3 p (.lst [V.int ((z : Int) / (m : Int)), .ref sa, .int (k + 1)]))
    rw [e1, e2]
    exact this
  · have this := fin H n k hp hs hk (same_fx (Same.refl _))
    refine ⟨false, dF h1, _, rfl, p, _, _, _, rfl, rfl, SqL.of hp, iV0, .inl ⟨_, rfl, _, rfl, _, _, rfl, rfl, m0', _, rfl, p, _, _, _, rfl, rfl, SqL.of hp, iV0, _, rfl, _, _, rfl, rfl, ⟨m0', m1'⟩, _, rfl, p, _, 0, 0, rfl, rfl, hp, rfl, _, rfl, ?_⟩⟩
    have e1 : V.int ((n : Int) % (m : Int)) = iV (n % m) := by rw [modN]
    have e2 : V.int ((n : Int) / (m : Int)) = iV (n / m) := by rw [divN]
    show Q (V.int ((n : Int) % (m : Int))) (upd H p (.lst [V.int ((n : Int) / (m : Int)), .ref sa, .int k]))
    rw [e1, e2]
    exact this
def p__law_pool : Q1 := fun _ a H Q _ => ∃ (sa : Addr) (xs : List Int), a = .ref sa ∧ SqL K H sa (intsV xs) ∧ ∀ H' p sa', PoolAt K H' p sa' → H p = none → H sa' = none → L2.Same H H' → Q (.ref p) H'
theorem ok__law_pool (T : Txt P w K mg) : FnQ P w K mg base 1 (He.ga K "_law_pool") 1 (Sp1 (p__law_pool (K := K))) := by
  refine fnQ1 T.F__law_pool sc__law_pool (fun _ _ _ _ _ _ us hl => match us, hl with | [_], _ => rfl) fun cdv A outer s H a Q E l qa hr h => ?_
  obtain ⟨sa, xs, rfl, hs, q⟩ := h
  refine ⟨_, (pss_one (ps_ret (pe_lst (pa_cons pe_int (pa_cons (pe_callTy call_list_of rfl T.free_list (by decide +kernel) (pa_cons (pv 0) pa_nil)) (pa_cons (pe_un un_neg pe_int) pa_nil)))))), ?_⟩
  refine ⟨_, rfl, sa, _, rfl, .inl hs, fun la nla => ⟨_, rfl, by show 3 ≤ sizeLine; decide, fun p np => ?_⟩⟩
  have lp : la ≠ p := fun e => by rw [e, upd_same] at np; cases np
  refine q _ p la ⟨0, xs, -1, upd_same, by rw [upd_ne lp]; exact upd_same, by decide, lp.symm⟩ ?_ nla ((same_upd nla).trans (same_upd np))
  rw [upd_ne lp.symm] at np
  exact np
def p__law_number : Q1 := fun _ a H Q _ => ∃ (p sa : Addr), a = .ref p ∧ PoolAt K H p sa ∧ ∀ H' n, PoolAt K H' p sa → n < 2 ^ 33 → Fx [p] H H' → Q (iV n) H'
theorem ok__law_number (T : Txt P w K mg) : FnQ P w K mg base 3 (He.ga K "_law_number") 1 (Sp1 (p__law_number (K := K))) := by
  refine fnQ1 T.F__law_number sc__law_number (fun _ _ _ _ _ _ us hl => match us, hl with | [_], _ => rfl) fun cdv A outer s H a Q E l qa hr h => ?_
  obtain ⟨p, sa, rfl, pa, q⟩ := h
  refine ⟨_, (pss_cons (ps_set (i := 1) sc__law_number.nd rfl (Or.inl rfl) (pe_callQ (ok__law_take T) (hr.mono (by omega)) (cxQ_quiet qa) T.g__law_take pass0 (pa_cons (pv 0) (pa_cons pe_int pa_nil))))
      (pss_cons (ps_if (pt_cmpR op_lt (pv 1) pe_int (nomark _)) (pss_one (ps_ret (pe_callQ (ok__law_take T) (hr.mono (by omega)) (cxQ_quiet qa) T.g__law_take pass0 (pa_cons (pv 0) (pa_cons pe_int pa_nil))))) pss_nil)
      (pss_cons (ps_if (pt_cmpR op_eq (pv 1) pe_int (nomark _)) (pss_one (ps_ret (pe_callQ (ok__law_take T) (hr.mono (by omega)) (cxQ_quiet qa) T.g__law_take pass0 (pa_cons (pv 0) (pa_cons pe_int pa_nil))))) pss_nil)
      (pss_one (ps_ret (pe_op op_add (pe_callQ (ok__law_take T) (hr.mono (by omega)) (cxQ_quiet qa) T.g__law_take pass0 (pa_cons (pv 0) (pa_cons pe_int pa_nil))) (pe_op op_mul (pe_callQ (ok__law_take T) (hr.mono (by omega)) (cxQ_quiet qa) T.g__law_take pass0 (pa_cons (pv 0) (pa_cons pe_int pa_nil))) (pe_ix ix_list (pe_lst (pa_cons pe_int (pa_cons pe_int pa_nil))) (pe_op op_sub (pv 1) pe_int) (fun _ _ => rfl))))))))), ?_⟩
  refine ⟨_, rfl, _, _, rfl, p, sa, 6, rfl, rfl, by decide, by decide, pa, fun H1 n p1 n6 f1 => ?_⟩
  refine ⟨_, rfl, _, _, rfl, rfl, ?_⟩
  by_cases h3 : (n : Int) < 3
  · exact ⟨true, dT h3, _, rfl, _, _, rfl, p, sa, 9, rfl, rfl, by decide, by decide, p1, fun H2 n2 p2 l2 f2 => q H2 n2 p2 (by omega) (f1.trans f2)⟩
  · refine ⟨false, dF h3, _, rfl, rfl, ?_⟩
    by_cases h4 : n = 3
    · exact ⟨true, dT (by rw [h4]; rfl), _, rfl, _, _, rfl, p, sa, 1000, rfl, rfl, by decide, by decide, p1, fun H2 n2 p2 l2 f2 => q H2 n2 p2 (by omega) (f1.trans f2)⟩
    · refine ⟨false, dF (intNe (by omega)), ?_⟩
      refine ⟨_, rfl, _, _, rfl, p, sa, 4, rfl, rfl, by decide, by decide, p1, fun H2 n2 p2 l2 f2 => ?_⟩
      refine ⟨_, rfl, _, _, rfl, p, sa, 1048576, rfl, rfl, by decide, by decide, p2, fun H3 n3 p3 l3 f3 => ?_⟩
      refine ⟨by show 2 ≤ sizeLine; decide, fun l2a nl => ?_⟩
      have hl : upd H3 l2a (.lst [.int 1, .int 4096]) l2a = some (.lst [.int 1, .int 4096]) := upd_same
      have sl : L2.Same H3 (upd H3 l2a (.lst [.int 1, .int 4096])) := same_upd nl
      have p4 : PoolAt K (upd H3 l2a (.lst [.int 1, .int 4096])) p sa := let ⟨a1, a3, a4, g1, g2, g3⟩ := p3; ⟨a1, a3, a4, sl _ _ g1, sl _ _ g2, g3⟩
      have n45 : n = 4 ∨ n = 5 := by omega
      rcases n45 with rfl | rfl
      · refine ⟨_, rfl, _, _, rfl, rfl, l2a, _, _, _, rfl, rfl, SqL.of hl, atI_nat (j := 0) rfl, _, _, rfl, rfl, .inr ⟨by decide, by decide⟩, _, _, rfl, rfl, ?_⟩
        have := q _ (n2 + n3 * 1) p4 (by omega) (((f1.trans f2).trans f3).trans (same_fx sl))
        exact this
      · refine ⟨_, rfl, _, _, rfl, rfl, l2a, _, _, _, rfl, rfl, SqL.of hl, atI_nat (j := 1) rfl, _, _, rfl, rfl, .inr ⟨by decide, by decide⟩, _, _, rfl, rfl, ?_⟩
        have := q _ (n2 + n3 * 4096) p4 (by omega) (((f1.trans f2).trans f3).trans (same_fx sl))
        exact this
theorem ops4_cases {s : Str} (h : s ∈ ops4) : s = "and" ∨ s = "or" ∨ s = "imp" ∨ s = "iff" := by
  unfold ops4 at h
  simpa using h
theorem ok__law_joins_truth (T : Txt P w K mg) : FnQ P w K mg base 1 (He.ga K "_law_joins_truth") 3 (Sp3 p__law_joins_truth) := by
  refine fnQ3 T.F__law_joins_truth sc__law_joins_truth (fun _ _ _ _ _ _ us hl => match us, hl with | [_, _, _], _ => rfl) fun cdv A outer s H a b d Q E l qa hr h => ?_
  obtain ⟨z, x, y, rfl, rfl, rfl, hz, q⟩ := h
  refine ⟨_, (pss_cons (ps_if (pt_cmpR op_eq (pv 0) pe_str (nomark _)) (pss_one (ps_ret (pe_and (pv 1) (pe_one (pv 2))))) pss_nil)
      (pss_cons (ps_if (pt_cmpR op_eq (pv 0) pe_str (nomark _)) (pss_one (ps_ret (pe_or (pv 1) (pe_one (pv 2))))) pss_nil)
      (pss_cons (ps_if (pt_cmpR op_eq (pv 0) pe_str (nomark _)) (pss_one (ps_ret (pe_or (pv 2) (pe_one (pe_not (pv 1)))))) pss_nil)
      (pss_one (ps_ret (pe_cmpR op_eq (pv 1) (pv 2) (nomark _))))))), ?_⟩
  rcases ops4_cases hz with rfl | rfl | rfl | rfl
  · refine ⟨_, rfl, rfl, true, dT rfl, _, rfl, x, rfl, ?_⟩
    cases x
    · exact q
    · exact ⟨_, rfl, q⟩
  · refine ⟨_, rfl, rfl, false, dF (strNe (neS "or" "and")), _, rfl, rfl, true, dT rfl, _, rfl, x, rfl, ?_⟩
    cases x
    · exact ⟨_, rfl, q⟩
    · exact q
  · refine ⟨_, rfl, rfl, false, dF (strNe (neS "imp" "and")), _, rfl, rfl, false, dF (strNe (neS "imp" "or")), _, rfl, rfl, true, dT rfl, _, rfl, y, rfl, ?_⟩
    cases y
    · exact ⟨_, rfl, x, rfl, qb (Q := Q) (by cases x <;> decide +kernel) q⟩
    · exact qb (Q := Q) (by cases x <;> decide +kernel) q
  · refine ⟨_, rfl, rfl, false, dF (strNe (neS "iff" "and")), _, rfl, rfl, false, dF (strNe (neS "iff" "or")), _, rfl, rfl, false, dF (strNe (neS "iff" "imp")), _, rfl, _, rfl, rfl, ?_⟩
    exact qb (Q := Q) (by cases x <;> cases y <;> decide +kernel) q
end
end K36
/-! K36M7: the words that the law draws are settled -/
namespace K36
open PySem PySem.Spec PyProof.Rows L2 HotX
def itr (f : Nat → Nat) : Nat → Nat → Nat
  | 0, s => s
  | k + 1, s => f (itr f k s)
theorem itr_add (f : Nat → Nat) (a s : Nat) : ∀ b, itr f (a + b) s = itr f b (itr f a s)
  | 0 => rfl
  | b + 1 => congrArg f (itr_add f a s b)
theorem itr_one (f : Nat → Nat) (k s : Nat) : itr f k (f s) = itr f (k + 1) s := by
  rw [Nat.add_comm]
  exact (itr_add f 1 s k).symm
theorem itr_lt {f : Nat → Nat} {n : Nat} (hf : ∀ x, x < n → f x < n) {s : Nat} (hs : s < n) : ∀ k, itr f k s < n
  | 0 => hs
  | k + 1 => hf _ (itr_lt hf hs k)
/-- among n+1 values below n, two are one -/
theorem twice {n : Nat} (g : Nat → Nat) (h : ∀ k, k ≤ n → g k < n) : ∃ i j, i < j ∧ j ≤ n ∧ g i = g j := by
  refine Classical.byContradiction fun hc => ?_
  have nd : ((List.range (n + 1)).map g).Nodup := by
    refine (List.pairwise_map).mpr (List.Pairwise.imp_of_mem (fun {a b} ha hb hab e => ?_) (List.pairwise_lt_range (n := n + 1)))
    exact hc ⟨a, b, hab, by have := List.mem_range.mp hb; omega, e⟩
  have := nodup_le _ (List.range n) nd fun x hx => by
    obtain ⟨k, hk, rfl⟩ := List.mem_map.mp hx
    exact List.mem_range.mpr (h k (by have := List.mem_range.mp hk; omega))
  rw [List.length_map, List.length_range, List.length_range] at this
  omega
theorem period {f : Nat → Nat} {n : Nat} (hf : ∀ x, x < n → f x < n) {s : Nat} (hs : s < n) : ∃ p, 0 < p ∧ p ≤ n ∧ itr f p (itr f n s) = itr f n s := by
  obtain ⟨i, j, hij, hj, e⟩ := twice (fun k => itr f k s) fun k _ => itr_lt hf hs k
  refine ⟨j - i, by omega, by omega, ?_⟩
  have e : itr f i s = itr f j s := e
  have h1 : itr f n s = itr f (n - i) (itr f i s) := by rw [← itr_add, show i + (n - i) = n by omega]
  have h2 : itr f (j - i) (itr f n s) = itr f (n - i) (itr f j s) := by
    rw [← itr_add, ← itr_add, show n + (j - i) = j + (n - i) by omega]
  rw [h2, h1, e]
theorem itr_mod {f : Nat → Nat} {p x : Nat} (hp : 0 < p) (e : itr f p x = x) (k : Nat) : itr f k x = itr f (k % p) x := by
  have hm : ∀ m, itr f (p * m) x = x := fun m => by
    induction m with
    | zero => rfl
    | succ m ih => rw [Nat.mul_succ, itr_add, ih, e]
  have := itr_add f (p * (k / p)) x (k % p)
  rw [Nat.div_add_mod, hm] at this
  exact this
def ring (f : Nat → Nat) (n s : Nat) : List Nat := (List.range (n + 1)).map fun k => itr f k (itr f n s)
theorem ring_mem {f : Nat → Nat} {n : Nat} (hf : ∀ x, x < n → f x < n) {s : Nat} (hs : s < n) (y : Nat) : y ∈ ring f n s ↔ ∃ k, y = itr f k (itr f n s) := by
  obtain ⟨p, p0, pn, e⟩ := period hf hs
  constructor
  · intro h
    obtain ⟨k, _, rfl⟩ := List.mem_map.mp h
    exact ⟨k, rfl⟩
  · rintro ⟨k, rfl⟩
    rw [itr_mod p0 e k]
    exact List.mem_map.mpr ⟨k % p, List.mem_range.mpr (by have := Nat.mod_lt k p0; omega), rfl⟩
theorem ring_next {f : Nat → Nat} {n : Nat} (hf : ∀ x, x < n → f x < n) {s : Nat} (hs : s < n) (y : Nat) : y ∈ ring f n (f s) ↔ y ∈ ring f n s := by
  rw [ring_mem hf hs, ring_mem hf (hf s hs)]
  obtain ⟨p, p0, pn, e⟩ := period hf hs
  have e1 : itr f n (f s) = f (itr f n s) := itr_one f n s
  rw [e1]
  constructor
  · rintro ⟨k, rfl⟩
    exact ⟨k + 1, itr_one f k _⟩
  · rintro ⟨k, rfl⟩
    refine ⟨k + (p - 1), ?_⟩
    rw [itr_one, show k + (p - 1) + 1 = p + k by omega, itr_add, e]
def minF (xs : List Nat) : Nat := xs.min?.getD 0
theorem minF_eq {xs : List Nat} {m : Nat} (h1 : m ∈ xs) (h2 : ∀ y ∈ xs, m ≤ y) : minF xs = m := by
  unfold minF
  rw [(List.min?_eq_some_iff (xs := xs) (a := m)).mpr ⟨h1, h2⟩]
  rfl
theorem minF_congr {xs ys : List Nat} (h : ∀ y, y ∈ xs ↔ y ∈ ys) : minF xs = minF ys := by
  unfold minF
  cases e : ys.min? with
  | none =>
    have : ys = [] := by simpa using e
    subst this
    have : xs = [] := List.eq_nil_iff_forall_not_mem.mpr fun y hy => nomatch (h y).mp hy
    subst this
    rfl
  | some m =>
    obtain ⟨h1, h2⟩ := List.min?_eq_some_iff.mp e
    rw [(List.min?_eq_some_iff (xs := xs) (a := m)).mpr ⟨(h m).mpr h1, fun b hb => h2 b ((h b).mp hb)⟩]
def f0 (tab : List (List Nat)) (s : Nat) : Nat := (tab.getD s []).getD 0 0
/-- the word that the law makes of a table -/
def tsOf (tab : List (List Nat)) : Tl := ⟨(List.range tab.length).map fun s => minF (ring (f0 tab) tab.length s) * 3 % 10, tab⟩
theorem tsOf_ok {tab : List (List Nat)} (h0 : 0 < tab.length) (h5 : tab.length ≤ 40) (hr : ∀ r ∈ tab, r.length = 2 ∧ ∀ x ∈ r, x < tab.length) : (tsOf tab).Ok := by
  have ol : (tsOf tab).outs.length = tab.length := by unfold tsOf; rw [List.length_map, List.length_range]
  have hf : ∀ x, x < tab.length → f0 tab x < tab.length := fun x hx => by
    have hg := hr _ (List.getElem_mem hx)
    unfold f0
    rw [List.getD_eq_getElem?_getD (l := tab), List.getElem?_eq_getElem hx]
    show tab[x].getD 0 0 < _
    have h2 : 0 < tab[x].length := by rw [hg.1]; decide
    rw [List.getD_eq_getElem?_getD, List.getElem?_eq_getElem h2]
    exact hg.2 _ (List.getElem_mem h2)
  have oa : ∀ s, s < tab.length → (tsOf tab).outs.getD s 0 = minF (ring (f0 tab) tab.length s) * 3 % 10 := fun s hs => by
    unfold tsOf
    rw [List.getD_eq_getElem?_getD, List.getElem?_map, List.getElem?_range hs]
    rfl
  refine ⟨by rw [ol]; exact h0, by rw [ol]; exact h5, fun x hx => ?_, ol.symm, fun r h => by rw [ol]; exact hr r h, fun s hs => ?_⟩
  · obtain ⟨s, _, rfl⟩ := List.mem_map.mp hx
    have := Nat.mod_lt (minF (ring (f0 tab) tab.length s) * 3) (show 0 < 10 by decide)
    omega
  · rw [ol] at hs
    rw [show (tsOf tab).st s 0 = f0 tab s from rfl, oa _ (hf s hs), oa s hs, minF_congr fun y => ring_next hf hs y]
end K36
/-! K36M8: the formulas that the law draws -/
namespace K36
open PySem PySem.Spec PyProof.Rows L2 HotX
structure Wd where
  tT : Tl
  t2 : Tl
  c : Int
  o : Nat
def Wd.near (W : Wd) : Fm := .lin true [("a", 1), ("b", -1)] W.c
def Wd.odd (W : Wd) : Fm := .neg (.word "T" "n" W.o)
def env0 : Env := ⟨fun _ => none, fun _ => none⟩
def Wd.envW (W : Wd) : Env := (env0.setW "T" W.tT).setW "W2" W.t2
abbrev psN : List Str := ["a", "b"]
abbrev psO : List Str := ["n", "m"]
def Wd.env (W : Wd) : Env := (W.envW.setD "near" (psN, W.near)).setD "odd" (psO, W.odd)
structure Wd.Ok (W : Wd) : Prop where
  tT : W.tT.Ok
  t2 : W.t2.Ok
  c1 : -2 ≤ W.c
  c2 : W.c ≤ 2
theorem Wd.wT (W : Wd) : W.env.words "T" = some W.tT := by
  show (if ("T" : Str) = "W2" then some W.t2 else if ("T" : Str) = "T" then some W.tT else none) = _
  rw [if_neg (neS "T" "W2"), if_pos rfl]
theorem Wd.w2 (W : Wd) : W.env.words "W2" = some W.t2 := by
  show (if ("W2" : Str) = "W2" then some W.t2 else if ("W2" : Str) = "T" then some W.tT else none) = _
  rw [if_pos rfl]
theorem Wd.dN (W : Wd) : W.env.defs "near" = some (psN, W.near) := by
  show (if ("near" : Str) = "odd" then some (psO, W.odd) else if ("near" : Str) = "near" then some (psN, W.near) else none) = _
  rw [if_neg (neS "near" "odd"), if_pos rfl]
theorem Wd.dO (W : Wd) : W.env.defs "odd" = some (psO, W.odd) := by
  show (if ("odd" : Str) = "odd" then some (psO, W.odd) else if ("odd" : Str) = "near" then some (psN, W.near) else none) = _
  rw [if_pos rfl]
theorem Wd.defs_of {W : Wd} {z : Str} {d : List Str × Fm} (h : W.env.defs z = some d) : (z = "near" ∧ d = (psN, W.near)) ∨ (z = "odd" ∧ d = (psO, W.odd)) := by
  have h : (if z = "odd" then some (psO, W.odd) else if z = "near" then some (psN, W.near) else none) = some d := h
  by_cases h1 : z = "odd"
  · rw [if_pos h1] at h; exact .inr ⟨h1, (Option.some.inj h).symm⟩
  · rw [if_neg h1] at h
    by_cases h2 : z = "near"
    · rw [if_pos h2] at h; exact .inl ⟨h2, (Option.some.inj h).symm⟩
    · rw [if_neg h2] at h; cases h
theorem Wd.words_of {W : Wd} {z : Str} {t : Tl} (h : W.env.words z = some t) : (z = "T" ∧ t = W.tT) ∨ (z = "W2" ∧ t = W.t2) := by
  have h : (if z = "W2" then some W.t2 else if z = "T" then some W.tT else none) = some t := h
  by_cases h1 : z = "W2"
  · rw [if_pos h1] at h; exact .inr ⟨h1, (Option.some.inj h).symm⟩
  · rw [if_neg h1] at h
    by_cases h2 : z = "T"
    · rw [if_pos h2] at h; exact .inl ⟨h2, (Option.some.inj h).symm⟩
    · rw [if_neg h2] at h; cases h
/-- a formula that the law may draw over the names L -/
def Fine (L : List Str) : Fm → Prop
  | .lin ex ps c => (Fm.lin ex ps c).lok ∧ ps.length ≤ 3 ∧ ∀ x ∈ ps.map (·.1), x ∈ L
  | .pow x => x ∈ L
  | .word wd x _ => (wd = "T" ∨ wd = "W2") ∧ x ∈ L
  | .call nm as => (nm = "near" ∨ nm = "odd") ∧ as.length = 2 ∧ ∀ x ∈ as, x ∈ L
  | .neg f => Fine L f
  | .join op f g => op ∈ ops4 ∧ Fine L f ∧ Fine L g
theorem Fine.free {L : List Str} : ∀ {f : Fm}, Fine L f → ∀ x ∈ f.free, x ∈ L
  | .lin .., h => h.2.2
  | .pow y, h => fun x hx => by
    have : x = y := by simpa [Fm.free] using hx
    rw [this]; exact h
  | .word _ y _, h => fun x hx => by
    have : x = y := by simpa [Fm.free] using hx
    rw [this]; exact h.2
  | .call .., h => h.2.2
  | .neg f, h => Fine.free (f := f) h
  | .join _ f g, h => fun x hx => (List.mem_append.mp hx).elim (Fine.free h.2.1 x) (Fine.free h.2.2 x)
theorem Fine.len {L : List Str} : ∀ {f : Fm}, Fine L f → f.free.length ≤ 3 * 2 ^ f.depth
  | .lin _ ps _, h => by
    have : (ps.map (·.1)).length ≤ 3 := by rw [List.length_map]; exact h.2.1
    show (ps.map (·.1)).length ≤ 3 * 2 ^ 1
    omega
  | .pow _, _ => by show 1 ≤ 3 * 2 ^ 1; decide
  | .word .., _ => by show 1 ≤ 3 * 2 ^ 1; decide
  | .call _ as, h => by show as.length ≤ 3 * 2 ^ 1; rw [h.2.1]; decide
  | .neg f, h => by
    have := Fine.len (f := f) h
    show f.free.length ≤ 3 * 2 ^ (f.depth + 1)
    rw [Nat.pow_succ]; omega
  | .join _ f g, h => by
    have h1 := Fine.len h.2.1
    have h2 := Fine.len h.2.2
    have a1 : 2 ^ f.depth ≤ 2 ^ max f.depth g.depth := Nat.pow_le_pow_right (by decide) (Nat.le_max_left _ _)
    have a2 : 2 ^ g.depth ≤ 2 ^ max f.depth g.depth := Nat.pow_le_pow_right (by decide) (Nat.le_max_right _ _)
    show (f.free ++ g.free).length ≤ 3 * 2 ^ (max f.depth g.depth + 1)
    rw [List.length_append, Nat.pow_succ]; omega
theorem Fine.len4 {L : List Str} {f : Fm} (h : Fine L f) (d : f.depth ≤ 4) : f.free.length ≤ 60 := by
  have h1 := h.len
  have : 2 ^ f.depth ≤ 2 ^ 4 := Nat.pow_le_pow_right (by decide) d
  omega
theorem Fine.sm {L : List Str} : ∀ {f : Fm}, Fine L f → f.sm
  | .lin _ ps _, h => by have := h.2.1; show ps.length ≤ 6; omega
  | .pow _, _ => trivial
  | .word .., _ => trivial
  | .call _ as, h => by show as.length ≤ 6; rw [h.2.1]; decide
  | .neg f, h => Fine.sm (f := f) h
  | .join .., h => ⟨Fine.sm h.2.1, Fine.sm h.2.2⟩
theorem Fine.lok {L : List Str} : ∀ {f : Fm}, Fine L f → f.lok
  | .lin .., h => h.1
  | .pow _, _ => trivial
  | .word .., _ => trivial
  | .call .., _ => trivial
  | .neg f, h => Fine.lok (f := f) h
  | .join .., h => ⟨Fine.lok h.2.1, Fine.lok h.2.2⟩
theorem Fine.wf {L : List Str} {W : Wd} : ∀ {f : Fm}, Fine L f → f.wf W.env
  | .lin .., _ => trivial
  | .pow _, _ => trivial
  | .word .., h => by
    rcases h.1 with rfl | rfl
    · exact ⟨_, W.wT⟩
    · exact ⟨_, W.w2⟩
  | .call .., h => by
    rcases h.1 with rfl | rfl
    · exact ⟨_, _, W.dN, h.2.1.symm⟩
    · exact ⟨_, _, W.dO, h.2.1.symm⟩
  | .neg f, h => Fine.wf (f := f) h
  | .join .., h => ⟨Fine.wf h.2.1, Fine.wf h.2.2⟩
theorem Wd.nearLok {W : Wd} (ok : W.Ok) : W.near.lok := by
  have h1 := ok.c1
  have h2 := ok.c2
  exact ⟨by decide +kernel, by decide +kernel, by show 2 ≤ 6; decide, by decide +kernel, by omega, by omega⟩
theorem Fine.cok {L : List Str} {W : Wd} (ok : W.Ok) : ∀ {f : Fm}, Fine L f → f.cok W.env
  | .lin .., _ => trivial
  | .pow _, _ => trivial
  | .word .., _ => trivial
  | .call nm as, h => by
    rcases h.1 with rfl | rfl
    · exact ⟨_, _, W.dN, h.2.1.symm, by rw [h.2.1]; decide, by decide +kernel, trivial, Wd.nearLok ok, (by show 2 ≤ 6; decide), trivial, (by show 1 ≤ 2; decide), (by show 2 ≤ 60; decide), fun x hx => hx⟩
    · exact ⟨_, _, W.dO, h.2.1.symm, by rw [h.2.1]; decide, by decide +kernel, trivial, trivial, trivial, ⟨_, W.wT⟩, (by show 2 ≤ 2; decide), (by show 1 ≤ 60; decide), fun x hx => by
        have : x = "n" := by simpa [Wd.odd, Fm.free] using hx
        rw [this]; exact List.mem_cons_self⟩
  | .neg f, h => Fine.cok ok (f := f) h
  | .join .., h => ⟨Fine.cok ok h.2.1, Fine.cok ok h.2.2⟩
theorem Wd.small (W : Wd) : DefsSmall W.env := fun z ps g h b => by
  rcases Wd.defs_of h with ⟨_, e⟩ | ⟨_, e⟩
  · cases e; exact b
  · cases e; exact b
/-- how deep the truth of f goes -/
def Fm.rk : Fm → Nat
  | .call _ _ => 3
  | .neg f => f.rk + 1
  | .join _ f g => max f.rk g.rk + 1
  | _ => 1
theorem Fm.rk_le : ∀ f : Fm, f.rk ≤ f.depth + 2
  | .lin .. => by show 1 ≤ 1 + 2; decide
  | .pow _ => by show 1 ≤ 1 + 2; decide
  | .word .. => by show 1 ≤ 1 + 2; decide
  | .call .. => by show 3 ≤ 1 + 2; decide
  | .neg f => by have := f.rk_le; show f.rk + 1 ≤ f.depth + 1 + 2; omega
  | .join _ f g => by
    have h1 := f.rk_le
    have h2 := g.rk_le
    show max f.rk g.rk + 1 ≤ max f.depth g.depth + 1 + 2
    omega
theorem Fm.rk_nc : ∀ {f : Fm}, f.nc → f.rk = f.depth
  | .lin .., _ => rfl
  | .pow _, _ => rfl
  | .word .., _ => rfl
  | .neg f, h => by show f.rk + 1 = f.depth + 1; rw [Fm.rk_nc (f := f) h]
  | .join _ f g, h => by show max f.rk g.rk + 1 = max f.depth g.depth + 1; rw [Fm.rk_nc h.1, Fm.rk_nc h.2]
theorem Fm.rk_pos (f : Fm) : 0 < f.rk := by cases f <;> simp [Fm.rk]
end K36
/-! K36M9: the words of a row of numbers -/
namespace K36
open PySem PySem.Spec PyProof.Rows L2 HotX
theorem mapD (f : Nat → Nat) (h0 : f 0 = 0) (ns : List Nat) (j : Nat) : (ns.map f).getD j 0 = f (ns.getD j 0) := by
  rw [List.getD_eq_getElem?_getD, List.getD_eq_getElem?_getD, List.getElem?_map]
  cases ns[j]? with
  | none => exact h0.symm
  | some x => rfl
theorem bit_of (ns : List Nat) (j : Nat) : lof (ns.map (· % 2)) / 2 ^ j % 2 = ns.getD j 0 % 2 := by
  rw [lof_bit _ _ fun d hd => by
    obtain ⟨t, _, rfl⟩ := List.mem_map.mp hd
    exact Nat.mod_lt _ (by decide), mapD (· % 2) rfl]
theorem tval_word {ns wd : List Nat} (h : WordOf ns wd) (j : Nat) : tval j wd = ns.getD j 0 := by
  induction h with
  | @nil ns e =>
    show 0 = _
    rw [List.getD_eq_getElem?_getD]
    cases hj : ns[j]? with
    | none => rfl
    | some x =>
      have : ¬ 0 < x := fun hx => by
        have := List.any_eq_false.mp e x (List.mem_of_getElem? hj)
        exact this (decide_eq_true hx)
      show 0 = x
      omega
  | @cons ns wd e _ ih =>
    show lof (ns.map (· % 2)) / 2 ^ j % 2 + 2 * tval j wd = _
    rw [ih, bit_of, mapD (· / 2) rfl]
    omega
/-- k letters -/
def bitsW : Nat → List Nat → List Nat
  | 0, _ => []
  | k + 1, ns => lof (ns.map (· % 2)) :: bitsW k (ns.map (· / 2))
theorem tval_bits (j : Nat) : ∀ (k : Nat) (ns : List Nat), tval j (bitsW k ns) = ns.getD j 0 % 2 ^ k
  | 0, ns => by show 0 = _; rw [Nat.pow_zero, Nat.mod_one]
  | k + 1, ns => by
    show lof (ns.map (· % 2)) / 2 ^ j % 2 + 2 * tval j (bitsW k (ns.map (· / 2))) = _
    rw [tval_bits j k, bit_of, mapD (· / 2) rfl]
    generalize ns.getD j 0 = n
    rw [Nat.pow_succ, Nat.mul_comm (2 ^ k) 2, Nat.mod_mul]
theorem bits_lt : ∀ (k : Nat) (ns : List Nat), Val ns.length (bitsW k ns)
  | 0, ns => fun x h => nomatch h
  | k + 1, ns => fun x h => by
    rcases List.mem_cons.mp h with rfl | h
    · have := lof_lt (ns.map (· % 2)) fun d hd => by
        obtain ⟨t, _, rfl⟩ := List.mem_map.mp hd
        exact Nat.mod_lt _ (by decide)
      rwa [List.length_map] at this
    · have := bits_lt k (ns.map (· / 2)) x h
      rwa [List.length_map] at this
/-- what the machine of f says of a word that holds the numbers ν -/
theorem Res.says {e : Env} {f : Fm} {ys : List Str} {m : M} (r : Res e f ys m) (c : f.cok e) {ν : Str → Nat} {wd : List Nat} (v : Val m.w wd) (h : ∀ j x, ys[j]? = some x → tval j wd = ν x) : m.accs (m.run 0 wd) = f.tr e ν := by
  rw [r.lg wd v]
  refine Fm.tr_congr c fun x hx => h _ _ ?_
  have hy := (r.nm.2.2 x).mpr hx
  rw [List.getElem?_eq_getElem (List.idxOf_lt_length_of_mem hy), List.getElem_idxOf]
theorem row_at {ν : Str → Nat} {ys : List Str} {j : Nat} {x : Str} (h : ys[j]? = some x) : (ys.map ν).getD j 0 = ν x := by
  rw [List.getD_eq_getElem?_getD, List.getElem?_map, h]
  rfl
theorem Res.word {e : Env} {f : Fm} {ys : List Str} {m : M} (r : Res e f ys m) (c : f.cok e) {ν : Str → Nat} {wd : List Nat} (h : WordOf (ys.map ν) wd) : m.accs (m.run 0 wd) = f.tr e ν := by
  refine r.says c (fun x hx => ?_) fun j x hj => (tval_word h j).trans (row_at hj)
  have := h.lt x hx
  rw [List.length_map, ← r.wd] at this
  exact this
theorem Res.bits {e : Env} {f : Fm} {ys : List Str} {m : M} (r : Res e f ys m) (c : f.cok e) {ν : Str → Nat} (h : ∀ x ∈ ys, ν x < 2 ^ 50) : m.accs (m.run 0 (bitsW 50 (ys.map ν))) = f.tr e ν := by
  refine r.says c (fun x hx => ?_) fun j x hj => ?_
  · have := bits_lt 50 (ys.map ν) x hx
    rw [List.length_map, ← r.wd] at this
    exact this
  · rw [tval_bits, row_at hj, Nat.mod_eq_of_lt (h x (List.mem_of_getElem? hj))]
end K36
/-! K36W17: the words of the law -/
namespace K36
open PySem PySem.Spec PyProof.Rows L2 HotX
theorem lc_invR {n : Nat} {g : TG} {te : TE} {vs : List Nat} {σ : L2.St} {H1 : Hp} {D : Addr} {Qd : Hp → Prop} (J : Nat → List V → Hp → Prop) (hz : n ≤ 1000000) (h0 : J 0 [] (upd H1 D (.lst [])))
    (hs : ∀ (i : Nat) (H : Hp) (acc : List V) (k : VK), i < n → J i acc H → H D = some (.lst acc) → (∀ y H4, H4 D = some (.lst acc) → J (i + 1) (acc ++ [y]) (upd H4 D (.lst (acc ++ [y]))) → k y H4) → g (iV i) (wipe σ vs) H fun σ2 H2 => wipe σ2 vs = wipe σ vs ∧ te σ2 H2 k)
    (mono : ∀ x σ H (Q Q' : St → Hp → Prop), (∀ σ H, Q σ H → Q' σ H) → g x σ H Q → g x σ H Q')
    (hd : ∀ ys H, ys.length = n → J n ys H → H D = some (.lst ys) → Qd H) :
    ∃ W : Nat → Nat → Hp → Prop, (∃ m, W 0 m (upd H1 D (.lst []))) ∧ ∀ i m H, W i m H →
      ((Itr 0 n).stop i H ∧ Qd H) ∨ ((Itr 0 n).go i H ∧ ∃ Nx : Hp → Prop, (∀ H', Nx H' → ∃ m', m' < m ∧ W (i + 1) m' H') ∧ ∀ x H', (Itr 0 n).yld i H x H' → g x (wipe σ vs) H' fun σ2 H2 => wipe σ2 vs = wipe σ vs ∧ tYes σ2 H2 fun b H3 =>
        if b = true then te σ2 H3 fun y H4 => ∃ acc, H4 D = some (.lst acc) ∧ acc.length < sizeLine ∧ Nx (upd H4 D (.lst (acc ++ [y]))) else Nx H3) := by
  refine lc_range (fun i H => ∃ ys, ys.length = i ∧ J i ys H ∧ H D = some (.lst ys)) ⟨[], rfl, h0, upd_same⟩ (fun i H hi h => ?_) fun H h => ?_
  · obtain ⟨ys, hl, j, e⟩ := h
    rw [Int.zero_add]
    refine mono _ _ _ _ _ (fun σ2 H2 z => ⟨z.1, z.2⟩) (hs i H ys (fun y H4 => ∃ acc, H4 D = some (.lst acc) ∧ acc.length < sizeLine ∧ ∃ zs, zs.length = i + 1 ∧ J (i + 1) zs (upd H4 D (.lst (acc ++ [y]))) ∧ upd H4 D (.lst (acc ++ [y])) D = some (.lst zs)) hi j e fun y H4 e4 j4 => ?_)
    exact ⟨ys, e4, by rw [hl, sizeLine_eq]; omega, ys ++ [y], by simp [hl], j4, upd_same⟩
  · obtain ⟨ys, hl, j, e⟩ := h
    exact hd ys H hl j e
theorem PoolAt.same {K : PySem.W.Frag} {H H' : Hp} {p sa : Addr} (x : PoolAt K H p sa) (s : L2.Same H H') : PoolAt K H' p sa :=
  let ⟨a1, a3, a4, g1, g2, g3⟩ := x
  ⟨a1, a3, a4, s _ _ g1, s _ _ g2, g3⟩
theorem PoolAt.ne {K : PySem.W.Frag} {H : Hp} {p sa b : Addr} {xs : List V} (x : PoolAt K H p sa) (h : H b = some (.lst xs)) (n : ∀ (n : Nat) (k : Int) (sa : Addr), xs ≠ [iV n, .ref sa, .int k]) : b ≠ p := fun e => by
  obtain ⟨a1, a3, a4, g1, _⟩ := x
  rw [e, g1] at h
  cases h
  exact n _ _ _ rfl
/-- what is new is neither the pool nor its script -/
theorem PoolAt.new {K : PySem.W.Frag} {H : Hp} {p sa b : Addr} (x : PoolAt K H p sa) (n : H b = none) : b ≠ p ∧ b ≠ sa := by
  obtain ⟨a1, a3, a4, g1, g2, _⟩ := x
  exact ⟨(ne_of_none g1 n).symm, (ne_of_none g2 n).symm⟩
/-- another object changes: the pool stands -/
theorem PoolAt.put {K : PySem.W.Frag} {H : Hp} {p sa b : Addr} {o : HO} (x : PoolAt K H p sa) (n : b ≠ p ∧ b ≠ sa) : PoolAt K (upd H b o) p sa := by
  obtain ⟨a1, a3, a4, g1, g2, g3, g4⟩ := x
  exact ⟨a1, a3, a4, by rw [upd_ne n.1.symm]; exact g1, by rw [upd_ne n.2.symm]; exact g2, g3, g4⟩
theorem Fx.put {S : List Addr} {H H' : Hp} {D : Addr} {o : HO} (f : Fx S H H') (n : H D = none) : Fx S H (upd H' D o) :=
  ⟨fun b u e m => by rw [upd_ne (ne_of_none e n)]; exact f.keep b u e m, fun b xs e => by rw [upd_ne (ne_of_none e n)]; exact f.tup b xs e⟩
theorem nats_ref : ∀ {r : List Nat} {ls : List Addr}, r.length = 2 → natsV r ≠ ls.map V.ref
  | [_, _], [], _, e => by cases e
  | [_, _], _ :: _, _, e => by cases e
/-- a word of the world: [outputs, table] -/
def TsAt (H : Hp) (a : Addr) (t : Tl) : Prop := ∃ oa ta, H a = some (.lst [.ref oa, .ref ta]) ∧ H oa = some (.lst (natsV t.outs)) ∧ TabAt H ta t.tab
theorem TsAt.same {H H' : Hp} {a : Addr} {t : Tl} (x : TsAt H a t) (s : L2.Same H H') : TsAt H' a t :=
  let ⟨oa, ta, h1, h2, h3⟩ := x
  ⟨oa, ta, s _ _ h1, s _ _ h2, h3.same fun b xs e => s _ _ e⟩
theorem TabAt.get {H : Hp} {l : Addr} {tab : List (List Nat)} (t : TabAt H l tab) {i : Nat} (h : i < tab.length) : ∃ (ls : List Addr) (a : Addr), H l = some (.lst (ls.map V.ref)) ∧ atI (ls.map V.ref) (i : Int) = some (V.ref a) ∧ H a = some (.lst (natsV tab[i])) := by
  obtain ⟨ls, a, h1, h2, h3⟩ := t.row (List.getElem?_eq_getElem h)
  exact ⟨ls, a, h1, atI_nat h2, h3⟩
theorem f0_at {tab : List (List Nat)} (hr : ∀ r ∈ tab, r.length = 2 ∧ ∀ x ∈ r, x < tab.length) {s : Nat} (h : s < tab.length) : atI (natsV tab[s]) (0 : Int) = some (iV (f0 tab s)) ∧ f0 tab s < tab.length := by
  obtain ⟨h2, hx⟩ := hr _ (List.getElem_mem h)
  have e : f0 tab s = tab[s].getD 0 0 := by
    unfold f0
    rw [List.getD_eq_getElem?_getD (l := tab), List.getElem?_eq_getElem h]
    rfl
  match hm : tab[s], h2, hx with
  | [a, b], _, hx =>
    rw [e, hm]
    exact ⟨iV0, hx a (by simp)⟩
section
variable {P : Program} {w : World} {K : PySem.W.Frag} {mg : Str → Option Value} {base : Heap}
def p__law_told_states : Q1 := fun c a H Q _ => c = true ∧ ∃ (p sa : Addr), a = .ref p ∧ PoolAt K H p sa ∧ ∀ H' r t, PoolAt K H' p sa → TsAt H' r t → t.Ok → Fx [p] H H' → H r = none → Q (.ref r) H'
theorem ok__law_told_states (T : Txt P w K mg) : FnQ P w K mg base 3 (He.ga K "_law_told_states") 1 (Sp1 (p__law_told_states (K := K))) := by
  refine fnQ1 T.F__law_told_states sc__law_told_states (fun _ _ _ _ _ _ us hl => match us, hl with | [_], _ => rfl) fun cdv A outer s H a Q E l qa hr h => ?_
  obtain ⟨hc, p, sa, rfl, pa, q⟩ := h
  cases l with
  | cons _ _ => cases hc
  | nil =>
    refine ⟨_, (pss_cons (ps_set (i := 1) sc__law_told_states.nd rfl (Or.inr rfl) (pe_op op_add pe_int (pe_callQ (ok__law_take T) (hr.mono (by omega)) (cxQ_quiet qa) T.g__law_take pass0 (pa_cons (pv 0) (pa_cons pe_int pa_nil)))))
      (pss_cons (ps_setLcQ (i := 2) (own := [("_law_k", 3)]) (g := gName 3) (tt := tYes) (cxQ_quiet qa) sc__law_told_states.nd rfl rfl (sw_true rfl rfl rfl (by decide +kernel)) (piR1 rfl T.free_range (pa_cons (pv 1) pa_nil)) (blkOk_by (N := ["_law_pool_here", "_law_size", "_law_table", "_law_k", "_law_outputs", "_law_state", "_law_seen", "_law_ring"]) (sc := defScope s__law_told_states) (by decide +kernel)) (fun _ _ _ _ hq => pg_name (i := 3) sc__law_told_states.nd rfl (Or.inl rfl)) (fun _ _ _ _ hq => pts_nil) (fun _ _ _ _ hq hcm => (pe_lst (pa_cons (pe_callK (c := true) (ok__law_take T) (hr.mono (by omega)) hq T.g__law_take pass0 (pa_cons (pv 0) (pa_cons (pv 1) pa_nil)) hcm) (pa_cons (pe_callK (c := true) (ok__law_take T) (hr.mono (by omega)) hq T.g__law_take pass0 (pa_cons (pv 0) (pa_cons (pv 1) pa_nil)) hcm) pa_nil)))))
      (pss_cons (ps_set (i := 4) sc__law_told_states.nd rfl (Or.inl rfl) (pe_lst pa_nil))
      (pss_cons (ps_forQ PassesOwn.leaving (cxQ_quiet qa) (piR1 rfl T.free_range (pa_cons (pv 1) pa_nil)) (pg_name (i := 5) sc__law_told_states.nd rfl (Or.inl rfl)) (pss_cons (ps_set (i := 6) sc__law_told_states.nd rfl (Or.inl rfl) (pv 5))
        (pss_cons (ps_forQ PassesOwn.leaving (cxQ_quiet qa) (piR1 rfl T.free_range (pa_cons (pv 1) pa_nil)) (pg_name (i := 3) sc__law_told_states.nd rfl (Or.inl rfl)) (pss_one (ps_set (i := 6) sc__law_told_states.nd rfl (Or.inl rfl) (pe_ix ix_list (pe_ix ix_list (pv 2) (pv 6) (fun _ _ => rfl)) pe_int (fun _ _ => rfl)))))
        (pss_cons (ps_set (i := 7) sc__law_told_states.nd rfl (Or.inl rfl) (pe_lst (pa_cons (pv 6) pa_nil)))
        (pss_cons (ps_forQ PassesOwn.leaving (cxQ_quiet qa) (piR1 rfl T.free_range (pa_cons (pv 1) pa_nil)) (pg_name (i := 3) sc__law_told_states.nd rfl (Or.inl rfl)) (pss_cons (ps_set (i := 6) sc__law_told_states.nd rfl (Or.inl rfl) (pe_ix ix_list (pe_ix ix_list (pv 2) (pv 6) (fun _ _ => rfl)) pe_int (fun _ _ => rfl)))
          (pss_one (ps_expr (pe_bm PySem.F.plainAttrs_list PySem.F.slot_list_append PySem.F.type_list_append mt_append (pv 7) (pa_cons (pv 6) pa_nil))))))
        (pss_one (ps_expr (pe_bm PySem.F.plainAttrs_list PySem.F.slot_list_append PySem.F.type_list_append mt_append (pv 4) (pa_cons (pe_op op_mod (pe_op op_mul (pe_callB (cr_min rfl) rfl T.free_min (by decide +kernel) (pa_cons (pv 7) pa_nil)) pe_int) pe_int) pa_nil)))))))))
      (pss_one (ps_ret (pe_lst (pa_cons (pv 4) (pa_cons (pv 2) pa_nil))))))))), ?_⟩
    refine ⟨_, rfl, _, _, rfl, p, sa, 5, rfl, rfl, by decide, by decide, pa, fun H1 n1 p1 l1 f1 => ?_⟩
    refine ⟨_, _, rfl, rfl, ?_⟩
    obtain ⟨n, hn⟩ : ∃ n : Nat, (1 : Int) + (n1 : Int) = (n : Int) := ⟨1 + n1, by omega⟩
    change gName 1 (V.int ((1 : Int) + (n1 : Int))) _ _ _
    rw [hn]
    have n0 : 0 < n := by omega
    have n5 : n ≤ 5 := by omega
    refine ⟨_, rfl, _, rfl, by omega, by omega, fun D nD => ?_⟩
    rw [toN]
    refine lc_invR (fun i ys H => PoolAt K H p sa ∧ Fx [p] H1 H ∧ ∃ (ls : List Addr) (tab : List (List Nat)), ys = ls.map V.ref ∧ ls.length = i ∧ tab.length = i ∧ (∀ r ∈ tab, r.length = 2 ∧ ∀ x ∈ r, x < n) ∧ ∀ (j : Nat) (b : Addr), ls[j]? = some b → ∃ r, tab[j]? = some r ∧ H b = some (.lst (natsV r))) (by omega) ⟨p1.same (same_upd nD), same_fx (same_upd nD), [], [], rfl, rfl, rfl, (fun r h => nomatch h), fun j b e => by simp at e⟩ ?_ gName_mono ?_
    · rintro i H2 acc k hi ⟨p2, f2, ls, tab, rfl, l2, t2, r2, h2⟩ hD kk
      have nD' := PoolAt.new p1 nD
      refine ⟨rfl, _, rfl, _, rfl, _, _, rfl, p, sa, n, rfl, rfl, n0, by omega, p2, fun H3 a3 p3 la f3 => ?_⟩
      refine ⟨_, rfl, _, rfl, _, _, rfl, p, sa, n, rfl, rfl, n0, by omega, p3, fun H4 a4 p4 lb f4 => ?_⟩
      refine ⟨by show 2 ≤ sizeLine; decide, fun b nb => ?_⟩
      have s5 := same_upd (o := .lst [iV a3, iV a4]) nb
      have hb5 : upd H4 b (.lst [iV a3, iV a4]) b = some (.lst (natsV [a3, a4])) := upd_same
      have f5 : Fx [p] H2 (upd H4 b (.lst [iV a3, iV a4])) := (f3.trans f4).trans (same_fx s5)
      have p5 := PoolAt.same p4 s5
      generalize upd H4 b (.lst [iV a3, iV a4]) = H5 at s5 hb5 f5 p5
      have hD5 := f5.keep _ _ hD (by simpa using nD'.1)
      have rowD : ∀ {H : Hp} {c : Addr} {r : List Nat} {ls : List Addr}, r.length = 2 → H c = some (.lst (natsV r)) → H D = some (.lst (ls.map V.ref)) → c ≠ D := fun h2 h3 h4 e => by
        rw [e, h4] at h3
        exact nats_ref h2 (HO.lst.inj (Option.some.inj h3)).symm
      refine kk _ _ hD5 ⟨p5.put nD', (f2.trans f5).put nD, ls ++ [b], tab ++ [[a3, a4]], by simp, by simp [l2], by simp [t2], fun r hr => ?_, fun j c hc => ?_⟩
      · rcases List.mem_append.mp hr with hr | hr
        · exact r2 r hr
        · have : r = [a3, a4] := by simpa using hr
          subst this
          exact ⟨rfl, fun x hx => by
            have : x = a3 ∨ x = a4 := by simpa using hx
            omega⟩
      · rcases Nat.lt_or_ge j ls.length with hj | hj
        · rw [List.getElem?_append_left hj] at hc
          obtain ⟨r, e1, e2⟩ := h2 j c hc
          have hr2 := (r2 r (List.mem_of_getElem? e1)).1
          have cp : c ≠ p := p2.ne e2 fun n k sa e => by
            have := congrArg List.length e
            rw [List.length_map, hr2] at this
            cases this
          have cD := rowD hr2 e2 hD
          exact ⟨r, by rw [List.getElem?_append_left (by omega)]; exact e1, by rw [upd_ne cD]; exact f5.keep _ _ e2 (by simpa using cp)⟩
        · rw [List.getElem?_append_right hj] at hc
          cases hk : j - ls.length with
          | zero =>
            rw [hk] at hc
            cases hc
            have : j = tab.length := by omega
            subst this
            exact ⟨[a3, a4], by simp, by rw [upd_ne (rowD rfl hb5 hD5)]; exact hb5⟩
          | succ z => rw [hk] at hc; cases hc
    · rintro ys H2 yl ⟨p2, f2, ls, tab, rfl, l2, t2, r2, h2⟩ hD
      have nD' := PoolAt.new p1 nD
      have tb2 : TabAt H2 D tab := ⟨ls, hD, by rw [l2, t2], h2⟩
      subst t2
      refine ⟨by show 0 ≤ sizeLine; decide, fun oa noa => ?_⟩
      have s3 : L2.Same H2 (upd H2 oa (.lst [])) := same_upd noa
      have hoa : upd H2 oa (.lst []) oa = some (.lst (natsV [])) := upd_same
      generalize upd H2 oa (.lst []) = H3 at s3 hoa ⊢
      have f_lt : ∀ x, x < tab.length → f0 tab x < tab.length := fun x hx => (f0_at r2 hx).2
      refine ⟨_, rfl, _, rfl, by omega, by omega, ?_⟩
      rw [toN]
      refine for_range (fun i σ H4 => L2.Same H2 H4 ∧ H4 oa = some (.lst (natsV ((List.range i).map fun s => minF (ring (f0 tab) tab.length s) * 3 % 10))) ∧ ∃ o3 o5 o6 o7, σ = [some (.ref p), some (iV tab.length), some (.ref D), o3, some (.ref oa), o5, o6, o7]) ⟨s3, hoa, _, _, _, _, rfl⟩ ?_ ?_
      · rintro i σ H4 hi ⟨s4, ho4, o3, o5, o6, o7, rfl⟩
        rw [Int.zero_add]
        refine ⟨_, rfl, ?_⟩
        refine ⟨_, rfl, _, rfl, by omega, by omega, ?_⟩
        rw [toN]
        have t4 : TabAt H4 D tab := tb2.same fun b xs e => s4 _ _ e
        refine for_range (fun k σ H5 => H5 = H4 ∧ ∃ o3, σ = [some (.ref p), some (iV tab.length), some (.ref D), o3, some (.ref oa), some (iV i), some (iV (itr (f0 tab) k i)), o7]) ⟨rfl, _, rfl⟩ ?_ ?_
        · rintro k σ H5 hk ⟨rfl, o3', rfl⟩
          have lt := itr_lt f_lt hi k
          obtain ⟨ls', b, e1, e2, e3⟩ := t4.get lt
          refine ⟨_, rfl, _, rfl, D, _, _, _, rfl, rfl, SqL.of e1, e2, b, _, _, _, rfl, rfl, SqL.of e3, (f0_at r2 lt).1, rfl, _, rfl⟩
        · rintro σ H5 ⟨rfl, o3', rfl⟩
          refine ⟨_, rfl, by show 1 ≤ sizeLine; decide, fun b nb => ?_⟩
          have hn := itr_lt f_lt hi tab.length
          generalize hs0 : itr (f0 tab) tab.length i = s0 at hn ⊢
          have s5 : L2.Same H5 (upd H5 b (.lst [iV s0])) := same_upd nb
          have hb5 : upd H5 b (.lst [iV s0]) b = some (.lst (natsV ((List.range (0 + 1)).map fun j => itr (f0 tab) j s0))) := upd_same
          generalize upd H5 b (.lst [iV s0]) = H6 at s5 hb5 ⊢
          refine ⟨_, rfl, _, rfl, by omega, by omega, ?_⟩
          rw [toN]
          refine for_range (fun k σ H7 => L2.Same H5 H7 ∧ H7 b = some (.lst (natsV ((List.range (k + 1)).map fun j => itr (f0 tab) j s0))) ∧ ∃ o3, σ = [some (.ref p), some (iV tab.length), some (.ref D), o3, some (.ref oa), some (iV i), some (iV (itr (f0 tab) k s0)), some (.ref b)]) ⟨s5, hb5, _, rfl⟩ ?_ ?_
          · rintro k σ H7 hk ⟨s7, hb7, o3'', rfl⟩
            have lt := itr_lt f_lt hn k
            obtain ⟨ls', b', e1, e2, e3⟩ := (t4.same fun b xs e => s7 _ _ e).get lt
            refine ⟨_, rfl, _, rfl, D, _, _, _, rfl, rfl, SqL.of e1, e2, b', _, _, _, rfl, rfl, SqL.of e3, (f0_at r2 lt).1, ?_⟩
            have hl : (natsV ((List.range (k + 1)).map fun j => itr (f0 tab) j s0)).length < sizeLine := by rw [List.length_map, List.length_map, List.length_range, sizeLine_eq]; omega
            refine ⟨_, rfl, .inl ⟨rfl, _, SqL.of hb7⟩, _, rfl, b, _, _, rfl, rfl, hb7, hl, same_upd2 s7 nb, ?_, _, rfl⟩
            rw [upd_same]
            simp [natsV, List.range_succ]
            rfl
          · rintro σ H7 ⟨s7, hb7, o3'', rfl⟩
            have ho7 := s7 _ _ ho4
            have hl : (natsV ((List.range i).map fun s => minF (ring (f0 tab) tab.length s) * 3 % 10)).length < sizeLine := by rw [List.length_map, List.length_map, List.length_range, sizeLine_eq]; omega
            refine ⟨_, rfl, .inl ⟨rfl, _, SqL.of ho7⟩, _, rfl, b, _, rfl, (by rw [← natsV_int]; exact SqL.of hb7), by simp, fun m hm hle => ?_⟩
            refine ⟨_, _, rfl, rfl, .inr ⟨by decide, by decide⟩, _, _, rfl, rfl, (show (0 : Int) < 10 by decide), oa, _, _, rfl, rfl, ho7, hl, same_upd2 (s4.trans s7) noa, ?_, _, _, _, _, rfl⟩
            obtain ⟨m', hm', rfl⟩ := List.mem_map.mp hm
            have e : minF (ring (f0 tab) tab.length i) = m' := by
              refine minF_eq (by unfold ring; rw [hs0]; exact hm') fun y hy => ?_
              unfold ring at hy
              rw [hs0] at hy
              have := hle _ (List.mem_map_of_mem hy)
              omega
            rw [upd_same, List.range_succ, List.map_append, natsV_app, List.map_singleton, e]
            rfl
      · rintro σ H4 ⟨s4, ho4, o3, o5, o6, o7, rfl⟩
        refine ⟨_, rfl, _, rfl, by show 2 ≤ sizeLine; decide, fun r nr => ?_⟩
        have s5 := same_upd (o := .lst [.ref oa, .ref D]) nr
        have nrH : H r = none := by
          cases hz : H r with
          | none => rfl
          | some o =>
            have rp : r ∉ [p] := fun z => by
              rw [List.mem_singleton.mp z] at nr
              obtain ⟨_, _, _, g, _⟩ := p2.same s4
              rw [g] at nr
              cases nr
            have := s4 _ _ ((f1.trans f2).keep _ _ hz rp)
            rw [this] at nr
            cases nr
        refine q _ r (tsOf tab) ((p2.same s4).same s5) ⟨oa, D, upd_same, s5 _ _ ho4, tb2.same fun b xs e => s5 _ _ (s4 _ _ e)⟩ (tsOf_ok n0 (by omega) r2) ((f1.trans f2).trans (same_fx (s4.trans s5))) nrH
end
end K36
/-! K36W18: the formulas of the law -/
namespace K36
open PySem PySem.Spec PyProof.Rows L2 HotX
theorem names_ne {K : PySem.W.Frag} {H : Hp} {p sa b : Addr} {L : List Str} (x : PoolAt K H p sa) (h : H b = some (.lst (L.map V.str))) : b ≠ p := x.ne h fun n k sa e => by
  cases L with
  | nil => cases e
  | cons a L => cases e
theorem names_fx {K : PySem.W.Frag} {H H' : Hp} {p sa b : Addr} {L : List Str} (x : PoolAt K H p sa) (h : H b = some (.lst (L.map V.str))) (f : Fx [p] H H') : H' b = some (.lst (L.map V.str)) :=
  f.keep _ _ h (by simp; exact names_ne x h)
theorem FmAt.fx {S : List Addr} {H H' : Hp} {f : Fm} {a : Addr} (x : FmAt H f a) (k : Fx S H H') : FmAt H' f a := x.keep k.tup
theorem PrAt.fx {S : List Addr} {H H' : Hp} {ps : List (Str × Int)} {a : Addr} (x : PrAt H a ps) (k : Fx S H H') : PrAt H' a ps := x.keep k.tup
theorem pickI (xs : List Int) {n : Nat} (h : n < xs.length) : ∃ x, x ∈ xs ∧ atI (intsV xs) (n : Int) = some (.int x) :=
  ⟨xs[n], List.getElem_mem h, atI_nat (by show (xs.map V.int)[n]? = _; rw [List.getElem?_map, List.getElem?_eq_getElem h]; rfl)⟩
theorem pickS (xs : List Str) {n : Nat} (h : n < xs.length) : ∃ x, x ∈ xs ∧ atI (xs.map V.str) (n : Int) = some (.str x) :=
  ⟨xs[n], List.getElem_mem h, atI_nat (by rw [List.getElem?_map, List.getElem?_eq_getElem h]; rfl)⟩
theorem refs_of {G : Nat → Addr → Prop} {ys : List V} (h : ∀ i y, ys[i]? = some y → ∃ b, y = .ref b ∧ G i b) : ∃ as : List Addr, ys = as.map V.ref ∧ ∀ i b, as[i]? = some b → G i b := by
  refine ⟨ys.map fun y => match y with
    | .ref b => b
    | _ => 0, ?_, fun i b e => ?_⟩
  · rw [List.map_map]
    refine (List.map_id' _).symm.trans (List.map_congr_left fun y hy => ?_)
    obtain ⟨i, hi⟩ := List.getElem?_of_mem hy
    obtain ⟨b, rfl, _⟩ := h i y hi
    rfl
  · obtain ⟨y, e1, e2⟩ := map_at e
    obtain ⟨b', rfl, g⟩ := h i y e1
    rw [e2]
    exact g
/-- what the pairs of a term hold -/
def PairsK (L : List Str) (kvs : List (Key × V)) : Prop := (kvs.map (·.1)).Nodup ∧ ∀ kv ∈ kvs, ∃ z x, kv = (Sum.inr z, V.int x) ∧ z ∈ L ∧ -3 ≤ x ∧ x ≤ 3
theorem PairsK.put {L : List Str} {kvs : List (Key × V)} (h : PairsK L kvs) {z : Str} {x : Int} (hz : z ∈ L) (h1 : -3 ≤ x) (h2 : x ≤ 3) : PairsK L (putK kvs (Sum.inr z) (.int x)) := by
  unfold putK
  split
  · refine ⟨?_, fun kv hkv => ?_⟩
    · rw [List.map_map]
      have : ((fun kv : Key × V => kv.1) ∘ fun kv => if kv.1 = Sum.inr z then (kv.1, V.int x) else kv) = fun kv => kv.1 := by
        funext kv
        show (if kv.1 = Sum.inr z then (kv.1, V.int x) else kv).1 = kv.1
        split <;> rfl
      rw [this]; exact h.1
    · obtain ⟨kv', m, rfl⟩ := List.mem_map.mp hkv
      by_cases e : kv'.1 = Sum.inr z
      · rw [if_pos e, e]; exact ⟨z, x, rfl, hz, h1, h2⟩
      · rw [if_neg e]; exact h.2 kv' m
  · rename_i hn
    refine ⟨?_, fun kv hkv => ?_⟩
    · rw [List.map_append]
      refine List.nodup_append.mpr ⟨h.1, by simp, fun a ha b hb e => hn ?_⟩
      have hb : b = Sum.inr z := by simpa using hb
      obtain ⟨kv, m, rfl⟩ := List.mem_map.mp ha
      exact List.any_eq_true.mpr ⟨kv, m, decide_eq_true (e.trans hb)⟩
    · rcases List.mem_append.mp hkv with m | m
      · exact h.2 kv m
      · have : kv = (Sum.inr z, V.int x) := by simpa using m
        exact ⟨z, x, this, hz, h1, h2⟩
def keyS (kv : Key × V) : Str := match kv.1 with
  | .inr z => z
  | .inl _ => ""
theorem PairsK.keys {L : List Str} {kvs : List (Key × V)} (h : PairsK L kvs) : kvs.map (·.1) = (kvs.map keyS).map Sum.inr := by
  rw [List.map_map]
  refine List.map_congr_left fun kv m => ?_
  obtain ⟨z, x, rfl, _⟩ := h.2 kv m
  rfl
theorem PairsK.nd {L : List Str} {kvs : List (Key × V)} (h : PairsK L kvs) : (kvs.map keyS).Nodup := by
  have := h.1
  rw [h.keys] at this
  exact List.Pairwise.of_map _ (fun a b h e => h (congrArg _ e)) this
theorem PairsK.val {L : List Str} {kvs : List (Key × V)} (h : PairsK L kvs) {z : Str} (hz : z ∈ kvs.map keyS) : ∃ x, valV kvs (Sum.inr z) = some (.int x) ∧ z ∈ L ∧ -3 ≤ x ∧ x ≤ 3 := by
  obtain ⟨kv, m, rfl⟩ := List.mem_map.mp hz
  obtain ⟨z, x, rfl, _⟩ := h.2 kv m
  show ∃ x, valV kvs (Sum.inr z) = some (.int x) ∧ z ∈ L ∧ _
  unfold valV
  cases e : kvs.find? fun kv => decide (kv.1 = Sum.inr z) with
  | none => exact absurd (List.find?_eq_none.mp e _ m) (by simp)
  | some kv' =>
    obtain ⟨z', x', rfl, h1, h2, h3⟩ := h.2 kv' (List.mem_of_find?_eq_some e)
    have hk := List.find?_some e
    have : z' = z := by simpa using hk
    subst this
    exact ⟨x', rfl, h1, h2, h3⟩
/-- the value under a name -/
def coef (kvs : List (Key × V)) (z : Str) : Int := match valV kvs (Sum.inr z) with
  | some (.int x) => x
  | _ => 0
theorem absS_le : ∀ (l : List Int), (∀ x ∈ l, -3 ≤ x ∧ x ≤ 3) → absS l ≤ 3 * l.length
  | [], _ => Int.le_refl _
  | a :: l, h => by
    have h1 := h a List.mem_cons_self
    have h2 := absS_le l fun x hx => h x (List.mem_cons_of_mem _ hx)
    have e : absS (a :: l) = (a.natAbs : Int) + absS l := by unfold absS; rw [List.map_cons, List.sum_cons]
    rw [e, List.length_cons]
    omega
theorem fine_term {L : List Str} {kvs : List (Key × V)} {ys : List Str} {c : Int} (h : PairsK L kvs) (hp : ys.Perm (kvs.map keyS)) (hs : sortedS ys = true) (h3 : kvs.length ≤ 3) (c1 : -6 ≤ c) (c2 : c ≤ 6) (ex : Bool) : Fine L (.lin ex (ys.map fun z => (z, coef kvs z)) c) := by
  have e1 : (ys.map fun z => (z, coef kvs z)).map (·.1) = ys := by rw [List.map_map]; exact List.map_id' ys
  have e2 : (ys.map fun z => (z, coef kvs z)).map (·.2) = ys.map (coef kvs) := by rw [List.map_map]; rfl
  have hl : ys.length ≤ 3 := by rw [hp.length_eq, List.length_map]; exact h3
  have hb : ∀ x ∈ ys.map (coef kvs), -3 ≤ x ∧ x ≤ 3 := fun x hx => by
    obtain ⟨z, hz, rfl⟩ := List.mem_map.mp hx
    obtain ⟨x, e, _, h1, h2⟩ := h.val (hp.mem_iff.mp hz)
    unfold coef
    rw [e]
    exact ⟨h1, h2⟩
  have ha := absS_le _ hb
  rw [List.length_map] at ha
  refine ⟨⟨by rw [e1]; exact hs, by rw [e1]; exact hp.nodup_iff.mpr h.nd, by rw [List.length_map]; omega, by rw [e2]; omega, by omega, by omega⟩, by rw [List.length_map]; exact hl, ?_⟩
  rw [e1]
  intro x hx
  obtain ⟨_, _, hL, _⟩ := h.val (hp.mem_iff.mp hx)
  exact hL
section
variable {P : Program} {w : World} {K : PySem.W.Frag} {mg : Str → Option Value} {base : Heap}
def p__law_small_term : Q2 := fun c a b H Q _ => c = true ∧ ∃ (p sa na : Addr) (L : List Str), a = .ref p ∧ b = .ref na ∧ PoolAt K H p sa ∧ H na = some (.lst (L.map V.str)) ∧ 0 < L.length ∧ L.length ≤ 3 ∧
  ∀ H' t pt ps cc, PoolAt K H' p sa → Fx [p] H H' → H' t = some (.tup [.ref pt, .int cc]) → PrAt H' pt ps → (∀ ex, Fine L (.lin ex ps cc)) → Q (.ref t) H'
theorem ok__law_small_term (T : Txt P w K mg) : FnQ P w K mg base 3 (He.ga K "_law_small_term") 2 (Sp2 (p__law_small_term (K := K))) := by
  refine fnQ2 T.F__law_small_term sc__law_small_term (fun _ _ _ _ _ _ us hl => match us, hl with | [_, _], _ => rfl) fun cdv A outer s H a b Q E l qa hr h => ?_
  obtain ⟨hc, p, sa, na, L, rfl, rfl, pa, hn, l0, l3, q⟩ := h
  cases l with
  | cons _ _ => cases hc
  | nil =>
    refine ⟨_, (pss_cons (ps_set (i := 2) sc__law_small_term.nd rfl (Or.inr rfl) pe_dnewK)
      (pss_cons (ps_forQ PassesOwn.leaving (cxQ_quiet qa) (piR1 rfl T.free_range (pa_cons (pe_op op_add pe_int (pe_callQ (ok__law_take T) (hr.mono (by omega)) (cxQ_quiet qa) T.g__law_take pass0 (pa_cons (pv 0) (pa_cons pe_int pa_nil)))) pa_nil)) (pg_name (i := 3) sc__law_small_term.nd rfl (Or.inl rfl)) (pss_one (ps_dput (huD hr) (pv 2) (pe_ix ix_list (pv 1) (pe_callQ (ok__law_take T) (hr.mono (by omega)) (cxQ_quiet qa) T.g__law_take pass0 (pa_cons (pv 0) (pa_cons (pe_callB call_len_seq rfl T.free_len PySem.boot_len (pa_cons (pv 1) pa_nil)) pa_nil))) (fun _ _ => rfl)) (pe_ix ix_list (pe_lst (pa_cons pe_int (pa_cons (pe_un un_neg pe_int) (pa_cons pe_int (pa_cons (pe_un un_neg pe_int) (pa_cons pe_int (pa_cons pe_int (pa_cons (pe_un un_neg pe_int) pa_nil)))))))) (pe_callQ (ok__law_take T) (hr.mono (by omega)) (cxQ_quiet qa) T.g__law_take pass0 (pa_cons (pv 0) (pa_cons pe_int pa_nil))) (fun _ _ => rfl)) rfl)))
      (pss_cons (ps_set (i := 4) sc__law_small_term.nd rfl (Or.inl rfl) (pe_ix ix_list (pe_lst (pa_cons pe_int (pa_cons pe_int (pa_cons pe_int (pa_cons (pe_un un_neg pe_int) (pa_cons pe_int (pa_cons (pe_un un_neg pe_int) (pa_cons pe_int (pa_cons (pe_un un_neg pe_int) pa_nil))))))))) (pe_callQ (ok__law_take T) (hr.mono (by omega)) (cxQ_quiet qa) T.g__law_take pass0 (pa_cons (pv 0) (pa_cons pe_int pa_nil))) (fun _ _ => rfl)))
      (pss_one (ps_ret (pe_tup (pa_cons (pe_callTy call_tuple_of rfl T.free_tuple (by decide +kernel) (pa_cons (pe_lcQ (own := [("_law_name", 5)]) (g := gName 5) (tt := tYes) (cxQ_quiet qa) sc__law_small_term.nd (piL (pe_callB (call_sortedD rfl) rfl T.free_sorted (by decide +kernel) (pa_cons (pv 2) pa_nil))) (blkOk_by (N := ["_law_pool_here", "_law_names", "_law_pairs", "_law_k", "_law_constant", "_law_name"]) (sc := defScope s__law_small_term) (by decide +kernel)) (fun _ _ _ _ hq => pg_name (i := 5) sc__law_small_term.nd rfl (Or.inl rfl)) (fun _ _ _ _ hq => pts_nil) (fun _ _ _ _ hq hcm => (pe_tup (pa_cons (pv 5) (pa_cons (pe_dget (huD hr) (pv 2) (pv 5) (fun _ _ => rfl)) pa_nil))))) pa_nil)) (pa_cons (pv 4) pa_nil)))))))), ?_⟩
    refine fun dA nd => ?_
    have nd' := PoolAt.new pa nd
    have s1 : L2.Same H (upd H dA (.dK [])) := same_upd nd
    have hd1 : upd H dA (.dK []) dA = some (.dK []) := upd_same
    have p1 := pa.same s1
    generalize upd H dA (.dK []) = H1 at s1 hd1 p1 ⊢
    refine ⟨_, rfl, _, _, rfl, p, sa, 3, rfl, rfl, by decide, by decide, p1, fun H2 m p2 m3 f2 => ⟨_, _, rfl, rfl, _, rfl, by omega, by omega, ?_⟩⟩
    rw [show ((1 : Int) + (m : Int)).toNat = m + 1 by omega]
    refine for_range (fun i σ H3 => PoolAt K H3 p sa ∧ Fx [p] H H3 ∧ ∃ kvs, H3 dA = some (.dK kvs) ∧ PairsK L kvs ∧ kvs.length ≤ i ∧ ∃ o3, σ = [some (.ref p), some (.ref na), some (.ref dA), o3, none, none]) ⟨p2, (same_fx s1).trans f2, [], f2.keep _ _ hd1 (by simpa using nd'.1), ⟨List.nodup_nil, fun kv h => nomatch h⟩, Nat.le_refl _, _, rfl⟩ ?_ ?_
    · rintro i σ H3 hi ⟨p3, f3, kvs, hd3, pk, kl, o3, rfl⟩
      refine ⟨_, rfl, _, rfl, _, rfl, by show 7 ≤ sizeLine; decide, fun la nla => ?_⟩
      have s4 := same_upd (o := .lst (intsV [1, -1, 2, -2, 3, 1, -1])) nla
      have hl4 : upd H3 la (.lst (intsV [1, -1, 2, -2, 3, 1, -1])) la = some (.lst (intsV [1, -1, 2, -2, 3, 1, -1])) := upd_same
      have nl' := PoolAt.new p3 nla
      have p4 := p3.same s4
      have f4 := f3.trans (same_fx s4)
      have hd4 := s4 _ _ hd3
      change (_ : Hp → Prop) (upd H3 la (.lst (intsV [1, -1, 2, -2, 3, 1, -1])))
      generalize upd H3 la (.lst (intsV [1, -1, 2, -2, 3, 1, -1])) = H4 at s4 hl4 p4 f4 hd4 ⊢
      refine ⟨_, rfl, _, _, rfl, p, sa, 7, rfl, rfl, by decide, by decide, p4, fun H5 n5 p5 b5 f5 => ?_⟩
      obtain ⟨x, xm, xe⟩ := pickI [1, -1, 2, -2, 3, 1, -1] (n := n5) b5
      have xb : ∀ x ∈ ([1, -1, 2, -2, 3, 1, -1] : List Int), -3 ≤ x ∧ x ≤ 3 := by decide
      have f5' := f4.trans f5
      have hn5 := names_fx pa hn f5'
      have hd5 := f5.keep _ _ hd4 (by simpa using nd'.1)
      refine ⟨la, _, _, _, rfl, rfl, SqL.of (f5.keep _ _ hl4 (by simpa using nl'.1)), xe, ?_⟩
      refine ⟨_, rfl, _, rfl, _, rfl, _, rfl, na, _, rfl, .inl (SqL.of hn5), _, _, rfl, p, sa, L.length, rfl, (by rw [List.length_map]), l0, by omega, p5, fun H6 n6 p6 b6 f6 => ?_⟩
      obtain ⟨z, zm, ze⟩ := pickS L b6
      have hn6 := names_fx pa hn (f5'.trans f6)
      have hd6 := f6.keep _ _ hd5 (by simpa using nd'.1)
      refine ⟨na, _, _, _, rfl, rfl, SqL.of hn6, ze, dA, _, rfl, DPut.k (k := Sum.inr z) hd6 (by rw [sizeLine_eq]; omega), ?_⟩
      exact ⟨p6.put nd', (f5'.trans f6).put nd, _, upd_same, pk.put zm (xb x xm).1 (xb x xm).2, (by have := length_putK kvs (Sum.inr z) (V.int x); omega), _, rfl⟩
    · rintro σ H3 ⟨p3, f3, kvs, hd3, pk, kl, o3, rfl⟩
      refine ⟨_, rfl, _, rfl, _, rfl, by show 8 ≤ sizeLine; decide, fun la nla => ?_⟩
      have s4 := same_upd (o := .lst (intsV [0, 0, 1, -1, 2, -3, 5, -6])) nla
      have hl4 : upd H3 la (.lst (intsV [0, 0, 1, -1, 2, -3, 5, -6])) la = some (.lst (intsV [0, 0, 1, -1, 2, -3, 5, -6])) := upd_same
      have nl' := PoolAt.new p3 nla
      have p4 := p3.same s4
      have f4 := f3.trans (same_fx s4)
      have hd4 := s4 _ _ hd3
      change (_ : Hp → Prop) (upd H3 la (.lst (intsV [0, 0, 1, -1, 2, -3, 5, -6])))
      generalize upd H3 la (.lst (intsV [0, 0, 1, -1, 2, -3, 5, -6])) = H4 at s4 hl4 p4 f4 hd4 ⊢
      refine ⟨_, rfl, _, _, rfl, p, sa, 8, rfl, rfl, by decide, by decide, p4, fun H5 n5 p5 b5 f5 => ?_⟩
      obtain ⟨c, cm, ce⟩ := pickI [0, 0, 1, -1, 2, -3, 5, -6] (n := n5) b5
      have cb : ∀ x ∈ ([0, 0, 1, -1, 2, -3, 5, -6] : List Int), -6 ≤ x ∧ x ≤ 6 := by decide
      have f5' := f4.trans f5
      have hd5 := f5.keep _ _ hd4 (by simpa using nd'.1)
      refine ⟨la, _, _, _, rfl, rfl, SqL.of (f5.keep _ _ hl4 (by simpa using nl'.1)), ce, ?_⟩
      have k3 : kvs.length ≤ 3 := by omega
      refine ⟨_, rfl, dA, kvs, kvs.map keyS, rfl, .inl hd5, pk.keys, by rw [List.length_map]; omega, fun ys D perm srt nD => ?_⟩
      have s6 : L2.Same H5 (upd H5 D (.lst (ys.map V.str))) := same_upd nD
      have hD6 : upd H5 D (.lst (ys.map V.str)) D = some (.lst (ys.map V.str)) := upd_same
      generalize upd H5 D (.lst (ys.map V.str)) = H6 at s6 hD6 ⊢
      have hd6 := s6 _ _ hd5
      have yl : ys.length ≤ 3 := by rw [perm.length_eq, List.length_map]; exact k3
      refine ⟨D, rfl, ⟨_, SqL.of hD6⟩, fun D2 nD2 => ?_⟩
      refine lc_objL (fun i y H => ∃ b, y = .ref b ∧ ∃ z, ys[i]? = some z ∧ H b = some (.tup [.str z, .int (coef kvs z)])) nD2 (SqL.of hD6) (by rw [List.length_map]; omega) ?_ ?_ gName_mono ?_
      · rintro i y H7 H8 acc ⟨b, rfl, z, e1, e2⟩ hD7 kp
        exact ⟨b, rfl, z, e1, kp _ _ e2 fun e => by rw [e, hD7] at e2; cases e2⟩
      · rintro i x H7 acc k hx s7 hD7 kk
        obtain ⟨z, e1, rfl⟩ := map_at hx
        obtain ⟨v, hv, zL, _, _⟩ := pk.val (perm.mem_iff.mp (List.mem_of_getElem? e1))
        have cz : coef kvs z = v := by unfold coef; rw [hv]
        have hg := DGet.k (k := Sum.inr z) (s7 _ _ hd6)
        rw [hv] at hg
        refine ⟨rfl, _, rfl, _, rfl, _, rfl, dA, _, rfl, hg, by show 2 ≤ sizeLine; decide, fun b nb => ?_⟩
        exact kk _ _ (same_upd nb) ⟨b, rfl, z, e1, by rw [upd_same, cz]⟩
      · intro ys' H7 yl' s7 hD7 al
        obtain ⟨as, rfl, ha⟩ := refs_of al
        refine ⟨D2, _, rfl, .inl ⟨SqL.of hD7, fun pt npt => ?_⟩⟩
        have s8 := same_upd (o := .tup (as.map V.ref)) npt
        have hpt : upd H7 pt (.tup (as.map V.ref)) pt = some (.tup (as.map V.ref)) := upd_same
        generalize upd H7 pt (.tup (as.map V.ref)) = H8 at s8 hpt ⊢
        refine ⟨_, rfl, by show 2 ≤ sizeLine; decide, fun t nt => ?_⟩
        have s9 := same_upd (o := .tup [.ref pt, .int c]) nt
        have sA := ((s6.trans s7).trans s8).trans s9
        rw [List.length_map, List.length_map] at yl'
        refine q _ t pt (ys.map fun z => (z, coef kvs z)) c (p5.same sA) (f5'.trans (same_fx sA)) upd_same ⟨as, s9 _ _ hpt, by rw [List.length_map]; exact yl', fun i b hb => ?_⟩ fun ex => fine_term pk perm srt k3 (cb c cm).1 (cb c cm).2 ex
        obtain ⟨z, e1, e2⟩ := ha i b hb
        exact ⟨(z, coef kvs z), by rw [List.getElem?_map, e1]; rfl, s9 _ _ (s8 _ _ e2)⟩
end
end K36
/-! K36W19: atoms, formulas of the law -/
namespace K36
open PySem PySem.Spec PyProof.Rows L2 HotX
section
variable {P : Program} {w : World} {K : PySem.W.Frag} {mg : Str → Option Value} {base : Heap}
abbrev strsC : List Str := ["near", "odd"]
abbrev strsL : List Str := ["eq", "le"]
abbrev strsO : List Str := ["and", "or", "imp", "iff"]
theorem lst_strs {H : Hp} {la : Addr} {L : List Str} (n : H la = none) : upd H la (.lst (L.map V.str)) la = some (.lst (L.map V.str)) := upd_same
def p__law_atom : Q2 := fun c a b H Q _ => c = true ∧ ∃ (p sa na : Addr) (L : List Str), a = .ref p ∧ b = .ref na ∧ PoolAt K H p sa ∧ H na = some (.lst (L.map V.str)) ∧ 0 < L.length ∧ L.length ≤ 3 ∧
  ∀ H' t f, PoolAt K H' p sa → Fx [p] H H' → FmAt H' f t → Fine L f → f.depth ≤ 1 → Q (.ref t) H'
theorem ok__law_atom (T : Txt P w K mg) : FnQ P w K mg base 4 (He.ga K "_law_atom") 2 (Sp2 (p__law_atom (K := K))) := by
  refine fnQ2 T.F__law_atom sc__law_atom (fun _ _ _ _ _ _ us hl => match us, hl with | [_, _], _ => rfl) fun cdv A outer s H a b Q E l qa hr h => ?_
  obtain ⟨hc, p, sa, na, L, rfl, rfl, pa, hn, l0, l3, q⟩ := h
  cases l with
  | cons _ _ => cases hc
  | nil =>
    refine ⟨_, (pss_cons (ps_set (i := 2) sc__law_atom.nd rfl (Or.inl rfl) (pe_callQ (ok__law_take T) (hr.mono (by omega)) (cxQ_quiet qa) T.g__law_take pass0 (pa_cons (pv 0) (pa_cons pe_int pa_nil))))
      (pss_cons (ps_set (i := 3) sc__law_atom.nd rfl (Or.inl rfl) (pe_ix ix_list (pv 1) (pe_callQ (ok__law_take T) (hr.mono (by omega)) (cxQ_quiet qa) T.g__law_take pass0 (pa_cons (pv 0) (pa_cons (pe_callB call_len_seq rfl T.free_len PySem.boot_len (pa_cons (pv 1) pa_nil)) pa_nil))) (fun _ _ => rfl)))
      (pss_cons (ps_if (pt_cmpR op_eq (pv 2) pe_int (nomark _)) (pss_one (ps_ret (pe_tup (pa_cons pe_str (pa_cons (pe_ix ix_list (pe_lst (pa_cons pe_str (pa_cons pe_str pa_nil))) (pe_callQ (ok__law_take T) (hr.mono (by omega)) (cxQ_quiet qa) T.g__law_take pass0 (pa_cons (pv 0) (pa_cons pe_int pa_nil))) (fun _ _ => rfl)) (pa_cons (pe_tup (pa_cons (pv 3) (pa_cons (pe_ix ix_list (pv 1) (pe_callQ (ok__law_take T) (hr.mono (by omega)) (cxQ_quiet qa) T.g__law_take pass0 (pa_cons (pv 0) (pa_cons (pe_callB call_len_seq rfl T.free_len PySem.boot_len (pa_cons (pv 1) pa_nil)) pa_nil))) (fun _ _ => rfl)) pa_nil))) pa_nil)))))) pss_nil)
      (pss_cons (ps_if (pt_cmpR op_eq (pv 2) pe_int (nomark _)) (pss_one (ps_ret (pe_tup (pa_cons pe_str (pa_cons (pv 3) pa_nil))))) pss_nil)
      (pss_cons (ps_if (pt_cmpR op_eq (pv 2) pe_int (nomark _)) (pss_one (ps_ret (pe_tup (pa_cons pe_str (pa_cons pe_str (pa_cons (pv 3) (pa_cons (pe_callQ (ok__law_take T) (hr.mono (by omega)) (cxQ_quiet qa) T.g__law_take pass0 (pa_cons (pv 0) (pa_cons pe_int pa_nil))) pa_nil))))))) pss_nil)
      (pss_cons (ps_if (pt_cmpR op_eq (pv 2) pe_int (nomark _)) (pss_one (ps_ret (pe_tup (pa_cons pe_str (pa_cons pe_str (pa_cons (pv 3) (pa_cons pe_int pa_nil))))))) pss_nil)
      (pss_one (ps_ret (pe_tup (pa_cons (pe_ix ix_list (pe_lst (pa_cons pe_str (pa_cons pe_str pa_nil))) (pe_op op_mod (pv 2) pe_int) (fun _ _ => rfl)) (pa_cons (pe_callQ (ok__law_small_term T) (hr.mono (by omega)) (cxQ_quiet qa) T.g__law_small_term pass0 (pa_cons (pv 0) (pa_cons (pv 1) pa_nil))) pa_nil))))))))))), ?_⟩
    refine ⟨_, rfl, _, _, rfl, p, sa, 7, rfl, rfl, by decide, by decide, pa, fun H1 c p1 c7 f1 => ?_⟩
    have hn1 := names_fx pa hn f1
    refine ⟨_, rfl, _, rfl, _, rfl, na, _, rfl, .inl (SqL.of hn1), _, _, rfl, p, sa, L.length, rfl, (by rw [List.length_map]), l0, by omega, p1, fun H2 n2 p2 b2 f2 => ?_⟩
    obtain ⟨x, xm, xe⟩ := pickS L b2
    have f2' := f1.trans f2
    have hn2 := names_fx pa hn f2'
    refine ⟨na, _, _, _, rfl, rfl, SqL.of hn2, xe, ?_⟩
    refine ⟨_, rfl, rfl, ?_⟩
    by_cases c6 : c = 6
    · refine ⟨true, dT (by rw [c6]; rfl), by show 2 ≤ sizeLine; decide, fun la nla => ?_⟩
      have s3 := same_upd (o := .lst (strsC.map V.str)) nla
      have hl3 : upd H2 la (.lst (strsC.map V.str)) la = some (.lst (strsC.map V.str)) := upd_same
      have nl' := PoolAt.new p2 nla
      have p3 := p2.same s3
      have f3 := f2'.trans (same_fx s3)
      change (_ : Hp → Prop) (upd H2 la (.lst (strsC.map V.str)))
      generalize upd H2 la (.lst (strsC.map V.str)) = H3 at s3 hl3 p3 f3 ⊢
      refine ⟨_, rfl, _, _, rfl, p, sa, 2, rfl, rfl, by decide, by decide, p3, fun H4 n4 p4 b4 f4 => ?_⟩
      obtain ⟨nm, nmm, nme⟩ := pickS strsC (n := n4) b4
      have f4' := f3.trans f4
      have hn4 := names_fx pa hn f4'
      refine ⟨la, _, _, _, rfl, rfl, SqL.of (f4.keep _ _ hl3 (by simpa using nl'.1)), nme, ?_⟩
      refine ⟨_, rfl, _, rfl, _, rfl, _, rfl, na, _, rfl, .inl (SqL.of hn4), _, _, rfl, p, sa, L.length, rfl, (by rw [List.length_map]), l0, by omega, p4, fun H5 n5 p5 b5 f5 => ?_⟩
      obtain ⟨y, ym, ye⟩ := pickS L b5
      have f5' := f4'.trans f5
      have hn5 := names_fx pa hn f5'
      refine ⟨na, _, _, _, rfl, rfl, SqL.of hn5, ye, by show 2 ≤ sizeLine; decide, fun ta nta => ⟨by show 3 ≤ sizeLine; decide, fun t nt => ?_⟩⟩
      have sA := (same_upd (o := .tup [.str x, .str y]) nta).trans (same_upd (o := .tup [.str "call", .str nm, .ref ta]) nt)
      refine q _ t (.call nm [x, y]) (p5.same sA) (f5'.trans (same_fx sA)) ⟨ta, upd_same, same_upd nt _ _ upd_same⟩ ⟨by simpa using nmm, rfl, fun z hz => ?_⟩ (Nat.le_refl _)
      have : z = x ∨ z = y := by simpa using hz
      rcases this with rfl | rfl
      · exact xm
      · exact ym
    · refine ⟨false, dF (intNe (by omega)), ?_⟩
      refine ⟨_, rfl, rfl, ?_⟩
      by_cases c0 : c = 0
      · refine ⟨true, dT (by rw [c0]; rfl), _, rfl, by show 2 ≤ sizeLine; decide, fun t nt => ?_⟩
        have sA := same_upd (o := .tup [.str "pow", .str x]) nt
        exact q _ t (.pow x) (p2.same sA) (f2'.trans (same_fx sA)) upd_same xm (Nat.le_refl _)
      · refine ⟨false, dF (intNe (by omega)), ?_⟩
        refine ⟨_, rfl, rfl, ?_⟩
        by_cases c1 : c = 1
        · refine ⟨true, dT (by rw [c1]; rfl), _, rfl, _, rfl, _, _, rfl, p, sa, 10, rfl, rfl, by decide, by decide, p2, fun H3 o p3 o9 f3 => ?_⟩
          refine ⟨by show 4 ≤ sizeLine; decide, fun t nt => ?_⟩
          have sA := same_upd (o := .tup [.str "word", .str "T", .str x, iV o]) nt
          exact q _ t (.word "T" x o) (p3.same sA) ((f2'.trans f3).trans (same_fx sA)) upd_same ⟨.inl rfl, xm⟩ (Nat.le_refl _)
        · refine ⟨false, dF (intNe (by omega)), ?_⟩
          refine ⟨_, rfl, rfl, ?_⟩
          by_cases c2 : c = 2
          · refine ⟨true, dT (by rw [c2]; rfl), _, rfl, by show 4 ≤ sizeLine; decide, fun t nt => ?_⟩
            have sA := same_upd (o := .tup [.str "word", .str "W2", .str x, iV 0]) nt
            exact q _ t (.word "W2" x 0) (p2.same sA) (f2'.trans (same_fx sA)) upd_same ⟨.inr rfl, xm⟩ (Nat.le_refl _)
          · refine ⟨false, dF (intNe (by omega)), ?_⟩
            refine ⟨by show 2 ≤ sizeLine; decide, fun la nla => ?_⟩
            have s3 := same_upd (o := .lst (strsL.map V.str)) nla
            have hl3 : upd H2 la (.lst (strsL.map V.str)) la = some (.lst (strsL.map V.str)) := upd_same
            have p3 := p2.same s3
            have f3 := f2'.trans (same_fx s3)
            change (_ : Hp → Prop) (upd H2 la (.lst (strsL.map V.str)))
            generalize upd H2 la (.lst (strsL.map V.str)) = H3 at s3 hl3 p3 f3 ⊢
            obtain ⟨hd, hdm, hde⟩ := pickS strsL (n := c % 2) (Nat.mod_lt _ (by decide))
            have hde' : atI (strsL.map V.str) ((c : Int) % 2) = some (.str hd) := by
              rw [← modN c 2] at hde
              exact hde
            refine ⟨_, rfl, _, _, rfl, rfl, (show (0 : Int) < 2 by decide), la, _, _, _, rfl, rfl, SqL.of hl3, hde', ?_⟩
            refine ⟨_, rfl, _, rfl, _, _, rfl, rfl, p, sa, na, L, rfl, rfl, p3, names_fx pa hn f3, l0, l3, fun H4 t4 pt ps cc p4 f4 ht pr fine => ?_⟩
            refine ⟨by show 2 ≤ sizeLine; decide, fun t nt => ?_⟩
            have hh : ∃ ex, hd = hdL ex := by
              have : hd = "eq" ∨ hd = "le" := by simpa using hdm
              rcases this with rfl | rfl
              · exact ⟨true, rfl⟩
              · exact ⟨false, rfl⟩
            obtain ⟨ex, rfl⟩ := hh
            have sA := same_upd (o := .tup [.str (hdL ex), .ref t4]) nt
            exact q _ t (.lin ex ps cc) (p4.same sA) ((f3.trans f4).trans (same_fx sA)) ⟨t4, pt, upd_same, sA _ _ ht, pr.keep fun _ _ z => sA _ _ z⟩ (fine ex) (Nat.le_refl _)
def p__law_plain (d : Nat) : Q3 := fun c a b y H Q _ => c = true ∧ ∃ (p sa na : Addr) (L : List Str) (n : Nat), a = .ref p ∧ b = .ref na ∧ y = iV n ∧ n < d ∧ PoolAt K H p sa ∧ H na = some (.lst (L.map V.str)) ∧ 0 < L.length ∧ L.length ≤ 3 ∧
  ∀ H' t f, PoolAt K H' p sa → Fx [p] H H' → FmAt H' f t → Fine L f → f.depth ≤ n + 1 → Q (.ref t) H'
theorem ok__law_plain (T : Txt P w K mg) : ∀ d, FnQ P w K mg base (d + 5) (He.ga K "_law_plain") 3 (Sp3 (p__law_plain (K := K) d))
  | 0 => by
    refine fnQ3 T.F__law_plain sc__law_plain (fun _ _ _ _ _ _ us hl => match us, hl with | [_, _, _], _ => rfl) fun cdv A outer s H a b y Q E l qa hr h => ?_
    obtain ⟨hc, p, sa, na, L, n, rfl, rfl, rfl, hd, _⟩ := h
    exact absurd hd (Nat.not_lt_zero _)
  | d + 1 => by
    have ih := ok__law_plain T d
    refine fnQ3 T.F__law_plain sc__law_plain (fun _ _ _ _ _ _ us hl => match us, hl with | [_, _, _], _ => rfl) fun cdv A outer s H a b y Q E l qa hr h => ?_
    obtain ⟨hc, p, sa, na, L, n, rfl, rfl, rfl, hd, pa, hn, l0, l3, q⟩ := h
    cases l with
    | cons _ _ => cases hc
    | nil =>
      refine ⟨_, (pss_cons (ps_set (i := 3) sc__law_plain.nd rfl (Or.inl rfl) (pe_callQ (ok__law_take T) (hr.mono (by omega)) (cxQ_quiet qa) T.g__law_take pass0 (pa_cons (pv 0) (pa_cons pe_int pa_nil))))
      (pss_cons (ps_if (PW.pt (pw_or (pt_cmpR op_eq (pv 2) pe_int (nomark _)) (pw_or1 (pt_cmpR op_lt (pv 3) pe_int (nomark _))))) (pss_one (ps_ret (pe_callQ (ok__law_atom T) (hr.mono (by omega)) (cxQ_quiet qa) T.g__law_atom pass0 (pa_cons (pv 0) (pa_cons (pv 1) pa_nil))))) pss_nil)
      (pss_cons (ps_if (pt_cmpR op_eq (pv 3) pe_int (nomark _)) (pss_one (ps_ret (pe_tup (pa_cons pe_str (pa_cons (pe_callQ ih (hr.mono (by omega)) (cxQ_quiet qa) T.g__law_plain pass0 (pa_cons (pv 0) (pa_cons (pv 1) (pa_cons (pe_op op_sub (pv 2) pe_int) pa_nil)))) pa_nil))))) pss_nil)
      (pss_cons (ps_set (i := 4) sc__law_plain.nd rfl (Or.inl rfl) (pe_callQ ih (hr.mono (by omega)) (cxQ_quiet qa) T.g__law_plain pass0 (pa_cons (pv 0) (pa_cons (pv 1) (pa_cons (pe_op op_sub (pv 2) pe_int) pa_nil)))))
      (pss_one (ps_ret (pe_tup (pa_cons (pe_ix ix_list (pe_lst (pa_cons pe_str (pa_cons pe_str (pa_cons pe_str (pa_cons pe_str pa_nil))))) (pe_op op_sub (pv 3) pe_int) (fun _ _ => rfl)) (pa_cons (pv 4) (pa_cons (pe_callQ ih (hr.mono (by omega)) (cxQ_quiet qa) T.g__law_plain pass0 (pa_cons (pv 0) (pa_cons (pv 1) (pa_cons (pe_op op_sub (pv 2) pe_int) pa_nil)))) pa_nil)))))))))), ?_⟩
      refine ⟨_, rfl, _, _, rfl, p, sa, 7, rfl, rfl, by decide, by decide, pa, fun H1 c p1 c7 f1 => ?_⟩
      have hn1 := names_fx pa hn f1
      have atom : (tRet (tCallQ true (Sp2 (p__law_atom (K := K))) E0 (tCons (tVar 0) (tCons (tVar 1) tNil)))) { nx := fun _ H' => Q .non H', rt := Q } [some (.ref p), some (.ref na), some (iV n), some (iV c), none] H1 :=
        ⟨_, rfl, _, rfl, _, _, rfl, rfl, p, sa, na, L, rfl, rfl, p1, hn1, l0, l3, fun H2 t f p2 f2 ha fi de => q H2 t f p2 (f1.trans f2) ha fi (by omega)⟩
      refine ⟨_, rfl, rfl, ?_⟩
      by_cases n0 : n = 0
      · exact ⟨true, dT (by rw [n0]; rfl), atom⟩
      · refine ⟨false, dF (intNe (by omega)), _, rfl, _, _, rfl, rfl, ?_⟩
        by_cases c2 : (c : Int) < 2
        · exact ⟨true, dT c2, atom⟩
        · refine ⟨false, dF c2, ?_⟩
          refine ⟨_, rfl, rfl, ?_⟩
          by_cases e2 : c = 2
          · refine ⟨true, dT (by rw [e2]; rfl), ?_⟩
            refine ⟨_, rfl, _, rfl, _, rfl, _, _, rfl, rfl, _, _, _, rfl, rfl, p, sa, na, L, n - 1, rfl, rfl, (congrArg V.int (by omega)), by omega, p1, hn1, l0, l3, fun H2 t f p2 f2 ha fi de => ?_⟩
            refine ⟨by show 2 ≤ sizeLine; decide, fun t2 nt => ?_⟩
            have sA := same_upd (o := .tup [.str "not", .ref t]) nt
            exact q _ t2 (.neg f) (p2.same sA) ((f1.trans f2).trans (same_fx sA)) ⟨t, upd_same, ha.keep fun _ _ z => sA _ _ z⟩ fi (by show f.depth + 1 ≤ n + 1; omega)
          · refine ⟨false, dF (intNe (by omega)), ?_⟩
            refine ⟨_, rfl, _, rfl, _, rfl, _, _, rfl, rfl, _, _, _, rfl, rfl, p, sa, na, L, n - 1, rfl, rfl, (congrArg V.int (by omega)), by omega, p1, hn1, l0, l3, fun H2 t f p2 f2 ha fi de => ?_⟩
            have f2' := f1.trans f2
            refine ⟨by show 4 ≤ sizeLine; decide, fun la nla => ?_⟩
            have s3 := same_upd (o := .lst (strsO.map V.str)) nla
            have hl3 : upd H2 la (.lst (strsO.map V.str)) la = some (.lst (strsO.map V.str)) := upd_same
            have p3 := p2.same s3
            have f3 := f2'.trans (same_fx s3)
            have ha3 := ha.keep fun _ _ z => s3 _ _ z
            change (_ : Hp → Prop) (upd H2 la (.lst (strsO.map V.str)))
            generalize upd H2 la (.lst (strsO.map V.str)) = H3 at s3 hl3 p3 f3 ha3 ⊢
            obtain ⟨op, opm, ope⟩ := pickS strsO (n := c - 3) (by show c - 3 < 4; omega)
            have ope' : atI (strsO.map V.str) ((c : Int) - 3) = some (.str op) := by
              rw [show ((c : Int) - 3) = ((c - 3 : Nat) : Int) by omega]
              exact ope
            refine ⟨_, rfl, _, _, rfl, rfl, la, _, _, _, rfl, rfl, SqL.of hl3, ope', ?_⟩
            refine ⟨_, rfl, _, rfl, _, rfl, _, rfl, _, _, rfl, rfl, _, _, _, rfl, rfl, p, sa, na, L, n - 1, rfl, rfl, (congrArg V.int (by omega)), by omega, p3, names_fx pa hn f3, l0, l3, fun H4 t4 g p4 f4 ha4 fi4 de4 => ?_⟩
            refine ⟨by show 3 ≤ sizeLine; decide, fun t5 nt => ?_⟩
            have sA := same_upd (o := .tup [.str op, .ref t, .ref t4]) nt
            exact q _ t5 (.join op f g) (p4.same sA) ((f3.trans f4).trans (same_fx sA)) ⟨t, t4, upd_same, opm, (ha3.fx f4).keep fun _ _ z => sA _ _ z, ha4.keep fun _ _ z => sA _ _ z⟩ ⟨opm, fi, fi4⟩ (by show max f.depth g.depth + 1 ≤ n + 1; omega)
end
end K36
/-! K36W20: the world of the law -/
namespace K36
open PySem PySem.Spec PyProof.Rows L2 HotX
theorem PoolAt.neN {K : PySem.W.Frag} {H : Hp} {p sa b : Addr} {r : List Nat} (x : PoolAt K H p sa) (h : H b = some (.lst (natsV r))) : b ≠ p := x.ne h fun n k sa e => by
  match r, e with
  | [], e => cases e
  | [_], e => cases e
  | _ :: _ :: _, e => cases e
theorem PoolAt.neR {K : PySem.W.Frag} {H : Hp} {p sa b : Addr} {r : List Addr} (x : PoolAt K H p sa) (h : H b = some (.lst (r.map V.ref))) : b ≠ p := x.ne h fun n k sa e => by
  match r, e with
  | [], e => cases e
  | _ :: _, e => cases e
theorem PoolAt.neD {K : PySem.W.Frag} {H : Hp} {p sa b : Addr} {ks : List (Key × V)} (x : PoolAt K H p sa) (h : H b = some (.dK ks)) : b ≠ p := fun e => by
  obtain ⟨_, _, _, g, _⟩ := x
  rw [e, g] at h
  cases h
theorem PoolAt.neZ {K : PySem.W.Frag} {H : Hp} {p sa b : Addr} {xs : List V} (x : PoolAt K H p sa) (h : TupZ H b xs) : b ≠ p := fun e => by
  obtain ⟨_, _, _, g, _⟩ := x
  obtain ⟨o, h, _⟩ := h
  rw [e, g] at h
  cases h
theorem TsAt.fx {K : PySem.W.Frag} {H H' : Hp} {p sa a : Addr} {t : Tl} (x : TsAt H a t) (pa : PoolAt K H p sa) (f : Fx [p] H H') : TsAt H' a t := by
  obtain ⟨oa, ta, h1, h2, ls, h3, h4, h5⟩ := x
  refine ⟨oa, ta, f.keep _ _ h1 (by simpa using pa.neR (r := [oa, ta]) h1), f.keep _ _ h2 (by simpa using pa.neN h2), ls, f.keep _ _ h3 (by simpa using pa.neR h3), h4, fun i b e => ?_⟩
  obtain ⟨r, e1, e2⟩ := h5 i b e
  exact ⟨r, e1, f.keep _ _ e2 (by simpa using pa.neN e2)⟩
/-- what the law keeps of its words and definitions -/
structure WAt (H : Hp) (wa : Addr) (e : Env) : Prop where
  ex : ∃ wd cd kw kc, H wa = some (.lst [.ref wd, .ref cd]) ∧ H wd = some (.dK kw) ∧ H cd = some (.dK kc) ∧ (∀ z t, e.words z = some t → ∃ a, valV kw (Sum.inr z) = some (.ref a) ∧ TsAt H a t ∧ t.Ok) ∧
    ∀ z ps g, e.defs z = some (ps, g) → ∃ r pa fa, valV kc (Sum.inr z) = some (.ref r) ∧ H r = some (.tup [.ref pa, .ref fa]) ∧ TupZ H pa (ps.map V.str) ∧ FmAt H g fa
theorem WAt.same {H H' : Hp} {wa : Addr} {e : Env} (x : WAt H wa e) (s : L2.Same H H') : WAt H' wa e := by
  obtain ⟨wd, cd, kw, kc, h1, h2, h3, h4, h5⟩ := x.ex
  refine ⟨wd, cd, kw, kc, s _ _ h1, s _ _ h2, s _ _ h3, fun z t h => ?_, fun z ps g h => ?_⟩
  · obtain ⟨a, k1, k2, k3⟩ := h4 z t h
    exact ⟨a, k1, k2.same s, k3⟩
  · obtain ⟨r, pa, fa, k1, k2, k3, k4⟩ := h5 z ps g h
    exact ⟨r, pa, fa, k1, s _ _ k2, k3.same s, k4.keep fun _ _ z => s _ _ z⟩
theorem WAt.fx {K : PySem.W.Frag} {H H' : Hp} {p sa wa : Addr} {e : Env} (x : WAt H wa e) (pl : PoolAt K H p sa) (f : Fx [p] H H') : WAt H' wa e := by
  obtain ⟨wd, cd, kw, kc, h1, h2, h3, h4, h5⟩ := x.ex
  refine ⟨wd, cd, kw, kc, f.keep _ _ h1 (by simpa using pl.neR (r := [wd, cd]) h1), f.keep _ _ h2 (by simpa using pl.neD h2), f.keep _ _ h3 (by simpa using pl.neD h3), fun z t h => ?_, fun z ps g h => ?_⟩
  · obtain ⟨a, k1, k2, k3⟩ := h4 z t h
    exact ⟨a, k1, k2.fx pl f, k3⟩
  · obtain ⟨r, pa, fa, k1, k2, k3, k4⟩ := h5 z ps g h
    exact ⟨r, pa, fa, k1, f.tup _ _ k2, k3.keep f.keep (by simpa using pl.neZ k3), k4.fx f⟩
/-- the word that tells the parity of the digits 1 -/
def tlP : Tl := ⟨[0, 1], [[0, 1], [1, 0]]⟩
theorem tlP_ok : tlP.Ok where
  pos := by decide
  small := by decide
  out9 := by decide
  tlen := rfl
  rows := by decide
  sett := fun s h => by
    match s, h with
    | 0, _ => rfl
    | 1, _ => rfl
theorem parity {H : Hp} {oa ra rb ta da : Addr} (n1 : H oa = none) (n2 : upd H oa (.lst [.int 0, .int 1]) ra = none) (n3 : upd (upd H oa (.lst [.int 0, .int 1])) ra (.lst [.int 0, .int 1]) rb = none)
    (n4 : upd (upd (upd H oa (.lst [.int 0, .int 1])) ra (.lst [.int 0, .int 1])) rb (.lst [.int 1, .int 0]) ta = none) (n5 : upd (upd (upd (upd H oa (.lst [.int 0, .int 1])) ra (.lst [.int 0, .int 1])) rb (.lst [.int 1, .int 0])) ta (.lst [.ref ra, .ref rb]) da = none) :
    TsAt (upd (upd (upd (upd (upd H oa (.lst [.int 0, .int 1])) ra (.lst [.int 0, .int 1])) rb (.lst [.int 1, .int 0])) ta (.lst [.ref ra, .ref rb])) da (.lst [.ref oa, .ref ta])) da tlP ∧
    L2.Same H (upd (upd (upd (upd (upd H oa (.lst [.int 0, .int 1])) ra (.lst [.int 0, .int 1])) rb (.lst [.int 1, .int 0])) ta (.lst [.ref ra, .ref rb])) da (.lst [.ref oa, .ref ta])) := by
  have s1 := same_upd (o := .lst [.int 0, .int 1]) n1
  have s2 := same_upd (o := .lst [.int 0, .int 1]) n2
  have s3 := same_upd (o := .lst [.int 1, .int 0]) n3
  have s4 := same_upd (o := .lst [.ref ra, .ref rb]) n4
  have s5 := same_upd (o := .lst [.ref oa, .ref ta]) n5
  refine ⟨⟨oa, ta, upd_same, s5 _ _ (s4 _ _ (s3 _ _ (s2 _ _ upd_same))), [ra, rb], s5 _ _ upd_same, rfl, fun i b e => ?_⟩, (((s1.trans s2).trans s3).trans s4).trans s5⟩
  match i, e with
  | 0, e => cases e; exact ⟨[0, 1], rfl, s5 _ _ (s4 _ _ (s3 _ _ upd_same))⟩
  | 1, e => cases e; exact ⟨[1, 0], rfl, s5 _ _ (s4 _ _ upd_same)⟩
/-- a dict changes: words stand -/
theorem TsAt.dict {H : Hp} {a d : Addr} {t : Tl} {ks ks' : List (Key × V)} (x : TsAt H a t) (h : H d = some (.dK ks)) : TsAt (upd H d (.dK ks')) a t := by
  have k : ∀ b xs, H b = some (.lst xs) → upd H d (.dK ks') b = some (.lst xs) := fun b xs e => by rw [upd_ne (ne_of e h (fun z => by cases z))]; exact e
  obtain ⟨oa, ta, h1, h2, h3⟩ := x
  exact ⟨oa, ta, k _ _ h1, k _ _ h2, h3.same k⟩
theorem g_of {i : Nat} {x : V} {σ : St} {H : Hp} {F : St → Hp → Prop} (h : F (σ.set i (some x)) H) : gName i x σ H F := h
theorem g_seq {i : Nat} {x : V} {σ : St} {H : Hp} {a b : TS} {D : Ends} {r : VK} {k c : St → Hp → Prop} (h : tSeq a b D (σ.set i (some x)) H) : gName i x σ H (Ends.nx { nx := tSeq a b D, rt := r, bk := k, ct := c }) := h
theorem seq_of {a b : TS} {D : Ends} {σ : St} {H : Hp} (I : St → Hp → Prop) (h1 : ∀ σ' H', I σ' H' → b D σ' H') (h2 : (∀ σ' H', I σ' H' → b D σ' H') → a { D with nx := b D } σ H) : tSeq a b D σ H := h2 h1
section
variable {P : Program} {w : World} {K : PySem.W.Frag} {mg : Str → Option Value} {base : Heap}
def p__law_world : Q1 := fun c a H Q _ => c = true ∧ ∃ (p sa : Addr), a = .ref p ∧ PoolAt K H p sa ∧ ∀ H' wa (W : Wd), PoolAt K H' p sa → Fx [p] H H' → W.Ok → WAt H' wa W.env → Q (.ref wa) H'
theorem ok__law_world (T : Txt P w K mg) : FnQ P w K mg base 4 (He.ga K "_law_world") 1 (Sp1 (p__law_world (K := K))) := by
  refine fnQ1 T.F__law_world sc__law_world (fun _ _ _ _ _ _ us hl => match us, hl with | [_], _ => rfl) fun cdv A outer s H a Q E l qa hr h => ?_
  obtain ⟨hc, p, sa, rfl, pa, q⟩ := h
  cases l with
  | cons _ _ => cases hc
  | nil =>
    refine ⟨_, (pss_cons (ps_set (i := 1) sc__law_world.nd rfl (Or.inl rfl) (pe_disp (pps_cons pe_str (pe_lst (pa_cons (pe_lst (pa_cons pe_int (pa_cons pe_int pa_nil))) (pa_cons (pe_lst (pa_cons (pe_lst (pa_cons pe_int (pa_cons pe_int pa_nil))) (pa_cons (pe_lst (pa_cons pe_int (pa_cons pe_int pa_nil))) pa_nil))) pa_nil))) (pps_cons pe_str (pe_callQ (ok__law_told_states T) (hr.mono (by omega)) (cxQ_quiet qa) T.g__law_told_states pass0 (pa_cons (pv 0) pa_nil)) pps_nil)) (by rfl) (by rfl) (fun z => by cases z) (by decide)))
      (pss_cons (ps_if (pt_cmpR op_eq (pe_callQ (ok__law_take T) (hr.mono (by omega)) (cxQ_quiet qa) T.g__law_take pass0 (pa_cons (pv 0) (pa_cons pe_int pa_nil))) pe_int (nomark _)) (pss_one (ps_dput (huD hr) (pv 1) pe_str (pe_callQ (ok__law_told_states T) (hr.mono (by omega)) (cxQ_quiet qa) T.g__law_told_states pass0 (pa_cons (pv 0) pa_nil)) rfl)) pss_nil)
      (pss_cons (ps_set (i := 2) sc__law_world.nd rfl (Or.inl rfl) (pe_disp (pps_cons pe_str (pe_tup (pa_cons (pe_tupZ (pa_cons pe_str (pa_cons pe_str pa_nil))) (pa_cons (pe_tup (pa_cons pe_str (pa_cons (pe_tup (pa_cons (pe_tup (pa_cons (pe_tup (pa_cons pe_str (pa_cons pe_int pa_nil))) (pa_cons (pe_tup (pa_cons pe_str (pa_cons (pe_un un_neg pe_int) pa_nil))) pa_nil))) (pa_cons (pe_op op_sub (pe_callQ (ok__law_take T) (hr.mono (by omega)) (cxQ_quiet qa) T.g__law_take pass0 (pa_cons (pv 0) (pa_cons pe_int pa_nil))) pe_int) pa_nil))) pa_nil))) pa_nil))) pps_nil) (by rfl) (by rfl) (fun z => by cases z) (by decide)))
      (pss_cons (ps_dput (huD hr) (pv 2) pe_str (pe_tup (pa_cons (pe_tupZ (pa_cons pe_str (pa_cons pe_str pa_nil))) (pa_cons (pe_tup (pa_cons pe_str (pa_cons (pe_tup (pa_cons pe_str (pa_cons pe_str (pa_cons pe_str (pa_cons (pe_callQ (ok__law_take T) (hr.mono (by omega)) (cxQ_quiet qa) T.g__law_take pass0 (pa_cons (pv 0) (pa_cons pe_int pa_nil))) pa_nil))))) pa_nil))) pa_nil))) rfl)
      (pss_one (ps_ret (pe_lst (pa_cons (pv 1) (pa_cons (pv 2) pa_nil))))))))), ?_⟩
    refine fun wd nwd => ?_
    have s0 := same_upd (o := .dK []) nwd
    have nw' := PoolAt.new pa nwd
    have hw0 : upd H wd (.dK []) wd = some (.dK []) := upd_same
    generalize upd H wd (.dK []) = H0 at s0 hw0 ⊢
    refine ⟨by show 2 ≤ sizeLine; decide, fun oa noa => ⟨by show 2 ≤ sizeLine; decide, fun ra nra => ⟨by show 2 ≤ sizeLine; decide, fun rb nrb => ⟨by show 2 ≤ sizeLine; decide, fun ta nta => ⟨by show 2 ≤ sizeLine; decide, fun da nda => ?_⟩⟩⟩⟩⟩
    obtain ⟨tsP, s1⟩ := parity noa nra nrb nta nda
    generalize upd (upd (upd (upd (upd H0 oa (.lst [.int 0, .int 1])) ra (.lst [.int 0, .int 1])) rb (.lst [.int 1, .int 0])) ta (.lst [.ref ra, .ref rb])) da (.lst [.ref oa, .ref ta]) = H1 at tsP s1 ⊢
    have sA := s0.trans s1
    have p1 := pa.same sA
    refine ⟨_, rfl, _, rfl, rfl, p, sa, rfl, p1, fun H2 r t2 p2 ts2 ok2 f2 nr => ?_⟩
    have hw2 := f2.keep _ _ (s1 _ _ hw0) (by simpa using nw'.1)
    refine ⟨hw2, [(Sum.inr "T", .ref da), (Sum.inr "W2", .ref r)], rfl, by show 2 ≤ 15; decide, ?_⟩
    have v1 : valV (mergeK [] [((Sum.inr "T" : Key), V.ref da), (Sum.inr "W2", .ref r)]) (Sum.inr "T") = some (.ref da) := by
      show valV (putK (putK [] (Sum.inr "T" : Key) (V.ref da)) (Sum.inr "W2") (.ref r)) _ = _
      rw [valV_put, if_neg (kS_ne (neS "T" "W2")), valV_put, if_pos rfl]
    have v2 : valV (mergeK [] [((Sum.inr "T" : Key), V.ref da), (Sum.inr "W2", .ref r)]) (Sum.inr "W2") = some (.ref r) := by
      show valV (putK (putK [] (Sum.inr "T" : Key) (V.ref da)) (Sum.inr "W2") (.ref r)) _ = _
      rw [valV_put, if_pos rfl]
    have kl : (mergeK [] [((Sum.inr "T" : Key), V.ref da), (Sum.inr "W2", .ref r)]).length ≤ 2 := by
      show (putK (putK [] (Sum.inr "T" : Key) (V.ref da)) (Sum.inr "W2") (.ref r)).length ≤ 2
      have h1 := length_putK (putK [] (Sum.inr "T" : Key) (V.ref da)) (Sum.inr "W2") (.ref r)
      have h2 := length_putK [] (Sum.inr "T" : Key) (V.ref da)
      simp only [List.length_nil] at h2
      omega
    have tsP2 := (tsP.fx p1 f2).dict (ks' := mergeK [] [(Sum.inr "T", .ref da), (Sum.inr "W2", .ref r)]) hw2
    have ts22 := ts2.dict (ks' := mergeK [] [(Sum.inr "T", .ref da), (Sum.inr "W2", .ref r)]) hw2
    have p3 : PoolAt K (upd H2 wd (.dK (mergeK [] [(Sum.inr "T", .ref da), (Sum.inr "W2", .ref r)]))) p sa := p2.put nw'
    have f3 : Fx [p] H (upd H2 wd (.dK (mergeK [] [(Sum.inr "T", .ref da), (Sum.inr "W2", .ref r)]))) := ((same_fx sA).trans f2).put nwd
    have hw3 : upd H2 wd (.dK (mergeK [] [(Sum.inr "T", .ref da), (Sum.inr "W2", .ref r)])) wd = some (.dK (mergeK [] [(Sum.inr "T", .ref da), (Sum.inr "W2", .ref r)])) := upd_same
    generalize mergeK [] [((Sum.inr "T" : Key), V.ref da), (Sum.inr "W2", .ref r)] = kw at v1 v2 kl tsP2 ts22 p3 f3 hw3 ⊢
    generalize upd H2 wd (.dK kw) = H3 at tsP2 ts22 p3 f3 hw3 ⊢
    refine g_seq ?_
    refine seq_of (fun σ H5 => PoolAt K H5 p sa ∧ Fx [p] H H5 ∧ ∃ kw aT a2 tT t2, H5 wd = some (.dK kw) ∧ valV kw (Sum.inr "T") = some (.ref aT) ∧ valV kw (Sum.inr "W2") = some (.ref a2) ∧ TsAt H5 aT tT ∧ tT.Ok ∧ TsAt H5 a2 t2 ∧ t2.Ok ∧ σ = [some (.ref p), some (.ref wd), none]) ?_ fun rest => ?_
    · rintro σ H5 ⟨p5, f5, kw, aT, a2, tT, t2, hw5, v1, v2, tsT, okT, ts2, ok2, rfl⟩
      refine fun cd ncd => ?_
      have nc' := PoolAt.new p5 ncd
      have s6 := same_upd (o := .dK []) ncd
      have k6 : upd H5 cd (.dK []) cd = some (.dK []) := upd_same
      generalize upd H5 cd (.dK []) = H6 at s6 k6 ⊢
      refine ⟨by show 2 ≤ sizeLine; decide, fun pz oz npz od => ?_⟩
      have s7 := same_upd (o := .frz oz (.tup [.str "a", .str "b"])) npz
      have k7 : upd H6 pz (.frz oz (.tup [.str "a", .str "b"])) pz = some (.frz oz (.tup [.str "a", .str "b"])) := upd_same
      change (_ : Hp → Prop) (upd H6 pz (.frz oz (.tup [.str "a", .str "b"])))
      generalize upd H6 pz (.frz oz (.tup [.str "a", .str "b"])) = H7 at s7 k7 ⊢
      refine ⟨by show 2 ≤ sizeLine; decide, fun x1 nx1 => ?_⟩
      have s8 := same_upd (o := .tup [.str "a", .int 1]) nx1
      have k8 : upd H7 x1 (.tup [.str "a", .int 1]) x1 = some (.tup [.str "a", .int 1]) := upd_same
      change (_ : Hp → Prop) (upd H7 x1 (.tup [.str "a", .int 1]))
      generalize upd H7 x1 (.tup [.str "a", .int 1]) = H8 at s8 k8 ⊢
      refine ⟨_, rfl, by show 2 ≤ sizeLine; decide, fun x2 nx2 => ?_⟩
      have s9 := same_upd (o := .tup [.str "b", .int (-1)]) nx2
      have k9 : upd H8 x2 (.tup [.str "b", .int (-1)]) x2 = some (.tup [.str "b", .int (-1)]) := upd_same
      change (_ : Hp → Prop) (upd H8 x2 (.tup [.str "b", .int (-1)]))
      generalize upd H8 x2 (.tup [.str "b", .int (-1)]) = H9 at s9 k9 ⊢
      refine ⟨by show 2 ≤ sizeLine; decide, fun pt npt => ?_⟩
      have s10 := same_upd (o := .tup [.ref x1, .ref x2]) npt
      have k10 : upd H9 pt (.tup [.ref x1, .ref x2]) pt = some (.tup [.ref x1, .ref x2]) := upd_same
      change (_ : Hp → Prop) (upd H9 pt (.tup [.ref x1, .ref x2]))
      generalize upd H9 pt (.tup [.ref x1, .ref x2]) = H10 at s10 k10 ⊢
      have sA := (((s6.trans s7).trans s8).trans s9).trans s10
      have p10 := p5.same sA
      refine ⟨_, rfl, _, _, rfl, p, sa, 5, rfl, rfl, by decide, by decide, p10, fun H11 n11 p11 b11 f11 => ?_⟩
      refine ⟨_, _, rfl, rfl, by show 2 ≤ sizeLine; decide, fun t nt => ?_⟩
      have s12 := same_upd (o := .tup [.ref pt, .int ((n11 : Int) - 2)]) nt
      have k12 : upd H11 t (.tup [.ref pt, .int ((n11 : Int) - 2)]) t = some (.tup [.ref pt, .int ((n11 : Int) - 2)]) := upd_same
      change (_ : Hp → Prop) (upd H11 t (.tup [.ref pt, .int ((n11 : Int) - 2)]))
      generalize upd H11 t (.tup [.ref pt, .int ((n11 : Int) - 2)]) = H12 at s12 k12 ⊢
      refine ⟨by show 2 ≤ sizeLine; decide, fun fa nfa => ?_⟩
      have s13 := same_upd (o := .tup [.str "eq", .ref t]) nfa
      have k13 : upd H12 fa (.tup [.str "eq", .ref t]) fa = some (.tup [.str "eq", .ref t]) := upd_same
      change (_ : Hp → Prop) (upd H12 fa (.tup [.str "eq", .ref t]))
      generalize upd H12 fa (.tup [.str "eq", .ref t]) = H13 at s13 k13 ⊢
      refine ⟨by show 2 ≤ sizeLine; decide, fun r nr => ?_⟩
      have s14 := same_upd (o := .tup [.ref pz, .ref fa]) nr
      have k14 : upd H13 r (.tup [.ref pz, .ref fa]) r = some (.tup [.ref pz, .ref fa]) := upd_same
      change (_ : Hp → Prop) (upd H13 r (.tup [.ref pz, .ref fa]))
      generalize upd H13 r (.tup [.ref pz, .ref fa]) = H14 at s14 k14 ⊢
      have sB := (s12.trans s13).trans s14
      have kc14 := sB _ _ (f11.keep _ _ (s10 _ _ (s9 _ _ (s8 _ _ (s7 _ _ k6)))) (by simpa using nc'.1))
      refine ⟨kc14, [(Sum.inr "near", .ref r)], rfl, by show 1 ≤ 15; decide, ?_⟩
      have vN : valV (mergeK [] [((Sum.inr "near" : Key), V.ref r)]) (Sum.inr "near") = some (.ref r) := by
        show valV (putK [] (Sum.inr "near" : Key) (V.ref r)) _ = _
        rw [valV_put, if_pos rfl]
      have lN : (mergeK [] [((Sum.inr "near" : Key), V.ref r)]).length ≤ 1 := by
        show (putK [] (Sum.inr "near" : Key) (V.ref r)).length ≤ 1
        have h2 := length_putK [] (Sum.inr "near" : Key) (V.ref r)
        simp only [List.length_nil] at h2
        omega
      have sC : L2.Same H11 H14 := sB
      have f14 : Fx [p] H H14 := ((f5.trans (same_fx sA)).trans f11).trans (same_fx sB)
      have p14 := p11.same sB
      have z14 : TupZ H14 pz (psN.map V.str) := ⟨oz, sB _ _ (f11.keep _ _ (s10 _ _ (s9 _ _ (s8 _ _ k7))) (by simpa using p10.neZ (xs := psN.map V.str) ⟨oz, s10 _ _ (s9 _ _ (s8 _ _ k7)), od⟩)), od⟩
      have m14 : FmAt H14 (.lin true [("a", 1), ("b", -1)] ((n11 : Int) - 2)) fa := by
        refine ⟨t, pt, s14 _ _ k13, s14 _ _ (s13 _ _ k12), [x1, x2], sB _ _ (f11.tup _ _ k10), rfl, fun i b e => ?_⟩
        match i, e with
        | 0, e => cases e; exact ⟨("a", 1), rfl, sB _ _ (f11.tup _ _ (s10 _ _ (s9 _ _ k8)))⟩
        | 1, e => cases e; exact ⟨("b", -1), rfl, sB _ _ (f11.tup _ _ (s10 _ _ k9))⟩
      have hw14 := sB _ _ (f11.keep _ _ (sA _ _ hw5) (by simpa using nw'.1))
      have tsT14 := ((tsT.same sA).fx p10 f11).same sB
      have ts214 := ((ts2.same sA).fx p10 f11).same sB
      have ncw : cd ≠ wd := (ne_of_none hw5 ncd).symm
      have hw15 : upd H14 cd (.dK (mergeK [] [(Sum.inr "near", .ref r)])) wd = some (.dK kw) := by rw [upd_ne ncw.symm]; exact hw14
      have hc15 : upd H14 cd (.dK (mergeK [] [(Sum.inr "near", .ref r)])) cd = some (.dK (mergeK [] [(Sum.inr "near", .ref r)])) := upd_same
      have p15 : PoolAt K (upd H14 cd (.dK (mergeK [] [(Sum.inr "near", .ref r)]))) p sa := p14.put nc'
      have fd : Fx [cd] H14 (upd H14 cd (.dK (mergeK [] [(Sum.inr "near", .ref r)]))) := fx_upd (by simp) fun xs e => by rw [kc14] at e; cases e
      have f15 : Fx [p] H5 (upd H14 cd (.dK (mergeK [] [(Sum.inr "near", .ref r)]))) := (((same_fx sA).trans f11).trans (same_fx sB)).put ncd
      have tsT15 := tsT14.dict (ks' := mergeK [] [(Sum.inr "near", .ref r)]) kc14
      have ts215 := ts214.dict (ks' := mergeK [] [(Sum.inr "near", .ref r)]) kc14
      have z15 : TupZ (upd H14 cd (.dK (mergeK [] [(Sum.inr "near", .ref r)]))) pz (psN.map V.str) := z14.keep fd.keep fun z => by
        obtain ⟨o, h, _⟩ := z14
        rw [List.mem_singleton.mp z, kc14] at h
        cases h
      have m15 := m14.keep fd.tup
      have r15 := fd.tup _ _ k14
      generalize mergeK [] [((Sum.inr "near" : Key), V.ref r)] = kc at vN lN hw15 hc15 p15 fd f15 tsT15 ts215 z15 m15 r15 ⊢
      generalize upd H14 cd (.dK kc) = H15 at hw15 hc15 p15 fd f15 tsT15 ts215 z15 m15 r15 ⊢
      refine ⟨by show 2 ≤ sizeLine; decide, fun qz oq nqz oqd => ?_⟩
      have s16 := same_upd (o := .frz oq (.tup [.str "n", .str "m"])) nqz
      have k16 : upd H15 qz (.frz oq (.tup [.str "n", .str "m"])) qz = some (.frz oq (.tup [.str "n", .str "m"])) := upd_same
      change (_ : Hp → Prop) (upd H15 qz (.frz oq (.tup [.str "n", .str "m"])))
      generalize upd H15 qz (.frz oq (.tup [.str "n", .str "m"])) = H16 at s16 k16 ⊢
      have p16 := p15.same s16
      refine ⟨_, rfl, _, _, rfl, p, sa, 2, rfl, rfl, by decide, by decide, p16, fun H17 o p17 b17 f17 => ?_⟩
      refine ⟨by show 4 ≤ sizeLine; decide, fun y1 ny1 => ?_⟩
      have s18 := same_upd (o := .tup [.str "word", .str "T", .str "n", iV o]) ny1
      have k18 : upd H17 y1 (.tup [.str "word", .str "T", .str "n", iV o]) y1 = some (.tup [.str "word", .str "T", .str "n", iV o]) := upd_same
      change (_ : Hp → Prop) (upd H17 y1 (.tup [.str "word", .str "T", .str "n", iV o]))
      generalize upd H17 y1 (.tup [.str "word", .str "T", .str "n", iV o]) = H18 at s18 k18 ⊢
      refine ⟨by show 2 ≤ sizeLine; decide, fun y2 ny2 => ?_⟩
      have s19 := same_upd (o := .tup [.str "not", .ref y1]) ny2
      have k19 : upd H18 y2 (.tup [.str "not", .ref y1]) y2 = some (.tup [.str "not", .ref y1]) := upd_same
      change (_ : Hp → Prop) (upd H18 y2 (.tup [.str "not", .ref y1]))
      generalize upd H18 y2 (.tup [.str "not", .ref y1]) = H19 at s19 k19 ⊢
      refine ⟨by show 2 ≤ sizeLine; decide, fun r2 nr2 => ?_⟩
      have s20 := same_upd (o := .tup [.ref qz, .ref y2]) nr2
      have k20 : upd H19 r2 (.tup [.ref qz, .ref y2]) r2 = some (.tup [.ref qz, .ref y2]) := upd_same
      change (_ : Hp → Prop) (upd H19 r2 (.tup [.ref qz, .ref y2]))
      generalize upd H19 r2 (.tup [.ref qz, .ref y2]) = H20 at s20 k20 ⊢
      have sD := (s18.trans s19).trans s20
      have f20 : Fx [p] H15 H20 := ((same_fx s16).trans f17).trans (same_fx sD)
      have p20 := p17.same sD
      have hw20 := f20.keep _ _ hw15 (by simpa using nw'.1)
      have hc20 := f20.keep _ _ hc15 (by simpa using nc'.1)
      have tsT20 := tsT15.fx p15 f20
      have ts220 := ts215.fx p15 f20
      have z20 := z15.keep f20.keep (by simpa using p15.neZ z15)
      have m20 := m15.fx f20
      have q20 : TupZ H20 qz (psO.map V.str) := ⟨oq, sD _ _ (f17.keep _ _ k16 (by simpa using p16.neZ (xs := psO.map V.str) ⟨oq, k16, oqd⟩)), oqd⟩
      have n20 : FmAt H20 (.neg (.word "T" "n" o)) y2 := ⟨y1, s20 _ _ k19, s20 _ _ (s19 _ _ k18)⟩
      refine ⟨_, rfl, cd, _, rfl, DPut.k (k := Sum.inr "odd") hc20 (by rw [sizeLine_eq]; omega), ?_⟩
      have fe : Fx [cd] H20 (upd H20 cd (.dK (putK kc (Sum.inr "odd") (.ref r2)))) := fx_upd (by simp) fun xs e => by rw [hc20] at e; cases e
      have nz : ∀ {a : Addr} {xs : List V}, TupZ H20 a xs → a ∉ [cd] := fun h z => by
        obtain ⟨o, h, _⟩ := h
        rw [List.mem_singleton.mp z, hc20] at h
        cases h
      have hc21 : upd H20 cd (.dK (putK kc (Sum.inr "odd") (.ref r2))) cd = some (.dK (putK kc (Sum.inr "odd") (.ref r2))) := upd_same
      have hw21 : upd H20 cd (.dK (putK kc (Sum.inr "odd") (.ref r2))) wd = some (.dK kw) := by rw [upd_ne ncw.symm]; exact hw20
      have tsT21 := tsT20.dict (ks' := putK kc (Sum.inr "odd") (.ref r2)) hc20
      have ts221 := ts220.dict (ks' := putK kc (Sum.inr "odd") (.ref r2)) hc20
      have p21 : PoolAt K (upd H20 cd (.dK (putK kc (Sum.inr "odd") (.ref r2)))) p sa := p20.put nc'
      have f21 : Fx [p] H (upd H20 cd (.dK (putK kc (Sum.inr "odd") (.ref r2)))) := f5.trans ((f15.trans f20).put ncd)
      have z21 := z20.keep fe.keep (nz z20)
      have q21 := q20.keep fe.keep (nz q20)
      have m21 := m20.keep fe.tup
      have n21 := n20.keep fe.tup
      have r21 := fe.tup _ _ (f20.tup _ _ r15)
      have r22 := fe.tup _ _ k20
      generalize upd H20 cd (.dK (putK kc (Sum.inr "odd") (.ref r2))) = H21 at fe hc21 hw21 tsT21 ts221 p21 f21 z21 q21 m21 n21 r21 r22 ⊢
      refine ⟨_, rfl, _, rfl, by show 2 ≤ sizeLine; decide, fun wa nwa => ?_⟩
      have s22 := same_upd (o := .lst [.ref wd, .ref cd]) nwa
      refine q _ wa ⟨tT, t2, (n11 : Int) - 2, o⟩ (p21.same s22) (f21.trans (same_fx s22)) ⟨okT, ok2, by show -2 ≤ (n11 : Int) - 2; omega, by show (n11 : Int) - 2 ≤ 2; omega⟩ ⟨wd, cd, kw, _, upd_same, s22 _ _ hw21, s22 _ _ hc21, fun z t h => ?_, fun z ps g h => ?_⟩
      · rcases Wd.words_of h with ⟨rfl, rfl⟩ | ⟨rfl, rfl⟩
        · exact ⟨aT, v1, tsT21.same s22, okT⟩
        · exact ⟨a2, v2, ts221.same s22, ok2⟩
      · rcases Wd.defs_of h with ⟨rfl, e⟩ | ⟨rfl, e⟩
        · cases e
          exact ⟨r, pz, fa, by rw [valV_put, if_neg (kS_ne (neS "near" "odd"))]; exact vN, s22 _ _ r21, z21.same s22, m21.keep fun _ _ z => s22 _ _ z⟩
        · cases e
          exact ⟨r2, qz, y2, by rw [valV_put, if_pos rfl], s22 _ _ r22, q21.same s22, n21.keep fun _ _ z => s22 _ _ z⟩
    · refine ⟨_, rfl, _, _, rfl, p, sa, 2, rfl, rfl, by decide, by decide, p3, fun H4 n4 p4 b4 f4 => ⟨rfl, ?_⟩⟩
      have hw4 := f4.keep _ _ hw3 (by simpa using nw'.1)
      have tsP4 := tsP2.fx p3 f4
      have ts24 := ts22.fx p3 f4
      by_cases n0 : n4 = 0
      · refine ⟨true, dT (by rw [n0]; rfl), _, rfl, _, rfl, rfl, p, sa, rfl, p4, fun H5 r5 t5 p5 ts5 ok5 f5 nr5 => ?_⟩
        have hw5 := f5.keep _ _ hw4 (by simpa using nw'.1)
        refine ⟨_, rfl, wd, _, rfl, DPut.k (k := Sum.inr "T") hw5 (by rw [sizeLine_eq]; omega), ?_⟩
        refine rest _ _ ⟨p5.put nw', ((f3.trans f4).trans f5).put nwd, _, r5, r, t5, t2, upd_same, by rw [valV_put, if_pos rfl], by rw [valV_put, if_neg (kS_ne (neS "W2" "T"))]; exact v2, ts5.dict hw5, ok5, (ts24.fx p4 f5).dict hw5, ok2, rfl⟩
      · refine ⟨false, dF (intNe (by omega)), ?_⟩
        exact rest _ _ ⟨p4, f3.trans f4, kw, da, r, tlP, t2, hw4, v1, v2, tsP4, tlP_ok, ts24, ok2, rfl⟩
end
end K36
/-! K36W21: the book of the law -/
namespace K36
open PySem PySem.Spec PyProof.Rows L2 HotX
def wenv (W : Wd) : Nat → Env
  | 0 => env0
  | 1 => env0.setW "T" W.tT
  | _ => W.envW
def denv (W : Wd) : Nat → Env
  | 0 => W.envW
  | 1 => W.envW.setD "near" (psN, W.near)
  | _ => W.env
abbrev strsW : List Str := ["T", "W2"]
theorem wstep (W : Wd) {i : Nat} {x : V} (h : (strsW.map V.str)[i]? = some x) : ∃ z t, x = .str z ∧ W.env.words z = some t ∧ (wenv W i).words z = none ∧ (wenv W i).setW z t = wenv W (i + 1) ∧ i < 2 := by
  match i, h with
  | 0, h => cases h; exact ⟨"T", W.tT, rfl, W.wT, rfl, rfl, by decide⟩
  | 1, h =>
    cases h
    refine ⟨"W2", W.t2, rfl, W.w2, ?_, rfl, by decide⟩
    show (if ("W2" : Str) = "T" then some W.tT else none) = none
    rw [if_neg (neS "W2" "T")]
theorem dstep (W : Wd) {i : Nat} {x : V} (h : (strsC.map V.str)[i]? = some x) : ∃ z ps g, x = .str z ∧ W.env.defs z = some (ps, g) ∧ (denv W i).defs z = none ∧ (denv W i).setD z (ps, g) = denv W (i + 1) ∧ i < 2 ∧
    ps.Nodup ∧ ps.length ≤ 6 ∧ g.wf (denv W i) ∧ g.sm ∧ g.depth ≤ 2 ∧ g.free.length ≤ 60 ∧ ∀ x ∈ g.free, x ∈ ps := by
  match i, h with
  | 0, h =>
    cases h
    exact ⟨"near", psN, W.near, rfl, W.dN, rfl, rfl, by decide, by decide +kernel, by decide, trivial, (by show 2 ≤ 6; decide), (by show 1 ≤ 2; decide), (by show 2 ≤ 60; decide), fun x hx => hx⟩
  | 1, h =>
    cases h
    refine ⟨"odd", psO, W.odd, rfl, W.dO, ?_, rfl, by decide, by decide +kernel, by decide, ⟨_, W.wT⟩, trivial, (by show 2 ≤ 2; decide), (by show 1 ≤ 60; decide), fun x hx => ?_⟩
    · show (if ("odd" : Str) = "near" then some (psN, W.near) else none) = none
      rw [if_neg (neS "odd" "near")]
    · have : x = "n" := by simpa [Wd.odd, Fm.free] using hx
      rw [this]; exact List.mem_cons_self
section
variable {P : Program} {w : World} {K : PySem.W.Frag} {mg : Str → Option Value} {base : Heap}
theorem make_book {c : Bool} {E : XK} {H1 : Hp} {Q : VK} {x dx : Addr} (nx : H1 x = none) (nd : H1 dx = none) (q : ∀ H' dd wd, BkAt K H' x dd wd [] [] env0 → H1 dd = none → H1 wd = none → L2.Same H1 H' → Q .non H') :
    Sp1 (p_Book_init (K := K)) c [.ref x] (upd (upd H1 dx (.own x)) x (.ins (He.ga K "Book") dx [])) Q E := by
  have s0 : L2.Same H1 (upd (upd H1 dx (.own x)) x (.ins (He.ga K "Book") dx [])) := same_upd2 (same_upd nd) nx
  refine ⟨_, rfl, x, dx, rfl, upd_same, fun H' dd wd h1 h2 h3 h4 => ?_⟩
  exact q H' dd wd h1 (s0.free h2) (s0.free h3) fun b o e => h4 b o (s0 _ _ e) (ne_of_none e nx)
def p__law_book : Q1 := fun c a H Q _ => c = true ∧ ∃ (wa : Addr) (W : Wd), a = .ref wa ∧ W.Ok ∧ WAt H wa W.env ∧ ∀ H' b dd wd kd kw, BkAt K H' b dd wd kd kw W.env → L2.Same H H' → Q (.ref b) H'
theorem ok__law_book (T : Txt P w K mg) : FnQ P w K mg base 7 (He.ga K "_law_book") 1 (Sp1 (p__law_book (K := K))) := by
  have i1 := ok_Book_define (base := base) T 2
  refine fnQ1 T.F__law_book sc__law_book (fun _ _ _ _ _ _ us hl => match us, hl with | [_], _ => rfl) fun cdv A outer s H a Q E l qa hr h => ?_
  obtain ⟨hc, wa, W, rfl, ok, hW, q⟩ := h
  cases l with
  | cons _ _ => cases hc
  | nil =>
    refine ⟨_, (pss_cons (ps_set (i := 1) sc__law_book.nd rfl (Or.inl rfl) (pe_make0Q T.k_Book (ok_Book_init T) (hr.mono (by omega)) (cxQ_quiet qa) T.g_Book pass0))
      (pss_cons (ps_forQ PassesOwn.leaving (cxQ_quiet qa) (piL (pe_lst (pa_cons pe_str (pa_cons pe_str pa_nil)))) (pg_name (i := 2) sc__law_book.nd rfl (Or.inl rfl)) (pss_one (ps_expr (pe_methQ (pv 1) T.c_Book T.m_Book_tell (ok_Book_tell T) (hr.mono (by omega)) (cxQ_quiet qa) pass0 (pa_cons (pv 2) (pa_cons (pe_makeQ T.k_Told (ok_Told_init T) (hr.mono (by omega)) (cxQ_quiet qa) T.g_Told pass0 (pa_cons (pe_ix ix_list (pe_dget (huD hr) (pe_ix ix_list (pv 0) pe_int (fun _ _ => rfl)) (pv 2) (fun _ _ => rfl)) pe_int (fun _ _ => rfl)) (pa_cons (pe_ix ix_list (pe_dget (huD hr) (pe_ix ix_list (pv 0) pe_int (fun _ _ => rfl)) (pv 2) (fun _ _ => rfl)) pe_int (fun _ _ => rfl)) pa_nil))) pa_nil))))))
      (pss_cons (ps_forQ PassesOwn.leaving (cxQ_quiet qa) (piL (pe_lst (pa_cons pe_str (pa_cons pe_str pa_nil)))) (pg_name (i := 3) sc__law_book.nd rfl (Or.inl rfl)) (pss_one (ps_expr (pe_methQ (pv 1) T.c_Book T.m_Book_define i1 (hr.mono (by omega)) (cxQ_quiet qa) pass0 (pa_cons (pv 3) (pa_cons (pe_ix ix_tup (pe_dget (huD hr) (pe_ix ix_list (pv 0) pe_int (fun _ _ => rfl)) (pv 3) (fun _ _ => rfl)) pe_int (fun _ _ => rfl)) (pa_cons (pe_ix ix_tup (pe_dget (huD hr) (pe_ix ix_list (pv 0) pe_int (fun _ _ => rfl)) (pv 3) (fun _ _ => rfl)) pe_int (fun _ _ => rfl)) pa_nil)))))))
      (pss_one (ps_ret (pv 1)))))), ?_⟩
    refine fun b dx nb ndx _ => make_book nb ndx fun H1 dd wd bk nd nw s1 => ⟨rfl, ?_⟩
    refine ⟨by show 2 ≤ sizeLine; decide, fun la nla => ⟨la, rfl, ⟨_, SqL.of upd_same⟩, ?_⟩⟩
    have s2 := same_upd (o := .lst (strsW.map V.str)) nla
    have hl2 : upd H1 la (.lst (strsW.map V.str)) la = some (.lst (strsW.map V.str)) := upd_same
    change (_ : Hp → Prop) (upd H1 la (.lst (strsW.map V.str)))
    have bk2 := bk.same s2
    have sA := s1.trans s2
    have nd' : H dd = none := nd
    have nw' : H wd = none := nw
    generalize upd H1 la (.lst (strsW.map V.str)) = H2 at s2 hl2 bk2 sA ⊢
    refine for_list (xs := strsW.map V.str) (fun i σ H3 => L2.Same H H3 ∧ H3 la = some (.lst (strsW.map V.str)) ∧ ∃ kw o2, BkAt K H3 b dd wd [] kw (wenv W i) ∧ kw.length ≤ i ∧ σ = [some (.ref wa), some (.ref b), o2, none]) ⟨sA, hl2, [], none, bk2, Nat.le_refl _, rfl⟩ (fun i σ H3 _ h => SqL.of h.2.1) ?_ ?_
    · rintro i x σ H3 hx ⟨s3, hl3, kw, o2, bk3, kl, rfl⟩
      obtain ⟨z, t, rfl, hz1, hz2, hz3, hi2⟩ := wstep W hx
      obtain ⟨dx3, hb3⟩ := bk3.ob
      obtain ⟨ww, wc, vw, vc, e1, e2, e3, e4, e5⟩ := (hW.same s3).ex
      obtain ⟨ta, v1, ts1, tok⟩ := e4 z t hz1
      obtain ⟨oa, tb, t1, t2, t3⟩ := ts1
      have hg := DGet.k (k := Sum.inr z) e2
      rw [v1] at hg
      refine ⟨_, rfl, b, dx3, _, rfl, hb3, bf_no _ _ (by decide +kernel) (by decide +kernel), _, rfl, ?_⟩
      refine ⟨_, rfl, wa, _, _, _, rfl, rfl, SqL.of e1, iV0, _, rfl, ww, _, rfl, hg, ta, _, _, _, rfl, rfl, SqL.of t1, iV0, ?_⟩
      refine ⟨_, rfl, wa, _, _, _, rfl, rfl, SqL.of e1, iV0, _, rfl, ww, _, rfl, hg, ta, _, _, _, rfl, rfl, SqL.of t1, atI_nat (j := 1) rfl, ?_⟩
      refine fun tp tx ntp ntx _ => make_told ntp ntx tok t2 t3 fun H4 ht4 s4 => ⟨rfl, ?_⟩
      refine ⟨_, _, _, rfl, b, dd, wd, [], kw, wenv W i, z, tp, t, rfl, rfl, rfl, bk3.same s4, hz2, ht4, tok, by omega, fun H5 kw5 bk5 kl5 f5 => ?_⟩
      refine ⟨Fx.new (s3.trans s4) f5 fun c hc => (by rw [List.mem_singleton.mp hc]; exact nw'), f5.keep _ _ (s4 _ _ hl3) ?_, kw5, _, by rw [← hz3]; exact bk5, by omega, rfl⟩
      have := (bk3.same s4).hw
      simp
      exact ne_of (s4 _ _ hl3) this (fun z => by cases z)
    · rintro σ H3 ⟨s3, hl3, kw, o2, bk3, kl, rfl⟩
      refine ⟨by show 2 ≤ sizeLine; decide, fun lb nlb => ⟨lb, rfl, ⟨_, SqL.of upd_same⟩, ?_⟩⟩
      have s4 := same_upd (o := .lst (strsC.map V.str)) nlb
      have hl4 : upd H3 lb (.lst (strsC.map V.str)) lb = some (.lst (strsC.map V.str)) := upd_same
      change (_ : Hp → Prop) (upd H3 lb (.lst (strsC.map V.str)))
      have bk4 := bk3.same s4
      have sB := s3.trans s4
      generalize upd H3 lb (.lst (strsC.map V.str)) = H4 at s4 hl4 bk4 sB ⊢
      refine for_list (xs := strsC.map V.str) (fun i σ H5 => L2.Same H H5 ∧ H5 lb = some (.lst (strsC.map V.str)) ∧ ∃ kd o3, BkAt K H5 b dd wd kd kw (denv W i) ∧ kd.length ≤ i ∧ σ = [some (.ref wa), some (.ref b), o2, o3]) ⟨sB, hl4, [], none, bk4, Nat.le_refl _, rfl⟩ (fun i σ H5 _ h => SqL.of h.2.1) ?_ ?_
      · rintro i x σ H5 hx ⟨s5, hl5, kd, o3, bk5, kl5, rfl⟩
        obtain ⟨z, ps, g, rfl, hz1, hz2, hz3, hi2, d1, d2, d3, d4, d5, d6, d7⟩ := dstep W hx
        obtain ⟨dx5, hb5⟩ := bk5.ob
        obtain ⟨ww, wc, vw, vc, e1, e2, e3, e4, e5⟩ := (hW.same s5).ex
        obtain ⟨r, pa, fa, v1, r1, r2, r3⟩ := e5 z ps g hz1
        have hg := DGet.k (k := Sum.inr z) e3
        rw [v1] at hg
        refine ⟨_, rfl, b, dx5, _, rfl, hb5, bf_no _ _ (by decide +kernel) (by decide +kernel), _, rfl, ?_⟩
        refine ⟨_, rfl, wa, _, _, _, rfl, rfl, SqL.of e1, atI_nat (j := 1) rfl, _, rfl, wc, _, rfl, hg, r, _, _, _, rfl, rfl, SqT.of r1, iV0, ?_⟩
        refine ⟨_, rfl, wa, _, _, _, rfl, rfl, SqL.of e1, atI_nat (j := 1) rfl, _, rfl, wc, _, rfl, hg, r, _, _, _, rfl, rfl, SqT.of r1, atI_nat (j := 1) rfl, ?_⟩
        refine ⟨_, _, _, _, rfl, b, dd, wd, kd, kw, denv W i, z, pa, fa, ps, g, rfl, rfl, rfl, rfl, bk5, hz2, r2, d1, d2, r3, d3, d4, d5, d6, d7, by omega, fun H6 kd6 bk6 kl6 f6 => ?_⟩
        refine ⟨Fx.new s5 f6 fun c hc => (by rw [List.mem_singleton.mp hc]; exact nd'), f6.keep _ _ hl5 ?_, kd6, _, by rw [← hz3]; exact bk6, by omega, rfl⟩
        simp
        exact ne_of hl5 bk5.hd (fun z => by cases z)
      · rintro σ H5 ⟨s5, hl5, kd, o3, bk5, kl5, rfl⟩
        exact ⟨_, rfl, q H5 b dd wd kd kw bk5 s5⟩
end
end K36
/-! K36W22: what the law reads of words and terms -/
namespace K36
open PySem PySem.Spec PyProof.Rows L2 HotX
theorem natAt (l : List Nat) {i : Nat} (h : i < l.length) : atI (natsV l) (i : Int) = some (iV (l.getD i 0)) := by
  refine atI_nat ?_
  show (l.map iV)[i]? = _
  rw [List.getElem?_map, List.getElem?_eq_getElem h, List.getD_eq_getElem?_getD, List.getElem?_eq_getElem h]
  rfl
/-- the numbers under the names L -/
def NuAt (H : Hp) (D : Addr) (L : List Str) (ν : Str → Nat) : Prop := ∃ kvs, H D = some (.dK kvs) ∧ ∀ x ∈ L, valV kvs (Sum.inr x) = some (iV (ν x))
theorem NuAt.same {H H' : Hp} {D : Addr} {L : List Str} {ν : Str → Nat} (x : NuAt H D L ν) (s : L2.Same H H') : NuAt H' D L ν :=
  let ⟨kvs, h1, h2⟩ := x
  ⟨kvs, s _ _ h1, h2⟩
theorem NuAt.get {H : Hp} {D : Addr} {L : List Str} {ν : Str → Nat} (x : NuAt H D L ν) {z : Str} (h : z ∈ L) : DGet H D (.str z) (some (iV (ν z))) := by
  obtain ⟨kvs, h1, h2⟩ := x
  have := DGet.k (k := Sum.inr z) h1
  rw [h2 z h] at this
  exact this
section
variable {P : Program} {w : World} {K : PySem.W.Frag} {mg : Str → Option Value} {base : Heap}
def p__law_output : Q3 := fun _ a b x H Q _ => ∃ (wa : Addr) (e : Env) (z : Str) (t : Tl) (n : Nat), a = .ref wa ∧ b = .str z ∧ x = iV n ∧ WAt H wa e ∧ e.words z = some t ∧ Q (iV (t.out n)) H
theorem ok__law_output (T : Txt P w K mg) : FnQ P w K mg base 1 (He.ga K "_law_output") 3 (Sp3 p__law_output) := by
  refine fnQ3 T.F__law_output sc__law_output (fun _ _ _ _ _ _ us hl => match us, hl with | [_, _, _], _ => rfl) fun cdv A outer s H a b x Q E l qa hr h => ?_
  obtain ⟨wa, e, z, t, n, rfl, rfl, rfl, hW, hz, q⟩ := h
  obtain ⟨ww, wc, vw, vc, e1, e2, e3, e4, e5⟩ := hW.ex
  obtain ⟨ta, v1, ts1, tok⟩ := e4 z t hz
  obtain ⟨oa, tb, t1, t2, t3⟩ := ts1
  have hg := DGet.k (k := Sum.inr z) e2
  rw [v1] at hg
  have pos := tok.pos
  refine ⟨_, (pss_cons (ps_set (i := 3) sc__law_output.nd rfl (Or.inl rfl) pe_int)
      (pss_cons (ps_while PassesOwn.leaving (pt_cmpR op_gt (pv 2) pe_int (nomark _)) (pss_cons (ps_set (i := 3) sc__law_output.nd rfl (Or.inl rfl) (pe_ix ix_list (pe_ix ix_list (pe_ix ix_list (pe_dget (huD hr) (pe_ix ix_list (pv 0) pe_int (fun _ _ => rfl)) (pv 1) (fun _ _ => rfl)) pe_int (fun _ _ => rfl)) (pv 3) (fun _ _ => rfl)) (pe_op op_mod (pe_callTy call_int1 rfl T.free_int (by decide +kernel) (pa_cons (pv 2) pa_nil)) pe_int) (fun _ _ => rfl)))
        (pss_one (ps_set (i := 2) sc__law_output.nd rfl (Or.inl rfl) (pe_op op_fdiv (pv 2) pe_int)))))
      (pss_one (ps_ret (pe_ix ix_list (pe_ix ix_list (pe_dget (huD hr) (pe_ix ix_list (pv 0) pe_int (fun _ _ => rfl)) (pv 1) (fun _ _ => rfl)) pe_int (fun _ _ => rfl)) (pv 3) (fun _ _ => rfl)))))), ?_⟩
  refine ⟨fun m σ H1 => H1 = H ∧ ∃ s, σ = [some (.ref wa), some (.str z), some (iV m), some (iV s)] ∧ s < t.outs.length ∧ t.go s m = t.go 0 n, ⟨n, rfl, 0, rfl, pos, rfl⟩, ?_⟩
  rintro m σ H1 ⟨rfl, s, rfl, hs, hgo⟩
  by_cases h0 : 0 < m
  · have hst : s < t.tab.length := by rw [tok.tlen]; exact hs
    obtain ⟨ls, b, r1, r2, r3⟩ := t3.get hst
    obtain ⟨rl, rb⟩ := tok.rows _ (List.getElem_mem hst)
    have bit : atI (natsV t.tab[s]) ((m : Int) % 2) = some (iV (t.st s (m % 2))) := by
      have := natAt t.tab[s] (i := m % 2) (by rw [rl]; exact Nat.mod_lt _ (by decide))
      rw [← modN m 2] at this
      unfold Tl.st
      rw [List.getD_eq_getElem?_getD (l := t.tab), List.getElem?_eq_getElem hst]
      exact this
    refine ⟨_, rfl, _, _, rfl, rfl, true, dT (by omega), fun σ' H' => ∃ m', m' < m ∧ H' = H1 ∧ ∃ s, σ' = [some (.ref wa), some (.str z), some (iV m'), some (iV s)] ∧ s < t.outs.length ∧ t.go s m' = t.go 0 n, fun _ _ z => z, ?_⟩
    refine ⟨_, rfl, wa, _, _, _, rfl, rfl, SqL.of e1, iV0, _, rfl, ww, _, rfl, hg, ta, _, _, _, rfl, rfl, SqL.of t1, atI_nat (j := 1) rfl, _, rfl, tb, _, _, _, rfl, rfl, SqL.of r1, r2, ?_⟩
    refine ⟨_, rfl, .inl ⟨_, rfl, _, _, rfl, rfl, (show (0 : Int) < 2 by decide), b, _, _, _, rfl, rfl, SqL.of r3, bit, ?_⟩⟩
    refine ⟨_, rfl, _, _, rfl, rfl, ⟨by decide, by decide⟩, m / 2, by omega, rfl, t.st s (m % 2), ?_, tok.st_lt, ?_⟩
    · show [some (V.ref wa), some (.str z), some (V.int ((m : Int) / 2)), some (iV (t.st s (m % 2)))] = _
      rw [show (m : Int) / 2 = ((m / 2 : Nat) : Int) from divN m 2]
    · rw [← hgo, Tl.go.eq_1 t s m, if_neg (by omega)]
  · have m0 : m = 0 := by omega
    subst m0
    refine ⟨_, rfl, _, _, rfl, rfl, false, dF (by omega), ?_⟩
    refine ⟨_, rfl, wa, _, _, _, rfl, rfl, SqL.of e1, iV0, _, rfl, ww, _, rfl, hg, ta, _, _, _, rfl, rfl, SqL.of t1, iV0, _, rfl, oa, _, _, _, rfl, rfl, SqL.of t2, natAt _ hs, ?_⟩
    rw [Tl.go.eq_1 t s 0, if_pos rfl] at hgo
    rw [hgo]
    exact q
def p__law_total : Q2 := fun _ a b H Q _ => ∃ (t pt D : Addr) (ps : List (Str × Int)) (c : Int) (L : List Str) (ν : Str → Nat), a = .ref t ∧ b = .ref D ∧ H t = some (.tup [.ref pt, .int c]) ∧ PrAt H pt ps ∧ NuAt H D L ν ∧ (∀ p ∈ ps, p.1 ∈ L ∧ -9 ≤ p.2 ∧ p.2 ≤ 9) ∧ Q (.int (lsum ps ν + c)) H
theorem lsum_snoc (ν : Str → Nat) : ∀ (l : List (Str × Int)) (p : Str × Int), lsum (l ++ [p]) ν = lsum l ν + p.2 * (ν p.1 : Int)
  | [], p => by show p.2 * (ν p.1 : Int) + 0 = 0 + _; omega
  | a :: l, p => by
    show a.2 * (ν a.1 : Int) + lsum (l ++ [p]) ν = a.2 * (ν a.1 : Int) + lsum l ν + p.2 * (ν p.1 : Int)
    rw [lsum_snoc ν l p]; omega
theorem ok__law_total (T : Txt P w K mg) : FnQ P w K mg base 1 (He.ga K "_law_total") 2 (Sp2 p__law_total) := by
  refine fnQ2 T.F__law_total sc__law_total (fun _ _ _ _ _ _ us hl => match us, hl with | [_, _], _ => rfl) fun cdv A outer s H a b Q E l qa hr h => ?_
  obtain ⟨t, pt, D, ps, c, L, ν, rfl, rfl, ht, ⟨as, h1, h2, h3⟩, nu, hps, q⟩ := h
  refine ⟨_, (pss_cons (ps_set (i := 2) sc__law_total.nd rfl (Or.inl rfl) (pe_ix ix_tup (pv 0) pe_int (fun _ _ => rfl)))
      (pss_cons (ps_forQ PassesOwn.leaving (cxQ_quiet qa) (piT (pe_ix ix_tup (pv 0) pe_int (fun _ _ => rfl))) (pg_name (i := 3) sc__law_total.nd rfl (Or.inl rfl)) (pss_one (ps_set (i := 2) sc__law_total.nd rfl (Or.inl rfl) (pe_op op_add (pv 2) (pe_op op_mul (pe_ix ix_tup (pv 3) pe_int (fun _ _ => rfl)) (pe_dget (huD hr) (pv 1) (pe_ix ix_tup (pv 3) pe_int (fun _ _ => rfl)) (fun _ _ => rfl)))))))
      (pss_one (ps_ret (pv 2))))), ?_⟩
  refine ⟨_, rfl, t, _, _, _, rfl, rfl, SqT.of ht, atI_nat (j := 1) rfl, ?_⟩
  refine ⟨_, rfl, t, _, _, _, rfl, rfl, SqT.of ht, iV0, pt, rfl, ⟨_, SqT.of h1⟩, ?_⟩
  refine for_tup (xs := as.map V.ref) (fun i σ H1 => H1 = H ∧ ∃ o3, σ = [some (.ref t), some (.ref D), some (.int (lsum (ps.take i) ν + c)), o3]) ⟨rfl, none, ?_⟩ (fun i σ H1 _ h => by rw [h.1]; exact SqT.of h1) ?_ ?_
  · show _ = [some (V.ref t), some (V.ref D), some (V.int (0 + c)), none]
    rw [Int.zero_add]
    rfl
  · rintro i x σ H1 hx ⟨rfl, o3, rfl⟩
    obtain ⟨b, e1, rfl⟩ := map_at hx
    obtain ⟨p, e2, e3⟩ := h3 i b e1
    obtain ⟨pL, p1, p2⟩ := hps p (List.mem_of_getElem? e2)
    refine ⟨_, rfl, _, rfl, b, _, _, _, rfl, rfl, SqT.of e3, atI_nat (j := 1) rfl, _, rfl, _, rfl, b, _, _, _, rfl, rfl, SqT.of e3, iV0, D, _, rfl, nu.get pL, ?_⟩
    refine ⟨_, _, rfl, rfl, .inl ⟨by omega, by omega⟩, _, _, rfl, rfl, rfl, some (.ref b), ?_⟩
    rw [take_snoc e2, lsum_snoc]
    show [some (V.ref t), some (V.ref D), some (V.int (lsum (ps.take i) ν + c + p.2 * (ν p.1 : Int))), some (V.ref b)] = _
    rw [show lsum (ps.take i) ν + c + p.2 * (ν p.1 : Int) = lsum (ps.take i) ν + p.2 * (ν p.1 : Int) + c by omega]
  · rintro σ H1 ⟨rfl, o3, rfl⟩
    refine ⟨_, rfl, ?_⟩
    rw [List.length_map, h2, List.take_length]
    exact q
end
end K36
/-! K36W23: the truth of a formula -/
namespace K36
open PySem PySem.Spec PyProof.Rows L2 HotX
theorem abs_mem : ∀ {l : List Int} {x : Int}, x ∈ l → (x.natAbs : Int) ≤ absS l
  | a :: l, x, h => by
    have e : absS (a :: l) = (a.natAbs : Int) + absS l := by unfold absS; rw [List.map_cons, List.sum_cons]
    have n : 0 ≤ absS l := by
      have := dsum_abs l 0
      omega
    rcases List.mem_cons.mp h with rfl | h
    · omega
    · have := abs_mem h
      omega
section
variable {P : Program} {w : World} {K : PySem.W.Frag} {mg : Str → Option Value} {base : Heap}
def p__law_truth (d : Nat) : Q4 := fun _ a b x y H Q _ => ∃ (wa fa D : Addr) (L : List Str) (e : Env) (f : Fm) (ν : Str → Nat), a = .ref wa ∧ b = .ref fa ∧ x = .ref D ∧ WAt H wa e ∧ FmAt H f fa ∧ (∀ z ∈ f.free, z ∈ L) ∧ NuAt H D L ν ∧ f.wf e ∧ f.cok e ∧ f.lok ∧ f.rk ≤ d ∧
  ∀ H', L2.Same H H' → Q (.bl (f.tr e ν)) H'
theorem ok__law_truth (T : Txt P w K mg) : ∀ d, FnQ P w K mg base (d + 2) (He.ga K "_law_truth") 4 (Sp4 (p__law_truth d))
  | 0 => by
    refine fnQ4 T.F__law_truth sc__law_truth (fun _ _ _ _ _ _ us hl => match us, hl with | [_, _, _, _], _ => rfl) fun cdv A outer s H a b x y Q E l qa hr h => ?_
    obtain ⟨wa, fa, D, L, e, f, ν, rfl, rfl, rfl, hW, hf, hL, nu, wf, cok, lok, hd, q⟩ := h
    exact absurd f.rk_pos (by omega)
  | d + 1 => by
    have ih := ok__law_truth T d
    refine fnQ4 T.F__law_truth sc__law_truth (fun _ _ _ _ _ _ us hl => match us, hl with | [_, _, _, _], _ => rfl) fun cdv A outer s H a b x y Q E l qa hr h => ?_
    obtain ⟨wa, fa, D, L, e, f, ν, rfl, rfl, rfl, hW, hf, hL, nu, wf, cok, lok, hd, q⟩ := h
    refine ⟨_, (pss_cons (ps_set (i := 4) sc__law_truth.nd rfl (Or.inl rfl) (pe_ix ix_tup (pv 1) pe_int (fun _ _ => rfl)))
      (pss_cons (ps_if (PW.pt (pw_or (pt_cmpR op_eq (pv 4) pe_str (nomark _)) (pw_or1 (pt_cmpR op_eq (pv 4) pe_str (nomark _))))) (pss_cons (ps_set (i := 5) sc__law_truth.nd rfl (Or.inl rfl) (pe_callQ (ok__law_total T) (hr.mono (by omega)) (cxQ_quiet qa) T.g__law_total pass0 (pa_cons (pe_ix ix_tup (pv 1) pe_int (fun _ _ => rfl)) (pa_cons (pv 2) pa_nil))))
        (pss_one (ps_ret (pe_or (pe_cmpR op_eq (pv 5) pe_int (nomark _)) (pe_one (pe_and (pe_cmpR op_eq (pv 4) pe_str (nomark _)) (pe_one (pe_cmpR op_lt (pv 5) pe_int (nomark _))))))))) pss_nil)
      (pss_cons (ps_if (pt_cmpR op_eq (pv 4) pe_str (nomark _)) (pss_one (ps_ret (pe_callQ (ok__law_power T) (hr.mono (by omega)) (cxQ_quiet qa) T.g__law_power pass0 (pa_cons (pe_dget (huD hr) (pv 2) (pe_ix ix_tup (pv 1) pe_int (fun _ _ => rfl)) (fun _ _ => rfl)) pa_nil)))) pss_nil)
      (pss_cons (ps_if (pt_cmpR op_eq (pv 4) pe_str (nomark _)) (pss_one (ps_ret (pe_cmpR op_eq (pe_callQ (ok__law_output T) (hr.mono (by omega)) (cxQ_quiet qa) T.g__law_output pass0 (pa_cons (pv 0) (pa_cons (pe_ix ix_tup (pv 1) pe_int (fun _ _ => rfl)) (pa_cons (pe_dget (huD hr) (pv 2) (pe_ix ix_tup (pv 1) pe_int (fun _ _ => rfl)) (fun _ _ => rfl)) pa_nil)))) (pe_ix ix_tup (pv 1) pe_int (fun _ _ => rfl)) (nomark _)))) pss_nil)
      (pss_cons (ps_if (pt_cmpR op_eq (pv 4) pe_str (nomark _)) (pss_one (ps_ret (pe_not (pe_callQ ih (hr.mono (by omega)) (cxQ_quiet qa) T.g__law_truth pass0 (pa_cons (pv 0) (pa_cons (pe_ix ix_tup (pv 1) pe_int (fun _ _ => rfl)) (pa_cons (pv 2) (pa_cons (pv 3) pa_nil)))))))) pss_nil)
      (pss_cons (ps_if (pt_cmpR op_eq (pv 4) pe_str (nomark _)) (pss_cons (ps_set (i := 6) sc__law_truth.nd rfl (Or.inl rfl) (pe_dget (huD hr) (pe_ix ix_list (pv 0) pe_int (fun _ _ => rfl)) (pe_ix ix_tup (pv 1) pe_int (fun _ _ => rfl)) (fun _ _ => rfl)))
        (pss_cons (ps_set (i := 7) sc__law_truth.nd rfl (Or.inl rfl) pe_dnewK)
        (pss_cons (ps_forQ PassesOwn.leaving (cxQ_quiet qa) (piR1 rfl T.free_range (pa_cons (pe_callB call_len_seq rfl T.free_len PySem.boot_len (pa_cons (pe_ix ix_tup (pv 6) pe_int (fun _ _ => rfl)) pa_nil)) pa_nil)) (pg_name (i := 8) sc__law_truth.nd rfl (Or.inl rfl)) (pss_one (ps_dput (huD hr) (pv 7) (pe_ix ix_tup (pe_ix ix_tup (pv 6) pe_int (fun _ _ => rfl)) (pv 8) (fun _ _ => rfl)) (pe_dget (huD hr) (pv 2) (pe_ix ix_tup (pe_ix ix_tup (pv 1) pe_int (fun _ _ => rfl)) (pv 8) (fun _ _ => rfl)) (fun _ _ => rfl)) rfl)))
        (pss_one (ps_ret (pe_callQ ih (hr.mono (by omega)) (cxQ_quiet qa) T.g__law_truth pass0 (pa_cons (pv 0) (pa_cons (pe_ix ix_tup (pv 6) pe_int (fun _ _ => rfl)) (pa_cons (pv 7) (pa_cons (pv 3) pa_nil)))))))))) pss_nil)
      (pss_cons (ps_if (PW.pt (pw_or (pt_cmpR op_eq (pv 4) pe_str (nomark _)) (pw_or1 (pt_cmpR op_eq (pv 4) pe_str (nomark _))))) pss_never pss_nil)
      (pss_cons (ps_set (i := 10) sc__law_truth.nd rfl (Or.inl rfl) (pe_callQ ih (hr.mono (by omega)) (cxQ_quiet qa) T.g__law_truth pass0 (pa_cons (pv 0) (pa_cons (pe_ix ix_tup (pv 1) pe_int (fun _ _ => rfl)) (pa_cons (pv 2) (pa_cons (pv 3) pa_nil))))))
      (pss_one (ps_ret (pe_callQ (ok__law_joins_truth T) (hr.mono (by omega)) (cxQ_quiet qa) T.g__law_joins_truth pass0 (pa_cons (pv 4) (pa_cons (pv 10) (pa_cons (pe_callQ ih (hr.mono (by omega)) (cxQ_quiet qa) T.g__law_truth pass0 (pa_cons (pv 0) (pa_cons (pe_ix ix_tup (pv 1) pe_int (fun _ _ => rfl)) (pa_cons (pv 2) (pa_cons (pv 3) pa_nil))))) pa_nil)))))))))))))), ?_⟩
    obtain ⟨xs, hp⟩ := hf.tup
    refine ⟨_, rfl, fa, _, _, _, rfl, rfl, SqT.of hp, iV0, ?_⟩
    clear hp
    cases f with
    | lin ex ps c =>
      obtain ⟨t, pt, hp0, ht, pr⟩ := hf
      obtain ⟨_, _, _, k4, _, _⟩ := id lok
      have hps : ∀ p ∈ ps, p.1 ∈ L ∧ -9 ≤ p.2 ∧ p.2 ≤ 9 := fun p hp => by
        have h1 := hL p.1 (List.mem_map_of_mem hp)
        have h2 := abs_mem (l := ps.map (·.2)) (List.mem_map_of_mem hp)
        exact ⟨h1, by omega, by omega⟩
      cases ex with
      | true =>
        refine ⟨_, rfl, rfl, true, dT rfl, _, rfl, fa, _, _, _, rfl, rfl, SqT.of hp0, atI_nat (j := 1) rfl, _, rfl, _, _, rfl, t, pt, D, ps, c, L, ν, rfl, rfl, ht, pr, nu, hps, ?_⟩
        refine ⟨_, rfl, rfl, _, rfl, ?_⟩
        have tr : (Fm.lin true ps c).tr e ν = decide (lsum ps ν = -c) := rfl
        have q0 := q H (Same.refl _)
        rw [tr] at q0
        by_cases z : lsum ps ν + c = 0
        · rw [if_pos (decide_eq_true (congrArg V.int z))]
          exact qb (Q := Q) (decide_eq_true (show lsum ps ν = -c by omega)).symm q0
        · rw [if_neg (by rw [decide_eq_false (intNe z)]; exact Bool.false_ne_true)]
          refine ⟨_, rfl, rfl, _, rfl, ?_⟩
          rw [if_neg (by rw [decide_eq_false (show ¬ V.str (Fm.lin true ps c).hd = V.str "le" from strNe (neS "eq" "le"))]; exact Bool.false_ne_true)]
          exact qb (Q := Q) ((decide_eq_false (show ¬ V.str (Fm.lin true ps c).hd = V.str "le" from strNe (neS "eq" "le"))).trans (decide_eq_false (show ¬ lsum ps ν = -c by omega)).symm) q0
      | false =>
        refine ⟨_, rfl, rfl, false, dF (strNe (neS "le" "eq")), _, rfl, rfl, true, dT rfl, _, rfl, fa, _, _, _, rfl, rfl, SqT.of hp0, atI_nat (j := 1) rfl, _, rfl, _, _, rfl, t, pt, D, ps, c, L, ν, rfl, rfl, ht, pr, nu, hps, ?_⟩
        refine ⟨_, rfl, rfl, _, rfl, ?_⟩
        have tr : (Fm.lin false ps c).tr e ν = decide (lsum ps ν ≤ -c) := rfl
        have q0 := q H (Same.refl _)
        rw [tr] at q0
        by_cases z : lsum ps ν + c = 0
        · rw [if_pos (decide_eq_true (congrArg V.int z))]
          exact qb (Q := Q) (decide_eq_true (show lsum ps ν ≤ -c by omega)).symm q0
        · rw [if_neg (by rw [decide_eq_false (intNe z)]; exact Bool.false_ne_true)]
          refine ⟨_, rfl, rfl, _, rfl, ?_⟩
          rw [if_pos (decide_eq_true (show V.str (Fm.lin false ps c).hd = V.str "le" from rfl))]
          refine ⟨_, rfl, _, _, rfl, rfl, qb (Q := Q) ?_ q0⟩
          exact decide_eq_decide.mpr (by omega)
    | pow x =>
      have hp0 : H fa = some (.tup [.str "pow", .str x]) := hf
      refine ⟨_, rfl, rfl, false, dF (strNe (neS "pow" "eq")), _, rfl, rfl, false, dF (strNe (neS "pow" "le")), _, rfl, rfl, true, dT rfl, ?_⟩
      exact ⟨_, rfl, _, rfl, fa, _, _, _, rfl, rfl, SqT.of hp0, atI_nat (j := 1) rfl, D, _, rfl, nu.get (hL x (by simp [Fm.free])), _, rfl, ν x, rfl, q H (Same.refl _)⟩
    | word wd x o =>
      have hp0 : H fa = some (.tup [.str "word", .str wd, .str x, iV o]) := hf
      obtain ⟨t, ht⟩ := wf
      refine ⟨_, rfl, rfl, false, dF (strNe (neS "word" "eq")), _, rfl, rfl, false, dF (strNe (neS "word" "le")), _, rfl, rfl, false, dF (strNe (neS "word" "pow")), _, rfl, rfl, true, dT rfl, ?_⟩
      refine ⟨_, rfl, _, rfl, fa, _, _, _, rfl, rfl, SqT.of hp0, atI_nat (j := 1) rfl, _, rfl, _, rfl, fa, _, _, _, rfl, rfl, SqT.of hp0, atI_nat (j := 2) rfl, D, _, rfl, nu.get (hL x (by simp [Fm.free])), _, _, _, rfl, wa, e, wd, t, ν x, rfl, rfl, rfl, hW, ht, ?_⟩
      refine ⟨_, rfl, fa, _, _, _, rfl, rfl, SqT.of hp0, atI_nat (j := 3) rfl, rfl, ?_⟩
      refine qb (Q := Q) ?_ (q H (Same.refl _))
      unfold Fm.tr Fm.tr0
      rw [ht]
      exact decide_eq_decide.mpr ⟨fun z => Int.ofNat.inj (V.int.inj z), fun z => by rw [z]⟩
    | call nm as =>
      obtain ⟨t0, hp0, ht0⟩ := hf
      obtain ⟨ps, g, hdf, pl, a6, pnd, nc, glok, sm, gwf, dep, h60, sub⟩ := cok
      obtain ⟨ww, wc, vw, vc, e1, e2, e3, e4, e5⟩ := hW.ex
      obtain ⟨r, pa, ga, v1, r1, r2, r3⟩ := e5 nm ps g hdf
      have hg := DGet.k (k := Sum.inr nm) e3
      rw [v1] at hg
      refine ⟨_, rfl, rfl, false, dF (strNe (neS "call" "eq")), _, rfl, rfl, false, dF (strNe (neS "call" "le")), _, rfl, rfl, false, dF (strNe (neS "call" "pow")), _, rfl, rfl, false, dF (strNe (neS "call" "word")), _, rfl, rfl, false, dF (strNe (neS "call" "not")), _, rfl, rfl, true, dT rfl, ?_⟩
      refine ⟨_, rfl, wa, _, _, _, rfl, rfl, SqL.of e1, atI_nat (j := 1) rfl, _, rfl, fa, _, _, _, rfl, rfl, SqT.of hp0, atI_nat (j := 1) rfl, wc, _, rfl, hg, ?_⟩
      refine fun D2 nD2 => ?_
      have s1 := same_upd (o := .dK []) nD2
      have hd1 : upd H D2 (.dK []) D2 = some (.dK []) := upd_same
      generalize upd H D2 (.dK []) = H1 at s1 hd1 ⊢
      have psl : (ps.map V.str).length = ps.length := List.length_map _
      refine ⟨_, rfl, r, _, _, _, rfl, rfl, SqT.of (s1 _ _ r1), iV0, pa, _, rfl, .inr (r2.same s1).sq, _, rfl, by omega, by rw [psl]; omega, ?_⟩
      rw [toN]
      refine for_range (fun i σ H2 => L2.Same H H2 ∧ ∃ kvs o8, H2 D2 = some (.dK kvs) ∧ kvs.length ≤ i ∧ (∀ j x y, j < i → ps[j]? = some x → as[j]? = some y → valV kvs (Sum.inr x) = some (iV (ν y))) ∧ σ = [some (.ref wa), some (.ref fa), some (.ref D), some y, some (.str "call"), none, some (.ref r), some (.ref D2), o8, none, none]) ⟨s1, [], none, hd1, Nat.le_refl _, (fun j x y hj => absurd hj (Nat.not_lt_zero _)), rfl⟩ ?_ ?_
      · rintro i σ H2 hi ⟨s2, kvs, o8, hd2, kl, inv, rfl⟩
        rw [psl] at hi
        rw [Int.zero_add]
        have ep := List.getElem?_eq_getElem hi
        have ea := List.getElem?_eq_getElem (show i < as.length by omega)
        have hyL : as[i] ∈ L := hL _ (List.getElem_mem _)
        have ip : atI (ps.map V.str) (i : Int) = some (.str ps[i]) := atI_nat (by rw [List.getElem?_map, ep]; rfl)
        have ia : atI (as.map V.str) (i : Int) = some (.str as[i]) := atI_nat (by rw [List.getElem?_map, ea]; rfl)
        refine ⟨_, rfl, _, rfl, fa, _, _, _, rfl, rfl, SqT.of (s2 _ _ hp0), atI_nat (j := 2) rfl, _, rfl, t0, _, _, _, rfl, rfl, SqT.of (s2 _ _ ht0), ia, D, _, rfl, (nu.same s2).get hyL, ?_⟩
        refine ⟨_, rfl, _, rfl, r, _, _, _, rfl, rfl, SqT.of (s2 _ _ r1), iV0, _, rfl, pa, _, _, _, rfl, rfl, (r2.same s2).sq, ip, D2, _, rfl, DPut.k (k := Sum.inr ps[i]) hd2 (by rw [sizeLine_eq]; omega), ?_⟩
        refine ⟨same_upd2 s2 nD2, _, _, upd_same, (by have := length_putK kvs (Sum.inr ps[i]) (iV (ν as[i])); omega), fun j x y' hj hx hy => ?_, rfl⟩
        rw [valV_put]
        by_cases hji : j = i
        · subst hji
          rw [ep] at hx
          rw [ea] at hy
          cases hx
          cases hy
          rw [if_pos rfl]
        · rw [if_neg fun z => hji ?_]
          · exact inv j x y' (by omega) hx hy
          · have z := Sum.inr.inj z
            have hjl : j < ps.length := (List.getElem?_eq_some_iff.mp hx).1
            rw [List.getElem?_eq_getElem hjl] at hx
            have z2 : ps[j] = ps[i] := (Option.some.inj hx).trans z
            exact (List.getElem_inj pnd).mp z2
      · rintro σ H2 ⟨s2, kvs, o8, hd2, kl, inv, rfl⟩
        have nu' : NuAt H2 D2 ps fun x => ν (as.getD (ps.idxOf x) "") := ⟨kvs, hd2, fun x hx => by
          have hi := List.idxOf_lt_length_of_mem hx
          have ea := List.getElem?_eq_getElem (show ps.idxOf x < as.length by omega)
          rw [inv _ x _ (by rw [psl]; exact hi) (by rw [List.getElem?_eq_getElem hi, List.getElem_idxOf hi]) ea]
          show _ = some (iV (ν (as.getD (ps.idxOf x) "")))
          rw [List.getD_eq_getElem?_getD, ea]
          rfl⟩
        refine ⟨_, rfl, _, rfl, r, _, _, _, rfl, rfl, SqT.of (s2 _ _ r1), atI_nat (j := 1) rfl, _, rfl, _, rfl, _, _, _, _, rfl, wa, ga, D2, ps, e, g, _, rfl, rfl, rfl, hW.same s2, r3.keep fun _ _ z => s2 _ _ z, sub, nu', gwf, nc_cok nc, glok, (by rw [Fm.rk_nc nc]; have : 3 ≤ d + 1 := hd; omega), fun H3 s3 => ?_⟩
        have tr : (Fm.call nm as).tr e ν = g.tr e fun x => ν (as.getD (ps.idxOf x) "") := by
          rw [Fm.tr_nc nc]
          show (match e.defs nm with
            | some (ps, g) => g.tr0 e fun x => ν (as.getD (ps.idxOf x) "")
            | none => false) = _
          rw [hdf]
        rw [← tr]
        exact q H3 (s2.trans s3)
    | neg g =>
      obtain ⟨b, hp0, hb⟩ := hf
      refine ⟨_, rfl, rfl, false, dF (strNe (neS "not" "eq")), _, rfl, rfl, false, dF (strNe (neS "not" "le")), _, rfl, rfl, false, dF (strNe (neS "not" "pow")), _, rfl, rfl, false, dF (strNe (neS "not" "word")), _, rfl, rfl, true, dT rfl, ?_⟩
      refine ⟨_, rfl, _, rfl, fa, _, _, _, rfl, rfl, SqT.of hp0, atI_nat (j := 1) rfl, _, rfl, _, rfl, _, _, _, _, rfl, wa, b, D, L, e, g, ν, rfl, rfl, rfl, hW, hb, hL, nu, wf, cok, lok, Nat.le_of_succ_le_succ hd, fun H' s' => ?_⟩
      exact ⟨_, rfl, q H' s'⟩
    | join op g h =>
      obtain ⟨b1, b2, hp0, hop, h1, h2⟩ := hf
      have d1 : max g.rk h.rk + 1 ≤ d + 1 := hd
      refine ⟨_, rfl, rfl, false, dF (strNe (opNe hop (by decide +kernel))), _, rfl, rfl, false, dF (strNe (opNe hop (by decide +kernel))), _, rfl, rfl, false, dF (strNe (opNe hop (by decide +kernel))), _, rfl, rfl, false, dF (strNe (opNe hop (by decide +kernel))), _, rfl, rfl, false, dF (strNe (opNe hop (by decide +kernel))), _, rfl, rfl, false, dF (strNe (opNe hop (by decide +kernel))), _, rfl, rfl, false, dF (strNe (opNe hop (by decide +kernel))), _, rfl, rfl, false, dF (strNe (opNe hop (by decide +kernel))), ?_⟩
      refine ⟨_, rfl, _, rfl, fa, _, _, _, rfl, rfl, SqT.of hp0, atI_nat (j := 1) rfl, _, rfl, _, rfl, _, _, _, _, rfl, wa, b1, D, L, e, g, ν, rfl, rfl, rfl, hW, h1, (fun z hz => hL z (List.mem_append_left _ hz)), nu, wf.1, cok.1, lok.1, by omega, fun H1 s1 => ?_⟩
      refine ⟨_, rfl, _, rfl, _, rfl, _, rfl, fa, _, _, _, rfl, rfl, SqT.of (s1 _ _ hp0), atI_nat (j := 2) rfl, _, rfl, _, rfl, _, _, _, _, rfl, wa, b2, D, L, e, h, ν, rfl, rfl, rfl, hW.same s1, h2.keep fun _ _ z => s1 _ _ z, (fun z hz => hL z (List.mem_append_right _ hz)), nu.same s1, wf.2, cok.2, lok.2, by omega, fun H2 s2 => ?_⟩
      exact ⟨_, _, _, rfl, op, _, _, rfl, rfl, rfl, hop, q H2 (s1.trans s2)⟩
end
end K36
/-! K36W24: calls put into a formula -/
namespace K36
open PySem PySem.Spec PyProof.Rows L2 HotX
theorem Fm.kind (f : Fm) : (∃ x, f = .pow x) ∨ (f.hd ≠ "pow" ∧ f.hd ∉ ops4 ∧ f.hd ≠ "not") ∨ (∃ g, f = .neg g) ∨ ∃ op g h, f = .join op g h := by
  cases f with
  | lin ex ps c =>
    cases ex
    · exact .inr (.inl ⟨neS "le" "pow", (by decide +kernel : ("le" : Str) ∉ ops4), neS "le" "not"⟩)
    · exact .inr (.inl ⟨neS "eq" "pow", (by decide +kernel : ("eq" : Str) ∉ ops4), neS "eq" "not"⟩)
  | pow x => exact .inl ⟨x, rfl⟩
  | word wd x o => exact .inr (.inl ⟨neS "word" "pow", (by decide +kernel : ("word" : Str) ∉ ops4), neS "word" "not"⟩)
  | call nm as => exact .inr (.inl ⟨neS "call" "pow", (by decide +kernel : ("call" : Str) ∉ ops4), neS "call" "not"⟩)
  | neg g => exact .inr (.inr (.inl ⟨g, rfl⟩))
  | join op g h => exact .inr (.inr (.inr ⟨op, g, h, rfl⟩))
def tCut (K : PySem.W.Frag) : TE := tOp (rCatT K) (tSl (rSlA K) (tVar 1) tNoPart (tPart (tOp (rI0 fun i j => V.int (i - j)) (tCB (rLenS K) (tCons (tVar 1) tNil)) (tCB (rLenS K) (tCons (tVar 4) tNil))))) (tCB (rTupOf K) (tCons (tVar 4) tNil))
theorem cut_ok {K : PySem.W.Frag} {H : Hp} {R : VK} {p fa na la : Addr} {o3 : Option V} {xs zs : List V} (hx : H fa = some (.tup xs)) (hl : H la = some (.lst zs)) (lt : zs.length < xs.length) (sm : xs.length ≤ 100)
    (q1 : zs = [] → ∀ H', L2.Same H H' → R (.ref fa) H') (q2 : zs ≠ [] → ∀ H' r, L2.Same H H' → H' r = some (.tup (xs.take (xs.length - zs.length) ++ zs)) → R (.ref r) H') :
    tCut K [some (.ref p), some (.ref fa), some (.ref na), o3, some (.ref la)] H R := by
  have e : (xs.length : Int) - (zs.length : Int) = ((xs.length - zs.length : Nat) : Int) := by omega
  refine ⟨_, rfl, _, rfl, fa, _, rfl, .inr (SqT.of hx), _, rfl, la, _, rfl, .inl (SqL.of hl), _, _, rfl, rfl, _, rfl, fa, xs, rfl, SqT.of hx, fun full => ?_, fun nf t nt => ?_⟩
  · have f2 := full.2
    rw [e, HT.sIx_nat] at f2
    have z0 : zs = [] := List.length_eq_zero_iff.mp (by omega)
    refine ⟨_, rfl, la, zs, rfl, .inl ⟨SqL.of hl, fun tp ntp => ?_⟩⟩
    have s1 := same_upd (o := .tup zs) ntp
    exact ⟨fa, tp, xs, zs, rfl, rfl, SqT.of (s1 _ _ hx), SqT.of upd_same, (fun z => by rw [z] at lt; exact Nat.not_lt_zero _ lt), by rw [sizeLine_eq]; omega, fun _ => q1 z0 _ s1, fun z => absurd z0 z⟩
  · have z0 : zs ≠ [] := fun z => nf (by rw [e, z]; exact ⟨rfl, by rw [HT.sIx_nat]; simp⟩)
    have cut : cutV xs none (some ((xs.length : Int) - (zs.length : Int))) = xs.take (xs.length - zs.length) := by
      show List.take (HT.sIx xs.length xs.length (some ((xs.length : Int) - (zs.length : Int))) - 0) (List.drop 0 xs) = _
      rw [e, HT.sIx_nat, Nat.min_eq_left (by omega), Nat.sub_zero, List.drop_zero]
    rw [cut]
    have s1 := same_upd (o := .tup (xs.take (xs.length - zs.length))) nt
    have ht : upd H t (.tup (xs.take (xs.length - zs.length))) t = some (.tup (xs.take (xs.length - zs.length))) := upd_same
    generalize upd H t (.tup (xs.take (xs.length - zs.length))) = H1 at s1 ht ⊢
    refine ⟨_, rfl, la, zs, rfl, .inl ⟨SqL.of (s1 _ _ hl), fun tp ntp => ?_⟩⟩
    have s2 := same_upd (o := .tup zs) ntp
    have tl : (xs.take (xs.length - zs.length)).length = xs.length - zs.length := by rw [List.length_take]; omega
    refine ⟨t, tp, _, zs, rfl, rfl, SqT.of (s2 _ _ ht), SqT.of upd_same, (fun z => by rw [z] at tl; simp at tl; omega), by rw [tl, sizeLine_eq]; omega, fun z => absurd z z0, fun _ r nr => ?_⟩
    exact q2 z0 _ r ((s1.trans s2).trans (same_upd nr)) upd_same
theorem FmAt.short {H : Hp} {f : Fm} {a : Addr} {ys : List V} (h : FmAt H f a) (e : H a = some (.tup ys)) : 0 < ys.length ∧ ys.length ≤ 4 := by
  cases f with
  | lin ex ps c => obtain ⟨t, pt, h1, _⟩ := h; rw [h1] at e; cases e; exact ⟨by show 0 < 2; decide, by show 2 ≤ 4; decide⟩
  | pow x => have h : H a = some (.tup [.str "pow", .str x]) := h; rw [h] at e; cases e; exact ⟨by show 0 < 2; decide, by show 2 ≤ 4; decide⟩
  | word wd x o => have h : H a = some (.tup [.str "word", .str wd, .str x, iV o]) := h; rw [h] at e; cases e; exact ⟨by show 0 < 4; decide, by show 4 ≤ 4; decide⟩
  | call nm as => obtain ⟨t, h1, _⟩ := h; rw [h1] at e; cases e; exact ⟨by show 0 < 3; decide, by show 3 ≤ 4; decide⟩
  | neg g => obtain ⟨t, h1, _⟩ := h; rw [h1] at e; cases e; exact ⟨by show 0 < 2; decide, by show 2 ≤ 4; decide⟩
  | join op g k => obtain ⟨t, t2, h1, _⟩ := h; rw [h1] at e; cases e; exact ⟨by show 0 < 3; decide, by show 3 ≤ 4; decide⟩
section
variable {P : Program} {w : World} {K : PySem.W.Frag} {mg : Str → Option Value} {base : Heap}
def p__law_called (K : PySem.W.Frag) (d : Nat) : Q3 := fun c a b y H Q _ => c = true ∧ ∃ (p sa na fa : Addr) (L : List Str) (f : Fm), a = .ref p ∧ b = .ref fa ∧ y = .ref na ∧ PoolAt K H p sa ∧ H na = some (.lst (L.map V.str)) ∧ 0 < L.length ∧ L.length ≤ 3 ∧ FmAt H f fa ∧ Fine L f ∧ f.depth ≤ d ∧
  ∀ H' t f', PoolAt K H' p sa → Fx [p] H H' → FmAt H' f' t → Fine L f' → f'.depth ≤ f.depth → Q (.ref t) H'
theorem ok__law_called (T : Txt P w K mg) : ∀ d, FnQ P w K mg base (d + 3) (He.ga K "_law_called") 3 (Sp3 (p__law_called K d))
  | 0 => by
    refine fnQ3 T.F__law_called sc__law_called (fun _ _ _ _ _ _ us hl => match us, hl with | [_, _, _], _ => rfl) fun cdv A outer s H a b y Q E l qa hr h => ?_
    obtain ⟨hc, p, sa, na, fa, L, f, rfl, rfl, rfl, pa, hn, l0, l3, hf, fi, hd, _⟩ := h
    exact absurd f.depth_pos (by omega)
  | d + 1 => by
    have ih := ok__law_called T d
    refine fnQ3 T.F__law_called sc__law_called (fun _ _ _ _ _ _ us hl => match us, hl with | [_, _, _], _ => rfl) fun cdv A outer s H a b y Q E l qa hr h => ?_
    obtain ⟨hc, p, sa, na, fa, L, f, rfl, rfl, rfl, pa, hn, l0, l3, hf, fi, hd, q⟩ := h
    cases l with
    | cons _ _ => cases hc
    | nil =>
      refine ⟨_, (pss_cons (ps_if (PW.pt (pw_and (pt_cmpR op_eq (pe_ix ix_tup (pv 1) pe_int (fun _ _ => rfl)) pe_str (nomark _)) (pw_and1 (pt_cmpR op_eq (pe_callQ (ok__law_take T) (hr.mono (by omega)) (cxQ_quiet qa) T.g__law_take pass0 (pa_cons (pv 0) (pa_cons pe_int pa_nil))) pe_int (nomark _))))) (pss_cons (ps_set (i := 3) sc__law_called.nd rfl (Or.inl rfl) (pe_tup (pa_cons (pe_ix ix_tup (pv 1) pe_int (fun _ _ => rfl)) (pa_cons (pe_ix ix_list (pv 2) (pe_callQ (ok__law_take T) (hr.mono (by omega)) (cxQ_quiet qa) T.g__law_take pass0 (pa_cons (pv 0) (pa_cons (pe_callB call_len_seq rfl T.free_len PySem.boot_len (pa_cons (pv 2) pa_nil)) pa_nil))) (fun _ _ => rfl)) pa_nil))))
        (pss_one (ps_ret (pe_tup (pa_cons pe_str (pa_cons (pe_ix ix_list (pe_lst (pa_cons pe_str (pa_cons pe_str pa_nil))) (pe_callQ (ok__law_take T) (hr.mono (by omega)) (cxQ_quiet qa) T.g__law_take pass0 (pa_cons (pv 0) (pa_cons pe_int pa_nil))) (fun _ _ => rfl)) (pa_cons (pv 3) pa_nil))))))) pss_nil)
      (pss_cons (ps_set (i := 4) sc__law_called.nd rfl (Or.inl rfl) (pe_lst pa_nil))
      (pss_cons (ps_if (pt_cmpR op_in_seq (pe_ix ix_tup (pv 1) pe_int (fun _ _ => rfl)) (pe_lst (pa_cons pe_str (pa_cons pe_str (pa_cons pe_str (pa_cons pe_str pa_nil))))) (by with_unfolding_all rfl)) (pss_one (ps_set (i := 4) sc__law_called.nd rfl (Or.inl rfl) (pe_lst (pa_cons (pe_callQ ih (hr.mono (by omega)) (cxQ_quiet qa) T.g__law_called pass0 (pa_cons (pv 0) (pa_cons (pe_ix ix_tup (pv 1) pe_int (fun _ _ => rfl)) (pa_cons (pv 2) pa_nil)))) (pa_cons (pe_callQ ih (hr.mono (by omega)) (cxQ_quiet qa) T.g__law_called pass0 (pa_cons (pv 0) (pa_cons (pe_ix ix_tup (pv 1) pe_int (fun _ _ => rfl)) (pa_cons (pv 2) pa_nil)))) pa_nil))))) pss_nil)
      (pss_cons (ps_if (pt_cmpR op_eq (pe_ix ix_tup (pv 1) pe_int (fun _ _ => rfl)) pe_str (nomark _)) (pss_one (ps_set (i := 4) sc__law_called.nd rfl (Or.inl rfl) (pe_lst (pa_cons (pe_callQ ih (hr.mono (by omega)) (cxQ_quiet qa) T.g__law_called pass0 (pa_cons (pv 0) (pa_cons (pe_ix ix_tup (pv 1) pe_int (fun _ _ => rfl)) (pa_cons (pv 2) pa_nil)))) pa_nil)))) pss_nil)
      (pss_one (ps_ret (pe_op op_catT (pe_slice sl_tupA (pv 1) po_none (po_some (pe_op op_sub (pe_callB call_len_seq rfl T.free_len PySem.boot_len (pa_cons (pv 1) pa_nil)) (pe_callB call_len_seq rfl T.free_len PySem.boot_len (pa_cons (pv 4) pa_nil))))) (pe_callTy call_tuple_of rfl T.free_tuple (by decide +kernel) (pa_cons (pv 4) pa_nil))))))))), ?_⟩
      obtain ⟨xs, hp⟩ := hf.tup
      refine seq_of (fun σ H1 => PoolAt K H1 p sa ∧ Fx [p] H H1 ∧ σ = [some (.ref p), some (.ref fa), some (.ref na), none, none]) ?_ fun rest => ?_
      · rintro σ H1 ⟨p1, f1, rfl⟩
        refine ⟨by show 0 ≤ sizeLine; decide, fun la nla => ?_⟩
        have s2 := same_upd (o := .lst []) nla
        have hl2 : upd H1 la (.lst []) la = some (.lst []) := upd_same
        have p2 := p1.same s2
        have f2 := f1.trans (same_fx s2)
        generalize upd H1 la (.lst []) = H2 at s2 hl2 p2 f2 ⊢
        have hp2 := f2.tup _ _ hp
        refine ⟨_, rfl, fa, _, _, _, rfl, rfl, SqT.of hp2, iV0, by show 4 ≤ sizeLine; decide, fun t4 n4 => ⟨t4, _, rfl, .inl (SqL.of upd_same), rfl, rfl, decide (f.hd ∈ ops4), in4 rfl, ?_⟩⟩
        have s3 := same_upd (o := .lst [.str "and", .str "or", .str "imp", .str "iff"]) n4
        have p3 := p2.same s3
        have f3 := f2.trans (same_fx s3)
        have hl3 := s3 _ _ hl2
        change (_ : Hp → Prop) (upd H2 t4 (.lst [.str "and", .str "or", .str "imp", .str "iff"]))
        generalize upd H2 t4 (.lst [.str "and", .str "or", .str "imp", .str "iff"]) = H3 at s3 p3 f3 hl3 ⊢
        have hp3 := f3.tup _ _ hp
        have hf3 := hf.fx f3
        have hn3 := names_fx pa hn f3
        rcases f.kind with ⟨x, rfl⟩ | ⟨k1, k2, k3⟩ | ⟨g, rfl⟩ | ⟨op, g, h, rfl⟩
        · rw [decide_eq_false (show ¬ (Fm.pow x).hd ∈ ops4 by show ¬ ("pow" : Str) ∈ ops4; decide +kernel)]
          refine ⟨_, rfl, fa, _, _, _, rfl, rfl, SqT.of hp3, iV0, rfl, false, dF (strNe (neS "pow" "not")), ?_⟩
          have hh := hf3.short hp3
          exact cut_ok (xs := _) hp3 hl3 hh.1 (by omega) (fun _ H4 s4 => q H4 fa _ (p3.same s4) (f3.trans (same_fx s4)) (hf3.keep fun _ _ z => s4 _ _ z) fi (Nat.le_refl _)) (fun z => absurd rfl z)
        · rw [decide_eq_false k2]
          refine ⟨_, rfl, fa, _, _, _, rfl, rfl, SqT.of hp3, iV0, rfl, false, dF (strNe k3), ?_⟩
          have hh := hf3.short hp3
          exact cut_ok (xs := _) hp3 hl3 hh.1 (by omega) (fun _ H4 s4 => q H4 fa _ (p3.same s4) (f3.trans (same_fx s4)) (hf3.keep fun _ _ z => s4 _ _ z) fi (Nat.le_refl _)) (fun z => absurd rfl z)
        · rw [decide_eq_false (show ¬ (Fm.neg g).hd ∈ ops4 by show ¬ ("not" : Str) ∈ ops4; decide +kernel)]
          obtain ⟨b, hp0, hb⟩ := hf3
          have dg : g.depth + 1 ≤ d + 1 := hd
          refine ⟨_, rfl, fa, _, _, _, rfl, rfl, SqT.of hp3, iV0, rfl, true, dT rfl, ?_⟩
          refine ⟨_, rfl, _, rfl, fa, _, _, _, rfl, rfl, SqT.of hp0, atI_nat (j := 1) rfl, _, rfl, _, _, _, rfl, rfl, p, sa, na, b, L, g, rfl, rfl, rfl, p3, hn3, l0, l3, hb, fi, by omega, fun H4 b' g' p4 f4 hb' fi' dp' => ?_⟩
          refine ⟨by show 1 ≤ sizeLine; decide, fun lb nlb => ?_⟩
          have s5 := same_upd (o := .lst [.ref b']) nlb
          have hl5 : upd H4 lb (.lst [.ref b']) lb = some (.lst [.ref b']) := upd_same
          have hp5 := s5 _ _ (f4.tup _ _ hp0)
          have hb5 := hb'.keep fun _ _ z => s5 _ _ z
          have p5 := p4.same s5
          have f5 := (f3.trans f4).trans (same_fx s5)
          exact cut_ok hp5 hl5 (by show 1 < 2; decide) (by show 2 ≤ 100; decide) (fun z => by cases z) fun _ H6 r s6 hr => q H6 r (.neg g') (p5.same s6) (f5.trans (same_fx s6)) ⟨b', hr, hb5.keep fun _ _ z => s6 _ _ z⟩ fi' (by show g'.depth + 1 ≤ g.depth + 1; omega)
        · obtain ⟨b1, b2, hp0, hop, h1, h2⟩ := hf3
          rw [decide_eq_true (show (Fm.join op g h).hd ∈ ops4 from hop)]
          have dg : max g.depth h.depth + 1 ≤ d + 1 := hd
          refine ⟨_, rfl, _, rfl, fa, _, _, _, rfl, rfl, SqT.of hp0, atI_nat (j := 1) rfl, _, rfl, _, _, _, rfl, rfl, p, sa, na, b1, L, g, rfl, rfl, rfl, p3, hn3, l0, l3, h1, fi.2.1, by omega, fun H4 b1' g' p4 f4 hb1 fi1 dp1 => ?_⟩
          refine ⟨_, rfl, _, rfl, fa, _, _, _, rfl, rfl, SqT.of (f4.tup _ _ hp0), atI_nat (j := 2) rfl, _, rfl, _, _, _, rfl, rfl, p, sa, na, b2, L, h, rfl, rfl, rfl, p4, names_fx pa hn (f3.trans f4), l0, l3, h2.fx f4, fi.2.2, by omega, fun H5 b2' h' p5 f5 hb2 fi2 dp2 => ?_⟩
          refine ⟨by show 2 ≤ sizeLine; decide, fun lb nlb => ?_⟩
          have s6 := same_upd (o := .lst [.ref b1', .ref b2']) nlb
          have hl6 : upd H5 lb (.lst [.ref b1', .ref b2']) lb = some (.lst [.ref b1', .ref b2']) := upd_same
          have hp6 := s6 _ _ (f5.tup _ _ (f4.tup _ _ hp0))
          have hb16 := (hb1.fx f5).keep fun _ _ z => s6 _ _ z
          have hb26 := hb2.keep fun _ _ z => s6 _ _ z
          have p6 := p5.same s6
          have f6 := ((f3.trans f4).trans f5).trans (same_fx s6)
          refine ⟨_, rfl, fa, _, _, _, rfl, rfl, SqT.of hp6, iV0, rfl, false, dF (strNe (opNe hop (by decide +kernel))), ?_⟩
          exact cut_ok hp6 hl6 (by show 2 < 3; decide) (by show 3 ≤ 100; decide) (fun z => by cases z) fun _ H7 r s7 hr => q H7 r (.join op g' h') (p6.same s7) (f6.trans (same_fx s7)) ⟨b1', b2', hr, hop, hb16.keep fun _ _ z => s7 _ _ z, hb26.keep fun _ _ z => s7 _ _ z⟩ ⟨hop, fi1, fi2⟩ (by show max g'.depth h'.depth + 1 ≤ max g.depth h.depth + 1; omega)
      · refine ⟨_, rfl, fa, _, _, _, rfl, rfl, SqT.of hp, iV0, rfl, ?_⟩
        by_cases hw : f.hd = "pow"
        · obtain ⟨x, rfl⟩ : ∃ x, f = .pow x := by
            rcases f.kind with ⟨x, rfl⟩ | ⟨k1, _⟩ | ⟨g, rfl⟩ | ⟨op, g, h, rfl⟩
            · exact ⟨x, rfl⟩
            · exact absurd hw k1
            · exact absurd hw (neS "not" "pow")
            · obtain ⟨_, _, _, hop, _⟩ := hf
              exact absurd hw (opNe hop (by decide +kernel))
          have hp0 : H fa = some (.tup [.str "pow", .str x]) := hf
          refine ⟨true, dT (congrArg V.str hw), _, rfl, _, _, rfl, p, sa, 2, rfl, rfl, by decide, by decide, pa, fun H1 n1 p1 b1 f1 => ⟨rfl, ?_⟩⟩
          by_cases n0 : n1 = 0
          · refine ⟨true, dT (by rw [n0]; rfl), ?_⟩
            have hn1 := names_fx pa hn f1
            refine ⟨_, rfl, fa, _, _, _, rfl, rfl, SqT.of (f1.tup _ _ hp0), atI_nat (j := 1) rfl, _, rfl, _, rfl, _, rfl, na, _, rfl, .inl (SqL.of hn1), _, _, rfl, p, sa, L.length, rfl, (by rw [List.length_map]), l0, by omega, p1, fun H2 n2 p2 b2 f2 => ?_⟩
            obtain ⟨y, ym, ye⟩ := pickS L b2
            have f2' := f1.trans f2
            refine ⟨na, _, _, _, rfl, rfl, SqL.of (names_fx pa hn f2'), ye, by show 2 ≤ sizeLine; decide, fun ta nta => ?_⟩
            have s3 := same_upd (o := .tup [.str x, .str y]) nta
            have ht3 : upd H2 ta (.tup [.str x, .str y]) ta = some (.tup ([x, y].map V.str)) := upd_same
            have p3 := p2.same s3
            have f3 := f2'.trans (same_fx s3)
            generalize upd H2 ta (.tup [.str x, .str y]) = H3 at s3 ht3 p3 f3 ⊢
            refine ⟨by show 2 ≤ sizeLine; decide, fun la nla => ?_⟩
            have s4 := same_upd (o := .lst (strsC.map V.str)) nla
            have hl4 : upd H3 la (.lst (strsC.map V.str)) la = some (.lst (strsC.map V.str)) := upd_same
            have nl' := PoolAt.new p3 nla
            have p4 := p3.same s4
            have f4 := f3.trans (same_fx s4)
            have ht4 := s4 _ _ ht3
            change (_ : Hp → Prop) (upd H3 la (.lst (strsC.map V.str)))
            generalize upd H3 la (.lst (strsC.map V.str)) = H4 at s4 hl4 p4 f4 ht4 ⊢
            refine ⟨_, rfl, _, _, rfl, p, sa, 2, rfl, rfl, by decide, by decide, p4, fun H5 n5 p5 b5 f5 => ?_⟩
            obtain ⟨nm, nmm, nme⟩ := pickS strsC (n := n5) b5
            refine ⟨la, _, _, _, rfl, rfl, SqL.of (f5.keep _ _ hl4 (by simpa using nl'.1)), nme, _, rfl, by show 3 ≤ sizeLine; decide, fun t nt => ?_⟩
            have s6 := same_upd (o := .tup [.str "call", .str nm, .ref ta]) nt
            refine q _ t (.call nm [x, y]) (p5.same s6) ((f4.trans f5).trans (same_fx s6)) ⟨ta, upd_same, s6 _ _ (f5.tup _ _ ht4)⟩ ⟨by simpa using nmm, rfl, fun z hz => ?_⟩ (Nat.le_refl _)
            have : z = x ∨ z = y := by simpa using hz
            rcases this with rfl | rfl
            · exact fi
            · exact ym
          · exact ⟨false, dF (intNe (by omega)), rest _ _ ⟨p1, f1, rfl⟩⟩
        · exact ⟨false, dF (strNe hw), rest _ _ ⟨pa, same_fx (Same.refl _), rfl⟩⟩
end
end K36
/-! K36W25: the free names, each once -/
namespace K36
open PySem PySem.Spec PyProof.Rows L2 HotX
theorem rising_snoc : ∀ {l : List Str} {x y : Str}, risingS x l = true → leS x y → (∀ a ∈ l, leS a y) → risingS x (l ++ [y]) = true
  | [], x, y, _, h, _ => by
    show risingS x [y] = true
    rw [risingS.eq_2, Bool.and_eq_true, Bool.not_eq_true']
    exact ⟨h, rfl⟩
  | b :: l, x, y, h, _, h2 => by
    rw [risingS.eq_2, Bool.and_eq_true] at h
    show risingS x (b :: (l ++ [y])) = true
    rw [risingS.eq_2, Bool.and_eq_true]
    exact ⟨h.1, rising_snoc h.2 (h2 b List.mem_cons_self) fun a ha => h2 a (List.mem_cons_of_mem _ ha)⟩
theorem sorted_snoc {l : List Str} {y : Str} (h : sortedS l = true) (h2 : ∀ a ∈ l, leS a y) : sortedS (l ++ [y]) = true := by
  cases l with
  | nil => rfl
  | cons x l =>
    have h : risingS x l = true := h
    show risingS x (l ++ [y]) = true
    exact rising_snoc h (h2 x List.mem_cons_self) fun a ha => h2 a (List.mem_cons_of_mem _ ha)
theorem sorted_pair : ∀ {l : List Str}, sortedS l = true → ∀ (i j : Nat) (a b : Str), i < j → l[i]? = some a → l[j]? = some b → leS a b
  | [], _, i, j, a, b, _, h, _ => by simp at h
  | x :: l, s, 0, j + 1, a, b, _, h1, h2 => by
    cases h1
    exact rising_all (show risingS x l = true from s) b (List.mem_of_getElem? (by simpa using h2))
  | x :: l, s, i + 1, j + 1, a, b, hij, h1, h2 => sorted_pair (sorted_tail s) i j a b (by omega) (by simpa using h1) (by simpa using h2)
section
variable {P : Program} {w : World} {K : PySem.W.Frag} {mg : Str → Option Value} {base : Heap}
def p__law_free (d : Nat) : Q1 := fun _ a H Q _ => ∃ (fa : Addr) (L : List Str) (f : Fm), a = .ref fa ∧ FmAt H f fa ∧ Fine L f ∧ f.depth ≤ d ∧ f.depth ≤ 4 ∧ ∀ H' r, L2.Same H H' → H' r = some (.lst (f.free.map V.str)) → Q (.ref r) H'
theorem ok__law_free (T : Txt P w K mg) : ∀ d, FnQ P w K mg base (d + 1) (He.ga K "_law_free") 1 (Sp1 (p__law_free d))
  | 0 => by
    refine fnQ1 T.F__law_free sc__law_free (fun _ _ _ _ _ _ us hl => match us, hl with | [_], _ => rfl) fun cdv A outer s H a Q E l qa hr h => ?_
    obtain ⟨fa, L, f, rfl, hf, fi, hd, _⟩ := h
    exact absurd f.depth_pos (by omega)
  | d + 1 => by
    have ih := ok__law_free T d
    refine fnQ1 T.F__law_free sc__law_free (fun _ _ _ _ _ _ us hl => match us, hl with | [_], _ => rfl) fun cdv A outer s H a Q E l qa hr h => ?_
    obtain ⟨fa, L, f, rfl, hf, fi, hd, h4, q⟩ := h
    refine ⟨_, (pss_cons (ps_if (PW.pt (pw_or (pt_cmpR op_eq (pe_ix ix_tup (pv 0) pe_int (fun _ _ => rfl)) pe_str (nomark _)) (pw_or1 (pt_cmpR op_eq (pe_ix ix_tup (pv 0) pe_int (fun _ _ => rfl)) pe_str (nomark _))))) (pss_one (ps_ret (pe_lcQ (own := [("_law_pair", 1)]) (g := gName 1) (tt := tYes) (cxQ_quiet qa) sc__law_free.nd (piT (pe_ix ix_tup (pe_ix ix_tup (pv 0) pe_int (fun _ _ => rfl)) pe_int (fun _ _ => rfl))) (blkOk_by (N := ["_law_formula", "_law_pair", "_law_found"]) (sc := defScope s__law_free) (by decide +kernel)) (fun _ _ _ _ hq => pg_name (i := 1) sc__law_free.nd rfl (Or.inl rfl)) (fun _ _ _ _ hq => pts_nil) (fun _ _ _ _ hq hcm => (pe_ix (ix_tupK (K := K)) (pv 1) pe_int (fun _ _ => rfl)))))) pss_nil)
      (pss_cons (ps_if (pt_cmpR op_eq (pe_ix ix_tup (pv 0) pe_int (fun _ _ => rfl)) pe_str (nomark _)) (pss_one (ps_ret (pe_lst (pa_cons (pe_ix ix_tup (pv 0) pe_int (fun _ _ => rfl)) pa_nil)))) pss_nil)
      (pss_cons (ps_if (pt_cmpR op_eq (pe_ix ix_tup (pv 0) pe_int (fun _ _ => rfl)) pe_str (nomark _)) (pss_one (ps_ret (pe_lst (pa_cons (pe_ix ix_tup (pv 0) pe_int (fun _ _ => rfl)) pa_nil)))) pss_nil)
      (pss_cons (ps_if (pt_cmpR op_eq (pe_ix ix_tup (pv 0) pe_int (fun _ _ => rfl)) pe_str (nomark _)) (pss_one (ps_ret (pe_callTy call_list_of rfl T.free_list (by decide +kernel) (pa_cons (pe_ix ix_tup (pv 0) pe_int (fun _ _ => rfl)) pa_nil)))) pss_nil)
      (pss_cons (ps_set (i := 2) sc__law_free.nd rfl (Or.inl rfl) (pe_callQ ih (hr.mono (by omega)) (cxQ_quiet qa) T.g__law_free pass0 (pa_cons (pe_ix ix_tup (pv 0) pe_int (fun _ _ => rfl)) pa_nil)))
      (pss_cons (ps_if (pt_cmpR op_ne (pe_ix ix_tup (pv 0) pe_int (fun _ _ => rfl)) pe_str (nomark _)) (pss_one (ps_set (i := 2) sc__law_free.nd rfl (Or.inl rfl) (pe_op op_cat (pv 2) (pe_callQ ih (hr.mono (by omega)) (cxQ_quiet qa) T.g__law_free pass0 (pa_cons (pe_ix ix_tup (pv 0) pe_int (fun _ _ => rfl)) pa_nil))))) pss_nil)
      (pss_one (ps_ret (pv 2))))))))), ?_⟩
    obtain ⟨xs, hp⟩ := hf.tup
    refine ⟨_, rfl, fa, _, _, _, rfl, rfl, SqT.of hp, iV0, rfl, ?_⟩
    have hd0 : ∀ z : Str, z ≠ f.hd → True := fun _ _ => trivial
    cases f with
    | lin ex ps c =>
      obtain ⟨t, pt, hp0, ht, as, h1, h2, h3⟩ := hf
      have ps3 : ps.length ≤ 3 := fi.2.1
      have comp : ∀ (R : VK), (∀ H' r, L2.Same H H' → H' r = some (.lst ((ps.map (·.1)).map V.str)) → R (.ref r) H') → ∀ D, H D = none → R (.ref D) (upd H D (.lst ((ps.map (·.1)).map V.str))) := fun R hR D nD => hR _ D (same_upd nD) upd_same
      cases ex with
      | true =>
        refine ⟨true, dT rfl, _, rfl, fa, _, _, _, rfl, rfl, SqT.of hp0, atI_nat (j := 1) rfl, t, _, _, _, rfl, rfl, SqT.of ht, iV0, pt, rfl, ⟨_, SqT.of h1⟩, fun D nD => ?_⟩
        refine lc_pureT (ys := (ps.map (·.1)).map V.str) nD (SqT.of h1) (by simp [h2]) (by rw [List.length_map]; omega) (fun j x y acc2 k2 hx hy hk2 => ?_) gName_mono (q _ D (same_upd nD) upd_same)
        obtain ⟨b, e1, rfl⟩ := map_at hx
        obtain ⟨z, e2, rfl⟩ := map_at hy
        obtain ⟨pr, e3, e4⟩ := h3 j b e1
        obtain ⟨pr', e5, rfl⟩ := map_at e2
        rw [e3] at e5
        cases e5
        exact ⟨rfl, _, rfl, b, _, _, _, rfl, rfl, SqT.of (same_upd nD _ _ e4), iV0, hk2⟩
      | false =>
        refine ⟨false, dF (strNe (neS "le" "eq")), _, rfl, fa, _, _, _, rfl, rfl, SqT.of hp0, iV0, rfl, true, dT rfl, _, rfl, fa, _, _, _, rfl, rfl, SqT.of hp0, atI_nat (j := 1) rfl, t, _, _, _, rfl, rfl, SqT.of ht, iV0, pt, rfl, ⟨_, SqT.of h1⟩, fun D nD => ?_⟩
        refine lc_pureT (ys := (ps.map (·.1)).map V.str) nD (SqT.of h1) (by simp [h2]) (by rw [List.length_map]; omega) (fun j x y acc2 k2 hx hy hk2 => ?_) gName_mono (q _ D (same_upd nD) upd_same)
        obtain ⟨b, e1, rfl⟩ := map_at hx
        obtain ⟨z, e2, rfl⟩ := map_at hy
        obtain ⟨pr, e3, e4⟩ := h3 j b e1
        obtain ⟨pr', e5, rfl⟩ := map_at e2
        rw [e3] at e5
        cases e5
        exact ⟨rfl, _, rfl, b, _, _, _, rfl, rfl, SqT.of (same_upd nD _ _ e4), iV0, hk2⟩
    | pow x =>
      have hp0 : H fa = some (.tup [.str "pow", .str x]) := hf
      refine ⟨false, dF (strNe (neS "pow" "eq")), _, rfl, fa, _, _, _, rfl, rfl, SqT.of hp0, iV0, rfl, false, dF (strNe (neS "pow" "le")), _, rfl, fa, _, _, _, rfl, rfl, SqT.of hp0, iV0, rfl, true, dT rfl, ?_⟩
      exact ⟨_, rfl, fa, _, _, _, rfl, rfl, SqT.of hp0, atI_nat (j := 1) rfl, by show 1 ≤ sizeLine; decide, fun r nr => q _ r (same_upd nr) upd_same⟩
    | word wd x o =>
      have hp0 : H fa = some (.tup [.str "word", .str wd, .str x, iV o]) := hf
      refine ⟨false, dF (strNe (neS "word" "eq")), _, rfl, fa, _, _, _, rfl, rfl, SqT.of hp0, iV0, rfl, false, dF (strNe (neS "word" "le")), _, rfl, fa, _, _, _, rfl, rfl, SqT.of hp0, iV0, rfl, false, dF (strNe (neS "word" "pow")), _, rfl, fa, _, _, _, rfl, rfl, SqT.of hp0, iV0, rfl, true, dT rfl, ?_⟩
      exact ⟨_, rfl, fa, _, _, _, rfl, rfl, SqT.of hp0, atI_nat (j := 2) rfl, by show 1 ≤ sizeLine; decide, fun r nr => q _ r (same_upd nr) upd_same⟩
    | call nm as =>
      obtain ⟨t0, hp0, ht0⟩ := hf
      refine ⟨false, dF (strNe (neS "call" "eq")), _, rfl, fa, _, _, _, rfl, rfl, SqT.of hp0, iV0, rfl, false, dF (strNe (neS "call" "le")), _, rfl, fa, _, _, _, rfl, rfl, SqT.of hp0, iV0, rfl, false, dF (strNe (neS "call" "pow")), _, rfl, fa, _, _, _, rfl, rfl, SqT.of hp0, iV0, rfl, false, dF (strNe (neS "call" "word")), _, rfl, fa, _, _, _, rfl, rfl, SqT.of hp0, iV0, rfl, true, dT rfl, ?_⟩
      exact ⟨_, rfl, fa, _, _, _, rfl, rfl, SqT.of hp0, atI_nat (j := 2) rfl, t0, _, rfl, .inr (SqT.of ht0), fun r nr => q _ r (same_upd nr) upd_same⟩
    | neg g =>
      obtain ⟨b, hp0, hb⟩ := hf
      have dg : g.depth + 1 ≤ d + 1 := hd
      have dg4 : g.depth + 1 ≤ 4 := h4
      refine ⟨false, dF (strNe (neS "not" "eq")), _, rfl, fa, _, _, _, rfl, rfl, SqT.of hp0, iV0, rfl, false, dF (strNe (neS "not" "le")), _, rfl, fa, _, _, _, rfl, rfl, SqT.of hp0, iV0, rfl, false, dF (strNe (neS "not" "pow")), _, rfl, fa, _, _, _, rfl, rfl, SqT.of hp0, iV0, rfl, false, dF (strNe (neS "not" "word")), _, rfl, fa, _, _, _, rfl, rfl, SqT.of hp0, iV0, rfl, false, dF (strNe (neS "not" "call")), ?_⟩
      refine ⟨_, rfl, fa, _, _, _, rfl, rfl, SqT.of hp0, atI_nat (j := 1) rfl, _, rfl, b, L, g, rfl, hb, fi, by omega, by omega, fun H1 r s1 h1 => ?_⟩
      exact ⟨_, rfl, fa, _, _, _, rfl, rfl, SqT.of (s1 _ _ hp0), iV0, rfl, false, nF rfl, _, rfl, q H1 r s1 h1⟩
    | join op g h =>
      obtain ⟨b1, b2, hp0, hop, h1, h2⟩ := hf
      have dg : max g.depth h.depth + 1 ≤ d + 1 := hd
      have dg4 : max g.depth h.depth + 1 ≤ 4 := h4
      refine ⟨false, dF (strNe (opNe hop (by decide +kernel))), _, rfl, fa, _, _, _, rfl, rfl, SqT.of hp0, iV0, rfl, false, dF (strNe (opNe hop (by decide +kernel))), _, rfl, fa, _, _, _, rfl, rfl, SqT.of hp0, iV0, rfl, false, dF (strNe (opNe hop (by decide +kernel))), _, rfl, fa, _, _, _, rfl, rfl, SqT.of hp0, iV0, rfl, false, dF (strNe (opNe hop (by decide +kernel))), _, rfl, fa, _, _, _, rfl, rfl, SqT.of hp0, iV0, rfl, false, dF (strNe (opNe hop (by decide +kernel))), ?_⟩
      refine ⟨_, rfl, fa, _, _, _, rfl, rfl, SqT.of hp0, atI_nat (j := 1) rfl, _, rfl, b1, L, g, rfl, h1, fi.2.1, by omega, by omega, fun H1 r1 s1 k1 => ?_⟩
      refine ⟨_, rfl, fa, _, _, _, rfl, rfl, SqT.of (s1 _ _ hp0), iV0, rfl, true, nT (strNe (opNe hop (by decide +kernel))), ?_⟩
      refine ⟨_, rfl, _, rfl, fa, _, _, _, rfl, rfl, SqT.of (s1 _ _ hp0), atI_nat (j := 2) rfl, _, rfl, b2, L, h, rfl, h2.keep fun _ _ z => s1 _ _ z, fi.2.2, by omega, by omega, fun H2 r2 s2 k2 => ?_⟩
      have l1 := Fine.len4 fi.2.1 (by omega)
      have l2 := Fine.len4 fi.2.2 (by omega)
      refine ⟨r1, r2, _, _, rfl, rfl, s2 _ _ k1, k2, by rw [List.length_map, List.length_map, sizeLine_eq]; omega, fun r nr => ⟨_, rfl, q _ r ((s1.trans s2).trans (same_upd nr)) ?_⟩⟩
      rw [upd_same, ← List.map_append]
      rfl
def p__law_once : Q1 := fun _ a H Q _ => ∃ (la : Addr) (L : List Str), a = .ref la ∧ H la = some (.lst (L.map V.str)) ∧ L.length ≤ 60 ∧ ∀ H' r ys, L2.Same H H' → H' r = some (.lst (ys.map V.str)) → sortedS ys = true → ys.Nodup → (∀ x, x ∈ ys ↔ x ∈ L) → Q (.ref r) H'
theorem ok__law_once (T : Txt P w K mg) : FnQ P w K mg base 1 (He.ga K "_law_once") 1 (Sp1 p__law_once) := by
  refine fnQ1 T.F__law_once sc__law_once (fun _ _ _ _ _ _ us hl => match us, hl with | [_], _ => rfl) fun cdv A outer s H a Q E l qa hr h => ?_
  obtain ⟨la, L, rfl, hl, l60, q⟩ := h
  refine ⟨_, (pss_cons (ps_set (i := 1) sc__law_once.nd rfl (Or.inl rfl) (pe_lst pa_nil))
      (pss_cons (ps_forQ PassesOwn.leaving (cxQ_quiet qa) (piL (pe_callB cr_sortedS rfl T.free_sorted (by decide +kernel) (pa_cons (pv 0) pa_nil))) (pg_name (i := 2) sc__law_once.nd rfl (Or.inl rfl)) (pss_one (ps_if (pt_cmpR op_notIn_seq (pv 2) (pv 1) (by with_unfolding_all rfl)) (pss_one (ps_expr (pe_bm PySem.F.plainAttrs_list PySem.F.slot_list_append PySem.F.type_list_append mt_append (pv 1) (pa_cons (pv 2) pa_nil)))) pss_nil)))
      (pss_one (ps_ret (pv 1))))), ?_⟩
  refine ⟨by show 0 ≤ sizeLine; decide, fun fa nfa => ?_⟩
  have s1 := same_upd (o := .lst []) nfa
  have hf1 : upd H fa (.lst []) fa = some (.lst []) := upd_same
  generalize upd H fa (.lst []) = H1 at s1 hf1 ⊢
  refine ⟨_, rfl, la, L, rfl, SqL.of (s1 _ _ hl), by omega, fun ys D perm srt nD => ⟨D, rfl, ⟨_, SqL.of upd_same⟩, ?_⟩⟩
  have s2 := same_upd (o := .lst (ys.map V.str)) nD
  have hD2 : upd H1 D (.lst (ys.map V.str)) D = some (.lst (ys.map V.str)) := upd_same
  have hf2 := s2 _ _ hf1
  have nDf : D ≠ fa := (ne_of_none hf1 nD).symm
  change (_ : Hp → Prop) (upd H1 D (.lst (ys.map V.str)))
  have sA := s1.trans s2
  generalize upd H1 D (.lst (ys.map V.str)) = H2 at s2 hD2 hf2 sA ⊢
  have yl : ys.length ≤ 60 := by rw [perm.length_eq]; exact l60
  refine for_list (xs := ys.map V.str) (fun i σ H3 => L2.Same H H3 ∧ H3 D = some (.lst (ys.map V.str)) ∧ ∃ zs o2, H3 fa = some (.lst (zs.map V.str)) ∧ sortedS zs = true ∧ zs.Nodup ∧ zs.length ≤ i ∧ (∀ x, x ∈ zs ↔ x ∈ ys.take i) ∧ σ = [some (.ref la), some (.ref fa), o2]) ⟨sA, hD2, [], none, hf2, rfl, List.nodup_nil, Nat.le_refl _, (fun x => by simp), rfl⟩ (fun i σ H3 _ h => SqL.of h.2.1) ?_ ?_
  · rintro i x σ H3 hx ⟨s3, hD3, zs, o2, hz, zsrt, znd, zl, zm, rfl⟩
    obtain ⟨y, e1, rfl⟩ := map_at hx
    have hi : i < ys.length := (List.getElem?_eq_some_iff.mp e1).1
    refine ⟨_, rfl, _, rfl, fa, _, rfl, .inl (SqL.of hz), rfl, flat_strs _, decide (¬ y ∈ zs), ?_, ?_⟩
    · rw [if_pos rfl, inV_strs]
      simp
    · by_cases hy : y ∈ zs
      · rw [decide_eq_false (fun z => z hy)]
        refine ⟨s3, hD3, zs, _, hz, zsrt, znd, by omega, fun x => ?_, rfl⟩
        rw [zm x, take_snoc e1, List.mem_append]
        exact ⟨.inl, fun h => h.elim id fun h => by rw [List.mem_singleton.mp h]; exact (zm y).mp hy⟩
      · rw [decide_eq_true hy]
        refine ⟨_, rfl, .inl ⟨rfl, _, SqL.of hz⟩, _, rfl, fa, _, _, rfl, rfl, hz, by rw [List.length_map, sizeLine_eq]; omega, ?_⟩
        refine ⟨same_upd2 s3 nfa, by rw [upd_ne nDf]; exact hD3, zs ++ [y], _, by rw [upd_same, List.map_append]; rfl, sorted_snoc zsrt fun a ha => ?_, ?_, by rw [List.length_append]; show zs.length + 1 ≤ i + 1; omega, fun x => ?_, rfl⟩
        · obtain ⟨j, hj, ej⟩ := List.mem_take_iff_getElem.mp ((zm a).mp ha)
          have hj2 : j < ys.length := by omega
          exact sorted_pair srt j i a y (by omega) (by rw [List.getElem?_eq_getElem hj2, ej]) e1
        · exact List.nodup_append.mpr ⟨znd, by simp, fun a ha b hb e => hy (by rw [← List.mem_singleton.mp hb, ← e]; exact ha)⟩
        · rw [take_snoc e1, List.mem_append, List.mem_append, zm x]
  · rintro σ H3 ⟨s3, hD3, zs, o2, hz, zsrt, znd, zl, zm, rfl⟩
    refine ⟨_, rfl, q H3 fa zs s3 hz zsrt znd fun x => ?_⟩
    rw [zm x, List.length_map, List.take_length]
    exact perm.mem_iff
end
end K36
/-! K36W26: the machine run by hand -/
namespace K36
open PySem PySem.Spec PyProof.Rows L2 HotX
theorem ixNat {n j : Nat} (hj : j < n) : ixN n (j : Int) = some j := by
  unfold ixN
  rw [if_pos (by omega), if_pos (by omega), Int.toNat_natCast]
theorem half_set {ns : List Nat} {j : Nat} (hj : j < ns.length) : ((ns.take j).map (· / 2) ++ ns.drop j).set j (ns[j] / 2) = (ns.take (j + 1)).map (· / 2) ++ ns.drop (j + 1) := by
  have hl : ((ns.take j).map (· / 2)).length = j := by rw [List.length_map, List.length_take]; omega
  rw [List.set_append_right _ _ (by omega), hl, Nat.sub_self, List.drop_eq_getElem_cons hj, List.set_cons_zero, take_snoc (List.getElem?_eq_getElem hj), List.map_append, List.append_assoc]
  rfl
theorem half_at {ns : List Nat} {j : Nat} (hj : j < ns.length) : ((ns.take j).map (· / 2) ++ ns.drop j)[j]? = some ns[j] := by
  have hl : ((ns.take j).map (· / 2)).length = j := by rw [List.length_map, List.length_take]; omega
  rw [List.getElem?_append_right (by omega), hl, Nat.sub_self, List.getElem?_drop, Nat.add_zero, List.getElem?_eq_getElem hj]
section
variable {P : Program} {w : World} {K : PySem.W.Frag} {mg : Str → Option Value} {base : Heap}
def p__law_marked : Q2 := fun _ a b H Q _ => ∃ (p la : Addr) (m : M) (ns : List Nat), a = .ref p ∧ b = .ref la ∧ MachAt K H p m ∧ m.Ok ∧ H la = some (.lst (natsV ns)) ∧ ns.length = m.w ∧ ∀ H', L2.Same H H' → Q (.bl (m.accs (m.run 0 (bitsW 50 ns)))) H'
theorem ok__law_marked (T : Txt P w K mg) : FnQ P w K mg base 1 (He.ga K "_law_marked") 2 (Sp2 (p__law_marked (K := K))) := by
  refine fnQ2 T.F__law_marked sc__law_marked (fun _ _ _ _ _ _ us hl => match us, hl with | [_, _], _ => rfl) fun cdv A outer s H a b Q E l qa hr h => ?_
  obtain ⟨p, la, m, ns, rfl, rfl, hm, ok, hl, nw, q⟩ := h
  have w6 := ok.w6
  refine ⟨_, (pss_cons (ps_set (i := 2) sc__law_marked.nd rfl (Or.inl rfl) pe_int)
      (pss_cons (ps_set (i := 3) sc__law_marked.nd rfl (Or.inl rfl) (pe_callTy call_list_of rfl T.free_list (by decide +kernel) (pa_cons (pv 1) pa_nil)))
      (pss_cons (ps_forQ PassesOwn.leaving (cxQ_quiet qa) (piR1 rfl T.free_range (pa_cons pe_int pa_nil)) (pg_name (i := 4) sc__law_marked.nd rfl (Or.inl rfl)) (pss_cons (ps_set (i := 5) sc__law_marked.nd rfl (Or.inl rfl) pe_int)
        (pss_cons (ps_forQ PassesOwn.leaving (cxQ_quiet qa) (piR1 rfl T.free_range (pa_cons (pe_callB call_len_seq rfl T.free_len PySem.boot_len (pa_cons (pv 3) pa_nil)) pa_nil)) (pg_name (i := 6) sc__law_marked.nd rfl (Or.inl rfl)) (pss_cons (ps_set (i := 5) sc__law_marked.nd rfl (Or.inl rfl) (pe_op op_add (pv 5) (pe_op op_mul (pe_op op_mod (pe_callTy call_int1 rfl T.free_int (by decide +kernel) (pa_cons (pe_ix ix_list (pv 3) (pv 6) (fun _ _ => rfl)) pa_nil)) pe_int) (pe_op op_shl pe_int (pv 6)))))
          (pss_one (ps_asg (pe_op op_fdiv (pe_ix ix_list (pv 3) (pv 6) (fun _ _ => rfl)) pe_int) (pg_sub (pv 3) (pv 6) set_list)))))
        (pss_one (ps_set (i := 2) sc__law_marked.nd rfl (Or.inl rfl) (pe_ix ix_list (pe_ix ix_list (pe_fld (pv 0) rfl) (pv 2) (fun _ _ => rfl)) (pv 5) (fun _ _ => rfl)))))))
      (pss_one (ps_ret (pe_ix ix_list (pe_fld (pv 0) rfl) (pv 2) (fun _ _ => rfl))))))), ?_⟩
  refine ⟨_, rfl, la, _, rfl, .inl (SqL.of hl), fun D nD => ?_⟩
  have s1 := same_upd (o := .lst (natsV ns)) nD
  have hD1 : upd H D (.lst (natsV ns)) D = some (.lst (natsV ns)) := upd_same
  generalize upd H D (.lst (natsV ns)) = H1 at s1 hD1 ⊢
  refine ⟨50, rfl, by decide, by decide, ?_⟩
  rw [show ((50 : Int)).toNat = 50 from rfl]
  refine for_range (fun i σ H2 => L2.Same H H2 ∧ ∃ s rest o4 o5 o6, σ = [some (.ref p), some (.ref la), some (iV s), some (.ref D), o4, o5, o6] ∧ H2 D = some (.lst (natsV rest)) ∧ rest.length = ns.length ∧ s < m.tab.length ∧ m.run s (bitsW (50 - i) rest) = m.run 0 (bitsW 50 ns)) ⟨s1, 0, ns, none, none, none, rfl, hD1, rfl, ok.pos, rfl⟩ ?_ ?_
  · rintro i σ H2 hi ⟨s2, st, rest, o4, o5, o6, rfl, hD2, rl, hs, run⟩
    refine ⟨_, rfl, D, _, rfl, .inl (SqL.of hD2), _, rfl, by omega, by rw [List.length_map]; omega, ?_⟩
    rw [List.length_map, toN]
    refine for_range (fun j σ H3 => L2.Same H H3 ∧ ∃ o4 o6, σ = [some (.ref p), some (.ref la), some (iV st), some (.ref D), o4, some (iV (lof ((rest.take j).map (· % 2)))), o6] ∧ H3 D = some (.lst (natsV ((rest.take j).map (· / 2) ++ rest.drop j)))) ⟨s2, _, o6, rfl, hD2⟩ ?_ ?_
    · rintro j σ H3 hj ⟨s3, o4', o6', rfl, hD3⟩
      have at_ : (natsV ((rest.take j).map (· / 2) ++ rest.drop j))[j]? = some (iV rest[j]) := by
        show (List.map iV _)[j]? = _
        rw [List.getElem?_map, half_at hj]
        rfl
      rw [Int.zero_add]
      refine ⟨_, rfl, _, rfl, _, rfl, D, _, _, _, rfl, rfl, SqL.of hD3, atI_nat at_, .inl ⟨_, rfl, _, _, rfl, rfl, (show (0 : Int) < 2 by decide), ?_⟩⟩
      refine ⟨_, rfl, _, _, rfl, rfl, ⟨by omega, by omega, by omega⟩, _, _, rfl, rfl, .inl ⟨by omega, by omega⟩, _, _, rfl, rfl, ?_⟩
      refine ⟨_, rfl, _, rfl, D, _, _, _, rfl, rfl, SqL.of hD3, atI_nat at_, _, _, rfl, rfl, ⟨by decide, by decide⟩, ?_⟩
      have xl : (natsV ((rest.take j).map (· / 2) ++ rest.drop j)).length = rest.length := by
        rw [List.length_map, List.length_append, List.length_map, List.length_take, List.length_drop]
        omega
      refine ⟨_, rfl, _, rfl, D, _, _, j, rfl, rfl, hD3, (by rw [xl]; exact ixNat hj), same_upd2 s3 nD, o4', some (iV j), ?_, ?_⟩
      · have e : (lof ((rest.take j).map (· % 2)) : Int) + ((rest[j] : Int) % 2) * (1 * 2 ^ ((j : Int)).toNat) = ((lof ((rest.take (j + 1)).map (· % 2)) : Nat) : Int) := by
          rw [take_snoc (List.getElem?_eq_getElem hj), List.map_append, List.map_singleton, lof_snoc, List.length_map, List.length_take, Nat.min_eq_left (Nat.le_of_lt hj)]
          rw [show (1 : Int) * 2 ^ ((j : Int)).toNat = ((1 * 2 ^ j : Nat) : Int) from shlN 1 j, show ((rest[j] : Int) % 2) = ((rest[j] % 2 : Nat) : Int) from modN _ 2]
          simp
        show [some (V.ref p), some (V.ref la), some (iV st), some (V.ref D), o4', some (V.int ((lof ((rest.take j).map (· % 2)) : Int) + ((rest[j] : Int) % 2) * (1 * 2 ^ ((j : Int)).toNat))), some (iV j)] = _
        rw [e]
      · rw [upd_same]
        show some (HO.lst (((_ : List Nat).map iV).set j (V.int ((rest[j] : Int) / 2)))) = _
        rw [show (rest[j] : Int) / 2 = ((rest[j] / 2 : Nat) : Int) from divN _ 2, ← half_set hj, ← List.map_set]
    · rintro σ H3 ⟨s3, o4', o6', rfl, hD3⟩
      rw [List.take_length] at hD3 ⊢
      rw [List.drop_length, List.append_nil] at hD3
      obtain ⟨dx, tl, ac, h1, ht, h3⟩ := hm.same s3
      have lt : lof (rest.map (· % 2)) < 2 ^ m.w := by
        have := lof_lt (rest.map (· % 2)) fun d hd => by
          obtain ⟨t, _, rfl⟩ := List.mem_map.mp hd
          exact Nat.mod_lt _ (by decide)
        rwa [List.length_map, rl, nw] at this
      obtain ⟨r, hr1, hr2⟩ := ok.st_at hs lt
      obtain ⟨ls', ra, g1, g2, g3⟩ := ht.row hr1
      have r1 : (natsV r)[lof (rest.map (· % 2))]? = some (iV (m.st st (lof (rest.map (· % 2))))) := by rw [List.getElem?_map, hr2]; rfl
      refine ⟨_, rfl, p, _, dx, _, _, rfl, h1, T.c_Machine, T.n_Machine_table, mf_table _ _ _, _, rfl, tl, _, _, _, rfl, rfl, SqL.of g1, atI_nat g2, _, rfl, ra, _, _, _, rfl, rfl, SqL.of g3, atI_nat r1, ?_⟩
      refine ⟨s3, _, rest.map (· / 2), _, _, _, rfl, hD3, by rw [List.length_map, rl], ok.st_lt, ?_⟩
      rw [← run, show 50 - i = (50 - (i + 1)) + 1 by omega]
      rfl
  · rintro σ H2 ⟨s2, st, rest, o4, o5, o6, rfl, hD2, rl, hs, run⟩
    obtain ⟨dx, tl, ac, h1, ht, h3⟩ := hm.same s2
    have run : st = m.run 0 (bitsW 50 ns) := run
    have a1 : (m.acc.map V.bl)[st]? = some (.bl (m.accs st)) := by rw [List.getElem?_map, ok.accs_at hs]; rfl
    refine ⟨_, rfl, p, _, dx, _, _, rfl, h1, T.c_Machine, T.n_Machine_accepting, mf_acc _ _ _, _, rfl, ac, _, _, _, rfl, rfl, SqL.of h3, atI_nat a1, ?_⟩
    rw [run]
    exact q H2 s2
end
end K36
/-! K36W27: is a refusal due -/
namespace K36
open PySem PySem.Spec PyProof.Rows L2 HotX
/-- [e for x in t], e may make new things: F what is known of an element -/
theorem lc_objT {K : PySem.W.Frag} {a : Addr} {xs : List V} {g : TG} {te : TE} {vs : List Nat} {σ : L2.St} {H1 : Hp} {D : Addr} {Qd : Hp → Prop} (F : Nat → V → Prop) (hD : H1 D = none) (hx : SqT K H1 a xs) (hz : xs.length ≤ 1000000)
    (hs : ∀ (i : Nat) (x : V) (H : Hp) (acc : List V) (k : VK), xs[i]? = some x → L2.Same H1 H → H D = some (.lst acc) → (∀ y H4, L2.Same H H4 → F i y → k y H4) → g x (wipe σ vs) H fun σ2 H2 => wipe σ2 vs = wipe σ vs ∧ te σ2 H2 k)
    (mono : ∀ x σ H (Q Q' : St → Hp → Prop), (∀ σ H, Q σ H → Q' σ H) → g x σ H Q → g x σ H Q')
    (hd : ∀ ys H, ys.length = xs.length → L2.Same H1 H → H D = some (.lst ys) → (∀ i y, ys[i]? = some y → F i y) → Qd H) :
    ∃ W : Nat → Nat → Hp → Prop, (∃ m, W 0 m (upd H1 D (.lst []))) ∧ ∀ i m H, W i m H →
      ((Itt K a).stop i H ∧ Qd H) ∨ ((Itt K a).go i H ∧ ∃ Nx : Hp → Prop, (∀ H', Nx H' → ∃ m', m' < m ∧ W (i + 1) m' H') ∧ ∀ x H', (Itt K a).yld i H x H' → g x (wipe σ vs) H' fun σ2 H2 => wipe σ2 vs = wipe σ vs ∧ tYes σ2 H2 fun b H3 =>
        if b = true then te σ2 H3 fun y H4 => ∃ acc, H4 D = some (.lst acc) ∧ acc.length < sizeLine ∧ Nx (upd H4 D (.lst (acc ++ [y]))) else Nx H3) := by
  refine lc_tup (xs := xs) (fun i H => ∃ ys, ys.length = i ∧ L2.Same H1 H ∧ H D = some (.lst ys) ∧ ∀ j y, ys[j]? = some y → F j y) ⟨[], rfl, same_upd hD, upd_same, fun j y e => by simp at e⟩ (fun i H _ h => ?_) (fun i x H hi h => ?_) fun H h => ?_
  · obtain ⟨ys, _, s, _⟩ := h
    exact sqT_same s hx
  · obtain ⟨ys, hl, s, e, al⟩ := h
    have hlt : i < xs.length := (List.getElem?_eq_some_iff.mp hi).1
    refine mono _ _ _ _ _ (fun σ2 H2 z => ⟨z.1, z.2⟩) (hs i x H ys (fun y H4 => ∃ acc, H4 D = some (.lst acc) ∧ acc.length < sizeLine ∧ ∃ zs : List V, zs.length = i + 1 ∧ L2.Same H1 (upd H4 D (.lst (acc ++ [y]))) ∧ upd H4 D (.lst (acc ++ [y])) D = some (.lst zs) ∧ ∀ (j : Nat) y', zs[j]? = some y' → F j y') hi s e fun y H4 s4 f4 => ?_)
    refine ⟨ys, s4 _ _ e, by rw [hl, sizeLine_eq]; omega, ys ++ [y], by simp [hl], same_upd2 (s.trans s4) hD, upd_same, fun j y' q => ?_⟩
    rcases Nat.lt_or_ge j ys.length with hj | hj
    · rw [List.getElem?_append_left hj] at q
      exact al j y' q
    · rw [List.getElem?_append_right hj] at q
      cases hk : j - ys.length with
      | zero =>
        rw [hk] at q
        cases q
        have : j = i := by omega
        rw [this]
        exact f4
      | succ n => rw [hk] at q; cases q
  · obtain ⟨ys, hl, s, e, al⟩ := h
    exact hd ys H hl s e al
abbrev strs5 : List Str := ["eq", "le", "pow", "word", "call"]
theorem inL {z : Str} {l : List Str} {b : Bool} (h : decide (z ∈ l) = b) : V.bl (if false = true then !inV (.str z) (l.map V.str) else inV (.str z) (l.map V.str)) = .bl b := by
  rw [if_neg Bool.false_ne_true, inV_strs, h]
theorem Fm.kind2 (f : Fm) : (f.hd ∈ strs5 ∧ ∀ e, ¬ Big e f) ∨ (∃ g, f = .neg g) ∨ ∃ op g h, f = .join op g h := by
  cases f with
  | lin ex ps c =>
    cases ex
    · exact .inl ⟨(by decide +kernel : ("le" : Str) ∈ strs5), fun _ h => h⟩
    · exact .inl ⟨(by decide +kernel : ("eq" : Str) ∈ strs5), fun _ h => h⟩
  | pow x => exact .inl ⟨(by decide +kernel : ("pow" : Str) ∈ strs5), fun _ h => h⟩
  | word wd x o => exact .inl ⟨(by decide +kernel : ("word" : Str) ∈ strs5), fun _ h => h⟩
  | call nm as => exact .inl ⟨(by decide +kernel : ("call" : Str) ∈ strs5), fun _ h => h⟩
  | neg g => exact .inr (.inl ⟨g, rfl⟩)
  | join op g h => exact .inr (.inr ⟨op, g, h, rfl⟩)
section
variable {P : Program} {w : World} {K : PySem.W.Frag} {mg : Str → Option Value} {base : Heap}
def p__law_too_large (K : PySem.W.Frag) (d : Nat) : Q2 := fun _ x a H Q _ => ∃ (b dd wd : Addr) (kd kw : List (Key × V)) (e : Env) (p : Addr) (f : Fm) (L : List Str), x = .ref b ∧ a = .ref p ∧ BkAt K H b dd wd kd kw e ∧ FmAt H f p ∧ f.wf e ∧ f.sm ∧ f.lok ∧ f.cok e ∧ DefsSmall e ∧ f.depth ≤ d ∧ f.depth ≤ 4 ∧ f.free.length ≤ 60 ∧ L.length ≤ 6 ∧ (∀ x ∈ f.free, x ∈ L) ∧
  ∀ H' r, L2.Same H H' → (Big e f → r = true) → Q (.bl r) H'
theorem ok__law_too_large (T : Txt P w K mg) : ∀ d, FnQ P w K mg base (d + 41) (He.ga K "_law_too_large") 2 (Sp2 (p__law_too_large K d))
  | 0 => by
    refine fnQ2 T.F__law_too_large sc__law_too_large (fun _ _ _ _ _ _ us hl => match us, hl with | [_, _], _ => rfl) fun cdv A outer s H x a Q E l qa hr h => ?_
    obtain ⟨b, dd, wd, kd, kw, e, p, f, L, rfl, rfl, bk, hf, wf, sm, lok, cok, ds, hd, _⟩ := h
    exact absurd f.depth_pos (by omega)
  | d + 1 => by
    have ih := ok__law_too_large T d
    have ic := ok_compile_formula (base := base) T 4
    refine fnQ2 T.F__law_too_large sc__law_too_large (fun _ _ _ _ _ _ us hl => match us, hl with | [_, _], _ => rfl) fun cdv A outer s H x a Q E l qa hr h => ?_
    obtain ⟨b, dd, wd, kd, kw, e, p, f, L, rfl, rfl, bk, hf, wf, sm, lok, cok, ds, hd, h4, h60, l6, hL, q⟩ := h
    refine ⟨_, (pss_cons (ps_set (i := 2) sc__law_too_large.nd rfl (Or.inl rfl) (pe_ix ix_tup (pv 1) pe_int (fun _ _ => rfl)))
      (pss_cons (ps_if (pt_cmpR op_in_seq (pv 2) (pe_lst (pa_cons pe_str (pa_cons pe_str (pa_cons pe_str (pa_cons pe_str (pa_cons pe_str pa_nil)))))) (by with_unfolding_all rfl)) (pss_one (ps_ret pe_bl)) pss_nil)
      (pss_cons (ps_if (pt_cmpR op_eq (pv 2) pe_str (nomark _)) (pss_one (ps_ret (pe_callQ ih (hr.mono (by omega)) (cxQ_quiet qa) T.g__law_too_large pass0 (pa_cons (pv 0) (pa_cons (pe_ix ix_tup (pv 1) pe_int (fun _ _ => rfl)) pa_nil))))) pss_nil)
      (pss_cons (ps_if (pt_cmpR op_in_seq (pv 2) (pe_lst (pa_cons pe_str (pa_cons pe_str pa_nil))) (by with_unfolding_all rfl)) pss_never pss_nil)
      (pss_cons (ps_if (PW.pt (pw_or (pt_val (pe_callQ ih (hr.mono (by omega)) (cxQ_quiet qa) T.g__law_too_large pass0 (pa_cons (pv 0) (pa_cons (pe_ix ix_tup (pv 1) pe_int (fun _ _ => rfl)) pa_nil)))) (pw_or1 (pt_val (pe_callQ ih (hr.mono (by omega)) (cxQ_quiet qa) T.g__law_too_large pass0 (pa_cons (pv 0) (pa_cons (pe_ix ix_tup (pv 1) pe_int (fun _ _ => rfl)) pa_nil))))))) (pss_one (ps_ret pe_bl)) pss_nil)
      (pss_cons (ps_setLcQ (i := 5) (own := [("_law_part", 6)]) (g := gName 6) (tt := tYes) (cxQ_quiet qa) sc__law_too_large.nd rfl rfl (sw_true rfl rfl rfl (by decide +kernel)) (piT (pe_slice sl_tupA (pv 1) (po_some pe_int) po_none)) (blkOk_by (N := ["_law_book_here", "_law_formula", "_law_head", "_law_names", "_law_machine", "_law_sizes", "_law_part"]) (sc := defScope s__law_too_large) (by decide +kernel)) (fun _ _ _ _ hq => pg_name (i := 6) sc__law_too_large.nd rfl (Or.inl rfl)) (fun _ _ _ _ hq => pts_nil) (fun _ _ _ _ hq hcm => (pe_callB (len_seqK (K := K)) rfl T.free_len PySem.boot_len (pa_cons (pe_fldK (K := K) (pe_ix (ix_tupK (K := K)) (pe_callK (c := l.isEmpty) ic (hr.mono (by omega)) hq T.g_compile_formula pass0 (pa_cons (pv 0) (pa_cons (pv 6) pa_nil)) hcm) pe_int (fun _ _ => rfl))) pa_nil))))
      (pss_one (ps_ret (pe_cmpR op_gt (pe_op op_mul (pe_ix ix_list (pv 5) pe_int (fun _ _ => rfl)) (pe_ix ix_list (pv 5) pe_int (fun _ _ => rfl))) pe_int (nomark _)))))))))), ?_⟩
    obtain ⟨xs, hp⟩ := hf.tup
    refine ⟨_, rfl, p, _, _, _, rfl, rfl, SqT.of hp, iV0, ?_⟩
    refine ⟨_, rfl, by show 5 ≤ sizeLine; decide, fun t5 n5 => ⟨t5, _, rfl, .inl (SqL.of upd_same), rfl, rfl, decide (f.hd ∈ strs5), inL (l := strs5) rfl, ?_⟩⟩
    have s1 := same_upd (o := .lst (strs5.map V.str)) n5
    change (_ : Hp → Prop) (upd H t5 (.lst (strs5.map V.str)))
    generalize upd H t5 (.lst (strs5.map V.str)) = H1 at s1 ⊢
    have bk1 := bk.same s1
    have hf1 := hf.keep fun _ _ z => s1 _ _ z
    rcases f.kind2 with ⟨k1, k2⟩ | ⟨g, rfl⟩ | ⟨op, g, h, rfl⟩
    · rw [decide_eq_true k1]
      exact q H1 false s1 fun bg => absurd bg (k2 e)
    · rw [decide_eq_false (show ¬ (Fm.neg g).hd ∈ strs5 by show ¬ ("not" : Str) ∈ strs5; decide +kernel)]
      obtain ⟨bg, hp0, hg⟩ := hf1
      have dg : g.depth + 1 ≤ d + 1 := hd
      have dg4 : g.depth + 1 ≤ 4 := h4
      refine ⟨_, rfl, rfl, true, dT rfl, _, rfl, _, rfl, p, _, _, _, rfl, rfl, SqT.of hp0, atI_nat (j := 1) rfl, _, _, rfl, b, dd, wd, kd, kw, e, bg, g, L, rfl, rfl, bk1, hg, wf, sm, lok, cok, ds, by omega, by omega, h60, l6, hL, fun H2 r s2 hr2 => ?_⟩
      exact q H2 r (s1.trans s2) hr2
    · obtain ⟨b1, b2, hp0, hop, h1, h2⟩ := hf1
      rw [decide_eq_false (show ¬ (Fm.join op g h).hd ∈ strs5 from fun z => by
        have : ∀ z ∈ ops4, ¬ z ∈ strs5 := by decide +kernel
        exact this op hop z)]
      have dg : max g.depth h.depth + 1 ≤ d + 1 := hd
      have dg4 : max g.depth h.depth + 1 ≤ 4 := h4
      have l60 : g.free.length + h.free.length ≤ 60 := by rw [← List.length_append]; exact h60
      have gL : ∀ x ∈ g.free, x ∈ L := fun z hz => hL z (List.mem_append_left _ hz)
      have kL : ∀ x ∈ h.free, x ∈ L := fun z hz => hL z (List.mem_append_right _ hz)
      refine ⟨_, rfl, rfl, false, dF (strNe (opNe hop (by decide +kernel))), ?_⟩
      refine ⟨_, rfl, by show 2 ≤ sizeLine; decide, fun t2 n2 => ⟨t2, _, rfl, .inl (SqL.of upd_same), rfl, rfl, false, in2F (opNe hop (by decide +kernel)) (opNe hop (by decide +kernel)), ?_⟩⟩
      have s2 := same_upd (o := .lst [.str "some", .str "all"]) n2
      generalize upd H1 t2 (.lst [.str "some", .str "all"]) = H2 at s2 ⊢
      have sA := s1.trans s2
      refine ⟨_, rfl, _, rfl, p, _, _, _, rfl, rfl, SqT.of (s2 _ _ hp0), atI_nat (j := 1) rfl, _, _, rfl, b, dd, wd, kd, kw, e, b1, g, L, rfl, rfl, bk1.same s2, h1.keep fun _ _ z => s2 _ _ z, wf.1, sm.1, lok.1, cok.1, ds, by omega, by omega, by omega, l6, gL, fun H3 r1 s3 hr1 => ⟨r1, rfl, ?_⟩⟩
      cases r1 with
      | true => exact q H3 true (sA.trans s3) fun _ => rfl
      | false =>
        refine ⟨_, rfl, _, rfl, p, _, _, _, rfl, rfl, SqT.of (s3 _ _ (s2 _ _ hp0)), atI_nat (j := 2) rfl, _, _, rfl, b, dd, wd, kd, kw, e, b2, h, L, rfl, rfl, (bk1.same s2).same s3, (h2.keep fun _ _ z => s2 _ _ z).keep fun _ _ z => s3 _ _ z, wf.2, sm.2, lok.2, cok.2, ds, by omega, by omega, by omega, l6, kL, fun H4 r2 s4 hr2 => ⟨r2, rfl, ?_⟩⟩
        have sB := (sA.trans s3).trans s4
        cases r2 with
        | true => exact q H4 true sB fun _ => rfl
        | false =>
          have nb1 : ¬ Big e g := fun z => by cases hr1 z
          have nb2 : ¬ Big e h := fun z => by cases hr2 z
          have hp4 := s4 _ _ (s3 _ _ (s2 _ _ hp0))
          refine ⟨_, rfl, _, rfl, p, _, rfl, SqT.of hp4, fun full => ?_, fun _ t nt => ?_⟩
          · have f1 := full.1
            rw [show (1 : Int) = ((1 : Nat) : Int) from rfl, HT.sIx_nat] at f1
            exact absurd f1 (by show ¬ min 1 3 = 0; decide)
          have s5 := same_upd (o := .tup [.ref b1, .ref b2]) nt
          have ht5 : upd H4 t (.tup [.ref b1, .ref b2]) t = some (.tup [.ref b1, .ref b2]) := upd_same
          change (_ : Hp → Prop) (upd H4 t (.tup [.ref b1, .ref b2]))
          generalize upd H4 t (.tup [.ref b1, .ref b2]) = H5 at s5 ht5 ⊢
          have sC := sB.trans s5
          refine ⟨t, rfl, ⟨_, SqT.of ht5⟩, fun D nD => ?_⟩
          refine lc_objT (fun i y => ∃ f ys m, [g, h][i]? = some f ∧ y = iV m.tab.length ∧ Res e f ys m) nD (SqT.of ht5) (by show 2 ≤ 1000000; decide) ?_ gName_mono ?_
          · intro i x H6 acc k hx s6 hD6 kk
            obtain ⟨bp, fp, rfl, e2, e3, e4, e5, e6, e7, e8, e9, e10, e11, e12⟩ : ∃ bp fp, x = .ref bp ∧ [g, h][i]? = some fp ∧ FmAt H1 fp bp ∧ fp.wf e ∧ fp.sm ∧ fp.lok ∧ fp.cok e ∧ fp.depth ≤ 4 ∧ fp.free.length ≤ 60 ∧ (∀ x ∈ fp.free, x ∈ L) ∧ ¬ Big e fp ∧ True := by
              match i, hx with
              | 0, hx => cases hx; exact ⟨b1, g, rfl, rfl, h1, wf.1, sm.1, lok.1, cok.1, by omega, by omega, gL, nb1, trivial⟩
              | 1, hx => cases hx; exact ⟨b2, h, rfl, rfl, h2, wf.2, sm.2, lok.2, cok.2, by omega, by omega, kL, nb2, trivial⟩
            have sD := sC.trans s6
            have sE := (((s2.trans s3).trans s4).trans s5).trans s6
            refine ⟨rfl, _, rfl, _, rfl, _, _, rfl, b, dd, wd, kd, kw, e, bp, fp, L, rfl, rfl, bk.same sD, e3.keep fun _ _ z => sE _ _ z, e4, e5, e6, e7, ds, e8, e9, l6, e10, fun H7 t7 ys m s7 out => ?_, fun bg => absurd bg e11⟩
            obtain ⟨nt7, pm, o1, o2, ⟨dx, tl, ac, m1, m2, m3⟩, res⟩ := out
            obtain ⟨ls, g1, g2, g3⟩ := m2
            refine ⟨t7, _, _, _, rfl, rfl, SqT.of o1, atI_nat (j := 1) rfl, pm, _, dx, _, _, rfl, m1, T.c_Machine, T.n_Machine_table, mf_table _ _ _, tl, _, rfl, .inl (SqL.of g1), ?_⟩
            refine kk _ _ s7 ⟨fp, ys, m, e2, ?_, res⟩
            rw [List.length_map, g2]
          · intro ys H6 yl s6 hD6 al
            match ys, yl with
            | [y1, y2], _ =>
              obtain ⟨f1, ys1, m1, a1, rfl, r1⟩ := al 0 y1 rfl
              obtain ⟨f2, ys2, m2, a2, rfl, r2⟩ := al 1 y2 rfl
              cases a1
              cases a2
              have k1 := r1.ok.small
              refine ⟨_, rfl, D, _, _, _, rfl, rfl, SqL.of hD6, iV0, _, rfl, D, _, _, _, rfl, rfl, SqL.of hD6, atI_nat (j := 1) rfl, _, _, rfl, rfl, .inl ⟨by omega, by omega⟩, _, _, rfl, rfl, q H6 _ (sC.trans s6) fun bg => ?_⟩
              rcases bg with z | z | ⟨ys', zs', m1', m2', q1, q2, q3⟩
              · exact absurd z nb1
              · exact absurd z nb2
              · rw [← r1.size q1, ← r2.size q2] at q3
                have := Int.ofNat_lt.mpr q3
                rw [Int.natCast_mul] at this
                exact decide_eq_true this
end
end K36
/-! K36W28: compiled, or refused -/
namespace K36
open PySem PySem.Spec PyProof.Rows L2 HotX
section
variable {X : Cx} {k n : Nat} {f : Addr} {sp : SpQ} {W : WX} {x : Str} {q pos : Pos} {e : Expr} {es : List Expr} {t : TA}
theorem run_fnQS {pins : Pn} {σ : St} {H : Hp} {s : Shared} {Q : VK} {us : List Value} {vs : List V} (F : FnQ X.prog X.w X.K X.mg X.base k f n sp) (hr : RoomQ k X.A) (hq : Quiet X) (tk : L2N.Takes X W) (I : Inv X pins σ H s) (r : Vals vs us) (h : sp X.calm vs H Q (fun cls d H' => W cls d σ H')) :
    wpAny (model X.prog X.w) X.A (call (.ref f) us) (EP X pins σ Q) X.xe s := by
  obtain ⟨l, qa, hl, hc⟩ := hq
  rw [hc] at h
  refine wpAny_call (codeAny_mono (F.run X.A X.stack s H us vs Q _ l hr qa (fun p hp => ?_) I.env0 r h) fun r s' hq => ?_)
  · have P1 := I.pin p (List.mem_append_left _ (hl p hp))
    exact ⟨P1.1, P1.2.1, fun hm => (List.mem_cons.mp (I.stkSub p.1 hm)).elim P1.2.2.1 P1.2.2.2.1, P1.2.2.2.2⟩
  · cases r with
    | error e => exact tk e s' (L2N.XE.of_call I (fun cls d H' h => h) hq)
    | ok fl =>
      cases fl with
      | ret u => exact I.after hq
      | next => exact False.elim hq
      | brk => exact False.elim hq
      | cont => exact False.elim hq
/-- f(..) in a try: what leaves is the wish at these slots -/
theorem pe_callSQ (F : FnQ X.prog X.w X.K X.mg X.base k f n sp) (hr : RoomQ k X.A) (hq : Quiet X) (hm : X.mg x = some (.ref f)) (tk : L2N.Takes X W) (ha : PA X (e :: es) t) {c : Bool} (hc : X.calm = c := by rfl) (hg : Gl X x := by rfl)
    (hdb : (x == ("__debug__" : Str)) = false := by decide) (he : starEach (e :: es) X.env = (false, eval e X.env) :: starEach es X.env := by rfl) (hpl : (backTo pos (starEach es X.env)).any (·.1) = false := by rfl) :
    PE X (.Call (.Name x q) (e :: es) [] pos) (fun σ H Q => t σ H fun vs H1 => sp c vs H1 Q (fun cls d H' => W cls d σ H')) := by
  subst hc
  refine ⟨fun pins s σ H Q I h => wpAny_Call_Name_kw (ld_glob I hg hm ?_ hdb)⟩
  exact PySem.W.callWith_K (h₀ := X.base) I.ok.mod.kin F.kp (thn (ha.run pos pins s σ H _ I h) fun us s1 ⟨vs, H1, I1, r, z⟩ => ⟨I1.kIn, run_fnQS F hr hq tk I1 r z⟩) he hpl
end
theorem room_mark {k : Nat} {A : Around} {v : Option Value} (r : RoomQ k A) : RoomQ k (A.mark v) := ⟨r.dp, r.un⟩
theorem quiet_tr {P : Program} {w : World} {K : PySem.W.Frag} {mg : Str → Option Value} {base : Heap} {N : List Str} {qual : Str} {scope : Scope} {f : Addr} {cd : Value} {A : Around} {outer : List PySem.Env} {s : Shared} {H : Hp} {E : XK} (qa : QA A []) {pn : List (Addr × Obj)} {xe : Value → Shared → Prop} :
    Quiet ((cxQ P w K mg base N qual scope f cd A outer s H E []).tr pn xe) := ⟨[], qa, (fun p h => nomatch h), rfl⟩
theorem quiet_suite {P : Program} {w : World} {K : PySem.W.Frag} {mg : Str → Option Value} {base : Heap} {N : List Str} {qual : Str} {scope : Scope} {f : Addr} {cd : Value} {A : Around} {outer : List PySem.Env} {s : Shared} {H : Hp} {E : XK} {l : Pn} {a : Addr} {oe : Obj} {cls : Value} {d : Option Addr} {pn : List (Addr × Obj)} (hz : L2N.Zn cls d oe) (hf : ∃ vs, oe.data = .fields vs) : Quiet ((cxQ P w K mg base N qual scope f cd A outer s H E l).suite a ((a, oe) :: pn)) := by
  obtain ⟨vs, hv⟩ := hf
  exact ⟨[(a, oe)], .inr ⟨(a, oe), rfl, rfl, vs, hv, hz.2.2 vs hv⟩, fun p hp => by rw [List.mem_singleton.mp hp]; exact List.mem_cons_self, rfl⟩
section
variable {P : Program} {w : World} {K : PySem.W.Frag} {mg : Str → Option Value} {base : Heap}
def p__law_made (K : PySem.W.Frag) : Q3 := fun c x y a H Q _ => c = true ∧ ∃ (b dd wd : Addr) (kd kw : List (Key × V)) (e : Env) (p : Addr) (f : Fm) (L : List Str), x = .ref b ∧ a = .ref p ∧ BkAt K H b dd wd kd kw e ∧ FmAt H f p ∧ f.wf e ∧ f.sm ∧ f.lok ∧ f.cok e ∧ DefsSmall e ∧ f.depth ≤ 4 ∧ f.free.length ≤ 60 ∧ L.length ≤ 6 ∧ (∀ x ∈ f.free, x ∈ L) ∧
  (∀ H' t ys m, L2.Same H H' → OutAt K H' e t f ys m → Q (.ref t) H') ∧ ∀ H', Q .non H'
theorem ok__law_made (T : Txt P w K mg) (C : Catch K) : FnQ P w K mg base 46 (He.ga K "_law_made") 3 (Sp3 (p__law_made K)) := by
  have ic := ok_compile_formula (base := base) T 4
  have il := ok__law_too_large (base := base) T 4
  refine fnQ3 T.F__law_made sc__law_made (fun _ _ _ _ _ _ us hl => match us, hl with | [_, _, _], _ => rfl) fun cdv A outer s H x y a Q E l qa hr h => ?_
  obtain ⟨hc, b, dd, wd, kd, kw, e, p, f, L, rfl, rfl, bk, hf, wf, sm, lok, cok, ds, h4, h60, l6, hL, q, qn⟩ := h
  cases l with
  | cons _ _ => cases hc
  | nil =>
    refine ⟨_, pss_one (L2N.ps_try_as (i := 3) rfl rfl sc__law_made.nd rfl rfl ⟨rfl, by decide, .inl T.over.mgC⟩ cxQ_takes
      (fun W pn xe tk _ => pss_one (ps_ret (pe_callSQ (c := true) ic (hr.mono (by omega)) (quiet_tr qa) T.g_compile_formula tk (pa_cons (pv 0) (pa_cons (pv 2) pa_nil)))))
      (fun a oe cls d pn hz hf => pss_cons (ps_if (PW.pt (pw_and (pt_cmpR op_eq (pe_xf C.xf T.over.noL hz.zc hf (pv 3)) pe_str (nomark _)) (pw_and1 (pt_val (pe_callK (c := false) il ((room_mark hr).mono (by omega)) (quiet_suite hz hf) T.g__law_too_large pass0 (pa_cons (pv 0) (pa_cons (pv 2) pa_nil)) rfl))))) (pss_one (ps_ret pe_non)) pss_nil)
        (pss_one ps_never))), ?_⟩
    refine ⟨_, rfl, _, rfl, _, _, rfl, b, dd, wd, kd, kw, e, p, f, L, rfl, rfl, bk, hf, wf, sm, lok, cok, ds, h4, h60, l6, hL, q, fun bg => ⟨rfl, fun d H1 nd hd fx => ?_⟩⟩
    have s1 := fx.same
    refine ⟨true, C.em, fun _ ea na => ?_, fun z => nomatch z⟩
    refine ⟨_, rfl, rfl, rfl, d, _, _, rfl, hd, rfl, rfl, true, dT rfl, ?_⟩
    refine ⟨_, rfl, _, rfl, _, _, rfl, b, dd, wd, kd, kw, e, p, f, L, rfl, rfl, bk.same s1, hf.keep fun _ _ z => s1 _ _ z, wf, sm, lok, cok, ds, h4, h4, h60, l6, hL, fun H2 r s2 hr2 => ⟨r, rfl, ?_⟩⟩
    have := hr2 bg
    subst this
    exact qn H2
end
end K36
/-! K36W29: what the law asks, joined -/
namespace K36
open PySem PySem.Spec PyProof.Rows L2 HotX
theorem lay_strs : ∀ {ys : List Str}, (∀ x ∈ ys, PyData.canLay0 (.str x) = true) → PyData.canLayAll0 (ys.map PyData.str) = true
  | [], _ => by simp [PyData.canLayAll0]
  | a :: ys, h => by
    rw [List.map_cons, PyData.canLayAll0, h a List.mem_cons_self, lay_strs fun x hx => h x (List.mem_cons_of_mem _ hx)]
    rfl
theorem depth_strs : ∀ (ys : List Str), PyData.depthAll (ys.map PyData.str) = 0
  | [] => by simp [PyData.depthAll]
  | a :: ys => by rw [List.map_cons, PyData.depthAll, depth_strs ys]; simp [PyData.depth]
theorem shaped_strs {ys : List Str} (h : ∀ x ∈ ys, PyData.canLay0 (.str x) = true) : SeqAt.shaped (.tuple (ys.map PyData.str)) = true := by
  unfold SeqAt.shaped
  rw [PyData.canLay0, lay_strs h, PyData.depth, depth_strs]
  rfl
theorem dp_strs {K : PySem.W.Frag} {H : Hp} : ∀ (ys : List Str), DpAll K H (ys.map V.str) (ys.map PyData.str)
  | [] => .nil
  | a :: ys => .cons (.str a) (dp_strs ys)
theorem PoolAt.neB {K : PySem.W.Frag} {H : Hp} {p sa b : Addr} {r : List Bool} (x : PoolAt K H p sa) (h : H b = some (.lst (r.map V.bl))) : b ≠ p := x.ne h fun n k sa e => by
  match r, e with
  | [], e => cases e
  | _ :: _, e => cases e
theorem PoolAt.neI {K : PySem.W.Frag} {H : Hp} {p sa b C dx : Addr} {fs : List (Str × V)} (x : PoolAt K H p sa) (h : H b = some (.ins C dx fs)) : b ≠ p := fun e => by
  obtain ⟨_, _, _, g, _⟩ := x
  rw [e, g] at h
  cases h
theorem MachAt.pool {K : PySem.W.Frag} {H H' : Hp} {a p sa : Addr} {m : M} (x : MachAt K H a m) (pl : PoolAt K H p sa) (f : Fx [p] H H') : MachAt K H' a m := by
  obtain ⟨dx, l, la, h1, ⟨ls, h2, h3, h4⟩, h5⟩ := x
  refine ⟨dx, l, la, f.keep _ _ h1 (by simpa using pl.neI h1), ⟨ls, f.keep _ _ h2 (by simpa using pl.neR h2), h3, fun i b e => ?_⟩, f.keep _ _ h5 (by simpa using pl.neB h5)⟩
  obtain ⟨r, e1, e2⟩ := h4 i b e
  exact ⟨r, e1, f.keep _ _ e2 (by simpa using pl.neN e2)⟩
abbrev nms0 : List Str := ["x", "y", "z"]
abbrev nms1 : List Str := ["y", "x"]
abbrev nms2 : List Str := ["n"]
abbrev nms3 : List Str := ["c", "b", "a"]
/-- names of a law's formula -/
def NmOk (L : List Str) : Prop := 0 < L.length ∧ L.length ≤ 3 ∧ ∀ x ∈ L, PyData.canLay0 (.str x) = true
theorem nmOk0 : NmOk nms0 := ⟨by decide, by decide, by decide +kernel⟩
theorem nmOk1 : NmOk nms1 := ⟨by decide, by decide, by decide +kernel⟩
theorem nmOk2 : NmOk nms2 := ⟨by decide, by decide, by decide +kernel⟩
theorem nmOk3 : NmOk nms3 := ⟨by decide, by decide, by decide +kernel⟩
theorem Fx.none {S : List Addr} {H H' : Hp} {D : Addr} (f : Fx S H H') (n : H' D = none) (h : D ∉ S) : H D = none := by
  cases e : H D with
  | none => rfl
  | some o => rw [f.keep _ _ e h] at n; cases n
theorem pick3 {near v1 v2 v3 : Nat} (h1 : near < 2 ^ 33) (h2 : v1 < 4) (h3 : v2 < 2 ^ 33) (h : v3 < 3) : ∃ v : Nat, v < 2 ^ 34 ∧ atI [iV near, V.int ((near : Int) + (v1 : Int)), iV v2] (v3 : Int) = some (iV v) := by
  match v3, h with
  | 0, _ => exact ⟨near, by omega, atI_nat (j := 0) rfl⟩
  | 1, _ => exact ⟨near + v1, by omega, atI_nat (j := 1) rfl⟩
  | 2, _ => exact ⟨v2, by omega, atI_nat (j := 2) rfl⟩
def nuOf (kvs : List (Key × V)) (x : Str) : Nat := match valV kvs (Sum.inr x) with
  | some (.int i) => i.toNat
  | _ => 0
theorem nuOf_eq {kvs : List (Key × V)} {x : Str} {v : Nat} (h : valV kvs (Sum.inr x) = some (iV v)) : nuOf kvs x = v := by
  unfold nuOf
  rw [h]
  exact Int.toNat_natCast v
theorem w6_of {e : Env} {f : Fm} {ys : List Str} {m : M} (r : Res e f ys m) : ys.length ≤ 6 := by rw [← r.wd]; exact r.ok.w6
theorem four {H : Hp} {a1 a2 a3 a4 ol : Addr} (n1 : H a1 = none) (n2 : upd H a1 (.lst (nms0.map V.str)) a2 = none) (n3 : upd (upd H a1 (.lst (nms0.map V.str))) a2 (.lst (nms1.map V.str)) a3 = none)
    (n4 : upd (upd (upd H a1 (.lst (nms0.map V.str))) a2 (.lst (nms1.map V.str))) a3 (.lst (nms2.map V.str)) a4 = none) (n5 : upd (upd (upd (upd H a1 (.lst (nms0.map V.str))) a2 (.lst (nms1.map V.str))) a3 (.lst (nms2.map V.str))) a4 (.lst (nms3.map V.str)) ol = none) :
    (∀ n : Nat, n < 4 → ∃ na L, atI [V.ref a1, V.ref a2, V.ref a3, V.ref a4] (n : Int) = some (.ref na) ∧ NmOk L ∧ upd (upd (upd (upd (upd H a1 (.lst (nms0.map V.str))) a2 (.lst (nms1.map V.str))) a3 (.lst (nms2.map V.str))) a4 (.lst (nms3.map V.str))) ol (.lst [.ref a1, .ref a2, .ref a3, .ref a4]) na = some (.lst (L.map V.str))) ∧
    L2.Same H (upd (upd (upd (upd (upd H a1 (.lst (nms0.map V.str))) a2 (.lst (nms1.map V.str))) a3 (.lst (nms2.map V.str))) a4 (.lst (nms3.map V.str))) ol (.lst [.ref a1, .ref a2, .ref a3, .ref a4])) := by
  have s1 := same_upd (o := .lst (nms0.map V.str)) n1
  have s2 := same_upd (o := .lst (nms1.map V.str)) n2
  have s3 := same_upd (o := .lst (nms2.map V.str)) n3
  have s4 := same_upd (o := .lst (nms3.map V.str)) n4
  have s5 := same_upd (o := .lst [.ref a1, .ref a2, .ref a3, .ref a4]) n5
  refine ⟨fun n hn => ?_, (((s1.trans s2).trans s3).trans s4).trans s5⟩
  match n, hn with
  | 0, _ => exact ⟨a1, nms0, atI_nat (j := 0) rfl, nmOk0, s5 _ _ (s4 _ _ (s3 _ _ (s2 _ _ upd_same)))⟩
  | 1, _ => exact ⟨a2, nms1, atI_nat (j := 1) rfl, nmOk1, s5 _ _ (s4 _ _ (s3 _ _ upd_same))⟩
  | 2, _ => exact ⟨a3, nms2, atI_nat (j := 2) rfl, nmOk2, s5 _ _ (s4 _ _ upd_same)⟩
  | 3, _ => exact ⟨a4, nms3, atI_nat (j := 3) rfl, nmOk3, s5 _ _ upd_same⟩
section
variable {P : Program} {w : World} {K : PySem.W.Frag} {mg : Str → Option Value} {base : Heap}
def p_law : Q1 := fun c a H Q _ => c = true ∧ ∃ (sa : Addr) (xs : List Int), a = .ref sa ∧ SqL K H sa (intsV xs) ∧ ∀ H', Q (.bl true) H'
abbrev lawN : List Str := ["_law_script", "_law_pool_here", "_law_world_here", "_law_names", "_law_formula", "_law_made_here", "_law_free_here", "_law_k", "_law_numbers", "_law_near", "_law_name", "_law_due", "_law_row"]
theorem law_body (T : Txt P w K mg) (C : Catch K) (cdv : Value) (A : Around) (outer : List PySem.Env) (s : Shared) (H : Hp) (a : V) (Q : VK) (E : XK) (l : Pn) (qa : QA A l) (hr : RoomQ 46 (A.deeper (envOfC "law" (defScope s_law) s.heap.objs.size (He.ga K "law") cdv))) (h : p_law (K := K) l.isEmpty a H Q E) :
    ∃ t, PSs (cxQ P w K mg base lawN "law" (defScope s_law) (He.ga K "law") cdv A outer s H E l) (defBody s_law) t ∧ t { nx := fun _ H' => Q .non H', rt := Q } (start lawN [a]) H := by
  have i1 := ok__law_plain (base := base) T 4
  have i2 := ok__law_called (base := base) T 4
  have i3 := ok__law_made (base := base) T C
  have i4 := ok__law_free (base := base) T 4
  have i5 := ok__law_truth (base := base) T 6
  obtain ⟨hc, sa, xs, rfl, hs, q⟩ := h
  cases l with
  | cons _ _ => cases hc
  | nil =>
    refine ⟨_, (pss_cons (ps_set (i := 1) sc_law.nd rfl (Or.inl rfl) (pe_callQ (ok__law_pool T) (hr.mono (by omega)) (cxQ_quiet qa) T.g__law_pool pass0 (pa_cons (pv 0) pa_nil)))
      (pss_cons (ps_set (i := 2) sc_law.nd rfl (Or.inl rfl) (pe_callQ (ok__law_world T) (hr.mono (by omega)) (cxQ_quiet qa) T.g__law_world pass0 (pa_cons (pv 1) pa_nil)))
      (pss_cons (ps_set (i := 3) sc_law.nd rfl (Or.inl rfl) (pe_ix ix_list (pe_lst (pa_cons (pe_lst (pa_cons pe_str (pa_cons pe_str (pa_cons pe_str pa_nil)))) (pa_cons (pe_lst (pa_cons pe_str (pa_cons pe_str pa_nil))) (pa_cons (pe_lst (pa_cons pe_str pa_nil)) (pa_cons (pe_lst (pa_cons pe_str (pa_cons pe_str (pa_cons pe_str pa_nil)))) pa_nil))))) (pe_callQ (ok__law_take T) (hr.mono (by omega)) (cxQ_quiet qa) T.g__law_take pass0 (pa_cons (pv 1) (pa_cons pe_int pa_nil))) (fun _ _ => rfl)))
      (pss_cons (ps_set (i := 4) sc_law.nd rfl (Or.inl rfl) (pe_callQ i2 (hr.mono (by omega)) (cxQ_quiet qa) T.g__law_called pass0 (pa_cons (pv 1) (pa_cons (pe_callQ i1 (hr.mono (by omega)) (cxQ_quiet qa) T.g__law_plain pass0 (pa_cons (pv 1) (pa_cons (pv 3) (pa_cons pe_int pa_nil)))) (pa_cons (pv 3) pa_nil)))))
      (pss_cons (ps_set (i := 5) sc_law.nd rfl (Or.inl rfl) (pe_callQ i3 (hr.mono (by omega)) (cxQ_quiet qa) T.g__law_made pass0 (pa_cons (pe_callQ (ok__law_book T) (hr.mono (by omega)) (cxQ_quiet qa) T.g__law_book pass0 (pa_cons (pv 2) pa_nil)) (pa_cons (pv 2) (pa_cons (pv 4) pa_nil)))))
      (pss_cons (ps_if (pt_cmpR op_isN (pv 5) pe_non (nomark _)) (pss_one (ps_ret pe_bl)) pss_nil)
      (pss_cons (ps_set (i := 6) sc_law.nd rfl (Or.inl rfl) (pe_callQ (ok__law_once T) (hr.mono (by omega)) (cxQ_quiet qa) T.g__law_once pass0 (pa_cons (pe_callQ i4 (hr.mono (by omega)) (cxQ_quiet qa) T.g__law_free pass0 (pa_cons (pv 4) pa_nil)) pa_nil)))
      (pss_cons (ps_if (PW.pt (pw_or (pt_cmpR (op_neD (huQ hr)) (pe_ix ix_tup (pv 5) pe_int (fun _ _ => rfl)) (pe_callTy call_tuple_of rfl T.free_tuple (by decide +kernel) (pa_cons (pv 6) pa_nil)) (nomark _)) (pw_or (pt_cmpR op_isN (pe_ix ix_tup (pv 5) pe_int (fun _ _ => rfl)) pe_non (nomark _)) (pw_or1 (pt_cmpR op_ne (pe_fld (pe_ix ix_tup (pv 5) pe_int (fun _ _ => rfl)) rfl) (pe_callB call_len_seq rfl T.free_len PySem.boot_len (pa_cons (pv 6) pa_nil)) (nomark _)))))) (pss_one (ps_ret pe_bl)) pss_nil)
      (pss_cons (ps_forQ PassesOwn.leaving (cxQ_quiet qa) (piR1 rfl T.free_range (pa_cons pe_int pa_nil)) (pg_name (i := 7) sc_law.nd rfl (Or.inl rfl)) (pss_cons (ps_set (i := 8) sc_law.nd rfl (Or.inr rfl) pe_dnewK)
        (pss_cons (ps_set (i := 9) sc_law.nd rfl (Or.inl rfl) (pe_callQ (ok__law_number T) (hr.mono (by omega)) (cxQ_quiet qa) T.g__law_number pass0 (pa_cons (pv 1) pa_nil)))
        (pss_cons (ps_forQ PassesOwn.leaving (cxQ_quiet qa) (piL (pv 3)) (pg_name (i := 10) sc_law.nd rfl (Or.inl rfl)) (pss_one (ps_dput (huD hr) (pv 8) (pv 10) (pe_ix ix_list (pe_lst (pa_cons (pv 9) (pa_cons (pe_op op_add (pv 9) (pe_callQ (ok__law_take T) (hr.mono (by omega)) (cxQ_quiet qa) T.g__law_take pass0 (pa_cons (pv 1) (pa_cons pe_int pa_nil)))) (pa_cons (pe_callQ (ok__law_number T) (hr.mono (by omega)) (cxQ_quiet qa) T.g__law_number pass0 (pa_cons (pv 1) pa_nil)) pa_nil)))) (pe_callQ (ok__law_take T) (hr.mono (by omega)) (cxQ_quiet qa) T.g__law_take pass0 (pa_cons (pv 1) (pa_cons pe_int pa_nil))) (fun _ _ => rfl)) rfl)))
        (pss_cons (ps_set (i := 11) sc_law.nd rfl (Or.inl rfl) (pe_callQ i5 (hr.mono (by omega)) (cxQ_quiet qa) T.g__law_truth pass0 (pa_cons (pv 2) (pa_cons (pv 4) (pa_cons (pv 8) (pa_cons pe_int pa_nil))))))
        (pss_cons (ps_setLcQ (i := 12) (own := [("_law_name", 10)]) (g := gName 10) (tt := tYes) (cxQ_quiet qa) sc_law.nd rfl rfl (sw_true rfl rfl rfl (by decide +kernel)) (piL (pv 6)) (blkOk_by (N := ["_law_script", "_law_pool_here", "_law_world_here", "_law_names", "_law_formula", "_law_made_here", "_law_free_here", "_law_k", "_law_numbers", "_law_near", "_law_name", "_law_due", "_law_row"]) (sc := defScope s_law) (by decide +kernel)) (fun _ _ _ _ hq => pg_name (i := 10) sc_law.nd rfl (Or.inl rfl)) (fun _ _ _ _ hq => pts_nil) (fun _ _ _ _ hq hcm => (pe_dget (huD hr) (pv 8) (pv 10) (fun _ _ => rfl))))
        (pss_one (ps_if (PW.pt (pw_or (pt_cmpR op_ne (pe_methQ (pe_ix ix_tup (pv 5) pe_int (fun _ _ => rfl)) T.c_Machine T.m_Machine_takes (ok_Machine_takes T) (hr.mono (by omega)) (cxQ_quiet qa) pass0 (pa_cons (pe_callTy call_tuple_of rfl T.free_tuple (by decide +kernel) (pa_cons (pv 12) pa_nil)) pa_nil)) (pv 11) (nomark _)) (pw_or1 (pt_cmpR op_ne (pe_callQ (ok__law_marked T) (hr.mono (by omega)) (cxQ_quiet qa) T.g__law_marked pass0 (pa_cons (pe_ix ix_tup (pv 5) pe_int (fun _ _ => rfl)) (pa_cons (pv 12) pa_nil))) (pv 11) (nomark _))))) (pss_one (ps_ret pe_bl)) pss_nil))))))))
      (pss_one (ps_ret pe_bl))))))))))), ?_⟩
    refine ⟨_, rfl, _, rfl, sa, xs, rfl, hs, fun H1 p ps p1 np nps s1 => ?_⟩
    refine ⟨_, rfl, _, rfl, rfl, p, ps, rfl, p1, fun H2 wa W p2 f2 okW hW => ?_⟩
    refine ⟨by show 3 ≤ sizeLine; decide, fun a1 n1 => ⟨by show 2 ≤ sizeLine; decide, fun a2 n2 => ⟨by show 1 ≤ sizeLine; decide, fun a3 n3 => ⟨by show 3 ≤ sizeLine; decide, fun a4 n4 => ⟨by show 4 ≤ sizeLine; decide, fun ol nol => ?_⟩⟩⟩⟩⟩
    obtain ⟨pick, s3⟩ := four n1 n2 n3 n4 nol
    have hol : upd (upd (upd (upd (upd H2 a1 (.lst (nms0.map V.str))) a2 (.lst (nms1.map V.str))) a3 (.lst (nms2.map V.str))) a4 (.lst (nms3.map V.str))) ol (.lst [.ref a1, .ref a2, .ref a3, .ref a4]) ol = some (.lst [.ref a1, .ref a2, .ref a3, .ref a4]) := upd_same
    change tCallQ _ _ _ _ _ (upd (upd (upd (upd (upd H2 a1 (.lst (nms0.map V.str))) a2 (.lst (nms1.map V.str))) a3 (.lst (nms2.map V.str))) a4 (.lst (nms3.map V.str))) ol (.lst [.ref a1, .ref a2, .ref a3, .ref a4])) _
    have p3 := p2.same s3
    have hW3 := hW.same s3
    have nl' := p3.neR (r := [a1, a2, a3, a4]) hol
    generalize upd (upd (upd (upd (upd H2 a1 (.lst (nms0.map V.str))) a2 (.lst (nms1.map V.str))) a3 (.lst (nms2.map V.str))) a4 (.lst (nms3.map V.str))) ol (.lst [.ref a1, .ref a2, .ref a3, .ref a4]) = H3 at pick s3 hol p3 hW3 nl' ⊢
    refine ⟨_, rfl, _, _, rfl, p, ps, 4, rfl, rfl, by decide, by decide, p3, fun H4 n4' p4 b4 f4 => ?_⟩
    obtain ⟨na, L, le, lok, hn3⟩ := pick n4' b4
    have hn4 := names_fx p3 hn3 f4
    have hW4 := hW3.fx p3 f4
    refine ⟨ol, _, _, _, rfl, rfl, SqL.of (f4.keep _ _ hol (by simpa using nl')), le, ?_⟩
    obtain ⟨l0, l3, lc⟩ := lok
    refine ⟨_, rfl, _, rfl, _, rfl, _, _, _, rfl, rfl, p, ps, na, L, 3, rfl, rfl, rfl, by decide, p4, hn4, l0, l3, fun H5 t5 g p5 f5 hg fg dg => ?_⟩
    have hn5 := names_fx p4 hn4 f5
    have hW5 := hW4.fx p4 f5
    refine ⟨_, rfl, _, _, _, rfl, rfl, p, ps, na, t5, L, g, rfl, rfl, rfl, p5, hn5, l0, l3, hg, fg, dg, fun H6 fa f p6 f6 hf ff df => ?_⟩
    have hn6 := names_fx p5 hn5 f6
    have hW6 := hW5.fx p5 f6
    have d4 : f.depth ≤ 4 := by omega
    have f60 := ff.len4 d4
    have cok := Fine.cok okW ff
    refine ⟨_, rfl, _, rfl, rfl, wa, W, rfl, okW, hW6, fun H7 b dd wd kd kw bk s7 => ?_⟩
    refine ⟨_, rfl, _, rfl, _, _, _, rfl, rfl, b, dd, wd, kd, kw, W.env, fa, f, L, rfl, rfl, bk, hf.keep fun _ _ z => s7 _ _ z, ff.wf, ff.sm, ff.lok, cok, W.small, d4, f60, by omega, ff.free, fun H8 t ys m s8 out => ?_, fun H8 => ?_⟩
    · obtain ⟨nt, pm, ht, hnt, hm, res⟩ := out
      have sB := s7.trans s8
      have p8 := p6.same sB
      have hn8 := sB _ _ hn6
      have hW8 := hW6.same sB
      have hf8 := hf.keep fun _ _ z => sB _ _ z
      refine ⟨_, rfl, rfl, false, dF (fun z => by cases z), ?_⟩
      refine ⟨_, rfl, _, rfl, fa, L, f, rfl, hf8, ff, d4, d4, fun H9 r s9 hr9 => ?_⟩
      refine ⟨_, rfl, r, f.free, rfl, hr9, f60, fun H10 r2 zs s10 hz10 zsrt znd zmem => ?_⟩
      obtain rfl : zs = ys := NamesOf.uniq (f := f) ⟨zsrt, znd, zmem⟩ res.nm
      have sC := s9.trans s10
      have zL : ∀ x ∈ zs, x ∈ L := fun x hx => ff.free x ((zmem x).mp hx)
      have zc : ∀ x ∈ zs, PyData.canLay0 (.str x) = true := fun x hx => lc x (zL x hx)
      have hnt10 := hnt.same sC
      have ht10 := sC _ _ ht
      refine ⟨_, rfl, t, _, _, _, rfl, rfl, SqT.of ht10, iV0, _, rfl, r2, _, rfl, .inl ⟨SqL.of hz10, fun tp ntp => ?_⟩⟩
      have s11 := same_upd (o := .tup (zs.map V.str)) ntp
      have htp : upd H10 tp (.tup (zs.map V.str)) tp = some (.tup (zs.map V.str)) := upd_same
      generalize upd H10 tp (.tup (zs.map V.str)) = H11 at s11 htp ⊢
      have sD := sC.trans s11
      have hnt11 := hnt10.same s11
      refine ⟨.tuple (zs.map PyData.str), .tuple (zs.map PyData.str), .tup hnt11.sq (dp_strs zs), .tup (SqT.of htp) (dp_strs zs), shaped_strs zc, shaped_strs zc, false, ?_, ?_⟩
      · rw [SeqAt.eqv_refl _ (SeqAt.canLay_of_shaped (shaped_strs zc))]
        rfl
      have ht11 := sD _ _ ht
      have hm11 := hm.same sD
      have hz11 := s11 _ _ hz10
      have p11 := p8.same sD
      have hn11 := sD _ _ hn8
      have hW11 := hW8.same sD
      have hf11 := hf8.keep fun _ _ z => sD _ _ z
      obtain ⟨dx, tl, ac, m1, m2, m3⟩ := id hm11
      refine ⟨_, rfl, t, _, _, _, rfl, rfl, SqT.of ht11, atI_nat (j := 1) rfl, rfl, false, dF (fun z => by cases z), ?_⟩
      refine ⟨_, rfl, t, _, _, _, rfl, rfl, SqT.of ht11, atI_nat (j := 1) rfl, pm, _, dx, _, _, rfl, m1, T.c_Machine, T.n_Machine_width, mf_width _ _ _, _, rfl, r2, _, rfl, .inl (SqL.of hz11), rfl, false, nF (congrArg V.int (by rw [List.length_map, res.wd])), ?_⟩
      refine ⟨7, rfl, by decide, by decide, ?_⟩
      rw [show ((7 : Int)).toNat = 7 from rfl]
      refine for_range (fun i σ H' => PoolAt K H' p ps ∧ Fx [p] H11 H' ∧ ∃ o7 o8 o9 o10 o11 o12, σ = [some (.ref sa), some (.ref p), some (.ref wa), some (.ref na), some (.ref fa), some (.ref t), some (.ref r2), o7, o8, o9, o10, o11, o12]) ⟨p11, same_fx (Same.refl _), _, _, _, _, _, _, rfl⟩ ?_ ?_
      · rintro i σ H12 hi ⟨p12, f12, o7, o8, o9, o10, o11, o12, rfl⟩
        refine fun D nD => ?_
        have nD' := PoolAt.new p12 nD
        have nD11 : H11 D = none := f12.none nD (by simpa using nD'.1)
        have s13 := same_upd (o := .dK []) nD
        have hD13 : upd H12 D (.dK []) D = some (.dK []) := upd_same
        have p13 := p12.same s13
        have f13 := f12.trans (same_fx s13)
        generalize upd H12 D (.dK []) = H13 at s13 hD13 p13 f13 ⊢
        refine ⟨_, rfl, _, rfl, p, ps, rfl, p13, fun H14 near p14 ln f14 => ?_⟩
        have f14' := f13.trans f14
        have hD14 := f14.keep _ _ hD13 (by simpa using nD'.1)
        refine ⟨_, rfl, na, rfl, ⟨_, SqL.of (names_fx p11 hn11 f14')⟩, ?_⟩
        refine for_list (xs := L.map V.str) (fun j σ H' => PoolAt K H' p ps ∧ Fx [p] H11 H' ∧ ∃ kvs o10, H' D = some (.dK kvs) ∧ kvs.length ≤ j ∧ (∀ x ∈ L.take j, ∃ v : Nat, v < 2 ^ 34 ∧ valV kvs (Sum.inr x) = some (iV v)) ∧ σ = [some (.ref sa), some (.ref p), some (.ref wa), some (.ref na), some (.ref fa), some (.ref t), some (.ref r2), some (iV i), some (.ref D), some (iV near), o10, o11, o12]) ⟨p14, f14', [], o10, hD14, Nat.le_refl _, (fun x hx => by simp at hx), ?_⟩ (fun j σ H' _ h => SqL.of (names_fx p11 hn11 h.2.1)) ?_ ?_
        · rw [Int.zero_add]
          rfl
        · rintro j x σ H15 hx ⟨p15, f15, kvs, o10', hD15, kl, kv, rfl⟩
          obtain ⟨z, e1, rfl⟩ := map_at hx
          have hj : j < L.length := (List.getElem?_eq_some_iff.mp e1).1
          refine ⟨_, rfl, _, rfl, _, rfl, _, _, rfl, p, ps, 4, rfl, rfl, by decide, by decide, p15, fun H16 v1 p16 b16 f16 => ?_⟩
          refine ⟨_, _, rfl, rfl, _, rfl, _, rfl, p, ps, rfl, p16, fun H17 v2 p17 b17 f17 => ?_⟩
          refine ⟨by show 3 ≤ sizeLine; decide, fun la nla => ?_⟩
          have s18 := same_upd (o := .lst [iV near, V.int ((near : Int) + (v1 : Int)), iV v2]) nla
          have hl18 : upd H17 la (.lst [iV near, V.int ((near : Int) + (v1 : Int)), iV v2]) la = some (.lst [iV near, V.int ((near : Int) + (v1 : Int)), iV v2]) := upd_same
          have nl' := PoolAt.new p17 nla
          have p18 := p17.same s18
          have f18 := (f16.trans f17).trans (same_fx s18)
          change (_ : Hp → Prop) (upd H17 la (.lst [iV near, V.int ((near : Int) + (v1 : Int)), iV v2]))
          generalize upd H17 la (.lst [iV near, V.int ((near : Int) + (v1 : Int)), iV v2]) = H18 at s18 hl18 p18 f18 ⊢
          refine ⟨_, rfl, _, _, rfl, p, ps, 3, rfl, rfl, by decide, by decide, p18, fun H19 v3 p19 b19 f19 => ?_⟩
          obtain ⟨v, vl, ve⟩ := pick3 ln b16 b17 b19
          have f19' := f18.trans f19
          have hD19 := f19'.keep _ _ hD15 (by simpa using nD'.1)
          refine ⟨la, _, _, _, rfl, rfl, SqL.of (f19.keep _ _ hl18 (by simpa using nl'.1)), ve, _, rfl, _, rfl, D, _, rfl, DPut.k (k := Sum.inr z) hD19 (by rw [sizeLine_eq]; omega), ?_⟩
          refine ⟨p19.put nD', (f15.trans f19').put nD11, _, _, upd_same, (by have := length_putK kvs (Sum.inr z) (iV v); omega), fun x hx => ?_, rfl⟩
          rw [valV_put]
          by_cases hxz : x = z
          · rw [if_pos (by rw [hxz])]
            exact ⟨v, vl, rfl⟩
          · rw [if_neg (kS_ne hxz)]
            rw [take_snoc e1, List.mem_append] at hx
            exact hx.elim (kv x) fun h => absurd (List.mem_singleton.mp h) hxz
        · rintro σ H15 ⟨p15, f15, kvs, o10', hD15, kl, kv, rfl⟩
          rw [List.length_map, List.take_length] at kv
          have nu15 : NuAt H15 D L (nuOf kvs) := ⟨kvs, hD15, fun x hx => by
            obtain ⟨v, _, hv⟩ := kv x hx
            rw [nuOf_eq hv]
            exact hv⟩
          have nb : ∀ x ∈ L, nuOf kvs x < 2 ^ 34 := fun x hx => by
            obtain ⟨v, h1, hv⟩ := kv x hx
            rw [nuOf_eq hv]
            exact h1
          have hW15 := hW11.fx p11 f15
          have hf15 := hf11.fx f15
          have rk := f.rk_le
          refine ⟨_, rfl, _, rfl, _, rfl, _, _, _, _, rfl, wa, fa, D, L, W.env, f, nuOf kvs, rfl, rfl, rfl, hW15, hf15, ff.free, nu15, ff.wf, cok, ff.lok, by omega, fun H16 s16 => ?_⟩
          have hz16 := s16 _ _ (names_fx p11 hz11 f15)
          have hm16 := (hm11.pool p11 f15).same s16
          have ht16 := s16 _ _ (f15.tup _ _ ht11)
          have nu16 := nu15.same s16
          refine ⟨_, rfl, r2, rfl, ⟨_, SqL.of hz16⟩, fun Dr nDr => ?_⟩
          refine lc_pureL (ys := natsV (zs.map (nuOf kvs))) nDr (SqL.of hz16) (by simp) (by rw [List.length_map]; have := w6_of res; omega) (fun j x y acc k hx hy hk => ?_) gName_mono ?_
          · obtain ⟨z, e1, rfl⟩ := map_at hx
            obtain ⟨v, e2, rfl⟩ := map_at hy
            obtain ⟨z', e3, rfl⟩ := map_at e2
            rw [e1] at e3
            cases e3
            exact ⟨rfl, _, rfl, _, rfl, D, _, rfl, (nu16.same (same_upd nDr)).get (zL z (List.mem_of_getElem? e1)), hk⟩
          · have s17 : L2.Same H16 (upd H16 Dr (.lst (natsV (zs.map (nuOf kvs))))) := same_upd nDr
            have hr17 : upd H16 Dr (.lst (natsV (zs.map (nuOf kvs)))) Dr = some (.lst (natsV (zs.map (nuOf kvs)))) := upd_same
            generalize upd H16 Dr (.lst (natsV (zs.map (nuOf kvs)))) = H17 at s17 hr17 ⊢
            have hm17 := hm16.same s17
            have ht17 := s17 _ _ ht16
            obtain ⟨dx', tl', ac', k1, k2, k3⟩ := id hm17
            have nl : (zs.map (nuOf kvs)).length = m.w := by rw [List.length_map, res.wd]
            refine ⟨_, rfl, t, _, _, _, rfl, rfl, SqT.of ht17, atI_nat (j := 1) rfl, pm, dx', _, rfl, k1, mf_no _ _ _ (by decide +kernel) (by decide +kernel) (by decide +kernel), _, rfl, Dr, _, rfl, .inl ⟨SqL.of hr17, fun tr ntr => ?_⟩⟩
            have s18 := same_upd (o := .tup (natsV (zs.map (nuOf kvs)))) ntr
            have htr : upd H17 tr (.tup (natsV (zs.map (nuOf kvs)))) tr = some (.tup (natsV (zs.map (nuOf kvs)))) := upd_same
            generalize upd H17 tr (.tup (natsV (zs.map (nuOf kvs)))) = H18 at s18 htr ⊢
            have hm18 := hm17.same s18
            have bound : ∀ x ∈ zs, nuOf kvs x < 2 ^ 34 := fun x hx => nb x (zL x hx)
            refine ⟨_, _, rfl, pm, tr, m, zs.map (nuOf kvs), rfl, rfl, hm18, res.ok, htr, nl, (fun n hn => ?_), fun word H19 s19 wo => ?_⟩
            · obtain ⟨x, hx, rfl⟩ := List.mem_map.mp hn
              have := bound x hx
              omega
            · have sE := (s18.trans s19)
              refine ⟨_, rfl, rfl, false, nF (congrArg V.bl (res.word cok wo)), ?_⟩
              refine ⟨_, rfl, t, _, _, _, rfl, rfl, SqT.of (sE _ _ ht17), atI_nat (j := 1) rfl, _, rfl, _, _, rfl, pm, Dr, m, zs.map (nuOf kvs), rfl, rfl, hm17.same sE, res.ok, sE _ _ hr17, nl, fun H20 s20 => ?_⟩
              refine ⟨_, rfl, rfl, false, nF (congrArg V.bl (res.bits cok fun x hx => ?_)), ?_⟩
              · have := bound x hx
                omega
              · have sF := ((s16.trans s17).trans sE).trans s20
                exact ⟨p15.same sF, f15.trans (same_fx sF), _, _, _, _, _, _, rfl⟩
      · rintro σ H12 ⟨p12, f12, o7, o8, o9, o10, o11, o12, rfl⟩
        exact q H12
    · exact ⟨_, rfl, rfl, true, dT rfl, q H8⟩
/-- the law, called where nothing is handled -/
theorem law_ok (T : Txt P w K mg) (C : Catch K) : ∃ fd, (∀ base : Heap, FnOk P w K mg base CX0 47 (He.ga K "law") fd ["_law_script"] (fun vs H Q _ => Sp1 (p_law (K := K)) true vs H Q E0)) ∧ ∀ (s : Shared) (u : Value), BindsTo s fd ⟨[u], []⟩ [("_law_script", u)] := by
  obtain ⟨fd, F⟩ := T.F_law
  have G : ∀ base : Heap, FnOk P w K mg base (CXq P w) 47 (He.ga K "law") fd ["_law_script"] (Sp1 (p_law (K := K)) true) := by
    refine fun base => FunD.ok F sc_law (fun vs H Q E h => by obtain ⟨_, rfl, _⟩ := h; rfl) fun cdv A outer s H vs Q E hr h => ?_
    obtain ⟨a, rfl, h⟩ := h
    exact law_body T C cdv A outer s H a Q E [] (.inl ⟨hr.hd, rfl⟩) ⟨hr.dp, hr.un⟩ h
  refine ⟨fd, fun base => ⟨fun vs H Q E h => (G base).len vs H Q E0 h, fun A outer s H args us vs Q E hr e0 bb r h => codeAny_mono ((G base).run A outer s H args us vs Q E0 hr e0 bb r h) fun r s' hq => ?_⟩, fun s u => ?_⟩
  · cases r with
    | error e =>
      obtain ⟨_, _, _, _, _, _, _, _, _, _, _, _, z⟩ := hq
      exact z.elim
    | ok fl =>
      cases fl with
      | ret u => exact hq
      | next => exact hq
      | brk => exact hq
      | cont => exact hq
  · exact FunD.bindsA (ps := ["_law_script"]) F (fun _ _ _ _ _ _ us hl => match us, hl with | [_], _ => rfl) s [u] rfl
end
end K36
set_option maxHeartbeats 0
open PySem PySem.W PySem.Calls PyProof.Rows
theorem PySem.Challenge.cw_digitwise_k36_whole_plain_formulas_holds : PySem.Challenge.rw_digitwise_k36_whole_plain_formulas.Holds := by
  w_on; o_law
  refine HandSHeadRun.head_any (r := OpenLaw.row PySem.Challenge.rw_digitwise_k36_whole_plain_formulas) (q := view (OpenLaw.row PySem.Challenge.rw_digitwise_k36_whole_plain_formulas).prog [92]) (H := K36.Hd.hk) (ob := K36.Hd.ob) (M := 6000) (loose := K36.Hd.loose) (d := HandSHeadRun.topDef (OpenLaw.row PySem.Challenge.rw_digitwise_k36_whole_plain_formulas).prog 92) (kwd := []) K36.Hd.ob_eq
    (by kernel_rfl) (fun s => by kernel_rfl) K36.Hd.run (by kernel_rfl) (by kernel_rfl) (by kernel_rfl) (by rfl) (by first | assumption | decide +kernel) (by decide +kernel) ⟨rfl, rfl, rfl, rfl, rfl, by decide +kernel⟩ ?hw ?hc
  case hw => w_witness2
  case hc =>
    refine L2.walk_ofE (l := PySem.Challenge.rw_digitwise_k36_whole_plain_formulas) (n := 63) (k := 47) (x := "_law_script") (CX := L2.CX0) rfl (by decide) (by kernel_rfl) ⟨rfl, by decide, by decide⟩ ?F (fun _ _ _ _ z => z)
    intro w mg fa h Y G hmg0
    obtain ⟨K, KX, c⟩ := Y
    have hmg : mg ("law" : PySem.Str) = some (.ref fa) := by
      have e : (HandSHeadRun.topDef (OpenLaw.row PySem.Challenge.rw_digitwise_k36_whole_plain_formulas).prog 92).name = ("law" : PySem.Str) := by kernel_rfl
      rw [← e]
      exact hmg0
    obtain ⟨T, C⟩ := K36.txt_of KX G c
    have e := hmg.symm.trans T.g_law
    cases e
    obtain ⟨fd, hF, hb⟩ := K36.law_ok T C
    exact ⟨K, fd, fun vs H Q _ => K36.Sp1 (K36.p_law (K := K)) true vs H Q K36.E0, KX, hb, fun H a ns hl _ hS => ⟨_, rfl, rfl, a, ns, rfl, hS, fun _ => rfl⟩, fun base _ _ => hF base⟩
