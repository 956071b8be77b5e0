import PyProof.Rows.All
import Wide.All
import OpenK.AllK
import Wide.FinOn
import HandS.ForMost
import HandS.Defaults
import HandS.HeadHook1
import HandS.HeadHook2
import KE.KStateDown
import HandS.Head0
import HandS.Head1
import HandS.Head2
import HandS.HeadHook3
import HandS.HeadHook4
import HandS.Walk
import HandS.Nested
import HandS.Zip
import HandS.TupMul
import HandS.TupLe
import HandS.TupAny
import KE.SortData
import KE.KDictSum
import KE.SortKeyHeap
import HandS.SortKw
import HandS.Conv
import KE.KDictDisplayH
import KE.KDictZip
import HandS.DictComp
import KE.GoesNew
import KE.GoesMore
import KE.GoesEnum
import HandS.DictTup
import PyProof.EqAt
import PyProof.EqKinds
import PyProof.TupleCall
import HandS.Base
import HandS.Call
import HandS.List
import HandS.Set
import HandS.Strs
import KE.KTupSum
import HandS.Deep
import HandS.IsInst
import HandS.Style
import HandS.Steps
import PyProof.EnumMake
import HandS.Keys
import HandS.Dict
import HandS.HeadWalk
import PySem.Challenge.RW_standingpowers_k60_whole_machines_safe_o
section
set_option Elab.async false
set_option linter.all false
set_option maxRecDepth 100000
namespace SP
open PySem L2
def top (i : Nat) : Stmt := PySem.Challenge.pw_standingpowers_k60_whole_machines_safe_o.main.body.getD i (.Pass ⟨0, 0, 0, 0⟩)

abbrev s_raised_number : Stmt := top 11
abbrev s_tuples_of : Stmt := top 12
abbrev s_inverse : Stmt := top 13
abbrev s_is_name : Stmt := top 14
abbrev s_degree_of : Stmt := top 15
abbrev s_divides : Stmt := top 16
abbrev s_key_of : Stmt := top 17
abbrev s_ascending : Stmt := top 18
abbrev s_value_of : Stmt := top 19
abbrev s_Space_init : Stmt := inClass (top 20) 0
abbrev s_Space_points : Stmt := inClass (top 20) 1
abbrev s_Space_powers : Stmt := inClass (top 20) 2
abbrev s_Space_is_point : Stmt := inClass (top 20) 3
abbrev s_Space_zero : Stmt := inClass (top 20) 4
abbrev s_is_polynomial : Stmt := top 22
abbrev s_from_numbers : Stmt := top 23
abbrev s_constant : Stmt := top 24
abbrev s_plus : Stmt := top 25
abbrev s_lessened : Stmt := top 26
abbrev s_times : Stmt := top 27
abbrev s_raised : Stmt := top 28
abbrev s_value : Stmt := top 29
abbrev s_replaced : Stmt := top 30
abbrev s_Rows_init : Stmt := inClass (top 32) 0
abbrev s_Rows_lessened : Stmt := inClass (top 32) 1
abbrev s_Rows_keep : Stmt := inClass (top 32) 2
abbrev s_Rows_take : Stmt := inClass (top 32) 3
abbrev s_walk : Stmt := top 33
abbrev s_basis : Stmt := top 34
abbrev s_numbers_of : Stmt := top 36
abbrev s_polynomial_of : Stmt := top 37
abbrev s_System_init : Stmt := inClass (top 39) 0
abbrev s_System_is_solution : Stmt := inClass (top 39) 1
abbrev s_System_solutions : Stmt := inClass (top 39) 2
abbrev s_factors : Stmt := top 40
abbrev s_shown : Stmt := top 41
abbrev s_led : Stmt := top 43
abbrev s_all_shown : Stmt := top 45
abbrev s_Machine_init : Stmt := inClass (top 47) 0
abbrev s_Machine_after : Stmt := inClass (top 47) 1
abbrev s_Machine_came_from : Stmt := inClass (top 47) 2
abbrev s_Machine_reached : Stmt := inClass (top 47) 3
abbrev s_Machine_way : Stmt := inClass (top 47) 4
abbrev s_run_to : Stmt := top 48
abbrev s_one_of : Stmt := top 49
abbrev s_stepped : Stmt := top 50
abbrev s_check_safe : Stmt := top 51
abbrev s_is_run : Stmt := top 52
abbrev s_judge_safe : Stmt := top 53
abbrev s_law_cell : Stmt := top 55
abbrev s_law_digits : Stmt := top 56
abbrev s_law_shape : Stmt := top 57
abbrev s_law_names : Stmt := top 58
abbrev s_law_points : Stmt := top 59
abbrev s_law_made : Stmt := top 60
abbrev s_law_drawn : Stmt := top 61
abbrev s_law_power_value : Stmt := top 62
abbrev s_law_value : Stmt := top 63
abbrev s_law_plus : Stmt := top 64
abbrev s_law_scaled : Stmt := top 65
abbrev s_law_minus : Stmt := top 66
abbrev s_law_lessened : Stmt := top 67
abbrev s_law_times : Stmt := top 68
abbrev s_law_raised : Stmt := top 69
abbrev s_law_constant : Stmt := top 70
abbrev s_law_unknown : Stmt := top 71
abbrev s_law_is_tuple_point : Stmt := top 72
abbrev s_law_is_polynomial : Stmt := top 73
abbrev s_law_equations : Stmt := top 74
abbrev s_law_solutions : Stmt := top 75
abbrev s_law_shows : Stmt := top 76
abbrev s_law_of_table : Stmt := top 77
abbrev s_law_step : Stmt := top 78
abbrev s_law_after : Stmt := top 79
abbrev s_law_start : Stmt := top 80
abbrev s_law_replaced : Stmt := top 81
abbrev s_law_safe_shown : Stmt := top 82
abbrev s_law_fewest : Stmt := top 83
abbrev s_law : Stmt := top 84
def d_raised_number : He.DefD := ⟨("raised_number", none), "raised_number", "raised_number", defArgs s_raised_number, defBody s_raised_number, defScope s_raised_number, [], []⟩
def d_tuples_of : He.DefD := ⟨("tuples_of", none), "tuples_of", "tuples_of", defArgs s_tuples_of, defBody s_tuples_of, defScope s_tuples_of, [], []⟩
def d_inverse : He.DefD := ⟨("inverse", none), "inverse", "inverse", defArgs s_inverse, defBody s_inverse, defScope s_inverse, [], []⟩
def d_is_name : He.DefD := ⟨("is_name", none), "is_name", "is_name", defArgs s_is_name, defBody s_is_name, defScope s_is_name, [], []⟩
def d_degree_of : He.DefD := ⟨("degree_of", none), "degree_of", "degree_of", defArgs s_degree_of, defBody s_degree_of, defScope s_degree_of, [], []⟩
def d_divides : He.DefD := ⟨("divides", none), "divides", "divides", defArgs s_divides, defBody s_divides, defScope s_divides, [], []⟩
def d_key_of : He.DefD := ⟨("key_of", none), "key_of", "key_of", defArgs s_key_of, defBody s_key_of, defScope s_key_of, [], []⟩
def d_ascending : He.DefD := ⟨("ascending", none), "ascending", "ascending", defArgs s_ascending, defBody s_ascending, defScope s_ascending, [], []⟩
def d_value_of : He.DefD := ⟨("value_of", none), "value_of", "value_of", defArgs s_value_of, defBody s_value_of, defScope s_value_of, [], []⟩
def d_Space_init : He.DefD := ⟨("Space", some "__init__"), "__init__", "Space.__init__", defArgs s_Space_init, defBody s_Space_init, defScope s_Space_init, [], []⟩
def d_Space_points : He.DefD := ⟨("Space", some "points"), "points", "Space.points", defArgs s_Space_points, defBody s_Space_points, defScope s_Space_points, [], []⟩
def d_Space_powers : He.DefD := ⟨("Space", some "powers"), "powers", "Space.powers", defArgs s_Space_powers, defBody s_Space_powers, defScope s_Space_powers, [], []⟩
def d_Space_is_point : He.DefD := ⟨("Space", some "is_point"), "is_point", "Space.is_point", defArgs s_Space_is_point, defBody s_Space_is_point, defScope s_Space_is_point, [], []⟩
def d_Space_zero : He.DefD := ⟨("Space", some "zero"), "zero", "Space.zero", defArgs s_Space_zero, defBody s_Space_zero, defScope s_Space_zero, [], []⟩
def d_is_polynomial : He.DefD := ⟨("is_polynomial", none), "is_polynomial", "is_polynomial", defArgs s_is_polynomial, defBody s_is_polynomial, defScope s_is_polynomial, [], []⟩
def d_from_numbers : He.DefD := ⟨("from_numbers", none), "from_numbers", "from_numbers", defArgs s_from_numbers, defBody s_from_numbers, defScope s_from_numbers, [], []⟩
def d_constant : He.DefD := ⟨("constant", none), "constant", "constant", defArgs s_constant, defBody s_constant, defScope s_constant, [], []⟩
def d_plus : He.DefD := ⟨("plus", none), "plus", "plus", defArgs s_plus, defBody s_plus, defScope s_plus, [], []⟩
def d_lessened : He.DefD := ⟨("lessened", none), "lessened", "lessened", defArgs s_lessened, defBody s_lessened, defScope s_lessened, [], []⟩
def d_times : He.DefD := ⟨("times", none), "times", "times", defArgs s_times, defBody s_times, defScope s_times, [], []⟩
def d_raised : He.DefD := ⟨("raised", none), "raised", "raised", defArgs s_raised, defBody s_raised, defScope s_raised, [], []⟩
def d_value : He.DefD := ⟨("value", none), "value", "value", defArgs s_value, defBody s_value, defScope s_value, [], []⟩
def d_replaced : He.DefD := ⟨("replaced", none), "replaced", "replaced", defArgs s_replaced, defBody s_replaced, defScope s_replaced, [], []⟩
def d_Rows_init : He.DefD := ⟨("Rows", some "__init__"), "__init__", "Rows.__init__", defArgs s_Rows_init, defBody s_Rows_init, defScope s_Rows_init, [], []⟩
def d_Rows_lessened : He.DefD := ⟨("Rows", some "lessened"), "lessened", "Rows.lessened", defArgs s_Rows_lessened, defBody s_Rows_lessened, defScope s_Rows_lessened, [], []⟩
def d_Rows_keep : He.DefD := ⟨("Rows", some "keep"), "keep", "Rows.keep", defArgs s_Rows_keep, defBody s_Rows_keep, defScope s_Rows_keep, [], []⟩
def d_Rows_take : He.DefD := ⟨("Rows", some "take"), "take", "Rows.take", defArgs s_Rows_take, defBody s_Rows_take, defScope s_Rows_take, [], []⟩
def d_walk : He.DefD := ⟨("walk", none), "walk", "walk", defArgs s_walk, defBody s_walk, defScope s_walk, [], []⟩
def d_basis : He.DefD := ⟨("basis", none), "basis", "basis", defArgs s_basis, defBody s_basis, defScope s_basis, [], []⟩
def d_numbers_of : He.DefD := ⟨("numbers_of", none), "numbers_of", "numbers_of", defArgs s_numbers_of, defBody s_numbers_of, defScope s_numbers_of, [], []⟩
def d_polynomial_of : He.DefD := ⟨("polynomial_of", none), "polynomial_of", "polynomial_of", defArgs s_polynomial_of, defBody s_polynomial_of, defScope s_polynomial_of, [], []⟩
def d_System_init : He.DefD := ⟨("System", some "__init__"), "__init__", "System.__init__", defArgs s_System_init, defBody s_System_init, defScope s_System_init, [], []⟩
def d_System_is_solution : He.DefD := ⟨("System", some "is_solution"), "is_solution", "System.is_solution", defArgs s_System_is_solution, defBody s_System_is_solution, defScope s_System_is_solution, [], []⟩
def d_System_solutions : He.DefD := ⟨("System", some "solutions"), "solutions", "System.solutions", defArgs s_System_solutions, defBody s_System_solutions, defScope s_System_solutions, [], []⟩
def d_factors : He.DefD := ⟨("factors", none), "factors", "factors", defArgs s_factors, defBody s_factors, defScope s_factors, [], []⟩
def d_shown : He.DefD := ⟨("shown", none), "shown", "shown", defArgs s_shown, defBody s_shown, defScope s_shown, [], []⟩
def d_led : He.DefD := ⟨("led", none), "led", "led", defArgs s_led, defBody s_led, defScope s_led, [], []⟩
def d_all_shown : He.DefD := ⟨("all_shown", none), "all_shown", "all_shown", defArgs s_all_shown, defBody s_all_shown, defScope s_all_shown, [], []⟩
def d_Machine_init : He.DefD := ⟨("Machine", some "__init__"), "__init__", "Machine.__init__", defArgs s_Machine_init, defBody s_Machine_init, defScope s_Machine_init, [], []⟩
def d_Machine_after : He.DefD := ⟨("Machine", some "after"), "after", "Machine.after", defArgs s_Machine_after, defBody s_Machine_after, defScope s_Machine_after, [], []⟩
def d_Machine_came_from : He.DefD := ⟨("Machine", some "came_from"), "came_from", "Machine.came_from", defArgs s_Machine_came_from, defBody s_Machine_came_from, defScope s_Machine_came_from, [], []⟩
def d_Machine_reached : He.DefD := ⟨("Machine", some "reached"), "reached", "Machine.reached", defArgs s_Machine_reached, defBody s_Machine_reached, defScope s_Machine_reached, [], []⟩
def d_Machine_way : He.DefD := ⟨("Machine", some "way"), "way", "Machine.way", defArgs s_Machine_way, defBody s_Machine_way, defScope s_Machine_way, [], []⟩
def d_run_to : He.DefD := ⟨("run_to", none), "run_to", "run_to", defArgs s_run_to, defBody s_run_to, defScope s_run_to, [], []⟩
def d_one_of : He.DefD := ⟨("one_of", none), "one_of", "one_of", defArgs s_one_of, defBody s_one_of, defScope s_one_of, [], []⟩
def d_stepped : He.DefD := ⟨("stepped", none), "stepped", "stepped", defArgs s_stepped, defBody s_stepped, defScope s_stepped, [], []⟩
def d_check_safe : He.DefD := ⟨("check_safe", none), "check_safe", "check_safe", defArgs s_check_safe, defBody s_check_safe, defScope s_check_safe, [], []⟩
def d_is_run : He.DefD := ⟨("is_run", none), "is_run", "is_run", defArgs s_is_run, defBody s_is_run, defScope s_is_run, [], []⟩
def d_judge_safe : He.DefD := ⟨("judge_safe", none), "judge_safe", "judge_safe", defArgs s_judge_safe, defBody s_judge_safe, defScope s_judge_safe, [], []⟩
def d_law_cell : He.DefD := ⟨("_law_cell", none), "_law_cell", "_law_cell", defArgs s_law_cell, defBody s_law_cell, defScope s_law_cell, [], []⟩
def d_law_digits : He.DefD := ⟨("_law_digits", none), "_law_digits", "_law_digits", defArgs s_law_digits, defBody s_law_digits, defScope s_law_digits, [], []⟩
def d_law_shape : He.DefD := ⟨("_law_shape", none), "_law_shape", "_law_shape", defArgs s_law_shape, defBody s_law_shape, defScope s_law_shape, [], []⟩
def d_law_names : He.DefD := ⟨("_law_names", none), "_law_names", "_law_names", defArgs s_law_names, defBody s_law_names, defScope s_law_names, [], []⟩
def d_law_points : He.DefD := ⟨("_law_points", none), "_law_points", "_law_points", defArgs s_law_points, defBody s_law_points, defScope s_law_points, [], []⟩
def d_law_made : He.DefD := ⟨("_law_made", none), "_law_made", "_law_made", defArgs s_law_made, defBody s_law_made, defScope s_law_made, [], []⟩
def d_law_drawn : He.DefD := ⟨("_law_drawn", none), "_law_drawn", "_law_drawn", defArgs s_law_drawn, defBody s_law_drawn, defScope s_law_drawn, [], []⟩
def d_law_power_value : He.DefD := ⟨("_law_power_value", none), "_law_power_value", "_law_power_value", defArgs s_law_power_value, defBody s_law_power_value, defScope s_law_power_value, [], []⟩
def d_law_value : He.DefD := ⟨("_law_value", none), "_law_value", "_law_value", defArgs s_law_value, defBody s_law_value, defScope s_law_value, [], []⟩
def d_law_plus : He.DefD := ⟨("_law_plus", none), "_law_plus", "_law_plus", defArgs s_law_plus, defBody s_law_plus, defScope s_law_plus, [], []⟩
def d_law_scaled : He.DefD := ⟨("_law_scaled", none), "_law_scaled", "_law_scaled", defArgs s_law_scaled, defBody s_law_scaled, defScope s_law_scaled, [], []⟩
def d_law_minus : He.DefD := ⟨("_law_minus", none), "_law_minus", "_law_minus", defArgs s_law_minus, defBody s_law_minus, defScope s_law_minus, [], []⟩
def d_law_lessened : He.DefD := ⟨("_law_lessened", none), "_law_lessened", "_law_lessened", defArgs s_law_lessened, defBody s_law_lessened, defScope s_law_lessened, [], []⟩
def d_law_times : He.DefD := ⟨("_law_times", none), "_law_times", "_law_times", defArgs s_law_times, defBody s_law_times, defScope s_law_times, [], []⟩
def d_law_raised : He.DefD := ⟨("_law_raised", none), "_law_raised", "_law_raised", defArgs s_law_raised, defBody s_law_raised, defScope s_law_raised, [], []⟩
def d_law_constant : He.DefD := ⟨("_law_constant", none), "_law_constant", "_law_constant", defArgs s_law_constant, defBody s_law_constant, defScope s_law_constant, [], []⟩
def d_law_unknown : He.DefD := ⟨("_law_unknown", none), "_law_unknown", "_law_unknown", defArgs s_law_unknown, defBody s_law_unknown, defScope s_law_unknown, [], []⟩
def d_law_is_tuple_point : He.DefD := ⟨("_law_is_tuple_point", none), "_law_is_tuple_point", "_law_is_tuple_point", defArgs s_law_is_tuple_point, defBody s_law_is_tuple_point, defScope s_law_is_tuple_point, [], []⟩
def d_law_is_polynomial : He.DefD := ⟨("_law_is_polynomial", none), "_law_is_polynomial", "_law_is_polynomial", defArgs s_law_is_polynomial, defBody s_law_is_polynomial, defScope s_law_is_polynomial, [], []⟩
def d_law_equations : He.DefD := ⟨("_law_equations", none), "_law_equations", "_law_equations", defArgs s_law_equations, defBody s_law_equations, defScope s_law_equations, [], []⟩
def d_law_solutions : He.DefD := ⟨("_law_solutions", none), "_law_solutions", "_law_solutions", defArgs s_law_solutions, defBody s_law_solutions, defScope s_law_solutions, [], []⟩
def d_law_shows : He.DefD := ⟨("_law_shows", none), "_law_shows", "_law_shows", defArgs s_law_shows, defBody s_law_shows, defScope s_law_shows, [], []⟩
def d_law_of_table : He.DefD := ⟨("_law_of_table", none), "_law_of_table", "_law_of_table", defArgs s_law_of_table, defBody s_law_of_table, defScope s_law_of_table, [], []⟩
def d_law_step : He.DefD := ⟨("_law_step", none), "_law_step", "_law_step", defArgs s_law_step, defBody s_law_step, defScope s_law_step, [], []⟩
def d_law_after : He.DefD := ⟨("_law_after", none), "_law_after", "_law_after", defArgs s_law_after, defBody s_law_after, defScope s_law_after, [], []⟩
def d_law_start : He.DefD := ⟨("_law_start", none), "_law_start", "_law_start", defArgs s_law_start, defBody s_law_start, defScope s_law_start, [], []⟩
def d_law_replaced : He.DefD := ⟨("_law_replaced", none), "_law_replaced", "_law_replaced", defArgs s_law_replaced, defBody s_law_replaced, defScope s_law_replaced, [], []⟩
def d_law_safe_shown : He.DefD := ⟨("_law_safe_shown", none), "_law_safe_shown", "_law_safe_shown", defArgs s_law_safe_shown, defBody s_law_safe_shown, defScope s_law_safe_shown, [], []⟩
def d_law_fewest : He.DefD := ⟨("_law_fewest", none), "_law_fewest", "_law_fewest", defArgs s_law_fewest, defBody s_law_fewest, defScope s_law_fewest, [], []⟩
def d_law : He.DefD := ⟨("law", none), "law", "law", defArgs s_law, defBody s_law, defScope s_law, [], []⟩
def fns : List He.DefD := [d_raised_number, d_tuples_of, d_inverse, d_is_name, d_degree_of, d_divides, d_key_of, d_ascending, d_value_of, d_Space_init, d_Space_points, d_Space_powers, d_Space_is_point, d_Space_zero, d_is_polynomial, d_from_numbers, d_constant, d_plus, d_lessened, d_times, d_raised, d_value, d_replaced, d_Rows_init, d_Rows_lessened, d_Rows_keep, d_Rows_take, d_walk, d_basis, d_numbers_of, d_polynomial_of, d_System_init, d_System_is_solution, d_System_solutions, d_factors, d_shown, d_led, d_all_shown, d_Machine_init, d_Machine_after, d_Machine_came_from, d_Machine_reached, d_Machine_way, d_run_to, d_one_of, d_stepped, d_check_safe, d_is_run, d_judge_safe, d_law_cell, d_law_digits, d_law_shape, d_law_names, d_law_points, d_law_made, d_law_drawn, d_law_power_value, d_law_value, d_law_plus, d_law_scaled, d_law_minus, d_law_lessened, d_law_times, d_law_raised, d_law_constant, d_law_unknown, d_law_is_tuple_point, d_law_is_polynomial, d_law_equations, d_law_solutions, d_law_shows, d_law_of_table, d_law_step, d_law_after, d_law_start, d_law_replaced, d_law_safe_shown, d_law_fewest, d_law]
def fas : List He.Fa := [.glo "PowersError", .glo "InvalidSpace", .glo "PRIMES", .glo "MOST_OF_PRIME", .glo "raised_number", .glo "tuples_of", .glo "inverse", .glo "is_name", .glo "degree_of", .glo "divides", .glo "key_of", .glo "ascending", .glo "value_of", .glo "Space", .glo "is_polynomial", .glo "from_numbers", .glo "constant", .glo "plus", .glo "lessened", .glo "times", .glo "raised", .glo "value", .glo "replaced", .glo "Rows", .glo "walk", .glo "basis", .glo "numbers_of", .glo "polynomial_of", .glo "System", .glo "factors", .glo "shown", .glo "led", .glo "all_shown", .glo "Machine", .glo "run_to", .glo "one_of", .glo "stepped", .glo "check_safe", .glo "is_run", .glo "judge_safe", .glo "_law_cell", .glo "_law_digits", .glo "_law_shape", .glo "_law_names", .glo "_law_points", .glo "_law_made", .glo "_law_drawn", .glo "_law_power_value", .glo "_law_value", .glo "_law_plus", .glo "_law_scaled", .glo "_law_minus", .glo "_law_lessened", .glo "_law_times", .glo "_law_raised", .glo "_law_constant", .glo "_law_unknown", .glo "_law_is_tuple_point", .glo "_law_is_polynomial", .glo "_law_equations", .glo "_law_solutions", .glo "_law_shows", .glo "_law_of_table", .glo "_law_step", .glo "_law_after", .glo "_law_start", .glo "_law_replaced", .glo "_law_safe_shown", .glo "_law_fewest", .glo "law", .int "LONGEST_NAME" 12, .int "MOST_NAMES" 8, .str "LETTERS" "abcdefghijklmnopqrstuvwxyz", .str "DIGITS" "0123456789", .free "all", .free "any", .free "dict", .free "enumerate", .free "int", .free "isinstance", .free "len", .free "list", .free "range", .free "set", .free "sorted", .free "sum", .free "tuple", .free "zip", .cls "Space", .mkr "Space", .noat "Space" "prime", .noat "Space" "names", .noat "Space" "count", .meth "Space" "points", .meth "Space" "powers", .meth "Space" "is_point", .meth "Space" "zero", .cls "Rows", .mkr "Rows", .noat "Rows" "space", .noat "Rows" "points", .noat "Rows" "rows", .meth "Rows" "lessened", .meth "Rows" "keep", .meth "Rows" "take", .cls "System", .mkr "System", .noat "System" "space", .noat "System" "equations", .meth "System" "is_solution", .meth "System" "solutions", .cls "Machine", .mkr "Machine", .noat "Machine" "start", .noat "Machine" "step", .noat "Machine" "space", .meth "Machine" "after", .meth "Machine" "came_from"]
end SP
end
section
set_option Elab.async false
set_option linter.all false
set_option maxRecDepth 100000
set_option maxHeartbeats 0
namespace SP
open PySem PySem.Spec PyProof.Rows L2
def mostB (K : PySem.W.Frag) : Bool := match K.lookup (He.ga K "MOST_OF_PRIME") with
  | some ⟨.type c, none, .dict es _, sl⟩ => decide (c = "dict") && (sl.isEmpty && (!(He.ga K "MOST_OF_PRIME" == sysModules) && decide (es.toList.map (fun e => (match e.key, e.val with
    | .int i _, .int j _ => some (i, j, e.hash)
    | _, _ => none)) = [some (2, 8, 2), some (3, 5, 3), some (5, 3, 5), some (7, 2, 7)])))
  | _ => false
def exB (K : PySem.W.Frag) : Bool := mostB K && He.tupB K "PRIMES" [.int 2, .int 3, .int 5, .int 7]
def tfs : List He.Defn := [("ascending", none)]
abbrev R : PySem.W.OpenRow := PySem.W.OpenLaw.row PySem.Challenge.rw_standingpowers_k60_whole_machines_safe_o
abbrev hk : PySem.W.Hook := He.hookX 5 fas fns [] tfs exB
def ob (s : PySem.W.SharedT) : He.AlX := He.obsX 5 fas fns [] tfs exB (HandSHeadRun.getT s)
theorem ob_eq (s : PySem.W.SharedT) : ob s = hk.obs s.abs := He.obsX_eq (HandSHeadRun.getT_eq s)
def loose0 : List PySem.Str := [PySem.Str.ofString "_wall", PySem.Str.ofString "PowersError", PySem.Str.ofString "InvalidSpace", PySem.Str.ofString "PRIMES", PySem.Str.ofString "LETTERS", PySem.Str.ofString "DIGITS", PySem.Str.ofString "LONGEST_NAME", PySem.Str.ofString "MOST_NAMES", PySem.Str.ofString "MOST_OF_PRIME", PySem.Str.ofString "raised_number", PySem.Str.ofString "tuples_of", PySem.Str.ofString "inverse"]
def loose1 : List PySem.Str := [PySem.Str.ofString "is_name", PySem.Str.ofString "degree_of", PySem.Str.ofString "divides", PySem.Str.ofString "key_of", PySem.Str.ofString "ascending", PySem.Str.ofString "value_of", PySem.Str.ofString "Space", PySem.Str.ofString "is_polynomial", PySem.Str.ofString "from_numbers", PySem.Str.ofString "constant", PySem.Str.ofString "plus", PySem.Str.ofString "lessened"]
def loose2 : List PySem.Str := [PySem.Str.ofString "times", PySem.Str.ofString "raised", PySem.Str.ofString "value", PySem.Str.ofString "replaced", PySem.Str.ofString "Rows", PySem.Str.ofString "walk", PySem.Str.ofString "basis", PySem.Str.ofString "numbers_of", PySem.Str.ofString "polynomial_of", PySem.Str.ofString "System", PySem.Str.ofString "factors", PySem.Str.ofString "shown"]
def loose3 : List PySem.Str := [PySem.Str.ofString "led", PySem.Str.ofString "all_shown", PySem.Str.ofString "Machine", PySem.Str.ofString "run_to", PySem.Str.ofString "one_of", PySem.Str.ofString "stepped", PySem.Str.ofString "check_safe", PySem.Str.ofString "is_run", PySem.Str.ofString "judge_safe", PySem.Str.ofString "_law_cell", PySem.Str.ofString "_law_digits", PySem.Str.ofString "_law_shape"]
def loose4 : List PySem.Str := [PySem.Str.ofString "_law_names", PySem.Str.ofString "_law_points", PySem.Str.ofString "_law_made", PySem.Str.ofString "_law_drawn", PySem.Str.ofString "_law_power_value", PySem.Str.ofString "_law_value", PySem.Str.ofString "_law_plus", PySem.Str.ofString "_law_scaled", PySem.Str.ofString "_law_minus", PySem.Str.ofString "_law_lessened", PySem.Str.ofString "_law_times", PySem.Str.ofString "_law_raised"]
def loose5 : List PySem.Str := [PySem.Str.ofString "_law_constant", PySem.Str.ofString "_law_unknown", PySem.Str.ofString "_law_is_tuple_point", PySem.Str.ofString "_law_is_polynomial", PySem.Str.ofString "_law_equations", PySem.Str.ofString "_law_solutions", PySem.Str.ofString "_law_shows", PySem.Str.ofString "_law_of_table", PySem.Str.ofString "_law_step", PySem.Str.ofString "_law_after", PySem.Str.ofString "_law_start", PySem.Str.ofString "_law_replaced"]
def loose6 : List PySem.Str := [PySem.Str.ofString "_law_safe_shown", PySem.Str.ofString "_law_fewest"]
def loose : List PySem.Str := loose0 ++ loose1 ++ loose2 ++ loose3 ++ loose4 ++ loose5 ++ loose6
theorem join {α β γ δ : Type} {X : Option α} {f : α → β} {g : α → γ} {u : α → Unit} {o : α → δ} {b : β} {c : γ} {d : Unit} {e : δ} (h1 : X.map (fun s => (f s, g s, u s)) = some (b, c, d)) (h2 : X.map o = some e) : X.map (fun s => (f s, g s, o s)) = some (b, c, e) := by
  cases X with
  | none => cases h1
  | some x =>
    have h3 : (f x, g x, u x) = (b, c, d) := Option.some.inj h1
    have h4 : o x = e := Option.some.inj h2
    injection h3 with h5 h6
    injection h6 with h7 h8
    show some (f x, g x, o x) = _
    rw [h5, h7, h4]
theorem run_fA (w : World) : HandSHeadRun.RunEq R (PySem.W.view R.prog [84]) PySem.W.Hook.none (fun _ => ()) 9000 loose (w.withFollow "special-get-raises" false) := by
  intro os
  kernel_rfl
theorem run_fC (w : World) (os : OsState) : (HandSHeadRun.endF (HandSHeadRun.stepQ (HandSHeadRun.denQ HandSHeadRun.tabQ) R.prog (w.withFollow "special-get-raises" false)) 9000 R.prog (w.withFollow "special-get-raises" false) os).map ob = some (hk.val (w.withFollow "special-get-raises" false)) := by
  kernel_rfl
theorem run_f (w : World) : HandSHeadRun.RunEq R (PySem.W.view R.prog [84]) hk ob 9000 loose (w.withFollow "special-get-raises" false) := fun os => join (run_fA w os) (run_fC w os)
theorem run_tA (w : World) : HandSHeadRun.RunEq R (PySem.W.view R.prog [84]) PySem.W.Hook.none (fun _ => ()) 9000 loose (w.withFollow "special-get-raises" true) := by
  intro os
  kernel_rfl
theorem run_tC (w : World) (os : OsState) : (HandSHeadRun.endF (HandSHeadRun.stepQ (HandSHeadRun.denQ HandSHeadRun.tabQ) R.prog (w.withFollow "special-get-raises" true)) 9000 R.prog (w.withFollow "special-get-raises" true) os).map ob = some (hk.val (w.withFollow "special-get-raises" true)) := by
  kernel_rfl
theorem run_t (w : World) : HandSHeadRun.RunEq R (PySem.W.view R.prog [84]) hk ob 9000 loose (w.withFollow "special-get-raises" true) := fun os => join (run_tA w os) (run_tC w os)
theorem run (w : World) : HandSHeadRun.RunEq R (PySem.W.view R.prog [84]) hk ob 9000 loose w :=
  PySem.W.byRow2 "special-get-raises" (P := fun w => HandSHeadRun.RunEq R (PySem.W.view R.prog [84]) hk ob 9000 loose w) run_f run_t w
end SP
end
section
set_option Elab.async false
set_option linter.all false
set_option maxRecDepth 100000
set_option maxHeartbeats 2000000
namespace SP
open PySem L2
abbrev RS := V → Hp → Prop
def LQ : Str := "ascending.<locals>.<lambda>"
structure Ext (H H' : Hp) : Prop where
  keep : ∀ b o, H b = some o → (∀ ps, o ≠ .tbl ps) → H' b = some o
  free : ∀ b, H' b = none → H b = none
  tabs : ∀ P, LamX.TabS H P LQ → LamX.TabS H' P LQ
theorem Ext.refl (H : Hp) : Ext H H := ⟨fun _ _ h _ => h, fun _ h => h, fun _ h => h⟩
theorem Ext.trans {H H1 H2 : Hp} (a : Ext H H1) (b : Ext H1 H2) : Ext H H2 :=
  ⟨fun c o h n => b.keep c o (a.keep c o h n) n, fun c h => a.free c (b.free c h), fun P h => b.tabs P (a.tabs P h)⟩
theorem Ext.same {H H' : Hp} (e : Same H H') : Ext H H' :=
  ⟨fun b o h _ => e b o h, fun b h => Same.free e h, fun P h => h.ext e⟩
theorem Ext.new {H : Hp} {p : Addr} (o : HO) (h : H p = none) : Ext H (upd H p o) :=
  .same fun b u q => by rw [upd_ne (ne_of_none q h)]; exact q
def plainO : HO → Prop
  | .lst _ => True
  | .dT _ => True
  | _ => False
def chgO : HO → Prop
  | .lst _ => True
  | .dT _ => True
  | .ins _ _ _ => True
  | _ => False
theorem plainO.chg {u : HO} (h : plainO u) : chgO u := by
  cases u with
  | lst _ => trivial
  | dT _ => trivial
  | _ => exact h.elim
theorem codeO_ext {c : Addr} {q : Str} : ∃ f, LamX.CodeO c q = .ext f := ⟨_, rfl⟩
theorem tabN_upd {H : Hp} {p P : Addr} {o u : HO} (h : H p = some u) (hu : chgO u) (t : LamX.TabS H P LQ) : LamX.TabS (upd H p o) P LQ := by
  obtain ⟨ps, h1, h2, h3⟩ := t
  have np : P ≠ p := by
    rintro rfl
    rw [h1] at h
    cases h
    exact hu
  refine ⟨ps, by rw [upd_ne np]; exact h1, h2, fun pos cv e => ?_⟩
  obtain ⟨c, rfl, hc⟩ := h3 pos cv e
  refine ⟨c, rfl, ?_⟩
  have nc : c ≠ p := by
    rintro rfl
    rw [h] at hc
    obtain ⟨f, ef⟩ := @codeO_ext c LQ
    rw [ef] at hc
    cases hc
    exact hu
  rw [upd_ne nc]
  exact hc
theorem Ext.mut {H H' : Hp} {p : Addr} {o u : HO} (e : Ext H H') (h : H p = none) (hp : H' p = some u) (hu : chgO u) : Ext H (upd H' p o) where
  keep := fun b v q n => by rw [upd_ne (ne_of_none q h)]; exact e.keep b v q n
  free := fun b q => by
    by_cases hb : b = p
    · subst hb; exact h
    · rw [upd_ne hb] at q; exact e.free b q
  tabs := fun P t => tabN_upd hp hu (e.tabs P t)
theorem Ext.fresh {H H' : Hp} {p : Addr} (e : Ext H H') (h : H' p = none) : H p = none := e.free p h
theorem Ext.at {H H' : Hp} {p : Addr} {o : HO} (e : Ext H H') (h : H p = some o) (n : ∀ ps, o ≠ .tbl ps := by intro _ z; cases z) : H' p = some o := e.keep p o h n
def tupO : HO → Prop
  | .tup _ => True
  | .frz _ (.tup _) => True
  | _ => False
def TEx (H H' : Hp) : Prop := ∀ a u, tupO u → H a = some u → H' a = some u
theorem TEx.refl (H : Hp) : TEx H H := fun _ _ _ h => h
theorem TEx.trans {H H1 H2 : Hp} (a : TEx H H1) (b : TEx H1 H2) : TEx H H2 := fun c o k h => b c o k (a c o k h)
theorem Ext.t {H H' : Hp} (e : Ext H H') : TEx H H' := fun a u k h => e.keep a u h fun ps z => by subst z; exact k
theorem TEx.rd {H H' : Hp} {a : Addr} {xs : List V} (e : TEx H H') (h : Rd H a (.tup xs)) : Rd H' a (.tup xs) := by
  rcases h with h | ⟨o, h⟩
  · exact .inl (e _ _ trivial h)
  · exact .inr ⟨o, e _ _ trivial h⟩
theorem TEx.tup {H H' : Hp} {a : Addr} {xs : List V} (e : TEx H H') (h : H a = some (.tup xs)) : H' a = some (.tup xs) := e _ _ trivial h
theorem TEx.upd {H : Hp} {p : Addr} {o u : HO} (hp : H p = some u) (hu : chgO u) : TEx H (upd H p o) := fun a v k h => by
  have na : a ≠ p := by
    rintro rfl
    rw [hp] at h
    cases h
    cases u with
    | lst _ => exact k
    | dT _ => exact k
    | ins _ _ _ => exact k
    | _ => exact hu
  rw [upd_ne na]
  exact h

class Mono (R : RS) : Prop where
  up : ∀ {H H' : Hp} {v : V}, Ext H H' → R v H → R v H'
class TMono (R : RS) : Prop where
  up : ∀ {H H' : Hp} {v : V}, TEx H H' → R v H → R v H'
instance {R : RS} [h : TMono R] : Mono R := ⟨fun e r => h.up e.t r⟩
def Is (v : V) : RS := fun x _ => x = v
abbrev IsI (i : Int) : RS := Is (.int i)
abbrev IsB (b : Bool) : RS := Is (.bl b)
instance {v : V} : TMono (Is v) := ⟨fun _ r => r⟩
abbrev All (Rs : List RS) (vs : List V) (H : Hp) : Prop := Paired (fun v (R : RS) => R v H) vs Rs
def tupR (Rs : List RS) : RS := fun v H => ∃ a vs, v = .ref a ∧ H a = some (.tup vs) ∧ All Rs vs H
def lstR (Rs : List RS) : RS := fun v H => ∃ a vs, v = .ref a ∧ H a = some (.lst vs) ∧ All Rs vs H
class AllM (Rs : List RS) : Prop where
  all : ∀ R ∈ Rs, Mono R
class AllT (Rs : List RS) : Prop where
  all : ∀ R ∈ Rs, TMono R
instance : AllT [] := ⟨fun _ h => by cases h⟩
instance {R : RS} {Rs : List RS} [h : TMono R] [t : AllT Rs] : AllT (R :: Rs) := ⟨fun S hS => by
  rcases List.mem_cons.mp hS with rfl | q
  · exact h
  · exact t.all S q⟩
instance allT_map {α : Type} {f : α → RS} {xs : List α} [h : ∀ x, TMono (f x)] : AllT (xs.map f) := ⟨fun S hS => by
  obtain ⟨x, _, rfl⟩ := List.mem_map.mp hS
  exact h x⟩
instance {Rs : List RS} [h : AllT Rs] : AllM Rs := ⟨fun R hR => @instMonoOfTMono R (h.all R hR)⟩
instance : AllM [] := ⟨fun _ h => by cases h⟩
instance {R : RS} {Rs : List RS} [h : Mono R] [t : AllM Rs] : AllM (R :: Rs) := ⟨fun S hS => by
  rcases List.mem_cons.mp hS with rfl | q
  · exact h
  · exact t.all S q⟩
theorem All.up {Rs : List RS} [h : AllM Rs] {vs : List V} {H H' : Hp} (e : Ext H H') (r : All Rs vs H) : All Rs vs H' := by
  have q : ∀ {vs : List V} {Rs : List RS}, (∀ R ∈ Rs, Mono R) → All Rs vs H → All Rs vs H' := by
    intro vs Rs hR r
    induction r with
    | nil => exact .nil
    | cons a t ih => exact .cons ((hR _ (List.mem_cons_self ..)).up e a) (ih fun R hm => hR R (List.mem_cons_of_mem _ hm))
  exact q h.all r
theorem All.upT {Rs : List RS} [h : AllT Rs] {vs : List V} {H H' : Hp} (e : TEx H H') (r : All Rs vs H) : All Rs vs H' := by
  have q : ∀ {vs : List V} {Rs : List RS}, (∀ R ∈ Rs, TMono R) → All Rs vs H → All Rs vs H' := by
    intro vs Rs hR r
    induction r with
    | nil => exact .nil
    | cons a t ih => exact .cons ((hR _ (List.mem_cons_self ..)).up e a) (ih fun R hm => hR R (List.mem_cons_of_mem _ hm))
  exact q h.all r
instance {Rs : List RS} [h : AllT Rs] : TMono (tupR Rs) := ⟨fun e ⟨a, vs, e1, e2, r⟩ => ⟨a, vs, e1, e.tup e2, r.upT e⟩⟩
instance {Rs : List RS} [h : AllM Rs] : Mono (tupR Rs) := ⟨fun e ⟨a, vs, e1, e2, r⟩ => ⟨a, vs, e1, e.at e2, r.up e⟩⟩
instance {Rs : List RS} [h : AllM Rs] : Mono (lstR Rs) := ⟨fun e ⟨a, vs, e1, e2, r⟩ => ⟨a, vs, e1, e.at e2, r.up e⟩⟩
def tupF (Rs : List RS) : RS := fun v H => ∃ a vs, v = .ref a ∧ Rd H a (.tup vs) ∧ All Rs vs H
instance {Rs : List RS} [h : AllT Rs] : TMono (tupF Rs) := ⟨fun e ⟨a, vs, e1, e2, r⟩ => ⟨a, vs, e1, e.rd e2, r.upT e⟩⟩
theorem tupR.f {Rs : List RS} {v : V} {H : Hp} (h : tupR Rs v H) : tupF Rs v H := by
  obtain ⟨a, vs, e1, e2, r⟩ := h
  exact ⟨a, vs, e1, .inl e2, r⟩
def tupZ (Rs : List RS) : RS := fun v H => ∃ a o vs, v = .ref a ∧ H a = some (.frz o (.tup vs)) ∧ o.dict = none ∧ All Rs vs H
instance {Rs : List RS} [h : AllT Rs] : TMono (tupZ Rs) := ⟨fun e ⟨a, o, vs, e1, e2, e3, r⟩ => ⟨a, o, vs, e1, e _ _ trivial e2, e3, r.upT e⟩⟩
theorem tupZ.f {Rs : List RS} {v : V} {H : Hp} (h : tupZ Rs v H) : tupF Rs v H := by
  obtain ⟨a, o, vs, e1, e2, _, r⟩ := h
  exact ⟨a, vs, e1, .inr ⟨o, e2⟩, r⟩
theorem All.length {Rs : List RS} {vs : List V} {H : Hp} (r : All Rs vs H) : vs.length = Rs.length := Paired.length r
theorem All.get {H : Hp} : ∀ {Rs : List RS} {vs : List V} {i : Nat} {R : RS}, All Rs vs H → Rs[i]? = some R → ∃ v, vs[i]? = some v ∧ R v H
  | _, _, _, _, .nil, h => by simp at h
  | _, _, 0, R, .cons a t, h => by simp at h; subst h; exact ⟨_, rfl, a⟩
  | _, _, i + 1, R, .cons a t, h => by
    obtain ⟨v, h1, h2⟩ := All.get (i := i) t (by simpa using h)
    exact ⟨v, by simpa using h1, h2⟩
theorem All.getV {H : Hp} : ∀ {Rs : List RS} {vs : List V} {i : Nat} {v : V}, All Rs vs H → vs[i]? = some v → ∃ R, Rs[i]? = some R ∧ R v H
  | _, _, _, _, .nil, h => by simp at h
  | _, _, 0, v, .cons a t, h => by simp at h; subst h; exact ⟨_, rfl, a⟩
  | _, _, i + 1, v, .cons a t, h => by
    obtain ⟨R, h1, h2⟩ := All.getV (i := i) t (by simpa using h)
    exact ⟨R, by simpa using h1, h2⟩
theorem All.snoc {Rs : List RS} {R : RS} {vs : List V} {v : V} {H : Hp} (r : All Rs vs H) (q : R v H) : All (Rs ++ [R]) (vs ++ [v]) H := Paired.snoc r q
theorem All.app {H : Hp} : ∀ {Rs Ss : List RS} {vs ws : List V}, All Rs vs H → All Ss ws H → All (Rs ++ Ss) (vs ++ ws) H
  | _, _, _, _, .nil, q => q
  | _, _, _, _, .cons a t, q => .cons a (All.app t q)
theorem All.ints {H : Hp} : ∀ {ns : List Int} {vs : List V}, All (ns.map IsI) vs H → vs = ns.map V.int
  | [], _, .nil => rfl
  | n :: ns, _, .cons a t => by
    have e := All.ints t
    rw [show _ = V.int n from a, e]
    rfl
theorem all_ints {H : Hp} : ∀ (ns : List Int), All (ns.map IsI) (ns.map V.int) H
  | [] => .nil
  | n :: ns => .cons rfl (all_ints ns)
def ptR (x : List Int) : RS := fun v H => ∃ a, v = .ref a ∧ H a = some (.tup (x.map V.int))
instance {x : List Int} : TMono (ptR x) := ⟨fun e ⟨a, e1, e2⟩ => ⟨a, e1, e.tup e2⟩⟩
theorem ptR_of {x : List Int} {v : V} {H : Hp} (h : tupR (x.map IsI) v H) : ptR x v H := by
  obtain ⟨a, vs, e1, e2, r⟩ := h
  rw [r.ints] at e2
  exact ⟨a, e1, e2⟩
theorem ptR.tup {x : List Int} {v : V} {H : Hp} (h : ptR x v H) : tupR (x.map IsI) v H := by
  obtain ⟨a, e1, e2⟩ := h
  exact ⟨a, _, e1, e2, all_ints x⟩
section
variable {H : Hp} {vs : List V} {R1 R2 R3 R4 R5 R6 : RS}
theorem All.l0 (r : All [] vs H) : vs = [] := by cases r; rfl
theorem All.l1 (r : All [R1] vs H) : ∃ a, vs = [a] ∧ R1 a H := by
  cases r with | cons a t => cases All.l0 t; exact ⟨_, rfl, a⟩
theorem All.l2 (r : All [R1, R2] vs H) : ∃ a b, vs = [a, b] ∧ R1 a H ∧ R2 b H := by
  cases r with | cons a t => obtain ⟨b, rfl, q⟩ := All.l1 t; exact ⟨_, b, rfl, a, q⟩
theorem All.l3 (r : All [R1, R2, R3] vs H) : ∃ a b c, vs = [a, b, c] ∧ R1 a H ∧ R2 b H ∧ R3 c H := by
  cases r with | cons a t => obtain ⟨b, c, rfl, q⟩ := All.l2 t; exact ⟨_, b, c, rfl, a, q⟩
theorem All.l4 (r : All [R1, R2, R3, R4] vs H) : ∃ a b c d, vs = [a, b, c, d] ∧ R1 a H ∧ R2 b H ∧ R3 c H ∧ R4 d H := by
  cases r with | cons a t => obtain ⟨b, c, d, rfl, q⟩ := All.l3 t; exact ⟨_, b, c, d, rfl, a, q⟩
theorem All.l5 (r : All [R1, R2, R3, R4, R5] vs H) : ∃ a b c d e, vs = [a, b, c, d, e] ∧ R1 a H ∧ R2 b H ∧ R3 c H ∧ R4 d H ∧ R5 e H := by
  cases r with | cons a t => obtain ⟨b, c, d, e, rfl, q⟩ := All.l4 t; exact ⟨_, b, c, d, e, rfl, a, q⟩
theorem All.l6 (r : All [R1, R2, R3, R4, R5, R6] vs H) : ∃ a b c d e f, vs = [a, b, c, d, e, f] ∧ R1 a H ∧ R2 b H ∧ R3 c H ∧ R4 d H ∧ R5 e H ∧ R6 f H := by
  cases r with | cons a t => obtain ⟨b, c, d, e, f, rfl, q⟩ := All.l5 t; exact ⟨_, b, c, d, e, f, rfl, a, q⟩
end
def Ev (te : TE) (σ : L2.St) (H : Hp) (R : RS) : Prop := ∀ H1, Ext H H1 → ∀ Q : VK, (∀ v H2, Ext H1 H2 → R v H2 → Q v H2) → te σ H1 Q
def EvN (te : TE) (σ : L2.St) (H : Hp) (Rs : List RS) : Prop := ∀ H1, Ext H H1 → ∀ Q : VK, (∀ p vs H2, H1 p = none → Ext H1 H2 → H2 p = some (.lst vs) → All Rs vs H2 → Q (.ref p) H2) → te σ H1 Q
def EvT (tt : TT) (σ : L2.St) (H : Hp) (b : Bool) : Prop := ∀ H1, Ext H H1 → ∀ Q : Bool → Hp → Prop, (∀ H2, Ext H1 H2 → Q b H2) → tt σ H1 Q
def EvA (ta : TA) (σ : L2.St) (H : Hp) (Rs : List RS) : Prop := ∀ H1, Ext H H1 → ∀ Q : List V → Hp → Prop, (∀ vs H2, Ext H1 H2 → All Rs vs H2 → Q vs H2) → ta σ H1 Q
def RV (r : R2) (x y : V) (H : Hp) (R : RS) : Prop := ∀ Q : VK, (∀ v H2, Ext H H2 → R v H2 → Q v H2) → r x y H Q
section
variable {K : PySem.W.Frag} {σ : L2.St} {H H' : Hp} {ta tb te tc : TE} {t u : TT} {R Ra Rb Rc : RS} {Rs : List RS} {v : V} {r : R2}
theorem Ev.mono (e : Ext H H') (h : Ev te σ H R) : Ev te σ H' R := fun H1 e1 => h H1 (e.trans e1)
theorem EvN.mono (e : Ext H H') (h : EvN te σ H Rs) : EvN te σ H' Rs := fun H1 e1 => h H1 (e.trans e1)
theorem EvT.mono {b : Bool} (e : Ext H H') (h : EvT t σ H b) : EvT t σ H' b := fun H1 e1 => h H1 (e.trans e1)
theorem EvA.mono {ta : TA} (e : Ext H H') (h : EvA ta σ H Rs) : EvA ta σ H' Rs := fun H1 e1 => h H1 (e.trans e1)
theorem EvN.ev (h : EvN te σ H Rs) : Ev te σ H (lstR Rs) := fun H1 e1 Q k => h H1 e1 Q fun p vs H2 _ e q r => k _ _ e ⟨p, vs, rfl, q, r⟩
theorem Ev.imp {R' : RS} (h : Ev te σ H R) (k : ∀ v H1, Ext H H1 → R v H1 → R' v H1) : Ev te σ H R' := fun H1 e1 Q q => h H1 e1 Q fun v H2 e2 r => q v H2 e2 (k v H2 (e1.trans e2) r)
theorem Ev.to {i j : V} (h : Ev te σ H (Is i)) (e : i = j) : Ev te σ H (Is j) := e ▸ h
theorem EvT.to {b b' : Bool} (h : EvT t σ H b) (e : b = b') : EvT t σ H b' := e ▸ h
theorem ev_c : Ev (tC v) σ H (Is v) := fun H1 _ Q k => k v H1 (Ext.refl _) rfl
theorem ev_var {i : Nat} [m : Mono R] (h : σ[i]? = some (some v)) (q : R v H) : Ev (tVar i) σ H R := fun H1 e Q k => ⟨v, h, k v H1 (Ext.refl _) (m.up e q)⟩
theorem ev_is {i : Nat} (h : σ[i]? = some (some v)) : Ev (tVar i) σ H (Is v) := fun H1 e Q k => ⟨v, h, k v H1 (Ext.refl _) rfl⟩
theorem ev_op [m : Mono Ra] (ha : Ev ta σ H Ra) (hb : Ev tb σ H Rb) (k : ∀ x y H1, Ext H H1 → Ra x H1 → Rb y H1 → RV r x y H1 R) : Ev (tOp r ta tb) σ H R := fun H1 e Q q =>
  ha H1 e _ fun x H2 e2 rx => hb H2 (e.trans e2) _ fun y H3 e3 ry => k x y H3 ((e.trans e2).trans e3) (m.up e3 rx) ry Q fun v H4 e4 rv => q v H4 ((e2.trans e3).trans e4) rv
theorem rv_val {x y z : V} (h : ∀ Q : VK, Q z H → r x y H Q) : RV r x y H (Is z) := fun Q k => h Q (k z H (Ext.refl _) rfl)
theorem ev_I0 {g : Int → Int → V} {i j : Int} (ha : Ev ta σ H (IsI i)) (hb : Ev tb σ H (IsI j)) : Ev (tOp (rI0 g) ta tb) σ H (Is (g i j)) :=
  ev_op ha hb fun x y H1 _ rx ry => rv_val fun Q q => ⟨i, j, rx, ry, q⟩
theorem ev_I {C : Int → Int → Prop} {g : Int → Int → V} {i j : Int} (ha : Ev ta σ H (IsI i)) (hb : Ev tb σ H (IsI j)) (hc : C i j) : Ev (tOp (rI C g) ta tb) σ H (Is (g i j)) :=
  ev_op ha hb fun x y H1 _ rx ry => rv_val fun Q q => ⟨i, j, rx, ry, hc, q⟩
theorem ev_eqS {x y : V} (ha : Ev ta σ H (Is x)) (hb : Ev tb σ H (Is y)) (hs : scal x y = true) : Ev (tOp rEq ta tb) σ H (IsB (decide (x = y))) :=
  ev_op ha hb fun x' y' H1 _ rx ry => rv_val fun Q q => by rw [show x' = x from rx, show y' = y from ry]; exact ⟨hs, q⟩
theorem ev_neS {x y : V} (ha : Ev ta σ H (Is x)) (hb : Ev tb σ H (Is y)) (hs : scal x y = true) : Ev (tOp rNe ta tb) σ H (IsB (!decide (x = y))) :=
  ev_op ha hb fun x' y' H1 _ rx ry => rv_val fun Q q => by rw [show x' = x from rx, show y' = y from ry]; exact ⟨hs, q⟩
theorem ev_neg {i : Int} (ha : Ev ta σ H (IsI i)) : Ev (tUn (rU fun i => .int (-i)) ta) σ H (IsI (-i)) := fun H1 e Q q =>
  ha H1 e _ fun x H2 e2 rx => ⟨i, rx, q _ _ e2 rfl⟩
theorem et_test {b : Bool} (h : Ev te σ H (IsB b)) : EvT (tTest te) σ H b := fun H1 e Q k => h H1 e _ fun v H2 e2 q => ⟨b, q, k H2 e2⟩
theorem et_B {b : Bool} (h : Ev te σ H (IsB b)) : EvT (tB te) σ H b := fun H1 e Q k => h H1 e _ fun v H2 e2 q => ⟨b, q, k H2 e2⟩
theorem et_yes : EvT tYes σ H true := fun H1 e Q k => k H1 (Ext.refl _)
theorem et_not {b : Bool} (h : EvT t σ H b) : EvT (tNot t) σ H (!b) := fun H1 e Q k => h H1 e _ fun H2 e2 => k H2 e2
theorem et_and {a b : Bool} (h1 : EvT t σ H a) (h2 : a = true → EvT u σ H b) : EvT (tAnd t u) σ H (a && b) := fun H1 e Q k => h1 H1 e _ fun H2 e2 => by
  cases a with
  | false => exact iteF (k H2 e2)
  | true => exact iteT (h2 rfl H2 (e.trans e2) _ fun H3 e3 => k H3 (e2.trans e3))
theorem et_or {a b : Bool} (h1 : EvT t σ H a) (h2 : a = false → EvT u σ H b) : EvT (tOr t u) σ H (a || b) := fun H1 e Q k => h1 H1 e _ fun H2 e2 => by
  cases a with
  | false => exact iteF (h2 rfl H2 (e.trans e2) _ fun H3 e3 => k H3 (e2.trans e3))
  | true => exact iteT (k H2 e2)
theorem ev_andV {a b : Bool} (h1 : Ev ta σ H (IsB a)) (h2 : a = true → Ev tb σ H (IsB b)) : Ev (tAndV ta tb) σ H (IsB (a && b)) := fun H1 e Q k => h1 H1 e _ fun x H2 e2 rx => ⟨a, rx, by
  cases a with
  | false => exact iteF (k _ H2 e2 rfl)
  | true => exact iteT (h2 rfl H2 (e.trans e2) _ fun v H3 e3 r => k v H3 (e2.trans e3) r)⟩
theorem ev_orV {a b : Bool} (h1 : Ev ta σ H (IsB a)) (h2 : a = false → Ev tb σ H (IsB b)) : Ev (tOrV ta tb) σ H (IsB (a || b)) := fun H1 e Q k => h1 H1 e _ fun x H2 e2 rx => ⟨a, rx, by
  cases a with
  | false => exact iteF (h2 rfl H2 (e.trans e2) _ fun v H3 e3 r => k v H3 (e2.trans e3) r)
  | true => exact iteT (k _ H2 e2 rfl)⟩
theorem ev_notV {a : Bool} (h1 : Ev ta σ H (IsB a)) : Ev (tNotV ta) σ H (IsB (!a)) := fun H1 e Q k => h1 H1 e _ fun x H2 e2 rx => ⟨a, rx, k _ H2 e2 rfl⟩
theorem ev_ifE {b : Bool} (h : EvT t σ H b) (h1 : b = true → Ev ta σ H R) (h2 : b = false → Ev tb σ H R) : Ev (tIf t ta tb) σ H R := fun H1 e Q k => h H1 e _ fun H2 e2 => by
  cases b with
  | false => exact iteF (h2 rfl H2 (e.trans e2) _ fun v H3 e3 r => k v H3 (e2.trans e3) r)
  | true => exact iteT (h1 rfl H2 (e.trans e2) _ fun v H3 e3 r => k v H3 (e2.trans e3) r)
theorem ev_chain {r' : R2} {a b : Bool} [m : Mono Ra] [m' : Mono Rb] (ha : Ev ta σ H Ra) (hb : Ev tb σ H Rb) (hc : a = true → Ev tc σ H Rc) (k1 : ∀ x y H1, Ext H H1 → Ra x H1 → Rb y H1 → RV r x y H1 (IsB a))
    (k2 : a = true → ∀ x y H1, Ext H H1 → Rb x H1 → Rc y H1 → RV r' x y H1 (IsB b)) : Ev (tChain r r' ta tb tc) σ H (IsB (a && b)) := fun H1 e Q q =>
  ha H1 e _ fun x H2 e2 rx => hb H2 (e.trans e2) _ fun y H3 e3 ry => k1 x y H3 ((e.trans e2).trans e3) (m.up e3 rx) ry _ fun z H4 e4 rz => ⟨a, rz, by
    cases a with
    | false => exact iteF (q _ H4 ((e2.trans e3).trans e4) rfl)
    | true => exact iteT (hc rfl H4 (((e.trans e2).trans e3).trans e4) _ fun w H5 e5 rw => k2 rfl y w H5 ((((e.trans e2).trans e3).trans e4).trans e5) (m'.up (e4.trans e5) ry) rw _ fun v H6 e6 rv =>
        q v H6 ((((e2.trans e3).trans e4).trans e5).trans e6) rv)⟩
theorem ea_nil : EvA tNil σ H [] := fun H1 e Q k => k [] H1 (Ext.refl _) .nil
theorem ea_cons {tr : TA} [m : Mono R] (h : Ev te σ H R) (hr : EvA tr σ H Rs) : EvA (tCons te tr) σ H (R :: Rs) := fun H1 e Q k =>
  h H1 e _ fun v H2 e2 rv => hr H2 (e.trans e2) _ fun vs H3 e3 rs => k (v :: vs) H3 (e2.trans e3) (.cons (m.up e3 rv) rs)
theorem ev_tup {ta : TA} [m : AllM Rs] (h : EvA ta σ H Rs) (hl : Rs.length ≤ sizeLine) : Ev (tTup ta) σ H (tupR Rs) := fun H1 e Q k =>
  h H1 e _ fun vs H2 e2 rs => ⟨by rw [rs.length]; exact hl, fun p hp => k _ _ (e2.trans (Ext.new _ hp)) ⟨p, vs, rfl, upd_same, rs.up (Ext.new _ hp)⟩⟩
theorem ev_lst {ta : TA} [m : AllM Rs] (h : EvA ta σ H Rs) (hl : Rs.length ≤ sizeLine) : EvN (tLst ta) σ H Rs := fun H1 e Q k =>
  h H1 e _ fun vs H2 e2 rs => ⟨by rw [rs.length]; exact hl, fun p hp => k p vs _ (e2.fresh hp) (e2.trans (Ext.new _ hp)) upd_same (rs.up (Ext.new _ hp))⟩
theorem ev_cb {rr : List V → Hp → VK → Prop} {ta : TA} (h : EvA ta σ H Rs) (k : ∀ vs H1, Ext H H1 → All Rs vs H1 → ∀ Q : VK, (∀ v H2, Ext H1 H2 → R v H2 → Q v H2) → rr vs H1 Q) : Ev (tCB rr ta) σ H R := fun H1 e Q q =>
  h H1 e _ fun vs H2 e2 rs => k vs H2 (e.trans e2) rs Q fun v H3 e3 rv => q v H3 (e2.trans e3) rv
def SpR (Rs : List RS) (R : RS) : Sp := fun vs H Q _ => All Rs vs H ∧ ∀ v H', Ext H H' → R v H' → Q v H'
theorem ev_call {sp : Sp} {E : XK} {ta : TA} (h : EvA ta σ H Rs) (hs : ∀ vs H1 Q E, SpR Rs R vs H1 Q E → sp vs H1 Q E) : Ev (tCall sp [] E ta) σ H R := fun H1 e Q q =>
  h H1 e _ fun vs H2 e2 rs => by
    rw [List.append_nil]
    exact hs vs H2 Q E ⟨rs, fun v H3 e3 rv => q v H3 (e2.trans e3) rv⟩
def SpN (Rs Ss : List RS) : Sp := fun vs H Q _ => All Rs vs H ∧ ∀ p ws H', H p = none → Ext H H' → H' p = some (.lst ws) → All Ss ws H' → Q (.ref p) H'
theorem ev_callN {sp : Sp} {E : XK} {ta : TA} {Ss : List RS} (h : EvA ta σ H Rs) (hs : ∀ vs H1 Q E, SpN Rs Ss vs H1 Q E → sp vs H1 Q E) : EvN (tCall sp [] E ta) σ H Ss := fun H1 e Q q =>
  h H1 e _ fun vs H2 e2 rs => by
    rw [List.append_nil]
    exact hs vs H2 Q E ⟨rs, fun p ws H3 hp e3 h3 r3 => q p ws H3 (e2.fresh hp) (e2.trans e3) h3 r3⟩
def InsR (C : Addr) (fs : List (Str × V)) : RS := fun v H => ∃ a dx, v = .ref a ∧ H a = some (.ins C dx fs)
instance {C : Addr} {fs : List (Str × V)} : Mono (InsR C fs) := ⟨fun e ⟨a, dx, e1, e2⟩ => ⟨a, dx, e1, e.at e2⟩⟩
theorem ev_fld {f : Str} (ha : Ev ta σ H Ra) (k : ∀ x H1, Ra x H1 → ∃ a C dx fs v, x = .ref a ∧ H1 a = some (.ins C dx fs) ∧ Cls K C ∧ NoAttr K C f ∧ fs.lookup f = some v ∧ R v H1) : Ev (tFld K ta f) σ H R := fun H1 e Q q =>
  ha H1 e _ fun x H2 e2 rx => by
    obtain ⟨a, C, dx, fs, v, h1, h2, h3, h4, h5, h6⟩ := k x H2 rx
    exact ⟨a, C, dx, fs, v, h1, h2, h3, h4, h5, q v H2 e2 h6⟩
theorem ev_meth {C : Addr} {m : Str} {sp : Sp} {E : XK} {t : TA} [mm : Mono Ra] (ha : Ev ta σ H Ra) (hi : ∀ x H1, Ra x H1 → ∃ a dx fs, x = .ref a ∧ H1 a = some (.ins C dx fs) ∧ fs.lookup m = none) (ht : EvA t σ H Rs)
    (hs : ∀ vs H1 Q E, SpR (Ra :: Rs) R vs H1 Q E → sp vs H1 Q E) : Ev (tMeth C m sp [] E ta t) σ H R := fun H1 e Q q =>
  ha H1 e _ fun x H2 e2 rx => by
    obtain ⟨a, dx, fs, h1, h2, h3⟩ := hi x H2 rx
    refine ⟨a, dx, fs, h1, h2, h3, ht H2 (e.trans e2) _ fun vs H3 e3 rs => ?_⟩
    rw [List.append_nil]
    exact hs _ H3 Q E ⟨.cons (mm.up e3 rx) rs, fun v H4 e4 rv => q v H4 ((e2.trans e3).trans e4) rv⟩
theorem ev_methN {C : Addr} {m : Str} {sp : Sp} {E : XK} {t : TA} {Ss : List RS} [mm : Mono Ra] (ha : Ev ta σ H Ra) (hi : ∀ x H1, Ra x H1 → ∃ a dx fs, x = .ref a ∧ H1 a = some (.ins C dx fs) ∧ fs.lookup m = none) (ht : EvA t σ H Rs)
    (hs : ∀ vs H1 Q E, SpN (Ra :: Rs) Ss vs H1 Q E → sp vs H1 Q E) : EvN (tMeth C m sp [] E ta t) σ H Ss := fun H1 e Q q =>
  ha H1 e _ fun x H2 e2 rx => by
    obtain ⟨a, dx, fs, h1, h2, h3⟩ := hi x H2 rx
    refine ⟨a, dx, fs, h1, h2, h3, ht H2 (e.trans e2) _ fun vs H3 e3 rs => ?_⟩
    rw [List.append_nil]
    exact hs _ H3 Q E ⟨.cons (mm.up e3 rx) rs, fun p ws H4 hp e4 h4 r4 => q p ws H4 ((e2.trans e3).fresh hp) ((e2.trans e3).trans e4) h4 r4⟩
variable {D : Ends} {tu tw : TS}
theorem sq {t u : TS} (h : t { D with nx := u D } σ H) : tSeq t u D σ H := h
theorem s_set {i : Nat} (h : Ev te σ H R) (k : ∀ v H1, Ext H H1 → R v H1 → D.nx (σ.set i (some v)) H1) : tAsg te (gName i) D σ H := h H (Ext.refl _) _ fun v H1 e r => k v H1 e r
theorem s_setN {i : Nat} (h : EvN te σ H Rs) (k : ∀ p vs H1, H p = none → Ext H H1 → H1 p = some (.lst vs) → All Rs vs H1 → D.nx (σ.set i (some (.ref p))) H1) : tAsg te (gName i) D σ H := h H (Ext.refl _) _ fun p vs H1 n e q r => k p vs H1 n e q r
theorem s_ret (h : Ev te σ H R) (k : ∀ v H1, Ext H H1 → R v H1 → D.rt v H1) : tRet te D σ H := h H (Ext.refl _) _ k
theorem s_retN (h : EvN te σ H Rs) (k : ∀ p vs H1, H p = none → Ext H H1 → H1 p = some (.lst vs) → All Rs vs H1 → D.rt (.ref p) H1) : tRet te D σ H := h H (Ext.refl _) _ k
theorem s_if {b : Bool} (h : EvT t σ H b) (h1 : b = true → ∀ H1, Ext H H1 → tu D σ H1) (h2 : b = false → ∀ H1, Ext H H1 → tw D σ H1) : tIfS t tu tw D σ H := h H (Ext.refl _) _ fun H1 e => by
  cases b with
  | false => exact iteF (h2 rfl H1 e)
  | true => exact iteT (h1 rfl H1 e)
theorem s_drop (h : Ev te σ H R) (k : ∀ v H1, Ext H H1 → R v H1 → D.nx σ H1) : tDrop te D σ H := h H (Ext.refl _) _ k
theorem s_app {l : Addr} {xs : List V} (hl : H l = some (.lst xs)) (ha : Ev ta σ H (Is (.ref l))) (h : Ev te σ H R) (hz : xs.length < sizeLine) (k : ∀ v H1, Ext H H1 → R v H1 → D.nx σ (upd H1 l (.lst (xs ++ [v])))) :
    tDrop (tBM K "list" rAppend ta (tCons te tNil)) D σ H := ha H (Ext.refl _) _ fun x H1 e1 rx => by
  rw [show x = .ref l from rx]
  have h1 := e1.at hl
  refine ⟨.inl ⟨rfl, _, SqL.of h1⟩, h H1 e1 _ fun v H2 e2 rv => ?_⟩
  exact ⟨l, xs, v, rfl, rfl, e2.at h1, hz, k v H2 (e1.trans e2) rv⟩
end
def SpMk (C : Addr) (Rs : List RS) (R : RS) : Sp := fun vs H Q _ => ∃ (x dx : Addr) (rest : List V) (Hb : Hp), vs = .ref x :: rest ∧ Hb x = none ∧ H x = some (.ins C dx []) ∧ Ext Hb H ∧ All Rs rest Hb ∧ ∀ H', Ext Hb H' → R (.ref x) H' → Q .non H'
theorem SpMk.len {C : Addr} {Rs : List RS} {R : RS} {vs : List V} {H : Hp} {Q : VK} {E : XK} (h : SpMk C Rs R vs H Q E) : vs.length = Rs.length + 1 := by
  obtain ⟨x, dx, rest, Hb, rfl, _, _, _, r, _⟩ := h
  rw [List.length_cons, r.length]
theorem ev_mk {C : Addr} {sp : Sp} {E : XK} {ta : TA} {Rs : List RS} {R : RS} {σ : L2.St} {H : Hp} (h : EvA ta σ H Rs) (hs : ∀ vs H1 Q E, SpMk C Rs R vs H1 Q E → sp vs H1 Q E) : Ev (tMake C sp [] E ta) σ H R := fun H1 e Q q =>
  h H1 e _ fun vs H2 e2 rs x dx hx hdx hne => by
    rw [List.append_nil]
    refine hs _ _ _ E ⟨x, dx, vs, H2, rfl, hx, upd_same, ?_, rs, fun H' e' r => ⟨rfl, q _ H' (e2.trans e') r⟩⟩
    refine (Ext.new _ hdx).trans (Ext.new _ ?_)
    rw [upd_ne (fun z => hne z.symm)]
    exact hx
theorem s_fldx {K : PySem.W.Frag} {ta tv : TE} {f : Str} {D : Ends} {σ : L2.St} {H : Hp} {x C dx : Addr} {fs : List (Str × V)} {R : RS} (hx : H x = some (.ins C dx fs)) (hc : Cls K C) (hn : NoAttr K C f) (hl : fs.length < 1000) (hv : Ev tv σ H R) (ha : Ev ta σ H (Is (.ref x))) [TMono R]
    (k : ∀ v H1, Ext H H1 → R v H1 → D.nx σ (upd H1 x (.ins C dx (putF f v fs)))) : sFld K ta tv f D σ H :=
  hv H (Ext.refl _) _ fun v H1 e1 rv => ha H1 e1 _ fun y H2 e2 ry => by
    obtain rfl : y = .ref x := ry
    exact ⟨x, C, dx, fs, rfl, e2.at (e1.at hx), hc, hn, hl, k v H2 (e1.trans e2) (TMono.up e2.t rv)⟩
theorem s_fldM {K : PySem.W.Frag} {ta tv : TE} {f : Str} {D : Ends} {σ : L2.St} {H : Hp} {x C dx : Addr} {fs : List (Str × V)} {R : RS} (hx : H x = some (.ins C dx fs)) (hc : Cls K C) (hn : NoAttr K C f) (hl : fs.length < 1000) (hv : Ev tv σ H R) (ha : Ev ta σ H (Is (.ref x))) [Mono R]
    (k : ∀ v H1, Ext H H1 → R v H1 → D.nx σ (upd H1 x (.ins C dx (putF f v fs)))) : sFld K ta tv f D σ H :=
  hv H (Ext.refl _) _ fun v H1 e1 rv => ha H1 e1 _ fun y H2 e2 ry => by
    obtain rfl : y = .ref x := ry
    exact ⟨x, C, dx, fs, rfl, e2.at (e1.at hx), hc, hn, hl, k v H2 (e1.trans e2) (Mono.up e2 rv)⟩
theorem lstR.upd {Rs : List RS} [AllT Rs] {v : V} {H : Hp} {x C dx : Addr} {fs : List (Str × V)} {o : HO} (h : lstR Rs v H) (hx : H x = some (.ins C dx fs)) : lstR Rs v (L2.upd H x o) := by
  obtain ⟨a, vs, rfl, h1, r⟩ := h
  refine ⟨a, vs, rfl, ?_, r.upT (TEx.upd hx trivial)⟩
  rw [upd_ne (ne_of h1 hx (fun z => nomatch z))]
  exact h1
end SP
end
section
set_option Elab.async false
set_option linter.all false
set_option maxRecDepth 100000
set_option maxHeartbeats 2000000
namespace SP
open PySem L2
class GMono (g : TG) : Prop where
  imp : ∀ {x : V} {σ : L2.St} {H : Hp} {K1 K2 : L2.St → Hp → Prop}, (∀ σ H, K1 σ H → K2 σ H) → g x σ H K1 → g x σ H K2
class GsMono (t : TGs) : Prop where
  imp : ∀ {x : List V} {σ : L2.St} {H : Hp} {K1 K2 : L2.St → Hp → Prop}, (∀ σ H, K1 σ H → K2 σ H) → t x σ H K1 → t x σ H K2
instance {i : Nat} : GMono (gName i) := ⟨fun k h => k _ _ h⟩
instance : GsMono gNil := ⟨fun k ⟨a, b⟩ => ⟨a, k _ _ b⟩⟩
instance {t : TG} {u : TGs} [m : GMono t] [n : GsMono u] : GsMono (gCons t u) := ⟨fun k ⟨v, r, e, h⟩ => ⟨v, r, e, m.imp (fun σ H q => n.imp k q) h⟩⟩
instance {K : PySem.W.Frag} {n : Nat} {t : TGs} [m : GsMono t] : GMono (gTup K n t) := ⟨fun k ⟨a, xs, e, h1, h2, h⟩ => ⟨a, xs, e, h1, h2, m.imp k h⟩⟩
def SrcG {α : Type} (J : It) (Hb H2 : Hp) (xs : List α) (A : α → RS) : Prop :=
  Walk J xs.length (fun H' => Ext Hb H' ∧ TEx H2 H') (fun i H' x H'' => Ext H' H'' ∧ ∃ a, xs[i]? = some a ∧ A a x H'')
def SrcD {α : Type} (wi : TI) (σ : L2.St) (H : Hp) (xs : List α) (A : α → RS) : Prop := ∀ H1, Ext H H1 → ∀ R : It → Hp → Prop, (∀ J H2, Ext H1 H2 → SrcG J H2 H2 xs A → R J H2) → wi σ H1 R
def SrcB {α : Type} (wi : TI) (σ : L2.St) (Hb H : Hp) (xs : List α) (A : α → RS) : Prop := ∀ H1, Ext Hb H1 → TEx H H1 → ∀ R : It → Hp → Prop, (∀ J H2, Ext H1 H2 → SrcG J Hb H2 xs A → R J H2) → wi σ H1 R
section
variable {α β : Type} {K : PySem.W.Frag} {σ : L2.St} {H H2 Hb : Hp} {te tl : TE} {tt : TT} {a : Addr} {vs ws : List V} {xs : List α} {ys : List β} {A : α → RS} {B : β → RS}
theorem all_at {A : α → RS} {xs : List α} {vs : List V} {H : Hp} (r : All (xs.map A) vs H) {i : Nat} {v : V} (h : vs[i]? = some v) : ∃ a, xs[i]? = some a ∧ A a v H := by
  obtain ⟨R, h1, h2⟩ := r.getV h
  rw [List.getElem?_map] at h1
  cases e : xs[i]? with
  | none => rw [e] at h1; simp at h1
  | some x =>
    rw [e] at h1
    have z : A x = R := Option.some.inj h1
    exact ⟨x, rfl, by rw [z]; exact h2⟩
theorem all_len {A : α → RS} {xs : List α} {vs : List V} {H : Hp} (r : All (xs.map A) vs H) : vs.length = xs.length := by rw [r.length, List.length_map]
theorem srcG_list [m : ∀ x, TMono (A x)] (hp : Hb a = some (.lst vs)) (r : All (xs.map A) vs H2) : SrcG (Itl K a) Hb H2 xs A := by
  unfold SrcG
  rw [← all_len r]
  exact walk_list.mono (fun H' q => SqL.of (q.1.at hp)) fun i H' x H'' _ q ⟨e1, e2⟩ => by
    subst e1
    exact ⟨Ext.refl _, all_at (r.upT q.2) e2⟩
theorem srcG_listM [m : ∀ x, Mono (A x)] (hp : H2 a = some (.lst vs)) (r : All (xs.map A) vs H2) : SrcG (Itl K a) H2 H2 xs A := by
  unfold SrcG
  rw [← all_len r]
  exact walk_list.mono (fun H' q => SqL.of (q.1.at hp)) fun i H' x H'' _ q ⟨e1, e2⟩ => by
    subst e1
    haveI : AllM (xs.map A) := ⟨fun S hS => by obtain ⟨x, _, rfl⟩ := List.mem_map.mp hS; exact m x⟩
    exact ⟨Ext.refl _, all_at (r.up q.1) e2⟩
theorem srcG_tup [m : ∀ x, TMono (A x)] (hp : Rd H2 a (.tup vs)) (r : All (xs.map A) vs H2) : SrcG (Itt K a) Hb H2 xs A := by
  unfold SrcG
  rw [← all_len r]
  exact walk_tup.mono (fun H' q => .inl (q.2.rd hp)) fun i H' x H'' _ q ⟨e1, e2⟩ => by
    subst e1
    exact ⟨Ext.refl _, all_at (r.upT q.2) e2⟩
theorem srcG_range {n : Nat} : SrcG (Itr 0 n) Hb H2 (List.range n) (fun i => IsI (i : Nat)) := by
  unfold SrcG
  rw [List.length_range]
  exact walk_range.mono (fun _ _ => trivial) fun i H' x H'' hi _ ⟨e1, e2⟩ => by
    subst e1
    refine ⟨Ext.refl _, i, by rw [List.getElem?_range hi], ?_⟩
    show x = V.int (i : Int)
    rw [e2]
    show V.int (0 + (i : Int)) = _
    rw [Int.zero_add]
theorem srcG_range2 {lo : Int} {n : Nat} : SrcG (Itr lo n) Hb H2 (List.range n) (fun i => IsI (lo + (i : Nat))) := by
  unfold SrcG
  rw [List.length_range]
  exact walk_range.mono (fun _ _ => trivial) fun i H' x H'' hi _ ⟨e1, e2⟩ => by
    subst e1
    exact ⟨Ext.refl _, i, by rw [List.getElem?_range hi], e2⟩
theorem srcD_list [m : ∀ x, Mono (A x)] (h : Ev tl σ H (lstR (xs.map A))) : SrcD (iList K tl) σ H xs A := fun H1 e R k =>
  h H1 e _ fun v H2 e2 ⟨a, vs, h1, h2, r⟩ => ⟨a, h1, ⟨vs, SqL.of h2⟩, k _ H2 e2 (srcG_listM h2 r)⟩
theorem srcD_tup [m : ∀ x, TMono (A x)] (h : Ev tl σ H (tupF (xs.map A))) : SrcD (iTup K tl) σ H xs A := fun H1 e R k =>
  h H1 e _ fun v H2 e2 ⟨a, vs, h1, h2, r⟩ => ⟨a, h1, ⟨vs, .inl h2⟩, k _ H2 e2 (srcG_tup h2 r)⟩
theorem srcD_range {ta : TA} {n : Nat} (h : EvA ta σ H [IsI n]) (hn : n ≤ 1000000) : SrcD (iRng1 ta) σ H (List.range n) (fun i => IsI (i : Nat)) := fun H1 e R k =>
  h H1 e _ fun vs H2 e2 r => by
    cases r with
    | cons a t =>
      cases t
      refine ⟨(n : Int), by rw [show _ = V.int (n : Int) from a], by omega, by omega, ?_⟩
      rw [Int.toNat_natCast]
      exact k _ H2 e2 srcG_range
theorem srcD_range2 {ta : TA} {lo n : Nat} (h : EvA ta σ H [IsI lo, IsI n]) (hn : n ≤ 1000000) (hl : lo ≤ 1000000) : SrcD (iRng2 ta) σ H (List.range (n - lo)) (fun i => IsI ((lo + i : Nat) : Int)) := fun H1 e R k =>
  h H1 e _ fun vs H2 e2 r => by
    cases r with
    | cons a t =>
      cases t with
      | cons b t =>
        cases t
        refine ⟨(lo : Int), (n : Int), by rw [show _ = V.int (lo : Int) from a, show _ = V.int (n : Int) from b], ⟨by omega, by omega, by omega, by omega⟩, ?_⟩
        have e3 : ((n : Int) - (lo : Int)).toNat = n - lo := by omega
        rw [e3]
        refine k _ H2 e2 ?_
        have q := srcG_range2 (Hb := H2) (H2 := H2) (lo := (lo : Int)) (n := n - lo)
        exact q
theorem srcB_range {ta : TA} {n : Nat} (h : EvA ta σ Hb [IsI n]) (hn : n ≤ 1000000) : SrcB (iRng1 ta) σ Hb H (List.range n) (fun i => IsI (i : Nat)) := fun H1 e _ R k =>
  h H1 e _ fun vs H2 e2 r => by
    cases r with
    | cons a t =>
      cases t
      refine ⟨(n : Int), by rw [show _ = V.int (n : Int) from a], by omega, by omega, ?_⟩
      rw [Int.toNat_natCast]
      exact k _ H2 e2 srcG_range
theorem srcB_list {v : V} [m : ∀ x, TMono (A x)] (h : Ev tl σ Hb (Is v)) (r : lstR (xs.map A) v Hb) : SrcB (iList K tl) σ Hb H xs A := fun H1 e et R k =>
  h H1 e _ fun v' H2 e2 ev => by
    obtain ⟨a, vs, h1, h2, r⟩ := r
    rw [show v' = v from ev, h1]
    exact ⟨a, rfl, ⟨vs, SqL.of (e2.at (e.at h2))⟩, k _ H2 e2 (srcG_list h2 (r.upT (e.t.trans e2.t)))⟩
theorem srcB_tup [m : ∀ x, TMono (A x)] (h : Ev tl σ Hb (tupF (xs.map A))) : SrcB (iTup K tl) σ Hb H xs A := fun H1 e et R k =>
  h H1 e _ fun v' H2 e2 ⟨a, vs, h1, h2, r⟩ => ⟨a, h1, ⟨vs, .inl h2⟩, k _ H2 e2 (srcG_tup h2 r)⟩
theorem pair_of {T : Addr} {x y : V} {Rx Ry : RS} [TMono Rx] [TMono Ry] {H' : Hp} (n : H' T = none) (hx : Rx x H') (hy : Ry y H') : Ext H' (upd H' T (.tup [x, y])) ∧ tupR [Rx, Ry] (.ref T) (upd H' T (.tup [x, y])) := by
  have e : Ext H' (upd H' T (.tup [x, y])) := Ext.new _ n
  exact ⟨e, T, [x, y], rfl, upd_same, .cons (TMono.up e.t hx) (.cons (TMono.up e.t hy) .nil)⟩
theorem pair_ofM {T : Addr} {x y : V} {Rx Ry : RS} [Mono Rx] [Mono Ry] {H' : Hp} (n : H' T = none) (hx : Rx x H') (hy : Ry y H') : Ext H' (upd H' T (.tup [x, y])) ∧ tupR [Rx, Ry] (.ref T) (upd H' T (.tup [x, y])) := by
  have e : Ext H' (upd H' T (.tup [x, y])) := Ext.new _ n
  exact ⟨e, T, [x, y], rfl, upd_same, .cons (Mono.up e hx) (.cons (Mono.up e hy) .nil)⟩
theorem zip_at {xs : List α} {ys : List β} {i : Nat} {x : α} {y : β} (h1 : xs[i]? = some x) (h2 : ys[i]? = some y) : (xs.zip ys)[i]? = some (x, y) := by
  rw [List.getElem?_zip_eq_some]
  exact ⟨h1, h2⟩
theorem srcG_zipL {a b : Addr} [m1 : ∀ x, TMono (A x)] [m2 : ∀ y, TMono (B y)] (h1 : Hb a = some (.lst vs)) (h2 : Hb b = some (.lst ws)) (r1 : All (xs.map A) vs H2) (r2 : All (ys.map B) ws H2) :
    SrcG (Itz K a b) Hb H2 (xs.zip ys) (fun p => tupR [A p.1, B p.2]) := by
  unfold SrcG
  have hn : (xs.zip ys).length = min vs.length ws.length := by rw [List.length_zip, all_len r1, all_len r2]
  refine (walk_zip hn).mono (fun H' q => ⟨SqL.of (q.1.at h1), SqL.of (q.1.at h2)⟩) fun i H' x H'' _ q y => ?_
  obtain ⟨T, u, w, rfl, hT, rfl, e1, e2⟩ := y
  obtain ⟨p, p1, p2⟩ := all_at (r1.upT q.2) e1
  obtain ⟨s, s1, s2⟩ := all_at (r2.upT q.2) e2
  obtain ⟨e, z⟩ := pair_of hT p2 s2
  exact ⟨e, (p, s), zip_at p1 s1, z⟩
theorem srcG_zipLM {a b : Addr} [m1 : ∀ x, Mono (A x)] [m2 : ∀ y, Mono (B y)] (h1 : H2 a = some (.lst vs)) (h2 : H2 b = some (.lst ws)) (r1 : All (xs.map A) vs H2) (r2 : All (ys.map B) ws H2) :
    SrcG (Itz K a b) H2 H2 (xs.zip ys) (fun p => tupR [A p.1, B p.2]) := by
  unfold SrcG
  have hn : (xs.zip ys).length = min vs.length ws.length := by rw [List.length_zip, all_len r1, all_len r2]
  haveI : AllM (xs.map A) := ⟨fun S hS => by obtain ⟨x, _, rfl⟩ := List.mem_map.mp hS; exact m1 x⟩
  haveI : AllM (ys.map B) := ⟨fun S hS => by obtain ⟨x, _, rfl⟩ := List.mem_map.mp hS; exact m2 x⟩
  refine (walk_zip hn).mono (fun H' q => ⟨SqL.of (q.1.at h1), SqL.of (q.1.at h2)⟩) fun i H' x H'' _ q y => ?_
  obtain ⟨T, u, w, rfl, hT, rfl, e1, e2⟩ := y
  obtain ⟨p, p1, p2⟩ := all_at (r1.up q.1) e1
  obtain ⟨s, s1, s2⟩ := all_at (r2.up q.1) e2
  obtain ⟨e, z⟩ := pair_ofM hT p2 s2
  exact ⟨e, (p, s), zip_at p1 s1, z⟩
theorem walk_zipT {a b : Addr} {vs ws : List V} {n : Nat} (hn : n = min vs.length ws.length) : Walk (RZ.ItzT K a b) n (fun H => SqT K H a vs ∧ SqT K H b ws) (YPair (fun i => vs[i]?) (fun i => ws[i]?)) := by
  subst hn
  refine ⟨fun i _ hi q => ?_, fun _ q => ⟨vs, ws, q.1, q.2, by omega⟩, fun i H v H' _ q y => ?_⟩
  · have h1 : i < vs.length := by omega
    have h2 : i < ws.length := by omega
    exact ⟨vs, ws, vs[i], ws[i], q.1, q.2, by simp [h1], by simp [h2]⟩
  · obtain ⟨T, x, z, h1, h2, h3, h4, h5⟩ := y
    exact ⟨T, x, z, h1, h2, h3, h4 vs q.1, h5 ws q.2⟩
theorem srcG_zipT {a b : Addr} [m1 : ∀ x, TMono (A x)] [m2 : ∀ y, TMono (B y)] (h1 : Rd H2 a (.tup vs)) (h2 : Rd H2 b (.tup ws)) (r1 : All (xs.map A) vs H2) (r2 : All (ys.map B) ws H2) :
    SrcG (RZ.ItzT K a b) Hb H2 (xs.zip ys) (fun p => tupR [A p.1, B p.2]) := by
  unfold SrcG
  have hn : (xs.zip ys).length = min vs.length ws.length := by rw [List.length_zip, all_len r1, all_len r2]
  refine (walk_zipT hn).mono (fun H' q => ⟨.inl (q.2.rd h1), .inl (q.2.rd h2)⟩) fun i H' x H'' _ q y => ?_
  obtain ⟨T, u, w, rfl, hT, rfl, e1, e2⟩ := y
  obtain ⟨p, p1, p2⟩ := all_at (r1.upT q.2) e1
  obtain ⟨s, s1, s2⟩ := all_at (r2.upT q.2) e2
  obtain ⟨e, z⟩ := pair_of hT p2 s2
  exact ⟨e, (p, s), zip_at p1 s1, z⟩
theorem srcD_zipL {ta : TA} [m1 : ∀ x, Mono (A x)] [m2 : ∀ y, Mono (B y)] (h : EvA ta σ H [lstR (xs.map A), lstR (ys.map B)]) : SrcD (RZ.iZipA K ta) σ H (xs.zip ys) (fun p => tupR [A p.1, B p.2]) := fun H1 e R k =>
  h H1 e _ fun us H2 e2 r => by
    cases r with
    | cons r1 t =>
      cases t with
      | cons r2 t =>
        cases t
        obtain ⟨a, vs, rfl, h1, q1⟩ := r1
        obtain ⟨b, ws, rfl, h2, q2⟩ := r2
        exact ⟨a, b, vs, ws, rfl, .inl ⟨SqL.of h1, SqL.of h2, k _ H2 e2 (srcG_zipLM h1 h2 q1 q2)⟩⟩
theorem srcD_zipT {ta : TA} [m1 : ∀ x, TMono (A x)] [m2 : ∀ y, TMono (B y)] (h : EvA ta σ H [tupF (xs.map A), tupF (ys.map B)]) : SrcD (RZ.iZipA K ta) σ H (xs.zip ys) (fun p => tupR [A p.1, B p.2]) := fun H1 e R k =>
  h H1 e _ fun us H2 e2 r => by
    cases r with
    | cons r1 t =>
      cases t with
      | cons r2 t =>
        cases t
        obtain ⟨a, vs, rfl, h1, q1⟩ := r1
        obtain ⟨b, ws, rfl, h2, q2⟩ := r2
        exact ⟨a, b, vs, ws, rfl, .inr ⟨.inl h1, .inl h2, k _ H2 e2 (srcG_zipT h1 h2 q1 q2)⟩⟩
theorem srcG_map {γ : Type} {J : It} {g : γ → α} {zs : List γ} (h : SrcG J Hb H2 (zs.map g) A) : SrcG J Hb H2 zs (fun c => A (g c)) := by
  unfold SrcG at h ⊢
  rw [List.length_map] at h
  refine ⟨h.goes, h.stops, fun i H' x H'' hi q y => ?_⟩
  obtain ⟨e, a, ha, hA⟩ := h.yields i H' x H'' hi q y
  rw [List.getElem?_map] at ha
  cases hz : zs[i]? with
  | none => rw [hz] at ha; cases ha
  | some c => rw [hz] at ha; exact ⟨e, c, rfl, by rw [← Option.some.inj ha] at hA; exact hA⟩
theorem srcD_map {γ : Type} {wi : TI} {g : γ → α} {zs : List γ} (h : SrcD wi σ H (zs.map g) A) : SrcD wi σ H zs (fun c => A (g c)) := fun H1 e R k => h H1 e R fun J H2 e2 q => k J H2 e2 (srcG_map q)
theorem SrcD.imp {wi : TI} {A' : α → RS} (h : SrcD wi σ H xs A) (k : ∀ a x H1, A a x H1 → A' a x H1) : SrcD wi σ H xs A' := fun H1 e R q => h H1 e R fun J H2 e2 s => q J H2 e2 ⟨s.goes, s.stops, fun i H' x H'' hi g y => by
  obtain ⟨e, a, ha, hA⟩ := s.yields i H' x H'' hi g y
  exact ⟨e, a, ha, k a x H'' hA⟩⟩
theorem g_pair {i j : Nat} {σ : L2.St} {H : Hp} {v : V} {Ra Rb : RS} {k : L2.St → Hp → Prop} (h : tupR [Ra, Rb] v H) (q : ∀ x y, Ra x H → Rb y H → k ((σ.set i (some x)).set j (some y)) H) :
    gTup K 2 (gCons (gName i) (gCons (gName j) gNil)) v σ H k := by
  obtain ⟨a, vs, rfl, h1, r⟩ := h
  cases r with
  | cons r1 t =>
    cases t with
    | cons r2 t =>
      cases t
      exact ⟨a, _, rfl, SqT.of h1, rfl, _, _, rfl, _, _, rfl, rfl, q _ _ r1 r2⟩
theorem for_src {J : It} {g : TG} {tb : TS} {D : Ends} (s : SrcG J Hb H2 xs A) (Pv : Nat → L2.St → Hp → Prop) (e2 : Ext Hb H2) (h0 : Pv 0 σ H2)
    (hs : ∀ i a x σ' H0 H', xs[i]? = some a → Ext Hb H0 → TEx H2 H0 → Pv i σ' H0 → Ext H0 H' → A a x H' →
      g x σ' H' fun σ3 H3 => tb { D with nx := fun σ4 H4 => Ext Hb H4 ∧ TEx H2 H4 ∧ Pv (i + 1) σ4 H4, ct := fun σ4 H4 => Ext Hb H4 ∧ TEx H2 H4 ∧ Pv (i + 1) σ4 H4, bk := D.nx } σ3 H3)
    (hd : ∀ σ' H', Ext Hb H' → TEx H2 H' → Pv xs.length σ' H' → D.nx σ' H') :
    ∃ W : Nat → Nat → L2.St → Hp → Prop, (∃ m, W 0 m σ H2) ∧ ∀ i m σ H, W i m σ H →
      (J.stop i H ∧ D.nx σ H) ∨ (J.go i H ∧ ∃ N : L2.St → Hp → Prop, (∀ σ' H', N σ' H' → ∃ m', m' < m ∧ W (i + 1) m' σ' H') ∧ ∀ x H', J.yld i H x H' → g x σ H' fun σ2 H2 => tb { D with nx := N, ct := N, bk := D.nx } σ2 H2) := by
  refine for_it s (fun i σ' H' => Ext Hb H' ∧ TEx H2 H' ∧ Pv i σ' H') ⟨e2, TEx.refl _, h0⟩ (fun i σ' H' _ p => ⟨p.1, p.2.1⟩) (fun i x σ' H' H'' hi p y => ?_) (fun σ' H' p => hd σ' H' p.1 p.2.1 p.2.2)
  obtain ⟨ey, a, ha, hA⟩ := y
  exact hs i a x σ' H' H'' ha p.1 p.2.1 p.2.2 ey hA
theorem s_forD {wi : TI} {g : TG} {tb : TS} {D : Ends} (s : SrcD wi σ H xs A) (Pv : Nat → L2.St → Hp → Prop) (h0 : ∀ H1, Ext H H1 → Pv 0 σ H1)
    (hs : ∀ H2 i a x σ' H0 H', xs[i]? = some a → Ext H H2 → Ext H2 H0 → Pv i σ' H0 → Ext H0 H' → A a x H' →
      g x σ' H' fun σ3 H3 => tb { D with nx := fun σ4 H4 => Ext H2 H4 ∧ Pv (i + 1) σ4 H4, ct := fun σ4 H4 => Ext H2 H4 ∧ Pv (i + 1) σ4 H4, bk := D.nx } σ3 H3)
    (hd : ∀ σ' H', Ext H H' → Pv xs.length σ' H' → D.nx σ' H') : tFor wi g tb D σ H := s H (Ext.refl _) _ fun J H2 e2 q => by
  refine for_it q (fun i σ' H' => Ext H2 H' ∧ Pv i σ' H') ⟨Ext.refl _, h0 H2 e2⟩ (fun i σ' H' _ p => ⟨p.1, p.1.t⟩) (fun i x σ' H' H'' hi p y => ?_) (fun σ' H' p => hd σ' H' (e2.trans p.1) p.2)
  obtain ⟨ey, a, ha, hA⟩ := y
  exact hs H2 i a x σ' H' H'' ha e2 p.1 p.2 ey hA
theorem s_forB {wi : TI} {g : TG} {tb : TS} {D : Ends} (s : SrcB wi σ Hb H xs A) (e : Ext Hb H) (Pv : Nat → L2.St → Hp → Prop) (h0 : ∀ H1, Ext H H1 → Pv 0 σ H1)
    (hs : ∀ H2 i a x σ' H0 H', xs[i]? = some a → Ext H H2 → Ext Hb H0 → TEx H2 H0 → Pv i σ' H0 → Ext H0 H' → A a x H' →
      g x σ' H' fun σ3 H3 => tb { D with nx := fun σ4 H4 => Ext Hb H4 ∧ TEx H2 H4 ∧ Pv (i + 1) σ4 H4, ct := fun σ4 H4 => Ext Hb H4 ∧ TEx H2 H4 ∧ Pv (i + 1) σ4 H4, bk := D.nx } σ3 H3)
    (hd : ∀ σ' H', Ext Hb H' → TEx H H' → Pv xs.length σ' H' → D.nx σ' H') : tFor wi g tb D σ H := s H e (TEx.refl _) _ fun J H2 e2 q =>
  for_src q Pv (e.trans e2) (h0 H2 e2) (fun i a x σ' H0 H' ha eb et p e0 hA => hs H2 i a x σ' H0 H' ha e2 eb et p e0 hA) fun σ' H' eb et p => hd σ' H' eb (e2.t.trans et) p
theorem range_filter_succ {f : Nat → Bool} {n : Nat} : (List.range (n + 1)).filter f = (List.range n).filter f ++ (if f n = true then [n] else []) := by
  rw [List.range_succ, List.filter_append]
  congr 1
  by_cases h : f n = true
  · simp [h]
  · simp [h]
theorem take_filter_succ {f : α → Bool} {xs : List α} {i : Nat} {a : α} (h : xs[i]? = some a) : (xs.take (i + 1)).filter f = (xs.take i).filter f ++ (if f a = true then [a] else []) := by
  rw [List.take_add_one, h, List.filter_append]
  congr 1
  by_cases q : f a = true
  · simp [q]
  · simp [q]
theorem ev_lc {wi : TI} {g : TG} [gm : GMono g] {vs : List Nat} {f : α → Bool} {B : α → RS} [m : ∀ x, TMono (B x)] (hs : SrcD wi σ H xs A) (hz : xs.length < sizeLine)
    (body : ∀ a x H1, a ∈ xs → Ext H H1 → A a x H1 → g x (wipe σ vs) H1 fun σ2 H2 => wipe σ2 vs = wipe σ vs ∧ H2 = H1 ∧ EvT tt σ2 H1 (f a) ∧ (f a = true → Ev te σ2 H1 (B a))) :
    EvN (tLc wi g tt te vs) σ H ((xs.filter f).map B) := fun H1 e Q k =>
  hs H1 e _ fun J H2 e2 s D hD => by
    refine lc_it s (fun i Hc => ∃ acc, Hc D = some (.lst acc) ∧ All (((xs.take i).filter f).map B) acc Hc ∧ Ext H2 Hc) ⟨[], upd_same, by simp; exact .nil, Ext.new _ hD⟩ (fun i Hc _ p => ?_) (fun i x Hc Hc' hi p y => ?_) fun Hc p => ?_
    · obtain ⟨acc, _, _, ec⟩ := p
      exact ⟨ec, ec.t⟩
    · obtain ⟨acc, hacc, hall, ec⟩ := p
      obtain ⟨ey, a, ha, hA⟩ := y
      refine gm.imp (fun σ2 H3 q => ?_) (body a x Hc' (List.mem_of_getElem? ha) (((e.trans e2).trans ec).trans ey) hA)
      obtain ⟨q1, rfl, q2, q3⟩ := q
      refine ⟨q1, q2 _ (Ext.refl _) _ fun H4 e4 => ?_⟩
      have hl : acc.length ≤ i := by
        rw [hall.length, List.length_map]
        exact Nat.le_trans (List.length_filter_le _ _) (by rw [List.length_take]; exact Nat.min_le_left _ _)
      cases hf : f a with
      | false =>
        refine iteF ⟨acc, e4.at (ey.at hacc), ?_, (ec.trans ey).trans e4⟩
        rw [take_filter_succ ha, hf, if_neg (by decide), List.append_nil]
        exact hall.up (ey.trans e4)
      | true =>
        refine iteT (q3 hf H4 e4 _ fun v H5 e5 rv => ⟨acc, e5.at (e4.at (ey.at hacc)), by omega, ?_⟩)
        have h5 : H5 D = some (.lst acc) := e5.at (e4.at (ey.at hacc))
        have tx : TEx H5 (upd H5 D (.lst (acc ++ [v]))) := TEx.upd h5 trivial
        refine ⟨acc ++ [v], upd_same, ?_, (((ec.trans ey).trans e4).trans e5).mut hD h5 trivial⟩
        rw [take_filter_succ ha, hf, if_pos rfl, List.map_append]
        exact All.snoc (All.upT tx (hall.up ((ey.trans e4).trans e5))) ((m a).up tx rv)
    · obtain ⟨acc, hacc, hall, ec⟩ := p
      rw [List.take_length] at hall
      exact k D acc Hc (e2.fresh hD) (e2.trans ec) hacc hall
theorem EvN.cast {Rs Rs' : List RS} (h : EvN te σ H Rs) (e : Rs = Rs') : EvN te σ H Rs' := e ▸ h
theorem ev_lc1 {wi : TI} {g : TG} [gm : GMono g] {vs : List Nat} {B : α → RS} [m : ∀ x, TMono (B x)] (hs : SrcD wi σ H xs A) (hz : xs.length < sizeLine)
    (body : ∀ a x H1, a ∈ xs → Ext H H1 → A a x H1 → g x (wipe σ vs) H1 fun σ2 H2 => wipe σ2 vs = wipe σ vs ∧ H2 = H1 ∧ Ev te σ2 H1 (B a)) :
    EvN (tLc wi g tYes te vs) σ H (xs.map B) := by
  refine EvN.cast (ev_lc (f := fun _ => true) (B := B) hs hz fun a x H1 ha e r => gm.imp (fun σ2 H2 q => ⟨q.1, q.2.1, et_yes, fun _ => q.2.2⟩) (body a x H1 ha e r)) ?_
  rw [List.filter_eq_self.mpr (fun _ _ => rfl)]
theorem ev_lc2v {β : Type} {wi : TI} {g : TG} [gm : GMono g] {vs : List Nat} {C : β → RS} {val : α → β} [m : ∀ x, TMono (C x)] (hs : SrcD wi σ H xs A) (hz : xs.length < sizeLine)
    (body : ∀ a x H1, a ∈ xs → Ext H H1 → A a x H1 → g x (wipe σ vs) H1 fun σ2 H2 => wipe σ2 vs = wipe σ vs ∧ H2 = H1 ∧ Ev te σ2 H1 (C (val a))) :
    EvN (tLc wi g tYes te vs) σ H ((xs.map val).map C) := by
  refine EvN.cast (ev_lc1 (B := fun a => C (val a)) hs hz body) ?_
  rw [List.map_map]
  rfl
theorem ev_lcc {β : Type} {wi wi1 : TI} {g g1 : TG} [gm : GMono g] [gm1 : GMono g1] {vs vs1 : List Nat} {ys : List β} {A1 : β → RS} {C : α → β → RS} [m : ∀ a b, TMono (C a b)] (hs : SrcD wi σ H xs A) (hz : xs.length * ys.length < sizeLine)
    (body : ∀ a x H1, a ∈ xs → Ext H H1 → A a x H1 → g x (wipe σ vs) H1 fun σ2 H2 => wipe σ2 vs = wipe σ vs ∧ H2 = H1 ∧ (∀ Hb Hn, SrcB wi1 σ2 Hb Hn ys A1) ∧
      ∀ b y H3, b ∈ ys → TEx H1 H3 → A1 b y H3 → g1 y (wipe σ2 vs1) H3 fun σ3 H4 => wipe σ3 vs1 = wipe σ2 vs1 ∧ H4 = H3 ∧ Ev te σ3 H3 (C a b)) :
    EvN (tLc2 wi g tYes wi1 g1 tYes te vs vs1) σ H (xs.flatMap fun a => ys.map (C a)) := fun H1 e Q k =>
  hs H1 e _ fun J H2 e2 s D hD => by
    have fl : ∀ i, ((xs.take i).flatMap fun a => ys.map (C a)).length = (xs.take i).length * ys.length := by
      intro i
      induction xs.take i with
      | nil => simp
      | cons a l ih => rw [List.flatMap_cons, List.length_append, ih, List.length_map, List.length_cons, Nat.succ_mul, Nat.add_comm]
    refine ⟨fun i m Hc => m = xs.length - i ∧ i ≤ xs.length ∧ ∃ acc, Hc D = some (.lst acc) ∧ All ((xs.take i).flatMap fun a => ys.map (C a)) acc Hc ∧ Ext H2 Hc, ⟨xs.length, by simp, Nat.zero_le _, [], upd_same, by simp; exact .nil, Ext.new _ hD⟩, ?_⟩
    rintro i m Hc ⟨rfl, hi, acc, hacc, hall, ec⟩
    have q : Ext H2 Hc ∧ TEx H2 Hc := ⟨ec, ec.t⟩
    by_cases hlt : i < xs.length
    · refine .inr ⟨s.goes i Hc hlt q, fun H' => ∃ acc, H' D = some (.lst acc) ∧ All ((xs.take (i + 1)).flatMap fun a => ys.map (C a)) acc H' ∧ Ext H2 H', fun H' p' => ⟨xs.length - (i + 1), by omega, rfl, hlt, p'⟩, fun x Hc' y => ?_⟩
      obtain ⟨ey, a, ha, hA⟩ := s.yields i Hc x Hc' hlt q y
      refine gm.imp (fun σ2 H3 q => ?_) (body a x Hc' (List.mem_of_getElem? ha) (((e.trans e2).trans ec).trans ey) hA)
      obtain ⟨q1, rfl, q2, q3⟩ := q
      refine ⟨q1, ?_⟩
      simp only [tYes, if_true]
      refine q2 H2 H3 H3 (ec.trans ey) (TEx.refl _) _ fun J1 H4 e4 s1 => ?_
      have tk : xs.take (i + 1) = xs.take i ++ [a] := by rw [List.take_add_one, ha]; rfl
      refine ⟨fun j m Hd => m = ys.length - j ∧ j ≤ ys.length ∧ ∃ acc2, Hd D = some (.lst acc2) ∧ All (((xs.take i).flatMap fun a => ys.map (C a)) ++ (ys.take j).map (C a)) acc2 Hd ∧ Ext H2 Hd ∧ TEx H4 Hd, ⟨ys.length, by simp, Nat.zero_le _, acc, e4.at (ey.at hacc), ?_, (ec.trans ey).trans e4, TEx.refl _⟩, ?_⟩
      · haveI : AllM ((xs.take i).flatMap fun a => ys.map (C a)) := ⟨fun S hS => by
          obtain ⟨z, _, hz2⟩ := List.mem_flatMap.mp hS
          obtain ⟨b, _, rfl⟩ := List.mem_map.mp hz2
          exact @instMonoOfTMono _ (m z b)⟩
        simp only [List.take_zero, List.map_nil, List.append_nil]
        exact All.up (ey.trans e4) hall
      · rintro j m Hd ⟨rfl, hj, acc2, hacc2, hall2, ed, td⟩
        have qd : Ext H2 Hd ∧ TEx H4 Hd := ⟨ed, td⟩
        by_cases hjl : j < ys.length
        · refine .inr ⟨s1.goes j Hd hjl qd, fun H' => ∃ acc2, H' D = some (.lst acc2) ∧ All (((xs.take i).flatMap fun a => ys.map (C a)) ++ (ys.take (j + 1)).map (C a)) acc2 H' ∧ Ext H2 H' ∧ TEx H4 H', fun H' p' => ⟨ys.length - (j + 1), by omega, rfl, hjl, p'⟩, fun y Hd' yy => ?_⟩
          obtain ⟨eyd, b, hb, hB⟩ := s1.yields j Hd y Hd' hjl qd yy
          refine gm1.imp (fun σ3 H5 q => ?_) (q3 b y Hd' (List.mem_of_getElem? hb) (e4.t.trans (td.trans eyd.t)) hB)
          obtain ⟨r1, rfl, r2⟩ := q
          refine ⟨r1, ?_⟩
          simp only [tYes, if_true]
          refine r2 H5 (Ext.refl _) _ fun v H6 e6 rv => ?_
          have h6 : H6 D = some (.lst acc2) := e6.at (eyd.at hacc2)
          have tx : TEx H6 (upd H6 D (.lst (acc2 ++ [v]))) := TEx.upd h6 trivial
          haveI : AllT (((xs.take i).flatMap fun a => ys.map (C a)) ++ (ys.take j).map (C a)) := ⟨fun S hS => by
            rcases List.mem_append.mp hS with hS | hS
            · obtain ⟨z, _, hz2⟩ := List.mem_flatMap.mp hS
              obtain ⟨b, _, rfl⟩ := List.mem_map.mp hz2
              exact m z b
            · obtain ⟨b, _, rfl⟩ := List.mem_map.mp hS
              exact m a b⟩
          have hlen : acc2.length < sizeLine := by
            rw [hall2.length, List.length_append, fl, List.length_map, List.length_take, List.length_take]
            have h1 : min i xs.length * ys.length + ys.length ≤ xs.length * ys.length := by
              rw [← Nat.succ_mul]
              exact Nat.mul_le_mul_right _ (by omega)
            omega
          refine ⟨acc2, h6, hlen, acc2 ++ [v], upd_same, ?_, ((ed.trans eyd).trans e6).mut hD h6 trivial, (td.trans (eyd.t.trans e6.t)).trans tx⟩
          rw [List.take_add_one, hb, List.map_append, ← List.append_assoc]
          exact All.snoc (All.upT ((eyd.t.trans e6.t).trans tx) hall2) ((m a b).up tx rv)
        · have ej : j = ys.length := by omega
          subst ej
          refine .inl ⟨s1.stops Hd qd, acc2, hacc2, ?_, ed⟩
          rw [tk, List.flatMap_append, List.flatMap_cons, List.flatMap_nil, List.append_nil]
          rw [List.take_length] at hall2
          exact hall2
    · have e1 : i = xs.length := by omega
      subst e1
      rw [List.take_length] at hall
      exact .inl ⟨s.stops Hc q, k D acc Hc (e2.fresh hD) (e2.trans ec) hacc hall⟩
end
end SP
end
section
set_option Elab.async false
set_option linter.all false
set_option maxRecDepth 100000
set_option maxHeartbeats 2000000
namespace SP
open PySem PyProof.Rows L2
section
variable (P : Program) (w : World) (K : PySem.W.Frag) (mg : Str → Option Value) (base : Heap)
structure GFn (x : Str) (k : Nat) (ps : List Str) (sp : Sp) : Prop where
  ex : ∃ f fd, mg x = some (.ref f) ∧ PySem.W.keepIn K (.ref f) = true ∧ Binds K fd ps [] ∧ FnOk P w K mg base CX0 k f fd ps sp
structure GMt (C : Addr) (m : Str) (k : Nat) (ps : List Str) (sp : Sp) : Prop where
  ex : ∃ f fd, Meth K C m f ∧ Binds K fd ps [] ∧ FnOk P w K mg base CX0 k f fd ps sp
structure GMk (x : Str) (C : Addr) (k : Nat) (ps : List Str) (sp : Sp) : Prop where
  ex : ∃ f fd, mg x = some (.ref C) ∧ Mk K C f ∧ Binds K fd ps [] ∧ FnOk P w K mg base CX0 k f fd ps sp
end
structure Dn (K : PySem.W.Frag) (mg : Str → Option Value) (x : Str) (st : Stmt) : Prop where
  ex : ∃ f fd, mg x = some (.ref f) ∧ FunD K x x (defArgs st) (defBody st) (defScope st) [] [] f fd
structure Dm (K : PySem.W.Frag) (C : Addr) (m qual : Str) (st : Stmt) : Prop where
  ex : ∃ f fd, Meth K C m f ∧ FunD K m qual (defArgs st) (defBody st) (defScope st) [] [] f fd
structure Di (K : PySem.W.Frag) (mg : Str → Option Value) (x : Str) (C : Addr) (qual : Str) (st : Stmt) : Prop where
  ex : ∃ f fd, mg x = some (.ref C) ∧ Mk K C f ∧ FunD K "__init__" qual (defArgs st) (defBody st) (defScope st) [] [] f fd
structure Dc (K : PySem.W.Frag) (mg : Str → Option Value) (x : Str) (st : Stmt) (c : Addr) : Prop where
  ex : ∃ f fd oc od osl, mg x = some (.ref f) ∧ FunD K x x (defArgs st) (defBody st) (defScope st) [] [] f fd ∧ K.lookup f = some ⟨oc, od, .func fd, osl⟩ ∧ fd.code = .ref c
abbrev BindB (x qual : Str) (st : Stmt) (ps : List Str) : Prop := ∀ (kV doc pm : Value) (an : Option Addr) (cdv ct : Value) (us : List Value), us.length = ps.length →
  bindArgs (PySem.W.fnOf x qual (defArgs st) (defBody st) (defScope st) .none kV doc pm an cdv ct) ⟨us, []⟩ = pure (ps.zip us)
section
variable {P : Program} {w : World} {K : PySem.W.Frag} {mg : Str → Option Value} {base : Heap} {x m qual : Str} {C : Addr} {st : Stmt} {N ps : List Str} {k : Nat} {sp : Sp}
abbrev BodyOk (P : Program) (w : World) (K : PySem.W.Frag) (mg : Str → Option Value) (base : Heap) (N : List Str) (qual : Str) (st : Stmt) (k : Nat) (sp : Sp) : Prop :=
  ∀ (f : Addr) (cdv : Value) (A : Around) (outer : List Env) (s : Shared) (H : Hp) (vs : List V) (Q : VK) (E : XK), Room k (A.deeper (envOfC qual (defScope st) s.heap.objs.size f cdv)) → sp vs H Q E →
      ∃ t, PSs (cxOf CX0 P w K mg base N qual (defScope st) f cdv A outer s H E).nox (defBody st) t ∧ t { nx := fun _ H' => Q .non H', rt := Q } (start N vs) H
theorem Dn.fn (D : Dn K mg x st) (S : FnScope N ps (defScope st)) (b : BindB x x st ps) (len : ∀ vs H Q E, sp vs H Q E → vs.length = ps.length) (hbody : BodyOk P w K mg base N x st k sp) : GFn P w K mg base x (k + 1) ps sp := by
  obtain ⟨f, fd, h1, F⟩ := D.ex
  refine ⟨f, fd, h1, F.kp, F.bindsN b, F.ok S len fun cdv A outer s H vs Q E hr h => ?_⟩
  obtain ⟨t, h2, h3⟩ := hbody f cdv A outer s H vs Q E hr h
  exact ⟨t, h2.nox, h3⟩
theorem Dc.fn {c : Addr} (D : Dc K mg x st c) (S : FnScope N ps (defScope st)) (b : BindB x x st ps) (len : ∀ vs H Q E, sp vs H Q E → vs.length = ps.length)
    (hbody : ∀ (f : Addr) (A : Around) (outer : List Env) (s : Shared) (H : Hp) (vs : List V) (Q : VK) (E : XK), Room k (A.deeper (envOfC x (defScope st) s.heap.objs.size f (.ref c))) → sp vs H Q E →
      ∃ t, PSs (cxOf CX0 P w K mg base N x (defScope st) f (.ref c) A outer s H E).nox (defBody st) t ∧ t { nx := fun _ H' => Q .non H', rt := Q } (start N vs) H) : GFn P w K mg base x (k + 1) ps sp := by
  obtain ⟨f, fd, oc, od, osl, h1, F, lk, hc⟩ := D.ex
  have hb := F.bindsN b
  obtain ⟨oc', od', dV, kV, doc, pm, an, cdv, ct, osl', rfl, lk', hcd, _, _⟩ := F.ex
  obtain rfl : cdv = .ref c := hc
  refine ⟨f, _, h1, F.kp, hb, fn_of lk' hcd S len fun A outer s H vs Q E hr h => ?_⟩
  obtain ⟨t, h2, h3⟩ := hbody f A outer s H vs Q E hr h
  exact ⟨t, h2.nox, h3⟩
theorem Dm.fn (D : Dm K C m qual st) (S : FnScope N ps (defScope st)) (b : BindB m qual st ps) (len : ∀ vs H Q E, sp vs H Q E → vs.length = ps.length) (hbody : BodyOk P w K mg base N qual st k sp) : GMt P w K mg base C m (k + 1) ps sp := by
  obtain ⟨f, fd, h1, F⟩ := D.ex
  refine ⟨f, fd, h1, F.bindsN b, F.ok S len fun cdv A outer s H vs Q E hr h => ?_⟩
  obtain ⟨t, h2, h3⟩ := hbody f cdv A outer s H vs Q E hr h
  exact ⟨t, h2.nox, h3⟩
theorem Di.fn (D : Di K mg x C qual st) (S : FnScope N ps (defScope st)) (b : BindB "__init__" qual st ps) (len : ∀ vs H Q E, sp vs H Q E → vs.length = ps.length) (hbody : BodyOk P w K mg base N qual st k sp) : GMk P w K mg base x C (k + 1) ps sp := by
  obtain ⟨f, fd, h1, h0, F⟩ := D.ex
  refine ⟨f, fd, h1, h0, F.bindsN b, F.ok S len fun cdv A outer s H vs Q E hr h => ?_⟩
  obtain ⟨t, h2, h3⟩ := hbody f cdv A outer s H vs Q E hr h
  exact ⟨t, h2.nox, h3⟩
end
section
variable {X : Cx} {k j : Nat} {ps : List Str} {sp : Sp} {x m : Str} {C : Addr} {p pos apos : Pos} {e o : Expr} {es : List Expr} {ta : TE} {t : TA}
theorem pe_fn (G : GFn X.prog X.w X.K X.mg X.base x k ps sp) (hr : Room j X.A) (hk : k ≤ j) (hg : Gl X x) (ha : PA X (e :: es) t) (hdb : (x == ("__debug__" : Str)) = false := by decide)
    (he : starEach (e :: es) X.env = (false, eval e X.env) :: starEach es X.env := by rfl) (hpl : (backTo pos (starEach es X.env)).any (·.1) = false := by rfl) : PE X (.Call (.Name x p) (e :: es) [] pos) (tCall sp [] E0 t) := by
  obtain ⟨f, fd, h1, h2, h3, h4⟩ := G.ex
  exact pe_call h4 (hr.mono hk) hg h1 h2 h3 .nil pass0 ha hdb he hpl
theorem pe_mt (ho : PE X o ta) (c : Cls X.K C) (G : GMt X.prog X.w X.K X.mg X.base C m k ps sp) (hr : Room j X.A) (hk : k ≤ j) (ha : PA X (e :: es) t) {pl : Sem Bool}
    (hst : starEach (e :: es) X.env = (false, eval e X.env) :: starEach es X.env := by rfl) (hpl : (backTo pos (starEach es X.env)).any (·.1) = false := by rfl)
    (ht : eval (.Call (.Attribute o m apos) (e :: es) [] pos) X.env = (do
      let ov ← eval o X.env
      standAt apos.atName
      let (f, first) ← holding [ov] (getMethod ov m pl)
      callWith pos f first (backTo pos (starEach (e :: es) X.env)) (backToKw pos (keywordEach [] X.env))) := by rfl) :
    PE X (.Call (.Attribute o m apos) (e :: es) [] pos) (tMeth C m sp [] E0 ta t) := by
  obtain ⟨f, fd, h1, h3, h4⟩ := G.ex
  exact pe_meth ho c h1 h4 (hr.mono hk) h3 .nil pass0 ha hst hpl ht
theorem pe_mt0 (ho : PE X o ta) (c : Cls X.K C) (G : GMt X.prog X.w X.K X.mg X.base C m k ps sp) (hr : Room j X.A) (hk : k ≤ j) {pl : Sem Bool}
    (ht : eval (.Call (.Attribute o m apos) [] [] pos) X.env = (do
      let ov ← eval o X.env
      standAt apos.atName
      let (f, first) ← holding [ov] (getMethod ov m pl)
      callWith pos f first (backTo pos (starEach [] X.env)) (backToKw pos (keywordEach [] X.env))) := by rfl) :
    PE X (.Call (.Attribute o m apos) [] [] pos) (tMeth C m sp [] E0 ta tNil) := by
  obtain ⟨f, fd, h1, h3, h4⟩ := G.ex
  exact pe_meth0 ho c h1 h4 (hr.mono hk) h3 .nil pass0 ht
theorem pe_mk (G : GMk X.prog X.w X.K X.mg X.base x C k ps sp) (hr : Room j X.A) (hk : k + 1 ≤ j) (hg : Gl X x) (ha : PA X (e :: es) t) (hdb : (x == ("__debug__" : Str)) = false := by decide)
    (he : starEach (e :: es) X.env = (false, eval e X.env) :: starEach es X.env := by rfl) (hpl : (backTo pos (starEach es X.env)).any (·.1) = false := by rfl) : PE X (.Call (.Name x p) (e :: es) [] pos) (tMake C sp [] E0 t) := by
  obtain ⟨f, fd, h1, h2, h3, h4⟩ := G.ex
  exact pe_make h2 h4 (hr.mono hk) hg h1 h3 .nil pass0 ha hdb he hpl
end
theorem room1 {k : Nat} {A : Around} (r : Room k A) : A.units + 1 < cLine := by have := r.un; omega
theorem room3 {k : Nat} {A : Around} (r : Room k A) : A.units + 3 < cLine := by have := r.un; omega
theorem room65 {k : Nat} {A : Around} (r : Room k A) : A.units + 65 < cLine := by have := r.un; omega
end SP
end
section
set_option maxRecDepth 100000
namespace SP
def Cg (p : Nat) (a b : Int) : Prop := a % (p : Int) = b % (p : Int)
section
variable {p : Nat} {a b c d : Int}
theorem Cg.refl (a : Int) : Cg p a a := rfl
theorem Cg.symm (h : Cg p a b) : Cg p b a := Eq.symm h
theorem Cg.trans (h : Cg p a b) (k : Cg p b c) : Cg p a c := Eq.trans h k
theorem Cg.of (h : a = b) : Cg p a b := by rw [h]; rfl
theorem Cg.add (h : Cg p a b) (k : Cg p c d) : Cg p (a + c) (b + d) := by
  unfold Cg at *
  rw [Int.add_emod, h, k, ← Int.add_emod]
theorem Cg.mul (h : Cg p a b) (k : Cg p c d) : Cg p (a * c) (b * d) := by
  unfold Cg at *
  rw [Int.mul_emod, h, k, ← Int.mul_emod]
theorem Cg.mod (a : Int) : Cg p (a % p) a := by
  unfold Cg
  exact Int.emod_emod_of_dvd _ (Int.dvd_refl _)
theorem Cg.neg (h : Cg p a b) : Cg p (-a) (-b) := by
  have q := Cg.mul (Cg.refl (p := p) (-1)) h
  rw [Int.neg_one_mul, Int.neg_one_mul] at q
  exact q
theorem Cg.sub (h : Cg p a b) (k : Cg p c d) : Cg p (a - c) (b - d) := by
  rw [Int.sub_eq_add_neg, Int.sub_eq_add_neg]
  exact h.add k.neg
theorem Cg.pow (h : Cg p a b) : ∀ n : Nat, Cg p (a ^ n) (b ^ n)
  | 0 => by rw [Int.pow_zero, Int.pow_zero]; rfl
  | n + 1 => by rw [Int.pow_succ, Int.pow_succ]; exact (Cg.pow h n).mul h
theorem Cg.eq (h : Cg p a b) (h0 : 0 ≤ a) (h1 : a < p) (k0 : 0 ≤ b) (k1 : b < p) : a = b := by
  unfold Cg at h
  rw [Int.emod_eq_of_lt h0 h1, Int.emod_eq_of_lt k0 k1] at h
  exact h
theorem Cg.zero_iff : Cg p a 0 ↔ a % (p : Int) = 0 := by
  unfold Cg
  rw [Int.zero_emod]
end
def lsum {α : Type} (L : List α) (f : α → Int) : Int := (L.map f).sum
section
variable {α β : Type} {p : Nat} {L M : List α} {f g : α → Int}
theorem lsum_nil : lsum ([] : List α) f = 0 := rfl
theorem lsum_cons {a : α} : lsum (a :: L) f = f a + lsum L f := by
  unfold lsum
  rw [List.map_cons, List.sum_cons]
theorem lsum_append : lsum (L ++ M) f = lsum L f + lsum M f := by
  induction L with
  | nil => rw [List.nil_append, lsum_nil, Int.zero_add]
  | cons a L ih => rw [List.cons_append, lsum_cons, lsum_cons, ih, Int.add_assoc]
theorem lsum_congr (h : ∀ a ∈ L, f a = g a) : lsum L f = lsum L g := by
  induction L with
  | nil => rfl
  | cons a L ih => rw [lsum_cons, lsum_cons, h a (List.mem_cons_self ..), ih fun b hb => h b (List.mem_cons_of_mem _ hb)]
theorem lsum_cg (h : ∀ a ∈ L, Cg p (f a) (g a)) : Cg p (lsum L f) (lsum L g) := by
  induction L with
  | nil => exact Cg.refl _
  | cons a L ih =>
    rw [lsum_cons, lsum_cons]
    exact (h a (List.mem_cons_self ..)).add (ih fun b hb => h b (List.mem_cons_of_mem _ hb))
theorem lsum_add : lsum L (fun a => f a + g a) = lsum L f + lsum L g := by
  induction L with
  | nil => rfl
  | cons a L ih => rw [lsum_cons, lsum_cons, lsum_cons, ih]; omega
theorem lsum_mul {c : Int} : lsum L (fun a => c * f a) = c * lsum L f := by
  induction L with
  | nil => rw [lsum_nil, lsum_nil, Int.mul_zero]
  | cons a L ih => rw [lsum_cons, lsum_cons, ih, Int.mul_add]
theorem lsum_mulr {c : Int} : lsum L (fun a => f a * c) = lsum L f * c := by
  rw [Int.mul_comm, ← lsum_mul]
  exact lsum_congr fun a _ => Int.mul_comm _ _
theorem lsum_zero : lsum L (fun _ => 0) = 0 := by
  induction L with
  | nil => rfl
  | cons a L ih => rw [lsum_cons, ih]; rfl
theorem lsum_comm {M : List β} {h : α → β → Int} : lsum L (fun a => lsum M (h a)) = lsum M (fun b => lsum L (fun a => h a b)) := by
  induction L with
  | nil => rw [lsum_nil]; exact lsum_zero.symm
  | cons a L ih =>
    rw [lsum_cons, ih, ← lsum_add]
    exact lsum_congr fun b _ => (lsum_cons (L := L) (f := fun a => h a b)).symm
theorem lsum_flatMap {M : List β} {k : β → List α} : lsum (M.flatMap k) f = lsum M (fun b => lsum (k b) f) := by
  induction M with
  | nil => rfl
  | cons b M ih => rw [List.flatMap_cons, lsum_append, lsum_cons, ih]
theorem lsum_map {M : List β} {k : β → α} : lsum (M.map k) f = lsum M (fun b => f (k b)) := by
  induction M with
  | nil => rfl
  | cons b M ih => rw [List.map_cons, lsum_cons, lsum_cons, ih]
theorem lsum_perm (h : L.Perm M) : lsum L f = lsum M f := by
  induction h with
  | nil => rfl
  | cons a _ ih => rw [lsum_cons, lsum_cons, ih]
  | swap a b l => rw [lsum_cons, lsum_cons, lsum_cons, lsum_cons]; omega
  | trans _ _ ih1 ih2 => rw [ih1, ih2]
theorem lsum_filter {q : α → Bool} (h : ∀ a ∈ L, q a = false → Cg p (f a) 0) : Cg p (lsum (L.filter q) f) (lsum L f) := by
  induction L with
  | nil => exact Cg.refl _
  | cons a L ih =>
    have ih' := ih fun b hb => h b (List.mem_cons_of_mem _ hb)
    cases e : q a with
    | true =>
      rw [List.filter_cons, if_pos e, lsum_cons, lsum_cons]
      exact (Cg.refl _).add ih'
    | false =>
      rw [List.filter_cons, if_neg (by rw [e]; decide), lsum_cons]
      have z := (h a (List.mem_cons_self ..) e).symm.add ih'
      rw [Int.zero_add] at z
      exact z
theorem lsum_one [DecidableEq α] (nd : L.Nodup) {a : α} (ha : a ∈ L) : lsum L (fun b => if b = a then f b else 0) = f a := by
  induction L with
  | nil => cases ha
  | cons b L ih =>
    obtain ⟨h1, h2⟩ := List.nodup_cons.mp nd
    rw [lsum_cons]
    by_cases e : b = a
    · subst e
      rw [if_pos rfl, lsum_congr (g := fun _ => 0) fun c hc => if_neg fun (z : c = b) => h1 (z ▸ hc), lsum_zero, Int.add_zero]
    · rw [if_neg e, Int.zero_add, ih h2 ((List.mem_cons.mp ha).resolve_left fun z => e z.symm)]
end
def Pr (p : Nat) : Prop := p = 2 ∨ p = 3 ∨ p = 5 ∨ p = 7
theorem Pr.two {p : Nat} (h : Pr p) : 2 ≤ p ∧ p ≤ 7 := by rcases h with rfl | rfl | rfl | rfl <;> decide
def upto (p : Nat) : List Int := (List.range p).map fun i => ((i : Nat) : Int)
theorem mem_upto {p : Nat} {a : Int} : a ∈ upto p ↔ 0 ≤ a ∧ a < p := by
  unfold upto
  rw [List.mem_map]
  constructor
  · rintro ⟨i, h, rfl⟩
    have := List.mem_range.mp h
    omega
  · rintro ⟨h0, h1⟩
    exact ⟨a.toNat, List.mem_range.mpr (by omega), by omega⟩
theorem Pr.all1 {p : Nat} (h : Pr p) {q : Nat → Int → Bool} (k : ([2, 3, 5, 7].all fun p => (upto p).all fun a => q p a) = true) {a : Int} (h0 : 0 ≤ a) (h1 : a < p) : q p a = true := by
  have hp : p ∈ [2, 3, 5, 7] := by rcases h with rfl | rfl | rfl | rfl <;> decide
  exact List.all_eq_true.mp (List.all_eq_true.mp k p hp) a (mem_upto.mpr ⟨h0, h1⟩)
theorem Pr.all2 {p : Nat} (h : Pr p) {q : Nat → Int → Int → Bool} (k : ([2, 3, 5, 7].all fun p => (upto p).all fun a => (upto p).all fun b => q p a b) = true) {a b : Int} (h0 : 0 ≤ a) (h1 : a < p) (k0 : 0 ≤ b) (k1 : b < p) : q p a b = true :=
  List.all_eq_true.mp (h.all1 (q := fun p a => (upto p).all fun b => q p a b) k h0 h1) b (mem_upto.mpr ⟨k0, k1⟩)
theorem Pr.all3 {p : Nat} (h : Pr p) {q : Nat → Int → Int → Int → Bool} (k : ([2, 3, 5, 7].all fun p => (upto p).all fun a => (upto p).all fun b => (upto p).all fun c => q p a b c) = true) {a b c : Int} (h0 : 0 ≤ a) (h1 : a < p) (k0 : 0 ≤ b) (k1 : b < p) (l0 : 0 ≤ c) (l1 : c < p) : q p a b c = true :=
  List.all_eq_true.mp (h.all2 (q := fun p a b => (upto p).all fun c => q p a b c) k h0 h1 k0 k1) c (mem_upto.mpr ⟨l0, l1⟩)
theorem inv_ok {p : Nat} (h : Pr p) {a : Int} (h0 : 0 < a) (h1 : a < p) : Cg p (a * (a ^ (p - 2) % p)) 1 ∧ 0 < a ^ (p - 2) % p := by
  have q := h.all1 (q := fun p a => decide (a = 0) || (decide (a * (a ^ (p - 2) % p) % p = 1 % p) && decide (0 < a ^ (p - 2) % (p : Int)))) (by decide) (Int.le_of_lt h0) h1
  rw [Bool.or_eq_true, decide_eq_true_eq, Bool.and_eq_true, decide_eq_true_eq, decide_eq_true_eq] at q
  rcases q with q | q
  · omega
  · exact q
theorem less_ok {p : Nat} (h : Pr p) {a i j : Int} (h0 : 0 ≤ a) (h1 : a < p) (k0 : 0 ≤ i) (k1 : i < p) (l0 : 0 ≤ j) (l1 : j < p) : Cg p (a ^ (if i + j < p then i + j else i + j - (p - 1)).toNat) (a ^ i.toNat * a ^ j.toNat) := by
  have q := h.all3 (q := fun p a i j => decide (a ^ (if i + j < p then i + j else i + j - (p - 1)).toNat % (p : Int) = a ^ i.toNat * a ^ j.toNat % p)) (by decide +kernel) h0 h1 k0 k1 l0 l1
  unfold Cg
  exact of_decide_eq_true q
def wgt (p : Nat) (e a : Int) : Int := if e = 0 then (if a = 0 then 1 else 0) else -(a ^ (p - 1 - e.toNat))
theorem wgt_back {p : Nat} (h : Pr p) {a b : Int} (h0 : 0 ≤ a) (h1 : a < p) (k0 : 0 ≤ b) (k1 : b < p) : Cg p (lsum (upto p) fun e => wgt p e a * b ^ e.toNat) (if a = b then 1 else 0) := by
  have q := h.all2 (q := fun p a b => decide ((lsum (upto p) fun e => wgt p e a * b ^ e.toNat) % (p : Int) = (if a = b then 1 else 0) % p)) (by decide +kernel) h0 h1 k0 k1
  unfold Cg
  exact of_decide_eq_true q
theorem wgt_there {p : Nat} (h : Pr p) {d e : Int} (h0 : 0 ≤ d) (h1 : d < p) (k0 : 0 ≤ e) (k1 : e < p) : Cg p (lsum (upto p) fun a => wgt p d a * a ^ e.toNat) (if d = e then 1 else 0) := by
  have q := h.all2 (q := fun p d e => decide ((lsum (upto p) fun a => wgt p d a * a ^ e.toNat) % (p : Int) = (if d = e then 1 else 0) % p)) (by decide +kernel) h0 h1 k0 k1
  unfold Cg
  exact of_decide_eq_true q
theorem upto_nodup (p : Nat) : (upto p).Nodup := by
  unfold upto
  refine List.Pairwise.map _ (fun a b h => ?_) (List.nodup_range (n := p))
  intro z
  exact h (by omega)
abbrev Pt := List Int
def pts (p : Nat) : Nat → List Pt
  | 0 => [[]]
  | n + 1 => (pts p n).flatMap fun r => (upto p).map fun a => r ++ [a]
def inSp (p n : Nat) (x : Pt) : Prop := x.length = n ∧ ∀ a ∈ x, 0 ≤ a ∧ a < p
instance {p n : Nat} {x : Pt} : Decidable (inSp p n x) := inferInstanceAs (Decidable (_ ∧ _))
theorem inSp.snoc {p n : Nat} {r : Pt} {a : Int} (h : inSp p n r) (h0 : 0 ≤ a) (h1 : a < p) : inSp p (n + 1) (r ++ [a]) := by
  refine ⟨by rw [List.length_append, h.1]; rfl, fun b hb => ?_⟩
  rcases List.mem_append.mp hb with q | q
  · exact h.2 b q
  · rw [List.mem_singleton.mp q]; exact ⟨h0, h1⟩
theorem inSp.split {p n : Nat} {x : Pt} (h : inSp p (n + 1) x) : ∃ (r : Pt) (a : Int), x = r ++ [a] ∧ inSp p n r ∧ 0 ≤ a ∧ a < p := by
  have hx : x ≠ [] := by rintro rfl; exact absurd h.1 (by simp)
  refine ⟨x.dropLast, x.getLast hx, (List.dropLast_concat_getLast hx).symm, ⟨by rw [List.length_dropLast, h.1]; rfl, fun b hb => h.2 b (List.dropLast_subset _ hb)⟩, ?_⟩
  exact h.2 _ (List.getLast_mem hx)
theorem mem_pts {p : Nat} : ∀ {n : Nat} {x : Pt}, x ∈ pts p n ↔ inSp p n x
  | 0, x => by
    unfold pts
    rw [List.mem_singleton]
    constructor
    · rintro rfl; exact ⟨rfl, fun _ h => by cases h⟩
    · intro h; exact List.length_eq_zero_iff.mp h.1
  | n + 1, x => by
    unfold pts
    rw [List.mem_flatMap]
    constructor
    · rintro ⟨r, hr, h⟩
      obtain ⟨a, ha, rfl⟩ := List.mem_map.mp h
      obtain ⟨h0, h1⟩ := mem_upto.mp ha
      exact (mem_pts.mp hr).snoc h0 h1
    · intro h
      obtain ⟨r, a, rfl, hr, h0, h1⟩ := h.split
      exact ⟨r, mem_pts.mpr hr, List.mem_map.mpr ⟨a, mem_upto.mpr ⟨h0, h1⟩, rfl⟩⟩
theorem snoc_inj {r s : Pt} {a b : Int} (h : r ++ [a] = s ++ [b]) : r = s ∧ a = b := by
  have := List.append_inj' h rfl
  exact ⟨this.1, by simpa using this.2⟩
theorem pts_nodup (p : Nat) : ∀ n : Nat, (pts p n).Nodup
  | 0 => by unfold pts; exact List.pairwise_singleton _ _
  | n + 1 => by
    unfold pts
    rw [List.Nodup, List.pairwise_flatMap]
    refine ⟨fun r _ => ?_, ?_⟩
    · refine List.Pairwise.map _ (fun a b h => ?_) (upto_nodup p)
      intro z
      exact h (snoc_inj z).2
    · refine List.Pairwise.imp (fun {r s} h x hx y hy => ?_) (pts_nodup p n)
      obtain ⟨a, _, rfl⟩ := List.mem_map.mp hx
      obtain ⟨b, _, rfl⟩ := List.mem_map.mp hy
      intro z
      exact h (snoc_inj z).1
theorem pts_length (p : Nat) : ∀ n : Nat, (pts p n).length = p ^ n
  | 0 => rfl
  | n + 1 => by
    unfold pts
    rw [List.length_flatMap]
    have e : ((pts p n).map fun r => ((upto p).map fun a => r ++ [a]).length) = List.replicate (pts p n).length p := by
      rw [List.map_congr_left (g := fun _ => p) fun r _ => by unfold upto; rw [List.length_map, List.length_map, List.length_range], List.map_const']
    rw [e, List.sum_replicate_nat, pts_length p n, Nat.pow_succ]
def mon : Pt → Pt → Int
  | e :: m, a :: x => a ^ e.toNat * mon m x
  | _, _ => 1
theorem mon_nil (x : Pt) : mon [] x = 1 := by cases x <;> rfl
theorem mon_snoc : ∀ {m x : Pt} {e a : Int}, m.length = x.length → mon (m ++ [e]) (x ++ [a]) = mon m x * a ^ e.toNat
  | [], [], e, a, _ => by
    show a ^ e.toNat * 1 = 1 * a ^ e.toNat
    rw [Int.mul_one, Int.one_mul]
  | [], _ :: _, _, _, h => by cases h
  | _ :: _, [], _, _, h => by cases h
  | f :: m, b :: x, e, a, h => by
    show b ^ f.toNat * mon (m ++ [e]) (x ++ [a]) = b ^ f.toNat * mon m x * a ^ e.toNat
    rw [mon_snoc (by simpa using h), Int.mul_assoc]
abbrev Poly := List (Pt × Int)
def vsum (f : Poly) (x : Pt) : Int := lsum f fun t => t.2 * mon t.1 x
def lexLt : Pt → Pt → Bool
  | [], [] => false
  | [], _ :: _ => true
  | _ :: _, [] => false
  | a :: x, b :: y => if a = b then lexLt x y else decide (a < b)
theorem lexLt_irrefl : ∀ x : Pt, lexLt x x = false
  | [] => rfl
  | a :: x => by
    show (if a = a then lexLt x x else decide (a < a)) = false
    rw [if_pos rfl, lexLt_irrefl x]
theorem lexLt_trans : ∀ {x y z : Pt}, lexLt x y = true → lexLt y z = true → lexLt x z = true
  | [], [], _, h, _ => by cases h
  | [], _ :: _, [], _, k => by cases k
  | [], _ :: _, _ :: _, _, _ => rfl
  | _ :: _, [], _, h, _ => by cases h
  | _ :: _, _ :: _, [], _, k => by cases k
  | a :: x, b :: y, c :: z, h, k => by
    have h' : (if a = b then lexLt x y else decide (a < b)) = true := h
    have k' : (if b = c then lexLt y z else decide (b < c)) = true := k
    show (if a = c then lexLt x z else decide (a < c)) = true
    by_cases e1 : a = b
    · subst e1
      rw [if_pos rfl] at h'
      by_cases e2 : a = c
      · rw [if_pos e2] at k' ⊢
        exact lexLt_trans h' k'
      · rw [if_neg e2] at k' ⊢
        exact k'
    · rw [if_neg e1] at h'
      have h2 := of_decide_eq_true h'
      by_cases e2 : b = c
      · subst e2
        rw [if_neg e1]
        exact h'
      · rw [if_neg e2] at k'
        have k2 := of_decide_eq_true k'
        rw [if_neg (by omega)]
        exact decide_eq_true (by omega)
theorem lexLt_total : ∀ {x y : Pt}, x ≠ y → lexLt x y = false → lexLt y x = true
  | [], [], h, _ => absurd rfl h
  | [], _ :: _, _, k => by cases k
  | _ :: _, [], _, _ => rfl
  | a :: x, b :: y, h, k => by
    have k' : (if a = b then lexLt x y else decide (a < b)) = false := k
    show (if b = a then lexLt y x else decide (b < a)) = true
    by_cases e : a = b
    · subst e
      rw [if_pos rfl] at k' ⊢
      exact lexLt_total (fun z => h (by rw [z])) k'
    · rw [if_neg e] at k'
      rw [if_neg fun z => e z.symm]
      have := of_decide_eq_false k'
      exact decide_eq_true (by omega)
structure Canon (p n : Nat) (f : Poly) : Prop where
  ord : f.Pairwise fun s t => lexLt t.1 s.1 = true
  pow : ∀ t ∈ f, inSp p n t.1
  num : ∀ t ∈ f, 0 < t.2 ∧ t.2 < p
end SP
end
section
set_option Elab.async false
set_option linter.all false
set_option maxRecDepth 100000
set_option maxHeartbeats 4000000
namespace SP
open PySem PySem.Spec PyProof.Rows L2
section
variable {X : Cx}
def rGeT (K : PySem.W.Frag) : R2 := fun x y H Q => ∃ (a b : Addr) (ns ms : List Int), x = .ref a ∧ y = .ref b ∧ SqT K H a (ns.map V.int) ∧ SqT K H b (ms.map V.int) ∧ ns.length = ms.length ∧ Q (.bl (!lexLt ns ms)) H
theorem lexAt_drop {ns ms : List Int} (hl : ns.length = ms.length) : ∀ (k i : Nat), i + k = ns.length →
    Ob.lexAt (fun j => decide (ns.getD j 0 = ms.getD j 0)) (fun j => decide (ms.getD j 0 ≤ ns.getD j 0)) true i k = !lexLt (ns.drop i) (ms.drop i)
  | 0, i, h => by
    rw [Ob.lexAt_zero, List.drop_of_length_le (by omega), List.drop_of_length_le (by omega)]
    rfl
  | k + 1, i, h => by
    have h1 : i < ns.length := by omega
    have h2 : i < ms.length := by omega
    rw [Ob.lexAt_succ, List.drop_eq_getElem_cons h1, List.drop_eq_getElem_cons h2]
    have g1 : ns.getD i 0 = ns[i] := by simp [h1]
    have g2 : ms.getD i 0 = ms[i] := by simp [h2]
    show (if decide (ns.getD i 0 = ms.getD i 0) = true then _ else decide (ms.getD i 0 ≤ ns.getD i 0)) = !(if ns[i] = ms[i] then lexLt (ns.drop (i + 1)) (ms.drop (i + 1)) else decide (ns[i] < ms[i]))
    rw [g1, g2, lexAt_drop hl k (i + 1) (by omega)]
    by_cases e : ns[i] = ms[i]
    · rw [if_pos (decide_eq_true e), if_pos e]
    · rw [if_neg (by simpa using e), if_neg e]
      by_cases q : ns[i] < ms[i]
      · rw [decide_eq_true q, decide_eq_false (by omega)]; rfl
      · rw [decide_eq_false q, decide_eq_true (by omega)]; rfl
theorem op_geT (hu : X.A.units < cLine) : OpR X (compareOp .GtE) (rGeT X.K) := by
  intro pins s σ H x y v u Q I rx ry h
  obtain ⟨a, b, ns, ms, rfl, rfl, ha, hb, hl, q⟩ := h
  cases rx
  cases ry
  obtain ⟨t1, r1, p1, _⟩ := I.tuple ha
  obtain ⟨t2, r2, p2, _⟩ := I.tuple hb
  have i1 : IntsAre t1 ns := Vals.ints r1
  have i2 : IntsAre t2 ms := Vals.ints r2
  have z1 : t1.toArray.size = ns.length := by simpa using i1.length
  have z2 : t2.toArray.size = ms.length := by simpa using i2.length
  have at1 : ∀ j (h : j < t1.toArray.size), ∃ t, t1.toArray[j] = .int (ns.getD j 0) t := fun j h => IntsAre.int_at i1 _ _ (by simp at h; simp [h])
  have at2 : ∀ j (h : j < t2.toArray.size), ∃ t, t2.toArray[j] = .int (ms.getD j 0) t := fun j h => IntsAre.int_at i2 _ _ (by simp at h; simp [h])
  have G := Ob.RcOp.tuples_ge (A := X.A) (s := s) (e := fun j => decide (ns.getD j 0 = ms.getD j 0)) (r := fun j => decide (ms.getD j 0 ≤ ns.getD j 0)) p1 p2 hu
    (fun j k1 k2 => by
      obtain ⟨c, ec⟩ := at1 j k1
      obtain ⟨d, ed⟩ := at2 j k2
      rw [ec, ed]
      have z : decide (ns.getD j 0 = ms.getD j 0) = (ns.getD j 0 == ms.getD j 0) := by
        rw [Bool.eq_iff_iff, decide_eq_true_eq, beq_iff_eq]
      rw [z]
      exact SeqAt.EqAt.int_int _ _ _ _)
    (fun j k1 k2 _ => by
      obtain ⟨c, ec⟩ := at1 j k1
      obtain ⟨d, ed⟩ := at2 j k2
      rw [ec, ed]
      exact Ob.RcOp.ge_int _ _ _ _)
  rw [z1, z2, hl, Nat.min_self] at G
  have zz : decide (ms.length ≥ ms.length) = true := decide_eq_true (Nat.le_refl _)
  rw [zz, lexAt_drop hl ms.length 0 (by omega), List.drop_zero, List.drop_zero] at G
  exact G X.prog X.w X.xe (EP X pins σ Q) ⟨.bl _, H, I, rfl, q⟩
theorem lexLt_HT : ∀ ns ms : List Int, HT.lexLt ns ms = lexLt ns ms
  | [], [] => rfl
  | [], _ :: _ => rfl
  | _ :: _, [] => rfl
  | a :: x, b :: y => by
    show (if a = b then HT.lexLt x y else decide (a < b)) = if a = b then lexLt x y else decide (a < b)
    rw [lexLt_HT x y]
theorem tuple_mul1 (l : Addr) (items : Array Value) (n : Nat) (dd : Option Addr) (sl : Array (Option Value)) (u : Tok) :
    Meets (Builtin.«tuple.__mul__» ⟨[.ref l, .int 1 u], []⟩) (fun _ R s => s.heap.get? l = some { cls := .type "tuple", dict := dd, data := .seq items n, slots := sl } ∧ R (.ok (.ret (Value.ref l))) s) :=
  .of_wp fun prog w A R s h => by
    obtain ⟨hp, g, d, tk, os⟩ := s
    obtain ⟨hl, h⟩ := h
    have f1 := AutoSeq1.idx_int
    have c1 : (items.isEmpty || (1 : Int) == 1) = true := by simp
    wp_walk using wpAny_loadPart' hl
    exact ⟨_, rfl, h⟩
def rRepA (K : PySem.W.Frag) : R2 := fun x y H Q => ∃ l k xs, x = .ref l ∧ y = .int k ∧ SqT K H l xs ∧ xs ≠ [] ∧ 1 ≤ k ∧ k ≤ 1000 ∧ xs.length ≤ 1000 ∧ (k = 1 → Q (.ref l) H) ∧ (2 ≤ k → ∀ p, H p = none → Q (.ref p) (upd H p (.tup (List.replicate k.toNat xs).flatten)))
theorem op_repA : OpR X (binaryOp .Mult) (rRepA X.K) := by
  intro pins s σ H x y v u Q I rx ry h
  obtain ⟨l, k, xs, rfl, rfl, hT, hne, h1, h2, hz, q1, q2⟩ := h
  by_cases hk : k = 1
  · subst hk
    obtain rfl : v = Value.ref l := rx
    obtain ⟨t, rfl⟩ := (show ∃ t, u = Value.int 1 t from ry)
    obtain ⟨ts, r, ⟨⟨cls, dd, data, sl⟩, ho, hc, n, hd⟩, hs⟩ := I.tuple hT
    simp only at hc hd
    subst hc hd
    refine wpAny_binaryOp_repeat_ref (T := "tuple") (U := "int") (by decide) ⟨_, ho, rfl⟩ (fun s' => typeIs_int s' 1 t) noFill_tuple_mul F.fills_int_mul F.slot_int_rmul repeat_tuple F.slot_int_index.lookup
      (call_meets F.slot_int_rmul (typeIs_int s 1 t) F.entry_int_rmul (F.args_int_rmul_2 _ _) (int_rmul_tuple 1 t l ts.toArray n dd sl)
        ⟨ho, rfl, ⟨_, ho, rfl⟩, call_meets F.slot_tuple_mul ⟨_, ho, rfl⟩ F.entry_tuple_mul (F.args_tuple_mul_2 _ _) (tuple_mul1 l ts.toArray n dd sl t) ⟨ho, ?_⟩⟩)
    exact ⟨.ref l, H, I, rfl, q1 rfl⟩
  · exact op_repT pins s σ H _ _ v u Q I rx ry ⟨l, k, xs, rfl, rfl, hT, hne, by omega, h2, hz, q2 (by omega)⟩
end
end SP
end
section
set_option Elab.async false
set_option linter.all false
set_option maxRecDepth 100000
set_option maxHeartbeats 4000000
namespace SP
open PySem PySem.Spec PyProof.Rows L2
abbrev tupD (x : Pt) : PyData := .tuple (x.map .int)
theorem lexLt_lt : ∀ x y : Pt, lexLt x y = decide (x < y)
  | [], [] => by simp [lexLt]
  | [], b :: y => by simp [lexLt]
  | a :: x, [] => by simp [lexLt]
  | a :: x, b :: y => by
    show (if a = b then lexLt x y else decide (a < b)) = decide (a :: x < b :: y)
    rw [lexLt_lt x y, Bool.eq_iff_iff, decide_eq_true_eq, List.cons_lt_cons_iff]
    by_cases e : a = b
    · subst e
      rw [if_pos rfl, decide_eq_true_eq]
      constructor
      · exact fun h => .inr ⟨rfl, h⟩
      · rintro (h | h)
        · omega
        · exact h.2
    · rw [if_neg e, decide_eq_true_eq]
      constructor
      · exact fun h => .inl h
      · rintro (h | h)
        · exact h
        · exact absurd h.1 e
theorem dataLt_tup (x y : Pt) : PySem.W.dataLt (tupD x) (tupD y) = lexLt x y := by
  have e : PySem.W.dataLt (tupD x) (tupD y) = PySem.W.rowLt (x.map .int) (y.map .int) := rfl
  rw [e, PySem.W.dataLt_ints, lexLt_lt]
theorem alike_tup (x y : Pt) : PySem.W.alike (tupD x) (tupD y) = true := PySem.W.alike_ints x y
theorem depth_tup (x : Pt) : (tupD x).depth ≤ 1 := by
  show PyData.depthAll (x.map .int) + 1 ≤ 1
  rw [PySem.W.depth_ints]
  exact Nat.le_refl _
theorem reads_ints {h : Heap} : ∀ {us : List Value} {ns : List Int}, IntsAre us ns → ReadsAll h us (ns.map .int) []
  | _, _, .nil => .nil
  | _, _, .cons n t r => ReadsAll.cons (as := []) (bs := []) (.int n t) (reads_ints r)
theorem reads_pt {X : Cx} {pins : List (Addr × Obj)} {σ : L2.St} {H : Hp} {s : Shared} {a : Addr} {x : Pt} (I : Inv X pins σ H s) (h : H a = some (.tup (x.map V.int))) : Reads s.heap (.ref a) (tupD x) [] := by
  obtain ⟨its, r, ⟨o, ho, hc, n, hd⟩, _⟩ := I.tuple (SqT.of h)
  exact .tuple ho hc hd (by simpa using reads_ints (Vals.ints r))
def ordB (b : Bool) (x y : Pt) : Bool := cond b (!lexLt x y) (!lexLt y x)
theorem ordB_trans {b : Bool} {x y z : Pt} (h : ordB b x y = true) (k : ordB b y z = true) : ordB b x z = true := by
  have T : ∀ {x y z : Pt}, (!lexLt y x) = true → (!lexLt z y) = true → (!lexLt z x) = true := by
    intro x y z h k
    rw [Bool.not_eq_true'] at h k ⊢
    by_cases e1 : x = y
    · subst e1; exact k
    · have q1 := lexLt_total (fun z => e1 z.symm) h
      by_cases e2 : y = z
      · subst e2; exact h
      · have q2 := lexLt_total (fun z => e2 z.symm) k
        cases q : lexLt z x with
        | false => rfl
        | true =>
          have := lexLt_trans q1 (lexLt_trans q2 q)
          rw [lexLt_irrefl] at this
          cases this
  cases b with
  | false => exact T h k
  | true => exact T k h
theorem ordB_total (b : Bool) (x y : Pt) : (ordB b x y || ordB b y x) = true := by
  have T : ∀ x y : Pt, ((!lexLt y x) || (!lexLt x y)) = true := by
    intro x y
    cases q : lexLt y x with
    | false => rfl
    | true =>
      cases r : lexLt x y with
      | false => rfl
      | true =>
        have := lexLt_trans q r
        rw [lexLt_irrefl] at this
        cases this
  cases b with
  | false => exact T x y
  | true => exact T y x
theorem sorted_src {prog : Program} {w : World} {A : Around} {E : Value → Shared → Prop} {s : Shared} {T : String} {r d : Addr} {n : Nat} {P : Nat → Value → Prop} {OK : Heap → Prop} {kw : List (Str × Value)} {Q : Value → Shared → Prop}
    (S : PySem.W.KdlSrc prog w T r d n P OK) (hh : A.handled = none) (hok : OK s.heap) (hn : n ≤ sizeLine) (ha : argsOk "sorted" ⟨[.ref r], kw⟩)
    (h : ∀ (h' : Heap) (tk : Nat) (vs : List Value), (∀ b o, s.heap.get? b = some o → h'.get? b = some o) → vs.length = n → (∀ (j : Nat) (v : Value), vs[j]? = some v → P j v) →
      wpAny (model prog w) A.in1 (call (.builtin "list.sort") [.ref h'.objs.size] kw) (fun _ s' => Q (.ref h'.objs.size) s') E { s with heap := h'.push { cls := .type "list", data := .seq vs.toArray }, toks := tk }) :
    wpAny (model prog w) A (call (.builtin "sorted") [.ref r] kw) Q E s := by
  refine call_function_entry_kw kind_sorted plain_sorted entry_sorted ha ?_
  unfold Builtin.«sorted»
  refine wpAny_bind (m := checkCount "sorted" 1 1 _) (wpAny_pure ?_)
  refine wpAny_bind (PySem.W.kdu_collect (A := A.in1) S hh hok hn fun g tk acc kp it => ?_)
  have hl : acc.toList.length = n := by rw [Array.length_toList]; exact it.1
  refine wpAny_bind (wpAny_newList ?_ (by rw [hl]; exact hn))
  have k := h g tk acc.toList kp hl fun j v e => it.2 j v (by rw [← Array.getElem?_toList]; exact e)
  refine wpAny_bind (wpAny_holding (wpAny_mono k (fun _ s' x => ?_) fun _ _ e => e))
  exact wpAny_pure ⟨_, rfl, x⟩
def kI (x : Pt) : List Key := x.map Sum.inl
theorem kI_kV (x : Pt) : (kI x).map kV = x.map V.int := by
  unfold kI
  rw [List.map_map]
  rfl
theorem kI_inj {x y : Pt} (h : kI x = kI y) : x = y := by
  have q := congrArg (List.map kV) h
  rw [kI_kV, kI_kV] at q
  exact List.map_inj_right (fun a b e => by injection e) |>.mp q
section
variable {X : Cx}
abbrev DT (kvs : List (Pt × V)) : HO := .dT (kvs.map fun t => (kI t.1, t.2))
def rSortD (b : Bool) : V → Hp → VK → Prop := fun x H Q => ∃ d kvs, x = .ref d ∧ Rd H d (DT kvs) ∧ (∀ t ∈ kvs, t.1 ≠ []) ∧
  ∀ (p : Addr) (bs : List (Pt × Addr)), H p = none → (bs.map (·.1)).Perm (kvs.map (·.1)) → (bs.map (·.1)).Pairwise (fun x y => ordB b x y = true) → (∀ t ∈ bs, H t.2 = some (.tup (t.1.map V.int))) → Q (.ref p) (upd H p (.lst (bs.map fun t => V.ref t.2)))
theorem kt_keys {H : Hp} : ∀ {kvs : List (Pt × V)} {xs : List (List Key × Addr × Value)}, Paired (fun (p : List Key × V) (q : List Key × Addr × Value) => p.1 = q.1 ∧ H q.2.1 = some (.tup (p.1.map kV)) ∧ RelV p.2 q.2.2) (kvs.map fun t => (kI t.1, t.2)) xs →
    ∃ bs : List (Pt × Addr), bs.map (·.1) = kvs.map (·.1) ∧ bs.map (·.2) = xs.map (·.2.1) ∧ ∀ t ∈ bs, H t.2 = some (.tup (t.1.map V.int))
  | [], _, .nil => ⟨[], rfl, rfl, fun _ h => by cases h⟩
  | t :: kvs, _, .cons h r => by
    obtain ⟨bs, e1, e2, e3⟩ := kt_keys r
    refine ⟨(t.1, _) :: bs, by rw [List.map_cons, e1]; rfl, by rw [List.map_cons, List.map_cons, e2], fun u hu => ?_⟩
    rcases List.mem_cons.mp hu with rfl | hu
    · have q := h.2.1
      rw [kI_kV] at q
      exact q
    · exact e3 u hu
theorem each_refs {R : Value → Pt × Addr → Prop} : ∀ {bs : List (Pt × Addr)}, (∀ t ∈ bs, R (.ref t.2) t) → PySem.W.EachIs R (bs.map fun t => Value.ref t.2) bs
  | [], _ => .nil
  | t :: bs, h => .cons (h t (List.mem_cons_self ..)) (each_refs fun u hu => h u (List.mem_cons_of_mem _ hu))
theorem each_refs' {R : Value → Pt × Addr → Prop} {us : List Value} {bs : List (Pt × Addr)} (e : us = bs.map fun t => Value.ref t.2) (h : ∀ t ∈ bs, R (.ref t.2) t) : PySem.W.EachIs R us bs := by
  subst e
  exact each_refs h
theorem each_vals : ∀ {us : List Value} {bs : List (Pt × Addr)}, PySem.W.EachIs (fun v (t : Pt × Addr) => v = .ref t.2) us bs → Vals (bs.map fun t => V.ref t.2) us
  | _, _, .nil => .nil
  | _, _, .cons h r => .cons h (each_vals r)
theorem sorted_dT {b : Bool} {kw : List (Str × Value)} (hc : X.calm = true) (hu : X.A.units + 64 < cLine) (ha1 : ∀ a, argsOk "sorted" ⟨[.ref a], kw⟩) 
    (hs : ∀ {A : Around} {E : Value → Shared → Prop} {s : Shared} {a : Addr} {n : Nat} {vs : List Value} {bs : List (Pt × Addr)} {Q : Value → Shared → Prop}, s.heap.get? a = some (seqObj "list" vs.toArray n) →
      PySem.W.EachIs (fun v (t : Pt × Addr) => v = .ref t.2) vs bs → PySem.W.EachIs (fun v (t : Pt × Addr) => ∃ as, Reads s.heap v (tupD t.1) as ∧ a ∉ as) vs bs → PySem.W.AllAlike (bs.map fun t => tupD t.1) → PySem.W.Sortable (bs.map fun t => tupD t.1) → bs.length ≤ sizeLine →
      (∀ t, t ∈ bs → A.units + 1 + (tupD t.1).depth < cLine) → (∀ out, out.length = bs.length → PySem.W.EachIs (fun v (t : Pt × Addr) => v = .ref t.2) out (bs.mergeSort (PySem.W.dataLe b fun t => tupD t.1)) → Q .none { s with heap := sortedHeap s.heap a vs (List.toArray out) }) →
      wpAny (model X.prog X.w) A (call (.builtin "list.sort") [.ref a] kw) Q E s)
    {pins : List (Addr × Obj)} {s : Shared} {σ : L2.St} {H : Hp} {x : V} {v : Value} {Q : VK} (I : Inv X pins σ H s) (rx : RelV x v) (h : rSortD b x H Q) : wpAny (model X.prog X.w) X.A (call (.builtin "sorted") [v] kw) (EP X pins σ Q) X.xe s := by
  obtain ⟨d, kvs, rfl, hd, hne, q⟩ := h
  cases rx
  obtain ⟨z, hsm, xs, pr, o, es, ep, ho, hx, hdt, he, hn⟩ := (show ObjOk X.prog X.w H s.heap d (DT kvs) from hd.ok I.hok)
  obtain ⟨bs, b1, b2, b3⟩ := kt_keys pr
  have l1 : es.size = xs.length := size_of_entries he
  have l2 : bs.length = xs.length := by
    have := congrArg List.length b2
    simpa using this
  have l3 : xs.length ≤ sizeLine := by
    have := Paired.length pr
    rw [List.length_map] at z
    rw [List.length_map] at this
    omega
  refine sorted_src (kdl_raw hsm hx hdt) (I.ok.hd hc) ho (by omega) (ha1 d) fun g tk vs kp hl it => ?_
  have ev : vs = bs.map fun t => Value.ref t.2 := by
    have e0 : (bs.map fun t => Value.ref t.2) = (bs.map (·.2)).map Value.ref := by rw [List.map_map]; rfl
    rw [e0, b2]
    apply List.ext_getElem?
    intro j
    rw [List.getElem?_map, List.getElem?_map]
    cases hj : vs[j]? with
    | none =>
      have h1 := List.getElem?_eq_none_iff.mp hj
      rw [List.getElem?_eq_none (by omega)]
      rfl
    | some v =>
      obtain ⟨en, hen, hv⟩ := it j v hj
      have qe := entry_at he j
      rw [hen] at qe
      cases hb : xs[j]? with
      | none => rw [hb] at qe; cases qe
      | some y =>
        rw [hb] at qe
        have e2 : en = entryOfKey (tupleKind (mixKind X.prog X.w)) y := Option.some.inj qe
        rw [hv, e2]
        rfl
  have I1 : Inv X pins σ H { s with heap := g, toks := tk } := I.kept kp
  have I2 := I1.lnew (ys := bs.map fun t => V.ref t.2) (its := vs) (t' := tk) (by rw [ev]; exact each_vals (each_refs fun _ _ => rfl)) (by rw [List.length_map]; omega)
  have hg : ({ s with heap := g, toks := tk } : Shared).heap.objs.size = g.objs.size := rfl
  rw [hg] at I2
  have fr : H g.objs.size = none := I1.fresh
  refine hs (a := g.objs.size) (n := 0) (bs := bs) (Heap.get?_push_size _ rfl) (each_refs' ev fun _ _ => rfl) ?_ ?_ ?_ (by omega) (fun t ht => ?_) fun out ho' eo => ?_
  · refine each_refs' ev fun t ht => ⟨[], ?_, by simp⟩
    exact reads_pt I2 (by rw [upd_ne (ne_of_none (b3 t ht) fr)]; exact b3 t ht)
  · exact PySem.W.AllAlike.of fun t u => alike_tup _ _
  · refine .inl fun D hD => ?_
    obtain ⟨t, ht, rfl⟩ := List.mem_map.mp hD
    have hm : t.1 ∈ kvs.map (·.1) := by rw [← b1]; exact List.mem_map_of_mem ht
    obtain ⟨u, hu, eu⟩ := List.mem_map.mp hm
    have := hne u hu
    cases e : t.1 with
    | nil => rw [eu] at this; exact absurd e this
    | cons a r => exact ⟨.int a, r.map .int, rfl⟩
  · have := depth_tup t.1
    show X.A.units + 1 + 1 + _ < cLine
    omega
  · have ol : out.length = vs.length := by rw [ho', hl, l1, l2]
    obtain ⟨c, hcH⟩ := sortedHeap_at (h := g.push { cls := .type "list", data := .seq vs.toArray }) (vs := vs) (n := 0) (out := out.toArray) (Heap.get?_push_size _ rfl)
    have keepH : ∀ b o, g.get? b = some o → (sortedHeap (g.push { cls := .type "list", data := .seq vs.toArray }) g.objs.size vs out.toArray).get? b = some o := fun b o e => by
      have hlt := Heap.lt_size e
      rw [sortedHeap_old (Nat.ne_of_lt hlt) (by rw [Heap.size_push]; exact Nat.lt_succ_of_lt hlt)]
      exact Heap.get?_push_of_some _ e
    have leq : PySem.W.dataLe b (fun t : Pt × Addr => tupD t.1) = fun t u => ordB b t.1 u.1 := by
      rw [PySem.W.dataLe_eq]
      funext t u
      rw [dataLt_tup, dataLt_tup]
      rfl
    rw [leq] at eo
    have pm : (bs.mergeSort fun t u => ordB b t.1 u.1).Perm bs := List.mergeSort_perm _ _
    have I3 := I1.laid (a := g.objs.size) (o := .lst ((bs.mergeSort fun t u => ordB b t.1 u.1).map fun t => V.ref t.2)) (t' := tk) keepH (Nat.le_refl _)
      ⟨by rw [List.length_map, pm.length_eq]; omega, out, c, each_vals eo, hcH⟩
    refine ⟨.ref g.objs.size, _, I3, rfl, q g.objs.size (bs.mergeSort fun t u => ordB b t.1 u.1) fr ?_ ?_ fun t ht => b3 t (pm.mem_iff.mp ht)⟩
    · rw [← b1]
      exact pm.map _
    · rw [List.pairwise_map]
      exact List.pairwise_mergeSort (le := fun t u : Pt × Addr => ordB b t.1 u.1) (fun x y z h k => ordB_trans h k) (fun x y => ordB_total b x.1 y.1) bs
theorem cr_sortedD (hc : X.calm = true) (hu : X.A.units + 64 < cLine) : CallR X (.builtin "sorted") (fun xs H Q => ∃ x, xs = [x] ∧ rSortD false x H Q) := by
  intro pins s σ H xs us Q I r h
  obtain ⟨x, rfl, h⟩ := h
  obtain ⟨u, rfl, rx⟩ := vals1 r
  exact sorted_dT hc hu (fun a => args_sorted1 _) (fun ho e er hal hk hL hu q => PySem.W.list_sort_data (enc := fun t : Pt × Addr => tupD t.1) ho e er hal hk hL hu q) I rx h
theorem cr_sortedDR (hc : X.calm = true) (hu : X.A.units + 64 < cLine) : CallRK X (.builtin "sorted") [Str.ofString "reverse"] (fun xs zs H Q => ∃ x, xs = [x] ∧ zs = [.bl true] ∧ rSortD true x H Q) := by
  intro pins s σ H xs zs us ws Q I r rz h
  obtain ⟨x, rfl, rfl, h⟩ := h
  obtain ⟨u, rfl, rx⟩ := vals1 r
  obtain ⟨w', rfl, rw'⟩ := vals1 rz
  cases rw'
  exact sorted_dT hc hu (fun a => args_sorted_rev _ _) (fun ho e er hal hk hL hu q => PySem.W.list_sort_rev_data (b := true) (enc := fun t : Pt × Addr => tupD t.1) ho e er hal hk hL hu q) I rx h
theorem truth_ints {prog : Program} {w : World} {A : Around} {ns : List Int} {its : List Value} (e : IntsAre its ns) : TruthOf prog w A (fun i v => its.toArray[i]? = some v) (fun i => ns.getD i 0 != 0) := fun i v s Q E hv hq => by
  have hv' : its[i]? = some v := by simpa using hv
  obtain ⟨t, rfl⟩ := IntsAre.int_at e i v hv'
  exact PySem.P.truthy_int hq
theorem any_rangeI : ∀ ns : List Int, (List.range ns.length).any (fun i => ns.getD i 0 != 0) = ns.any (· != 0)
  | [] => rfl
  | n :: ns => by
    rw [List.length_cons, List.range_succ_eq_map, List.any_cons, List.any_map, List.any_cons, ← any_rangeI ns]
    rfl
def rAnyI (K : PySem.W.Frag) : List V → Hp → VK → Prop := fun vs H Q => ∃ (a : Addr) (ns : List Int), vs = [V.ref a] ∧ SqL K H a (ns.map V.int) ∧ Q (.bl (ns.any (· != 0))) H
theorem cr_anyI (hc : X.calm = true) : CallR X (.builtin "any") (rAnyI X.K) := by
  intro pins s σ H vs us Q I r h
  obtain ⟨a, ns, rfl, hs, q⟩ := h
  obtain ⟨its, rv, hl, _⟩ := I.list hs
  rw [Vals.ref1 r]
  have hi := Vals.ints rv
  refine call_any_walk (iter_any hl.isList fun s2 e2 st hne => ?_)
  subst e2
  refine ⟨_, _, _, _, _, _, _, rfl, Walks.list (A := X.A.in1) (I.ok.hd hc) _ a hne its.toArray, st, truth_ints hi, fun h' tk hk => ?_⟩
  refine ⟨.bl _, H, I.kept fun b o eo => hk b o (fun hm => ?_) (Heap.get?_push_of_some _ eo), ?_, q⟩
  · rcases List.mem_cons.mp hm with e1 | hm
    · subst e1
      exact absurd (Heap.lt_size eo) (Nat.lt_irrefl _)
    · cases hm
  · show Value.bool _ = Value.bool _
    rw [← any_rangeI, List.size_toArray, hi.length]
end
end SP
end
section
set_option Elab.async false
set_option linter.all false
set_option maxRecDepth 100000
set_option maxHeartbeats 4000000
namespace SP
open PySem PySem.Spec PyProof.Rows L2
section
variable {X : Cx} {pins : List (Addr × Obj)} {σ : L2.St} {H : Hp} {s : Shared} {E : Value → Shared → Prop}
abbrev tkd (X : Cx) := tupleKind (mixKind X.prog X.w)
theorem dt_new {a : Addr} {H' : Hp} {h' : Heap} {kvs : List (List Key × V)} {xs : List (List Key × Addr × Value)} (z : kvs.length ≤ sizeLine) (hd : (a == sysModules) = false) (rel : KT H' kvs xs) (dd : h'.DictOfH (tkd X) a xs) : ObjOk X.prog X.w H' h' a (.dT kvs) := by
  obtain ⟨q, es, ep, hq, h2, h3, h4, _, h5⟩ := dd
  exact ⟨z, hd, _, rel, q, es, ep, hq, h2, h3, h4, h5⟩
theorem dictSetT {D b : Addr} {kvs : List (List Key × V)} {k : List Key} {v : V} {r : Value} {Q : Unit → Shared → Prop} (hu : X.A.units + 1 < cLine) (I : Inv X pins σ H s) (hD : H D = some (.dT kvs)) (hz : kvs.length < sizeLine)
    (hb : H b = some (.tup (k.map kV))) (rv : RelV v r) (h : ∀ s', Inv X pins σ (upd H D (.dT (putK kvs k v))) s' → Q () s') : wpAny (model X.prog X.w) X.A (dictSet D (.ref b) r) Q E s := by
  obtain ⟨z, hd, xs, rel, dd⟩ := dt_of I.hok hD
  have hl : (putK kvs k v).length ≤ sizeLine := Nat.le_trans (length_putK kvs k v) hz
  refine wpAny_dictSet_heap (knd := tkd X) (hsz := by rw [← Paired.length rel]; exact z) (Nat.lt_of_succ_lt hu) (key_of I.hok hb) dd fun h' dd' hs => h _ ?_
  have he : ∃ q, h'.get? D = some q := let ⟨q, _, _, hq, _⟩ := dd'; ⟨q, hq⟩
  refine d_write I (by rw [hD]; exact True.intro) hs he (dt_new hl hd ((rel.put k hb rv).keeps fun c ys ec => ?_) dd')
  rw [upd_ne (ne_of ec hD (fun z => nomatch z))]
  exact ec
def tDisp1T (tk tv : TE) : TE := fun σ H Q => ∀ p, H p = none → tk σ (upd H p (.dT [])) fun x H1 => tv σ H1 fun y H2 => ∃ k b, x = .ref b ∧ H2 b = some (.tup (k.map kV)) ∧ H2 p = some (.dT []) ∧ Q (.ref p) (upd H2 p (.dT [(k, y)]))
theorem pe_disp1T {kx vx : Expr} {tk tv : TE} {pos : Pos} (hu : X.A.units + 1 < cLine) (hk : PE X kx tk) (hv : PE X vx tv) : PE X (.Dict [some kx] [vx] pos) (tDisp1T tk tv) := by
  refine ⟨fun pins s σ H Q I q => ?_⟩
  have fr := I.hok.fresh (Nat.le_refl s.heap.objs.size)
  have I1 := I.laid (a := s.heap.objs.size) (o := .dT []) (h' := s.heap.push { cls := .type "dict", data := .dict #[] }) (t' := s.toks) (fun _ _ q => Heap.get?_push_of_some _ q) (Nat.le_refl _) (dt_empty s.heap I.big)
  have ln : (pairTrees [some kx] [vx] X.env pos).length = 1 := pairTrees_length _ _ _ _ rfl rfl
  rw [arm_eval_Dict, zip_pairTrees [some kx] [vx] X.env pos rfl rfl, dictDisplay_pairs _ (by intro z; rw [z] at ln; cases ln) (by rw [ln]; decide)]
  refine wpAny_bind (wpAny_standAt (wpAny_bind (wpAny_subDictH (knd := tkd X) (Nat.lt_of_succ_lt hu) (by rw [ln]; decide) ?_)))
  refine pairTrees_cons_walk (thn (hk.run pins _ σ _ _ I1 (q _ fr)) fun u s2 ⟨x, H2, I2, rx, q2⟩ => thn (hv.run pins _ σ _ _ I2 q2) fun v s3 ⟨y, H3, I3, ry, k, b, ex, hb, hp, q3⟩ => pairTrees_nil_walk ?_)
  subst ex
  obtain rfl : u = Value.ref b := rx
  obtain ⟨z, hd, xs, rel, dd⟩ := dt_of I3.hok hp
  cases rel
  refine ⟨[(k, b, v)], ⟨rfl, rfl, key_of I3.hok hb, trivial⟩, dd, fun h' tk dd' hs => wpAny_pure ⟨.ref s.heap.objs.size, _, ?_, rfl, q3⟩⟩
  have he : ∃ q, h'.get? s.heap.objs.size = some q := let ⟨q, _, _, hq, _⟩ := dd'; ⟨q, hq⟩
  refine d_write I3 (by rw [hp]; exact True.intro) hs he (dt_new (by rw [sizeLine_eq]; show 1 ≤ _; decide) hd (.cons ⟨rfl, ?_, ry⟩ .nil) dd')
  show upd H3 s.heap.objs.size (.dT [(k, y)]) b = _
  rw [upd_ne (ne_of hb hp (fun z => nomatch z))]
  exact hb
theorem storedAllH_kt {H : Hp} : ∀ {ps : List (List Key × Addr × Value)} {kvs acc : List (List Key × V)} {xs : List (List Key × Addr × Value)}, KT H kvs ps → KT H acc xs → KT H (kvs.foldl (fun a t => putK a t.1 t.2) acc) (storedAllH xs ps)
  | [], _, _, _, .nil, r => r
  | p :: ps, t :: kvs, acc, xs, .cons h q, r => by
    obtain ⟨h1, h2, h3⟩ := h
    show KT H (kvs.foldl (fun a t => putK a t.1 t.2) (putK acc t.1 t.2)) (storedAllH (storedH xs p.1 p.2.1 p.2.2) ps)
    refine storedAllH_kt q ?_
    rw [← h1]
    exact KT.put r t.1 h2 h3
theorem foldl_put_len : ∀ (kvs acc : List (List Key × V)), (kvs.foldl (fun a t => putK a t.1 t.2) acc).length ≤ acc.length + kvs.length
  | [], acc => Nat.le_refl _
  | t :: kvs, acc => by
    have h1 := foldl_put_len kvs (putK acc t.1 t.2)
    have h2 := length_putK acc t.1 t.2
    rw [List.foldl_cons, List.length_cons]
    omega
theorem kt_stay {h : Heap} {kvs : List (List Key × V)} {ps : List (List Key × Addr × Value)} {d : Addr} {wr : List Addr} (hok : HOk X.prog X.w H h) (r : KT H kvs ps) (hd : ∀ a o, H a = some o → a ≠ d ∧ a ∉ wr) : KeysStay (tkd X) h d wr ps := by
  intro h' hk x hx
  have q : ∀ {kvs ps}, KT H kvs ps → ∀ x ∈ ps, ∃ t : List Key, x.1 = t ∧ H x.2.1 = some (.tup (t.map kV)) := by
    intro kvs ps r
    induction r with
    | nil => intro x hx; cases hx
    | cons a t ih =>
      intro x hx
      rcases List.mem_cons.mp hx with rfl | hx
      · exact ⟨_, a.1.symm, a.2.1⟩
      · exact ih x hx
  obtain ⟨t, e, ht⟩ := q r x hx
  rw [e]
  classical
  refine key_of (P := X.prog) (w := X.w) (H := fun b => if H b = some (.tup (t.map kV)) then H b else none) (fun a o e => ?_) (by rw [if_pos ht]; exact ht)
  dsimp only at e
  by_cases z : H a = some (.tup (t.map kV))
  · rw [if_pos z, z] at e
    cases e
    obtain ⟨n1, n2⟩ := hd a _ z
    obtain ⟨l, its, rv, ob, e1, e2⟩ := hok a _ z
    exact ⟨l, its, rv, ob, hk a ob n1 n2 e1, e2⟩
  · rw [if_neg z] at e
    cases e
abbrev putAll (kvs : List (List Key × V)) : List (List Key × V) := kvs.foldl (fun a t => putK a t.1 t.2) []
theorem dict_arg {T : String} {a : Addr} {fp wr : List Addr} {OK : Heap → Prop} {n : Nat} {Rel : Nat → Value → Value → Prop} {kvs : List (List Key × V)} {ps : List (List Key × Addr × Value)} {Q : VK} (hu : X.A.units + 3 < cLine) (hc : X.calm = true)
    (A : PairArg X.prog X.w T a fp wr n Rel OK) (I : Inv X pins σ H s) (ok : OK s.heap) (rel : KT H kvs ps) (hp : PairsHaveH (tkd X) n Rel ps) (hwr : ∀ b o, H b = some o → b ∉ wr) (hz : kvs.length ≤ sizeLine)
    (hf : ∀ b ∈ wr, FpOk X pins H b) (q : ∀ p, H p = none → Q (.ref p) (upd H p (.dT (putAll kvs)))) : wpAny (model X.prog X.w) X.A (call (.type "dict") [.ref a]) (EP X pins σ Q) X.xe s := by
  have fr := I.hok.fresh (Nat.le_refl s.heap.objs.size)
  have hl : ps.length = kvs.length := (Paired.length rel).symm
  refine call_dict_pairsH (knd := tkd X) A (I.ok.hd hc) (by show X.A.in1.in1.units < cLine; show X.A.units + 1 + 1 < cLine; omega) ok hp (kt_stay I.hok rel fun b o e => ⟨?_, hwr b o e⟩) (by rw [← hp.1, hl]; exact hz) fun h' tk dd kp => ?_
  · exact Nat.ne_of_lt (I.hok.lt e)
  · have I1 := I.turnedNew (h' := h') (t' := tk) (T := s.heap.objs.size) (ob := .dT (putAll kvs)) kp hf (Nat.le_refl _) ?_
    · exact ⟨.ref s.heap.objs.size, _, I1, rfl, q _ fr⟩
    · have sz : (putAll kvs).length ≤ sizeLine := by
        have := foldl_put_len kvs []
        rw [List.length_nil] at this
        exact Nat.le_trans this (by omega)
      have ns : (s.heap.objs.size == sysModules) = false := beq_eq_false_iff_ne.mpr (Nat.ne_of_gt I.big)
      refine dt_new sz ns (KT.keeps (storedAllH_kt rel .nil) fun c ys ec => ?_) dd
      rw [upd_ne (ne_of_none ec fr)]
      exact ec
theorem pairs_kt {H : Hp} {s : Shared} (hok : HOk X.prog X.w H s.heap) : ∀ {kvs : List (Pt × V)} {vs : List V}, All (kvs.map fun t => tupR [ptR t.1, Is t.2]) vs H →
    ∃ (ps : List (List Key × Addr × Value)) (Ts : List Addr), KT H (kvs.map fun t => (kI t.1, t.2)) ps ∧ vs = Ts.map V.ref ∧ Ts.length = ps.length ∧ ∀ (i : Nat) (T : Addr) (p : List Key × Addr × Value), Ts[i]? = some T → ps[i]? = some p → PairAt s.heap T (.ref p.2.1) p.2.2
  | [], _, .nil => ⟨[], [], .nil, rfl, rfl, fun i T p h => by simp at h⟩
  | t :: kvs, _, .cons h r => by
    obtain ⟨ps, Ts, h1, h2, h3, h4⟩ := pairs_kt hok r
    obtain ⟨T, us, rfl, hT, ru⟩ := h
    obtain ⟨x, y, rfl, hx, hy⟩ := All.l2 ru
    obtain ⟨b, rfl, hb⟩ := hx
    obtain rfl : y = t.2 := hy
    obtain ⟨_, its, rv, o, ho, hc, n, hd⟩ := hok T _ hT
    obtain ⟨u1, u2, rfl, q1, q2⟩ := vals2 rv
    cases q1
    refine ⟨(kI t.1, b, u2) :: ps, T :: Ts, .cons ⟨rfl, by rw [kI_kV]; exact hb, q2⟩ h1, by rw [List.map_cons, h2], by simp [h3], fun i T' p e1 e2 => ?_⟩
    cases i with
    | zero =>
      simp at e1 e2
      subst e1 e2
      exact .inl ⟨o, ho, hc, n, hd⟩
    | succ i => exact h4 i T' p (by simpa using e1) (by simpa using e2)
def rDictZ : List V → Hp → VK → Prop := fun xs H Q => ∃ (a : Addr) (o : Obj) (vs : List V) (kvs : List (Pt × V)), xs = [.ref a] ∧ H a = some (.frz o (.tup vs)) ∧ o.dict = none ∧ kvs.length ≤ sizeLine ∧
    All (kvs.map fun t => tupR [ptR t.1, Is t.2]) vs H ∧ ∀ p, H p = none → Q (.ref p) (upd H p (.dT (putAll (kvs.map fun t => (kI t.1, t.2)))))
theorem call_dictZ (hu : X.A.units + 3 < cLine) (hc : X.calm = true) : CallR X (.type "dict") rDictZ := by
  intro pins s σ H xs us Q I r h
  obtain ⟨a, o, vs, kvs, rfl, ha, ho, hz, hall, q⟩ := h
  obtain ⟨u, rfl, rx⟩ := vals1 r
  cases rx
  obtain ⟨hg, hz2, its, rv, o', ho', hcl, n, hd⟩ := (show ObjOk X.prog X.w H s.heap a (.frz o (.tup vs)) from I.hok a _ ha)
  rw [hg] at ho'
  cases ho'
  obtain ⟨ps, Ts, h1, rfl, h3, h4⟩ := pairs_kt I.hok hall
  have hl : kvs.length = ps.length := by have := Paired.length h1; simpa using this
  have ei : its = Ts.map Value.ref := by
    have q : ∀ {Ts : List Addr} {its : List Value}, Vals (Ts.map V.ref) its → its = Ts.map Value.ref := by
      intro Ts
      induction Ts with
      | nil => intro its r; cases r; rfl
      | cons T Ts ih => intro its r; cases r with | cons a t => cases a; rw [ih t]; rfl
    exact q rv
  have A := PairArg.tuple (prog := X.prog) (w := X.w) a its.toArray (fun j => Ts.getD j 0) (ps.map fun p => (Value.ref p.2.1, p.2.2))
  rw [List.length_map] at A
  refine dict_arg (kvs := kvs.map fun t => (kI t.1, t.2)) (ps := ps) hu hc A I ⟨⟨o, n, hg, hcl, ho, hd⟩, ?_, ?_⟩ h1 ⟨rfl, ?_⟩ (fun b o' e => by simp) (by rw [List.length_map]; exact hz) (fun b hb => by simp at hb) q
  · rw [ei]; simp [h3]
  · intro j k v e
    rw [List.getElem?_map] at e
    cases ep : ps[j]? with
    | none => rw [ep] at e; cases e
    | some p =>
      rw [ep] at e
      obtain ⟨rfl, rfl⟩ := Prod.mk.inj (Option.some.inj e)
      have hj : j < Ts.length := by rw [h3]; exact (List.getElem?_eq_some_iff.mp ep).1
      refine ⟨?_, h4 j _ p (by simp [hj]) ep⟩
      rw [ei]
      simp [hj]
  · intro i key v e
    have e' : (ps.map fun p => (Value.ref p.2.1, p.2.2))[i]? = some (key, v) := e
    rw [List.getElem?_map] at e'
    cases ep : ps[i]? with
    | none => rw [ep] at e'; cases e'
    | some p =>
      rw [ep] at e'
      obtain ⟨rfl, rfl⟩ := Prod.mk.inj (Option.some.inj e')
      exact ⟨p.1, p.2.1, rfl, rfl⟩
theorem call_tupleZ : CallR X (.type "tuple") (fun xs H Q => ∃ p ys, xs = [.ref p] ∧ SqL X.K H p ys ∧ ∀ l o, H l = none → o.dict = none → Q (.ref l) (upd H l (.frz o (.tup ys)))) := by
  intro pins s σ H xs us Q I r h
  obtain ⟨p, ys, rfl, hq, q⟩ := h
  obtain ⟨u, rfl, rx⟩ := vals1 r
  cases rx
  obtain ⟨its, r', pl, hz⟩ := I.list hq
  have hlen := r'.length
  refine call_tuple_list pl.isList (fun h' kp => ?_) (by simp only [List.size_toArray] <;> omega)
  have I1 : Inv X pins σ H { s with heap := h' } := I.kept (t' := s.toks) kp
  have I2 := I1.laid (t' := s.toks) (h' := h'.push { cls := .type "tuple", data := .seq its.toArray }) (o := .frz { cls := .type "tuple", data := .seq its.toArray } (.tup ys)) (fun b o e => Heap.get?_push_of_some _ e) (Nat.le_refl _)
    ⟨Heap.get?_push_size _ rfl, hz, its, r', IsTup.new _ _⟩
  exact ⟨.ref h'.objs.size, _, I2, rfl, q _ _ (I1.hok.fresh (Nat.le_refl _)) rfl⟩
def tDcT (wi : TI) (g : TG) (tt : TT) (tk tv : TE) (vs : List Nat) : TE := fun σ H Q => wi σ H fun J H1 => ∀ D, H1 D = none → ∃ W : Nat → Nat → Hp → Prop, (∃ m, W 0 m (upd H1 D (.dT []))) ∧ ∀ i m H, W i m H →
  (J.stop i H ∧ Q (.ref D) H) ∨ (J.go i H ∧ ∃ Nx : Hp → Prop, (∀ H', Nx H' → ∃ m', m' < m ∧ W (i + 1) m' H') ∧ ∀ x H', J.yld i H x H' → g x (wipe σ vs) H' fun σ2 H2 => wipe σ2 vs = wipe σ vs ∧ tt σ2 H2 fun b H3 =>
    if b = true then tk σ2 H3 fun y H4 => tv σ2 H4 fun z H5 => ∃ kvs k b, y = .ref b ∧ H5 b = some (.tup (k.map kV)) ∧ H5 D = some (.dT kvs) ∧ kvs.length < sizeLine ∧ Nx (upd H5 D (.dT (putK kvs k z))) else Nx H3)
theorem dcT_core {pins : List (Addr × Obj)} {s : Shared} {σ : L2.St} {H : Hp} {Q : VK} {kx vx tg iter : Expr} {ifs : List Expr} {scope : Scope} {own : List (Str × Nat)} {pos pos' : Pos} {wi : TI} {g : TG} {tt : TT} {tk tv : TE} {use : Option (Value → Sem Unit)} {Qf : Value → Shared → Prop}
    (hu : X.A.units + 1 < cLine) (hc : X.calm = true) (hN : X.N.Nodup) (I : Inv X pins σ H s) (hi : PI X tg iter wi) (ok : BlkOk X.N X.env.scope scope own)
    (hg : ∀ (s : Shared) (H : Hp) (C : Addr) (cl : List (Str × Addr)) (fp : List Addr), PG (X.blk s H scope (compEnvC scope cl C X.env) fp) tg g) (ht : ∀ (s : Shared) (H : Hp) (C : Addr) (cl : List (Str × Addr)) (fp : List Addr), PTs (X.blk s H scope (compEnvC scope cl C X.env) fp) ifs tt)
    (hk : ∀ (s : Shared) (H : Hp) (C : Addr) (cl : List (Str × Addr)) (fp : List Addr), PE (X.blk s H scope (compEnvC scope cl C X.env) fp) kx tk)
    (he : ∀ (s : Shared) (H : Hp) (C : Addr) (cl : List (Str × Addr)) (fp : List Addr), PE (X.blk s H scope (compEnvC scope cl C X.env) fp) vx tv) (hs : ∀ x, foldedSetIterable iter X.env x = pure x)
    (h : tDcT wi g tt tk tv (own.map (·.2)) σ H Q)
    (hRR : ∀ D C s' m H', Inv X pins σ H' s' → Q (.ref D) H' → s'.heap.Ns C m → FpOk X pins H' C → compPost (model X.prog X.w) X.A X.xe use Qf (.ref D) C (.ok .next) s') :
    wpAny (model X.prog X.w) X.A (comprehension (.DictComp kx vx [⟨tg, iter, ifs, 0⟩] scope pos) scope X.env pos' newDict false (eval iter X.env) use) Qf X.xe s := by
  have hfree : ∀ y ∈ scope.names, y.2 = .free → ∃ c, X.env.cells.lookup y.1 = some c := fun y hy e => by
    rcases ok.free y hy e with k | k
    · exact I.ok.has _ (.inl k)
    · exact I.ok.has _ (.inr k)
  refine wpAny_comprehension_free (use := use) rfl hs (closure_ok hfree) ok.kind (fun y hy e => by rw [ok.uniq y hy, e])
    (thn (hi.run pins s σ H _ I h) fun xv s1 hx => thn hx fun itv s2 h2 => ?_)
  obtain ⟨it, fp, tn, J, H2, e, I2, T, st2, f2, q⟩ := h2
  subst e
  refine wpAny_newObj_type (newEnv_comp ?_)
  generalize hD : s2.heap.objs.size = D
  have hDn : H2 D = none := I2.hok.fresh (Nat.le_of_eq hD)
  obtain ⟨W, ⟨m0, w0⟩, turn⟩ := q D hDn
  -- the new list
  generalize hs3 : ({ s2 with heap := s2.heap.push { cls := .type "dict", data := .dict #[] } } : Shared) = s3
  have I3 : Inv X pins σ (upd H2 D (.dT [])) s3 := by
    rw [← hs3]
    refine I2.laid (t' := s2.toks) (fun b o e => Heap.get?_push_of_some _ e) (Nat.le_of_eq hD) ?_
    rw [← hD]
    exact dt_empty s2.heap I2.big
  have h3 : s3.heap = s2.heap.push { cls := .type "dict", data := .dict #[] } := by rw [← hs3]
  have sz : ∀ b ∈ fp, b < s2.heap.objs.size := fun b hb => by
    obtain ⟨o, e, _⟩ := T.obj _ _ st2 b hb
    exact Heap.lt_size e
  have f3 : ∀ b ∈ fp, FpOk X pins (upd H2 D (.dT [])) b ∧ b < s3.heap.objs.size := fun b hb => by
    have hlt := sz b hb
    refine ⟨⟨?_, (f2 b hb).2⟩, by rw [h3, Heap.size_push]; exact Nat.lt_succ_of_lt hlt⟩
    rw [upd_ne (by rw [← hD]; exact Nat.ne_of_lt hlt)]
    exact (f2 b hb).1
  have st3 : tn 0 s3.heap := T.keep _ _ _ st2 fun b _ o e => by rw [h3]; exact Heap.get?_push_of_some _ e
  have I4 := block_start I3 ok hN f3
  have pg := hg s3 (upd H2 D (.dT [])) s3.heap.objs.size (cellsFrom (s3.heap.objs.size + 1) scope.names (cloFrom X.env.cells scope.names [])) fp
  have pt := ht s3 (upd H2 D (.dT [])) s3.heap.objs.size (cellsFrom (s3.heap.objs.size + 1) scope.names (cloFrom X.env.cells scope.names [])) fp
  have pk := hk s3 (upd H2 D (.dT [])) s3.heap.objs.size (cellsFrom (s3.heap.objs.size + 1) scope.names (cloFrom X.env.cells scope.names [])) fp
  have pe := he s3 (upd H2 D (.dT [])) s3.heap.objs.size (cellsFrom (s3.heap.objs.size + 1) scope.names (cloFrom X.env.cells scope.names [])) fp
  show codeAny _ _ (.compStart (.DictComp kx vx [⟨tg, iter, ifs, 0⟩] scope pos) 0 (.ref it) (.ref D) (compEnvC scope (cellsFrom (s3.heap.objs.size + 1) scope.names (cloFrom X.env.cells scope.names [])) s3.heap.objs.size X.env)) (compPost (model X.prog X.w) X.A X.xe use Qf (.ref D) s3.heap.objs.size) { s3 with heap := pushCells (s3.heap.push { cls := .type "dict", data := .dict #[] }) scope.names }
  have nfp : ∀ b ∈ fp, (upd H2 D (.dT [])) b = none := fun b hb => (f3 b hb).1.1
  generalize hce : compEnvC scope (cellsFrom (s3.heap.objs.size + 1) scope.names (cloFrom X.env.cells scope.names [])) s3.heap.objs.size X.env = ce at I4 pg pt pk pe ⊢
  have cL : ce.locals = s3.heap.objs.size := by subst hce; rfl
  generalize hH3 : upd H2 D (.dT []) = H3 at I3 I4 pg pt pk pe w0 nfp f3
  generalize hs4 : ({ s3 with heap := pushCells (s3.heap.push { cls := .type "dict", data := .dict #[] }) scope.names } : Shared) = s4 at I4 ⊢
  have st4 : tn 0 s4.heap := T.keep _ _ _ st3 fun b _ o e => by rw [← hs4]; exact pushCells_keeps _ _ _ _ (Heap.get?_push_of_some _ e)
  have stat : ∀ {σ' : L2.St} {H' : Hp} {s' : Shared}, Inv (X.blk s3 H3 scope ce fp) [] σ' H' s' → (∀ b ∈ fp, H' b = none) → ∀ b ∈ fp, FpOk (X.blk s3 H3 scope ce fp) [] H' b := fun {σ' H' s'} I' hn b hb =>
    ⟨hn b hb, (I'.ok.exf b hb).1, I'.ok.exfs b hb, .inl hb, fun x c e => (I'.ok.exf b hb).2 x c e, fun p hp => absurd (show p ∈ ([] : List (Addr × Obj)) ++ [] from hp) (by simp)⟩
  have loop : codeAny (model X.prog X.w) X.A (.compLoop (.DictComp kx vx [⟨tg, iter, ifs, 0⟩] scope pos) 0 (.ref it) (.ref D) ce) (compPost (model X.prog X.w) X.A X.xe use Qf (.ref D) s3.heap.objs.size) s4 := by
    refine compLoop_anyD (fun n s' => ∃ i H', Inv (X.blk s3 H3 scope ce fp) [] (wipe σ (own.map (·.2))) H' s' ∧ tn i s'.heap ∧ (∀ b ∈ fp, H' b = none) ∧ W i n H') ?_ m0 ⟨0, H3, I4, st4, nfp, w0⟩
    rintro n s5 ⟨i, H5, I5, st5, n5, w5⟩
    rcases turn i n H5 w5 with ⟨stop, qq⟩ | ⟨go, Nx, hNx, step⟩
    · have td := T.done (X.blk s3 H3 scope ce fp) rfl rfl rfl hc i [] s5 _ H5 (fun _ _ => False) I5 (stat I5 n5) st5 stop
      refine thnF td fun r s6 ⟨hr, I6⟩ => ?_
      subst hr
      -- back in the def's context
      have I7 : Inv X pins σ H5 s6 := I3.call' (ch := fp) I6.os I6.base I6.hok I6.bare fun b hb => ⟨(f3 b hb).1.2.2.2.1, (f3 b hb).1.2.1, (f3 b hb).1.2.2.2.2.1, (f3 b hb).1.2.2.2.2.2⟩
      have nC : H5 s3.heap.objs.size = none := by
        have z : H5 ce.locals = none := I6.free
        rw [cL] at z
        exact z
      obtain ⟨m, hn, _⟩ := I6.loc
      have hn : s6.heap.Ns ce.locals m := hn
      rw [cL] at hn
      exact hRR D s3.heap.objs.size s6 m H5 I7 qq hn (I3.fpOk (Nat.le_refl _) nC)
    · have ti := T.item (X.blk s3 H3 scope ce fp) rfl rfl rfl hc i [] s5 _ H5 (fun _ _ => False) I5 (stat I5 n5) st5 go
      refine thnF ti fun r s6 ⟨u, hr, h6⟩ => ?_
      subst hr
      refine thnF h6 fun _ s7 ⟨x, H7, I7, r7, y7, st7, n7⟩ => ?_
      have I7' := I7.pinned (stat I7 n7) (T.obj _ _ st7)
      refine thnF (pg.run _ s7 _ H7 x u _ I7' r7 (step x H7 y7)) fun _ s8 ⟨σ8, H8, I8, hw8, q8⟩ => ?_
      refine thnF (pt.run _ s8 σ8 H8 _ I8 q8) fun b s9 ⟨H9, I9, q9⟩ => ?_
      -- the turn's end
      have fin : ∀ {s' : Shared} {H' : Hp}, Inv (X.blk s3 H3 scope ce fp) ([] ++ pinsAt fp s7.heap) σ8 H' s' → Nx H' → ∃ m, m < n ∧ ∃ i H', Inv (X.blk s3 H3 scope ce fp) [] (wipe σ (own.map (·.2))) H' s' ∧ tn i s'.heap ∧ (∀ b ∈ fp, H' b = none) ∧ W i m H' := fun {s' H'} I' nx => by
        obtain ⟨m', hm, w'⟩ := hNx H' nx
        have pin' : ∀ b ∈ fp, ∀ o, s7.heap.get? b = some o → s'.heap.get? b = some o ∧ H' b = none := fun b hb o e =>
          let z := I'.pin (b, o) (List.mem_append_right _ (List.mem_append_right _ (mem_pinsAt hb e)))
          ⟨z.1, z.2.1⟩
        have hl : (wipe σ (own.map (·.2))).length = σ8.length := by rw [← hw8, wipe_length]
        refine ⟨m', hm, i + 1, H', (I'.unpinned (pins := [])).weak hl (fun j v e => ?_), T.keep _ _ _ st7 fun b hb o e => (pin' b hb o e).1, fun b hb => ?_, w'⟩
        · rw [← hw8] at e
          exact (wipe_some e).1
        · obtain ⟨o, e, _⟩ := T.obj _ _ st7 b hb
          exact (pin' b hb o e).2
      cases b with
      | false =>
        simp only [Bool.false_eq_true, if_false] at q9 ⊢
        exact fin I9 q9
      | true =>
        simp only [if_true] at q9 ⊢
        refine thnF (pk.run _ s9 σ8 H9 _ I9 q9) fun z s10 ⟨yk, H10, I10, r10, q10⟩ => ?_
        refine thnF (pe.run _ s10 σ8 H10 _ I10 q10) fun z2 s11 ⟨yv, H11, I11, r11, kvs, k, b, ek, hb11, hD11, hz11, nx⟩ => ?_
        subst ek
        cases r10
        exact dictSetT (X := X.blk s3 H3 scope ce fp) hu I11 hD11 hz11 hb11 r11 fun s12 I12 => fin I12 nx
  exact codeAny_compStart_dict loop (T.self X.A 0 _ _ _ st4 loop)
theorem pe_dcT {kx vx tg iter : Expr} {ifs : List Expr} {scope : Scope} {own : List (Str × Nat)} {pos : Pos} {wi : TI} {g : TG} {tt : TT} {tk tv : TE} (hu : X.A.units + 1 < cLine) (hc : X.calm = true) (hN : X.N.Nodup) (hi : PI X tg iter wi) (ok : BlkOk X.N X.env.scope scope own)
    (hg : ∀ (s : Shared) (H : Hp) (C : Addr) (cl : List (Str × Addr)) (fp : List Addr), PG (X.blk s H scope (compEnvC scope cl C X.env) fp) tg g) (ht : ∀ (s : Shared) (H : Hp) (C : Addr) (cl : List (Str × Addr)) (fp : List Addr), PTs (X.blk s H scope (compEnvC scope cl C X.env) fp) ifs tt)
    (hk : ∀ (s : Shared) (H : Hp) (C : Addr) (cl : List (Str × Addr)) (fp : List Addr), PE (X.blk s H scope (compEnvC scope cl C X.env) fp) kx tk)
    (he : ∀ (s : Shared) (H : Hp) (C : Addr) (cl : List (Str × Addr)) (fp : List Addr), PE (X.blk s H scope (compEnvC scope cl C X.env) fp) vx tv) (hs : ∀ x, foldedSetIterable iter X.env x = pure x := by intro _; rfl) :
    PE X (.DictComp kx vx [⟨tg, iter, ifs, 0⟩] scope pos) (tDcT wi g tt tk tv (own.map (·.2))) := by
  refine ⟨fun pins s σ H Q I h => ?_⟩
  rw [arm_eval_DictComp]
  refine dcT_core hu hc hN I hi ok hg ht hk he hs h fun D C s' m H' I' q hn f => ⟨m, hn, fun h'' sb => ?_⟩
  obtain ⟨f0, f1, f2, f3, f4, f5⟩ := f
  exact ⟨.ref D, H', I'.turned (t' := s'.toks) (fun b o hb e => (sb.2 b hb).trans e) f0 f1 f3 f4 f5, rfl, q⟩
end
end SP
end
section
set_option Elab.async false
set_option linter.all false
set_option maxRecDepth 100000
set_option maxHeartbeats 4000000
namespace SP
open PySem PySem.Spec PyProof.Rows L2
def ItzTL (K : PySem.W.Frag) (a b : Addr) : It :=
  ⟨fun i H => ∃ (xs ys : List V) (x y : V), SqT K H a xs ∧ SqL K H b ys ∧ xs[i]? = some x ∧ ys[i]? = some y,
    fun i H v H' => ∃ T x y, v = .ref T ∧ H T = none ∧ H' = upd H T (.tup [x, y]) ∧ (∀ xs, SqT K H a xs → xs[i]? = some x) ∧ ∀ ys, SqL K H b ys → ys[i]? = some y,
    fun i H => ∃ xs ys : List V, SqT K H a xs ∧ SqL K H b ys ∧ min xs.length ys.length = i⟩
theorem zsep {a b N : Nat} (la : a < N) (lb : b < N) : ZipSep2 (N + 4) (N + 2) (N + 3) N (N + 1) [N, a] [(N + 1), b] :=
  zip_sep2 (fp1 := [a]) (fp2 := [b]) (fun c hc => by rw [List.mem_singleton.mp hc]; exact la) (fun c hc => by rw [List.mem_singleton.mp hc]; exact lb)
theorem turn_zipTL {P : Program} {w : World} {K : PySem.W.Frag} {elts : List Expr} {kk : Nat} {tpos : Pos} (a b : Addr) (N : Nat) (la : a < N) (lb : b < N) :
    Turn P w K (.Tuple elts kk tpos) (ItzTL K a b) [N + 4, N + 2, N + 3, N, N + 1] (N + 4) (fun i h => IsZip h (N + 4) (N + 2) (N + 3) .none ∧ IsTupOf2 h (N + 2) (.ref N) (.ref (N + 1)) ∧ (∃ x y, IsTupOf2 h (N + 3) x y) ∧ h.IsTupleIter N a i ∧ h.IsListIter (N + 1) b i) where
  mem := by simp
  obj := fun i h st c hc => by
    obtain ⟨hz, hTI, ⟨x, y, hTO⟩, ⟨o1, e1, _, d1⟩, ⟨o2, e2, _, d2⟩⟩ := st
    have e' : c = N + 4 ∨ c = N + 2 ∨ c = N + 3 ∨ c = N ∨ c = N + 1 := by simpa using hc
    rcases e' with q | q | q | q | q
    · rw [q]; exact ⟨_, hz, fun v q => nomatch q⟩
    · rw [q]; exact ⟨_, hTI, fun v q => nomatch q⟩
    · rw [q]; exact ⟨_, hTO, fun v q => nomatch q⟩
    · rw [q]; exact ⟨o1, e1, fun v q => by rw [d1] at q; cases q⟩
    · rw [q]; exact ⟨o2, e2, fun v q => by rw [d2] at q; cases q⟩
  keep := fun i h h' st k => by
    obtain ⟨hz, hTI, ⟨x, y, hTO⟩, h1, h2⟩ := st
    exact ⟨k (N + 4) (by simp) _ hz, k (N + 2) (by simp) _ hTI, ⟨x, y, k (N + 3) (by simp) _ hTO⟩, h1.at fun o q => k N (by simp) o q, h2.at fun o q => k (N + 1) (by simp) o q⟩
  item := by
    intro X hP hw hK hc i pins s σ H E I hf st hg
    subst hP hw hK
    obtain ⟨hz, hTI, hTO, h1, h2⟩ := st
    obtain ⟨xs, ys, x, y, hqx, hqy, hx, hy⟩ := hg
    obtain ⟨its, rv, p, _⟩ := I.tuple hqx
    obtain ⟨its2, rv2, p2, _⟩ := I.list hqy
    obtain ⟨u, hu, ru⟩ := rv.get hx
    obtain ⟨u2, hu2, ru2⟩ := rv2.get hy
    have l1 : i < its.toArray.size := by simpa using (List.getElem?_eq_some_iff.mp hu).1
    have l2 : i < its2.toArray.size := by simpa using (List.getElem?_eq_some_iff.mp hu2).1
    have G := GoesN.zip2 (prog := X.prog) (w := X.w) (A := X.A) (elts := elts) (x1 := kk) (pos := tpos) (zsep la lb)
      (Draws.tuple (prog := X.prog) (w := X.w) (A := X.A.in1) (I.ok.hd hc) N a (Nat.ne_of_lt la) its.toArray) (Draws.list (prog := X.prog) (w := X.w) (A := X.A.in1) (I.ok.hd hc) (N + 1) b (Nat.ne_of_lt (Nat.lt_succ_of_lt lb)) its2.toArray)
    refine G.goes i s _ E (by omega) ⟨hz, hTI, hTO, ⟨h1, p⟩, ⟨h2, p2.isList⟩⟩ fun v h' tk y' st' hk _ => ?_
    obtain ⟨T, x', z', rfl, hnew, hx', hz', o, ho, hcl, n, hd⟩ := y'
    have ex' : x' = u := by
      have q1 : its.toArray[i]? = some x' := hx'
      have q2 : its.toArray[i]? = some u := by simpa using hu
      rw [q1] at q2
      exact Option.some.inj q2
    have ez' : z' = u2 := by
      have q1 : its2.toArray[i]? = some z' := hz'
      have q2 : its2.toArray[i]? = some u2 := by simpa using hu2
      rw [q1] at q2
      exact Option.some.inj q2
    subst ex' ez'
    have new : ObjOk X.prog X.w (upd H T (.tup [x, y])) h' T (.tup [x, y]) :=
      ⟨by show 2 ≤ sizeLine; decide, [x', z'], .cons ru (.cons ru2 .nil), ⟨o, ho, hcl, n, hd⟩⟩
    have hN : N + 4 < s.heap.objs.size := Heap.lt_size hz
    have I1 : Inv X pins σ (upd H T (.tup [x, y])) { s with heap := h', toks := tk } := I.turnedNew (ch := [N + 4, N + 2, N + 3, N, N + 1]) (fun c ob hb q => hk c ob (fun hm => hb (by
      simp only [List.mem_cons, List.not_mem_nil, or_false] at hm ⊢
      rcases hm with q | q | q | q <;> simp [q])) q) hf hnew new
    refine ⟨.ref T, _, I1, rfl, ⟨_, x, y, rfl, I.hok.fresh hnew, rfl, fun l hl => by rw [I.tuple_inj hl hqx]; exact hx, fun l hl => by rw [I.list_inj hl hqy]; exact hy⟩, ⟨st'.1, st'.2.1, st'.2.2.1, st'.2.2.2.1.1, st'.2.2.2.2.1⟩, fun c hcm => ?_⟩
    have hlt : c < T := by
      have e' : c = N + 4 ∨ c = N + 2 ∨ c = N + 3 ∨ c = N ∨ c = N + 1 := by simpa using hcm
      have hT : N + 4 < T := Nat.lt_of_lt_of_le hN hnew
      rcases e' with q | q | q | q | q
      · rw [q]; exact hT
      · rw [q]; exact Nat.lt_of_le_of_lt (Nat.add_le_add_left (by decide) N) hT
      · rw [q]; exact Nat.lt_of_le_of_lt (Nat.add_le_add_left (by decide) N) hT
      · rw [q]; exact Nat.lt_of_le_of_lt (Nat.le_add_right _ _) hT
      · rw [q]; exact Nat.lt_of_le_of_lt (Nat.add_le_add_left (by decide) N) hT
    rw [upd_ne (Nat.ne_of_lt hlt)]
    exact (hf c hcm).1
  done := by
    intro X hP hw hK hc i pins s σ H E I hf st hg
    subst hP hw hK
    obtain ⟨hz, hTI, hTO, h1, h2⟩ := st
    obtain ⟨xs, ys, hqx, hqy, hend⟩ := hg
    obtain ⟨its, rv, p, _⟩ := I.tuple hqx
    obtain ⟨its2, rv2, p2, _⟩ := I.list hqy
    have l1 := rv.length
    have l2 := rv2.length
    have e1 : i = min its.toArray.size its2.toArray.size := by simp; omega
    subst e1
    have G := GoesN.zip2 (prog := X.prog) (w := X.w) (A := X.A) (elts := elts) (x1 := kk) (pos := tpos) (zsep la lb)
      (Draws.tuple (prog := X.prog) (w := X.w) (A := X.A.in1) (I.ok.hd hc) N a (Nat.ne_of_lt la) its.toArray) (Draws.list (prog := X.prog) (w := X.w) (A := X.A.in1) (I.ok.hd hc) (N + 1) b (Nat.ne_of_lt (Nat.lt_succ_of_lt lb)) its2.toArray)
    exact G.stops s _ E ⟨hz, hTI, hTO, ⟨h1, p⟩, ⟨h2, p2.isList⟩⟩ fun h' tk hk _ => I.turnedL (ch := [N + 4, N + 2, N + 3, N, N + 1]) (fun c o hb q => hk c o (fun hm => hb (by
      simp only [List.mem_cons, List.not_mem_nil, or_false] at hm ⊢
      rcases hm with q | q | q | q <;> simp [q])) q) hf
  self := fun A i s Q E st h => wpAny_pyIter_zip st.1 h
def iZipTL (K : PySem.W.Frag) (ta : TA) : TI := fun σ H R => ta σ H fun vs H1 => ∃ a b xs ys, vs = [.ref a, .ref b] ∧ SqT K H1 a xs ∧ SqL K H1 b ys ∧ R (ItzTL K a b) H1
theorem pi_zipTL {X : Cx} {e e2 : Expr} {ta : TA} {p pos tpos : Pos} {elts : List Expr} {kk : Nat} (hg : Gl X "zip") (hm : X.mg "zip" = none) (ha : PA X [e, e2] ta)
    (hs : starEach [e, e2] X.env = (false, eval e X.env) :: starEach [e2] X.env := by rfl) (hpl : (backTo pos (starEach [e2] X.env)).any (·.1) = false := by rfl) :
    PI X (.Tuple elts kk tpos) (.Call (.Name "zip" p) [e, e2] [] pos) (iZipTL X.K ta) := by
  refine ⟨fun pins s σ H R I h => ?_⟩
  refine Call_ (ld_blt I hg hm PyProof.Rows.boot_zip (PyProof.Rows.callWith_type1 (thn (ha.run pos pins s σ H _ I h) fun us s1 ⟨vs, H1, I1, r1, q1⟩ => ?_) hs hpl))
  obtain ⟨a, b, xs, ys, ex, hqx, hqy, q⟩ := q1
  subst ex
  cases r1 with
  | cons r rr =>
    cases rr with
    | cons r' rr =>
      cases rr
      cases r
      cases r'
      obtain ⟨its, rv, p1, _⟩ := I1.tuple hqx
      obtain ⟨its2, rv2, p2, _⟩ := I1.list hqy
      refine zip_begins2 (begins_tuple a its.toArray) (begins_list b its2.toArray) p1 p2.isList fun h' hz hTI hTO h1 h2 hsz hk => wpAny_pyIter_zip hz ?_
      have I2 : Inv X pins σ H1 { s1 with heap := h' } := I1.kept (t' := s1.toks) hk
      refine ⟨s1.heap.objs.size + 4, [s1.heap.objs.size + 4, s1.heap.objs.size + 2, s1.heap.objs.size + 3, s1.heap.objs.size, s1.heap.objs.size + 1], _, _, H1, rfl, I2, turn_zipTL a b s1.heap.objs.size p1.lt p2.lt, ⟨hz, hTI, ⟨_, _, hTO⟩, ⟨_, h1, rfl, rfl⟩, ⟨_, h2, rfl, rfl⟩⟩, fun c hcm => ?_, q⟩
      have e' : c = s1.heap.objs.size + 4 ∨ c = s1.heap.objs.size + 2 ∨ c = s1.heap.objs.size + 3 ∨ c = s1.heap.objs.size ∨ c = s1.heap.objs.size + 1 := by simpa using hcm
      have hle : s1.heap.objs.size ≤ c := by
        rcases e' with z | z | z | z | z
        · rw [z]; exact Nat.le_add_right _ _
        · rw [z]; exact Nat.le_add_right _ _
        · rw [z]; exact Nat.le_add_right _ _
        · rw [z]; exact Nat.le_refl _
        · rw [z]; exact Nat.le_add_right _ _
      exact I1.fpOk hle (I1.hok.fresh hle)
section
variable {α β : Type} {K : PySem.W.Frag} {σ : L2.St} {H H2 Hb : Hp} {te tl : TE} {tt : TT} {a b : Addr} {vs ws : List V} {xs : List α} {ys : List β} {A : α → RS} {B : β → RS}
theorem walk_zipTL {n : Nat} (hn : n = min vs.length ws.length) : Walk (ItzTL K a b) n (fun H => SqT K H a vs ∧ SqL K H b ws) (YPair (fun i => vs[i]?) (fun i => ws[i]?)) := by
  subst hn
  refine ⟨fun i _ hi q => ?_, fun _ q => ⟨vs, ws, q.1, q.2, rfl⟩, fun i H v H' _ q y => ?_⟩
  · have h1 : i < vs.length := by omega
    have h2 : i < ws.length := by omega
    exact ⟨vs, ws, vs[i], ws[i], q.1, q.2, by simp [h1], by simp [h2]⟩
  · obtain ⟨T, x, z, h1, h2, h3, h4, h5⟩ := y
    exact ⟨T, x, z, h1, h2, h3, h4 vs q.1, h5 ws q.2⟩
theorem srcG_zipTL [m1 : ∀ x, TMono (A x)] [m2 : ∀ y, TMono (B y)] (h1 : Rd H2 a (.tup vs)) (h2 : Hb b = some (.lst ws)) (r1 : All (xs.map A) vs H2) (r2 : All (ys.map B) ws H2) :
    SrcG (ItzTL K a b) Hb H2 (xs.zip ys) (fun p => tupR [A p.1, B p.2]) := by
  unfold SrcG
  have hn : (xs.zip ys).length = min vs.length ws.length := by rw [List.length_zip, all_len r1, all_len r2]
  refine (walk_zipTL hn).mono (fun H' q => ⟨.inl (q.2.rd h1), SqL.of (q.1.at h2)⟩) fun i H' x H'' _ q y => ?_
  obtain ⟨T, u, w, rfl, hT, rfl, e1, e2⟩ := y
  obtain ⟨p, p1, p2⟩ := all_at (r1.upT q.2) e1
  obtain ⟨s, s1, s2⟩ := all_at (r2.upT q.2) e2
  obtain ⟨e, z⟩ := pair_of hT p2 s2
  exact ⟨e, (p, s), zip_at p1 s1, z⟩
theorem srcD_zipTL {ta : TA} [m1 : ∀ x, TMono (A x)] [m2 : ∀ y, TMono (B y)] (h : EvA ta σ H [tupF (xs.map A), lstR (ys.map B)]) : SrcD (iZipTL K ta) σ H (xs.zip ys) (fun p => tupR [A p.1, B p.2]) := fun H1 e R k =>
  h H1 e _ fun us H2 e2 r => by
    obtain ⟨_, _, rfl, r1, r2⟩ := All.l2 r
    obtain ⟨a, vs, rfl, h1, q1⟩ := r1
    obtain ⟨b, ws, rfl, h2, q2⟩ := r2
    exact ⟨a, b, vs, ws, rfl, .inl h1, SqL.of h2, k _ H2 e2 (srcG_zipTL h1 h2 q1 q2)⟩
end
def Itit (d : Addr) (o : Obj) (kvs : List (List Key × V)) : It :=
  ⟨fun i H => H d = some (.frz o (.dT kvs)) ∧ i < kvs.length, fun i H x H' => ∃ T k v q, kvs[i]? = some (k, v) ∧ x = .ref T ∧ H T = none ∧ H' = upd H T (.tup [.ref q, v]) ∧ H q = some (.tup (k.map kV)), fun i H => H d = some (.frz o (.dT kvs)) ∧ kvs.length ≤ i⟩
section
variable {P : Program} {w : World} {K : PySem.W.Frag} {tg : Expr} {d : Addr} {o : Obj} {es : Array DictEntry} {ep : Nat}
theorem frzT2 {X : Cx} {pins : List (Addr × Obj)} {σ : L2.St} {H : Hp} {s : Shared} {kvs : List (List Key × V)} (I : Inv X pins σ H s) (h : H d = some (.frz o (.dT kvs))) :
    (d == sysModules) = false ∧ s.heap.get? d = some o ∧ o.ExactDict ∧ ∃ (es : Array DictEntry) (ep : Nat), o.data = .dict es ep ∧ es.size = kvs.length ∧
      ∀ (i : Nat) (k : List Key) (v : V), kvs[i]? = some (k, v) → ∃ (en : DictEntry) (q : Addr), es[i]? = some en ∧ en.key = .ref q ∧ RelV v en.val ∧ H q = some (.tup (k.map kV)) := by
  obtain ⟨hd, z, hs, xs, pr, o', es, ep, ho, hx, hdt, he, _⟩ := I.hok d _ h
  rw [hd] at ho
  cases ho
  refine ⟨hs, hd, hx, es, ep, hdt, ?_, fun i k v e => ?_⟩
  · have l1 : es.size = xs.length := size_of_entries he
    have l2 : kvs.length = xs.length := Paired.length pr
    omega
  · obtain ⟨b, hb, e1, e2, e3⟩ := paired_get pr e
    have q := entry_at he i
    rw [hb] at q
    exact ⟨_, b.2.1, q, rfl, e3, e2⟩
theorem turn_itemsT {kvs : List (List Key × V)} {elts : List Expr} {kk : Nat} {tpos : Pos} (it : Addr) (hod : o.data = .dict es ep) :
    Turn P w K (.Tuple elts kk tpos) (Itit d o kvs) [it] it (fun i h => ∃ ok ov, IsItemIter h it d i es.size ep ok ov) where
  mem := by simp
  obj := fun i h st b hb => by
    have e : b = it := by simpa using hb
    subst e
    obtain ⟨ok, ov, e⟩ := st
    exact ⟨_, e, fun v z => nomatch z⟩
  keep := fun i h h' st k => let ⟨ok, ov, e⟩ := st; ⟨ok, ov, k it (by simp) _ e⟩
  item := by
    intro X hP hw hK hc i pins s σ H E I hf st hg
    subst hP hw hK
    obtain ⟨hd, hi⟩ := hg
    obtain ⟨hs, hgd, hx, es', ep', hdt, hsz, ent⟩ := frzT2 I hd
    obtain ⟨rfl, rfl⟩ := dict_ep hod hdt
    obtain ⟨⟨k, v⟩, hkv⟩ : ∃ p, kvs[i]? = some p := ⟨kvs[i], List.getElem?_eq_getElem hi⟩
    obtain ⟨en, q, hen, hkey, rv, hq⟩ := ent i k v hkv
    obtain ⟨ok, ov, he⟩ := st
    have hlt : it < s.heap.objs.size := Heap.lt_size he
    have hie : i < es'.size := (Array.getElem?_eq_some_iff.mp hen).1
    have hee : es'[i] = en := (Array.getElem?_eq_some_iff.mp hen).2
    refine DT.nextI he ⟨o, hgd, hx, hdt⟩ hie fun h' ho hT hz hk => ?_
    rw [hee] at ho hT
    refine ⟨_, rfl, wpAny_letOwnedTupleGo_items (s := { s with heap := h' }) ho fun h'' he' sb => ?_⟩
    have hT2 : h''.get? s.heap.objs.size = some { cls := .type "tuple", data := .seq #[en.key, en.val] } := (sb.2 _ (Nat.ne_of_gt hlt)).trans hT
    have new : ObjOk X.prog X.w (upd H s.heap.objs.size (.tup [.ref q, v])) h'' s.heap.objs.size (.tup [.ref q, v]) :=
      ⟨by show 2 ≤ sizeLine; decide, [en.key, en.val], .cons hkey (.cons rv .nil), ⟨_, hT2, rfl, _, rfl⟩⟩
    have I1 : Inv X pins σ (upd H s.heap.objs.size (.tup [.ref q, v])) { s with heap := h'' } :=
      I.turnedNew (t' := s.toks) (ch := [it]) (fun b ob hb e => (sb.2 b (by simpa using hb)).trans (hk b ob (by simpa using hb) e)) hf (Nat.le_refl _) new
    refine ⟨.ref s.heap.objs.size, _, I1, rfl, ⟨_, k, v, q, hkv, rfl, I.hok.fresh (Nat.le_refl _), rfl, hq⟩, ⟨en.key, en.val, he'⟩, fun b hb => ?_⟩
    have e : b = it := by simpa using hb
    rw [e, upd_ne (Nat.ne_of_lt hlt)]
    exact (hf it (by simp)).1
  done := by
    intro X hP hw hK hc i pins s σ H E I hf st hg
    subst hP hw hK
    obtain ⟨hd, hi⟩ := hg
    obtain ⟨f0, f1, f2, f3, f4, f5⟩ := hf it (by simp)
    obtain ⟨hs, hgd, hx, es', ep', hdt, hsz, ent⟩ := frzT2 I hd
    obtain ⟨rfl, rfl⟩ := dict_ep hod hdt
    obtain ⟨ok, ov, he⟩ := st
    exact DT.endI (I.ok.hd hc) he ⟨o, hgd, hx, hdt⟩ (by omega) fun h' eb => ⟨rfl, I.turned (t' := s.toks) (fun b ob hb e => eb b ob hb e) f0 f1 f3 f4 f5⟩
  self := fun A i s Q E st h => let ⟨_, _, e⟩ := st; PySem.W.kcp_self e h
end
def iItemsT (td : TE) : TI := fun σ H R => td σ H fun x H1 => ∃ d o kvs, x = .ref d ∧ H1 d = some (.frz o (.dT kvs)) ∧ R (Itit d o kvs) H1
theorem pi_itemsT {X : Cx} {e : Expr} {td : TE} {apos cpos : Pos} {elts : List Expr} {kk : Nat} {tpos : Pos} (he : PE X e td) (hbase : attributeBase e "items" X.env (eval e X.env) = eval e X.env := by rfl) (hline : (apos.endLine == cpos.line) = true := by rfl) :
    PI X (.Tuple elts kk tpos) (.Call (.Attribute e "items" apos) [] [] cpos) (iItemsT td) := by
  refine ⟨fun pins s σ H R I h => ?_⟩
  refine wpAny_Call_method (T := "dict") (id := "dict.items") hbase rfl hline F.plainAttrs_dict F.slot_dict_items F.type_dict_items (thn (he.run pins s σ H _ I h) fun u s1 ⟨x, H1, I1, rx, d, o, kvs, ex, hd, q⟩ => ?_)
  subst ex
  obtain rfl : u = Value.ref d := rx
  obtain ⟨hs, hgd, hx, es, ep, hdt, hsz, ent⟩ := frzT2 I1 hd
  have raw : DT.Raw s1.heap d es ep := ⟨o, hgd, hx, hdt⟩
  refine ⟨raw.typeIs, ?_, ?_⟩
  · exact fun a e => by cases e; exact ⟨o, hgd, hx.2.1⟩
  have I2 : Inv X pins σ H1 { s1 with heap := s1.heap.push { cls := .type "dict_items", data := .fields #[.ref d] } } := I1.kept (t' := s1.toks) fun b ob q => Heap.get?_push_of_some _ q
  have fin : wpAny (model X.prog X.w) X.A (pyIter (.ref s1.heap.objs.size)) (PIE X pins σ (.Tuple elts kk tpos) R) X.xe { s1 with heap := s1.heap.push { cls := .type "dict_items", data := .fields #[.ref d] } } := by
    refine DT.iterI (d := d) ⟨_, Heap.get?_push_size _ rfl, rfl, rfl⟩ (raw.push _) (pi_one (tk := s1.toks) I2 _ (turn_itemsT _ hdt) ⟨.none, .none, ?_⟩ q)
    exact Heap.get?_push_size _ rfl
  show wpAny _ _ (callWith cpos (.builtin "dict.items") [.ref d] [] []) _ X.xe s1
  exact method_meetsIn F.slot_dict_items F.entry_dict_items rfl (PySem.evalArgs_none ⟨rfl, raw.typeIs, F.args_dict_items_1 _, _, DT.meetsItems (es := es) (ep := ep) hs, ⟨raw, fin⟩⟩)
end SP
end
section
set_option Elab.async false
set_option linter.all false
set_option maxRecDepth 100000
set_option maxHeartbeats 4000000
namespace SP
open PySem PySem.Spec PyProof.Rows L2
theorem any_kI (kvs : List (Pt × V)) (k : Pt) : ((kvs.map fun t => (kI t.1, t.2)).any fun kv => decide (kv.1 = kI k)) = kvs.any fun kv => decide (kv.1 = k) := by
  rw [List.any_map]
  congr 1
  funext t
  show decide (kI t.1 = kI k) = decide (t.1 = k)
  rw [Bool.eq_iff_iff, decide_eq_true_eq, decide_eq_true_eq]
  exact ⟨kI_inj, fun h => by rw [h]⟩
theorem putK_kI (kvs : List (Pt × V)) (k : Pt) (v : V) : putK (kvs.map fun t => (kI t.1, t.2)) (kI k) v = (putK kvs k v).map fun t => (kI t.1, t.2) := by
  unfold putK
  rw [any_kI]
  split
  · rw [List.map_map, List.map_map]
    apply List.map_congr_left
    intro t _
    show (if kI t.1 = kI k then (kI t.1, v) else (kI t.1, t.2)) = (kI (if t.1 = k then (t.1, v) else t).1, (if t.1 = k then (t.1, v) else t).2)
    by_cases e : t.1 = k
    · rw [if_pos (by rw [e]), if_pos e]
    · rw [if_neg (fun z => e (kI_inj z)), if_neg e]
  · rw [List.map_append]
    rfl
theorem valV_kI (k : Pt) : ∀ kvs : List (Pt × V), valV (kvs.map fun t => (kI t.1, t.2)) (kI k) = valV kvs k
  | [] => rfl
  | t :: r => by
    rw [List.map_cons]
    by_cases e : t.1 = k
    · rw [valV_pos (p := (kI t.1, t.2)) (by rw [e]), valV_pos e]
    · rw [valV_neg (p := (kI t.1, t.2)) (fun z => e (kI_inj z)), valV_neg e, valV_kI k r]
abbrev putL (kvs : List (Pt × V)) : List (Pt × V) := kvs.foldl (fun a t => putK a t.1 t.2) []
theorem putAll_kI (kvs : List (Pt × V)) : putAll (kvs.map fun t => (kI t.1, t.2)) = (putL kvs).map fun t => (kI t.1, t.2) := by
  have q : ∀ kvs acc : List (Pt × V), (kvs.map fun t => (kI t.1, t.2)).foldl (fun a t => putK a t.1 t.2) (acc.map fun t => (kI t.1, t.2)) = (kvs.foldl (fun a t => putK a t.1 t.2) acc).map fun t => (kI t.1, t.2) := by
    intro kvs
    induction kvs with
    | nil => intro acc; rfl
    | cons t r ih =>
      intro acc
      rw [List.map_cons, List.foldl_cons, List.foldl_cons, putK_kI, ih]
  exact q kvs []
theorem putL_snoc (kvs : List (Pt × V)) (t : Pt × V) : putL (kvs ++ [t]) = putK (putL kvs) t.1 t.2 := by
  unfold putL
  rw [List.foldl_append]
  rfl
theorem putL_nodup {kvs : List (Pt × V)} (h : (kvs.map (·.1)).Nodup) : putL kvs = kvs := by
  have q : ∀ kvs acc : List (Pt × V), ((acc ++ kvs).map (·.1)).Nodup → kvs.foldl (fun a t => putK a t.1 t.2) acc = acc ++ kvs := by
    intro kvs
    induction kvs with
    | nil => intro acc _; rw [List.append_nil]; rfl
    | cons t r ih =>
      intro acc hn
      have e : putK acc t.1 t.2 = acc ++ [t] := by
        apply putK_new
        cases hv : valV acc t.1 with
        | none => rfl
        | some v =>
          unfold valV at hv
          obtain ⟨u, hu, _⟩ := Option.map_eq_some_iff.mp hv
          have h1 := List.mem_of_find?_eq_some hu
          have h2 : u.1 = t.1 := by simpa using List.find?_some hu
          rw [List.map_append, List.nodup_append] at hn
          exact absurd h2 (hn.2.2 u.1 (List.mem_map_of_mem h1) t.1 (by simp))
      rw [List.foldl_cons, e, ih (acc ++ [t]) (by rw [List.append_assoc]; exact hn), List.append_assoc]
      rfl
  have := q kvs [] (by simpa using h)
  simpa using this
theorem putK_keys {kvs : List (Pt × V)} {k : Pt} {v : V} : (putK kvs k v).map (·.1) = if k ∈ kvs.map (·.1) then kvs.map (·.1) else kvs.map (·.1) ++ [k] := by
  have e : (kvs.any fun kv => decide (kv.1 = k)) = true ↔ k ∈ kvs.map (·.1) := by
    rw [List.any_eq_true, List.mem_map]
    constructor
    · rintro ⟨t, h1, h2⟩
      exact ⟨t, h1, by simpa using h2⟩
    · rintro ⟨t, h1, h2⟩
      exact ⟨t, h1, by simpa using h2⟩
  unfold putK
  by_cases h : k ∈ kvs.map (·.1)
  · rw [if_pos (e.mpr h), if_pos h, List.map_map]
    apply List.map_congr_left
    intro t _
    show (if t.1 = k then (t.1, v) else t).1 = t.1
    split <;> rfl
  · rw [if_neg (fun z => h (e.mp z)), if_neg h, List.map_append]
    rfl
theorem putK_nodup {kvs : List (Pt × V)} {k : Pt} {v : V} (h : (kvs.map (·.1)).Nodup) : ((putK kvs k v).map (·.1)).Nodup := by
  rw [putK_keys]
  split
  · exact h
  · rename_i q
    rw [List.nodup_append]
    refine ⟨h, by simp, fun a ha b hb e => ?_⟩
    rw [List.mem_singleton.mp hb] at e
    exact q (e ▸ ha)
theorem putK_mem {kvs : List (Pt × V)} {k : Pt} {v : V} {t : Pt × V} (h : t ∈ putK kvs k v) : t = (k, v) ∨ (t ∈ kvs ∧ t.1 ≠ k) ∨ (t ∈ kvs) := by
  unfold putK at h
  split at h
  · obtain ⟨u, hu, e⟩ := List.mem_map.mp h
    by_cases q : u.1 = k
    · rw [if_pos q] at e
      exact .inl (by rw [← e, q])
    · rw [if_neg q] at e
      rw [← e]
      exact .inr (.inl ⟨hu, q⟩)
  · rcases List.mem_append.mp h with h | h
    · exact .inr (.inr h)
    · exact .inl (List.mem_singleton.mp h)
def dR (kvs : List (Pt × V)) : RS := fun v H => ∃ a, v = .ref a ∧ H a = some (DT kvs)
instance {kvs : List (Pt × V)} : Mono (dR kvs) := ⟨fun e ⟨a, h1, h2⟩ => ⟨a, h1, e.at h2⟩⟩
theorem dGet {H : Hp} {a : Addr} {kvs : List (Pt × V)} {k : Pt} {y : V} (e : Rd H a (DT kvs)) (hy : ptR k y H) : DGet H a y (valV kvs k) := by
  obtain ⟨b, rfl, hb⟩ := hy
  exact .inr ⟨_, kI k, b, e, rfl, by rw [kI_kV]; exact hb, by rw [valV_kI]⟩
def EvD (te : TE) (σ : L2.St) (H : Hp) (kvs : List (Pt × V)) : Prop := ∀ H1, Ext H H1 → ∀ Q : VK, (∀ p H2, H1 p = none → Ext H1 H2 → H2 p = some (DT kvs) → Q (.ref p) H2) → te σ H1 Q
section
variable {K : PySem.W.Frag} {σ : L2.St} {H H' : Hp} {ta tb te tc td ty tk tv tx : TE} {R Rv : RS} {kvs : List (Pt × V)} {k : Pt} {v : V}
theorem EvD.ev (h : EvD te σ H kvs) : Ev te σ H (dR kvs) := fun H1 e1 Q q => h H1 e1 Q fun p H2 _ e r => q _ _ e ⟨p, rfl, r⟩
theorem EvD.mono (e : Ext H H') (h : EvD te σ H kvs) : EvD te σ H' kvs := fun H1 e1 => h H1 (e.trans e1)
theorem ev_dnewT : EvD tDNewT σ H [] := fun H1 e Q k p hp => k p _ hp (Ext.new _ hp) upd_same
theorem ev_disp1T (hk : Ev tk σ H (ptR k)) (hv : Ev tv σ H (Is v)) : EvD (tDisp1T tk tv) σ H [(k, v)] := fun H1 e Q q p hp => by
  refine hk _ (e.trans (Ext.new _ hp)) _ fun x H2 e2 rx => hv H2 ((e.trans (Ext.new _ hp)).trans e2) _ fun y H3 e3 ry => ?_
  obtain ⟨b, rfl, hb⟩ := (inferInstance : TMono (ptR k)).up e3.t rx
  obtain rfl : y = v := ry
  refine ⟨kI k, b, rfl, by rw [kI_kV]; exact hb, e3.at (e2.at upd_same), ?_⟩
  refine q p _ hp ?_ upd_same
  exact ((Ext.new (o := .dT []) hp).trans (e2.trans e3) |> fun z => z.mut hp (e3.at (e2.at upd_same)) trivial)
theorem s_setD {D : Ends} {i : Nat} (h : EvD te σ H kvs) (k : ∀ p H1, H p = none → Ext H H1 → H1 p = some (DT kvs) → D.nx (σ.set i (some (.ref p))) H1) : tAsg te (gName i) D σ H := h H (Ext.refl _) _ fun p H1 n e q => k p H1 n e q
theorem ev_dget (hd : Ev td σ H (dR kvs)) (hy : Ev ty σ H (ptR k)) (hv : valV kvs k = some v) : Ev (tDGet td ty) σ H (Is v) := fun H1 e Q q =>
  hd H1 e _ fun x H2 e2 rx => hy H2 (e.trans e2) _ fun y H3 e3 ry => by
    obtain ⟨a, rfl, ha⟩ := rx
    refine ⟨a, v, rfl, ?_, q v H3 (e2.trans e3) rfl⟩
    rw [← hv]
    exact dGet (.inl (e3.at ha)) ry
theorem ev_dget2 (hd : Ev td σ H (dR kvs)) (hy : Ev ty σ H (ptR k)) (hx : Ev tx σ H (Is v)) : Ev (tDGet2 td ty tx) σ H (Is ((valV kvs k).getD v)) := fun H1 e Q q =>
  hd H1 e _ fun x H2 e2 rx => by
    obtain ⟨a, rfl, ha⟩ := rx
    refine ⟨a, rfl, .inr ⟨_, .inl ha⟩, hy H2 (e.trans e2) _ fun y H3 e3 ry => hx H3 ((e.trans e2).trans e3) _ fun z H4 e4 rz => ?_⟩
    obtain rfl : z = v := rz
    exact ⟨_, dGet (.inl (e4.at (e3.at ha))) ((inferInstance : TMono (ptR k)).up e4.t ry), q _ H4 ((e2.trans e3).trans e4) rfl⟩
theorem ev_din (hy : Ev ty σ H (ptR k)) (hd : Ev td σ H (dR kvs)) : Ev (tDIn ty td) σ H (IsB (valV kvs k).isSome) := fun H1 e Q q =>
  hy H1 e _ fun y H2 e2 ry => hd H2 (e.trans e2) _ fun x H3 e3 rx => by
    obtain ⟨a, rfl, ha⟩ := rx
    exact ⟨a, _, rfl, dGet (.inl ha) ((inferInstance : TMono (ptR k)).up e3.t ry), q _ H3 (e2.trans e3) rfl⟩
theorem ev_dnotin (hy : Ev ty σ H (ptR k)) (hd : Ev td σ H (dR kvs)) : Ev (tDNotIn ty td) σ H (IsB (!(valV kvs k).isSome)) := fun H1 e Q q =>
  hy H1 e _ fun y H2 e2 ry => hd H2 (e.trans e2) _ fun x H3 e3 rx => by
    obtain ⟨a, rfl, ha⟩ := rx
    exact ⟨a, _, rfl, dGet (.inl ha) ((inferInstance : TMono (ptR k)).up e3.t ry), q _ H3 (e2.trans e3) rfl⟩
theorem s_dput {D : Ends} {d : Addr} (hd0 : H d = some (DT kvs)) (hv : Ev tv σ H R) (hd : Ev td σ H (Is (.ref d))) (hy : Ev ty σ H (ptR k)) (hz : kvs.length < sizeLine) [TMono R]
    (q : ∀ v H1, Ext H H1 → R v H1 → D.nx σ (upd H1 d (DT (putK kvs k v)))) : sDPut td ty tv D σ H :=
  hv H (Ext.refl _) _ fun v H1 e1 rv => hd H1 e1 _ fun x H2 e2 rx => hy H2 (e1.trans e2) _ fun y H3 e3 ry => by
    obtain rfl : x = .ref d := rx
    obtain ⟨b, rfl, hb⟩ := ry
    have h3 : H3 d = some (DT kvs) := e3.at (e2.at (e1.at hd0))
    refine ⟨d, _, rfl, DPut.t (k := kI k) h3 (by rw [kI_kV]; exact hb) (by rw [List.length_map]; exact hz), ?_⟩
    rw [putK_kI]
    exact q v H3 ((e1.trans e2).trans e3) (TMono.up (e2.trans e3).t rv)
theorem Ext.lock {d : Addr} {o : Obj} (hd : H d = some (DT kvs)) (e : Ext (upd H d (.frz o (DT kvs))) H') : Ext H (upd H' d (DT kvs)) where
  keep := fun b u q n => by
    by_cases hb : b = d
    · subst hb; rw [hd] at q; cases q; exact upd_same
    · rw [upd_ne hb]; exact e.keep b u (by rw [upd_ne hb]; exact q) n
  free := fun b q => by
    by_cases hb : b = d
    · subst hb; rw [upd_same] at q; cases q
    · rw [upd_ne hb] at q
      have := e.free b q
      rw [upd_ne hb] at this
      exact this
  tabs := fun P t => by
    have t1 := e.tabs P (tabN_upd (o := .frz o (DT kvs)) hd trivial t)
    have hd' : H' d = some (.frz o (DT kvs)) := e.at upd_same
    obtain ⟨ps, h1, h2, h3⟩ := t1
    have np : P ≠ d := by
      rintro rfl
      rw [hd'] at h1
      cases h1
    refine ⟨ps, by rw [upd_ne np]; exact h1, h2, fun pos cv e => ?_⟩
    obtain ⟨c, rfl, hc⟩ := h3 pos cv e
    refine ⟨c, rfl, ?_⟩
    have nc : c ≠ d := by
      rintro rfl
      rw [hd'] at hc
      obtain ⟨f, ef⟩ := @codeO_ext c LQ
      rw [ef] at hc
      cases hc
    rw [upd_ne nc]
    exact hc
theorem ev_lockD {kvs' : List (Pt × V)} (hd : ∃ d, H d = some (DT kvs) ∧ ∀ H1, Ext H H1 → ∀ o, EvD te σ (upd H1 d (.frz o (DT kvs))) kvs') : EvD (tLockE te) σ H kvs' := fun H1 e Q q => by
  obtain ⟨d, h1, h2⟩ := hd
  have hd1 : H1 d = some (DT kvs) := e.at h1
  refine ⟨d, _, hd1, trivial, fun od => h2 H1 e od _ (Ext.refl _) _ fun p H2 hp e2 hp2 => ⟨e2.at upd_same, ?_⟩⟩
  have np : p ≠ d := by
    rintro rfl
    rw [upd_same] at hp
    cases hp
  refine q p _ (by rw [upd_ne np] at hp; exact hp) (Ext.lock hd1 e2) (by rw [upd_ne np]; exact hp2)
theorem InsR.upd {C : Addr} {fs : List (Str × V)} {d : Addr} {o u : HO} (h : InsR C fs v H) (hd : H d = some u) (hu : plainO u) : InsR C fs v (L2.upd H d o) := by
  obtain ⟨a, dx, h1, h2⟩ := h
  refine ⟨a, dx, h1, ?_⟩
  have na : a ≠ d := by
    rintro rfl
    rw [h2] at hd
    cases hd
    exact hu
  rw [upd_ne na]
  exact h2
end
section
variable {α β : Type} {K : PySem.W.Frag} {σ : L2.St} {H H2 Hb : Hp} {te tk tv td : TE} {tt : TT} {d : Addr} {o : Obj} {kvs : List (Pt × V)} {xs : List α} {A : α → RS}
theorem dt_at {i : Nat} {k : List Key} {v : V} (h : (kvs.map fun t => (kI t.1, t.2))[i]? = some (k, v)) : ∃ x, kvs[i]? = some (x, v) ∧ k = kI x := by
  rw [List.getElem?_map] at h
  cases e : kvs[i]? with
  | none => rw [e] at h; simp at h
  | some t =>
    rw [e] at h
    obtain ⟨h1, h2⟩ := Prod.mk.inj (Option.some.inj h)
    exact ⟨t.1, by rw [← h2], h1.symm⟩
theorem srcG_keysT (hd : Hb d = some (.frz o (DT kvs))) : SrcG (Itkt d o (kvs.map fun t => (kI t.1, t.2))) Hb H2 kvs (fun t => ptR t.1) := by
  unfold SrcG
  refine ⟨fun i H' hi q => ⟨q.1.at hd, by rw [List.length_map]; exact hi⟩, fun H' q => ⟨q.1.at hd, by rw [List.length_map]; exact Nat.le_refl _⟩, fun i H' x H'' hi q y => ?_⟩
  obtain ⟨rfl, k, v, b, h1, rfl, h3⟩ := y
  obtain ⟨z, hz, rfl⟩ := dt_at h1
  rw [kI_kV] at h3
  exact ⟨Ext.refl _, (z, v), hz, b, rfl, h3⟩
theorem srcG_itemsT (hd : Hb d = some (.frz o (DT kvs))) : SrcG (Itit d o (kvs.map fun t => (kI t.1, t.2))) Hb H2 kvs (fun t => tupR [ptR t.1, Is t.2]) := by
  unfold SrcG
  refine ⟨fun i H' hi q => ⟨q.1.at hd, by rw [List.length_map]; exact hi⟩, fun H' q => ⟨q.1.at hd, by rw [List.length_map]; exact Nat.le_refl _⟩, fun i H' x H'' hi q y => ?_⟩
  obtain ⟨T, k, v, b, h1, rfl, hT, rfl, h3⟩ := y
  obtain ⟨z, hz, rfl⟩ := dt_at h1
  rw [kI_kV] at h3
  obtain ⟨e1, e2⟩ := pair_of (Rx := ptR z) (Ry := Is v) (x := .ref b) (y := v) hT ⟨b, rfl, h3⟩ rfl
  exact ⟨e1, (z, v), hz, e2⟩
theorem srcD_itemsT (h : Ev td σ H (Is (.ref d))) (hd : H d = some (.frz o (DT kvs))) : SrcD (iItemsT td) σ H kvs (fun t => tupR [ptR t.1, Is t.2]) := fun H1 e R k =>
  h H1 e _ fun v H2 e2 rv => ⟨d, o, _, rv, e2.at (e.at hd), k _ H2 e2 (srcG_itemsT (e2.at (e.at hd)))⟩
theorem srcD_keysT (h : Ev td σ H (Is (.ref d))) (hd : H d = some (.frz o (DT kvs))) : SrcD (iKeys td) σ H kvs (fun t => ptR t.1) := fun H1 e R k =>
  h H1 e _ fun v H2 e2 rv => ⟨d, o, rv, .inr ⟨_, e2.at (e.at hd), k _ H2 e2 (srcG_keysT (e2.at (e.at hd)))⟩⟩
theorem ev_dcT {wi : TI} {g : TG} [gm : GMono g] {vs : List Nat} {f : α → Bool} {key : α → Pt} {val : α → V} (hs : SrcD wi σ H xs A) (hz : xs.length < sizeLine)
    (body : ∀ a x H1, a ∈ xs → Ext H H1 → A a x H1 → g x (wipe σ vs) H1 fun σ2 H2 => wipe σ2 vs = wipe σ vs ∧ H2 = H1 ∧ EvT tt σ2 H1 (f a) ∧ (f a = true → Ev tk σ2 H1 (ptR (key a)) ∧ Ev tv σ2 H1 (Is (val a)))) :
    EvD (tDcT wi g tt tk tv vs) σ H (putL ((xs.filter f).map fun a => (key a, val a))) := fun H1 e Q k =>
  hs H1 e _ fun J H2 e2 s D hD => by
    refine ⟨fun i m Hc => m = xs.length - i ∧ i ≤ xs.length ∧ Hc D = some (DT (putL (((xs.take i).filter f).map fun a => (key a, val a)))) ∧ Ext H2 Hc, ⟨xs.length, by simp, Nat.zero_le _, upd_same, Ext.new _ hD⟩, ?_⟩
    rintro i m Hc ⟨rfl, hi, hacc, ec⟩
    have q : Ext H2 Hc ∧ TEx H2 Hc := ⟨ec, ec.t⟩
    by_cases hlt : i < xs.length
    · refine .inr ⟨s.goes i Hc hlt q, fun H' => H' D = some (DT (putL (((xs.take (i + 1)).filter f).map fun a => (key a, val a)))) ∧ Ext H2 H', fun H' p' => ⟨xs.length - (i + 1), by omega, rfl, hlt, p'⟩, fun x Hc' y => ?_⟩
      obtain ⟨ey, a, ha, hA⟩ := s.yields i Hc x Hc' hlt q y
      refine gm.imp (fun σ2 H3 q => ?_) (body a x Hc' (List.mem_of_getElem? ha) (((e.trans e2).trans ec).trans ey) hA)
      obtain ⟨q1, rfl, q2, q3⟩ := q
      refine ⟨q1, q2 _ (Ext.refl _) _ fun H4 e4 => ?_⟩
      cases hf : f a with
      | false =>
        refine iteF ⟨?_, (ec.trans ey).trans e4⟩
        rw [take_filter_succ ha, hf, if_neg (by decide), List.append_nil]
        exact e4.at (ey.at hacc)
      | true =>
        obtain ⟨q4, q5⟩ := q3 hf
        refine iteT (q4 H4 e4 _ fun x H5 e5 rx => q5 H5 (e4.trans e5) _ fun z H6 e6 rz => ?_)
        obtain ⟨b, rfl, hb⟩ := rx
        obtain rfl : z = val a := rz
        have h6 := e6.at (e5.at (e4.at (ey.at hacc)))
        refine ⟨_, kI (key a), b, rfl, by rw [kI_kV]; exact e6.at hb, h6, ?_, ?_, ((((ec.trans ey).trans e4).trans e5).trans e6).mut hD h6 trivial⟩
        · rw [List.length_map]
          have l1 : (putL (((xs.take i).filter f).map fun a => (key a, val a))).length ≤ i := by
            have l2 := foldl_put_len (((xs.take i).filter f).map fun a => (kI (key a), val a)) []
            have l3 : putAll (((xs.take i).filter f).map fun a => (kI (key a), val a)) = (putL (((xs.take i).filter f).map fun a => (key a, val a))).map fun t => (kI t.1, t.2) := by
              rw [← putAll_kI, List.map_map]
              rfl
            have l4 : (putAll (((xs.take i).filter f).map fun a => (kI (key a), val a))).length ≤ i := by
              refine Nat.le_trans l2 ?_
              rw [List.length_nil, Nat.zero_add, List.length_map]
              exact Nat.le_trans (List.length_filter_le _ _) (by rw [List.length_take]; exact Nat.min_le_left _ _)
            rw [l3, List.length_map] at l4
            exact l4
          omega
        · rw [take_filter_succ ha, hf, if_pos rfl, List.map_append, List.map_cons, List.map_nil, putL_snoc, putK_kI]
          exact upd_same
    · have e1 : i = xs.length := by omega
      subst e1
      rw [List.take_length] at hacc
      exact .inl ⟨s.stops Hc q, k D Hc (e2.fresh hD) (e2.trans ec) hacc⟩
end
end SP
end
section
set_option Elab.async false
set_option linter.all false
set_option maxRecDepth 100000
namespace SP
open PySem PySem.Spec PyProof.Rows L2 SS
section
variable {prog : Program} {w : World} {A : Around} {R : Result → Shared → Prop} {I : Addr} {fp wr : List Addr} {G : Array GenState → Array GenState → Prop} {n : Nat} {P : Nat → Value → Prop} {St : Nat → Shared → Prop}
theorem loopStrN (W : WalksS prog w A.in1 I fp wr G n P St) (S : Addr) (hSf : S ∉ fp) (xs : List Str) (hsz : xs.length = n) (hnd : xs.Nodup) (hn1 : n ≤ 100)
    (hval : ∀ i v, P i v → ∃ t, v = .str (xs.getD i Str.empty) t) :
    ∀ (k i : Nat) (s : Shared), n - i = k → i ≤ n → St i s →
      s.heap.SetOf (PySem.strKind prog w) S (fun k' => (xs.take i).any (· == k')) i →
      (∀ s', Moved (S :: wr) G s s' → s'.heap.SetOf (PySem.strKind prog w) S (fun k' => (xs.take n).any (· == k')) n → R (.ok (.ret .none)) s') →
      codeAny (model prog w) A (.builtin "set.update.loop" ⟨[.ref S, .ref I], []⟩) R s := by
  have hSw : S ∉ wr := fun h => hSf (W.sub _ h)
  have hsub : ∀ b ∈ wr, b ∈ S :: wr := fun b hb => List.mem_cons_of_mem _ hb
  intro k
  induction k with
  | zero =>
    intro i s hk hi hst hS hR
    have hin : i = n := by omega
    subst hin
    refine codeAny_builtin PyProof.Rows.F.entry_set_update_loop ?_
    rw [Around.under_plainId PyProof.Rows.F.plain_set_update_loop _]
    show wpAny _ A.in1 (pyNext (.ref I) >>= _) _ _ s
    refine wpAny_bind (W.done s _ _ hst fun s' hm => ?_)
    show wpAny _ A.in1 (ret Value.none) _ _ s'
    exact wpAny_pure (hR s' (hm.mono hsub) (by
      obtain ⟨o, es, ep, t, ho, rest⟩ := hS
      exact ⟨o, es, ep, t, hm.heap S _ hSw ho, rest⟩))
  | succ k ih =>
    intro i s hk hi hst hS hR
    have hlt : i < n := by omega
    refine codeAny_builtin PyProof.Rows.F.entry_set_update_loop ?_
    rw [Around.under_plainId PyProof.Rows.F.plain_set_update_loop _]
    show wpAny _ A.in1 (pyNext (.ref I) >>= _) _ _ s
    refine wpAny_bind (W.item i s _ _ hlt hst fun v s' hP hst' hm => ?_)
    obtain ⟨t, rfl⟩ := hval i v hP
    have hS' : s'.heap.SetOf (PySem.strKind prog w) S (fun k' => (xs.take i).any (· == k')) i := by
      obtain ⟨o, es, ep, tb, ho, rest⟩ := hS
      exact ⟨o, es, ep, tb, hm.heap S _ hSw ho, rest⟩
    show wpAny _ A.in1 (holding [Value.str (xs.getD i Str.empty) t] (setAdd S (.str (xs.getD i Str.empty) t)) >>= _) _ _ s'
    refine wpAny_bind (wpAny_holding ?_)
    unfold setAdd
    refine wpAny_holding ?_
    refine wpAny_bind ((PySem.strKind prog w).pyHash (k := xs.getD i Str.empty) (strKind_is _ _ _ _) ?_)
    refine wpAny_setAddHashed_of (knd := PySem.strKind prog w) (s := { s' with toks := s'.toks + 1 }) (strKind_is _ _ _ _) rfl hS' (by unfold scanBound; omega) fun h' hsb hS2 => ?_
    have hSi : h'.SetOf (PySem.strKind prog w) S (fun k' => (xs.take (i + 1)).any (· == k')) (i + 1) := by
      have hx : xs.getD i Str.empty = xs[i] := by rw [List.getD_eq_getElem?_getD, List.getElem?_eq_getElem (by omega)]; rfl
      have hnot : (xs.take i).any (· == xs.getD i Str.empty) = false := by
        rw [hx, List.any_eq_false]
        intro z hz
        obtain ⟨m, hm, rfl⟩ := List.mem_iff_getElem.mp hz
        rw [List.length_take] at hm
        have hmi : m < i := by omega
        have := List.pairwise_iff_getElem.mp hnd m i (by omega) (by omega) hmi
        simpa using this
      refine SetOf_congr hS2 (fun k' => ?_) (by rw [hnot]; rfl)
      rw [List.take_add_one, List.getElem?_eq_getElem (by omega), List.any_append, hx]
      show ((xs.take i).any (· == k') || decide (k' = xs[i])) = ((xs.take i).any (· == k') || [xs[i]].any (· == k'))
      congr 1
      by_cases e : k' = xs[i]
      · simp [e]
      · have hb : (xs[i] == k') = false := by simpa [beq_iff_eq] using (fun h' : xs[i] = k' => e h'.symm)
        simp [hb, e]
    refine wpAny_pure ⟨plainId_quiet PyProof.Rows.F.plain_set_update_loop _, ih (i + 1) _ (by omega) hlt (W.frame _ s' _ _ hst' (Nat.le_succ _) fun b hb o e => ?_) hSi fun s'' hm'' hS'' => ?_⟩
    · rw [hsb.2 b (fun h : b = S => hSf (by rw [← h]; exact hb))]; exact e
    · refine hR s'' (Moved.trans W.gtrans ((hm.mono hsub).then_heap (Nat.le_succ _) fun b o hb e => ?_) hm'') hS''
      rw [hsb.2 b (fun h : b = S => hb (by rw [h]; exact List.mem_cons_self))]; exact e
end

section
variable {prog : Program} {w : World} {A : Around} {E : Value → Shared → Prop} {s : Shared}
set_option maxHeartbeats 3200000 in
theorem call_set_listN {l : Addr} {items : Array Value} {xs : List Str} {Q : Value → Shared → Prop}
    (hh : A.handled = none) (hl : s.heap.IsList l items) (hi : PyProof.Rows.StrsAre items.toList xs) (hnd : xs.Nodup) (hn1 : xs.length ≤ 100)
    (h : ∀ (h' : Heap) (tk : Nat), h'.SetOf (PySem.strKind prog w) s.heap.objs.size (fun k' => (xs.take items.size).any (· == k')) items.size →
      (∀ b o, b < s.heap.objs.size → s.heap.get? b = some o → h'.get? b = some o) → Q (.ref s.heap.objs.size) { s with heap := h', toks := tk }) :
    wpAny (model prog w) A (call (.type "set") [.ref l]) Q E s := by
  obtain ⟨c, tl, hmro⟩ := PySem.F.called_set.mro
  have hmade := PySem.F.called_set.made
  have hsub := PySem.F.called_set.sub
  refine wpAny_call (codeAny_of_tree ?_)
  show wpAny _ _ (callAny (.type "set") _) _ _ _
  refine wpAny_pure ⟨Code.quiet_builtin _ (by decide +kernel), codeAny_builtin PySem.F.entry_type_call ?_⟩
  rw [Around.under_plain (weight_type_call_type "set" [.ref l] []) rfl]
  have h1 := PySem.F.called_set.notType
  have h2 := PySem.F.called_set.canCreate
  have hct := PySem.F.typeCall_set_1 (.ref l)
  repeat (any_goals (first | assumption | wp_step))

  refine codeAny_mono (code_set_new_1 (.ref l) (E := E) (Q₁ := fun obj s₁ => ∃ led : Bool, obj = .ref s.heap.objs.size ∧ s₁ = { s with heap := s.heap.push { cls := .type "set", dict := none, data := .set #[] 0 (.fresh 0 0 led) } }) fun led => ⟨led, rfl, rfl⟩) fun r s₁ hr => ?_
  cases r with
  | error e => exact hr
  | ok fl =>
    cases fl with
    | ret obj =>
      obtain ⟨led, rfl, rfl⟩ := hr
      have hS : (s.heap.push { cls := .type "set", dict := none, data := .set #[] 0 (.fresh 0 0 led) }).get? s.heap.objs.size = some { cls := .type "set", dict := none, data := .set #[] 0 (.fresh 0 0 led) } := Heap.get?_push_size _ rfl
      have hT : Shared.TypeIs { s with heap := s.heap.push { cls := .type "set", dict := none, data := .set #[] 0 (.fresh 0 0 led) } } (.ref s.heap.objs.size) "set" := ⟨_, hS, rfl⟩
      have hli := PySem.F.called_set.init.lookup
      have hbi := PySem.F.called_set.init.bind (.ref s.heap.objs.size)
      repeat (any_goals (first | assumption | wp_step))

      refine codeAny_mono (codeAny_call_builtin (R := wants (fun r s₂ => r = .none ∧ ∃ h' tk, s₂ = { s with heap := h', toks := tk } ∧
          h'.SetOf (PySem.strKind prog w) s.heap.objs.size (fun k' => (xs.take items.size).any (· == k')) items.size ∧
          (∀ b o, b < s.heap.objs.size → s.heap.get? b = some o → h'.get? b = some o)) E) PySem.F.called_set.init.plain PySem.F.entry_set_init (check_set_init_1 hT ?_)) fun r₂ s₂ hr₂ => ?_
      · obtain ⟨ol, hol, hcl, nl, hdl⟩ := hl
        obtain ⟨ocls, odict, odata, oslots⟩ := ol
        simp only at hcl hdl
        subst hcl; subst hdl
        have hol' : (s.heap.push { cls := .type "set", dict := none, data := .set #[] 0 (.fresh 0 0 led) }).get? l = some { cls := .type "list", dict := odict, data := .seq items nl, slots := oslots } := Heap.get?_push_of_some _ hol
        have hsls := PySem.F.sub_list_set
        have hslf := PySem.F.sub_list_frozenset
        have hne : (Value.type "list" == Value.type "dict") = false := by decide
        have hl1 : (s.heap.push { cls := .type "set", dict := none, data := .set #[] 0 (.fresh 0 0 led) }).IsList l items := ⟨_, hol', rfl, nl, rfl⟩
        unfold Builtin.«set.__init__» noKeywords Builtin.Frozenset.updateFrom
        generalize hPI : pyIter = PI
        wp_walk
        subst hPI

        refine wpAny_pyIter_list hl1 ?_
        refine wpAny_bind (wpAny_runValue ?_)
        have hlS : l < s.heap.objs.size := Heap.lt_size hol
        have hh3 : A.in1.in1.in1.handled = none := by simp [hh]
        have hneI : l ≠ (s.heap.push { cls := .type "set", dict := none, data := .set #[] 0 (.fresh 0 0 led) }).objs.size := by
          rw [Heap.size_push]; exact Nat.ne_of_lt (Nat.lt_succ_of_lt hlS)
        have hSf : s.heap.objs.size ∉ [(s.heap.push { cls := .type "set", dict := none, data := .set #[] 0 (.fresh 0 0 led) }).objs.size, l] := by
          rw [Heap.size_push]; simp only [List.mem_cons, List.mem_singleton, List.not_mem_nil, or_false, not_or]
          exact ⟨Nat.ne_of_lt (Nat.lt_succ_self _), Nat.ne_of_gt hlS⟩
        have hsz : xs.length = items.size := by rw [← StrsAre.len_eq hi, Array.length_toList]
        have hval : ∀ (i : Nat) (v : Value), items[i]? = some v → ∃ t, v = .str (xs.getD i Str.empty) t := fun i v hv => strs_at hi i v (by rw [Array.getElem?_toList]; exact hv)
        refine loopStrN ((Walks.list hh3 _ l hneI items).toS) s.heap.objs.size
          hSf xs hsz hnd (by rw [← hsz]; exact hn1) hval (items.size - 0) 0 _ (by omega) (Nat.zero_le _)
          ⟨⟨_, Heap.get?_push_size _ rfl, rfl, rfl⟩, (hl1.push _)⟩ ?hS0 ?hR
        case hS0 =>
          have hget : ((s.heap.push { cls := .type "set", dict := none, data := .set #[] 0 (.fresh 0 0 led) }).push { cls := .type "list_iterator", data := .fields #[.ref l, .int 0 0] }).get? s.heap.objs.size
              = some { cls := .type "set", dict := none, data := .set #[] 0 (.fresh 0 0 led) } := Heap.get?_push_of_some _ hS
          exact PyProof.Rows.SetOf_congr ((PyProof.Rows.setObjOf_fresh (knd := PySem.strKind prog w) led).setOf hget (by unfold scanBound; omega)) (fun _ => rfl) rfl
        case hR =>
          intro s' hm hS'
          obtain ⟨h', g', d', tk', os'⟩ := s'
          have eg : g' = s.gens := hm.gens
          have ed : d' = s.drawn := hm.drawn
          have eo : os' = s.os := hm.os
          subst eg; subst ed; subst eo
          show wpAny _ _ _ _ _ _
          refine wpAny_pure ?_
          show wpAny _ _ (ret Value.none) _ _ _
          refine wpAny_pure ⟨rfl, h', tk', rfl, hS', fun b o hb e => ?_⟩
          have hb1 : b ≠ s.heap.objs.size := Nat.ne_of_lt hb
          have hb2 : b ≠ (s.heap.push { cls := .type "set", dict := none, data := .set #[] 0 (.fresh 0 0 led) }).objs.size := by
            rw [Heap.size_push]; exact Nat.ne_of_lt (Nat.lt_succ_of_lt hb)
          exact hm.heap b o (by simp only [List.mem_cons, List.mem_singleton, List.not_mem_nil, or_false, not_or]; exact ⟨hb1, hb2⟩) (Heap.get?_push_of_some _ (Heap.get?_push_of_some _ e))

      · cases r₂ with
        | error e => exact hr₂
        | ok fl₂ =>
          cases fl₂ with
          | ret r =>
            obtain ⟨rfl, h', tk, rfl, hS', hk'⟩ := hr₂
            repeat (any_goals (first | assumption | wp_step))
            exact h _ _ hS' hk'
          | _ => exact hr₂.elim
    | _ => exact hr.elim

end
def tLenSetN (K : PySem.W.Frag) (ta : TE) : TE := fun σ H Q => ta σ H fun x H1 => ∃ l, ∃ xs : List Str, x = .ref l ∧ SqL K H1 l (xs.map V.str) ∧ xs.Nodup ∧ xs.length ≤ 100 ∧ Q (.int xs.length) H1
section
variable {X : Cx}
theorem pe_lenSetN {a : Expr} {ta : TE} {p p2 q pos : Pos} (hc : X.calm = true) (hg : Gl X "len") (hm : X.mg "len" = none) (hg2 : Gl X "set") (hm2 : X.mg "set" = none) (ha : PE X a ta)
    (na : starEach [a] X.env = (false, eval a X.env) :: starEach [] X.env := by rfl) : PE X (.Call (.Name "len" p) [.Call (.Name "set" p2) [a] [] q] [] pos) (tLenSetN X.K ta) := by
  refine ⟨fun pins s σ H Q I h => ?_⟩
  refine Call_ (ld_blt I hg hm boot_len ?_)
  refine PyProof.Rows.callWith_builtin1 (PyProof.Rows.args_cons ?_ rfl) rfl rfl
  refine Call_ (ld_blt I hg2 hm2 boot_set ?_)
  refine PyProof.Rows.callWith_type1 (PyProof.Rows.args_cons (thn (ha.run pins s σ H _ I h) fun v s1 ⟨x, H1, I1, r1, q1⟩ => PyProof.Rows.args_nil ?_) na) na rfl
  obtain ⟨l, xs, rfl, hq, hnd, h1, q1⟩ := q1
  cases r1
  have fin : ∀ (its : List Value), Vals (xs.map V.str) its → ∀ (h' : Heap) (tk : Nat), h'.SetOf (PySem.strKind X.prog X.w) s1.heap.objs.size (fun k' => (xs.take its.toArray.size).any (· == k')) its.toArray.size →
      (∀ b o, b < s1.heap.objs.size → s1.heap.get? b = some o → h'.get? b = some o) →
      wpAny (model X.prog X.w) X.A (spliced (backTo pos (starEach [] X.env))) (fun vs s₂ => wpAny (model X.prog X.w) X.A (call (.builtin "len") (Value.ref s1.heap.objs.size :: vs)) (EP X pins σ Q) X.xe s₂) X.xe { s1 with heap := h', toks := tk } := fun its r h' tk hS hk => by
    refine PyProof.Rows.args_nil ?_
    have hl : its.toArray.size = xs.length := by rw [List.size_toArray, ← r.length, List.length_map]
    rw [hl] at hS
    obtain ⟨o, es, ep, t, ho, hex, hd, _, _, _, hf, hn⟩ := hS
    have I2 : Inv X pins σ H1 { s1 with heap := h', toks := tk } := I1.kept fun b o e => hk b o (Heap.lt_size e) e
    refine call_len_set ho hex hd hf (by rw [hn] <;> omega) ⟨.int xs.length, H1, I2.tok _, ⟨_, by rw [hn]⟩, q1⟩
  obtain ⟨its, r, pl, hz⟩ := I1.list hq
  exact call_set_listN (I1.ok.hd hc) pl.isList (by simpa using strsAre_of r) hnd h1 fun h' tk hS hk => fin its r h' tk hS hk
end
end SP
end
section
set_option Elab.async false
set_option linter.all false
set_option maxRecDepth 100000
set_option maxHeartbeats 4000000
namespace SP
open PySem PySem.Spec PyProof.Rows L2
section
variable {X : Cx}
theorem pe_gl {x : Str} {v : V} {pos : Pos} (h : ∃ u, X.mg x = some u ∧ RelV v u) (hg : Gl X x) (hd : (x == ("__debug__" : Str)) = false := by decide) : PE X (.Name x pos) (tC v) := by
  obtain ⟨u, h1, h2⟩ := h
  exact pe_glob hg h1 h2 hd
theorem pe_ty {x : Str} {n : String} {pos : Pos} (hm : X.mg x = none) (hg : Gl X x) (hv : bootBuiltins x = some (.type n)) (hn : x ≠ "__name__" := by decide) (hd : (x == ("__debug__" : Str)) = false := by decide) : PE X (.Name x pos) (tC (.ty n)) :=
  ⟨fun pins s σ H Q I h => ld_blt I hg hm hv ⟨.ty n, H, I, rfl, h⟩ hn hd⟩
def mostK : List (Key × V) := [(.inl 2, .int 8), (.inl 3, .int 5), (.inl 5, .int 3), (.inl 7, .int 2)]
def MostD (K : PySem.W.Frag) (a : Addr) : Prop := ∀ (P : Program) (w : World) (h : Heap), K.In h → ∃ vs, KV mostK vs ∧ h.DictOf (mixKind P w) a vs
theorem mostD_of {K : PySem.W.Frag} {a : Addr} {es : Array DictEntry} {n : Nat} {sl : Array (Option Value)} (lk : K.lookup a = some ⟨.type "dict", none, .dict es n, sl⟩) (hs : sl.isEmpty = true)
    (he : es.toList.map (fun e => (match e.key, e.val with
    | .int i _, .int j _ => some (i, j, e.hash)
    | _, _ => none)) = [some (2, 8, 2), some (3, 5, 3), some (5, 3, 5), some (7, 2, 7)]) : MostD K a := by
  intro P w h hK
  have one : ∀ {e : DictEntry} {i j k : Int}, (match e.key, e.val with
    | .int i _, .int j _ => some (i, j, e.hash)
    | _, _ => none) = some (i, j, k) → ∃ t u, e.key = .int i t ∧ e.val = .int j u ∧ e.hash = k := by
    intro e i j k h
    obtain ⟨ha, ky, vl⟩ := e
    cases ky <;> cases vl <;> simp at h
    obtain ⟨rfl, rfl, rfl⟩ := h
    exact ⟨_, _, rfl, rfl, rfl⟩
  obtain ⟨e1, e2, e3, e4, hes, q1, q2, q3, q4⟩ : ∃ e1 e2 e3 e4, es.toList = [e1, e2, e3, e4] ∧ (∃ t u, e1.key = .int 2 t ∧ e1.val = .int 8 u ∧ e1.hash = 2) ∧ (∃ t u, e2.key = .int 3 t ∧ e2.val = .int 5 u ∧ e2.hash = 3) ∧
      (∃ t u, e3.key = .int 5 t ∧ e3.val = .int 3 u ∧ e3.hash = 5) ∧ (∃ t u, e4.key = .int 7 t ∧ e4.val = .int 2 u ∧ e4.hash = 7) := by
    generalize es.toList = l at he
    match l, he with
    | [a, b, c, d], he =>
      simp only [List.map_cons, List.map_nil, List.cons.injEq, and_true] at he
      exact ⟨a, b, c, d, rfl, one he.1, one he.2.1, one he.2.2.1, one he.2.2.2⟩
    | [], he => simp at he
    | [_], he => simp at he
    | [_, _], he => simp at he
    | [_, _, _], he => simp at he
    | _ :: _ :: _ :: _ :: _ :: _, he => simp at he
  obtain ⟨t1, u1, k1, v1, h1⟩ := q1
  obtain ⟨t2, u2, k2, v2, h2⟩ := q2
  obtain ⟨t3, u3, k3, v3, h3⟩ := q3
  obtain ⟨t4, u4, k4, v4, h4⟩ := q4
  refine ⟨[(.inl 2, .int 8 u1), (.inl 3, .int 5 u2), (.inl 5, .int 3 u3), (.inl 7, .int 2 u4)], .cons ⟨rfl, _, rfl⟩ (.cons ⟨rfl, _, rfl⟩ (.cons ⟨rfl, _, rfl⟩ (.cons ⟨rfl, _, rfl⟩ .nil))), ?_⟩
  refine ⟨_, es, n, hK a _ lk, ⟨rfl, rfl, by simpa using hs⟩, rfl, fun e hm => ?_, ?_, (by decide : ([.inl 2, .inl 3, .inl 5, .inl 7] : List Key).Nodup)⟩
  · have hm' : e ∈ es.toList := by simpa using hm
    rw [hes] at hm'
    simp only [List.mem_cons, List.not_mem_nil, or_false] at hm'
    rcases hm' with rfl | rfl | rfl | rfl
    · exact ⟨.inl 2, by rw [k1]; exact keyIs_int 2 t1, by rw [h1]; rfl⟩
    · exact ⟨.inl 3, by rw [k2]; exact keyIs_int 3 t2, by rw [h2]; rfl⟩
    · exact ⟨.inl 5, by rw [k3]; exact keyIs_int 5 t3, by rw [h3]; rfl⟩
    · exact ⟨.inl 7, by rw [k4]; exact keyIs_int 7 t4, by rw [h4]; rfl⟩
  · rw [hes]
    exact .cons (by rw [k1]; exact keyIs_int 2 t1) v1 (.cons (by rw [k2]; exact keyIs_int 3 t2) v2 (.cons (by rw [k3]; exact keyIs_int 5 t3) v3 (.cons (by rw [k4]; exact keyIs_int 7 t4) v4 .nil)))
def tMost (K : PySem.W.Frag) (td ty : TE) : TE := fun σ H Q => td σ H fun x H1 => ty σ H1 fun y H2 => ∃ a i v, x = .ref a ∧ MostD K a ∧ y = .int i ∧ valV mostK (.inl i) = some v ∧ Q v H2
theorem pe_most {o i : Expr} {td ty : TE} {pos : Pos} (ho : PE X o td) (hi : PE X i ty) (hs : NoSl i) : PE X (.Subscript o i pos) (tMost X.K td ty) := by
  refine ⟨fun pins s σ H Q I h => ?_⟩
  refine subD_of PySem.F.slot_dict_getitem.lookup hs (thn (ho.run pins s σ H _ I h) fun u s1 ⟨x, H1, I1, rx, q1⟩ => thn (hi.run pins s1 σ H1 _ I1 q1) fun iv s2 ⟨y, H2, I2, ry, a, i, v, ex, hm, ey, hv, q2⟩ => ?_)
  subst ex ey
  obtain rfl : u = Value.ref a := rx
  obtain ⟨t, rfl⟩ := (show ∃ t, iv = Value.int i t from ry)
  obtain ⟨vs, kv, dd⟩ := hm X.prog X.w s2.heap I2.kIn
  obtain ⟨w', hw, rw'⟩ := RelO.some_of (v := v) (o := valueAt vs (.inl i)) (by rw [← hv]; exact kv.val _)
  exact ⟨dd.typeIs, wpAny_getItem_of (knd := mixKind X.prog X.w) (k := (.inl i : Key)) (keyIs_int i t) dd.mapOf hw ⟨v, H2, I2.tok _, rw', q2⟩⟩
def rSumT (K : PySem.W.Frag) : List V → Hp → VK → Prop := fun vs H Q => ∃ (a : Addr) (ns : List Int), vs = [V.ref a] ∧ SqT K H a (ns.map V.int) ∧ Q (.int ns.sum) H
theorem cr_sumT (hc : X.calm = true) : CallR X (.builtin "sum") (rSumT X.K) := by
  intro pins s σ H vs us Q I r h
  obtain ⟨a, ns, rfl, hs, q⟩ := h
  obtain ⟨its, rv, hl, _⟩ := I.tuple hs
  rw [Vals.ref1 r]
  have hi := rv.ints
  obtain ⟨xs, e⟩ := hi.allInts.items
  have hn : numsOf (intItems xs).toList = ns := by rw [← e]; exact hi.numsOf
  rw [nums_intItems] at hn
  rw [e] at hl
  refine PySem.W.ktm_sumG (I.ok.hd hc) hl fun h' tk t' hk => ?_
  refine ⟨.int _, H, I.kept hk, ⟨t', rfl⟩, ?_⟩
  rw [preSum_eq, List.take_of_length_le (by simp), hn]
  exact q
end
end SP
end
section
set_option Elab.async false
set_option linter.all false
set_option maxRecDepth 100000
namespace SP
open PySem PyProof.Rows L2
structure TopF (K : PySem.W.Frag) (mg : Str → Option Value) : Prop where
  b_all : mg "all" = none
  b_any : mg "any" = none
  b_dict : mg "dict" = none
  b_enumerate : mg "enumerate" = none
  b_int : mg "int" = none
  b_isinstance : mg "isinstance" = none
  b_len : mg "len" = none
  b_list : mg "list" = none
  b_range : mg "range" = none
  b_set : mg "set" = none
  b_sorted : mg "sorted" = none
  b_sum : mg "sum" = none
  b_tuple : mg "tuple" = none
  b_zip : mg "zip" = none
  c_Space : Cls K (He.ga K "Space")
  n_Space_prime : NoAttr K (He.ga K "Space") "prime"
  n_Space_names : NoAttr K (He.ga K "Space") "names"
  n_Space_count : NoAttr K (He.ga K "Space") "count"
  c_Rows : Cls K (He.ga K "Rows")
  n_Rows_space : NoAttr K (He.ga K "Rows") "space"
  n_Rows_points : NoAttr K (He.ga K "Rows") "points"
  n_Rows_rows : NoAttr K (He.ga K "Rows") "rows"
  c_System : Cls K (He.ga K "System")
  n_System_space : NoAttr K (He.ga K "System") "space"
  n_System_equations : NoAttr K (He.ga K "System") "equations"
  c_Machine : Cls K (He.ga K "Machine")
  n_Machine_start : NoAttr K (He.ga K "Machine") "start"
  n_Machine_step : NoAttr K (He.ga K "Machine") "step"
  n_Machine_space : NoAttr K (He.ga K "Machine") "space"
  v_LETTERS : ∃ u, mg "LETTERS" = some u ∧ RelV (.str "abcdefghijklmnopqrstuvwxyz") u
  v_DIGITS : ∃ u, mg "DIGITS" = some u ∧ RelV (.str "0123456789") u
  v_LONGEST_NAME : ∃ u, mg "LONGEST_NAME" = some u ∧ RelV (.int 12) u
  v_MOST_NAMES : ∃ u, mg "MOST_NAMES" = some u ∧ RelV (.int 8) u
  v_PRIMES : ∃ u, mg "PRIMES" = some u ∧ RelV (.ref (He.ga K "PRIMES")) u
  v_MOST_OF_PRIME : ∃ u, mg "MOST_OF_PRIME" = some u ∧ RelV (.ref (He.ga K "MOST_OF_PRIME")) u
  p_PRIMES : ∀ H, SqT K H (He.ga K "PRIMES") ([2, 3, 5, 7].map V.int)
  p_MOST : MostD K (He.ga K "MOST_OF_PRIME")
  d_raised_number : Dn K mg "raised_number" s_raised_number
  d_tuples_of : Dn K mg "tuples_of" s_tuples_of
  d_inverse : Dn K mg "inverse" s_inverse
  d_is_name : Dn K mg "is_name" s_is_name
  d_degree_of : Dn K mg "degree_of" s_degree_of
  d_divides : Dn K mg "divides" s_divides
  d_key_of : Dn K mg "key_of" s_key_of
  d_ascending : Dc K mg "ascending" s_ascending (He.cT K ("ascending", none)).1
  d_value_of : Dn K mg "value_of" s_value_of
  d_Space_init : Di K mg "Space" (He.ga K "Space") "Space.__init__" s_Space_init
  d_Space_points : Dm K (He.ga K "Space") "points" "Space.points" s_Space_points
  d_Space_powers : Dm K (He.ga K "Space") "powers" "Space.powers" s_Space_powers
  d_Space_is_point : Dm K (He.ga K "Space") "is_point" "Space.is_point" s_Space_is_point
  d_Space_zero : Dm K (He.ga K "Space") "zero" "Space.zero" s_Space_zero
  d_is_polynomial : Dn K mg "is_polynomial" s_is_polynomial
  d_from_numbers : Dn K mg "from_numbers" s_from_numbers
  d_constant : Dn K mg "constant" s_constant
  d_plus : Dn K mg "plus" s_plus
  d_lessened : Dn K mg "lessened" s_lessened
  d_times : Dn K mg "times" s_times
  d_raised : Dn K mg "raised" s_raised
  d_value : Dn K mg "value" s_value
  d_replaced : Dn K mg "replaced" s_replaced
  d_Rows_init : Di K mg "Rows" (He.ga K "Rows") "Rows.__init__" s_Rows_init
  d_Rows_lessened : Dm K (He.ga K "Rows") "lessened" "Rows.lessened" s_Rows_lessened
  d_Rows_keep : Dm K (He.ga K "Rows") "keep" "Rows.keep" s_Rows_keep
  d_Rows_take : Dm K (He.ga K "Rows") "take" "Rows.take" s_Rows_take
  d_walk : Dn K mg "walk" s_walk
  d_basis : Dn K mg "basis" s_basis
  d_numbers_of : Dn K mg "numbers_of" s_numbers_of
  d_polynomial_of : Dn K mg "polynomial_of" s_polynomial_of
  d_System_init : Di K mg "System" (He.ga K "System") "System.__init__" s_System_init
  d_System_is_solution : Dm K (He.ga K "System") "is_solution" "System.is_solution" s_System_is_solution
  d_System_solutions : Dm K (He.ga K "System") "solutions" "System.solutions" s_System_solutions
  d_factors : Dn K mg "factors" s_factors
  d_shown : Dn K mg "shown" s_shown
  d_led : Dn K mg "led" s_led
  d_all_shown : Dn K mg "all_shown" s_all_shown
  d_Machine_init : Di K mg "Machine" (He.ga K "Machine") "Machine.__init__" s_Machine_init
  d_Machine_after : Dm K (He.ga K "Machine") "after" "Machine.after" s_Machine_after
  d_Machine_came_from : Dm K (He.ga K "Machine") "came_from" "Machine.came_from" s_Machine_came_from
  d_run_to : Dn K mg "run_to" s_run_to
  d_one_of : Dn K mg "one_of" s_one_of
  d_stepped : Dn K mg "stepped" s_stepped
  d_check_safe : Dn K mg "check_safe" s_check_safe
  d_is_run : Dn K mg "is_run" s_is_run
  d_judge_safe : Dn K mg "judge_safe" s_judge_safe
  d_law_cell : Dn K mg "_law_cell" s_law_cell
  d_law_digits : Dn K mg "_law_digits" s_law_digits
  d_law_shape : Dn K mg "_law_shape" s_law_shape
  d_law_names : Dn K mg "_law_names" s_law_names
  d_law_points : Dn K mg "_law_points" s_law_points
  d_law_made : Dn K mg "_law_made" s_law_made
  d_law_drawn : Dn K mg "_law_drawn" s_law_drawn
  d_law_power_value : Dn K mg "_law_power_value" s_law_power_value
  d_law_value : Dn K mg "_law_value" s_law_value
  d_law_plus : Dn K mg "_law_plus" s_law_plus
  d_law_scaled : Dn K mg "_law_scaled" s_law_scaled
  d_law_minus : Dn K mg "_law_minus" s_law_minus
  d_law_lessened : Dn K mg "_law_lessened" s_law_lessened
  d_law_times : Dn K mg "_law_times" s_law_times
  d_law_raised : Dn K mg "_law_raised" s_law_raised
  d_law_constant : Dn K mg "_law_constant" s_law_constant
  d_law_unknown : Dn K mg "_law_unknown" s_law_unknown
  d_law_is_tuple_point : Dn K mg "_law_is_tuple_point" s_law_is_tuple_point
  d_law_is_polynomial : Dn K mg "_law_is_polynomial" s_law_is_polynomial
  d_law_equations : Dn K mg "_law_equations" s_law_equations
  d_law_solutions : Dn K mg "_law_solutions" s_law_solutions
  d_law_shows : Dn K mg "_law_shows" s_law_shows
  d_law_of_table : Dn K mg "_law_of_table" s_law_of_table
  d_law_step : Dn K mg "_law_step" s_law_step
  d_law_after : Dn K mg "_law_after" s_law_after
  d_law_start : Dn K mg "_law_start" s_law_start
  d_law_replaced : Dn K mg "_law_replaced" s_law_replaced
  d_law_safe_shown : Dn K mg "_law_safe_shown" s_law_safe_shown
  d_law_fewest : Dn K mg "_law_fewest" s_law_fewest
  d_law : Dn K mg "law" s_law
end SP
end
section
set_option Elab.async false
set_option linter.all false
set_option maxRecDepth 100000
set_option maxHeartbeats 4000000
namespace SP
open PySem PySem.Spec PyProof.Rows L2
section
variable {K : PySem.W.Frag} {h : Heap} {mg : Str → Option Value}
theorem fStr (X : K.In h) (G : h.Ns mainGlobals mg) {x z : Str} (c : (He.Fa.str x z).ok K = true) : ∃ u, mg x = some u ∧ RelV (.str z) u := by
  obtain ⟨t, e⟩ := He.str_ok X G c
  exact ⟨_, e, t, rfl⟩
theorem fInt (X : K.In h) (G : h.Ns mainGlobals mg) {x : Str} {i : Int} (c : (He.Fa.int x i).ok K = true) : ∃ u, mg x = some u ∧ RelV (.int i) u := by
  obtain ⟨t, e⟩ := He.int_ok X G c
  exact ⟨_, e, t, rfl⟩
theorem fGlo (X : K.In h) (G : h.Ns mainGlobals mg) {x : Str} (c : (He.Fa.glo x).ok K = true) : ∃ u, mg x = some u ∧ RelV (.ref (He.ga K x)) u := ⟨_, He.glo_ok X G c, rfl⟩
theorem fDn (X : K.In h) (G : h.Ns mainGlobals mg) {x : Str} {st : Stmt} (c : (He.Fa.glo x).ok K = true) (d : ∃ fd, FunD K x x (defArgs st) (defBody st) (defScope st) [] [] (He.ga K x) fd) : Dn K mg x st := by
  obtain ⟨fd, F⟩ := d
  exact ⟨_, fd, He.glo_ok X G c, F⟩
theorem fDm {C m : Str} {qual : Str} {st : Stmt} (c : (He.Fa.meth C m).ok K = true) (d : ∃ fd, FunD K m qual (defArgs st) (defBody st) (defScope st) [] [] (He.ma K (He.ga K C) m) fd) : Dm K (He.ga K C) m qual st := by
  obtain ⟨fd, F⟩ := d
  exact ⟨_, fd, He.meth_ok c, F⟩
theorem fDi (X : K.In h) (G : h.Ns mainGlobals mg) {C : Str} {qual : Str} {st : Stmt} (g : (He.Fa.glo C).ok K = true) (c : (He.Fa.mkr C).ok K = true) (d : ∃ fd, FunD K "__init__" qual (defArgs st) (defBody st) (defScope st) [] [] (He.ma K (He.ga K C) "__init__") fd) : Di K mg C (He.ga K C) qual st := by
  obtain ⟨fd, F⟩ := d
  exact ⟨_, fd, He.glo_ok X G g, He.mkr_ok c, F⟩
theorem fDc (X : K.In h) (G : h.Ns mainGlobals mg) {x : Str} {st : Stmt} (c : (He.Fa.glo x).ok K = true) (d : ∃ fd, FunD K x x (defArgs st) (defBody st) (defScope st) [] [] (He.ga K x) fd) : Dc K mg x st (He.cT K (x, none)).1 := by
  obtain ⟨fd, F⟩ := d
  have F' := F
  obtain ⟨oc, od, dV, kV, doc, pm, an, cdv, ct, osl, rfl, lk, hcd, _, _⟩ := F.ex
  obtain ⟨cc, rfl⟩ := He.codeIn_ref hcd
  have e : He.codeOf K (x, none) = cc := He.codeOf_eq (p := (x, none)) lk rfl
  exact ⟨_, _, oc, od, osl, He.glo_ok X G c, F', lk, by show Value.ref cc = .ref (He.codeOf K (x, none)); rw [e]⟩
theorem fMost (e : mostB K = true) : MostD K (He.ga K "MOST_OF_PRIME") := by
  unfold mostB at e
  cases q : K.lookup (He.ga K "MOST_OF_PRIME") with
  | none => rw [q] at e; cases e
  | some o =>
    obtain ⟨oc, od, dt, osl⟩ := o
    rw [q] at e
    cases oc with
    | type c =>
      cases od with
      | none =>
        cases dt with
        | dict es n =>
          obtain ⟨h1, h2⟩ := He.ba e
          obtain ⟨h3, h4⟩ := He.ba h2
          obtain ⟨h5, h6⟩ := He.ba h4
          have e1 : c = "dict" := of_decide_eq_true h1
          subst e1
          exact mostD_of (sl := osl) q h3 (of_decide_eq_true h6)
        | _ => cases e
      | some d => cases dt <;> cases e
    | _ => cases od <;> cases dt <;> cases e
theorem topF {w : World} (X : K.In h) (G : h.Ns mainGlobals mg) (S : He.SaysX fas fns [] tfs exB w h K) : TopF K mg := by
  have c := S.t.d
  obtain ⟨x1, x2⟩ := He.ba (show (mostB K && He.tupB K "PRIMES" [.int 2, .int 3, .int 5, .int 7]) = true from S.more)
  exact {
    b_all := He.free_ok X G (c.fact 74 (f := .free "all") rfl)
    b_any := He.free_ok X G (c.fact 75 (f := .free "any") rfl)
    b_dict := He.free_ok X G (c.fact 76 (f := .free "dict") rfl)
    b_enumerate := He.free_ok X G (c.fact 77 (f := .free "enumerate") rfl)
    b_int := He.free_ok X G (c.fact 78 (f := .free "int") rfl)
    b_isinstance := He.free_ok X G (c.fact 79 (f := .free "isinstance") rfl)
    b_len := He.free_ok X G (c.fact 80 (f := .free "len") rfl)
    b_list := He.free_ok X G (c.fact 81 (f := .free "list") rfl)
    b_range := He.free_ok X G (c.fact 82 (f := .free "range") rfl)
    b_set := He.free_ok X G (c.fact 83 (f := .free "set") rfl)
    b_sorted := He.free_ok X G (c.fact 84 (f := .free "sorted") rfl)
    b_sum := He.free_ok X G (c.fact 85 (f := .free "sum") rfl)
    b_tuple := He.free_ok X G (c.fact 86 (f := .free "tuple") rfl)
    b_zip := He.free_ok X G (c.fact 87 (f := .free "zip") rfl)
    c_Space := He.cls_ok (c.fact 88 (f := .cls "Space") rfl)
    n_Space_prime := He.noat_ok (c.fact 90 (f := .noat "Space" "prime") rfl)
    n_Space_names := He.noat_ok (c.fact 91 (f := .noat "Space" "names") rfl)
    n_Space_count := He.noat_ok (c.fact 92 (f := .noat "Space" "count") rfl)
    c_Rows := He.cls_ok (c.fact 97 (f := .cls "Rows") rfl)
    n_Rows_space := He.noat_ok (c.fact 99 (f := .noat "Rows" "space") rfl)
    n_Rows_points := He.noat_ok (c.fact 100 (f := .noat "Rows" "points") rfl)
    n_Rows_rows := He.noat_ok (c.fact 101 (f := .noat "Rows" "rows") rfl)
    c_System := He.cls_ok (c.fact 105 (f := .cls "System") rfl)
    n_System_space := He.noat_ok (c.fact 107 (f := .noat "System" "space") rfl)
    n_System_equations := He.noat_ok (c.fact 108 (f := .noat "System" "equations") rfl)
    c_Machine := He.cls_ok (c.fact 111 (f := .cls "Machine") rfl)
    n_Machine_start := He.noat_ok (c.fact 113 (f := .noat "Machine" "start") rfl)
    n_Machine_step := He.noat_ok (c.fact 114 (f := .noat "Machine" "step") rfl)
    n_Machine_space := He.noat_ok (c.fact 115 (f := .noat "Machine" "space") rfl)
    v_LETTERS := fStr X G (c.fact 72 (f := .str "LETTERS" "abcdefghijklmnopqrstuvwxyz") rfl)
    v_DIGITS := fStr X G (c.fact 73 (f := .str "DIGITS" "0123456789") rfl)
    v_LONGEST_NAME := fInt X G (c.fact 70 (f := .int "LONGEST_NAME" 12) rfl)
    v_MOST_NAMES := fInt X G (c.fact 71 (f := .int "MOST_NAMES" 8) rfl)
    v_PRIMES := fGlo X G (c.fact 2 (f := .glo "PRIMES") rfl)
    v_MOST_OF_PRIME := fGlo X G (c.fact 3 (f := .glo "MOST_OF_PRIME") rfl)
    p_PRIMES := fun H => He.tupB_ok x2 H
    p_MOST := fMost x1
    d_raised_number := fDn X G (c.fact 4 (f := .glo "raised_number") rfl) (c.def_ 0 (d := d_raised_number) rfl)
    d_tuples_of := fDn X G (c.fact 5 (f := .glo "tuples_of") rfl) (c.def_ 1 (d := d_tuples_of) rfl)
    d_inverse := fDn X G (c.fact 6 (f := .glo "inverse") rfl) (c.def_ 2 (d := d_inverse) rfl)
    d_is_name := fDn X G (c.fact 7 (f := .glo "is_name") rfl) (c.def_ 3 (d := d_is_name) rfl)
    d_degree_of := fDn X G (c.fact 8 (f := .glo "degree_of") rfl) (c.def_ 4 (d := d_degree_of) rfl)
    d_divides := fDn X G (c.fact 9 (f := .glo "divides") rfl) (c.def_ 5 (d := d_divides) rfl)
    d_key_of := fDn X G (c.fact 10 (f := .glo "key_of") rfl) (c.def_ 6 (d := d_key_of) rfl)
    d_ascending := fDc X G (c.fact 11 (f := .glo "ascending") rfl) (c.def_ 7 (d := d_ascending) rfl)
    d_value_of := fDn X G (c.fact 12 (f := .glo "value_of") rfl) (c.def_ 8 (d := d_value_of) rfl)
    d_Space_init := fDi X G (c.fact 13 (f := .glo "Space") rfl) (c.fact 89 (f := .mkr "Space") rfl) (c.def_ 9 (d := d_Space_init) rfl)
    d_Space_points := fDm (c.fact 93 (f := .meth "Space" "points") rfl) (c.def_ 10 (d := d_Space_points) rfl)
    d_Space_powers := fDm (c.fact 94 (f := .meth "Space" "powers") rfl) (c.def_ 11 (d := d_Space_powers) rfl)
    d_Space_is_point := fDm (c.fact 95 (f := .meth "Space" "is_point") rfl) (c.def_ 12 (d := d_Space_is_point) rfl)
    d_Space_zero := fDm (c.fact 96 (f := .meth "Space" "zero") rfl) (c.def_ 13 (d := d_Space_zero) rfl)
    d_is_polynomial := fDn X G (c.fact 14 (f := .glo "is_polynomial") rfl) (c.def_ 14 (d := d_is_polynomial) rfl)
    d_from_numbers := fDn X G (c.fact 15 (f := .glo "from_numbers") rfl) (c.def_ 15 (d := d_from_numbers) rfl)
    d_constant := fDn X G (c.fact 16 (f := .glo "constant") rfl) (c.def_ 16 (d := d_constant) rfl)
    d_plus := fDn X G (c.fact 17 (f := .glo "plus") rfl) (c.def_ 17 (d := d_plus) rfl)
    d_lessened := fDn X G (c.fact 18 (f := .glo "lessened") rfl) (c.def_ 18 (d := d_lessened) rfl)
    d_times := fDn X G (c.fact 19 (f := .glo "times") rfl) (c.def_ 19 (d := d_times) rfl)
    d_raised := fDn X G (c.fact 20 (f := .glo "raised") rfl) (c.def_ 20 (d := d_raised) rfl)
    d_value := fDn X G (c.fact 21 (f := .glo "value") rfl) (c.def_ 21 (d := d_value) rfl)
    d_replaced := fDn X G (c.fact 22 (f := .glo "replaced") rfl) (c.def_ 22 (d := d_replaced) rfl)
    d_Rows_init := fDi X G (c.fact 23 (f := .glo "Rows") rfl) (c.fact 98 (f := .mkr "Rows") rfl) (c.def_ 23 (d := d_Rows_init) rfl)
    d_Rows_lessened := fDm (c.fact 102 (f := .meth "Rows" "lessened") rfl) (c.def_ 24 (d := d_Rows_lessened) rfl)
    d_Rows_keep := fDm (c.fact 103 (f := .meth "Rows" "keep") rfl) (c.def_ 25 (d := d_Rows_keep) rfl)
    d_Rows_take := fDm (c.fact 104 (f := .meth "Rows" "take") rfl) (c.def_ 26 (d := d_Rows_take) rfl)
    d_walk := fDn X G (c.fact 24 (f := .glo "walk") rfl) (c.def_ 27 (d := d_walk) rfl)
    d_basis := fDn X G (c.fact 25 (f := .glo "basis") rfl) (c.def_ 28 (d := d_basis) rfl)
    d_numbers_of := fDn X G (c.fact 26 (f := .glo "numbers_of") rfl) (c.def_ 29 (d := d_numbers_of) rfl)
    d_polynomial_of := fDn X G (c.fact 27 (f := .glo "polynomial_of") rfl) (c.def_ 30 (d := d_polynomial_of) rfl)
    d_System_init := fDi X G (c.fact 28 (f := .glo "System") rfl) (c.fact 106 (f := .mkr "System") rfl) (c.def_ 31 (d := d_System_init) rfl)
    d_System_is_solution := fDm (c.fact 109 (f := .meth "System" "is_solution") rfl) (c.def_ 32 (d := d_System_is_solution) rfl)
    d_System_solutions := fDm (c.fact 110 (f := .meth "System" "solutions") rfl) (c.def_ 33 (d := d_System_solutions) rfl)
    d_factors := fDn X G (c.fact 29 (f := .glo "factors") rfl) (c.def_ 34 (d := d_factors) rfl)
    d_shown := fDn X G (c.fact 30 (f := .glo "shown") rfl) (c.def_ 35 (d := d_shown) rfl)
    d_led := fDn X G (c.fact 31 (f := .glo "led") rfl) (c.def_ 36 (d := d_led) rfl)
    d_all_shown := fDn X G (c.fact 32 (f := .glo "all_shown") rfl) (c.def_ 37 (d := d_all_shown) rfl)
    d_Machine_init := fDi X G (c.fact 33 (f := .glo "Machine") rfl) (c.fact 112 (f := .mkr "Machine") rfl) (c.def_ 38 (d := d_Machine_init) rfl)
    d_Machine_after := fDm (c.fact 116 (f := .meth "Machine" "after") rfl) (c.def_ 39 (d := d_Machine_after) rfl)
    d_Machine_came_from := fDm (c.fact 117 (f := .meth "Machine" "came_from") rfl) (c.def_ 40 (d := d_Machine_came_from) rfl)
    d_run_to := fDn X G (c.fact 34 (f := .glo "run_to") rfl) (c.def_ 43 (d := d_run_to) rfl)
    d_one_of := fDn X G (c.fact 35 (f := .glo "one_of") rfl) (c.def_ 44 (d := d_one_of) rfl)
    d_stepped := fDn X G (c.fact 36 (f := .glo "stepped") rfl) (c.def_ 45 (d := d_stepped) rfl)
    d_check_safe := fDn X G (c.fact 37 (f := .glo "check_safe") rfl) (c.def_ 46 (d := d_check_safe) rfl)
    d_is_run := fDn X G (c.fact 38 (f := .glo "is_run") rfl) (c.def_ 47 (d := d_is_run) rfl)
    d_judge_safe := fDn X G (c.fact 39 (f := .glo "judge_safe") rfl) (c.def_ 48 (d := d_judge_safe) rfl)
    d_law_cell := fDn X G (c.fact 40 (f := .glo "_law_cell") rfl) (c.def_ 49 (d := d_law_cell) rfl)
    d_law_digits := fDn X G (c.fact 41 (f := .glo "_law_digits") rfl) (c.def_ 50 (d := d_law_digits) rfl)
    d_law_shape := fDn X G (c.fact 42 (f := .glo "_law_shape") rfl) (c.def_ 51 (d := d_law_shape) rfl)
    d_law_names := fDn X G (c.fact 43 (f := .glo "_law_names") rfl) (c.def_ 52 (d := d_law_names) rfl)
    d_law_points := fDn X G (c.fact 44 (f := .glo "_law_points") rfl) (c.def_ 53 (d := d_law_points) rfl)
    d_law_made := fDn X G (c.fact 45 (f := .glo "_law_made") rfl) (c.def_ 54 (d := d_law_made) rfl)
    d_law_drawn := fDn X G (c.fact 46 (f := .glo "_law_drawn") rfl) (c.def_ 55 (d := d_law_drawn) rfl)
    d_law_power_value := fDn X G (c.fact 47 (f := .glo "_law_power_value") rfl) (c.def_ 56 (d := d_law_power_value) rfl)
    d_law_value := fDn X G (c.fact 48 (f := .glo "_law_value") rfl) (c.def_ 57 (d := d_law_value) rfl)
    d_law_plus := fDn X G (c.fact 49 (f := .glo "_law_plus") rfl) (c.def_ 58 (d := d_law_plus) rfl)
    d_law_scaled := fDn X G (c.fact 50 (f := .glo "_law_scaled") rfl) (c.def_ 59 (d := d_law_scaled) rfl)
    d_law_minus := fDn X G (c.fact 51 (f := .glo "_law_minus") rfl) (c.def_ 60 (d := d_law_minus) rfl)
    d_law_lessened := fDn X G (c.fact 52 (f := .glo "_law_lessened") rfl) (c.def_ 61 (d := d_law_lessened) rfl)
    d_law_times := fDn X G (c.fact 53 (f := .glo "_law_times") rfl) (c.def_ 62 (d := d_law_times) rfl)
    d_law_raised := fDn X G (c.fact 54 (f := .glo "_law_raised") rfl) (c.def_ 63 (d := d_law_raised) rfl)
    d_law_constant := fDn X G (c.fact 55 (f := .glo "_law_constant") rfl) (c.def_ 64 (d := d_law_constant) rfl)
    d_law_unknown := fDn X G (c.fact 56 (f := .glo "_law_unknown") rfl) (c.def_ 65 (d := d_law_unknown) rfl)
    d_law_is_tuple_point := fDn X G (c.fact 57 (f := .glo "_law_is_tuple_point") rfl) (c.def_ 66 (d := d_law_is_tuple_point) rfl)
    d_law_is_polynomial := fDn X G (c.fact 58 (f := .glo "_law_is_polynomial") rfl) (c.def_ 67 (d := d_law_is_polynomial) rfl)
    d_law_equations := fDn X G (c.fact 59 (f := .glo "_law_equations") rfl) (c.def_ 68 (d := d_law_equations) rfl)
    d_law_solutions := fDn X G (c.fact 60 (f := .glo "_law_solutions") rfl) (c.def_ 69 (d := d_law_solutions) rfl)
    d_law_shows := fDn X G (c.fact 61 (f := .glo "_law_shows") rfl) (c.def_ 70 (d := d_law_shows) rfl)
    d_law_of_table := fDn X G (c.fact 62 (f := .glo "_law_of_table") rfl) (c.def_ 71 (d := d_law_of_table) rfl)
    d_law_step := fDn X G (c.fact 63 (f := .glo "_law_step") rfl) (c.def_ 72 (d := d_law_step) rfl)
    d_law_after := fDn X G (c.fact 64 (f := .glo "_law_after") rfl) (c.def_ 73 (d := d_law_after) rfl)
    d_law_start := fDn X G (c.fact 65 (f := .glo "_law_start") rfl) (c.def_ 74 (d := d_law_start) rfl)
    d_law_replaced := fDn X G (c.fact 66 (f := .glo "_law_replaced") rfl) (c.def_ 75 (d := d_law_replaced) rfl)
    d_law_safe_shown := fDn X G (c.fact 67 (f := .glo "_law_safe_shown") rfl) (c.def_ 76 (d := d_law_safe_shown) rfl)
    d_law_fewest := fDn X G (c.fact 68 (f := .glo "_law_fewest") rfl) (c.def_ 77 (d := d_law_fewest) rfl)
    d_law := fDn X G (c.fact 69 (f := .glo "law") rfl) (c.def_ 78 (d := d_law) rfl)
  }
end
end SP
end
section
set_option Elab.async false
set_option linter.all false
set_option maxRecDepth 100000
set_option maxHeartbeats 4000000
namespace SP
open PySem PySem.Spec PyProof.Rows L2
theorem not_fp {a N : Nat} (h : a < N) : (N + 1 : Nat) ∉ ([N, a] : List Nat) := by
  intro z
  rcases List.mem_cons.mp z with z | z
  · omega
  · have := List.mem_singleton.mp z
    omega
def ItEt (K : PySem.W.Frag) (a : Addr) : It :=
  ⟨fun i H => ∃ (xs : List V) (x : V), SqT K H a xs ∧ xs[i]? = some x, fun i H v H' => ∃ T x, v = .ref T ∧ H T = none ∧ H' = upd H T (.tup [.int (i : Nat), x]) ∧ ∀ xs, SqT K H a xs → xs[i]? = some x, fun i H => ∃ xs : List V, SqT K H a xs ∧ xs.length = i⟩
theorem turn_enumT {P : Program} {w : World} {K : PySem.W.Frag} {elts : List Expr} {kk : Nat} {tpos : Pos} (a : Addr) (N : Nat) (la : a < N) :
    Turn P w K (.Tuple elts kk tpos) (ItEt K a) [N + 1, N] (N + 1) (fun i h => (∃ old, IsEnum h (N + 1) N ((0 : Int) + ((i : Nat) : Int)) old) ∧ h.IsTupleIter N a i) where
  mem := by simp
  obj := fun i h st b hb => by
    obtain ⟨⟨old, he⟩, ⟨o, ho, hc, hd⟩⟩ := st
    have e' : b = N + 1 ∨ b = N := by simpa using hb
    rcases e' with z | z
    · rw [z]; exact ⟨_, he, fun v q => nomatch q⟩
    · rw [z]; exact ⟨o, ho, fun v q => by rw [hd] at q; cases q⟩
  keep := fun i h h' st k => let ⟨⟨old, he⟩, hi⟩ := st; ⟨⟨old, k (N + 1) (by simp) _ he⟩, hi.at fun o q => k N (by simp) o q⟩
  item := by
    intro X hP hw hK hc i pins s σ H E I hf st hg
    subst hP hw hK
    obtain ⟨⟨old, he⟩, hit⟩ := st
    obtain ⟨xs, x, hq, hx⟩ := hg
    obtain ⟨its, rv, p, hz⟩ := I.tuple hq
    obtain ⟨u, hu, ru⟩ := rv.get hx
    have hlt : i < its.toArray.size := by simpa using (List.getElem?_eq_some_iff.mp hu).1
    have G := GoesN.enumFrom (prog := X.prog) (w := X.w) (A := X.A) (elts := elts) (x1 := kk) (pos := tpos) 0 (Draws.tuple (prog := X.prog) (w := X.w) (A := X.A.in1) (I.ok.hd hc) N a (Nat.ne_of_lt la) its.toArray) (N + 1) (Nat.succ_ne_self N)
      (not_fp la) (by simp)
    refine G.goes i s _ E hlt ⟨⟨old, he⟩, hit, p⟩ fun v h' tk y st' hk _ => ?_
    obtain ⟨T, t, x', rfl, hnew, hx', o, ho, hcl, n, hd⟩ := y
    have ex' : x' = u := by
      have q1 : its.toArray[i]? = some x' := hx'
      have q2 : its.toArray[i]? = some u := by simpa using hu
      rw [q1] at q2
      exact Option.some.inj q2
    subst ex'
    have new : ObjOk X.prog X.w (upd H T (.tup [.int (i : Nat), x])) h' T (.tup [.int (i : Nat), x]) :=
      ⟨by show 2 ≤ sizeLine; decide, [.int ((0 : Int) + (i : Nat)) t, x'], .cons ⟨t, by rw [Int.zero_add]⟩ (.cons ru .nil), ⟨o, ho, hcl, n, hd⟩⟩
    have hN : N + 1 < s.heap.objs.size := Heap.lt_size he
    have I1 : Inv X pins σ (upd H T (.tup [.int (i : Nat), x])) { s with heap := h', toks := tk } := I.turnedNew (ch := [N + 1, N]) (fun b ob hb q => hk b ob hb q) hf hnew new
    refine ⟨.ref T, _, I1, rfl, ⟨_, x, rfl, I.hok.fresh hnew, rfl, fun ys hy => by rw [I.tuple_inj hy hq]; exact hx⟩, ⟨st'.1, st'.2.1⟩, fun b hb => ?_⟩
    have hb' : b < T := by
      have e' : b = N + 1 ∨ b = N := by simpa using hb
      rcases e' with z | z
      · rw [z]; exact Nat.lt_of_lt_of_le hN hnew
      · rw [z]; exact Nat.lt_of_lt_of_le (Nat.lt_of_succ_lt hN) hnew
    rw [upd_ne (Nat.ne_of_lt hb')]
    exact (hf b hb).1
  done := by
    intro X hP hw hK hc i pins s σ H E I hf st hg
    subst hP hw hK
    obtain ⟨⟨old, he⟩, hit⟩ := st
    obtain ⟨xs, hq, hx⟩ := hg
    obtain ⟨its, rv, p, hz⟩ := I.tuple hq
    have hl := rv.length
    have e1 : i = its.toArray.size := by simp; omega
    subst e1
    have G := GoesN.enumFrom (prog := X.prog) (w := X.w) (A := X.A) (elts := elts) (x1 := kk) (pos := tpos) 0 (Draws.tuple (prog := X.prog) (w := X.w) (A := X.A.in1) (I.ok.hd hc) N a (Nat.ne_of_lt la) its.toArray) (N + 1) (Nat.succ_ne_self N)
      (not_fp la) (by simp)
    exact G.stops s _ E ⟨⟨old, he⟩, hit, p⟩ fun h' tk hk _ => I.turnedL (ch := [N + 1, N]) (fun b o hb q => hk b o hb q) hf
  self := fun A i s Q E st h => let ⟨⟨_, he⟩, _⟩ := st; wpAny_pyIter_enum he h

theorem enum_tup {prog : Program} {w : World} {A : Around} {E : Value → Shared → Prop} {s : Shared} {l : Addr} {items : Array Value} {Q : Value → Shared → Prop} (hL : s.heap.IsTuple l items)
    (h : ∀ h', IsEnum h' (s.heap.objs.size + 1) s.heap.objs.size 0 .none → h'.IsTupleIter s.heap.objs.size l 0 → h'.objs.size = s.heap.objs.size + 2 →
      (∀ b o, s.heap.get? b = some o → h'.get? b = some o) → Q (.ref (s.heap.objs.size + 1)) { s with heap := h' }) :
    wpAny (model prog w) A (call (.type "enumerate") [.ref l]) Q E s := by
  have M : Meets (Builtin.«enumerate.__new__» ⟨[.type "enumerate", .ref l], []⟩) (fun _ R s => s.heap.IsTuple l items ∧
      R (.ok (.ret (.ref (s.heap.push { cls := .type "tuple_iterator", data := .fields #[.ref l, .int 0 0] }).objs.size)))
        { s with heap := (s.heap.push { cls := .type "tuple_iterator", data := .fields #[.ref l, .int 0 0] }).push { cls := .type "enumerate", data := .fields #[.none, .bool false, .ref s.heap.objs.size, rawInt 0, .none, .none] } }) :=
    .of_wp fun prog w A R s h => by
      obtain ⟨hp, g, d, tk, os⟩ := s
      obtain ⟨hl, h⟩ := h
      have hsub := sub_enumerate
      have q1 : ∀ {A' : Around} {E : Value → Shared → Prop} {Q : Value → Shared → Prop}, Q (.ref hp.objs.size) ⟨hp.push { cls := .type "tuple_iterator", data := .fields #[.ref l, .int 0 0] }, g, d, tk, os⟩ → wpAny (model prog w) A' (pyIter (.ref l)) Q E ⟨hp, g, d, tk, os⟩ :=
        fun q => wpAny_pyIter_tuple (s := ⟨hp, g, d, tk, os⟩) hl q
      wp_walk using q1
      refine wpAny_stack_any fun st => wpAny_pure ?_
      split
      · rename_i c _ _ _ _ _
        cases (c == Value.type "enumerate")
        · wp_walk using q1
          exact ⟨_, rfl, h⟩
        · wp_walk using q1
          exact ⟨_, rfl, h⟩
      · wp_walk using q1
        exact ⟨_, rfl, h⟩
  refine callType_new F.called_enumerate (by decide) (F.typeCall_enumerate_1 _) (F.newCall_enumerate_1 _) (fun obj => F.args_object_init_2 obj _) F.entry_enumerate_new M ⟨hL, ?_⟩
  have hz : (s.heap.push { cls := .type "tuple_iterator", data := .fields #[.ref l, .int 0 0] }).objs.size = s.heap.objs.size + 1 := Heap.size_push ..
  show _ ∧ _
  rw [hz]
  have he : IsEnum ((s.heap.push { cls := .type "tuple_iterator", data := .fields #[.ref l, .int 0 0] }).push
      { cls := .type "enumerate", data := .fields #[.none, .bool false, .ref s.heap.objs.size, rawInt 0, .none, .none] }) (s.heap.objs.size + 1) s.heap.objs.size 0 .none := by
    have := Heap.get?_push_size (s.heap.push { cls := .type "tuple_iterator", data := .fields #[.ref l, .int 0 0] })
      (o := { cls := .type "enumerate", data := .fields #[.none, .bool false, .ref s.heap.objs.size, rawInt 0, .none, .none] }) rfl
    rw [hz] at this; exact this
  refine ⟨⟨_, he, rfl⟩, h _ he ⟨_, Heap.get?_push_of_some _ (Heap.get?_push_size _ rfl), rfl, rfl⟩ (by rw [Heap.size_push, hz]) fun b o x => Heap.get?_push_of_some _ (Heap.get?_push_of_some _ x)⟩
def iEnumT (K : PySem.W.Frag) (ta : TA) : TI := fun σ H R => ta σ H fun vs H1 => ∃ a xs, vs = [.ref a] ∧ SqT K H1 a xs ∧ R (ItEt K a) H1
theorem pi_enumT {X : Cx} {e : Expr} {ta : TA} {p pos tpos : Pos} {elts : List Expr} {kk : Nat} (hg : Gl X "enumerate") (hm : X.mg "enumerate" = none) (ha : PA X [e] ta) (hs : starEach [e] X.env = [(false, eval e X.env)] := by rfl) :
    PI X (.Tuple elts kk tpos) (.Call (.Name "enumerate" p) [e] [] pos) (iEnumT X.K ta) := by
  refine ⟨fun pins s σ H R I h => ?_⟩
  refine Call_ (ld_blt I hg hm boot_enumerate (PyProof.Rows.callWith_type1 (thn (ha.run pos pins s σ H _ I h) fun us s1 ⟨vs, H1, I1, r1, q1⟩ => ?_) hs rfl))
  obtain ⟨a, xs, ex, hq, q⟩ := q1
  subst ex
  cases r1 with
  | cons r rr =>
    cases rr
    cases r
    obtain ⟨its, rv, p', hz⟩ := I1.tuple hq
    refine enum_tup p' fun h' he hit hsz hk => wpAny_pyIter_enum he ?_
    have I2 : Inv X pins σ H1 { s1 with heap := h' } := I1.kept (t' := s1.toks) hk
    refine ⟨s1.heap.objs.size + 1, [s1.heap.objs.size + 1, s1.heap.objs.size], _, _, H1, rfl, I2, turn_enumT a s1.heap.objs.size p'.lt, ⟨⟨.none, he⟩, hit⟩, fun b hb => ?_, q⟩
    have e' : b = s1.heap.objs.size + 1 ∨ b = s1.heap.objs.size := by simpa using hb
    have hle : s1.heap.objs.size ≤ b := by
      rcases e' with z | z
      · rw [z]; exact Nat.le_add_right _ _
      · rw [z]; exact Nat.le_refl _
    exact I1.fpOk hle (I1.hok.fresh hle)
section
variable {α : Type} {K : PySem.W.Frag} {σ : L2.St} {H H2 Hb : Hp} {te tl : TE} {tt : TT} {a : Addr} {vs ws : List V} {xs : List α} {A : α → RS}
theorem walk_enumT : Walk (ItEt K a) vs.length (fun H => SqT K H a vs) (fun i H v H' => ∃ T x, v = .ref T ∧ H T = none ∧ H' = upd H T (.tup [.int (i : Nat), x]) ∧ vs[i]? = some x) :=
  ⟨fun i _ hi q => ⟨vs, vs[i], q, by simp [hi]⟩, fun _ q => ⟨vs, q, rfl⟩, fun i H v H' _ q y => let ⟨T, x, h1, h2, h3, h4⟩ := y; ⟨T, x, h1, h2, h3, h4 vs q⟩⟩
abbrev numb (xs : List α) : List (Nat × α) := (List.range xs.length).zip xs
theorem numb_at {i : Nat} {x : α} (h : xs[i]? = some x) : (numb xs)[i]? = some (i, x) := by
  have hi : i < xs.length := (List.getElem?_eq_some_iff.mp h).1
  exact zip_at (List.getElem?_range hi) h
theorem srcG_enumT [m : ∀ x, TMono (A x)] (hp : Rd H2 a (.tup vs)) (r : All (xs.map A) vs H2) : SrcG (ItEt K a) Hb H2 (numb xs) (fun p => tupR [IsI ((p.1 : Nat) : Int), A p.2]) := by
  unfold SrcG
  have hn : (numb xs).length = vs.length := by rw [List.length_zip, List.length_range, Nat.min_self, all_len r]
  rw [hn]
  refine walk_enumT.mono (fun H' q => .inl (q.2.rd hp)) fun i H' x H'' _ q y => ?_
  obtain ⟨T, u, rfl, hT, rfl, e1⟩ := y
  obtain ⟨p, p1, p2⟩ := all_at (r.upT q.2) e1
  obtain ⟨e, z⟩ := pair_of (Rx := IsI ((i : Nat) : Int)) hT rfl p2
  exact ⟨e, (i, p), numb_at p1, z⟩
theorem srcD_enumT {ta : TA} [m : ∀ x, TMono (A x)] (h : EvA ta σ H [tupF (xs.map A)]) : SrcD (iEnumT K ta) σ H (numb xs) (fun p => tupR [IsI ((p.1 : Nat) : Int), A p.2]) := fun H1 e R k =>
  h H1 e _ fun us H2 e2 r => by
    cases r with
    | cons r1 t =>
      cases t
      obtain ⟨a, vs, rfl, h1, q1⟩ := r1
      exact ⟨a, vs, rfl, .inl h1, k _ H2 e2 (srcG_enumT h1 q1)⟩
end
end SP
end
section
set_option Elab.async false
set_option linter.all false
set_option maxRecDepth 100000
set_option maxHeartbeats 4000000
namespace SP
open PySem PySem.Spec PyProof.Rows L2
theorem refs_of {H : Hp} : ∀ {xs : List Pt} {us : List V}, All (xs.map ptR) us H → ∃ bs : List Addr, us = bs.map V.ref ∧ bs.length = xs.length ∧ ∀ (i : Nat) (b : Addr) (x : Pt), bs[i]? = some b → xs[i]? = some x → H b = some (.tup (x.map V.int))
  | [], _, .nil => ⟨[], rfl, rfl, fun i b x h => by simp at h⟩
  | x :: xs, _, .cons h r => by
    obtain ⟨bs, h1, h2, h3⟩ := refs_of r
    obtain ⟨b, rfl, hb⟩ := h
    refine ⟨b :: bs, by rw [h1]; rfl, by simp [h2], fun i b' x' e1 e2 => ?_⟩
    cases i with
    | zero => simp at e1 e2; subst e1 e2; exact hb
    | succ i => exact h3 i b' x' (by simpa using e1) (by simpa using e2)
theorem vals_refs : ∀ {Ts : List Addr} {its : List Value}, Vals (Ts.map V.ref) its → its = Ts.map Value.ref
  | [], _, .nil => rfl
  | T :: Ts, _, .cons a t => by cases a; rw [vals_refs t]; rfl
theorem zip_kt {H : Hp} : ∀ {xs : List Pt} {ys : List V} {bs : List Addr} {rs : List Value}, bs.length = xs.length → xs.length = ys.length → Vals ys rs → (∀ (i : Nat) (b : Addr) (x : Pt), bs[i]? = some b → xs[i]? = some x → H b = some (.tup (x.map V.int))) →
    ∃ ps : List (List Key × Addr × Value), KT H ((xs.zip ys).map fun t => (kI t.1, t.2)) ps ∧ ps.length = xs.length ∧ ∀ (i : Nat) (b : Addr) (r : Value), bs[i]? = some b → rs[i]? = some r → ∃ k, ps[i]? = some (k, b, r)
  | [], [], [], [], _, _, _, _ => ⟨[], .nil, rfl, fun i b r h => by simp at h⟩
  | x :: xs, y :: ys, b :: bs, _, h1, h2, .cons a t, h3 => by
    obtain ⟨ps, q1, q2, q3⟩ := zip_kt (bs := bs) (by simpa using h1) (by simpa using h2) t fun i b x e1 e2 => h3 (i + 1) b x (by simpa using e1) (by simpa using e2)
    refine ⟨(kI x, b, _) :: ps, .cons ⟨rfl, by rw [kI_kV]; exact h3 0 b x rfl rfl, a⟩ q1, by simp [q2], fun i b' r e1 e2 => ?_⟩
    cases i with
    | zero => simp at e1 e2; subst e1 e2; exact ⟨_, rfl⟩
    | succ i => exact q3 i b' r (by simpa using e1) (by simpa using e2)
  | [], _ :: _, _, _, _, h, _, _ => by simp at h
  | _ :: _, [], _, _, _, h, _, _ => by simp at h
  | [], _, _ :: _, _, h, _, _, _ => by simp at h
  | _ :: _, _, [], _, h, _, _, _ => by simp at h
def tDictZip (K : PySem.W.Frag) (ta : TA) : TE := fun σ H Q => ta σ H fun vs H1 => ∃ (a b : Addr) (xs : List Pt) (us ys : List V), vs = [.ref a, .ref b] ∧ SqL K H1 a us ∧ All (xs.map ptR) us H1 ∧ SqL K H1 b ys ∧ xs.length = ys.length ∧
  ∀ p, H1 p = none → Q (.ref p) (upd H1 p (DT (putL (xs.zip ys))))
theorem pe_dictZip {X : Cx} {e e2 : Expr} {ta : TA} {p p2 pos pos2 : Pos} (hu : X.A.units + 3 < cLine) (hc : X.calm = true) (gd : Gl X "dict") (md : X.mg "dict" = none) (gz : Gl X "zip") (mz : X.mg "zip" = none) (ha : PA X [e, e2] ta)
    (hs : starEach [e, e2] X.env = (false, eval e X.env) :: starEach [e2] X.env := by rfl) (hpl : (backTo pos2 (starEach [e2] X.env)).any (·.1) = false := by rfl) :
    PE X (.Call (.Name "dict" p) [.Call (.Name "zip" p2) [e, e2] [] pos2] [] pos) (tDictZip X.K ta) := by
  refine ⟨fun pins s σ H Q I h => ?_⟩
  refine Call_ (ld_blt I gd md (u := .type "dict") (by decide +kernel) ?_)
  refine PyProof.Rows.callWith_type1 (T := "dict") ?_ rfl rfl
  show wpAny _ _ (spliced ((false, eval (.Call (.Name "zip" p2) [e, e2] [] pos2) X.env) :: backTo pos (starEach [] X.env))) _ _ s
  refine Calls.spliced_cons ?_
  refine Call_ (ld_blt I gz mz PyProof.Rows.boot_zip (PyProof.Rows.callWith_type1 (thn (ha.run pos2 pins s σ H _ I h) fun us s1 ⟨vs, H1, I1, r1, q1⟩ => ?_) hs hpl))
  obtain ⟨a, b, xs, us', ys, rfl, hqx, hall, hqy, hlen, q⟩ := q1
  obtain ⟨v1, v2, rfl, ra, rb⟩ := vals2 r1
  cases ra
  cases rb
  obtain ⟨its, rv, p1, _⟩ := I1.list hqx
  obtain ⟨its2, rv2, p3, hz2⟩ := I1.list hqy
  refine zip_begins2 (begins_list a its.toArray) (begins_list b its2.toArray) p1.isList p3.isList fun h' hz hTI hTO h1 h2 hsz hk => Calls.spliced_nil ?_
  have I2 : Inv X pins σ H1 { s1 with heap := h' } := I1.kept (t' := s1.toks) hk
  obtain ⟨bs, rfl, lb, hb⟩ := refs_of hall
  obtain rfl := vals_refs rv
  obtain ⟨ps, kt, lp, hps⟩ := zip_kt (rs := its2) lb hlen rv2 hb
  have l2 := rv2.length
  have old : ∀ c o, H1 c = some o → c < s1.heap.objs.size := fun c o e => I1.hok.lt e
  have wr : ∀ c, c ∈ [s1.heap.objs.size + 4, s1.heap.objs.size + 3, s1.heap.objs.size, s1.heap.objs.size + 1] → s1.heap.objs.size ≤ c := fun c hcm => by
    have e' : c = s1.heap.objs.size + 4 ∨ c = s1.heap.objs.size + 3 ∨ c = s1.heap.objs.size ∨ c = s1.heap.objs.size + 1 := by simpa using hcm
    rcases e' with z | z | z | z
    · rw [z]; exact Nat.le_add_right _ _
    · rw [z]; exact Nat.le_add_right _ _
    · rw [z]; exact Nat.le_refl _
    · rw [z]; exact Nat.le_add_right _ _
  have A := PairArg.zip (prog := X.prog) (w := X.w) (s1.heap.objs.size + 4) (s1.heap.objs.size + 2) (s1.heap.objs.size + 3) s1.heap.objs.size (s1.heap.objs.size + 1) a b
    (PySem.W.ktu_apart s1.heap.objs.size a b p1.lt p3.lt) (bs.map Value.ref).toArray its2.toArray
  refine dict_arg (kvs := (xs.zip ys).map fun t => (kI t.1, t.2)) (ps := ps) hu hc A I2 ⟨hz, hTI, ⟨_, _, hTO⟩, ⟨_, h1, rfl, rfl⟩, ⟨_, h2, rfl, rfl⟩, p1.isList.at fun o e => hk _ o e, p3.isList.at fun o e => hk _ o e⟩ kt ⟨?_, ?_⟩ (fun c o e hm => ?_) ?_ (fun c hm => ?_) fun p hp => ?_
  · simp [lp]; omega
  · intro i key v e
    obtain ⟨e1, e2⟩ := e
    have e1' : (bs.map Value.ref)[i]? = some key := by simpa using e1
    rw [List.getElem?_map] at e1'
    cases eb : bs[i]? with
    | none => rw [eb] at e1'; cases e1'
    | some b' =>
      rw [eb] at e1'
      obtain rfl := Option.some.inj e1'
      obtain ⟨k, hk'⟩ := hps i b' v eb (by simpa using e2)
      exact ⟨k, b', hk', rfl⟩
  · exact absurd (old c o e) (Nat.not_lt.mpr (wr c hm))
  · simp; omega
  · exact I1.fpOk (wr c hm) (I1.hok.fresh (wr c hm))
  · rw [putAll_kI]
    exact q p hp
theorem ev_dictZip {K : PySem.W.Frag} {σ : L2.St} {H : Hp} {ta : TA} {xs : List Pt} {Rs : List RS} [AllM Rs] (h : EvA ta σ H [lstR (xs.map ptR), lstR Rs]) (hl : xs.length = Rs.length) (hz : xs.length ≤ sizeLine) :
    ∀ H1, Ext H H1 → ∀ Q : VK, (∀ p ys H2, H1 p = none → Ext H1 H2 → All Rs ys H2 → H2 p = some (DT (putL (xs.zip ys))) → Q (.ref p) H2) → tDictZip K ta σ H1 Q := fun H1 e Q q =>
  h H1 e _ fun vs H2 e2 r => by
    obtain ⟨_, _, rfl, r1, r2⟩ := All.l2 r
    obtain ⟨a, us, rfl, ha, ra⟩ := r1
    obtain ⟨b, ys, rfl, hb, rb⟩ := r2
    refine ⟨a, b, xs, us, ys, rfl, SqL.of ha, ra, SqL.of hb, by rw [hl, rb.length], fun p hp => ?_⟩
    exact q p ys _ (e2.fresh hp) (e2.trans (Ext.new _ hp)) (rb.up (Ext.new _ hp)) upd_same
end SP
end
section
set_option Elab.async false
set_option linter.all false
set_option maxRecDepth 100000
set_option maxHeartbeats 4000000
namespace SP
open PySem PySem.Spec PyProof.Rows L2
theorem ordB_anti {b : Bool} {x y : Pt} (h : ordB b x y = true) (k : ordB b y x = true) : x = y := by
  by_cases e : x = y
  · exact e
  · have q : lexLt x y = false ∧ lexLt y x = false := by
      cases b with
      | false => exact ⟨by simpa [ordB] using k, by simpa [ordB] using h⟩
      | true => exact ⟨by simpa [ordB] using h, by simpa [ordB] using k⟩
    have := lexLt_total e q.1
    rw [q.2] at this
    cases this
theorem perm_uniq {α : Type} {r : α → α → Bool} (anti : ∀ x y, r x y = true → r y x = true → x = y) : ∀ {xs ys : List α}, xs.Perm ys → xs.Pairwise (fun x y => r x y = true) → ys.Pairwise (fun x y => r x y = true) → xs = ys
  | [], ys, h, _, _ => by rw [List.nil_perm.mp h]
  | x :: xs, [], h, _, _ => by have := h.length_eq; simp at this
  | x :: xs, y :: ys, h, p, q => by
    have e : x = y := by
      rcases List.mem_cons.mp (h.mem_iff.mp (List.mem_cons_self ..)) with e | h1
      · exact e
      · rcases List.mem_cons.mp (h.mem_iff.mpr (List.mem_cons_self ..)) with e | h2
        · exact e.symm
        · exact anti x y ((List.pairwise_cons.mp p).1 y h2) ((List.pairwise_cons.mp q).1 x h1)
    subst e
    rw [perm_uniq anti (List.Perm.cons_inv h) (List.pairwise_cons.mp p).2 (List.pairwise_cons.mp q).2]
def sortP (b : Bool) (xs : List Pt) : List Pt := xs.mergeSort (ordB b)
theorem sortP_perm (b : Bool) (xs : List Pt) : (sortP b xs).Perm xs := List.mergeSort_perm _ _
theorem sortP_ord (b : Bool) (xs : List Pt) : (sortP b xs).Pairwise fun x y => ordB b x y = true :=
  List.pairwise_mergeSort (le := ordB b) (fun x y z h k => ordB_trans h k) (fun x y => ordB_total b x y) xs
theorem sortP_eq {b : Bool} {xs ys : List Pt} (h : ys.Perm xs) (k : ys.Pairwise fun x y => ordB b x y = true) : ys = sortP b xs :=
  perm_uniq (fun _ _ => ordB_anti) (h.trans (sortP_perm b xs).symm) k (sortP_ord b xs)
theorem mem_sortP {b : Bool} {xs : List Pt} {x : Pt} : x ∈ sortP b xs ↔ x ∈ xs := (sortP_perm b xs).mem_iff
theorem sortP_len (b : Bool) (xs : List Pt) : (sortP b xs).length = xs.length := (sortP_perm b xs).length_eq
section
variable {K : PySem.W.Frag} {σ : L2.St} {H H' : Hp} {ta : TA} {tk : TA} {kvs : List (Pt × V)} {b : Bool}
theorem all_refs {H : Hp} : ∀ {bs : List (Pt × Addr)}, (∀ t ∈ bs, H t.2 = some (.tup (t.1.map V.int))) → All ((bs.map (·.1)).map ptR) (bs.map fun t => V.ref t.2) H
  | [], _ => .nil
  | t :: bs, h => .cons ⟨t.2, rfl, h t (List.mem_cons_self ..)⟩ (all_refs fun u hu => h u (List.mem_cons_of_mem _ hu))
theorem sort_any {x : V} {H1 : Hp} {Q : VK} (rx : dR kvs x H1) (hne : ∀ t ∈ kvs, t.1 ≠ []) (q : ∀ p vs H2, H1 p = none → Ext H1 H2 → H2 p = some (.lst vs) → All ((sortP b (kvs.map (·.1))).map ptR) vs H2 → Q (.ref p) H2) : rSortD b x H1 Q := by
  obtain ⟨a, rfl, ha⟩ := rx
  refine ⟨a, kvs, rfl, .inl ha, hne, fun p bs hp hperm hord hbs => ?_⟩
  refine q p _ _ hp (Ext.new _ hp) upd_same ?_
  rw [← sortP_eq hperm hord]
  exact all_refs fun t ht => by
    have z := hbs t ht
    rw [upd_ne (ne_of_none z hp)]
    exact z
theorem ev_sortD (h : EvA ta σ H [dR kvs]) (hne : ∀ t ∈ kvs, t.1 ≠ []) : EvN (tCB (fun xs H Q => ∃ x, xs = [x] ∧ rSortD false x H Q) ta) σ H ((sortP false (kvs.map (·.1))).map ptR) := fun H1 e Q q =>
  h H1 e _ fun vs H2 e2 r => by
    obtain ⟨x, rfl, rx⟩ := All.l1 r
    exact ⟨x, rfl, sort_any rx hne fun p vs H3 hp e3 h3 r3 => q p vs H3 (e2.fresh hp) (e2.trans e3) h3 r3⟩
theorem ev_sortDR (h : EvA ta σ H [dR kvs]) (hk : EvA tk σ H [IsB true]) (hne : ∀ t ∈ kvs, t.1 ≠ []) : EvN (tCKw (fun xs zs H Q => ∃ x, xs = [x] ∧ zs = [.bl true] ∧ rSortD true x H Q) ta tk) σ H ((sortP true (kvs.map (·.1))).map ptR) := fun H1 e Q q =>
  h H1 e _ fun vs H2 e2 r => hk H2 (e.trans e2) _ fun zs H3 e3 rz => by
    obtain ⟨x, rfl, rx⟩ := All.l1 r
    obtain ⟨z, rfl, hz⟩ := All.l1 rz
    obtain rfl : z = V.bl true := hz
    have rx' : dR kvs x H3 := Mono.up e3 rx
    exact ⟨x, rfl, rfl, sort_any rx' hne fun p vs H4 hp e4 h4 r4 => q p vs H4 ((e2.trans e3).fresh hp) ((e2.trans e3).trans e4) h4 r4⟩
end
end SP
end
section
set_option Elab.async false
set_option linter.all false
set_option maxRecDepth 100000
set_option maxHeartbeats 4000000
namespace SP
open PySem PySem.Spec PyProof.Rows L2 NdefX LamX
section
variable {P : Program} {w : World} {K : PySem.W.Frag} {mg : Str → Option Value} {base : Heap} {N ps fr : List Str} {f c' : Addr} {A : Around} {outer : List Env} {s : Shared} {H : Hp} {us : List Value} {vs : List V} {ws : List (Option V)} {k : Nat}
abbrev lamF (name qual : Str) (params : Arguments) (scope : Scope) (cl : List (Str × Addr)) (c' : Addr) : NF := ⟨name, qual, params, [], scope, cl, c'⟩
theorem lam_run {name qual : Str} {params : Arguments} {body : Expr} {scope : Scope} {cl : List (Str × Addr)} {pm ctv : Value} {tb : TE} {Q : VK} (S : NScope N ps fr scope) (hr : Room (k + 1) A) (e0 : Env0 P w K mg base A outer s H)
    (of1 : s.heap.get? f = some (PySem.W.kla_obj name qual params body scope cl pm c' ctv)) (hc : H c' = some (CodeO c' qual)) (C : CellsAt cl fr ws s.heap H) (r : Vals vs us) (hl : vs.length = ps.length)
    (hbind : bindArgs (PySem.W.kla_fn name qual params body scope cl pm (.ref c') ctv) ⟨us, []⟩ = pure (ps.zip us))
    (hbody : Room k (A.deeper (envF (lamF name qual params scope cl c') f s.heap.objs.size)) → PE (ncx CX0 P w K mg base N (lamF name qual params scope cl c') f A outer s H E0) body tb) (q : tb (startF N vs ws) H Q) :
    codeAny (model P w) A (.call (.ref f) ⟨us, []⟩) (CR CX0 outer P w H s Q E0) s := by
  have lim : s.heap.NoLimit := e0.mod.nolimit.keeps fun b o e => (e0.bs b o e).1
  refine PySem.W.kla_callFunE hr.depth of1 rfl S.co S.gen rfl (codeO_at e0.hok hc) ?_
  rw [hbind]
  refine wpAny_pure (wpAny_newFunctionEnv S.nocell (fun ⟨n, _⟩ hy => S.par n (List.of_mem_zip hy).1) (fun h₁ hns hsb => ⟨lim.fresh _ hsb, ?_⟩) S.kind)
  show codeAny _ _ (.expr body (envF (lamF name qual params scope cl c') f s.heap.objs.size)) _ _
  have kp : ∀ b o, s.heap.get? b = some o → h₁.get? b = some o := fun b o e => hsb.extBut b o (Nat.ne_of_lt (Heap.lt_size e)) (Heap.get?_push_of_some _ e)
  have J : Inv (ncx CX0 P w K mg base N (lamF name qual params scope cl c') f A outer s H E0) [] (startF N vs ws) H { s with heap := h₁, toks := s.toks + (ps.zip us).length } := inv_startN S hr.hd e0 hl r C hns kp
  refine PySem.W.kla_codeExpr (wpAny_mono ((hbody (hr.deeper _)).run [] _ _ H Q J q) (fun v s' hq => ?_) fun e s' hq => hq)
  obtain ⟨w', H', J', rv, q⟩ := hq
  exact ⟨w', H', J'.os, J'.bare, J'.base, J'.hok, rv, q⟩
end
abbrev keyD (KF : Pt → Int) (x : Pt) : PyData := .tuple [.int (KF x), tupD x]
theorem eqv_tup : ∀ x y : Pt, PyData.eqvAll (x.map .int) (y.map .int) = true → x = y
  | [], [], _ => rfl
  | [], b :: y, h => by simp [PyData.eqvAll] at h
  | a :: x, [], h => by simp [PyData.eqvAll] at h
  | a :: x, b :: y, h => by
    simp only [List.map_cons, PyData.eqvAll, Bool.and_eq_true] at h
    have e1 : a = b := by simpa [PyData.eqv] using h.1
    rw [e1, eqv_tup x y h.2]
def keyLt (KF : Pt → Int) (x y : Pt) : Bool := if KF x = KF y then lexLt x y else decide (KF x < KF y)
theorem dataLt_key (KF : Pt → Int) (x y : Pt) : PySem.W.dataLt (keyD KF x) (keyD KF y) = keyLt KF x y := by
  rw [PySem.W.dataLt_pair (by simp [PySem.W.alike]) (alike_tup x y), PySem.W.dataLt_int, dataLt_tup]
  unfold keyLt
  by_cases e : KF x = KF y
  · rw [if_pos e, if_pos (by rw [e]; simp [PyData.eqv])]
    by_cases q : PyData.eqv (tupD x) (tupD y) = true
    · rw [if_pos q]
      have : x = y := eqv_tup x y (by simpa [PyData.eqv] using q)
      subst this
      exact (lexLt_irrefl x).symm
    · rw [if_neg q]
  · rw [if_neg e, if_neg (by simp [PyData.eqv, e])]
theorem keyLt_trans {KF : Pt → Int} {x y z : Pt} (h : keyLt KF x y = true) (k : keyLt KF y z = true) : keyLt KF x z = true := by
  unfold keyLt at *
  by_cases e1 : KF x = KF y
  · rw [if_pos e1] at h
    by_cases e2 : KF y = KF z
    · rw [if_pos e2] at k
      rw [if_pos (e1.trans e2)]
      exact lexLt_trans h k
    · rw [if_neg e2] at k
      rw [if_neg (by rw [e1]; exact e2), e1]
      exact k
  · rw [if_neg e1] at h
    have h' : KF x < KF y := by simpa using h
    by_cases e2 : KF y = KF z
    · rw [if_neg (by rw [← e2]; exact e1), ← e2]
      exact h
    · rw [if_neg e2] at k
      have k' : KF y < KF z := by simpa using k
      rw [if_neg (by omega)]
      simpa using (by omega : KF x < KF z)
theorem keyLt_irrefl {KF : Pt → Int} (x : Pt) : keyLt KF x x = false := by
  unfold keyLt
  rw [if_pos rfl, lexLt_irrefl]
theorem keyLt_total {KF : Pt → Int} {x y : Pt} (ne : x ≠ y) (h : keyLt KF x y = false) : keyLt KF y x = true := by
  unfold keyLt at *
  by_cases e1 : KF x = KF y
  · rw [if_pos e1] at h
    rw [if_pos e1.symm]
    exact lexLt_total ne h
  · rw [if_neg e1] at h
    rw [if_neg (fun z => e1 z.symm)]
    have h' : ¬ KF x < KF y := by simpa using h
    simpa using (by omega : KF y < KF x)
abbrev keyR (KF : Pt → Int) (x : Pt) : RS := tupR [IsI (KF x), ptR x]
theorem key_reads {X : Cx} {pins : List (Addr × Obj)} {σ : L2.St} {H : Hp} {s : Shared} {KF : Pt → Int} {x : Pt} {v : V} {u : Value} (I : Inv X pins σ H s) (h : keyR KF x v H) (r : RelV v u) : Reads s.heap u (keyD KF x) [] := by
  obtain ⟨a, vs, rfl, ha, rs⟩ := h
  cases r
  obtain ⟨v1, v2, rfl, h1, h2⟩ := All.l2 rs
  obtain rfl : v1 = V.int (KF x) := h1
  obtain ⟨b, rfl, hb⟩ := h2
  obtain ⟨its, r, ⟨o, ho, hc, n, hd⟩, _⟩ := I.tuple (SqT.of ha)
  obtain ⟨u1, u2, rfl, q1, q2⟩ := vals2 r
  obtain ⟨t, rfl⟩ := q1
  cases q2
  exact .tuple ho hc hd (ReadsAll.cons (as := []) (bs := []) (.int _ t) (ReadsAll.cons (as := []) (bs := []) (reads_pt I hb) .nil))
theorem keys_read {X : Cx} {pins : List (Addr × Obj)} {σ : L2.St} {H : Hp} {s : Shared} {KF : Pt → Int} (I : Inv X pins σ H s) : ∀ {xs : List Pt} {vs : List V} {us : List Value}, All (xs.map (keyR KF)) vs H → Vals vs us → PySem.W.EachIs (fun v k => ∃ as, Reads s.heap v k as) us (xs.map (keyD KF))
  | [], _, _, .nil, .nil => .nil
  | x :: xs, _, _, .cons a t, .cons b r => .cons ⟨[], key_reads I a b⟩ (keys_read I t r)
theorem vals_snoc {vs : List V} {us : List Value} {v : V} {u : Value} (h : Vals vs us) (k : RelV v u) : Vals (vs ++ [v]) (us ++ [u]) := Paired.snoc h k
section
variable {X : Cx} {pins : List (Addr × Obj)} {σ : L2.St} {H : Hp} {s : Shared} {KF : Pt → Int} {xs : List Pt} {f L : Addr} {fo : Obj}
theorem sorted_lam (hc : X.calm = true) (hu : X.A.units + 64 < cLine) (I : Inv X pins σ H s) {us : List V} (hL : SqL X.K H L us) (hall : All (xs.map ptR) us H) (hfo : s.heap.get? f = some fo) (hf : H f = none) (hff : f ∉ frs X.stack) {Q : VK}
    (turn : ∀ (s1 : Shared) (H1 : Hp) (u : Value) (x : V) (p : Pt), Inv X pins σ H1 s1 → Ext H H1 → s1.heap.get? f = some fo → p ∈ xs → ptR p x H1 → RelV x u →
      codeAny (model X.prog X.w) X.A.in1.in1 (.call (.ref f) ⟨[u], []⟩) (CR CX0 X.stack X.prog X.w H1 s1 (fun v H2 => Ext H1 H2 ∧ keyR KF p v H2) E0) s1)
    (q : ∀ (p : Addr) (vs : List V) (H2 : Hp) (ys : List Pt), H p = none → Ext H H2 → H2 p = some (.lst vs) → All (ys.map ptR) vs H2 → ys.Perm xs → ys.Pairwise (fun x y => keyLt KF y x = false) → Q (.ref p) H2) :
    wpAny (model X.prog X.w) X.A (call (.builtin "sorted") [.ref L] [(Str.ofString "key", .ref f)]) (EP X pins σ Q) X.xe s := by
  obtain ⟨its, rv, pl, hz⟩ := I.list hL
  have hil := rv.length
  obtain ⟨bs, hbs, hbl, hbt⟩ : ∃ bs : List Addr, us = bs.map V.ref ∧ bs.length = xs.length ∧ ∀ (i : Nat) (b : Addr) (x : Pt), bs[i]? = some b → xs[i]? = some x → H b = some (.tup (x.map V.int)) := by
    have q : ∀ {xs : List Pt} {us : List V}, All (xs.map ptR) us H → ∃ bs : List Addr, us = bs.map V.ref ∧ bs.length = xs.length ∧ ∀ (i : Nat) (b : Addr) (x : Pt), bs[i]? = some b → xs[i]? = some x → H b = some (.tup (x.map V.int)) := by
      intro xs
      induction xs with
      | nil => intro us r; cases r; exact ⟨[], rfl, rfl, fun i b x h => by simp at h⟩
      | cons x xs ih =>
        intro us r
        cases r with
        | cons a t =>
          obtain ⟨bs, h1, h2, h3⟩ := ih t
          obtain ⟨b, rfl, hb⟩ := a
          refine ⟨b :: bs, by rw [h1]; rfl, by simp [h2], fun i b' x' e1 e2 => ?_⟩
          cases i with
          | zero => simp at e1 e2; subst e1 e2; exact hb
          | succ i => exact h3 i b' x' (by simpa using e1) (by simpa using e2)
    exact q hall
  subst hbs
  have eits : its = bs.map Value.ref := by
    have q : ∀ {bs : List Addr} {its : List Value}, Vals (bs.map V.ref) its → its = bs.map Value.ref := by
      intro bs
      induction bs with
      | nil => intro its r; cases r; rfl
      | cons b bs ih => intro its r; cases r with | cons a t => cases a; rw [ih t]; rfl
    exact q rv
  subst eits
  have hlen : (bs.map Value.ref).length = xs.length := by rw [List.length_map, hbl]
  have hZ : (bs.map Value.ref).length ≤ sizeLine := by rw [hlen, ← hbl]; simpa using hz
  have hlt : s.heap.objs.size + 1 < (PySem.W.copyHeap s.heap (bs.map Value.ref)).objs.size := Heap.lt_size (PySem.W.copyHeap_at s.heap _)
  refine PySem.W.sorted_of_sort pl.isList hZ (ksk_s1 _ _) (fun _ => ksk_l1 _ _) fun E' => ?_
  rw [ksk_t1]
  generalize ha : s.heap.objs.size + 1 = a
  rw [ha] at hlt
  have I1 : Inv X pins σ H { s with heap := PySem.W.copyHeap s.heap (bs.map Value.ref) } := I.kept (t' := s.toks) fun b o e => PySem.W.copyHeap_old e
  have ho : (PySem.W.copyHeap s.heap (bs.map Value.ref)).get? a = some (seqObj "list" (bs.map Value.ref).toArray 0) := by rw [← ha]; exact PySem.W.copyHeap_at s.heap _
  have fa : FpOk X pins H a := I.fpOk (by rw [← ha]; exact Nat.le_succ _) (I.hok.fresh (by rw [← ha]; exact Nat.le_succ _))
  have fof : (PySem.W.copyHeap s.heap (bs.map Value.ref)).get? f = some fo := PySem.W.copyHeap_old hfo
  have fna : f ≠ a := by
    have h1 := Heap.lt_size hfo
    intro z
    rw [z, ← ha] at h1
    exact absurd h1 (Nat.not_lt.mpr (Nat.le_succ _))
  generalize hg : PySem.W.copyHeap s.heap (bs.map Value.ref) = g at *
  obtain ⟨e1, ho1⟩ : ∃ e1, (g.update a (Obj.mapSeq fun _ => (#[] : Array Value))).get? a = some (seqObj "list" #[] e1) := ⟨_, get?_update_seq ho fun _ => #[]⟩
  have sb0 : Heap.SameBut a g (g.update a (Obj.mapSeq fun _ => (#[] : Array Value))) := Heap.SameBut.update ..
  unfold ksk_tree
  refine wpAny_bind (listItems_at ho rfl ?_)
  refine wpAny_bind (listUpdate_at ho rfl ?_ (by rw [List.size_toArray]; exact hZ) (Nat.zero_le _))
  refine wpAny_bind (seqEpoch_at ho1 rfl ?_)
  refine wpAny_bind (wpAny_newTuple ?_ (by simpa using hZ))
  refine wpAny_bind (wpAny_newList ?_ (Nat.zero_le _))
  refine wpAny_holding ?_
  have I2 : Inv X pins σ H { s with heap := ((g.update a (Obj.mapSeq fun _ => (#[] : Array Value))).push (seqObj "tuple" (bs.map Value.ref).toArray 0)).push (seqObj "list" #[] 0) } :=
    (I1.turnedL (t' := s.toks) (ch := [a]) (h' := g.update a (Obj.mapSeq fun _ => (#[] : Array Value))) (fun b o hb e => (sb0.2 b (by simpa using hb)).trans e) (fun b hb => by rw [List.mem_singleton.mp hb]; exact fa)).kept (t' := s.toks) fun b o e => Heap.get?_push_of_some _ (Heap.get?_push_of_some _ e)
  generalize hkS : ((g.update a (Obj.mapSeq fun _ => (#[] : Array Value))).push (seqObj "tuple" (bs.map Value.ref).toArray 0)).objs.size = kS
  have hkS' : kS = g.objs.size + 1 := by rw [← hkS, Heap.size_push, Heap.size_update]
  have hka : kS ≠ a := by rw [hkS']; exact Nat.ne_of_gt (Nat.lt_succ_of_lt hlt)
  have fk : FpOk X pins H kS := I1.fpOk (by rw [hkS']; exact Nat.le_succ _) (I1.hok.fresh (by rw [hkS']; exact Nat.le_succ _))
  have fnk : f ≠ kS := by
    have h1 := Heap.lt_size fof
    intro z
    rw [z, hkS'] at h1
    exact absurd h1 (Nat.not_lt.mpr (Nat.le_succ _))
  have frk : kS ∉ frs X.stack := fun z => (List.mem_cons.mp (I1.stkSub kS z)).elim (fun e => fk.2.1 e) fun e => fk.2.2.1 e
  have fra : a ∉ frs X.stack := fun z => (List.mem_cons.mp (I1.stkSub a z)).elim (fun e => fa.2.1 e) fun e => fa.2.2.1 e
  generalize hh2 : ((g.update a (Obj.mapSeq fun _ => (#[] : Array Value))).push (seqObj "tuple" (bs.map Value.ref).toArray 0)).push (seqObj "list" #[] 0) = h2 at *
  have nk2 : h2.get? kS = some (seqObj "list" #[] 0) := by rw [← hh2, ← hkS]; exact Heap.get?_push_size _ rfl
  have na2 : h2.get? a = some (seqObj "list" #[] e1) := by rw [← hh2]; exact Heap.get?_push_of_some _ (Heap.get?_push_of_some _ ho1)
  have nf2 : h2.get? f = some fo := by rw [← hh2]; exact Heap.get?_push_of_some _ (Heap.get?_push_of_some _ ((sb0.2 f fna).trans fof))
  unfold ksk_rest
  refine wpAny_bind (wpAny_rule ?_)
  rw [List.forIn_toArray]
  refine wpAny_bind (ksk_fold (fun i s' => ∃ H' kA e kv, Inv X pins σ H' s' ∧ Ext H H' ∧ s'.heap.get? kS = some (seqObj "list" kA e) ∧ s'.heap.get? a = some (seqObj "list" #[] e1) ∧ s'.heap.get? f = some fo ∧ H' kS = none ∧ H' a = none ∧ H' f = none ∧
      Vals kv kA.toList ∧ All ((xs.take i).map (keyR KF)) kv H') (bs.map Value.ref) 0 _ ⟨H, #[], 0, [], I2, Ext.refl _, nk2, na2, nf2, fk.1, fa.1, hf, .nil, by simp; exact .nil⟩ ?step ?done)
  case step =>
    rintro j u s' hj ⟨H', kA, e, kv, I', ex, nk, na, nf, hk, haN, hfN, vk, ak⟩
    simp only [Nat.zero_add] at ak ⊢
    rw [List.getElem?_map] at hj
    obtain ⟨b, hb, rfl⟩ : ∃ b, bs[j]? = some b ∧ u = Value.ref b := by
      cases e : bs[j]? with
      | none => rw [e] at hj; cases hj
      | some b => rw [e] at hj; exact ⟨b, rfl, (Option.some.inj hj).symm⟩
    have hjl : j < xs.length := by rw [← hbl]; exact (List.getElem?_eq_some_iff.mp hb).1
    have hxj : xs[j]? = some xs[j] := List.getElem?_eq_getElem hjl
    have hpt : ptR xs[j] (.ref b) H' := ⟨b, rfl, ex.at (hbt j b _ hb hxj)⟩
    have hks : kA.size ≤ xs.length := by
      have h1 : kv.length = kA.size := by have := Paired.length vk; simpa using this
      have h2 : kv.length = min j xs.length := by have := Paired.length ak; simpa using this
      have h3 : min j xs.length ≤ xs.length := Nat.min_le_right _ _
      omega
    refine wpAny_bind (wpAny_attempt (wpAny_mono (wpAny_call (E := fun _ _ => False) (Q := fun u' s2 => ∃ v H2, Inv X pins σ H2 s2 ∧ RelV v u' ∧ Ext H' H2 ∧ keyR KF xs[j] v H2 ∧ (∀ b o, H' b = none → b ∉ frs X.stack → s'.heap.get? b = some o → s2.heap.get? b = some o ∧ H2 b = none))
      (codeAny_mono (turn s' H' (.ref b) (.ref b) xs[j] I' ex nf (List.getElem_mem hjl) hpt rfl) fun r s2 hq => ?_)) (fun u' s2 hq => ?_) fun _ _ hF => hF.elim))
    · cases r with
      | error e => exact hq
      | ok fl =>
        cases fl with
        | next => exact False.elim hq
        | brk => exact False.elim hq
        | cont => exact False.elim hq
        | ret u' =>
          obtain ⟨v, H2, os, bare, un, hok, rv', e2, kr⟩ := (show CE X.stack X.prog X.w H' s' _ u' s2 from hq)
          obtain ⟨hh, gg, dd, tt, os'⟩ := s2
          obtain rfl : os' = s'.os := os
          exact ⟨v, H2, I'.call (h' := hh) (g' := gg) (d' := dd) (t' := tt) (ch := []) un hok bare (fun b z => absurd z (by simp)), rv', e2, kr, fun b o n1 n2 e3 => ⟨un.keep b o e3 n1 n2 (by simp), un.free b o e3 n1 (by simp)⟩⟩
    · obtain ⟨v, H2, I3, rv', e2, kr, kp⟩ := hq
      obtain ⟨nk3, hk3⟩ := kp kS _ hk frk nk
      obtain ⟨na3, ha3⟩ := kp a _ haN fra na
      obtain ⟨nf3, hf3⟩ := kp f _ hfN hff nf
      have s1 := Heap.SameBut.update s2.heap kS (Obj.mapSeq (·.push u'))
      obtain ⟨c2, hc2⟩ : ∃ c2, (s2.heap.update kS (Obj.mapSeq (·.push u'))).get? kS = some (seqObj "list" (kA.push u') c2) := ⟨_, get?_update_seq nk3 (·.push u')⟩
      have hZ' : kA.size ≤ sizeLine := by rw [hlen] at hZ; omega
      refine wpAny_bind (listUpdate_at nk3 rfl ?_ hZ' (Nat.le_trans (Nat.le_of_eq (Array.size_push ..)) (Nat.succ_le_succ hZ')))
      refine wpAny_pure ⟨rfl, H2, kA.push u', c2, kv ++ [v], ?_, ex.trans e2, hc2, (s1.2 a hka.symm).trans na3, (s1.2 f fnk).trans nf3, hk3, ha3, hf3, ?_, ?_⟩
      · exact I3.turned (t' := s2.toks) (fun b o hb e => (s1.2 b hb).trans e) hk3 fk.2.1 fk.2.2.2.1 fk.2.2.2.2.1 fk.2.2.2.2.2
      · rw [Array.toList_push]
        exact vals_snoc vk rv'
      · rw [List.take_add_one, hxj, List.map_append]
        exact All.snoc (All.up e2 ak) kr
  case done =>
    rintro s' ⟨H', kA, e, kv, I', ex, nk, na, nf, hk, haN, hfN, vk, ak⟩
    have e3 : xs.take (0 + (bs.map Value.ref).length) = xs := List.take_of_length_le (by omega)
    rw [e3] at ak
    have hk' := keys_read I' ak vk
    have hsz : kA.size = (bs.map Value.ref).length := by
      have h1 := hk'.length
      rw [Array.length_toList, List.length_map] at h1
      omega
    refine wpAny_bind (listItems_at nk rfl ?_)
    obtain ⟨G, g1, g2⟩ := restrict s'.heap fun b => decide (b ≠ kS)
    have gk : G.get? kS = none := g2 kS (decide_eq_false fun z => z rfl)
    have gs : ∀ b, b ≠ kS → G.get? b = s'.heap.get? b := fun b hb => g1 b (decide_eq_true hb)
    have kp : PySem.W.KeepsBut a G s'.heap := fun b o _ e => by
      by_cases hb : b = kS
      · rw [hb, gk] at e; cases e
      · rw [gs b hb] at e; exact e
    have hal : PySem.W.AllAlike (xs.map (keyD KF)) := PySem.W.AllAlike.of fun x y => by
      show (PySem.W.alike (.int (KF x)) (.int (KF y)) && (PySem.W.alike (tupD x) (tupD y) && PySem.W.alikeAll [] [])) = true
      rw [alike_tup]
      rfl
    have hsk : PySem.W.Sortable (xs.map (keyD KF)) := PySem.W.Sortable.tuples fun x => ⟨_, _, rfl⟩
    have hdep : ∀ d, d ∈ xs.map (keyD KF) → X.A.in1.in1.units + d.depth < cLine := fun d hd => by
      obtain ⟨x, _, rfl⟩ := List.mem_map.mp hd
      have h1 : (keyD KF x).depth ≤ 2 := by
        have := depth_tup x
        show max (PyData.depth (.int (KF x))) (max (tupD x).depth 0) + 1 ≤ 2
        have h0 : PyData.depth (.int (KF x)) = 0 := by simp [PyData.depth]
        rw [h0]
        omega
      show X.A.units + 1 + 1 + _ < cLine
      omega
    refine PySem.W.keyH_end (κ := PySem.W.dataKind s'.heap (xs.map (keyD KF))) (h₁ := G) (b := false) kp gk nk na hka (PySem.W.SortsAt.data hk' hal hsk hdep) hsz hZ fun h' tk c k3 n3 => ⟨rfl, ?_⟩
    have ko : PySem.W.KeyedOut false (xs.map (keyD KF)) (bs.map Value.ref) (PySem.W.sortVals (PySem.W.dataKind s'.heap (xs.map (keyD KF))) false kA.toList (bs.map Value.ref)) := ⟨s'.heap, kA.toList, hal, rfl, hk'⟩
    have h4 : ∀ b o, b ∉ [kS, a] → s'.heap.get? b = some o → h'.get? b = some o := fun b o hb e => k3 b o (fun z => hb (by simp [z])) (by rw [gs b (fun z => hb (by simp [z]))]; exact e)
    have I4 : Inv X pins σ H' { s' with heap := h', toks := tk } := I'.turnedL (t' := tk) (ch := [kS, a]) h4 fun b hb => by
      rcases List.mem_cons.mp hb with rfl | hb
      · exact ⟨hk, fk.2⟩
      · rw [List.mem_singleton.mp hb]; exact ⟨haN, fa.2⟩
    generalize hout : PySem.W.sortVals (PySem.W.dataKind s'.heap (xs.map (keyD KF))) false kA.toList (bs.map Value.ref) = out at *
    -- the order
    have er : PySem.W.EachIs (fun v (t : Addr × Pt) => v = .ref t.1) (bs.map Value.ref) (bs.zip xs) := by
      have q : ∀ {bs : List Addr} {xs : List Pt}, bs.length = xs.length → PySem.W.EachIs (fun v (t : Addr × Pt) => v = .ref t.1) (bs.map Value.ref) (bs.zip xs) := by
        intro bs
        induction bs with
        | nil => intro xs h; exact .nil
        | cons b bs ih =>
          intro xs h
          cases xs with
          | nil => simp at h
          | cons x xs => exact .cons rfl (ih (by simpa using h))
      exact q hbl
    have ez : xs.map (keyD KF) = (bs.zip xs).map fun t => keyD KF t.2 := by
      have q : ((bs.zip xs).map Prod.snd) = xs := List.map_snd_zip (by omega)
      conv => lhs; rw [← q]
      rw [List.map_map]
      rfl
    rw [ez] at ko
    have eo := PySem.W.keyedOut_each (fun t : Addr × Pt => keyD KF t.2) ko er
    have leq : PySem.W.dataLe false (fun t : Addr × Pt => keyD KF t.2) = fun t u => !keyLt KF u.2 t.2 := by
      rw [PySem.W.dataLe_eq]
      funext t u
      show (!PySem.W.dataLt (keyD KF u.2) (keyD KF t.2)) = _
      rw [dataLt_key]
    rw [leq] at eo
    have pm : ((bs.zip xs).mergeSort fun t u => !keyLt KF u.2 t.2).Perm (bs.zip xs) := List.mergeSort_perm _ _
    generalize hms : ((bs.zip xs).mergeSort fun t u => !keyLt KF u.2 t.2) = ms at *
    have hol : out.length = ms.length := eo.length
    have hml : ms.length = xs.length := by rw [pm.length_eq, List.length_zip, hbl, Nat.min_self]
    have vout : Vals (ms.map fun t => V.ref t.1) out := by
      have q : ∀ {out : List Value} {ms : List (Addr × Pt)}, PySem.W.EachIs (fun v (t : Addr × Pt) => v = .ref t.1) out ms → Vals (ms.map fun t => V.ref t.1) out := by
        intro out ms h
        induction h with
        | nil => exact .nil
        | cons a t ih => exact .cons a ih
      exact q eo
    have pts : ∀ t ∈ ms, H t.1 = some (.tup (t.2.map V.int)) := fun t ht => by
      obtain ⟨i, hi⟩ := List.mem_iff_getElem?.mp (pm.mem_iff.mp ht)
      rw [List.getElem?_zip_eq_some] at hi
      exact hbt i t.1 t.2 hi.1 hi.2
    have I5 := I4.take (t' := tk) (h' := h') (it := a) (o := .lst (ms.map fun t => V.ref t.1)) (fun b ob _ e => e) ⟨haN, fa.2⟩ ⟨by rw [List.length_map, hml, ← hlen]; exact hZ, out, c, vout, n3⟩
    refine ⟨.ref a, _, I5, rfl, q a (ms.map fun t => V.ref t.1) _ (ms.map Prod.snd) fa.1 ?_ upd_same ?_ ?_ ?_⟩
    · exact ex.trans (Ext.new _ haN)
    · have q : ∀ {ms : List (Addr × Pt)} {H2 : Hp}, (∀ t ∈ ms, H2 t.1 = some (.tup (t.2.map V.int))) → All ((ms.map Prod.snd).map ptR) (ms.map fun t => V.ref t.1) H2 := by
        intro ms
        induction ms with
        | nil => intro H2 _; exact .nil
        | cons t ms ih => intro H2 h; exact .cons ⟨t.1, rfl, h t (List.mem_cons_self ..)⟩ (ih fun u hu => h u (List.mem_cons_of_mem _ hu))
      exact q fun t ht => (ex.trans (Ext.new _ haN)).at (pts t ht)
    · have := pm.map Prod.snd
      rw [List.map_snd_zip (by omega)] at this
      exact this
    · rw [← hms, List.pairwise_map]
      have pw := List.pairwise_mergeSort (le := fun t u : Addr × Pt => !keyLt KF u.2 t.2) (fun x y z h k => by
        rw [Bool.not_eq_true'] at h k ⊢
        by_cases e1 : x.2 = y.2
        · rw [e1]; exact k
        · have q1 := keyLt_total (fun z => e1 z.symm) h
          by_cases e2 : y.2 = z.2
          · rw [← e2]; exact h
          · have q2 := keyLt_total (fun z => e2 z.symm) k
            cases q3 : keyLt KF z.2 x.2 with
            | false => rfl
            | true =>
              have := keyLt_trans q1 (keyLt_trans q2 q3)
              rw [keyLt_irrefl] at this
              cases this) (fun x y => by
        cases q1 : keyLt KF y.2 x.2 with
        | false => rfl
        | true =>
          cases q2 : keyLt KF x.2 y.2 with
          | false => rfl
          | true =>
            have := keyLt_trans q1 q2
            rw [keyLt_irrefl] at this
            cases this) (bs.zip xs)
      exact pw.imp fun h => by simpa using h
end
end SP
end
section
set_option Elab.async false
set_option linter.all false
set_option maxRecDepth 100000
set_option maxHeartbeats 4000000
namespace SP
open PySem PySem.Spec PyProof.Rows L2 NdefX LamX
section
variable {X : Cx} {pins : List (Addr × Obj)} {σ : L2.St} {H : Hp} {s : Shared}
theorem lam_make3 {c P : Addr} {params : Arguments} {body : Expr} {scope : Scope} {pos : Pos} {E : Value → Shared → Prop} {Q : Value → Shared → Prop} (I : Inv X pins σ H s) (TB : TabB X.base X.mg c P) (hcode : X.env.code = .ref c)
    (hq : X.env.qual ++ "<lambda>" = LQ) (hT : TabS H P LQ) (hdef : defaultsOf params X.env = ([], [])) (hfree : ∀ y ∈ scope.names, y.2 = .free → ∃ c, X.env.cells.lookup y.1 = some c)
    (h : ∀ (f c' : Addr) (pm ctv : Value) (H1 : Hp) (s' : Shared), Inv X pins σ H1 s' → Ext H H1 → s'.heap.get? f = some (PySem.W.kla_obj "<lambda>" LQ params body scope (cloFrom X.env.cells scope.names []) pm c' ctv) → H1 f = none → f ∉ frs X.stack → H1 c' = some (CodeO c' LQ) → Q (.ref f) s') :
    wpAny (model X.prog X.w) X.A (eval (.Lambda params body scope pos) X.env) Q E s := by
  obtain ⟨ps, hP, ht, ha⟩ := hT
  refine PySem.W.kla_eval hdef ?_
  rw [hq]
  have bP : s.heap.BuiltinsAt X.mg P := TB.bm.keeps I.bk
  have hP' : s.heap.get? P = some { cls := .none, data := .fields ps } := I.hok P _ hP
  have nofr : ∀ f, s.heap.objs.size ≤ f → f ∉ frs X.stack := fun f hf z => by
    rcases List.mem_cons.mp (I.stkSub _ z) with e | e
    · have h1 := I.lt
      rw [← e] at h1
      exact Nat.lt_irrefl _ (Nat.lt_of_lt_of_le h1 hf)
    · exact I.nofs hf e
  cases hc : codeAmong pos ps.toList with
  | none =>
    refine PySem.W.kla_makeFunction (mg := X.mg) (c := c) (P := P) (ps := ps) (closure_ok hfree) I.ok.glob (I.mod.glob.keeps I.bk) hcode (TB.code.keeps I.bk) hP' ht hc TB.gP bP fun c' ctv h' tk hx hge hlt hrec htb => ?_
    obtain ⟨c2, oc, vs, t, e2, hoc, hd, hv⟩ := hrec
    cases e2
    have hsz : s.heap.objs.size ≤ h'.objs.size := Nat.le_trans hge (Nat.le_of_lt hlt)
    have nC : H c' = none := I.hok.fresh hge
    have I1 := inv_table (t' := tk) (more := #[rawInt pos.line, rawInt pos.col, .ref c']) (h' := h'.push (PySem.W.kla_obj "<lambda>" LQ params body scope (cloFrom X.env.cells scope.names []) ((X.mg "__name__").getD .none) c' ctv)) I hP
      (fun b o hb e => Heap.get?_push_of_some _ (hx b o hb e)) (Heap.get?_push_of_some _ htb) hge ⟨oc, vs, t, Heap.get?_push_of_some _ hoc, hd, hv⟩
    have hE : ∀ b o, H b = some o → (∀ ps, o ≠ .tbl ps) → (upd (upd H P (.tbl (ps ++ #[rawInt pos.line, rawInt pos.col, .ref c']))) c' (CodeO c' LQ)) b = some o := fun b o e n => by
      rw [upd_ne (ne_of_none e nC), upd_ne (fun z => n ps (Option.some.inj (e.symm.trans (by rw [z]; exact hP))))]
      exact e
    have eL : (ps ++ #[rawInt pos.line, rawInt pos.col, .ref c']).toList = ps.toList ++ [rawInt pos.line, rawInt pos.col, .ref c'] := by simp
    refine h h'.objs.size c' ((X.mg "__name__").getD .none) ctv _ _ I1 ⟨hE, fun b e => upd_none (upd_none e), fun P2 t2 => ?_⟩ (Heap.get?_push_size _ rfl) ?_ (nofr _ hsz) upd_same
    · obtain ⟨ps', a1, a2, a3⟩ := t2
      by_cases hb : P2 = P
      · subst hb
        rw [hP] at a1
        cases a1
        refine ⟨_, by rw [upd_ne (ne_of_none hP nC), upd_same], by rw [eL]; exact PySem.TriplesOk_snoc _ _ _ _ ht, fun p' cv hcv => ?_⟩
        rw [eL] at hcv
        rcases among_app _ ht hcv with z | z
        · obtain ⟨c0, e1, e2⟩ := ha p' cv z
          exact ⟨c0, e1, hE _ _ e2 codeO_ne⟩
        · exact ⟨c', z, upd_same⟩
      · refine ⟨ps', by rw [upd_ne (ne_of_none a1 nC), upd_ne hb]; exact a1, a2, fun p' cv hcv => ?_⟩
        obtain ⟨c0, e1, e2⟩ := a3 p' cv hcv
        exact ⟨c0, e1, hE _ _ e2 codeO_ne⟩
    · have n1 : h'.objs.size ≠ c' := Nat.ne_of_gt hlt
      have n2 : h'.objs.size ≠ P := Nat.ne_of_gt (Nat.lt_of_lt_of_le (Heap.lt_size hP') hsz)
      rw [upd_ne n1, upd_ne n2]
      exact I.hok.fresh hsz
  | some cv =>
    obtain ⟨c', e, hco⟩ := ha pos cv hc
    subst e
    refine PySem.W.kla_makeFunctionHit (mg := X.mg) (c := c) (P := P) (ps := ps) (closure_ok hfree) I.ok.glob (I.mod.glob.keeps I.bk) hcode (TB.code.keeps I.bk) hP' ht hc bP fun ctv h' tk hx hsz => ?_
    have I1 : Inv X pins σ H { s with heap := h'.push (PySem.W.kla_obj "<lambda>" LQ params body scope (cloFrom X.env.cells scope.names []) ((X.mg "__name__").getD .none) c' ctv), toks := tk } := I.kept fun b o e => Heap.get?_push_of_some _ (hx b o e)
    exact h h'.objs.size c' ((X.mg "__name__").getD .none) ctv H _ I1 (Ext.refl H) (Heap.get?_push_size _ rfl) (I.hok.fresh hsz) (nofr _ hsz) hco
end
section
variable {X : Cx} {KF : Pt → Int}
def tSortLam (K : PySem.W.Frag) (P : Addr) (KF : Pt → Int) (yv : V) (j : Nat) (tl : TA) : TE := fun σ H Q => σ[j]? = some (some yv) ∧ tl σ H fun vs H1 => ∃ (L : Addr) (us : List V) (xs : List Pt), vs = [.ref L] ∧ SqL K H1 L us ∧ All (xs.map ptR) us H1 ∧ TabS H1 P LQ ∧
  ∀ (p : Addr) (ws : List V) (H2 : Hp) (ys : List Pt), H1 p = none → Ext H1 H2 → H2 p = some (.lst ws) → All (ys.map ptR) ws H2 → ys.Perm xs → ys.Pairwise (fun x y => keyLt KF y x = false) → Q (.ref p) H2
theorem pe_sortLam {e : Expr} {tl : TA} {c P : Addr} {params : Arguments} {body : Expr} {scope : Scope} {x y : Str} {j k : Nat} {yv : V} {p pos lpos kpos : Pos} (hc : X.calm = true) (hr : Room (k + 3) X.A) (gs : Gl X "sorted") (ms : X.mg "sorted" = none) (ha : PA X [e] tl)
    (TB : TabB X.base X.mg c P) (hcode : X.env.code = .ref c) (hq : X.env.qual ++ "<lambda>" = LQ) (hdef : defaultsOf params X.env = ([], [])) (S : NScope [x, y] [x] [y] scope)
    (hfree : ∀ z ∈ scope.names, z.2 = .free → X.env.scope.names.lookup z.1 = some .cell ∨ X.env.scope.names.lookup z.1 = some .free) (hyf : (y, NameKind.free) ∈ scope.names) (hj : X.N[j]? = some y)
    (hbind : ∀ (q : Str) (cl : List (Str × Addr)) (pm cv ctv u : Value), bindArgs (PySem.W.kla_fn "<lambda>" q params body scope cl pm cv ctv) ⟨[u], []⟩ = pure [(x, u)])
    {tb : TE} (hbody : ∀ (f c' : Addr) (A : Around) (outer : List Env) (s : Shared) (H : Hp), Room k (A.deeper (envF (lamF "<lambda>" LQ params scope (cloFrom X.env.cells scope.names []) c') f s.heap.objs.size)) →
      PE (ncx CX0 X.prog X.w X.K X.mg X.base [x, y] (lamF "<lambda>" LQ params scope (cloFrom X.env.cells scope.names []) c') f A outer s H E0) body tb)
    (hval : ∀ (pt : Pt) (v : V) (H : Hp), ptR pt v H → Ev tb [some v, some yv] H (keyR KF pt))
    (he : backTo pos (starEach [e] X.env) = (false, eval e X.env) :: backTo pos (starEach [] X.env) := by rfl) (hpl : (backTo pos (starEach [e] X.env)).any (·.1) = false := by rfl)
    (hall : (backToKw pos (keywordEach [⟨some "key", .Lambda params body scope lpos, kpos⟩] X.env)).all (·.1.isSome) = true := by rfl) (hnone : (backToKw pos (keywordEach [⟨some "key", .Lambda params body scope lpos, kpos⟩] X.env)).any (·.1.isNone) = false := by rfl)
    (hks : (backToKw pos (keywordEach [⟨some "key", .Lambda params body scope lpos, kpos⟩] X.env)).filterMap (·.1) = [Str.ofString "key"] := by rfl) :
    PE X (.Call (.Name "sorted" p) [e] [⟨some "key", .Lambda params body scope lpos, kpos⟩] pos) (tSortLam X.K P KF yv j tl) := by
  refine ⟨fun pins s σ H Q I h => ?_⟩
  obtain ⟨hyv, h⟩ := h
  refine wpAny_Call_Name_kw (ld_blt I gs ms (u := .builtin "sorted") (by decide +kernel) ?_)
  refine PyProof.Rows.callWith_kw (thn (ha.run pos pins s σ H _ I h) fun us s1 ⟨vs, H1, I1, r1, q1⟩ => ?_) he hpl hall hnone
  rw [hks]
  show wpAny _ _ (evalAll ((do let v ← eval (.Lambda params body scope lpos) X.env; standAt pos; pure v) :: (backToKw pos (keywordEach [] X.env)).map (·.2))) _ _ s1
  obtain ⟨L, vl, xs, rfl, hL, hall2, hT, q⟩ := q1
  obtain ⟨u1, rfl, ru1⟩ := vals1 r1
  cases ru1
  have hfr : ∀ z ∈ scope.names, z.2 = .free → ∃ c, X.env.cells.lookup z.1 = some c := fun z hz e => (hfree z hz e).elim (fun w => I.ok.has _ (.inl w)) fun w => I.ok.has _ (.inr w)
  refine wpAny_evalAll_cons (wpAny_bind (lam_make3 I1 TB hcode hq hT hdef hfr fun f c' pm ctv H2 s2 I2 e2 hfo hfN hff hco => wpAny_bind (wpAny_standAt (wpAny_pure ?_))))
  refine wpAny_evalAll_nil ?_
  have cp : Caps X (cloFrom X.env.cells scope.names []) [y] [j] := Caps.made I.ok hfree (fun z hz => by rw [List.mem_singleton.mp hz]; exact hyf) (by simp [hj])
  have hL2 : SqL X.K H2 L vl := by
    rcases hL with (hL | ⟨o, hL⟩) | hL
    · exact .inl (.inl (e2.at hL))
    · exact .inl (.inr ⟨o, e2.at hL⟩)
    · exact .inr hL
  haveI : AllM (xs.map ptR) := inferInstance
  refine sorted_lam (KF := KF) (f := f) hc hr.units I2 hL2 (All.up e2 hall2) hfo hfN hff (fun s3 H3 u v pt I3 e3 hfo3 hpt hx ru => ?_) fun p2 ws H3 ys hp e3 h3 r3 hperm hord => q p2 ws H3 ys (e2.fresh hp) (e2.trans e3) h3 r3 hperm hord
  have hr2 : Room (k + 1) X.A.in1.in1 := (show Room (k + 2) X.A.in1 from Room.in1 hr).in1
  have e0 := I3.env0
  have e1 : Env0 X.prog X.w X.K X.mg X.base X.A.in1.in1 X.stack s3 H3 := ⟨e0.frames, e0.mod, e0.bs, e0.bsz, e0.funs, e0.frf, e0.hok, e0.bare⟩
  have C := cells_of I3 cp
  have hws : ([j].map (slotAt σ)) = [some yv] := by
    show [slotAt σ j] = _
    rw [slotAt_of hyv]
  rw [hws] at C
  refine lam_run (N := [x, y]) (ps := [x]) (fr := [y]) S hr2 e1 hfo3 (e3.at hco codeO_ne) C (.cons ru .nil) rfl (hbind _ _ _ _ _ _) (fun hR => hbody f c' _ _ _ _ hR) ?_
  exact hval pt v H3 hx H3 (Ext.refl _) _ fun v' H4 e4 r4 => ⟨e4, r4⟩
theorem ev_sortLam {K : PySem.W.Frag} {P : Addr} {yv : V} {j : Nat} {tl : TA} {σ : L2.St} {H : Hp} {xs : List Pt} (hj : σ[j]? = some (some yv)) (hT : TabS H P LQ) (h : EvA tl σ H [lstR (xs.map ptR)]) :
    ∀ H1, Ext H H1 → ∀ Q : VK, (∀ (p : Addr) (ys : List Pt) (ws : List V) (H2 : Hp), H1 p = none → Ext H1 H2 → H2 p = some (.lst ws) → All (ys.map ptR) ws H2 → ys.Perm xs → ys.Pairwise (fun x y => keyLt KF y x = false) → Q (.ref p) H2) → tSortLam K P KF yv j tl σ H1 Q := fun H1 e Q q =>
  ⟨hj, h H1 e _ fun vs H2 e2 r => by
    obtain ⟨_, rfl, L, us, rfl, hL, hus⟩ := All.l1 r
    exact ⟨L, us, xs, rfl, SqL.of hL, hus, e2.tabs _ (e.tabs _ hT), fun p ws H3 ys hp e3 h3 r3 hp3 ho3 => q p ys ws H3 (e2.fresh hp) (e2.trans e3) h3 r3 hp3 ho3⟩⟩
end
end SP
end
section
set_option Elab.async false
set_option linter.all false
set_option maxRecDepth 100000
set_option maxHeartbeats 4000000
namespace SP
open PySem PySem.Spec PyProof.Rows L2
section
variable {K : PySem.W.Frag} {σ : L2.St} {H H' : Hp} {ta tb te tc td ty tk tv tx : TE} {t u : TA} {R Ra Rb : RS} {Rs Ss : List RS} {x y : Pt} {i j : Int} {n : Nat} {v : V}
theorem ev_mod (ha : Ev ta σ H (IsI i)) (hb : Ev tb σ H (IsI j)) (hj : 0 < j) : Ev (tOp (rI (fun _ j => 0 < j) fun i j => .int (i % j)) ta tb) σ H (IsI (i % j)) := ev_I ha hb hj
theorem ev_mul (ha : Ev ta σ H (IsI i)) (hb : Ev tb σ H (IsI j)) (hj : CMul i j) : Ev (tOp (rI CMul fun i j => .int (i * j)) ta tb) σ H (IsI (i * j)) := ev_I ha hb hj
theorem ev_fdiv (ha : Ev ta σ H (IsI i)) (hb : Ev tb σ H (IsI j)) (hj : CDiv i j) : Ev (tOp (rI CDiv fun i j => .int (i / j)) ta tb) σ H (IsI (i / j)) := ev_I ha hb hj
theorem ev_len (h : EvA t σ H [R]) (k : ∀ v H1, R v H1 → LenV K v H1 n) : Ev (tCB (fun xs H Q => ∃ x n, xs = [x] ∧ LenV K x H n ∧ Q (.int n) H) t) σ H (IsI n) :=
  ev_cb h fun vs H1 e r Q q => by
    obtain ⟨v, rfl, rv⟩ := All.l1 r
    exact ⟨v, n, rfl, k v H1 rv, q _ H1 (Ext.refl _) rfl⟩
theorem len_lst {v : V} {H1 : Hp} (h : lstR Rs v H1) : LenV K v H1 Rs.length := by
  obtain ⟨a, vs, rfl, h1, r⟩ := h
  exact .inl ⟨vs, SqL.of h1, r.length.symm⟩
theorem len_tup {v : V} {H1 : Hp} (h : tupF Rs v H1) : LenV K v H1 Rs.length := by
  obtain ⟨a, vs, rfl, h1, r⟩ := h
  exact .inr ⟨vs, .inl h1, r.length.symm⟩
theorem len_pt {v : V} {H1 : Hp} (h : ptR x v H1) : LenV K v H1 x.length := by
  obtain ⟨a, rfl, h1⟩ := h
  exact .inr ⟨_, SqT.of h1, by rw [List.length_map]⟩
theorem len_str {z : Str} (hz : z.length ≤ sizeLine) {v : V} {H1 : Hp} (h : Is (.str z) v H1) : LenV K v H1 z.length := by
  obtain rfl : v = .str z := h
  exact ⟨hz, rfl⟩
theorem atI_nat {α : Type} {xs : List α} {i : Nat} (h : i < xs.length) : atI xs (i : Int) = xs[i]? := by
  unfold atI ixN
  rw [if_pos (by omega), if_pos (by omega)]
  rfl
theorem atI_last {α : Type} {xs : List α} (h : xs ≠ []) : atI xs (-1) = xs[xs.length - 1]? := by
  have hl : 0 < xs.length := List.length_pos_iff.mpr h
  unfold atI ixN
  rw [if_neg (by omega), if_pos (by omega)]
  show xs[(-1 + (xs.length : Int)).toNat]? = _
  congr 1
  omega
theorem ev_ixL [AllM Rs] (ha : Ev ta σ H (lstR Rs)) (hb : Ev tb σ H (IsI n)) (hn : Rs[n]? = some R) : Ev (tOp (rIxL K) ta tb) σ H R :=
  ev_op ha hb fun x y H1 e rx ry Q q => by
    obtain ⟨a, vs, rfl, h1, r⟩ := rx
    obtain rfl : y = .int n := ry
    obtain ⟨v, hv, rv⟩ := r.get hn
    exact ⟨a, vs, n, v, rfl, rfl, SqL.of h1, by rw [atI_nat (List.getElem?_eq_some_iff.mp hv).1]; exact hv, q v H1 (Ext.refl _) rv⟩
theorem ev_ixT [AllT Rs] (ha : Ev ta σ H (tupF Rs)) (hb : Ev tb σ H (IsI n)) (hn : Rs[n]? = some R) : Ev (tOp (rIxT K) ta tb) σ H R :=
  ev_op ha hb fun x y H1 e rx ry Q q => by
    obtain ⟨a, vs, rfl, h1, r⟩ := rx
    obtain rfl : y = .int n := ry
    obtain ⟨v, hv, rv⟩ := r.get hn
    exact ⟨a, vs, n, v, rfl, rfl, .inl h1, by rw [atI_nat (List.getElem?_eq_some_iff.mp hv).1]; exact hv, q v H1 (Ext.refl _) rv⟩
theorem ev_ixTM [AllM Rs] (ha : Ev ta σ H (tupR Rs)) (hb : Ev tb σ H (IsI n)) (hn : Rs[n]? = some R) : Ev (tOp (rIxT K) ta tb) σ H R :=
  ev_op ha hb fun x y H1 e rx ry Q q => by
    obtain ⟨a, vs, rfl, h1, r⟩ := rx
    obtain rfl : y = .int n := ry
    obtain ⟨v, hv, rv⟩ := r.get hn
    exact ⟨a, vs, n, v, rfl, rfl, SqT.of h1, by rw [atI_nat (List.getElem?_eq_some_iff.mp hv).1]; exact hv, q v H1 (Ext.refl _) rv⟩
theorem ev_ixP (ha : Ev ta σ H (ptR x)) (hb : Ev tb σ H (IsI n)) (hn : x[n]? = some i) : Ev (tOp (rIxT K) ta tb) σ H (IsI i) :=
  ev_op ha hb fun x' y H1 e rx ry Q q => by
    obtain ⟨a, rfl, h1⟩ := rx
    obtain rfl : y = .int n := ry
    have hl : n < (x.map V.int).length := by rw [List.length_map]; exact (List.getElem?_eq_some_iff.mp hn).1
    exact ⟨a, _, n, .int i, rfl, rfl, SqT.of h1, by rw [atI_nat hl, List.getElem?_map, hn]; rfl, q _ H1 (Ext.refl _) rfl⟩
theorem ev_ixS {z : Str} {c : Nat} (hz : z.length ≤ sizeLine) (ha : Ev ta σ H (Is (.str z))) (hb : Ev tb σ H (IsI n)) (hn : z.cps.toList[n]? = some c) : Ev (tOp rIxS ta tb) σ H (Is (.str ⟨#[c]⟩)) :=
  ev_op ha hb fun x y H1 e rx ry Q q => by
    obtain rfl : x = .str z := rx
    obtain rfl : y = .int n := ry
    exact ⟨z, n, c, rfl, rfl, hz, by rw [atI_nat (List.getElem?_eq_some_iff.mp hn).1]; exact hn, q _ H1 (Ext.refl _) rfl⟩
theorem ev_catP (ha : Ev ta σ H (ptR x)) (hb : Ev tb σ H (ptR y)) (hz : x.length + y.length ≤ sizeLine) : Ev (tOp (rCatA K) ta tb) σ H (ptR (x ++ y)) :=
  ev_op ha hb fun x' y' H1 e rx ry Q q => by
    obtain ⟨a, rfl, h1⟩ := rx
    obtain ⟨b, rfl, h2⟩ := ry
    refine ⟨a, b, _, _, rfl, rfl, SqT.of h1, SqT.of h2, by rw [List.length_map, List.length_map]; exact hz, fun z => ?_, fun _ z => ?_, fun _ _ p hp => ?_⟩
    · have : x = [] := List.map_eq_nil_iff.mp z
      subst this
      exact q _ H1 (Ext.refl _) ⟨b, rfl, h2⟩
    · have : y = [] := List.map_eq_nil_iff.mp z
      subst this
      rw [List.append_nil] at q
      exact q _ H1 (Ext.refl _) ⟨a, rfl, h1⟩
    · rw [← List.map_append]
      exact q _ _ (Ext.new _ hp) ⟨p, rfl, upd_same⟩
theorem ev_catT [AllT Rs] [AllT Ss] (ha : Ev ta σ H (tupF Rs)) (hb : Ev tb σ H (tupF Ss)) (hz : Rs.length + Ss.length ≤ sizeLine) : Ev (tOp (rCatA K) ta tb) σ H (tupF (Rs ++ Ss)) :=
  ev_op ha hb fun x' y' H1 e rx ry Q q => by
    obtain ⟨a, vs, rfl, h1, r1⟩ := rx
    obtain ⟨b, ws, rfl, h2, r2⟩ := ry
    refine ⟨a, b, _, _, rfl, rfl, .inl h1, .inl h2, by rw [r1.length, r2.length]; exact hz, fun z => ?_, fun _ z => ?_, fun _ _ p hp => ?_⟩
    · subst z
      have : Rs = [] := List.length_eq_zero_iff.mp (by rw [← r1.length]; rfl)
      subst this
      exact q _ H1 (Ext.refl _) ⟨b, ws, rfl, h2, r2⟩
    · subst z
      have : Ss = [] := List.length_eq_zero_iff.mp (by rw [← r2.length]; rfl)
      subst this
      rw [List.append_nil] at q
      exact q _ H1 (Ext.refl _) ⟨a, vs, rfl, h1, r1⟩
    · have e2 : Ext H1 (upd H1 p (.tup (vs ++ ws))) := Ext.new _ hp
      exact q _ _ e2 ⟨p, _, rfl, .inl upd_same, All.app (r1.upT e2.t) (r2.upT e2.t)⟩
theorem ev_catL [AllM Rs] [AllM Ss] (ha : Ev ta σ H (lstR Rs)) (hb : Ev tb σ H (lstR Ss)) (hz : Rs.length + Ss.length ≤ sizeLine) : EvN (tOp rCat ta tb) σ H (Rs ++ Ss) := fun H1 e Q q =>
  ha H1 e _ fun x H2 e2 rx => hb H2 (e.trans e2) _ fun y H3 e3 ry => by
    have rx' : lstR Rs x H3 := Mono.up e3 rx
    obtain ⟨a, vs, rfl, h1, r1⟩ := rx'
    obtain ⟨b, ws, rfl, h2, r2⟩ := ry
    refine ⟨a, b, vs, ws, rfl, rfl, h1, h2, by rw [r1.length, r2.length]; exact hz, fun p hp => ?_⟩
    have e4 : Ext H3 (upd H3 p (.lst (vs ++ ws))) := Ext.new _ hp
    exact q p _ _ ((e2.trans e3).fresh hp) ((e2.trans e3).trans e4) upd_same (All.app (r1.up e4) (r2.up e4))
def EvO (to : TO) (σ : L2.St) (H : Hp) (o : Option Int) : Prop := ∀ H1, Ext H H1 → ∀ Q : Option Int → Hp → Prop, (∀ H2, Ext H1 H2 → Q o H2) → to σ H1 Q
theorem eo_none : EvO tNoPart σ H none := fun H1 e Q q => q H1 (Ext.refl _)
theorem eo_some (h : Ev te σ H (IsI i)) : EvO (tPart te) σ H (some i) := fun H1 e Q q => h H1 e _ fun v H2 e2 rv => ⟨i, rv, q H2 e2⟩
theorem All.drop {H : Hp} : ∀ {Rs : List RS} {vs : List V} (n : Nat), All Rs vs H → All (Rs.drop n) (vs.drop n) H
  | _, _, 0, r => by rw [List.drop_zero, List.drop_zero]; exact r
  | [], _, _ + 1, .nil => by rw [List.drop_nil, List.drop_nil]; exact .nil
  | _ :: _, _ :: _, n + 1, .cons _ t => by rw [List.drop_succ_cons, List.drop_succ_cons]; exact All.drop n t
theorem All.take {H : Hp} : ∀ {Rs : List RS} {vs : List V} (n : Nat), All Rs vs H → All (Rs.take n) (vs.take n) H
  | _, _, 0, _ => by rw [List.take_zero, List.take_zero]; exact .nil
  | [], _, _ + 1, .nil => by rw [List.take_nil, List.take_nil]; exact .nil
  | _ :: _, _ :: _, n + 1, .cons a t => by rw [List.take_succ_cons, List.take_succ_cons]; exact .cons a (All.take n t)
def cutL {α : Type} (xs : List α) (lo hi : Option Int) : List α := (xs.drop (HT.sIx xs.length 0 lo)).take (HT.sIx xs.length xs.length hi - HT.sIx xs.length 0 lo)
theorem cut_all {H : Hp} {vs : List V} {lo hi : Option Int} (r : All Rs vs H) : All (cutL Rs lo hi) (cutV vs lo hi) H := by
  show All _ ((vs.drop _).take _) H
  unfold cutL
  rw [← r.length]
  exact All.take _ (All.drop _ r)
theorem ev_slL [AllM Rs] {tl th : TO} {lo hi : Option Int} (ha : Ev ta σ H (lstR Rs)) (h1 : EvO tl σ H lo) (h2 : EvO th σ H hi) (hm : AllM (cutL Rs lo hi)) : EvN (tSl (rSlL K) ta tl th) σ H (cutL Rs lo hi) := fun H1 e Q q =>
  ha H1 e _ fun x H2 e2 rx => h1 H2 (e.trans e2) _ fun H3 e3 => h2 H3 ((e.trans e2).trans e3) _ fun H4 e4 => by
    have rx' : lstR Rs x H4 := Mono.up (e3.trans e4) rx
    obtain ⟨a, vs, rfl, h5, r⟩ := rx'
    refine ⟨a, vs, rfl, SqL.of h5, fun p hp => ?_⟩
    have e5 : Ext H4 (upd H4 p (.lst (cutV vs lo hi))) := Ext.new _ hp
    exact q p _ _ (((e2.trans e3).trans e4).fresh hp) (((e2.trans e3).trans e4).trans e5) upd_same (All.up e5 (cut_all r))
theorem cutL_whole {α : Type} {xs : List α} {lo hi : Option Int} (h : HT.sIx xs.length 0 lo = 0 ∧ HT.sIx xs.length xs.length hi = xs.length) : cutL xs lo hi = xs := by
  unfold cutL
  rw [h.1, h.2, List.drop_zero, Nat.sub_zero, List.take_length]
theorem ev_slT [AllT Rs] {tl th : TO} {lo hi : Option Int} (ha : Ev ta σ H (tupF Rs)) (h1 : EvO tl σ H lo) (h2 : EvO th σ H hi) (hm : AllT (cutL Rs lo hi)) : Ev (tSl (rSlA K) ta tl th) σ H (tupF (cutL Rs lo hi)) := fun H1 e Q q =>
  ha H1 e _ fun x H2 e2 rx => h1 H2 (e.trans e2) _ fun H3 e3 => h2 H3 ((e.trans e2).trans e3) _ fun H4 e4 => by
    have rx' : tupF Rs x H4 := Mono.up (e3.trans e4) rx
    obtain ⟨a, vs, rfl, h5, r⟩ := rx'
    refine ⟨a, vs, rfl, .inl h5, fun z => ?_, fun z p hp => ?_⟩
    · refine q _ H4 ((e2.trans e3).trans e4) ⟨a, vs, rfl, h5, ?_⟩
      rw [cutL_whole (by rw [← r.length]; exact z)]
      exact r
    · have e5 : Ext H4 (upd H4 p (.tup (cutV vs lo hi))) := Ext.new _ hp
      exact q _ _ (((e2.trans e3).trans e4).trans e5) ⟨p, _, rfl, .inl upd_same, All.upT e5.t (cut_all r)⟩
theorem cutV_map (z : Pt) (lo hi : Option Int) : cutV (z.map V.int) lo hi = (cutL z lo hi).map V.int := by
  show ((z.map V.int).drop _).take _ = _
  unfold cutL
  rw [List.length_map, List.map_take, List.map_drop]
theorem ev_slP {tl th : TO} {lo hi : Option Int} (ha : Ev ta σ H (ptR x)) (h1 : EvO tl σ H lo) (h2 : EvO th σ H hi) : Ev (tSl (rSlA K) ta tl th) σ H (ptR (cutL x lo hi)) := fun H1 e Q q =>
  ha H1 e _ fun x' H2 e2 rx => h1 H2 (e.trans e2) _ fun H3 e3 => h2 H3 ((e.trans e2).trans e3) _ fun H4 e4 => by
    have rx' : ptR x x' H4 := Mono.up (e3.trans e4) rx
    obtain ⟨a, rfl, h5⟩ := rx'
    refine ⟨a, _, rfl, SqT.of h5, fun z => ?_, fun z p hp => ?_⟩
    · rw [List.length_map] at z
      refine q _ H4 ((e2.trans e3).trans e4) ⟨a, rfl, ?_⟩
      rw [cutL_whole z]
      exact h5
    · rw [cutV_map]
      exact q _ _ (((e2.trans e3).trans e4).trans (Ext.new _ hp)) ⟨p, rfl, upd_same⟩
theorem ev_revL [AllM Rs] (hm : AllM Rs.reverse) (ha : Ev ta σ H (lstR Rs)) : EvN (tRevL K ta) σ H Rs.reverse := fun H1 e Q q =>
  ha H1 e _ fun x H2 e2 rx => by
    obtain ⟨a, vs, rfl, h5, r⟩ := rx
    refine ⟨a, vs, rfl, SqL.of h5, fun p hp => ?_⟩
    have e5 : Ext H2 (upd H2 p (.lst vs.reverse)) := Ext.new _ hp
    have q2 : ∀ {Rs : List RS} {vs : List V}, All Rs vs H2 → All Rs.reverse vs.reverse H2 := by
      intro Rs vs r
      induction r with
      | nil => exact .nil
      | cons a t ih => rw [List.reverse_cons, List.reverse_cons]; exact All.snoc ih a
    exact q p _ _ (e2.fresh hp) (e2.trans e5) upd_same (All.up e5 (q2 r))
theorem ev_sum {ns : List Int} (h : EvA t σ H [lstR (ns.map IsI)]) : Ev (tCB (rSum K) t) σ H (IsI ns.sum) :=
  ev_cb h fun vs H1 e r Q q => by
    obtain ⟨v, rfl, a, us, rfl, h1, r1⟩ := All.l1 r
    rw [r1.ints] at h1
    exact ⟨a, ns, rfl, SqL.of h1, q _ H1 (Ext.refl _) rfl⟩
theorem ev_sumP (h : EvA t σ H [ptR x]) : Ev (tCB (rSumT K) t) σ H (IsI x.sum) :=
  ev_cb h fun vs H1 e r Q q => by
    obtain ⟨v, rfl, a, rfl, h1⟩ := All.l1 r
    exact ⟨a, x, rfl, SqT.of h1, q _ H1 (Ext.refl _) rfl⟩
theorem All.bls {H : Hp} : ∀ {bs : List Bool} {vs : List V}, All (bs.map IsB) vs H → vs = bs.map V.bl
  | [], _, .nil => rfl
  | b :: bs, _, .cons a t => by
    have e := All.bls t
    rw [show _ = V.bl b from a, e]
    rfl
theorem ev_all {bs : List Bool} (h : EvA t σ H [lstR (bs.map IsB)]) : Ev (tCB (rAll K) t) σ H (IsB (bs.all id)) :=
  ev_cb h fun vs H1 e r Q q => by
    obtain ⟨v, rfl, a, us, rfl, h1, r1⟩ := All.l1 r
    rw [All.bls r1] at h1
    exact ⟨a, bs, rfl, SqL.of h1, q _ H1 (Ext.refl _) rfl⟩
theorem ev_any {bs : List Bool} (h : EvA t σ H [lstR (bs.map IsB)]) : Ev (tCB (rAny K) t) σ H (IsB (bs.any id)) :=
  ev_cb h fun vs H1 e r Q q => by
    obtain ⟨v, rfl, a, us, rfl, h1, r1⟩ := All.l1 r
    rw [All.bls r1] at h1
    exact ⟨a, bs, rfl, SqL.of h1, q _ H1 (Ext.refl _) rfl⟩
theorem ev_anyI {ns : List Int} (h : EvA t σ H [lstR (ns.map IsI)]) : Ev (tCB (rAnyI K) t) σ H (IsB (ns.any (· != 0))) :=
  ev_cb h fun vs H1 e r Q q => by
    obtain ⟨v, rfl, a, us, rfl, h1, r1⟩ := All.l1 r
    rw [r1.ints] at h1
    exact ⟨a, ns, rfl, SqL.of h1, q _ H1 (Ext.refl _) rfl⟩
theorem ev_tupOf [AllT Rs] (h : EvA t σ H [lstR Rs]) : Ev (tCB (fun xs H Q => ∃ p ys, xs = [.ref p] ∧ ((SqL K H p ys ∧ ∀ l, H l = none → Q (.ref l) (upd H l (.tup ys))) ∨ (SqT K H p ys ∧ Q (.ref p) H))) t) σ H (tupR Rs) :=
  ev_cb h fun vs H1 e r Q q => by
    obtain ⟨v, rfl, a, us, rfl, h1, r1⟩ := All.l1 r
    refine ⟨a, us, rfl, .inl ⟨SqL.of h1, fun l hl => ?_⟩⟩
    have e5 : Ext H1 (upd H1 l (.tup us)) := Ext.new _ hl
    exact q _ _ e5 ⟨l, us, rfl, upd_same, r1.upT e5.t⟩
theorem ev_tupP (h : EvA t σ H [lstR (x.map IsI)]) : Ev (tCB (fun xs H Q => ∃ p ys, xs = [.ref p] ∧ ((SqL K H p ys ∧ ∀ l, H l = none → Q (.ref l) (upd H l (.tup ys))) ∨ (SqT K H p ys ∧ Q (.ref p) H))) t) σ H (ptR x) :=
  Ev.imp (ev_tupOf h) fun v H1 e r => ptR_of r
theorem ev_tupOfZ [AllT Rs] (h : EvA t σ H [lstR Rs]) : Ev (tCB (fun xs H Q => ∃ p ys, xs = [.ref p] ∧ SqL K H p ys ∧ ∀ l o, H l = none → o.dict = none → Q (.ref l) (upd H l (.frz o (.tup ys)))) t) σ H (tupZ Rs) :=
  ev_cb h fun vs H1 e r Q q => by
    obtain ⟨v, rfl, a, us, rfl, h1, r1⟩ := All.l1 r
    refine ⟨a, us, rfl, SqL.of h1, fun l o hl ho => ?_⟩
    have e5 : Ext H1 (upd H1 l (.frz o (.tup us))) := Ext.new _ hl
    exact q _ _ e5 ⟨l, o, us, rfl, upd_same, ho, r1.upT e5.t⟩
theorem ev_lstOf [AllM Rs] (h : EvA t σ H [lstR Rs]) : EvN (tCB (fun xs H Q => ∃ p ys, xs = [.ref p] ∧ (SqL K H p ys ∨ SqT K H p ys) ∧ ∀ l, H l = none → Q (.ref l) (upd H l (.lst ys))) t) σ H Rs := fun H1 e Q q =>
  h H1 e _ fun vs H2 e2 r => by
    obtain ⟨v, rfl, a, us, rfl, h1, r1⟩ := All.l1 r
    refine ⟨a, us, rfl, .inl (SqL.of h1), fun l hl => ?_⟩
    have e5 : Ext H2 (upd H2 l (.lst us)) := Ext.new _ hl
    exact q _ _ _ (e2.fresh hl) (e2.trans e5) upd_same (r1.up e5)
theorem ev_lstOfD {kvs : List (Pt × V)} (h : EvA t σ H [dR kvs]) : EvN (tCB (fun xs H Q => ∃ d kvs, xs = [V.ref d] ∧ Rd H d (.dT kvs) ∧ ∀ p bs, H p = none → IsKeys H kvs bs → Q (.ref p) (upd H p (.lst (bs.map V.ref)))) t) σ H ((kvs.map (·.1)).map ptR) := fun H1 e Q q =>
  h H1 e _ fun vs H2 e2 r => by
    obtain ⟨v, rfl, a, rfl, h1⟩ := All.l1 r
    refine ⟨a, _, rfl, .inl h1, fun p bs hp hk => ?_⟩
    have e5 : Ext H2 (upd H2 p (.lst (bs.map V.ref))) := Ext.new _ hp
    refine q _ _ _ (e2.fresh hp) (e2.trans e5) upd_same ?_
    have q2 : ∀ {kvs : List (Pt × V)} {bs : List Addr}, IsKeys H2 (kvs.map fun t => (kI t.1, t.2)) bs → All ((kvs.map (·.1)).map ptR) (bs.map V.ref) H2 := by
      intro kvs
      induction kvs with
      | nil => intro bs h; cases h; exact .nil
      | cons t kvs ih =>
        intro bs h
        cases h with
        | cons a t' =>
          have a' : H2 _ = some (.tup ((kI t.1).map kV)) := a
          rw [kI_kV] at a'
          exact .cons ⟨_, rfl, a'⟩ (ih t')
    exact All.up e5 (q2 hk)
theorem dp_ints {H1 : Hp} : ∀ x : Pt, DpAll K H1 (x.map V.int) (x.map .int)
  | [] => .nil
  | a :: x => .cons (.int a) (dp_ints x)
theorem dp_pt {v : V} {H1 : Hp} (h : ptR x v H1) : Dp K H1 v (tupD x) := by
  obtain ⟨a, rfl, h1⟩ := h
  exact .tup (SqT.of h1) (dp_ints x)
theorem can_ints : ∀ x : Pt, PyData.canLayAll0 (x.map .int) = true
  | [] => rfl
  | a :: x => by
    show (PyData.canLay0 (.int a) && PyData.canLayAll0 (x.map .int)) = true
    rw [can_ints x]
    rfl
theorem shaped_pt (x : Pt) : SeqAt.shaped (tupD x) = true := by
  unfold SeqAt.shaped
  rw [Bool.and_eq_true]
  exact ⟨can_ints x, decide_eq_true (Nat.le_trans (depth_tup x) (by decide))⟩
theorem eqv_pt (x y : Pt) : PyData.eqv (tupD x) (tupD y) = decide (x = y) := by
  have q : ∀ x y : Pt, PyData.eqvAll (x.map .int) (y.map .int) = decide (x = y) := by
    intro x
    induction x with
    | nil => intro y; cases y <;> simp [PyData.eqvAll]
    | cons a x ih =>
      intro y
      cases y with
      | nil => simp [PyData.eqvAll]
      | cons b y =>
        simp only [List.map_cons, PyData.eqvAll, ih]
        rw [Bool.eq_iff_iff]
        simp [PyData.eqv]
  exact q x y
theorem ev_eqP (ha : Ev ta σ H (ptR x)) (hb : Ev tb σ H (ptR y)) : Ev (tOp (rEqD K) ta tb) σ H (IsB (decide (x = y))) :=
  ev_op ha hb fun x' y' H1 e rx ry Q q => ⟨tupD x, tupD y, dp_pt rx, dp_pt ry, shaped_pt x, shaped_pt y, by rw [eqv_pt]; exact q _ H1 (Ext.refl _) rfl⟩
theorem dp_pts {H1 : Hp} : ∀ {xs : List Pt} {vs : List V}, All (xs.map ptR) vs H1 → DpAll K H1 vs (xs.map tupD)
  | [], _, .nil => .nil
  | _ :: _, _, .cons a t => .cons (dp_pt a) (dp_pts t)
theorem can_pts : ∀ xs : List Pt, PyData.canLayAll0 (xs.map tupD) = true
  | [] => rfl
  | x :: xs => by
    show (PyData.canLayAll0 (x.map .int) && PyData.canLayAll0 (xs.map tupD)) = true
    rw [can_pts xs, can_ints]
    rfl
theorem depth_pts : ∀ xs : List Pt, PyData.depthAll (xs.map tupD) ≤ 1
  | [] => by simp [PyData.depthAll]
  | x :: xs => by
    show max (tupD x).depth (PyData.depthAll (xs.map tupD)) ≤ 1
    exact Nat.max_le.mpr ⟨depth_tup x, depth_pts xs⟩
theorem shaped_pts (xs : List Pt) : SeqAt.shaped (.list (xs.map tupD)) = true := by
  unfold SeqAt.shaped
  rw [Bool.and_eq_true]
  refine ⟨can_pts xs, decide_eq_true ?_⟩
  have := depth_pts xs
  show PyData.depthAll (xs.map tupD) + 1 ≤ 64
  omega
theorem any_pts (xs : List Pt) (x : Pt) : ((xs.map tupD).any fun z => PyData.eqv z (tupD x)) = decide (x ∈ xs) := by
  rw [List.any_map, Bool.eq_iff_iff, List.any_eq_true, decide_eq_true_eq]
  constructor
  · rintro ⟨z, hz, e⟩
    have e' : PyData.eqv (tupD z) (tupD x) = true := e
    rw [eqv_pt] at e'
    rw [← of_decide_eq_true e']
    exact hz
  · intro h
    refine ⟨x, h, ?_⟩
    show PyData.eqv (tupD x) (tupD x) = true
    rw [eqv_pt]
    exact decide_eq_true rfl
theorem ev_inP {xs : List Pt} (ha : Ev ta σ H (ptR x)) (hb : Ev tb σ H (lstR (xs.map ptR))) : Ev (tOp (rInD K) ta tb) σ H (IsB (decide (x ∈ xs))) :=
  ev_op ha hb fun x' y' H1 e rx ry Q q => by
    obtain ⟨a, vs, rfl, h1, r⟩ := ry
    exact ⟨tupD x, _, dp_pt rx, .lst (SqL.of h1) (dp_pts r), shaped_pt x, shaped_pts xs, by rw [any_pts]; exact q _ H1 (Ext.refl _) rfl⟩
theorem ev_notInP {xs : List Pt} (ha : Ev ta σ H (ptR x)) (hb : Ev tb σ H (lstR (xs.map ptR))) : Ev (tOp (rNotInD K) ta tb) σ H (IsB (!decide (x ∈ xs))) :=
  ev_op ha hb fun x' y' H1 e rx ry Q q => by
    obtain ⟨a, vs, rfl, h1, r⟩ := ry
    exact ⟨tupD x, _, dp_pt rx, .lst (SqL.of h1) (dp_pts r), shaped_pt x, shaped_pts xs, by rw [any_pts]; exact q _ H1 (Ext.refl _) rfl⟩
abbrev pairR (t : Pt × Int) : RS := tupR [ptR t.1, IsI t.2]
abbrev polyD (f : Poly) : PyData := .tuple (f.map fun t => .tuple [tupD t.1, .int t.2])
theorem dp_pair {t : Pt × Int} {v : V} {H1 : Hp} (h : pairR t v H1) : Dp K H1 v (.tuple [tupD t.1, .int t.2]) := by
  obtain ⟨a, vs, rfl, h1, r⟩ := h
  obtain ⟨x, y, rfl, hx, hy⟩ := All.l2 r
  obtain rfl : y = .int t.2 := hy
  exact .tup (SqT.of h1) (.cons (dp_pt hx) (.cons (.int _) .nil))
theorem dp_poly {f : Poly} {v : V} {H1 : Hp} (h : tupF (f.map pairR) v H1) : Dp K H1 v (polyD f) := by
  obtain ⟨a, vs, rfl, h1, r⟩ := h
  refine .tup (.inl h1) ?_
  have q : ∀ {f : Poly} {vs : List V}, All (f.map pairR) vs H1 → DpAll K H1 vs (f.map fun t => .tuple [tupD t.1, .int t.2]) := by
    intro f
    induction f with
    | nil => intro vs r; cases r; exact .nil
    | cons t f ih => intro vs r; cases r with | cons a t' => exact .cons (dp_pair a) (ih t')
  exact q r
theorem shaped_poly (f : Poly) : SeqAt.shaped (polyD f) = true := by
  unfold SeqAt.shaped
  rw [Bool.and_eq_true]
  have q1 : ∀ f : Poly, PyData.canLayAll0 (f.map fun t => .tuple [tupD t.1, .int t.2]) = true := by
    intro f
    induction f with
    | nil => rfl
    | cons t f ih =>
      show ((PyData.canLayAll0 (t.1.map .int) && (true && true)) && PyData.canLayAll0 (f.map fun t => .tuple [tupD t.1, .int t.2])) = true
      rw [ih, can_ints]
      rfl
  have q2 : ∀ f : Poly, PyData.depthAll (f.map fun t => .tuple [tupD t.1, .int t.2]) ≤ 2 := by
    intro f
    induction f with
    | nil => simp [PyData.depthAll]
    | cons t f ih =>
      show max (max (tupD t.1).depth (max (PyData.depth (.int t.2)) 0) + 1) (PyData.depthAll (f.map fun t => .tuple [tupD t.1, .int t.2])) ≤ 2
      have h1 := depth_tup t.1
      have h0 : PyData.depth (.int t.2) = 0 := by simp [PyData.depth]
      rw [h0]
      omega
  refine ⟨q1 f, decide_eq_true ?_⟩
  have := q2 f
  show PyData.depthAll _ + 1 ≤ 64
  omega
theorem eqv_poly (f g : Poly) : PyData.eqv (polyD f) (polyD g) = decide (f = g) := by
  have q : ∀ f g : Poly, PyData.eqvAll (f.map fun t => .tuple [tupD t.1, .int t.2]) (g.map fun t => .tuple [tupD t.1, .int t.2]) = decide (f = g) := by
    intro f
    induction f with
    | nil => intro g; cases g <;> simp [PyData.eqvAll]
    | cons a f ih =>
      intro g
      cases g with
      | nil => simp [PyData.eqvAll]
      | cons b g =>
        simp only [List.map_cons, PyData.eqvAll, ih]
        have e : PyData.eqv (.tuple [tupD a.1, .int a.2]) (.tuple [tupD b.1, .int b.2]) = (decide (a.1 = b.1) && decide (a.2 = b.2)) := by
          show (PyData.eqv (tupD a.1) (tupD b.1) && (PyData.eqv (.int a.2) (.int b.2) && true)) = _
          rw [eqv_pt, Bool.and_true]
          congr 1
        rw [e, Bool.eq_iff_iff]
        simp [Prod.ext_iff]
  exact q f g
theorem ev_eqPoly {f g : Poly} (ha : Ev ta σ H (tupF (f.map pairR))) (hb : Ev tb σ H (tupF (g.map pairR))) : Ev (tOp (rEqD K) ta tb) σ H (IsB (decide (f = g))) :=
  ev_op ha hb fun x' y' H1 e rx ry Q q => ⟨polyD f, polyD g, dp_poly rx, dp_poly ry, shaped_poly f, shaped_poly g, by rw [eqv_poly]; exact q _ H1 (Ext.refl _) rfl⟩
theorem ev_geP (ha : Ev ta σ H (ptR x)) (hb : Ev tb σ H (ptR y)) (hl : x.length = y.length) : Ev (tOp (rGeT K) ta tb) σ H (IsB (!lexLt x y)) :=
  ev_op ha hb fun x' y' H1 e rx ry Q q => by
    obtain ⟨a, rfl, h1⟩ := rx
    obtain ⟨b, rfl, h2⟩ := ry
    exact ⟨a, b, x, y, rfl, rfl, SqT.of h1, SqT.of h2, hl, q _ H1 (Ext.refl _) rfl⟩
theorem ev_ltP (ha : Ev ta σ H (ptR x)) (hb : Ev tb σ H (ptR y)) : Ev (tOp (rLtT K) ta tb) σ H (IsB (lexLt x y)) :=
  ev_op ha hb fun x' y' H1 e rx ry Q q => by
    obtain ⟨a, rfl, h1⟩ := rx
    obtain ⟨b, rfl, h2⟩ := ry
    exact ⟨a, b, x, y, rfl, rfl, SqT.of h1, SqT.of h2, by rw [lexLt_HT]; exact q _ H1 (Ext.refl _) rfl⟩
theorem ev_repP (ha : Ev ta σ H (ptR [i])) (hb : Ev tb σ H (IsI n)) (h1 : 1 ≤ n) (h2 : n ≤ 1000) : Ev (tOp (rRepA K) ta tb) σ H (ptR (List.replicate n i)) :=
  ev_op ha hb fun x' y' H1 e rx ry Q q => by
    obtain ⟨a, rfl, h3⟩ := rx
    obtain rfl : y' = .int n := ry
    refine ⟨a, n, [.int i], rfl, rfl, SqT.of h3, by simp, by omega, by omega, by simp, fun z => ?_, fun z p hp => ?_⟩
    · have : n = 1 := by omega
      subst this
      exact q _ H1 (Ext.refl _) ⟨a, rfl, h3⟩
    · refine q _ _ (Ext.new _ hp) ⟨p, rfl, ?_⟩
      rw [upd_same]
      have e2 : ∀ n : Nat, (List.replicate n [V.int i]).flatten = (List.replicate n i).map V.int := by
        intro n
        induction n with
        | zero => rfl
        | succ n ih => rw [List.replicate_succ, List.replicate_succ, List.flatten_cons, ih]; rfl
      rw [← e2 n, Int.toNat_natCast]
theorem ev_isi {c : V} {u tt : Value} {b : Bool} (h : EvA t σ H [R, Is c]) (hc : ClsV c u) (ht : ∀ v H1, R v H1 → TyX K H1 v tt) (hb : PySem.W.kitOne K tt u = some b) : Ev (tCB (rIsi K) t) σ H (IsB b) :=
  ev_cb h fun vs H1 e r Q q => by
    obtain ⟨v, w, rfl, h1, h2⟩ := All.l2 r
    obtain rfl : w = c := h2
    exact ⟨v, w, tt, u, b, rfl, hc, ht v H1 h1, hb, q _ H1 (Ext.refl _) rfl⟩
theorem ty_lst {v : V} {H1 : Hp} (h : lstR Rs v H1) : TyX K H1 v (.type "list") := by
  obtain ⟨a, vs, rfl, h1, r⟩ := h
  exact .base (.lst h1)
theorem ty_tup {v : V} {H1 : Hp} (h : tupR Rs v H1) : TyX K H1 v (.type "tuple") := by
  obtain ⟨a, vs, rfl, h1, r⟩ := h
  exact .base (.tup h1)
theorem ev_isN (ha : Ev ta σ H (Is v)) : Ev (tOp (fun x y H Q => y = .non ∧ Q (.bl (decide (x = .non))) H) ta (tC .non)) σ H (IsB (decide (v = .non))) :=
  ev_op ha ev_c fun x' y' H1 e rx ry Q q => by
    obtain rfl : x' = v := rx
    exact ⟨ry, q _ H1 (Ext.refl _) rfl⟩
theorem ev_isNR {b : Bool} (ha : Ev ta σ H R) (hb : ∀ v H1, R v H1 → decide (v = .non) = b) [Mono R] : Ev (tOp (fun x y H Q => y = .non ∧ Q (.bl (decide (x = .non))) H) ta (tC .non)) σ H (IsB b) :=
  ev_op (Rb := Is .non) ha ev_c fun x' y' H1 e rx ry Q q => ⟨ry, q _ H1 (Ext.refl _) (by rw [hb x' H1 rx]; rfl)⟩
theorem ev_notNR {b : Bool} (ha : Ev ta σ H R) (hb : ∀ v H1, R v H1 → (!decide (v = .non)) = b) [Mono R] : Ev (tOp (fun x y H Q => y = .non ∧ Q (.bl (!decide (x = .non))) H) ta (tC .non)) σ H (IsB b) :=
  ev_op (Rb := Is .non) ha ev_c fun x' y' H1 e rx ry Q q => ⟨ry, q _ H1 (Ext.refl _) (by rw [hb x' H1 rx]; rfl)⟩
theorem ev_notBl {a b : Bool} (ha : Ev ta σ H (IsB a)) (hb : Ev tb σ H (IsB b)) : Ev (tOp rNotB ta tb) σ H (IsB (!decide (a = b))) :=
  ev_op ha hb fun x' y' H1 e rx ry Q q => ⟨a, b, rx, ry, q _ H1 (Ext.refl _) rfl⟩
theorem ev_inS {c : Nat} {z : Str} (ha : Ev ta σ H (Is (.str ⟨#[c]⟩))) (hb : Ev tb σ H (Is (.str z))) : Ev (tOp rInS ta tb) σ H (IsB (decide (c ∈ z.cps.toList))) :=
  ev_op ha hb fun x' y' H1 e rx ry Q q => ⟨c, z, rx, ry, q _ H1 (Ext.refl _) rfl⟩
theorem ev_notInS {c : Nat} {z : Str} (ha : Ev ta σ H (Is (.str ⟨#[c]⟩))) (hb : Ev tb σ H (Is (.str z))) : Ev (tOp rNotInS ta tb) σ H (IsB (!decide (c ∈ z.cps.toList))) :=
  ev_op ha hb fun x' y' H1 e rx ry Q q => ⟨c, z, rx, ry, q _ H1 (Ext.refl _) rfl⟩
theorem s_aug {D : Ends} {k : Nat} (hk : σ[k]? = some (some (.int i))) (h : Ev te σ H (IsI j)) (q : ∀ H1, Ext H H1 → D.nx (σ.set k (some (.int (i + j)))) H1) : tAug k te (ipI fun i j => i + j) D σ H :=
  ⟨.int i, hk, h H (Ext.refl _) _ fun v H1 e rv => ⟨i, j, rfl, rv, q H1 e⟩⟩
theorem s_ext {D : Ends} {l : Addr} {xs : List V} [AllM Rs] (hl : H l = some (.lst xs)) (ha : Ev ta σ H (Is (.ref l))) (h : EvN te σ H Rs) (hz : xs.length + Rs.length ≤ sizeLine) (hR : AllT Rs) (q : ∀ ws H1, Ext H H1 → All Rs ws H1 → D.nx σ (upd H1 l (.lst (xs ++ ws)))) :
    tDrop (tBM K "list" rExtend ta (tCons te tNil)) D σ H := ha H (Ext.refl _) _ fun x H1 e1 rx => by
  obtain rfl : x = .ref l := rx
  have h1 := e1.at hl
  refine ⟨.inl ⟨rfl, _, SqL.of h1⟩, h H1 e1 _ fun p ws H2 _ e2 h2 r2 => ?_⟩
  exact ⟨l, p, xs, ws, rfl, rfl, e2.at h1, h2, by rw [r2.length]; exact hz, q ws H2 (e1.trans e2) r2⟩
theorem s_next {D : Ends} (h : D.nx σ H) : tNext D σ H := h
end
end SP
end
section
set_option maxRecDepth 100000
namespace SP
section
variable {p n : Nat}
theorem lsum_pts {f : Pt → Int} : lsum (pts p (n + 1)) f = lsum (pts p n) fun r => lsum (upto p) fun a => f (r ++ [a]) := by
  show lsum ((pts p n).flatMap fun r => (upto p).map fun a => r ++ [a]) f = _
  rw [lsum_flatMap]
  exact lsum_congr fun r _ => lsum_map
theorem uni_zero (h : Pr p) {c : Int → Int} (z : ∀ a : Int, 0 ≤ a → a < (p : Int) → Cg p (lsum (upto p) fun e => c e * a ^ e.toNat) 0) {d : Int} (h0 : 0 ≤ d) (h1 : d < p) : Cg p (c d) 0 := by
  have e1 : Cg p (lsum (upto p) fun e => c e * lsum (upto p) fun a => wgt p d a * a ^ e.toNat) (lsum (upto p) fun e => if e = d then c e else 0) := by
    refine lsum_cg fun e he => ?_
    obtain ⟨k0, k1⟩ := mem_upto.mp he
    refine ((Cg.refl (c e)).mul (wgt_there h h0 h1 k0 k1)).trans (Cg.of ?_)
    by_cases q : e = d
    · rw [if_pos q, if_pos q.symm, Int.mul_one]
    · rw [if_neg q, if_neg fun z => q z.symm, Int.mul_zero]
  rw [lsum_one (upto_nodup p) (mem_upto.mpr ⟨h0, h1⟩)] at e1
  refine e1.symm.trans ?_
  have e2 : (lsum (upto p) fun e => c e * lsum (upto p) fun a => wgt p d a * a ^ e.toNat) = lsum (upto p) fun a => wgt p d a * lsum (upto p) fun e => c e * a ^ e.toNat := by
    rw [lsum_congr (g := fun e => lsum (upto p) fun a => wgt p d a * (c e * a ^ e.toNat)) fun e _ => ?_, lsum_comm]
    · exact lsum_congr fun a _ => lsum_mul
    · rw [← lsum_mul]
      exact lsum_congr fun a _ => Int.mul_left_comm _ _ _
  rw [e2]
  refine (lsum_cg (g := fun _ => 0) fun a ha => ?_).trans (Cg.of lsum_zero)
  obtain ⟨k0, k1⟩ := mem_upto.mp ha
  have q := (Cg.refl (wgt p d a)).mul (z a k0 k1)
  rw [Int.mul_zero] at q
  exact q
theorem multi_zero (h : Pr p) : ∀ {n : Nat} {C : Pt → Int}, (∀ x ∈ pts p n, Cg p (lsum (pts p n) fun m => C m * mon m x) 0) → ∀ m ∈ pts p n, Cg p (C m) 0
  | 0, C, z, m, hm => by
    have e := z [] (by simp [pts])
    have em : m = [] := by simpa [pts] using hm
    subst em
    have q : (lsum (pts p 0) fun m => C m * mon m []) = C [] := by
      show lsum [([] : Pt)] _ = _
      rw [lsum_cons, lsum_nil, mon_nil, Int.mul_one, Int.add_zero]
    rw [q] at e
    exact e
  | n + 1, C, z, m, hm => by
    obtain ⟨s, e, rfl, hs, h0, h1⟩ := (mem_pts.mp hm).split
    refine multi_zero h (n := n) (C := fun s => C (s ++ [e])) (fun r hr => ?_) s (mem_pts.mpr hs)
    refine uni_zero h (c := fun e => lsum (pts p n) fun s => C (s ++ [e]) * mon s r) (fun a a0 a1 => ?_) h0 h1
    have q := z (r ++ [a]) (mem_pts.mpr ((mem_pts.mp hr).snoc a0 a1))
    rw [lsum_pts] at q
    refine Cg.trans (Cg.of ?_) q
    rw [lsum_comm]
    refine lsum_congr fun e _ => ?_
    rw [← lsum_mulr]
    refine lsum_congr fun s hs => ?_
    rw [mon_snoc (by rw [(mem_pts.mp hs).1, (mem_pts.mp hr).1]), Int.mul_assoc]
theorem table_numbers (h : Pr p) : ∀ (n : Nat) (T : Pt → Int), ∃ E : Pt → Int, ∀ x ∈ pts p n, Cg p (lsum (pts p n) fun m => E m * mon m x) (T x)
  | 0, T => ⟨T, fun x hx => by
    have ex : x = [] := by simpa [pts] using hx
    subst ex
    show Cg p (lsum [([] : Pt)] fun m => T m * mon m []) (T [])
    rw [lsum_cons, lsum_nil, mon_nil, Int.mul_one, Int.add_zero]
    exact Cg.refl _⟩
  | n + 1, T => by
    obtain ⟨E, hE⟩ := Classical.axiomOfChoice (r := fun (a : Int) (E : Pt → Int) => ∀ x ∈ pts p n, Cg p (lsum (pts p n) fun m => E m * mon m x) (T (x ++ [a]))) fun a => table_numbers h n fun r => T (r ++ [a])
    refine ⟨fun m => lsum (upto p) fun a => wgt p (m.getLastD 0) a * E a m.dropLast, fun x hx => ?_⟩
    obtain ⟨r, b, rfl, hr, b0, b1⟩ := (mem_pts.mp hx).split
    rw [lsum_pts]
    have e1 : (lsum (pts p n) fun s => lsum (upto p) fun e => (lsum (upto p) fun a => wgt p ((s ++ [e]).getLastD 0) a * E a (s ++ [e]).dropLast) * mon (s ++ [e]) (r ++ [b])) =
        lsum (upto p) fun a => (lsum (upto p) fun e => wgt p e a * b ^ e.toNat) * lsum (pts p n) fun s => E a s * mon s r := by
      have e2 : (lsum (pts p n) fun s => lsum (upto p) fun e => (lsum (upto p) fun a => wgt p ((s ++ [e]).getLastD 0) a * E a (s ++ [e]).dropLast) * mon (s ++ [e]) (r ++ [b])) =
          lsum (pts p n) fun s => lsum (upto p) fun a => (lsum (upto p) fun e => wgt p e a * b ^ e.toNat) * (E a s * mon s r) := by
        refine lsum_congr fun s hs => ?_
        rw [lsum_congr (g := fun e => lsum (upto p) fun a => wgt p e a * b ^ e.toNat * (E a s * mon s r)) fun e _ => ?_, lsum_comm]
        · exact lsum_congr fun a _ => lsum_mulr
        · rw [← lsum_mulr]
          refine lsum_congr fun a _ => ?_
          rw [mon_snoc (by rw [(mem_pts.mp hs).1, hr.1]), List.getLastD_concat, List.dropLast_concat]
          simp only [Int.mul_assoc, Int.mul_comm, Int.mul_left_comm]
      rw [e2, lsum_comm]
      exact lsum_congr fun a _ => lsum_mul
    rw [e1]
    have e3 : Cg p (lsum (upto p) fun a => (lsum (upto p) fun e => wgt p e a * b ^ e.toNat) * lsum (pts p n) fun s => E a s * mon s r) (lsum (upto p) fun a => if a = b then T (r ++ [a]) else 0) := by
      refine lsum_cg fun a ha => ?_
      obtain ⟨a0, a1⟩ := mem_upto.mp ha
      refine ((wgt_back h a0 a1 b0 b1).mul (hE a r (mem_pts.mpr hr))).trans (Cg.of ?_)
      by_cases q : a = b
      · rw [if_pos q, if_pos q, Int.one_mul]
      · rw [if_neg q, if_neg q, Int.zero_mul]
    rw [lsum_one (upto_nodup p) (mem_upto.mpr ⟨b0, b1⟩)] at e3
    exact e3
def coef (f : Poly) (m : Pt) : Int := lsum f fun t => if t.1 = m then t.2 else 0
theorem vsum_coef {f : Poly} (hf : ∀ t ∈ f, inSp p n t.1) (x : Pt) : vsum f x = lsum (pts p n) fun m => coef f m * mon m x := by
  unfold coef
  rw [lsum_congr (L := pts p n) (g := fun m => lsum f fun t => (if t.1 = m then t.2 * mon t.1 x else 0)) fun m _ => ?_, lsum_comm]
  · refine lsum_congr fun t ht => ?_
    have q := lsum_one (f := fun m => t.2 * mon m x) (pts_nodup p n) (mem_pts.mpr (hf t ht))
    refine q.symm.trans (lsum_congr fun m _ => ?_)
    by_cases e : m = t.1
    · rw [if_pos e, if_pos e.symm, e]
    · rw [if_neg e, if_neg fun z => e z.symm]
  · rw [← lsum_mulr]
    refine lsum_congr fun t _ => ?_
    by_cases e : t.1 = m
    · rw [if_pos e, if_pos e, e]
    · rw [if_neg e, if_neg e, Int.zero_mul]
theorem coef_cons {t : Pt × Int} {f : Poly} {m : Pt} : coef (t :: f) m = (if t.1 = m then t.2 else 0) + coef f m := lsum_cons
theorem coef_none {f : Poly} {m : Pt} (h : ∀ t ∈ f, t.1 ≠ m) : coef f m = 0 := by
  unfold coef
  rw [lsum_congr (g := fun _ => 0) fun t ht => if_neg (h t ht), lsum_zero]
theorem Canon.tail {t : Pt × Int} {f : Poly} (c : Canon p n (t :: f)) : Canon p n f :=
  ⟨(List.pairwise_cons.mp c.ord).2, fun s hs => c.pow s (List.mem_cons_of_mem _ hs), fun s hs => c.num s (List.mem_cons_of_mem _ hs)⟩
theorem Canon.ahead {t : Pt × Int} {f : Poly} (c : Canon p n (t :: f)) {s : Pt × Int} (hs : s ∈ f) : lexLt s.1 t.1 = true := (List.pairwise_cons.mp c.ord).1 s hs
theorem Canon.coef_head {t : Pt × Int} {f : Poly} (c : Canon p n (t :: f)) : coef (t :: f) t.1 = t.2 := by
  rw [coef_cons, if_pos rfl, coef_none fun s hs e => ?_, Int.add_zero]
  have q := c.ahead hs
  rw [e, lexLt_irrefl] at q
  cases q
theorem Canon.coef_lt {p n : Nat} : ∀ {f : Poly}, Canon p n f → ∀ m, 0 ≤ coef f m ∧ coef f m < p ∨ (f = [] ∧ coef f m = 0)
  | [], _, m => .inr ⟨rfl, rfl⟩
  | t :: f, c, m => by
    have ht := c.num t (List.mem_cons_self ..)
    by_cases e : t.1 = m
    · subst e
      rw [c.coef_head]
      exact .inl ⟨Int.le_of_lt ht.1, ht.2⟩
    · rw [coef_cons, if_neg e, Int.zero_add]
      rcases Canon.coef_lt c.tail m with q | ⟨_, q⟩
      · exact .inl q
      · exact .inl ⟨by rw [q]; exact Int.le_refl 0, by rw [q]; omega⟩
theorem canon_ext {p n : Nat} : ∀ {f g : Poly}, Canon p n f → Canon p n g → (∀ m, coef f m = coef g m) → f = g
  | [], [], _, _, _ => rfl
  | [], t :: g, _, c, h => by
    have q := h t.1
    rw [c.coef_head] at q
    have := (c.num t (List.mem_cons_self ..)).1
    rw [← q, show coef [] t.1 = 0 from rfl] at this
    exact absurd this (Int.lt_irrefl 0)
  | t :: f, [], c, _, h => by
    have q := h t.1
    rw [c.coef_head] at q
    have := (c.num t (List.mem_cons_self ..)).1
    rw [q, show coef [] t.1 = 0 from rfl] at this
    exact absurd this (Int.lt_irrefl 0)
  | t :: f, s :: g, c, d, h => by
    have h1 := h t.1
    have h2 := h s.1
    rw [c.coef_head] at h1
    rw [d.coef_head] at h2
    have pt := (c.num t (List.mem_cons_self ..)).1
    have ps := (d.num s (List.mem_cons_self ..)).1
    have e1 : s.1 = t.1 := by
      by_cases e : s.1 = t.1
      · exact e
      · have q1 : lexLt t.1 s.1 = true := by
          rw [coef_cons, if_neg e, Int.zero_add] at h1
          by_cases z : ∃ u ∈ g, u.1 = t.1
          · obtain ⟨u, hu, eu⟩ := z
            rw [← eu]
            exact d.ahead hu
          · rw [coef_none fun u hu eu => z ⟨u, hu, eu⟩] at h1
            omega
        have q2 : lexLt s.1 t.1 = true := by
          rw [coef_cons, if_neg fun z => e z.symm, Int.zero_add] at h2
          by_cases z : ∃ u ∈ f, u.1 = s.1
          · obtain ⟨u, hu, eu⟩ := z
            rw [← eu]
            exact c.ahead hu
          · rw [coef_none fun u hu eu => z ⟨u, hu, eu⟩] at h2
            omega
        have q := lexLt_trans q1 q2
        rw [lexLt_irrefl] at q
        cases q
    have e2 : t.2 = s.2 := by
      rw [h1, ← e1, d.coef_head]
    have ts : t = s := Prod.ext e1.symm e2
    subst ts
    congr 1
    refine canon_ext c.tail d.tail fun m => ?_
    have q := h m
    rw [coef_cons, coef_cons] at q
    omega
theorem canon_eq (h : Pr p) {f g : Poly} (c : Canon p n f) (d : Canon p n g) (e : ∀ x ∈ pts p n, Cg p (vsum f x) (vsum g x)) : f = g := by
  refine canon_ext c d fun m => ?_
  by_cases hm : m ∈ pts p n
  · have z := multi_zero h (n := n) (C := fun m => coef f m - coef g m) (fun x hx => ?_) m hm
    · have q := z.add (Cg.refl (coef g m))
      rw [Int.sub_add_cancel, Int.zero_add] at q
      have b1 : 0 ≤ coef f m ∧ coef f m < p := by
        rcases c.coef_lt m with q | ⟨_, q⟩
        · exact q
        · have := h.two; omega
      have b2 : 0 ≤ coef g m ∧ coef g m < p := by
        rcases d.coef_lt m with q | ⟨_, q⟩
        · exact q
        · have := h.two; omega
      exact q.eq b1.1 b1.2 b2.1 b2.2
    · have q := (e x hx).sub (Cg.refl (vsum g x))
      rw [Int.sub_self] at q
      refine Cg.trans (Cg.of ?_) q
      rw [vsum_coef c.pow, vsum_coef d.pow]
      have : (lsum (pts p n) fun m => (coef f m - coef g m) * mon m x) = lsum (pts p n) fun m => coef f m * mon m x + (-1) * (coef g m * mon m x) :=
        lsum_congr fun m _ => by rw [Int.sub_mul, Int.neg_one_mul]; rfl
      rw [this, lsum_add, lsum_mul]
      omega
  · rw [coef_none fun t ht (z : t.1 = m) => hm (z ▸ mem_pts.mpr (c.pow t ht)), coef_none fun t ht (z : t.1 = m) => hm (z ▸ mem_pts.mpr (d.pow t ht))]
end
end SP
end
section
set_option Elab.async false
set_option linter.all false
set_option maxRecDepth 100000
set_option maxHeartbeats 4000000
namespace SP
open PySem PySem.Spec PyProof.Rows L2
def shapes : List (Nat × Nat) := [(2, 1), (2, 2), (2, 3), (3, 1), (3, 2), (5, 1), (2, 4), (3, 3), (7, 1), (5, 2)]
def Shape (p n : Nat) : Prop := (p, n) ∈ shapes
theorem Shape.pr {p n : Nat} (h : Shape p n) : Pr p := by
  unfold Shape shapes at h
  simp only [List.mem_cons, Prod.mk.injEq, List.not_mem_nil, or_false] at h
  unfold Pr
  omega
theorem Shape.n {p n : Nat} (h : Shape p n) : 1 ≤ n ∧ n ≤ 4 := by
  unfold Shape shapes at h
  simp only [List.mem_cons, Prod.mk.injEq, List.not_mem_nil, or_false] at h
  omega
theorem Shape.pow {p n : Nat} (h : Shape p n) : p ^ n ≤ 27 := by
  unfold Shape shapes at h
  simp only [List.mem_cons, Prod.mk.injEq, List.not_mem_nil, or_false] at h
  rcases h with ⟨rfl, rfl⟩ | ⟨rfl, rfl⟩ | ⟨rfl, rfl⟩ | ⟨rfl, rfl⟩ | ⟨rfl, rfl⟩ | ⟨rfl, rfl⟩ | ⟨rfl, rfl⟩ | ⟨rfl, rfl⟩ | ⟨rfl, rfl⟩ | ⟨rfl, rfl⟩ <;> decide
theorem Shape.p {p n : Nat} (h : Shape p n) : 2 ≤ p ∧ p ≤ 7 := h.pr.two
theorem Shape.pts {p n : Nat} (h : Shape p n) : (pts p n).length ≤ 27 := by rw [pts_length]; exact h.pow
abbrev PL (K : PySem.W.Frag) : Addr := (He.cT K ("ascending", none)).2
abbrev tabR (K : PySem.W.Frag) (v : V) : RS := fun x H => x = v ∧ LamX.TabS H (PL K) LQ
instance {K : PySem.W.Frag} {v : V} : Mono (tabR K v) := ⟨fun e ⟨h1, h2⟩ => ⟨h1, e.tabs _ h2⟩⟩
def spR (K : PySem.W.Frag) (p n : Nat) : RS := fun v H => (∃ nm, InsR (He.ga K "Space") [("prime", .int p), ("names", nm), ("count", .int n)] v H) ∧ LamX.TabS H (PL K) LQ
instance {K : PySem.W.Frag} {p n : Nat} : Mono (spR K p n) := ⟨fun e ⟨⟨nm, h1⟩, h2⟩ => ⟨⟨nm, Mono.up e h1⟩, e.tabs _ h2⟩⟩
theorem spR.upd {K : PySem.W.Frag} {p n : Nat} {v : V} {H : Hp} {d : Addr} {o u : HO} (h : spR K p n v H) (hd : H d = some u) (hu : plainO u) : spR K p n v (L2.upd H d o) :=
  ⟨let ⟨nm, h1⟩ := h.1; ⟨nm, h1.upd hd hu⟩, tabN_upd hd hu.chg h.2⟩
section
variable {K : PySem.W.Frag} {mg : Str → Option Value} {σ : L2.St} {H : Hp} {ta : TE} {p n : Nat}
theorem ev_prime (T : TopF K mg) (h : Ev ta σ H (spR K p n)) : Ev (tFld K ta "prime") σ H (IsI p) :=
  ev_fld h fun x H1 r => by
    obtain ⟨⟨nm, a, dx, h1, h2⟩, _⟩ := r
    exact ⟨a, _, dx, _, .int p, h1, h2, T.c_Space, T.n_Space_prime, rfl, rfl⟩
theorem ev_count (T : TopF K mg) (h : Ev ta σ H (spR K p n)) : Ev (tFld K ta "count") σ H (IsI n) :=
  ev_fld h fun x H1 r => by
    obtain ⟨⟨nm, a, dx, h1, h2⟩, _⟩ := r
    exact ⟨a, _, dx, _, .int n, h1, h2, T.c_Space, T.n_Space_count, rfl, rfl⟩
theorem sp_ins {x : V} {H1 : Hp} (r : spR K p n x H1) {m : Str} (hm : ∀ nm, List.lookup m [(("prime" : Str), V.int p), ("names", nm), ("count", .int n)] = none) : ∃ a dx fs, x = .ref a ∧ H1 a = some (.ins (He.ga K "Space") dx fs) ∧ fs.lookup m = none := by
  obtain ⟨⟨nm, a, dx, h1, h2⟩, _⟩ := r
  exact ⟨a, dx, _, h1, h2, hm nm⟩
end
abbrev polyV (f : Poly) : RS := tupF (f.map pairR)
abbrev polyZ (f : Poly) : RS := tupZ (f.map pairR)
def Vals' (p n : Nat) (f : Poly) (F : Pt → Int) : Prop := ∀ x ∈ pts p n, Cg p (vsum f x) (F x)
def polyR (p n : Nat) (F : Pt → Int) : RS := fun v H => ∃ f, Canon p n f ∧ Vals' p n f F ∧ polyV f v H
def polyY (p n : Nat) (F : Pt → Int) : RS := fun v H => ∃ f, Canon p n f ∧ Vals' p n f F ∧ polyZ f v H
instance {f : Poly} : TMono (polyV f) := inferInstance
instance {p n : Nat} {F : Pt → Int} : TMono (polyR p n F) := ⟨fun e ⟨f, h1, h2, h3⟩ => ⟨f, h1, h2, TMono.up e h3⟩⟩
instance {p n : Nat} {F : Pt → Int} : TMono (polyY p n F) := ⟨fun e ⟨f, h1, h2, h3⟩ => ⟨f, h1, h2, TMono.up e h3⟩⟩
theorem polyY.r {p n : Nat} {F : Pt → Int} {v : V} {H : Hp} (h : polyY p n F v H) : polyR p n F v H := by
  obtain ⟨f, h1, h2, h3⟩ := h
  exact ⟨f, h1, h2, h3.f⟩
theorem Vals'.to {p n : Nat} {f : Poly} {F G : Pt → Int} (h : Vals' p n f F) (e : ∀ x ∈ pts p n, Cg p (F x) (G x)) : Vals' p n f G := fun x hx => (h x hx).trans (e x hx)
theorem polyR.to {p n : Nat} {F G : Pt → Int} {v : V} {H : Hp} (h : polyR p n F v H) (e : ∀ x ∈ pts p n, Cg p (F x) (G x)) : polyR p n G v H := by
  obtain ⟨f, h1, h2, h3⟩ := h
  exact ⟨f, h1, h2.to e, h3⟩
theorem polyY.to {p n : Nat} {F G : Pt → Int} {v : V} {H : Hp} (h : polyY p n F v H) (e : ∀ x ∈ pts p n, Cg p (F x) (G x)) : polyY p n G v H := by
  obtain ⟨f, h1, h2, h3⟩ := h
  exact ⟨f, h1, h2.to e, h3⟩
theorem Canon.nodup {p n : Nat} {f : Poly} (c : Canon p n f) : (f.map (·.1)).Nodup := by
  rw [List.Nodup, List.pairwise_map]
  exact c.ord.imp fun h e => by rw [e, lexLt_irrefl] at h; cases h
theorem len_sub {α : Type} [DecidableEq α] : ∀ {xs ys : List α}, xs.Nodup → (∀ x ∈ xs, x ∈ ys) → xs.length ≤ ys.length
  | [], _, _, _ => Nat.zero_le _
  | x :: xs, ys, h, k => by
    have h1 := List.nodup_cons.mp h
    have hx := k x (List.mem_cons_self ..)
    have q := len_sub (xs := xs) (ys := ys.erase x) h1.2 fun z hz => (List.mem_erase_of_ne (fun (e : z = x) => h1.1 (by rw [← e]; exact hz))).mpr (k z (List.mem_cons_of_mem _ hz))
    rw [List.length_erase_of_mem hx] at q
    have := List.length_pos_of_mem hx
    rw [List.length_cons]
    omega
theorem nodup_len {p n : Nat} {xs : List Pt} (h : xs.Nodup) (k : ∀ x ∈ xs, inSp p n x) : xs.length ≤ (pts p n).length :=
  len_sub h fun x hx => mem_pts.mpr (k x hx)
theorem Canon.len {p n : Nat} {f : Poly} (c : Canon p n f) : f.length ≤ (pts p n).length := by
  have := nodup_len (p := p) (n := n) c.nodup (fun x hx => by
    obtain ⟨t, ht, rfl⟩ := List.mem_map.mp hx
    exact c.pow t ht)
  simpa using this
def syR (K : PySem.W.Frag) (p n : Nat) (Es : List (Pt → Int)) : RS := fun v H => ∃ vs ve, InsR (He.ga K "System") [("space", vs), ("equations", ve)] v H ∧ spR K p n vs H ∧ lstR (Es.map (polyR p n)) ve H
instance {K : PySem.W.Frag} {p n : Nat} {Es : List (Pt → Int)} : Mono (syR K p n Es) := ⟨fun e ⟨vs, ve, h1, h2, h3⟩ => ⟨vs, ve, Mono.up e h1, Mono.up e h2, Mono.up e h3⟩⟩
def maR (K : PySem.W.Frag) (p n : Nat) (Es Fs : List (Pt → Int)) : RS := fun v H => ∃ v1 v2 v3, InsR (He.ga K "Machine") [("start", v1), ("step", v2), ("space", v3)] v H ∧ syR K p n Es v1 H ∧ lstR (Fs.map (polyR p n)) v2 H ∧ spR K p n v3 H
instance {K : PySem.W.Frag} {p n : Nat} {Es Fs : List (Pt → Int)} : Mono (maR K p n Es Fs) := ⟨fun e ⟨v1, v2, v3, h1, h2, h3, h4⟩ => ⟨v1, v2, v3, Mono.up e h1, Mono.up e h2, Mono.up e h3, Mono.up e h4⟩⟩
section
variable {K : PySem.W.Frag} {mg : Str → Option Value} {σ : L2.St} {H : Hp} {ta : TE} {p n : Nat} {Es Fs : List (Pt → Int)}
theorem ev_sySpace (T : TopF K mg) (h : Ev ta σ H (syR K p n Es)) : Ev (tFld K ta "space") σ H (spR K p n) :=
  ev_fld h fun x H1 r => by
    obtain ⟨vs, ve, ⟨a, dx, h1, h2⟩, h3, h4⟩ := r
    exact ⟨a, _, dx, _, vs, h1, h2, T.c_System, T.n_System_space, rfl, h3⟩
theorem ev_syEqs (T : TopF K mg) (h : Ev ta σ H (syR K p n Es)) : Ev (tFld K ta "equations") σ H (lstR (Es.map (polyR p n))) :=
  ev_fld h fun x H1 r => by
    obtain ⟨vs, ve, ⟨a, dx, h1, h2⟩, h3, h4⟩ := r
    exact ⟨a, _, dx, _, ve, h1, h2, T.c_System, T.n_System_equations, rfl, h4⟩
theorem ev_maStart (T : TopF K mg) (h : Ev ta σ H (maR K p n Es Fs)) : Ev (tFld K ta "start") σ H (syR K p n Es) :=
  ev_fld h fun x H1 r => by
    obtain ⟨v1, v2, v3, ⟨a, dx, h1, h2⟩, h3, h4, h5⟩ := r
    exact ⟨a, _, dx, _, v1, h1, h2, T.c_Machine, T.n_Machine_start, rfl, h3⟩
theorem ev_maStep (T : TopF K mg) (h : Ev ta σ H (maR K p n Es Fs)) : Ev (tFld K ta "step") σ H (lstR (Fs.map (polyR p n))) :=
  ev_fld h fun x H1 r => by
    obtain ⟨v1, v2, v3, ⟨a, dx, h1, h2⟩, h3, h4, h5⟩ := r
    exact ⟨a, _, dx, _, v2, h1, h2, T.c_Machine, T.n_Machine_step, rfl, h4⟩
theorem ev_maSpace (T : TopF K mg) (h : Ev ta σ H (maR K p n Es Fs)) : Ev (tFld K ta "space") σ H (spR K p n) :=
  ev_fld h fun x H1 r => by
    obtain ⟨v1, v2, v3, ⟨a, dx, h1, h2⟩, h3, h4, h5⟩ := r
    exact ⟨a, _, dx, _, v3, h1, h2, T.c_Machine, T.n_Machine_space, rfl, h5⟩
theorem sy_ins {x : V} {H1 : Hp} (r : syR K p n Es x H1) {m : Str} (hm : ∀ vs ve, List.lookup m [(("space" : Str), (vs : V)), ("equations", ve)] = none) : ∃ a dx fs, x = .ref a ∧ H1 a = some (.ins (He.ga K "System") dx fs) ∧ fs.lookup m = none := by
  obtain ⟨vs, ve, ⟨a, dx, h1, h2⟩, _⟩ := r
  exact ⟨a, dx, _, h1, h2, hm vs ve⟩
theorem ma_ins {x : V} {H1 : Hp} (r : maR K p n Es Fs x H1) {m : Str} (hm : ∀ v1 v2 v3, List.lookup m [(("start" : Str), (v1 : V)), ("step", v2), ("space", v3)] = none) : ∃ a dx fs, x = .ref a ∧ H1 a = some (.ins (He.ga K "Machine") dx fs) ∧ fs.lookup m = none := by
  obtain ⟨v1, v2, v3, ⟨a, dx, h1, h2⟩, _⟩ := r
  exact ⟨a, dx, _, h1, h2, hm v1 v2 v3⟩
end
end SP
end
section
set_option Elab.async false
set_option linter.all false
set_option maxRecDepth 100000
namespace SP
open PySem PySem.Spec PyProof.Rows L2
section
variable {X : Cx} {K : PySem.W.Frag}
theorem k_catA (h : X.K = K) : OpR X (binaryOp .Add) (rCatA K) := h ▸ op_catA
theorem k_repA (h : X.K = K) : OpR X (binaryOp .Mult) (rRepA K) := h ▸ op_repA
theorem k_eqD (h : X.K = K) (hu : X.A.units + 64 < cLine) : OpR X (compareOp .Eq) (rEqD K) := h ▸ op_eqD hu
theorem k_inD (h : X.K = K) (hu : X.A.units + 65 < cLine) : OpR X (compareOp .In) (rInD K) := h ▸ op_inD hu
theorem k_notInD (h : X.K = K) (hu : X.A.units + 65 < cLine) : OpR X (compareOp .NotIn) (rNotInD K) := h ▸ op_notInD hu
theorem k_ltT (h : X.K = K) (hu : X.A.units < cLine) : OpR X (compareOp .Lt) (rLtT K) := h ▸ op_ltT hu
theorem k_geT (h : X.K = K) (hu : X.A.units < cLine) : OpR X (compareOp .GtE) (rGeT K) := h ▸ op_geT hu
theorem k_notInSeq (h : X.K = K) : OpR X (compareOp .NotIn) (rIn K true) := h ▸ op_notIn_seq
theorem k_ixL (h : X.K = K) : IxR X (rIxL K) := h ▸ ix_list
theorem k_ixT (h : X.K = K) : IxR X (rIxT K) := h ▸ ix_tup
theorem k_slL (h : X.K = K) : SlR X (rSlL K) := h ▸ sl_list
theorem k_slA (h : X.K = K) : SlR X (rSlA K) := h ▸ sl_tupA
theorem k_len (h : X.K = K) : CallR X (.builtin "len") (fun xs H Q => ∃ x n, xs = [x] ∧ LenV K x H n ∧ Q (.int n) H) := h ▸ call_len
theorem k_sum (h : X.K = K) (hc : X.calm = true) : CallR X (.builtin "sum") (rSum K) := h ▸ cr_sum hc
theorem k_sumT (h : X.K = K) (hc : X.calm = true) : CallR X (.builtin "sum") (rSumT K) := h ▸ cr_sumT hc
theorem k_all (h : X.K = K) (hc : X.calm = true) : CallR X (.builtin "all") (rAll K) := h ▸ cr_all hc
theorem k_any (h : X.K = K) (hc : X.calm = true) : CallR X (.builtin "any") (rAny K) := h ▸ cr_any hc
theorem k_anyI (h : X.K = K) (hc : X.calm = true) : CallR X (.builtin "any") (rAnyI K) := h ▸ cr_anyI hc
theorem k_tup (h : X.K = K) : CallR X (.type "tuple") (fun xs H Q => ∃ p ys, xs = [.ref p] ∧ ((SqL K H p ys ∧ ∀ l, H l = none → Q (.ref l) (upd H l (.tup ys))) ∨ (SqT K H p ys ∧ Q (.ref p) H))) := h ▸ call_tuple_of
theorem k_tupZ (h : X.K = K) : CallR X (.type "tuple") (fun xs H Q => ∃ p ys, xs = [.ref p] ∧ SqL K H p ys ∧ ∀ l o, H l = none → o.dict = none → Q (.ref l) (upd H l (.frz o (.tup ys)))) := h ▸ call_tupleZ
theorem k_list (h : X.K = K) : CallR X (.type "list") (fun xs H Q => ∃ p ys, xs = [.ref p] ∧ (SqL K H p ys ∨ SqT K H p ys) ∧ ∀ l, H l = none → Q (.ref l) (upd H l (.lst ys))) := h ▸ call_list_of
theorem k_isi (h : X.K = K) : CallR X (.builtin "isinstance") (rIsi K) := h ▸ call_isi
theorem k_fld {e : Expr} {ta : TE} {f : Str} {pos : Pos} (h : X.K = K) (he : PE X e ta) (hb : attributeBase e f X.env (eval e X.env) = eval e X.env) : PE X (.Attribute e f pos) (tFld K ta f) := h ▸ pe_fld he hb
theorem k_piL {l tg : Expr} {tl : TE} (h : X.K = K) (hl : PE X l tl) : PI X tg l (iList K tl) := h ▸ pi_list hl
theorem k_piT {l tg : Expr} {tl : TE} (h : X.K = K) (hl : PE X l tl) : PI X tg l (iTup K tl) := h ▸ pi_tup hl
theorem k_revL {e : Expr} {te : TE} {k : Nat} {p1 p2 p3 pos : Pos} (h : X.K = K) (he : PE X e te) : PE X (.Subscript e (.Slice none none (some (.UnaryOp .USub (.Constant (.int 1) k p1) p2)) p3) pos) (tRevL K te) := h ▸ pe_revL he
theorem k_zipA {e e2 : Expr} {ta : TA} {p pos tpos : Pos} {elts : List Expr} {kk : Nat} (h : X.K = K) (hg : Gl X "zip") (hm : X.mg "zip" = none) (ha : PA X [e, e2] ta)
    (hs : starEach [e, e2] X.env = (false, eval e X.env) :: starEach [e2] X.env := by rfl) (hpl : (backTo pos (starEach [e2] X.env)).any (·.1) = false := by rfl) :
    PI X (.Tuple elts kk tpos) (.Call (.Name "zip" p) [e, e2] [] pos) (RZ.iZipA K ta) := h ▸ RZ.pi_zipA hg hm ha hs hpl
theorem k_zipTL {e e2 : Expr} {ta : TA} {p pos tpos : Pos} {elts : List Expr} {kk : Nat} (h : X.K = K) (hg : Gl X "zip") (hm : X.mg "zip" = none) (ha : PA X [e, e2] ta)
    (hs : starEach [e, e2] X.env = (false, eval e X.env) :: starEach [e2] X.env := by rfl) (hpl : (backTo pos (starEach [e2] X.env)).any (·.1) = false := by rfl) :
    PI X (.Tuple elts kk tpos) (.Call (.Name "zip" p) [e, e2] [] pos) (iZipTL K ta) := h ▸ pi_zipTL hg hm ha hs hpl
theorem k_enum {e : Expr} {ta : TA} {p pos tpos : Pos} {elts : List Expr} {kk : Nat} (h : X.K = K) (hg : Gl X "enumerate") (hm : X.mg "enumerate" = none) (ha : PA X [e] ta) (hs : starEach [e] X.env = [(false, eval e X.env)] := by rfl) :
    PI X (.Tuple elts kk tpos) (.Call (.Name "enumerate" p) [e] [] pos) (iEnum K ta) := h ▸ pi_enum hg hm ha hs
theorem k_enumT {e : Expr} {ta : TA} {p pos tpos : Pos} {elts : List Expr} {kk : Nat} (h : X.K = K) (hg : Gl X "enumerate") (hm : X.mg "enumerate" = none) (ha : PA X [e] ta) (hs : starEach [e] X.env = [(false, eval e X.env)] := by rfl) :
    PI X (.Tuple elts kk tpos) (.Call (.Name "enumerate" p) [e] [] pos) (iEnumT K ta) := h ▸ pi_enumT hg hm ha hs
theorem k_most {o i : Expr} {td ty : TE} {pos : Pos} (h : X.K = K) (ho : PE X o td) (hi : PE X i ty) (hs : NoSl i) : PE X (.Subscript o i pos) (tMost K td ty) := h ▸ pe_most ho hi hs
def tTup0Z : TE := fun σ H Q => ∀ (p : Addr) (o : Obj), H p = none → o.dict = none → Q (.ref p) (upd H p (.frz o (.tup [])))
theorem pe_tup0Z {x1 : Nat} {pos : Pos} : PE X (.Tuple [] x1 pos) tTup0Z := by
  refine ⟨fun pins s σ H Q I hq => ?_⟩
  refine wpAny_Tuple_spliced ?_
  refine thn (pa_nil.run pos pins s σ H (fun vs H1 => vs = [] ∧ H1 = H) I ⟨rfl, rfl⟩) fun us s1 ⟨xs, H1, I1, r, z⟩ => ?_
  obtain ⟨rfl, rfl⟩ := z
  cases r
  refine ⟨Nat.zero_le _, ?_⟩
  have hf : H1 s1.heap.objs.size = none := I1.hok.fresh (Nat.le_refl _)
  refine ⟨.ref s1.heap.objs.size, upd H1 s1.heap.objs.size (.frz { cls := .type "tuple", data := .seq (List.toArray []) } (.tup [])), I1.laid (t' := s1.toks) (fun b u e => Heap.get?_push_of_some _ e) (Nat.le_refl _) ?_, rfl, hq _ _ hf rfl⟩
  exact ⟨Heap.get?_push_size _ rfl, Nat.zero_le _, [], .nil, ⟨_, Heap.get?_push_size _ rfl, rfl, _, rfl⟩⟩
end
end SP
end
section
set_option Elab.async false
set_option linter.all false
set_option maxRecDepth 100000
namespace SP
open PySem L2
abbrev iV (kvs : Poly) : List (Pt × V) := kvs.map fun t => (t.1, V.int t.2)
def getI (kvs : Poly) (k : Pt) : Int := ((kvs.find? fun t => decide (t.1 = k)).map (·.2)).getD 0
def putI (kvs : Poly) (k : Pt) (c : Int) : Poly := if (kvs.any fun t => decide (t.1 = k)) = true then kvs.map (fun t => if t.1 = k then (t.1, c) else t) else kvs ++ [(k, c)]
abbrev keysI (kvs : Poly) : List Pt := kvs.map (·.1)
theorem keys_iV (kvs : Poly) : (iV kvs).map (·.1) = keysI kvs := by rw [List.map_map]; rfl
theorem find_iV (k : Pt) : ∀ kvs : Poly, valV (iV kvs) k = ((kvs.find? fun t => decide (t.1 = k)).map (·.2)).map V.int
  | [] => rfl
  | t :: r => by
    rw [show iV (t :: r) = (t.1, V.int t.2) :: iV r from rfl]
    by_cases e : t.1 = k
    · rw [valV_pos (p := (t.1, V.int t.2)) e, List.find?_cons, decide_eq_true e]; rfl
    · rw [valV_neg (p := (t.1, V.int t.2)) e, find_iV k r, List.find?_cons, decide_eq_false e]
theorem get_iV (kvs : Poly) (k : Pt) : (valV (iV kvs) k).getD (.int 0) = .int (getI kvs k) := by
  rw [find_iV]
  unfold getI
  cases (kvs.find? fun t => decide (t.1 = k)) <;> rfl
theorem put_iV (kvs : Poly) (k : Pt) (c : Int) : putK (iV kvs) k (.int c) = iV (putI kvs k c) := by
  unfold putK putI
  have e : ((iV kvs).any fun kv => decide (kv.1 = k)) = kvs.any fun t => decide (t.1 = k) := by rw [List.any_map]; rfl
  rw [e]
  split
  · unfold iV
    rw [List.map_map, List.map_map]
    apply List.map_congr_left
    intro t _
    show (if t.1 = k then (t.1, V.int c) else (t.1, V.int t.2)) = ((if t.1 = k then (t.1, c) else t).1, V.int (if t.1 = k then (t.1, c) else t).2)
    split <;> rfl
  · unfold iV
    rw [List.map_append]; rfl
theorem getI_cons {t : Pt × Int} {r : Poly} {k : Pt} : getI (t :: r) k = if t.1 = k then t.2 else getI r k := by
  unfold getI
  by_cases e : t.1 = k
  · rw [List.find?_cons, decide_eq_true e, if_pos e]; rfl
  · rw [List.find?_cons, decide_eq_false e, if_neg e]
theorem getI_mem {kvs : Poly} (h : (keysI kvs).Nodup) {t : Pt × Int} (ht : t ∈ kvs) : getI kvs t.1 = t.2 := by
  induction kvs with
  | nil => cases ht
  | cons u r ih =>
    have h' := List.nodup_cons.mp (show (u.1 :: keysI r).Nodup from h)
    rw [getI_cons]
    rcases List.mem_cons.mp ht with rfl | ht
    · rw [if_pos rfl]
    · rw [if_neg (fun e => h'.1 (by rw [e]; exact List.mem_map_of_mem ht)), ih h'.2 ht]
theorem valV_mem {kvs : Poly} (h : (keysI kvs).Nodup) {t : Pt × Int} (ht : t ∈ kvs) : valV (iV kvs) t.1 = some (.int t.2) := by
  induction kvs with
  | nil => cases ht
  | cons u r ih =>
    have h' := List.nodup_cons.mp (show (u.1 :: keysI r).Nodup from h)
    rw [show iV (u :: r) = (u.1, V.int u.2) :: iV r from rfl]
    rcases List.mem_cons.mp ht with rfl | ht
    · rw [valV_pos rfl]
    · rw [valV_neg (fun e => h'.1 (by rw [show u.1 = t.1 from e]; exact List.mem_map_of_mem ht)), ih h'.2 ht]
theorem valV_get {kvs : Poly} {k : Pt} (h : k ∈ keysI kvs) : valV (iV kvs) k = some (.int (getI kvs k)) := by
  induction kvs with
  | nil => cases h
  | cons u r ih =>
    rw [show iV (u :: r) = (u.1, V.int u.2) :: iV r from rfl, getI_cons]
    by_cases e : u.1 = k
    · rw [valV_pos (p := (u.1, V.int u.2)) e, if_pos e]
    · rw [valV_neg (p := (u.1, V.int u.2)) e, if_neg e]
      refine ih ?_
      rcases List.mem_cons.mp (show k ∈ u.1 :: keysI r from h) with z | z
      · exact absurd z.symm e
      · exact z
theorem getI_none {kvs : Poly} {k : Pt} (h : k ∉ keysI kvs) : getI kvs k = 0 := by
  induction kvs with
  | nil => rfl
  | cons u r ih =>
    rw [getI_cons, if_neg (fun e => h (by rw [← e]; exact List.mem_cons_self ..)), ih fun z => h (List.mem_cons_of_mem _ z)]
theorem putI_keys (kvs : Poly) (k : Pt) (c : Int) : keysI (putI kvs k c) = if k ∈ keysI kvs then keysI kvs else keysI kvs ++ [k] := by
  have := putK_keys (kvs := iV kvs) (k := k) (v := .int c)
  rw [put_iV, keys_iV, keys_iV] at this
  exact this
theorem putI_nodup {kvs : Poly} {k : Pt} {c : Int} (h : (keysI kvs).Nodup) : (keysI (putI kvs k c)).Nodup := by
  have := putK_nodup (kvs := iV kvs) (k := k) (v := .int c) (by rw [keys_iV]; exact h)
  rw [put_iV, keys_iV] at this
  exact this
theorem putI_all {kvs : Poly} {k : Pt} {c : Int} {q : Pt → Prop} (h : ∀ x ∈ keysI kvs, q x) (hk : q k) : ∀ x ∈ keysI (putI kvs k c), q x := by
  rw [putI_keys]
  split
  · exact h
  · intro x hx
    rcases List.mem_append.mp hx with hx | hx
    · exact h x hx
    · rw [List.mem_singleton.mp hx]; exact hk
theorem vsum_put {kvs : Poly} (h : (keysI kvs).Nodup) (k : Pt) (c : Int) (x : Pt) : vsum (putI kvs k c) x = vsum kvs x + (c - getI kvs k) * mon k x := by
  unfold putI
  by_cases a : (kvs.any fun t => decide (t.1 = k)) = true
  · rw [if_pos a]
    induction kvs with
    | nil => simp at a
    | cons u r ih =>
      have h' := List.nodup_cons.mp (show (u.1 :: keysI r).Nodup from h)
      unfold vsum at ih ⊢
      rw [List.map_cons, lsum_cons, lsum_cons, getI_cons]
      by_cases e : u.1 = k
      · rw [if_pos e, if_pos e]
        have er : r.map (fun t => if t.1 = k then (t.1, c) else t) = r := by
          conv => rhs; rw [← List.map_id r]
          apply List.map_congr_left
          intro t ht
          rw [if_neg (fun z => h'.1 (by rw [e, ← z]; exact List.mem_map_of_mem ht))]
          rfl
        rw [er]
        show c * mon u.1 x + _ = _
        rw [e, Int.sub_mul]
        omega
      · rw [if_neg e, if_neg e]
        have ar : (r.any fun t => decide (t.1 = k)) = true := by
          rw [List.any_cons, decide_eq_false e, Bool.false_or] at a
          exact a
        rw [ih h'.2 ar]
        omega
  · rw [if_neg a]
    have hn : k ∉ keysI kvs := fun z => a (by
      obtain ⟨t, ht, e⟩ := List.mem_map.mp z
      rw [List.any_eq_true]
      exact ⟨t, ht, decide_eq_true e⟩)
    rw [getI_none hn]
    unfold vsum
    rw [lsum_append, lsum_cons, lsum_nil]
    show _ + (c * mon k x + 0) = _
    rw [Int.sub_zero, Int.add_zero]
theorem vsum_cons {t : Pt × Int} {f : Poly} {x : Pt} : vsum (t :: f) x = t.2 * mon t.1 x + vsum f x := by
  unfold vsum
  rw [lsum_cons]
theorem vsum_append {f g : Poly} {x : Pt} : vsum (f ++ g) x = vsum f x + vsum g x := by
  unfold vsum
  rw [lsum_append]
theorem vsum_nil {x : Pt} : vsum [] x = 0 := rfl
theorem vsum_take {f : Poly} {i : Nat} {t : Pt × Int} (h : f[i]? = some t) (x : Pt) : vsum (f.take (i + 1)) x = vsum (f.take i) x + t.2 * mon t.1 x := by
  rw [List.take_add_one, h, vsum_append]
  show _ + vsum [t] x = _
  rw [vsum_cons, vsum_nil, Int.add_zero]
def redI (p : Nat) (kvs : Poly) : Poly := kvs.map fun t => (t.1, t.2 % p)
def fromN (p : Nat) (kvs : Poly) : Poly := ((sortP true (keysI kvs)).filter fun k => decide (getI (redI p kvs) k ≠ 0)).map fun k => (k, getI (redI p kvs) k)
theorem keys_red (p : Nat) (kvs : Poly) : keysI (redI p kvs) = keysI kvs := by
  unfold redI keysI
  rw [List.map_map]
  rfl
theorem redI_get {p : Nat} {kvs : Poly} (h : (keysI kvs).Nodup) {t : Pt × Int} (ht : t ∈ kvs) : getI (redI p kvs) t.1 = t.2 % p :=
  getI_mem (kvs := redI p kvs) (by rw [keys_red]; exact h) (t := (t.1, t.2 % p)) (List.mem_map_of_mem (f := fun t : Pt × Int => (t.1, t.2 % (p : Int))) ht)
theorem fromN_canon {p n : Nat} (hp : 0 < p) {kvs : Poly} (h : (keysI kvs).Nodup) (hk : ∀ x ∈ keysI kvs, inSp p n x) : Canon p n (fromN p kvs) where
  ord := by
    unfold fromN
    rw [List.pairwise_map]
    have h1 : (sortP true (keysI kvs)).Nodup := (sortP_perm true (keysI kvs)).nodup_iff.mpr h
    refine ((sortP_ord true (keysI kvs)).and h1).sublist (List.filter_sublist) |>.imp fun ⟨h2, h3⟩ => ?_
    exact lexLt_total h3 (by simpa [ordB] using h2)
  pow := fun t ht => by
    obtain ⟨k, hk2, rfl⟩ := List.mem_map.mp ht
    exact hk k (mem_sortP.mp (List.mem_filter.mp hk2).1)
  num := fun t ht => by
    obtain ⟨k, hk2, rfl⟩ := List.mem_map.mp ht
    obtain ⟨h1, h2⟩ := List.mem_filter.mp hk2
    obtain ⟨u, hu, rfl⟩ := List.mem_map.mp (mem_sortP.mp h1)
    have h3 := of_decide_eq_true h2
    have e := redI_get (p := p) h hu
    show 0 < getI (redI p kvs) u.1 ∧ getI (redI p kvs) u.1 < p
    have h3' : getI (redI p kvs) u.1 ≠ 0 := h3
    rw [e] at h3' ⊢
    have h4 := Int.emod_nonneg u.2 (show (p : Int) ≠ 0 by omega)
    have h5 := Int.emod_lt_of_pos u.2 (show 0 < (p : Int) by omega)
    omega
theorem fromN_vals {p : Nat} {kvs : Poly} (h : (keysI kvs).Nodup) (x : Pt) : Cg p (vsum (fromN p kvs) x) (vsum kvs x) := by
  unfold vsum fromN
  rw [lsum_map]
  refine (lsum_filter (p := p) (f := fun k => getI (redI p kvs) k * mon k x) fun k _ hq => ?_).trans ?_
  · have hq' : getI (redI p kvs) k = 0 := by simpa using hq
    rw [hq', Int.zero_mul]
    exact Cg.refl 0
  · rw [lsum_perm (sortP_perm true (keysI kvs)), lsum_map]
    refine lsum_cg fun t ht => ?_
    rw [redI_get h ht]
    exact (Cg.mod t.2).mul (Cg.refl _)
end SP
end
section
set_option Elab.async false
set_option linter.all false
set_option maxRecDepth 100000
set_option maxHeartbeats 2000000
namespace SP
open PySem L2
def delS (H : Hp) (ds : List Addr) : Hp := fun b => if b ∈ ds then none else H b
theorem delS_in {H : Hp} {ds : List Addr} {b : Addr} (h : b ∈ ds) : delS H ds b = none := if_pos h
theorem delS_out {H : Hp} {ds : List Addr} {b : Addr} (h : b ∉ ds) : delS H ds b = H b := if_neg h
theorem Ext.del (H : Hp) (ds : List Addr) : Ext (delS H ds) H := .same fun b o e => by
  by_cases hb : b ∈ ds
  · rw [delS_in hb] at e; cases e
  · rw [delS_out hb] at e; exact e
def PlainsAt (H : Hp) (ds : List Addr) : Prop := ∀ d ∈ ds, ∃ u, H d = some u ∧ plainO u
theorem TEx.del {H : Hp} {ds : List Addr} (h : PlainsAt H ds) : TEx H (delS H ds) := fun a u k e => by
  have na : a ∉ ds := fun hm => by
    obtain ⟨v, h1, h2⟩ := h a hm
    rw [e] at h1
    cases h1
    cases u with
    | lst _ => exact k
    | dT _ => exact k
    | _ => exact h2
  rw [delS_out na]
  exact e
theorem lstR.del {Rs : List RS} [AllT Rs] {v : V} {H : Hp} {ds : List Addr} (h : lstR Rs v H) (hp : PlainsAt H ds) (hn : ∀ a, v = .ref a → a ∉ ds) : lstR Rs v (delS H ds) := by
  obtain ⟨a, vs, rfl, h1, r⟩ := h
  exact ⟨a, vs, rfl, by rw [delS_out (hn a rfl)]; exact h1, r.upT (TEx.del hp)⟩
def SrcX {α : Type} (wi : TI) (σ : L2.St) (H : Hp) (ds : List Addr) (xs : List α) (A : α → RS) : Prop := ∀ H1, Ext H H1 → ∀ R : It → Hp → Prop, (∀ J H2, Ext H1 H2 → SrcG J (delS H2 ds) H2 xs A → R J H2) → wi σ H1 R
section
variable {α β : Type} {K : PySem.W.Frag} {σ : L2.St} {H : Hp} {te tl : TE} {tt : TT} {xs : List α} {ys : List β} {A : α → RS} {B : β → RS} {ds : List Addr}
theorem srcX_list [m : ∀ x, TMono (A x)] (h : Ev tl σ H (fun v H1 => lstR (xs.map A) v H1 ∧ ∀ a, v = .ref a → a ∉ ds)) : SrcX (iList K tl) σ H ds xs A := fun H1 e R k =>
  h H1 e _ fun v H2 e2 ⟨⟨a, vs, h1, h2, r⟩, hn⟩ => ⟨a, h1, ⟨vs, SqL.of h2⟩, k _ H2 e2 (srcG_list (Hb := delS H2 ds) (by rw [delS_out (hn a h1)]; exact h2) r)⟩
theorem srcX_tup [m : ∀ x, TMono (A x)] (h : Ev tl σ H (tupF (xs.map A))) : SrcX (iTup K tl) σ H ds xs A := fun H1 e R k =>
  h H1 e _ fun v H2 e2 ⟨a, vs, h1, h2, r⟩ => ⟨a, h1, ⟨vs, .inl h2⟩, k _ H2 e2 (srcG_tup h2 r)⟩
theorem srcX_range {ta : TA} {n : Nat} (h : EvA ta σ H [IsI n]) (hn : n ≤ 1000000) : SrcX (iRng1 ta) σ H ds (List.range n) (fun i => IsI (i : Nat)) := fun H1 e R k =>
  h H1 e _ fun vs H2 e2 r => by
    obtain ⟨v, rfl, rv⟩ := All.l1 r
    refine ⟨(n : Int), by rw [show v = _ from rv], by omega, by omega, ?_⟩
    rw [Int.toNat_natCast]
    exact k _ H2 e2 srcG_range
theorem srcX_range2 {ta : TA} {lo n : Nat} (h : EvA ta σ H [IsI lo, IsI n]) (hn : n ≤ 1000000) (hl : lo ≤ 1000000) : SrcX (iRng2 ta) σ H ds (List.range (n - lo)) (fun i => IsI ((lo + i : Nat) : Int)) := fun H1 e R k =>
  h H1 e _ fun vs H2 e2 r => by
    obtain ⟨v, w, rfl, rv, rw'⟩ := All.l2 r
    refine ⟨(lo : Int), (n : Int), by rw [show v = _ from rv, show w = _ from rw'], ⟨by omega, by omega, by omega, by omega⟩, ?_⟩
    have e3 : ((n : Int) - (lo : Int)).toNat = n - lo := by omega
    rw [e3]
    refine k _ H2 e2 ?_
    have q := srcG_range2 (Hb := delS H2 ds) (H2 := H2) (lo := (lo : Int)) (n := n - lo)
    exact q
theorem srcX_zipL {ta : TA} [m1 : ∀ x, TMono (A x)] [m2 : ∀ y, TMono (B y)] (h : EvA ta σ H [fun v H1 => lstR (xs.map A) v H1 ∧ ∀ a, v = .ref a → a ∉ ds, fun v H1 => lstR (ys.map B) v H1 ∧ ∀ a, v = .ref a → a ∉ ds]) : SrcX (RZ.iZipA K ta) σ H ds (xs.zip ys) (fun p => tupR [A p.1, B p.2]) := fun H1 e R k =>
  h H1 e _ fun us H2 e2 r => by
    obtain ⟨_, _, rfl, ⟨⟨a, vs, rfl, h1, q1⟩, n1⟩, ⟨⟨b, ws, rfl, h2, q2⟩, n2⟩⟩ := All.l2 r
    exact ⟨a, b, vs, ws, rfl, .inl ⟨SqL.of h1, SqL.of h2, k _ H2 e2 (srcG_zipL (Hb := delS H2 ds) (by rw [delS_out (n1 a rfl)]; exact h1) (by rw [delS_out (n2 b rfl)]; exact h2) q1 q2)⟩⟩
theorem s_forX {wi : TI} {g : TG} {tb : TS} {D : Ends} (s : SrcX wi σ H ds xs A) (Pv : Nat → L2.St → Hp → Prop) (h0 : ∀ H1, Ext H H1 → Pv 0 σ H1)
    (hs : ∀ H2 i a x σ' H0 H', xs[i]? = some a → Ext H H2 → Ext (delS H2 ds) H0 → TEx H2 H0 → Pv i σ' H0 → Ext H0 H' → A a x H' →
      g x σ' H' fun σ3 H3 => tb { D with nx := fun σ4 H4 => Ext (delS H2 ds) H4 ∧ TEx H2 H4 ∧ Pv (i + 1) σ4 H4, ct := fun σ4 H4 => Ext (delS H2 ds) H4 ∧ TEx H2 H4 ∧ Pv (i + 1) σ4 H4, bk := D.nx } σ3 H3)
    (hd : ∀ H2 σ' H', Ext H H2 → Ext (delS H2 ds) H' → TEx H2 H' → Pv xs.length σ' H' → D.nx σ' H') : tFor wi g tb D σ H := s H (Ext.refl _) _ fun J H2 e2 q =>
  for_src q Pv (Ext.del H2 ds) (h0 H2 e2) (fun i a x σ' H0 H' ha eb et p e0 hA => hs H2 i a x σ' H0 H' ha e2 eb et p e0 hA) fun σ' H' eb et p => hd H2 σ' H' e2 eb et p
end
end SP
end
section
set_option Elab.async false
set_option linter.all false
set_option maxRecDepth 100000
set_option maxHeartbeats 4000000
namespace SP
open PySem PyProof.Rows L2
variable {P : Program} {w : World} {K : PySem.W.Frag} {mg : Str → Option Value} {base : Heap}
abbrev n_raised_number : List Str := ["prime", "number", "exponent", "found", "_"]
theorem sc_raised_number : FnScope n_raised_number ["prime", "number", "exponent"] (defScope s_raised_number) := ⟨rfl, rfl, rfl, by decide +kernel, rfl, by decide +kernel, by decide +kernel⟩
theorem bd_raised_number : BindB "raised_number" "raised_number" s_raised_number ["prime", "number", "exponent"] := fun _ _ _ _ _ _ us hl => match us, hl with | [_, _, _], _ => rfl

def sp_raised_number (_ : PySem.W.Frag) : Sp := fun vs H Q E => ∃ (p : Nat) (n : Int) (e : Nat), 2 ≤ p ∧ p ≤ 100 ∧ e ≤ 1000 ∧ SpR [IsI p, IsI n, IsI e] (IsI (n ^ e % p)) vs H Q E
abbrev G_raised_number (P : Program) (w : World) (K : PySem.W.Frag) (mg : Str → Option Value) (base : Heap) : Prop := GFn P w K mg base "raised_number" 1 ["prime", "number", "exponent"] (sp_raised_number K)

theorem ok_raised_number (T : TopF K mg)  : G_raised_number P w K mg base := by
  refine T.d_raised_number.fn sc_raised_number bd_raised_number (fun vs H Q E h => ?len) fun f cdv A outer s H vs Q E hr h => ?walk
  case walk =>
    have hu := room1 hr
    have hu3 := room3 hr
    have hu64 := hr.units
    have hu65 := room65 hr
    refine ⟨_, (pss_cons (ps_set (i := 3) sc_raised_number.nd rfl (Or.inl rfl) pe_int)
      (pss_cons (ps_for PassesOwn.never rfl (pi_range1 (by rfl) T.b_range (pa_cons (pv 2) pa_nil)) (pg_name (i := 4) sc_raised_number.nd rfl (Or.inl rfl))
      (pss_one (ps_set (i := 3) sc_raised_number.nd rfl (Or.inl rfl) (pe_op op_mod (pe_op op_mul (pv 3) (pv 1)) (pv 0)))))
      (pss_one (ps_ret (pv 3))))), ?_⟩
    obtain ⟨p, n, e, hp, hp2, he, r, k⟩ := h
    obtain ⟨_, _, _, rfl, rfl, rfl, rfl⟩ := All.l3 r
    refine sq (s_set ev_c fun v H1 e1 rv => ?_)
    obtain rfl : v = V.int 1 := rv
    refine sq (s_forD (srcD_range (n := e) (ea_cons (ev_is rfl) ea_nil) (by omega)) (fun i σ H' => ∃ v4, σ = [some (.int p), some (.int n), some (.int e), some (.int (n ^ i % p)), v4]) (fun H2 e2 => ?_) (fun H2 i a x σ' H0 H' ha e2 e0 pv e' hx => ?_) fun σ' H' e' pv => ?_)
    · refine ⟨none, ?_⟩
      rw [Int.pow_zero, Int.emod_eq_of_lt (by decide) (by omega)]
      rfl
    · obtain ⟨v4, rfl⟩ := pv
      obtain rfl : x = V.int a := hx
      have hb : n ^ i % (p : Int) < p := Int.emod_lt_of_pos _ (by omega)
      have hb0 : 0 ≤ n ^ i % (p : Int) := Int.emod_nonneg _ (by omega)
      refine s_set (ev_I (ev_I (ev_is rfl) (ev_is rfl) (.inl ⟨by omega, by omega⟩)) (ev_is rfl) (by omega)) fun v H3 e3 rv => ?_
      refine ⟨e0.trans (e'.trans e3), some (.int a), ?_⟩
      rw [show v = _ from rv]
      show [some (V.int p), some (V.int n), some (V.int e), some (V.int (n ^ i % p * n % p)), some (V.int a)] = _
      rw [show n ^ i % (p : Int) * n % p = n ^ (i + 1) % p from by rw [Int.pow_succ]; exact (Cg.mod (p := p) (n ^ i)).mul (Cg.refl n)]
    · obtain ⟨v4, rfl⟩ := pv
      refine s_ret (ev_is rfl) fun v H3 e3 rv => k v H3 (e1.trans (e'.trans e3)) ?_
      rw [show v = _ from rv, List.length_range]
      rfl
  case len => obtain ⟨p, n, e, _, _, _, r, _⟩ := h; exact r.length
abbrev n_inverse : List Str := ["prime", "number"]
theorem sc_inverse : FnScope n_inverse ["prime", "number"] (defScope s_inverse) := ⟨rfl, rfl, rfl, by decide +kernel, rfl, by decide +kernel, by decide +kernel⟩
theorem bd_inverse : BindB "inverse" "inverse" s_inverse ["prime", "number"] := fun _ _ _ _ _ _ us hl => match us, hl with | [_, _], _ => rfl

def sp_inverse (_ : PySem.W.Frag) : Sp := fun vs H Q E => ∃ (p : Nat) (n : Int), 2 ≤ p ∧ p ≤ 100 ∧ SpR [IsI p, IsI n] (IsI (n ^ (p - 2) % p)) vs H Q E
abbrev G_inverse (P : Program) (w : World) (K : PySem.W.Frag) (mg : Str → Option Value) (base : Heap) : Prop := GFn P w K mg base "inverse" 2 ["prime", "number"] (sp_inverse K)

theorem ok_inverse (T : TopF K mg) (g_raised_number : G_raised_number P w K mg base) : G_inverse P w K mg base := by
  refine T.d_inverse.fn sc_inverse bd_inverse (fun vs H Q E h => ?len) fun f cdv A outer s H vs Q E hr h => ?walk
  case walk =>
    have hu := room1 hr
    have hu3 := room3 hr
    have hu64 := hr.units
    have hu65 := room65 hr
    refine ⟨_, (pss_one (ps_ret (pe_fn g_raised_number hr (by decide) (by rfl) (pa_cons (pv 0) (pa_cons (pv 1) (pa_cons (pe_op op_sub (pv 0) pe_int) pa_nil)))))), ?_⟩
    obtain ⟨p, n, hp, hp2, r, k⟩ := h
    obtain ⟨_, _, rfl, rfl, rfl⟩ := All.l2 r
    refine s_ret (ev_call (ea_cons (ev_is rfl) (ea_cons (ev_is rfl) (ea_cons (Ev.to (ev_I0 (ev_is rfl) ev_c) (j := .int ((p - 2 : Nat) : Int)) (by rw [show ((p - 2 : Nat) : Int) = (p : Int) - 2 by omega])) ea_nil))) fun vs H1 Q E h => ⟨p, n, p - 2, hp, hp2, by omega, h⟩) fun v H1 e1 rv => k v H1 e1 rv
  case len => obtain ⟨p, n, _, _, r, _⟩ := h; exact r.length
abbrev n_degree_of : List Str := ["power"]
theorem sc_degree_of : FnScope n_degree_of ["power"] (defScope s_degree_of) := ⟨rfl, rfl, rfl, by decide +kernel, rfl, by decide +kernel, by decide +kernel⟩
theorem bd_degree_of : BindB "degree_of" "degree_of" s_degree_of ["power"] := fun _ _ _ _ _ _ us hl => match us, hl with | [_], _ => rfl

def sp_degree_of (_ : PySem.W.Frag) : Sp := fun vs H Q E => ∃ x : Pt, SpR [ptR x] (IsI x.sum) vs H Q E
abbrev G_degree_of (P : Program) (w : World) (K : PySem.W.Frag) (mg : Str → Option Value) (base : Heap) : Prop := GFn P w K mg base "degree_of" 1 ["power"] (sp_degree_of K)

theorem ok_degree_of (T : TopF K mg)  : G_degree_of P w K mg base := by
  refine T.d_degree_of.fn sc_degree_of bd_degree_of (fun vs H Q E h => ?len) fun f cdv A outer s H vs Q E hr h => ?walk
  case walk =>
    have hu := room1 hr
    have hu3 := room3 hr
    have hu64 := hr.units
    have hu65 := room65 hr
    refine ⟨_, (pss_one (ps_ret (pe_callB (k_sumT (K := K) rfl rfl) (by rfl) T.b_sum (by decide +kernel) (pa_cons (pv 0) pa_nil)))), ?_⟩
    obtain ⟨x, r, k⟩ := h
    obtain ⟨a, rfl, ra⟩ := All.l1 r
    exact s_ret (ev_sumP (ea_cons (ev_var rfl ra) ea_nil)) fun v H1 e1 rv => k v H1 e1 rv
  case len => obtain ⟨x, r, _⟩ := h; exact r.length
abbrev n_key_of : List Str := ["order", "power"]
theorem sc_key_of : FnScope n_key_of ["order", "power"] (defScope s_key_of) := ⟨rfl, rfl, rfl, by decide +kernel, rfl, by decide +kernel, by decide +kernel⟩
theorem bd_key_of : BindB "key_of" "key_of" s_key_of ["order", "power"] := fun _ _ _ _ _ _ us hl => match us, hl with | [_, _], _ => rfl

def sp_key_of (_ : PySem.W.Frag) : Sp := fun vs H Q E => ∃ x : Pt, SpR [Is (.str "degree"), ptR x] (keyR List.sum x) vs H Q E
abbrev G_key_of (P : Program) (w : World) (K : PySem.W.Frag) (mg : Str → Option Value) (base : Heap) : Prop := GFn P w K mg base "key_of" 2 ["order", "power"] (sp_key_of K)

theorem ok_key_of (T : TopF K mg) (g_degree_of : G_degree_of P w K mg base) : G_key_of P w K mg base := by
  refine T.d_key_of.fn sc_key_of bd_key_of (fun vs H Q E h => ?len) fun f cdv A outer s H vs Q E hr h => ?walk
  case walk =>
    have hu := room1 hr
    have hu3 := room3 hr
    have hu64 := hr.units
    have hu65 := room65 hr
    refine ⟨_, (pss_cons (ps_if (pt_cmpR op_eq (pv 0) pe_str (nomark _)) (pss_one (ps_ret (pe_tup (pa_cons (pe_fn g_degree_of hr (by decide) (by rfl) (pa_cons (pv 1) pa_nil)) (pa_cons (pv 1) pa_nil))))) pss_nil)
      (pss_one (ps_ret (pe_tup (pa_cons pe_int (pa_cons (pv 1) pa_nil)))))), ?_⟩
    obtain ⟨x, r, k⟩ := h
    obtain ⟨_, a, rfl, rfl, ra⟩ := All.l2 r
    refine sq (s_if (et_test (ev_eqS (ev_is rfl) ev_c rfl)) (fun hb H1 e1 => ?_) fun hb H1 e1 => ?_)
    · exact s_ret (ev_tup (ea_cons (ev_call (ea_cons (ev_var rfl (TMono.up e1.t ra)) ea_nil) fun vs H1 Q E h => ⟨x, h⟩) (ea_cons (ev_var rfl (TMono.up e1.t ra)) ea_nil)) (by show 2 ≤ _; decide)) fun v H2 e2 rv => k v H2 (e1.trans e2) rv
    · cases hb
  case len => obtain ⟨x, r, _⟩ := h; exact r.length
abbrev n_divides : List Str := ["one", "other", "here", "there"]
theorem sc_divides : FnScope n_divides ["one", "other"] (defScope s_divides) := ⟨rfl, rfl, rfl, by decide +kernel, rfl, by decide +kernel, by decide +kernel⟩
theorem bd_divides : BindB "divides" "divides" s_divides ["one", "other"] := fun _ _ _ _ _ _ us hl => match us, hl with | [_, _], _ => rfl

def divB (x y : Pt) : Bool := (x.zip y).all fun t => decide (t.1 ≤ t.2)
def sp_divides (_ : PySem.W.Frag) : Sp := fun vs H Q E => ∃ x y : Pt, x.length ≤ 1000 ∧ SpR [ptR x, ptR y] (IsB (divB x y)) vs H Q E
abbrev G_divides (P : Program) (w : World) (K : PySem.W.Frag) (mg : Str → Option Value) (base : Heap) : Prop := GFn P w K mg base "divides" 1 ["one", "other"] (sp_divides K)

theorem ok_divides (T : TopF K mg)  : G_divides P w K mg base := by
  refine T.d_divides.fn sc_divides bd_divides (fun vs H Q E h => ?len) fun f cdv A outer s H vs Q E hr h => ?walk
  case walk =>
    have hu := room1 hr
    have hu3 := room3 hr
    have hu64 := hr.units
    have hu65 := room65 hr
    refine ⟨_, (pss_one (ps_ret (pe_callB (k_all (K := K) rfl rfl) (by rfl) T.b_all (by decide +kernel) (pa_cons (pe_lc (own := [("here", 2), ("there", 3)]) (g := (gTup K 2 (gCons (gName 2) (gCons (gName 3) gNil)))) (by rfl) sc_divides.nd (k_zipA (K := K) rfl (by rfl) T.b_zip (pa_cons (pv 0) (pa_cons (pv 1) pa_nil))) (blkOk_by (own := [("here", 2), ("there", 3)]) (N := n_divides) (sc := defScope s_divides) (by decide +kernel)) (fun _ _ _ _ _ => (pg_tup rfl (pgs_cons (pg_name (i := 2) sc_divides.nd rfl (Or.inl rfl)) (pgs_cons (pg_name (i := 3) sc_divides.nd rfl (Or.inl rfl)) pgs_nil)))) (fun _ _ _ _ _ => pts_nil) (fun _ _ _ _ _ => (pe_cmpR op_le (pv 2) (pv 3) (nomark _)))) pa_nil)))), ?_⟩
    obtain ⟨x, y, hx, r, k⟩ := h
    obtain ⟨a, b, rfl, ra, rb⟩ := All.l2 r
    refine s_ret (ev_all (bs := (x.zip y).map fun t => decide (t.1 ≤ t.2)) (ea_cons (EvN.ev ?_) ea_nil)) fun v H1 e1 rv => k v H1 e1 ?_
    · exact ev_lc2v (C := IsB) (val := fun t : Int × Int => decide (t.1 ≤ t.2)) (xs := x.zip y) (srcD_zipT (ea_cons ((ev_var rfl ra).imp fun v H1 e r => (ptR.tup r).f) (ea_cons ((ev_var rfl rb).imp fun v H1 e r => (ptR.tup r).f) ea_nil))) (by rw [List.length_zip, sizeLine_eq]; omega)
        fun t v H1 ht e1 rv => g_pair rv fun u1 u2 r1 r2 => ⟨rfl, rfl, by
          obtain rfl : u1 = .int t.1 := r1
          obtain rfl : u2 = .int t.2 := r2
          exact ev_I0 (ev_is rfl) (ev_is rfl)⟩
    · rw [List.all_map] at rv
      exact rv
  case len => obtain ⟨x, y, _, r, _⟩ := h; exact r.length
abbrev n_tuples_of : List Str := ["prime", "count", "found", "_", "row", "number"]
theorem sc_tuples_of : FnScope n_tuples_of ["prime", "count"] (defScope s_tuples_of) := ⟨rfl, rfl, rfl, by decide +kernel, rfl, by decide +kernel, by decide +kernel⟩
theorem bd_tuples_of : BindB "tuples_of" "tuples_of" s_tuples_of ["prime", "count"] := fun _ _ _ _ _ _ us hl => match us, hl with | [_, _], _ => rfl

def sp_tuples_of (_ : PySem.W.Frag) : Sp := fun vs H Q E => ∃ p n : Nat, p ≤ 100 ∧ n ≤ 10 ∧ p ^ n ≤ 1000 ∧ 1 ≤ p ∧ SpN [IsI p, IsI n] ((pts p n).map ptR) vs H Q E
abbrev G_tuples_of (P : Program) (w : World) (K : PySem.W.Frag) (mg : Str → Option Value) (base : Heap) : Prop := GFn P w K mg base "tuples_of" 1 ["prime", "count"] (sp_tuples_of K)

theorem ok_tuples_of (T : TopF K mg)  : G_tuples_of P w K mg base := by
  refine T.d_tuples_of.fn sc_tuples_of bd_tuples_of (fun vs H Q E h => ?len) fun f cdv A outer s H vs Q E hr h => ?walk
  case walk =>
    have hu := room1 hr
    have hu3 := room3 hr
    have hu64 := hr.units
    have hu65 := room65 hr
    refine ⟨_, (pss_cons (ps_set (i := 2) sc_tuples_of.nd rfl (Or.inl rfl) (pe_lst (pa_cons (pe_tup pa_nil) pa_nil)))
      (pss_cons (ps_for PassesOwn.never rfl (pi_range1 (by rfl) T.b_range (pa_cons (pv 1) pa_nil)) (pg_name (i := 3) sc_tuples_of.nd rfl (Or.inl rfl))
      (pss_one (ps_setLc2 (i := 2) (own := [("row", 4), ("number", 5)]) (vs1 := [5]) (g := (gName 4)) (g1 := (gName 5)) (by rfl) sc_tuples_of.nd rfl rfl (sw_true rfl rfl rfl (by decide +kernel)) (k_piL (K := K) rfl (pv 2)) (blkOk_by (own := [("row", 4), ("number", 5)]) (N := n_tuples_of) (sc := defScope s_tuples_of) (by decide +kernel)) (by decide) (fun _ _ _ _ _ => (pg_name (i := 4) sc_tuples_of.nd rfl (Or.inl rfl))) (fun _ _ _ _ _ => pts_nil) (fun _ _ _ _ _ => (pi_range1 (by rfl) T.b_range (pa_cons (pv 0) pa_nil))) (fun _ _ _ _ _ => (pg_name (i := 5) sc_tuples_of.nd rfl (Or.inl rfl))) (fun _ _ _ _ _ => pts_nil) (fun _ _ _ _ _ => (pe_op (k_catA (K := K) rfl) (pv 4) (pe_tup (pa_cons (pv 5) pa_nil)))))))
      (pss_one (ps_ret (pv 2))))), ?_⟩
    obtain ⟨p, n, hp, hn, hz, hp1, r, k⟩ := h
    obtain ⟨_, _, rfl, rfl, rfl⟩ := All.l2 r
    refine sq (s_setN (ev_lst (Rs := [ptR []]) (ea_cons ((ev_tup ea_nil (by show 0 ≤ _; decide)).imp fun v H1 e r => ptR_of (x := []) r) ea_nil) (by show 1 ≤ _; decide)) fun p0 vs0 H1 hp0 e1 h1 r1 => ?_)
    refine sq (s_forD (srcD_range (n := n) (ea_cons (ev_is rfl) ea_nil) (by omega)) (fun i σ H' => ∃ p1 vs1 a b c, σ = [some (.int p), some (.int n), some (.ref p1), a, b, c] ∧ H' p1 = some (.lst vs1) ∧ All ((pts p i).map ptR) vs1 H' ∧ (i = 0 → p1 = p0) ∧ H p1 = none) (fun H2 e2 => ?_) (fun H2 i a x σ' H0 H' ha e2 e0 pv e' hx => ?_) fun σ' H' e' pv => ?_)
    · exact ⟨p0, vs0, none, none, none, rfl, e2.at h1, All.up e2 r1, fun _ => rfl, hp0⟩
    · obtain ⟨p1, vs1, b1, b2, b3, rfl, h3, r3, _, hp1'⟩ := pv
      have hi : i < n := by have := (List.getElem?_eq_some_iff.mp ha).1; rwa [List.length_range] at this
      have hlen : ∀ j, j ≤ n → (pts p j).length ≤ 1000 := fun j hj => by
        rw [pts_length]
        exact Nat.le_trans (Nat.pow_le_pow_right hp1 hj) hz
      refine s_setN (EvN.cast (ev_lcc (α := Pt) (A := ptR) (xs := pts p i) (β := Nat) (A1 := fun j => IsI (j : Nat)) (ys := List.range p) (C := fun r j => ptR (r ++ [((j : Nat) : Int)])) (srcD_list ((ev_is rfl).imp fun v H1 ex rv => by
          obtain rfl := rv
          exact ⟨p1, vs1, rfl, ex.at (e'.at h3), All.up (e'.trans ex) r3⟩)) (by
            rw [List.length_range, sizeLine_eq]
            have h4 := hlen (i + 1) hi
            have h5 : (pts p (i + 1)).length = (pts p i).length * p := by rw [pts_length, pts_length, Nat.pow_succ]
            omega)
          fun x v H4 hx e4 rv => ⟨rfl, rfl, fun Hb Hn => srcB_range (ea_cons (ev_is rfl) ea_nil) (by omega), fun j y H5 hj t5 ry => ⟨rfl, rfl, by
            obtain rfl : y = .int (j : Nat) := ry
            exact ev_catP (ev_var rfl (TMono.up t5 rv)) ((ev_tup (ea_cons (ev_is rfl) ea_nil) (by show 1 ≤ _; decide)).imp fun v H1 e r => ptR_of (x := [((j : Nat) : Int)]) r) (by
              rw [sizeLine_eq]
              have := (mem_pts.mp hx).1
              show x.length + 1 ≤ _
              omega)⟩⟩) (Rs' := (pts p (i + 1)).map ptR) ?_) fun p2 vs2 H4 hp2 e4 h4 r4 => ?_
      · show _ = ((pts p i).flatMap fun r => (upto p).map fun a => r ++ [a]).map ptR
        rw [List.map_flatMap]
        unfold upto
        congr 1
        funext r
        rw [List.map_map, List.map_map]
        rfl
      · exact ⟨e0.trans (e'.trans e4), p2, vs2, _, _, _, rfl, h4, r4, fun z => by omega, (e1.trans ((e2.trans e0).trans e')).fresh hp2⟩
    · obtain ⟨p1, vs1, b1, b2, b3, rfl, h3, r3, _, hp1'⟩ := pv
      rw [List.length_range] at r3
      refine s_ret (ev_is rfl) fun v H3 e3 rv => ?_
      obtain rfl : v = .ref p1 := rv
      exact k p1 vs1 H3 hp1' (e1.trans (e'.trans e3)) (e3.at h3) (All.up e3 r3)
  case len => obtain ⟨p, n, _, _, _, _, r, _⟩ := h; exact r.length
end SP
end
section
set_option Elab.async false
set_option linter.all false
set_option maxRecDepth 100000
set_option maxHeartbeats 4000000
namespace SP
open PySem PyProof.Rows L2
variable {P : Program} {w : World} {K : PySem.W.Frag} {mg : Str → Option Value} {base : Heap}
abbrev n_lessened : List Str := ["prime", "exponent"]
theorem sc_lessened : FnScope n_lessened ["prime", "exponent"] (defScope s_lessened) := ⟨rfl, rfl, rfl, by decide +kernel, rfl, by decide +kernel, by decide +kernel⟩
theorem bd_lessened : BindB "lessened" "lessened" s_lessened ["prime", "exponent"] := fun _ _ _ _ _ _ us hl => match us, hl with | [_, _], _ => rfl

def lessN (p : Nat) (e : Int) : Int := if e < p then e else (e - 1) % ((p : Int) - 1) + 1
def sp_lessened (_ : PySem.W.Frag) : Sp := fun vs H Q E => ∃ (p : Nat) (e : Int), 2 ≤ p ∧ p ≤ 100 ∧ SpR [IsI p, IsI e] (IsI (lessN p e)) vs H Q E
abbrev G_lessened (P : Program) (w : World) (K : PySem.W.Frag) (mg : Str → Option Value) (base : Heap) : Prop := GFn P w K mg base "lessened" 1 ["prime", "exponent"] (sp_lessened K)

theorem ok_lessened (T : TopF K mg)  : G_lessened P w K mg base := by
  refine T.d_lessened.fn sc_lessened bd_lessened (fun vs H Q E h => ?len) fun f cdv A outer s H vs Q E hr h => ?walk
  case walk =>
    have hu := room1 hr
    have hu3 := room3 hr
    have hu64 := hr.units
    have hu65 := room65 hr
    refine ⟨_, (pss_cons (ps_if (pt_cmpR op_lt (pv 1) (pv 0) (nomark _)) (pss_one (ps_ret (pv 1))) pss_nil)
      (pss_one (ps_ret (pe_op op_add (pe_op op_mod (pe_op op_sub (pv 1) pe_int) (pe_op op_sub (pv 0) pe_int)) pe_int)))), ?_⟩
    obtain ⟨p, e, hp, hp2, r, k⟩ := h
    obtain ⟨_, _, rfl, rfl, rfl⟩ := All.l2 r
    refine sq (s_if (et_test (ev_I0 (ev_is rfl) (ev_is rfl))) (fun hb H1 e1 => ?_) fun hb H1 e1 => ?_)
    · refine s_ret (ev_is rfl) fun v H2 e2 rv => ?_
      refine k v H2 (e1.trans e2) ?_
      have hb' : e < (p : Int) := by simpa using hb
      unfold lessN
      rw [if_pos hb']
      exact rv
    · have hv : Ev (tOp (rI0 fun i j => .int (i + j)) (tOp (rI (fun _ j => 0 < j) fun i j => .int (i % j)) (tOp (rI0 fun i j => .int (i - j)) (tVar 1) (tC (.int 1))) (tOp (rI0 fun i j => .int (i - j)) (tVar 0) (tC (.int 1)))) (tC (.int 1))) [some (.int p), some (.int e)] H1 (IsI ((e - 1) % ((p : Int) - 1) + 1)) :=
        ev_I0 (ev_I (ev_I0 (ev_is rfl) ev_c) (ev_I0 (ev_is rfl) ev_c) (show (0 : Int) < (p : Int) - 1 by omega)) ev_c
      refine s_next (s_ret hv fun v H2 e2 rv => ?_)
      refine k v H2 (e1.trans e2) ?_
      have hb' : ¬ e < (p : Int) := by simpa using hb
      unfold lessN
      rw [if_neg hb']
      exact rv
  case len => obtain ⟨p, e, _, _, r, _⟩ := h; exact r.length
abbrev n_value_of : List Str := ["space", "power", "point", "found", "exponent", "number"]
theorem sc_value_of : FnScope n_value_of ["space", "power", "point"] (defScope s_value_of) := ⟨rfl, rfl, rfl, by decide +kernel, rfl, by decide +kernel, by decide +kernel⟩
theorem bd_value_of : BindB "value_of" "value_of" s_value_of ["space", "power", "point"] := fun _ _ _ _ _ _ us hl => match us, hl with | [_, _, _], _ => rfl

theorem mon_take {m x : Pt} (hl : m.length = x.length) {i : Nat} {e a : Int} (h : (m.zip x)[i]? = some (e, a)) : mon (m.take (i + 1)) (x.take (i + 1)) = mon (m.take i) (x.take i) * a ^ e.toNat := by
  rw [List.getElem?_zip_eq_some] at h
  have h1 : m[i]? = some e := h.1
  have h2 : x[i]? = some a := h.2
  rw [List.take_add_one, List.take_add_one, h1, h2]
  exact mon_snoc (by rw [List.length_take, List.length_take, hl])
def sp_value_of (K : PySem.W.Frag) : Sp := fun vs H Q E => ∃ (p n : Nat) (m x : Pt), Shape p n ∧ inSp p n m ∧ inSp p n x ∧ SpR [spR K p n, ptR m, ptR x] (IsI (mon m x % p)) vs H Q E
abbrev G_value_of (P : Program) (w : World) (K : PySem.W.Frag) (mg : Str → Option Value) (base : Heap) : Prop := GFn P w K mg base "value_of" 2 ["space", "power", "point"] (sp_value_of K)

theorem ok_value_of (T : TopF K mg) (g_raised_number : G_raised_number P w K mg base) : G_value_of P w K mg base := by
  refine T.d_value_of.fn sc_value_of bd_value_of (fun vs H Q E h => ?len) fun f cdv A outer s H vs Q E hr h => ?walk
  case walk =>
    have hu := room1 hr
    have hu3 := room3 hr
    have hu64 := hr.units
    have hu65 := room65 hr
    refine ⟨_, (pss_cons (ps_set (i := 3) sc_value_of.nd rfl (Or.inl rfl) pe_int)
      (pss_cons (ps_for PassesOwn.never rfl (k_zipA (K := K) rfl (by rfl) T.b_zip (pa_cons (pv 1) (pa_cons (pv 2) pa_nil))) (pg_tup rfl (pgs_cons (pg_name (i := 4) sc_value_of.nd rfl (Or.inl rfl)) (pgs_cons (pg_name (i := 5) sc_value_of.nd rfl (Or.inl rfl)) pgs_nil)))
      (pss_one (ps_set (i := 3) sc_value_of.nd rfl (Or.inl rfl) (pe_op op_mod (pe_op op_mul (pv 3) (pe_fn g_raised_number hr (by decide) (by rfl) (pa_cons (k_fld (K := K) rfl (pv 0) rfl) (pa_cons (pv 5) (pa_cons (pv 4) pa_nil))))) (k_fld (K := K) rfl (pv 0) rfl)))))
      (pss_one (ps_ret (pv 3))))), ?_⟩
    obtain ⟨p, n, m, x, S, hm, hx, r, k⟩ := h
    obtain ⟨a1, a2, a3, rfl, r1, r2, r3⟩ := All.l3 r
    have hp := S.p
    have hn := S.n
    refine sq (s_set ev_c fun v H1 e1 rv => ?_)
    obtain rfl : v = V.int 1 := rv
    refine sq (s_forD (srcD_zipT (xs := m) (ys := x) (A := IsI) (B := IsI) (ea_cons ((ev_var rfl (TMono.up e1.t r2)).imp fun v H1 e r => (ptR.tup r).f) (ea_cons ((ev_var rfl (TMono.up e1.t r3)).imp fun v H1 e r => (ptR.tup r).f) ea_nil)))
      (fun i σ H' => ∃ v4 v5, σ = [some a1, some a2, some a3, some (.int (mon (m.take i) (x.take i) % p)), v4, v5]) (fun H2 e2 => ?_) (fun H2 i t v σ' H0 H' ht e2 e0 pv e' hv => ?_) fun σ' H' e' pv => ?_)
    · refine ⟨none, none, ?_⟩
      rw [List.take_zero, mon_nil, Int.emod_eq_of_lt (by decide) (by omega)]
      rfl
    · obtain ⟨v4, v5, rfl⟩ := pv
      obtain ⟨te, ta⟩ := t
      have hz := List.getElem?_zip_eq_some.mp ht
      have he := hm.2 te (List.mem_of_getElem? hz.1)
      have ha := hx.2 ta (List.mem_of_getElem? hz.2)
      refine g_pair hv fun u1 u2 q1 q2 => ?_
      obtain rfl : u1 = .int te := q1
      obtain rfl : u2 = .int ta := q2
      have r1' : spR K p n a1 H' := Mono.up (e1.trans (e2.trans (e0.trans e'))) r1
      have hb : mon (m.take i) (x.take i) % (p : Int) < p := Int.emod_lt_of_pos _ (by omega)
      have hb0 : 0 ≤ mon (m.take i) (x.take i) % (p : Int) := Int.emod_nonneg _ (by omega)
      refine s_set (ev_I (ev_I (ev_is rfl) (ev_call (ea_cons (ev_prime T (ev_var rfl r1')) (ea_cons (ev_is rfl) (ea_cons (Ev.to (ev_is rfl) (j := .int ((te.toNat : Nat) : Int)) (by rw [Int.toNat_of_nonneg he.1])) ea_nil))) fun vs H1 Q E h => ⟨p, ta, te.toNat, by omega, by omega, by omega, h⟩) (.inl ⟨by omega, by omega⟩)) (ev_prime T (ev_var rfl r1')) (by omega)) fun v H3 e3 rv => ?_
      refine ⟨e0.trans (e'.trans e3), some (.int te), some (.int ta), ?_⟩
      rw [show v = _ from rv]
      have hh : mon (m.take i) (x.take i) % (p : Int) * (ta ^ te.toNat % p) % p = mon (m.take (i + 1)) (x.take (i + 1)) % p := by
        rw [mon_take (by rw [hm.1, hx.1]) ht]
        exact (Cg.mod (p := p) _).mul (Cg.mod _)
      rw [← hh]
      rfl
    · obtain ⟨v4, v5, rfl⟩ := pv
      refine s_ret (ev_is rfl) fun v H3 e3 rv => k v H3 (e1.trans (e'.trans e3)) ?_
      rw [show v = _ from rv]
      have h1 : (m.zip x).length = n := by rw [List.length_zip, hm.1, hx.1, Nat.min_self]
      rw [h1, List.take_of_length_le (by rw [hm.1]; exact Nat.le_refl _), List.take_of_length_le (by rw [hx.1]; exact Nat.le_refl _)]
      rfl
  case len => obtain ⟨p, n, m, x, _, _, _, r, _⟩ := h; exact r.length
abbrev n_Space_points : List Str := ["self"]
theorem sc_Space_points : FnScope n_Space_points ["self"] (defScope s_Space_points) := ⟨rfl, rfl, rfl, by decide +kernel, rfl, by decide +kernel, by decide +kernel⟩
theorem bd_Space_points : BindB "points" "Space.points" s_Space_points ["self"] := fun _ _ _ _ _ _ us hl => match us, hl with | [_], _ => rfl

def sp_Space_points (K : PySem.W.Frag) : Sp := fun vs H Q E => ∃ p n : Nat, Shape p n ∧ SpN [spR K p n] ((pts p n).map ptR) vs H Q E
abbrev G_Space_points (P : Program) (w : World) (K : PySem.W.Frag) (mg : Str → Option Value) (base : Heap) : Prop := GMt P w K mg base (He.ga K "Space") "points" 2 ["self"] (sp_Space_points K)

theorem ok_Space_points (T : TopF K mg) (g_tuples_of : G_tuples_of P w K mg base) : G_Space_points P w K mg base := by
  refine T.d_Space_points.fn sc_Space_points bd_Space_points (fun vs H Q E h => ?len) fun f cdv A outer s H vs Q E hr h => ?walk
  case walk =>
    have hu := room1 hr
    have hu3 := room3 hr
    have hu64 := hr.units
    have hu65 := room65 hr
    refine ⟨_, (pss_one (ps_ret (pe_fn g_tuples_of hr (by decide) (by rfl) (pa_cons (k_fld (K := K) rfl (pv 0) rfl) (pa_cons (k_fld (K := K) rfl (pv 0) rfl) pa_nil))))), ?_⟩
    obtain ⟨p, n, S, r, k⟩ := h
    obtain ⟨a1, rfl, r1⟩ := All.l1 r
    have hp := S.p
    have hn := S.n
    have hz := S.pow
    exact s_retN (ev_callN (ea_cons (ev_prime T (ev_var rfl r1)) (ea_cons (ev_count T (ev_var rfl r1)) ea_nil)) fun vs H1 Q E h => ⟨p, n, by omega, by omega, by omega, by omega, h⟩) k
  case len => obtain ⟨p, n, _, r, _⟩ := h; exact r.length
abbrev n_Space_is_point : List Str := ["self", "thing", "number"]
theorem sc_Space_is_point : FnScope n_Space_is_point ["self", "thing"] (defScope s_Space_is_point) := ⟨rfl, rfl, rfl, by decide +kernel, rfl, by decide +kernel, by decide +kernel⟩
theorem bd_Space_is_point : BindB "is_point" "Space.is_point" s_Space_is_point ["self", "thing"] := fun _ _ _ _ _ _ us hl => match us, hl with | [_, _], _ => rfl

def sp_Space_is_point (K : PySem.W.Frag) : Sp := fun vs H Q E => ∃ (p n : Nat) (x : Pt), Shape p n ∧ x.length ≤ 1000 ∧ SpR [spR K p n, ptR x] (IsB (decide (inSp p n x))) vs H Q E
abbrev G_Space_is_point (P : Program) (w : World) (K : PySem.W.Frag) (mg : Str → Option Value) (base : Heap) : Prop := GMt P w K mg base (He.ga K "Space") "is_point" 1 ["self", "thing"] (sp_Space_is_point K)

theorem ok_Space_is_point (T : TopF K mg)  : G_Space_is_point P w K mg base := by
  refine T.d_Space_is_point.fn sc_Space_is_point bd_Space_is_point (fun vs H Q E h => ?len) fun f cdv A outer s H vs Q E hr h => ?walk
  case walk =>
    have hu := room1 hr
    have hu3 := room3 hr
    have hu64 := hr.units
    have hu65 := room65 hr
    refine ⟨_, (pss_one (ps_ret (pe_and (pe_cmpR op_eq (pe_callB (k_len (K := K) rfl) (by rfl) T.b_len (by decide +kernel) (pa_cons (pv 1) pa_nil)) (k_fld (K := K) rfl (pv 0) rfl) (nomark _)) (pe_one (pe_callB (k_all (K := K) rfl rfl) (by rfl) T.b_all (by decide +kernel) (pa_cons (pe_lc (own := [("number", 2)]) (g := (gName 2)) (by rfl) sc_Space_is_point.nd (k_piT (K := K) rfl (pv 1)) (blkOk_by (own := [("number", 2)]) (N := n_Space_is_point) (sc := defScope s_Space_is_point) (by decide +kernel)) (fun _ _ _ _ _ => (pg_name (i := 2) sc_Space_is_point.nd rfl (Or.inl rfl))) (fun _ _ _ _ _ => pts_nil) (fun _ _ _ _ _ => (pe_chain op_le op_lt pe_int (pv 2) (k_fld (K := K) rfl (pv 0) rfl)))) pa_nil)))))), ?_⟩
    obtain ⟨p, n, x, S, hx, r, k⟩ := h
    obtain ⟨a1, a2, rfl, r1, r2⟩ := All.l2 r
    refine s_ret (ev_andV (ev_eqS (ev_len (ea_cons (ev_var rfl r2) ea_nil) fun v H1 r => len_pt r) (ev_count T (ev_var rfl r1)) rfl) fun hl => (ev_all (bs := x.map fun a : Int => decide (0 ≤ a) && decide (a < (p : Int))) (ea_cons (EvN.ev ?_) ea_nil))) fun v H1 e1 rv => ?_
    · exact ev_lc2v (C := IsB) (val := fun a : Int => decide (0 ≤ a) && decide (a < (p : Int))) (xs := x) (srcD_tup ((ev_var rfl r2).imp fun v H1 e r => (ptR.tup r).f)) (by rw [sizeLine_eq]; omega)
        fun t v H1 ht e1 rv => ⟨rfl, rfl, by
          obtain rfl : v = .int t := rv
          exact ev_chain (Ra := IsI 0) (Rb := IsI t) (Rc := IsI p) ev_c (ev_is rfl) (fun _ => ev_prime T (ev_var rfl (Mono.up e1 r1))) (fun x y H1 e rx ry => rv_val fun Q q => ⟨0, t, rx, ry, q⟩) fun _ x y H1 e rx ry => rv_val fun Q q => ⟨t, p, rx, ry, q⟩⟩
    · refine k v H1 e1 ?_
      rw [show v = _ from rv]
      show V.bl _ = V.bl _
      congr 1
      rw [Bool.eq_iff_iff]
      simp only [Bool.and_eq_true, decide_eq_true_eq, List.all_map, List.all_eq_true, Function.comp, id_eq]
      unfold inSp
      constructor
      · rintro ⟨h1, h2⟩
        exact ⟨by injection h1 with h1; omega, h2⟩
      · rintro ⟨h1, h2⟩
        exact ⟨by rw [h1], h2⟩
  case len => obtain ⟨p, n, x, _, _, r, _⟩ := h; exact r.length
abbrev n_Space_zero : List Str := ["self"]
theorem sc_Space_zero : FnScope n_Space_zero ["self"] (defScope s_Space_zero) := ⟨rfl, rfl, rfl, by decide +kernel, rfl, by decide +kernel, by decide +kernel⟩
theorem bd_Space_zero : BindB "zero" "Space.zero" s_Space_zero ["self"] := fun _ _ _ _ _ _ us hl => match us, hl with | [_], _ => rfl

def sp_Space_zero (K : PySem.W.Frag) : Sp := fun vs H Q E => ∃ p n : Nat, Shape p n ∧ SpR [spR K p n] (ptR (List.replicate n 0)) vs H Q E
abbrev G_Space_zero (P : Program) (w : World) (K : PySem.W.Frag) (mg : Str → Option Value) (base : Heap) : Prop := GMt P w K mg base (He.ga K "Space") "zero" 1 ["self"] (sp_Space_zero K)

theorem ok_Space_zero (T : TopF K mg)  : G_Space_zero P w K mg base := by
  refine T.d_Space_zero.fn sc_Space_zero bd_Space_zero (fun vs H Q E h => ?len) fun f cdv A outer s H vs Q E hr h => ?walk
  case walk =>
    have hu := room1 hr
    have hu3 := room3 hr
    have hu64 := hr.units
    have hu65 := room65 hr
    refine ⟨_, (pss_one (ps_ret (pe_op (k_repA (K := K) rfl) (pe_tup (pa_cons pe_int pa_nil)) (k_fld (K := K) rfl (pv 0) rfl)))), ?_⟩
    obtain ⟨p, n, S, r, k⟩ := h
    obtain ⟨a1, rfl, r1⟩ := All.l1 r
    have hn := S.n
    exact s_ret (ev_repP ((ev_tup (ea_cons ev_c ea_nil) (by show 1 ≤ _; decide)).imp fun v H1 e r => ptR_of (x := [0]) r) (ev_count T (ev_var rfl r1)) (by omega) (by omega)) k
  case len => obtain ⟨p, n, _, r, _⟩ := h; exact r.length
def degSort (xs : List Pt) : List Pt := xs.mergeSort fun x y => !keyLt List.sum y x
theorem degLe_total (x y : Pt) : ((!keyLt List.sum y x) || (!keyLt List.sum x y)) = true := by
  cases q1 : keyLt List.sum y x with
  | false => rfl
  | true =>
    cases q2 : keyLt List.sum x y with
    | false => rfl
    | true =>
      have := keyLt_trans q1 q2
      rw [keyLt_irrefl] at this
      cases this
theorem degLe_trans {x y z : Pt} (h : (!keyLt List.sum y x) = true) (k : (!keyLt List.sum z y) = true) : (!keyLt List.sum z x) = true := by
  rw [Bool.not_eq_true'] at h k ⊢
  by_cases e1 : x = y
  · rw [e1]; exact k
  · have q1 := keyLt_total (fun z => e1 z.symm) h
    by_cases e2 : y = z
    · rw [← e2]; exact h
    · have q2 := keyLt_total (fun z => e2 z.symm) k
      cases q3 : keyLt List.sum z x with
      | false => rfl
      | true =>
        have := keyLt_trans q1 (keyLt_trans q2 q3)
        rw [keyLt_irrefl] at this
        cases this
theorem degSort_perm (xs : List Pt) : (degSort xs).Perm xs := List.mergeSort_perm _ _
theorem degSort_ord (xs : List Pt) : (degSort xs).Pairwise fun x y => keyLt List.sum y x = false :=
  (List.pairwise_mergeSort (le := fun x y : Pt => !keyLt List.sum y x) (fun x y z h k => degLe_trans h k) (fun x y => degLe_total x y) xs).imp fun h => by simpa using h
theorem degSort_eq {xs ys : List Pt} (h : ys.Perm xs) (k : ys.Pairwise fun x y => keyLt List.sum y x = false) : ys = degSort xs := by
  refine perm_uniq (r := fun x y : Pt => !keyLt List.sum y x) (fun x y h1 h2 => ?_) (h.trans (degSort_perm xs).symm) (k.imp fun h => by rw [h]; rfl) ((degSort_ord xs).imp fun h => by rw [h]; rfl)
  by_cases e : x = y
  · exact e
  · have h1' : keyLt List.sum y x = false := by simpa using h1
    have h2' : keyLt List.sum x y = false := by simpa using h2
    have := keyLt_total e h2'
    rw [h1'] at this
    cases this
abbrev n_ascending : List Str := ["order", "powers"]
theorem sc_ascending : FnScope n_ascending ["order", "powers"] (defScope s_ascending) := ⟨rfl, rfl, rfl, by decide +kernel, rfl, by decide +kernel, by decide +kernel⟩
theorem bd_ascending : BindB "ascending" "ascending" s_ascending ["order", "powers"] := fun _ _ _ _ _ _ us hl => match us, hl with | [_, _], _ => rfl

def sp_ascending (K : PySem.W.Frag) : Sp := fun vs H Q E => ∃ xs : List Pt, SpN [tabR K (.str "degree"), lstR (xs.map ptR)] ((degSort xs).map ptR) vs H Q E
abbrev G_ascending (P : Program) (w : World) (K : PySem.W.Frag) (mg : Str → Option Value) (base : Heap) : Prop := GFn P w K mg base "ascending" 6 ["order", "powers"] (sp_ascending K)

theorem ok_ascending (T : TopF K mg) (TB : LamX.TabB base mg (He.cT K ("ascending", none)).1 (PL K)) (g_key_of : G_key_of P w K mg base) : G_ascending P w K mg base := by
  refine T.d_ascending.fn sc_ascending bd_ascending (fun vs H Q E h => ?len) fun f A outer s H vs Q E hr h => ?walk
  case walk =>
    have hu := room1 hr
    have hu3 := room3 hr
    have hu64 := hr.units
    have hu65 := room65 hr
    refine ⟨_, (pss_one (ps_ret (pe_sortLam (x := "power") (y := "order") (j := 0) (yv := .str "degree") (KF := List.sum) rfl hr (by rfl) T.b_sorted (pa_cons (pv 1) pa_nil) TB rfl (by rfl) (by rfl) (NdefX.nscope_by (by decide +kernel)) (NdefX.ndef_free (sc := defScope s_ascending) (fr := ["order"]) (by decide +kernel)) (by decide +kernel) rfl (fun _ _ _ _ _ _ => rfl) (fun f c' A outer s H hR => (pe_fn g_key_of hR (by decide) (by rfl) (pa_cons (pe_var (i := 1) rfl (Or.inr (Or.inr rfl))) (pa_cons (pe_var (i := 0) rfl (Or.inl rfl)) pa_nil)))) (fun pt v H hv => ev_call (ea_cons (ev_is rfl) (ea_cons (ev_var rfl hv) ea_nil)) fun vs H1 Q E h => ⟨pt, h⟩)))), ?_⟩
    obtain ⟨xs, r, k⟩ := h
    obtain ⟨a1, a2, rfl, r1, r2⟩ := All.l2 r
    obtain ⟨rfl, hT⟩ := r1
    refine ev_sortLam (K := K) (xs := xs) rfl hT (ea_cons (ev_var rfl r2) ea_nil) H (Ext.refl _) _ fun p ys ws H2 hp e2 h2 r2 hperm hord => ?_
    rw [degSort_eq hperm hord] at r2
    exact k p ws H2 hp e2 h2 r2
  case len => obtain ⟨xs, r, _⟩ := h; exact r.length
abbrev n_Space_powers : List Str := ["self", "order"]
theorem sc_Space_powers : FnScope n_Space_powers ["self", "order"] (defScope s_Space_powers) := ⟨rfl, rfl, rfl, by decide +kernel, rfl, by decide +kernel, by decide +kernel⟩
theorem bd_Space_powers : BindB "powers" "Space.powers" s_Space_powers ["self", "order"] := fun _ _ _ _ _ _ us hl => match us, hl with | [_, _], _ => rfl

def sp_Space_powers (K : PySem.W.Frag) : Sp := fun vs H Q E => ∃ p n : Nat, Shape p n ∧ SpN [spR K p n, Is (.str "degree")] ((degSort (pts p n)).map ptR) vs H Q E
abbrev G_Space_powers (P : Program) (w : World) (K : PySem.W.Frag) (mg : Str → Option Value) (base : Heap) : Prop := GMt P w K mg base (He.ga K "Space") "powers" 7 ["self", "order"] (sp_Space_powers K)

theorem ok_Space_powers (T : TopF K mg) (g_Space_points : G_Space_points P w K mg base) (g_ascending : G_ascending P w K mg base) : G_Space_powers P w K mg base := by
  refine T.d_Space_powers.fn sc_Space_powers bd_Space_powers (fun vs H Q E h => ?len) fun f cdv A outer s H vs Q E hr h => ?walk
  case walk =>
    have hu := room1 hr
    have hu3 := room3 hr
    have hu64 := hr.units
    have hu65 := room65 hr
    refine ⟨_, (pss_one (ps_ret (pe_fn g_ascending hr (by decide) (by rfl) (pa_cons (pv 1) (pa_cons (pe_mt0 (pv 0) T.c_Space g_Space_points hr (by decide)) pa_nil))))), ?_⟩
    obtain ⟨p, n, S, r, k⟩ := h
    obtain ⟨a1, _, rfl, r1, rfl⟩ := All.l2 r
    exact s_retN (ev_callN (ea_cons (ev_var rfl (R := tabR K (.str "degree")) ⟨rfl, r1.2⟩) (ea_cons (EvN.ev (ev_methN (ev_var rfl r1) (fun x H1 r => sp_ins r fun nm => rfl) ea_nil fun vs H1 Q E h => ⟨p, n, S, h⟩)) ea_nil)) fun vs H1 Q E h => ⟨pts p n, h⟩) k
  case len => obtain ⟨p, n, _, r, _⟩ := h; exact r.length
end SP
end
section
set_option Elab.async false
set_option linter.all false
set_option maxRecDepth 100000
set_option maxHeartbeats 4000000
namespace SP
open PySem PyProof.Rows L2
variable {P : Program} {w : World} {K : PySem.W.Frag} {mg : Str → Option Value} {base : Heap}
theorem iV_ne {p n : Nat} {kvs : Poly} (S : Shape p n) (h : ∀ x ∈ keysI kvs, inSp p n x) : ∀ t ∈ iV kvs, t.1 ≠ [] := fun t ht e => by
  obtain ⟨u, hu, rfl⟩ := List.mem_map.mp ht
  have h1 := (h u.1 (List.mem_map_of_mem hu)).1
  rw [show u.1 = [] from e] at h1
  have := S.n
  simp at h1
  omega
theorem keysI_len {p n : Nat} {kvs : Poly} (hn : (keysI kvs).Nodup) (h : ∀ x ∈ keysI kvs, inSp p n x) (S : Shape p n) : kvs.length ≤ 27 := by
  have := nodup_len hn h
  have h2 := S.pts
  rw [List.length_map] at this
  omega
abbrev n_from_numbers : List Str := ["space", "numbers", "rest", "power", "number"]
theorem sc_from_numbers : FnScope n_from_numbers ["space", "numbers"] (defScope s_from_numbers) := ⟨rfl, rfl, rfl, by decide +kernel, rfl, by decide +kernel, by decide +kernel⟩
theorem bd_from_numbers : BindB "from_numbers" "from_numbers" s_from_numbers ["space", "numbers"] := fun _ _ _ _ _ _ us hl => match us, hl with | [_, _], _ => rfl

def sp_from_numbers (K : PySem.W.Frag) : Sp := fun vs H Q E => ∃ (p n : Nat) (kvs : Poly), Shape p n ∧ (keysI kvs).Nodup ∧ (∀ x ∈ keysI kvs, inSp p n x) ∧ SpR [spR K p n, dR (iV kvs)] (polyY p n (vsum kvs)) vs H Q E
abbrev G_from_numbers (P : Program) (w : World) (K : PySem.W.Frag) (mg : Str → Option Value) (base : Heap) : Prop := GFn P w K mg base "from_numbers" 1 ["space", "numbers"] (sp_from_numbers K)

theorem ok_from_numbers (T : TopF K mg)  : G_from_numbers P w K mg base := by
  refine T.d_from_numbers.fn sc_from_numbers bd_from_numbers (fun vs H Q E h => ?len) fun f cdv A outer s H vs Q E hr h => ?walk
  case walk =>
    have hu := room1 hr
    have hu3 := room3 hr
    have hu64 := hr.units
    have hu65 := room65 hr
    refine ⟨_, (pss_cons (ps_set (i := 2) sc_from_numbers.nd rfl (Or.inr rfl) (pe_lock (pe_dcT (own := [("power", 3), ("number", 4)]) (g := (gTup K 2 (gCons (gName 3) (gCons (gName 4) gNil)))) hu (by rfl) sc_from_numbers.nd (pi_itemsT (pv 1)) (blkOk_by (own := [("power", 3), ("number", 4)]) (N := n_from_numbers) (sc := defScope s_from_numbers) (by decide +kernel)) (fun _ _ _ _ _ => (pg_tup rfl (pgs_cons (pg_name (i := 3) sc_from_numbers.nd rfl (Or.inl rfl)) (pgs_cons (pg_name (i := 4) sc_from_numbers.nd rfl (Or.inl rfl)) pgs_nil)))) (fun _ _ _ _ _ => pts_nil) (fun _ _ _ _ _ => (pv 3)) (fun _ _ _ _ _ => (pe_op op_mod (pv 4) (k_fld (K := K) rfl (pv 0) rfl))))))
      (pss_one (ps_ret (pe_callTy (k_tupZ (K := K) rfl) (by rfl) T.b_tuple (by decide +kernel) (pa_cons (pe_lc (own := [("power", 3)]) (g := (gName 3)) (by rfl) sc_from_numbers.nd (k_piL (K := K) rfl (pe_callBK (cr_sortedDR rfl hu64) (by rfl) T.b_sorted (by decide +kernel) (pa_cons (pv 2) pa_nil) (pk_cons pe_bl pk_nil))) (blkOk_by (own := [("power", 3)]) (N := n_from_numbers) (sc := defScope s_from_numbers) (by decide +kernel)) (fun _ _ _ _ _ => (pg_name (i := 3) sc_from_numbers.nd rfl (Or.inl rfl))) (fun _ _ _ _ _ => (pts_one (pt_cmpR op_ne (pe_dget hu (pv 2) (pv 3) (fun _ _ => rfl)) pe_int (nomark _)))) (fun _ _ _ _ _ => (pe_tup (pa_cons (pv 3) (pa_cons (pe_dget hu (pv 2) (pv 3) (fun _ _ => rfl)) pa_nil))))) pa_nil))))), ?_⟩
    obtain ⟨p, n, kvs, S, hnd, hk, r, k⟩ := h
    obtain ⟨a1, a2, rfl, r1, r2⟩ := All.l2 r
    have hp := S.p
    have hl := keysI_len hnd hk S
    obtain ⟨d, rfl, hd⟩ := r2
    have er : putL ((kvs.filter fun _ => true).map fun t => (t.1, V.int (t.2 % (p : Int)))) = iV (redI p kvs) := by
      rw [List.filter_eq_self.mpr (fun _ _ => rfl)]
      have e1 : (kvs.map fun t => (t.1, V.int (t.2 % (p : Int)))) = iV (redI p kvs) := by unfold iV redI; rw [List.map_map]; rfl
      rw [e1]
      exact putL_nodup (by rw [keys_iV, keys_red]; exact hnd)
    refine sq (s_setD (kvs := iV (redI p kvs)) (ev_lockD (kvs := iV kvs) ⟨d, hd, fun H1 e1 o => ?_⟩) fun p1 H1 hp1 e1 h1 => ?_)
    · have hd1 : H1 d = some (DT (iV kvs)) := e1.at hd
      have r1' : spR K p n a1 (upd H1 d (.frz o (DT (iV kvs)))) := (Mono.up e1 r1).upd hd1 trivial
      rw [← er]
      refine ev_dcT (f := fun _ => true) (key := fun t : Pt × Int => t.1) (val := fun t : Pt × Int => V.int (t.2 % (p : Int))) (xs := kvs) (srcD_map (g := fun t : Pt × Int => (t.1, V.int t.2)) (srcD_itemsT (ev_is rfl) upd_same)) (by rw [sizeLine_eq]; omega) fun t v H2 ht e2 rv => ?_
      refine g_pair rv fun u1 u2 q1 q2 => ⟨rfl, rfl, et_yes, fun _ => ⟨ev_var rfl q1, ?_⟩⟩
      obtain rfl : u2 = .int t.2 := q2
      exact ev_mod (ev_is rfl) (ev_prime T (ev_var rfl (Mono.up e2 r1'))) (by omega)
    · have hne := iV_ne (kvs := redI p kvs) S (by rw [keys_red]; exact hk)
      have ks : (iV (redI p kvs)).map (·.1) = keysI kvs := by rw [keys_iV, keys_red]
      dsimp only
      refine s_ret (ev_tupOfZ (Rs := (fromN p kvs).map pairR) (ea_cons (EvN.ev (EvN.cast (ev_lc (f := fun x => decide (getI (redI p kvs) x ≠ 0)) (B := fun x => pairR (x, getI (redI p kvs) x)) (xs := sortP true (keysI kvs)) (A := ptR)
        (by rw [← ks]; exact srcD_list (EvN.ev (ev_sortDR (kvs := iV (redI p kvs)) (ea_cons (ev_var rfl ⟨p1, rfl, h1⟩) ea_nil) (ea_cons ev_c ea_nil) hne))) (by rw [sortP_len, List.length_map, sizeLine_eq]; omega) fun x v H2 hx e2 rv => ?_) ?_)) ea_nil)) fun v H2 e2 rv => ?_
      · have hx' : x ∈ keysI (redI p kvs) := by rw [keys_red]; exact mem_sortP.mp hx
        have hdg := fun (σ : L2.St) (h2 : σ[2]? = some (some (.ref p1))) (h3 : σ[3]? = some (some v)) => ev_dget (td := tVar 2) (ty := tVar 3) (σ := σ) (H := H2) (kvs := iV (redI p kvs)) (ev_var h2 ⟨p1, rfl, e2.at h1⟩) (ev_var h3 rv) (valV_get hx')
        refine ⟨rfl, rfl, EvT.to (et_test (ev_neS (hdg _ rfl rfl) ev_c rfl)) ?_, fun _ => ?_⟩
        · rw [Bool.eq_iff_iff]
          simp
        · exact ev_tup (ea_cons (ev_var rfl rv) (ea_cons (hdg _ rfl rfl) ea_nil)) (by show 2 ≤ _; decide)
      · unfold fromN
        rw [List.map_map]
        rfl
      · exact k v H2 (e1.trans e2) ⟨fromN p kvs, fromN_canon (by omega) hnd hk, fun x _ => fromN_vals hnd x, rv⟩
  case len => obtain ⟨p, n, kvs, _, _, _, r, _⟩ := h; exact r.length
end SP
end
section
set_option Elab.async false
set_option linter.all false
set_option maxRecDepth 100000
set_option maxHeartbeats 4000000
namespace SP
open PySem PyProof.Rows L2
variable {P : Program} {w : World} {K : PySem.W.Frag} {mg : Str → Option Value} {base : Heap}
theorem mon_zero (n : Nat) : ∀ x : Pt, mon (List.replicate n 0) x = 1 := by
  induction n with
  | zero => intro x; rfl
  | succ n ih =>
    intro x
    cases x with
    | nil => rfl
    | cons a x =>
      show a ^ (0 : Int).toNat * mon (List.replicate n 0) x = 1
      rw [ih]
      simp
theorem zero_in {p n : Nat} (hp : 0 < p) : inSp p n (List.replicate n 0) := by
  refine ⟨List.length_replicate, fun a ha => ?_⟩
  rw [(List.mem_replicate.mp ha).2]
  omega
theorem lessN_small {p : Nat} {e : Int} (h : e < p) : lessN p e = e := if_pos h
theorem lessN_sum {p : Nat} (hp : 2 ≤ p) {i j : Int} (h0 : 0 ≤ i) (h1 : i < p) (k0 : 0 ≤ j) (k1 : j < p) : lessN p (i + j) = if i + j < p then i + j else i + j - (p - 1) := by
  unfold lessN
  by_cases h : i + j < (p : Int)
  · rw [if_pos h, if_pos h]
  · rw [if_neg h, if_neg h]
    have e : (i + j - 1) % ((p : Int) - 1) = i + j - 1 - (p - 1) := by
      rw [← Int.emod_eq_of_lt (a := i + j - 1 - (p - 1)) (b := (p : Int) - 1) (by omega) (by omega)]
      rw [Int.sub_emod_right]
    rw [e]
    omega
def mulP (p : Nat) (m k : Pt) : Pt := (m.zip k).map fun t => lessN p (t.1 + t.2)
theorem mulP_in {p : Nat} (hp : 2 ≤ p) : ∀ {n : Nat} {m k : Pt}, inSp p n m → inSp p n k → inSp p n (mulP p m k) := by
  intro n m k hm hk
  refine ⟨by unfold mulP; rw [List.length_map, List.length_zip, hm.1, hk.1, Nat.min_self], fun a ha => ?_⟩
  obtain ⟨t, ht, rfl⟩ := List.mem_map.mp ha
  have h1 := hm.2 t.1 (List.of_mem_zip ht).1
  have h2 := hk.2 t.2 (List.of_mem_zip ht).2
  rw [lessN_sum hp h1.1 h1.2 h2.1 h2.2]
  split <;> omega
theorem mulP_mon {p : Nat} (h : Pr p) : ∀ {m k x : Pt}, m.length = x.length → k.length = x.length → (∀ a ∈ m, 0 ≤ a ∧ a < p) → (∀ a ∈ k, 0 ≤ a ∧ a < p) → (∀ a ∈ x, 0 ≤ a ∧ a < p) → Cg p (mon (mulP p m k) x) (mon m x * mon k x)
  | [], [], [], _, _, _, _, _ => Cg.refl 1
  | e :: m, f :: k, a :: x, h1, h2, h3, h4, h5 => by
    have ih := mulP_mon h (m := m) (k := k) (x := x) (by simpa using h1) (by simpa using h2) (fun z hz => h3 z (List.mem_cons_of_mem _ hz)) (fun z hz => h4 z (List.mem_cons_of_mem _ hz)) (fun z hz => h5 z (List.mem_cons_of_mem _ hz))
    have he := h3 e (List.mem_cons_self ..)
    have hf := h4 f (List.mem_cons_self ..)
    have ha := h5 a (List.mem_cons_self ..)
    have l := less_ok h ha.1 ha.2 he.1 he.2 hf.1 hf.2
    rw [← lessN_sum h.two.1 he.1 he.2 hf.1 hf.2] at l
    show Cg p (a ^ (lessN p (e + f)).toNat * mon (mulP p m k) x) (a ^ e.toNat * mon m x * (a ^ f.toNat * mon k x))
    have e2 : a ^ e.toNat * mon m x * (a ^ f.toNat * mon k x) = a ^ e.toNat * a ^ f.toNat * (mon m x * mon k x) := by
      rw [Int.mul_assoc, Int.mul_assoc]
      congr 1
      rw [← Int.mul_assoc, ← Int.mul_assoc, Int.mul_comm (mon m x)]
    rw [e2]
    exact l.mul ih
  | [], _ :: _, [], _, h, _, _, _ => by simp at h
  | _ :: _, _, [], h, _, _, _, _ => by simp at h
  | [], _, _ :: _, h, _, _, _, _ => by simp at h
  | _ :: _, [], _ :: _, _, h, _, _, _ => by simp at h
theorem mulP_pts {p n : Nat} (h : Pr p) {m k x : Pt} (hm : inSp p n m) (hk : inSp p n k) (hx : x ∈ pts p n) : Cg p (mon (mulP p m k) x) (mon m x * mon k x) :=
  mulP_mon h (by rw [hm.1, (mem_pts.mp hx).1]) (by rw [hk.1, (mem_pts.mp hx).1]) hm.2 hk.2 (mem_pts.mp hx).2
section
variable {σ : L2.St} {H : Hp} {t : TA}
theorem ev_dictZ {f : Poly} (h : EvA t σ H [polyZ f]) (hz : f.length ≤ sizeLine) : EvD (tCB rDictZ t) σ H (putL (iV f)) := fun H1 e Q q =>
  h H1 e _ fun vs H2 e2 r => by
    obtain ⟨v, rfl, a, o, us, rfl, ha, ho, hus⟩ := All.l1 r
    refine ⟨a, o, us, iV f, rfl, ha, ho, by rw [List.length_map]; exact hz, ?_, fun p hp => ?_⟩
    · rw [List.map_map]
      exact hus
    · rw [putAll_kI]
      exact q p _ (e2.fresh hp) (e2.trans (Ext.new _ hp)) upd_same
end
abbrev n_constant : List Str := ["space", "number"]
theorem sc_constant : FnScope n_constant ["space", "number"] (defScope s_constant) := ⟨rfl, rfl, rfl, by decide +kernel, rfl, by decide +kernel, by decide +kernel⟩
theorem bd_constant : BindB "constant" "constant" s_constant ["space", "number"] := fun _ _ _ _ _ _ us hl => match us, hl with | [_, _], _ => rfl

def sp_constant (K : PySem.W.Frag) : Sp := fun vs H Q E => ∃ (p n : Nat) (c : Int), Shape p n ∧ SpR [spR K p n, IsI c] (polyY p n fun _ => c) vs H Q E
abbrev G_constant (P : Program) (w : World) (K : PySem.W.Frag) (mg : Str → Option Value) (base : Heap) : Prop := GFn P w K mg base "constant" 2 ["space", "number"] (sp_constant K)

theorem ok_constant (T : TopF K mg) (g_Space_zero : G_Space_zero P w K mg base) (g_from_numbers : G_from_numbers P w K mg base) : G_constant P w K mg base := by
  refine T.d_constant.fn sc_constant bd_constant (fun vs H Q E h => ?len) fun f cdv A outer s H vs Q E hr h => ?walk
  case walk =>
    have hu := room1 hr
    have hu3 := room3 hr
    have hu64 := hr.units
    have hu65 := room65 hr
    refine ⟨_, (pss_one (ps_ret (pe_fn g_from_numbers hr (by decide) (by rfl) (pa_cons (pv 0) (pa_cons (pe_disp1T hu (pe_mt0 (pv 0) T.c_Space g_Space_zero hr (by decide)) (pv 1)) pa_nil))))), ?_⟩
    obtain ⟨p, n, c, S, r, k⟩ := h
    obtain ⟨a1, _, rfl, r1, rfl⟩ := All.l2 r
    have hp := S.p
    refine s_ret (ev_call (ea_cons (ev_var rfl r1) (ea_cons (EvD.ev (ev_disp1T (k := List.replicate n 0) (v := .int c) (ev_meth (ev_var rfl r1) (fun x H1 r => sp_ins r fun nm => rfl) ea_nil fun vs H1 Q E h => ⟨p, n, S, h⟩) (ev_is rfl))) ea_nil)) fun vs H1 Q E h => ⟨p, n, [(List.replicate n 0, c)], S, by simp, fun x hx => by rw [List.mem_singleton.mp hx]; exact zero_in (by omega), h⟩) fun v H1 e1 rv => ?_
    refine k v H1 e1 (rv.to fun x _ => Cg.of ?_)
    rw [vsum_cons, vsum_nil, Int.add_zero, mon_zero, Int.mul_one]
  case len => obtain ⟨p, n, c, _, r, _⟩ := h; exact r.length
abbrev n_plus : List Str := ["space", "one", "other", "numbers", "power", "number"]
theorem sc_plus : FnScope n_plus ["space", "one", "other"] (defScope s_plus) := ⟨rfl, rfl, rfl, by decide +kernel, rfl, by decide +kernel, by decide +kernel⟩
theorem bd_plus : BindB "plus" "plus" s_plus ["space", "one", "other"] := fun _ _ _ _ _ _ us hl => match us, hl with | [_, _, _], _ => rfl

def sp_plus (K : PySem.W.Frag) : Sp := fun vs H Q E => ∃ (p n : Nat) (F G : Pt → Int), Shape p n ∧ SpR [spR K p n, polyY p n F, polyR p n G] (polyY p n fun x => F x + G x) vs H Q E
abbrev G_plus (P : Program) (w : World) (K : PySem.W.Frag) (mg : Str → Option Value) (base : Heap) : Prop := GFn P w K mg base "plus" 2 ["space", "one", "other"] (sp_plus K)

theorem ok_plus (T : TopF K mg) (g_from_numbers : G_from_numbers P w K mg base) : G_plus P w K mg base := by
  refine T.d_plus.fn sc_plus bd_plus (fun vs H Q E h => ?len) fun f cdv A outer s H vs Q E hr h => ?walk
  case walk =>
    have hu := room1 hr
    have hu3 := room3 hr
    have hu64 := hr.units
    have hu65 := room65 hr
    refine ⟨_, (pss_cons (ps_set (i := 3) sc_plus.nd rfl (Or.inl rfl) (pe_callTy (call_dictZ hu3 rfl) (by rfl) T.b_dict (by decide +kernel) (pa_cons (pv 1) pa_nil)))
      (pss_cons (ps_for PassesOwn.never rfl (k_piT (K := K) rfl (pv 2)) (pg_tup rfl (pgs_cons (pg_name (i := 4) sc_plus.nd rfl (Or.inl rfl)) (pgs_cons (pg_name (i := 5) sc_plus.nd rfl (Or.inl rfl)) pgs_nil)))
      (pss_one (ps_dput hu (pv 3) (pv 4) (pe_op op_add (pe_dget2 hu (pv 3) (pv 4) pe_int ⟨rfl, rfl, rfl, rfl⟩) (pv 5)) rfl)))
      (pss_one (ps_ret (pe_fn g_from_numbers hr (by decide) (by rfl) (pa_cons (pv 0) (pa_cons (pv 3) pa_nil))))))), ?_⟩
    obtain ⟨p, n, F, G, S, r, k⟩ := h
    obtain ⟨a1, a2, a3, rfl, r1, r2, r3⟩ := All.l3 r
    obtain ⟨f, cf, vf, rf⟩ := r2
    obtain ⟨g, cg, vg, rg⟩ := r3
    have hl : f.length ≤ 27 := Nat.le_trans cf.len S.pts
    have ef : putL (iV f) = iV f := putL_nodup (by rw [keys_iV]; exact cf.nodup)
    refine sq (s_setD (kvs := iV f) (ef ▸ ev_dictZ (ea_cons (ev_var rfl rf) ea_nil) (by rw [sizeLine_eq]; omega)) fun d H1 hd e1 h1 => ?_)
    dsimp only
    refine sq (s_forB (Hb := H) (srcB_tup (xs := g) (A := pairR) (ev_var rfl rg)) e1 (fun i σ' H' => ∃ kvs v4 v5, σ' = [some a1, some a2, some a3, some (.ref d), v4, v5] ∧ H' d = some (DT (iV kvs)) ∧ (keysI kvs).Nodup ∧ (∀ x ∈ keysI kvs, inSp p n x) ∧ ∀ x, vsum kvs x = vsum f x + vsum (g.take i) x) (fun H2 e2 => ?_) (fun H2 i t v σ' H0 H' ht e2 e0 t0 pv e' hv => ?_) fun σ' H' e' t' pv => ?_)
    · exact ⟨f, none, none, rfl, e2.at h1, cf.nodup, fun x hx => by obtain ⟨t, ht, rfl⟩ := List.mem_map.mp hx; exact cf.pow t ht, fun x => by rw [List.take_zero, vsum_nil, Int.add_zero]⟩
    · obtain ⟨kvs, v4, v5, rfl, hk1, hk2, hk3, hk4⟩ := pv
      have hlk := keysI_len hk2 hk3 S
      refine g_pair hv fun u1 u2 q1 q2 => ?_
      obtain rfl : u2 = .int t.2 := q2
      have hd' : H' d = some (DT (iV kvs)) := e'.at hk1
      have hx := cg.pow t (List.mem_of_getElem? ht)
      refine s_dput (R := IsI (getI kvs t.1 + t.2)) hd' (ev_I0 (Ev.to (ev_dget2 (kvs := iV kvs) (k := t.1) (v := .int 0) (ev_var rfl ⟨d, rfl, hd'⟩) (ev_var rfl q1) ev_c) (get_iV kvs t.1)) (ev_is rfl)) (ev_is rfl) (ev_var rfl q1) (by rw [List.length_map, sizeLine_eq]; omega) fun v H3 e3 rv => ?_
      obtain rfl : v = .int (getI kvs t.1 + t.2) := rv
      rw [put_iV]
      have h3 := e3.at hd'
      refine ⟨((e0.trans e').trans e3).mut hd h3 trivial, ((t0.trans e'.t).trans e3.t).trans (TEx.upd h3 trivial), putI kvs t.1 (getI kvs t.1 + t.2), some u1, some (.int t.2), rfl, upd_same, putI_nodup hk2, putI_all hk3 hx, fun x => ?_⟩
      rw [vsum_put hk2, hk4, vsum_take ht]
      have : getI kvs t.1 + t.2 - getI kvs t.1 = t.2 := by omega
      rw [this]
      omega
    · obtain ⟨kvs, v4, v5, rfl, hk1, hk2, hk3, hk4⟩ := pv
      dsimp only
      refine s_ret (ev_call (ea_cons (ev_var rfl (Mono.up e' r1)) (ea_cons (ev_var rfl (R := dR (iV kvs)) ⟨d, rfl, hk1⟩) ea_nil)) fun vs H1 Q E h => ⟨p, n, kvs, S, hk2, hk3, h⟩) fun v H3 e3 rv => ?_
      refine k v H3 (e'.trans e3) (rv.to fun x hx => ?_)
      rw [hk4, List.take_length]
      exact (vf x hx).add (vg x hx)
  case len => obtain ⟨p, n, F, G, _, r, _⟩ := h; exact r.length
abbrev n_value : List Str := ["space", "one", "point", "power", "number"]
theorem sc_value : FnScope n_value ["space", "one", "point"] (defScope s_value) := ⟨rfl, rfl, rfl, by decide +kernel, rfl, by decide +kernel, by decide +kernel⟩
theorem bd_value : BindB "value" "value" s_value ["space", "one", "point"] := fun _ _ _ _ _ _ us hl => match us, hl with | [_, _, _], _ => rfl

def sp_value (K : PySem.W.Frag) : Sp := fun vs H Q E => ∃ (p n : Nat) (F : Pt → Int) (x : Pt), Shape p n ∧ x ∈ pts p n ∧ SpR [spR K p n, polyR p n F, ptR x] (IsI (F x % p)) vs H Q E
abbrev G_value (P : Program) (w : World) (K : PySem.W.Frag) (mg : Str → Option Value) (base : Heap) : Prop := GFn P w K mg base "value" 3 ["space", "one", "point"] (sp_value K)

theorem ok_value (T : TopF K mg) (g_value_of : G_value_of P w K mg base) : G_value P w K mg base := by
  refine T.d_value.fn sc_value bd_value (fun vs H Q E h => ?len) fun f cdv A outer s H vs Q E hr h => ?walk
  case walk =>
    have hu := room1 hr
    have hu3 := room3 hr
    have hu64 := hr.units
    have hu65 := room65 hr
    refine ⟨_, (pss_one (ps_ret (pe_op op_mod (pe_callB (k_sum (K := K) rfl rfl) (by rfl) T.b_sum (by decide +kernel) (pa_cons (pe_lc (own := [("power", 3), ("number", 4)]) (g := (gTup K 2 (gCons (gName 3) (gCons (gName 4) gNil)))) (by rfl) sc_value.nd (k_piT (K := K) rfl (pv 1)) (blkOk_by (own := [("power", 3), ("number", 4)]) (N := n_value) (sc := defScope s_value) (by decide +kernel)) (fun _ _ _ _ _ => (pg_tup rfl (pgs_cons (pg_name (i := 3) sc_value.nd rfl (Or.inl rfl)) (pgs_cons (pg_name (i := 4) sc_value.nd rfl (Or.inl rfl)) pgs_nil)))) (fun _ _ _ _ _ => pts_nil) (fun _ _ _ _ _ => (pe_op op_mul (pv 4) (pe_fn g_value_of hr (by decide) (by rfl) (pa_cons (pv 0) (pa_cons (pv 3) (pa_cons (pv 2) pa_nil))))))) pa_nil)) (k_fld (K := K) rfl (pv 0) rfl)))), ?_⟩
    obtain ⟨p, n, F, x, S, hx, r, k⟩ := h
    obtain ⟨a1, a2, a3, rfl, r1, r2, r3⟩ := All.l3 r
    obtain ⟨f, cf, vf, rf⟩ := r2
    have hp := S.p
    have hl : f.length ≤ 27 := Nat.le_trans cf.len S.pts
    refine s_ret (ev_mod (ev_sum (ns := f.map fun t => t.2 * (mon t.1 x % (p : Int))) (ea_cons (EvN.ev (ev_lc2v (C := IsI) (val := fun t : Pt × Int => t.2 * (mon t.1 x % (p : Int))) (xs := f) (A := pairR) (srcD_tup (ev_var rfl rf)) (by rw [sizeLine_eq]; omega) fun t v H1 ht e1 rv => g_pair rv fun u1 u2 q1 q2 => ⟨rfl, rfl, ?_⟩)) ea_nil)) (ev_prime T (ev_var rfl r1)) (by omega)) fun v H1 e1 rv => ?_
    · obtain rfl : u2 = .int t.2 := q2
      have ht2 := cf.num t ht
      exact ev_mul (ev_is rfl) (ev_call (ea_cons (ev_var rfl (Mono.up e1 r1)) (ea_cons (ev_var rfl q1) (ea_cons (ev_var rfl (TMono.up e1.t r3)) ea_nil))) fun vs H1 Q E h => ⟨p, n, t.1, x, S, cf.pow t ht, mem_pts.mp hx, h⟩) (.inl ⟨by omega, by omega⟩)
    · refine k v H1 e1 ?_
      rw [show v = _ from rv]
      show V.int _ = V.int _
      congr 1
      have h1 : Cg p (f.map fun t => t.2 * (mon t.1 x % (p : Int))).sum (vsum f x) := by
        show Cg p (lsum f fun t => t.2 * (mon t.1 x % (p : Int))) _
        exact lsum_cg fun t _ => (Cg.refl t.2).mul (Cg.mod _)
      exact h1.trans (vf x hx)
  case len => obtain ⟨p, n, F, x, _, _, r, _⟩ := h; exact r.length
end SP
end
section
set_option Elab.async false
set_option linter.all false
set_option maxRecDepth 100000
set_option maxHeartbeats 4000000
namespace SP
open PySem PyProof.Rows L2
variable {P : Program} {w : World} {K : PySem.W.Frag} {mg : Str → Option Value} {base : Heap}
abbrev n_times : List Str := ["space", "one", "other", "numbers", "power", "number", "second", "factor", "both", "here", "there"]
theorem sc_times : FnScope n_times ["space", "one", "other"] (defScope s_times) := ⟨rfl, rfl, rfl, by decide +kernel, rfl, by decide +kernel, by decide +kernel⟩
theorem bd_times : BindB "times" "times" s_times ["space", "one", "other"] := fun _ _ _ _ _ _ us hl => match us, hl with | [_, _, _], _ => rfl

def sp_times (K : PySem.W.Frag) : Sp := fun vs H Q E => ∃ (p n : Nat) (F G : Pt → Int), Shape p n ∧ SpR [spR K p n, polyR p n F, polyR p n G] (polyY p n fun x => F x * G x) vs H Q E
abbrev G_times (P : Program) (w : World) (K : PySem.W.Frag) (mg : Str → Option Value) (base : Heap) : Prop := GFn P w K mg base "times" 2 ["space", "one", "other"] (sp_times K)

theorem ok_times (T : TopF K mg) (g_from_numbers : G_from_numbers P w K mg base) (g_lessened : G_lessened P w K mg base) : G_times P w K mg base := by
  refine T.d_times.fn sc_times bd_times (fun vs H Q E h => ?len) fun f cdv A outer s H vs Q E hr h => ?walk
  case walk =>
    have hu := room1 hr
    have hu3 := room3 hr
    have hu64 := hr.units
    have hu65 := room65 hr
    refine ⟨_, (pss_cons (ps_set (i := 3) sc_times.nd rfl (Or.inl rfl) pe_dnewT)
      (pss_cons (ps_for PassesOwn.never rfl (k_piT (K := K) rfl (pv 1)) (pg_tup rfl (pgs_cons (pg_name (i := 4) sc_times.nd rfl (Or.inl rfl)) (pgs_cons (pg_name (i := 5) sc_times.nd rfl (Or.inl rfl)) pgs_nil)))
      (pss_one (ps_for PassesOwn.never rfl (k_piT (K := K) rfl (pv 2)) (pg_tup rfl (pgs_cons (pg_name (i := 6) sc_times.nd rfl (Or.inl rfl)) (pgs_cons (pg_name (i := 7) sc_times.nd rfl (Or.inl rfl)) pgs_nil)))
      (pss_cons (ps_set (i := 8) sc_times.nd rfl (Or.inl rfl) (pe_callTy (k_tup (K := K) rfl) (by rfl) T.b_tuple (by decide +kernel) (pa_cons (pe_lc (own := [("here", 9), ("there", 10)]) (g := (gTup K 2 (gCons (gName 9) (gCons (gName 10) gNil)))) (by rfl) sc_times.nd (k_zipA (K := K) rfl (by rfl) T.b_zip (pa_cons (pv 4) (pa_cons (pv 6) pa_nil))) (blkOk_by (own := [("here", 9), ("there", 10)]) (N := n_times) (sc := defScope s_times) (by decide +kernel)) (fun _ _ _ _ _ => (pg_tup rfl (pgs_cons (pg_name (i := 9) sc_times.nd rfl (Or.inl rfl)) (pgs_cons (pg_name (i := 10) sc_times.nd rfl (Or.inl rfl)) pgs_nil)))) (fun _ _ _ _ _ => pts_nil) (fun _ _ _ _ _ => (pe_fn g_lessened hr (by decide) (by rfl) (pa_cons (k_fld (K := K) rfl (pv 0) rfl) (pa_cons (pe_op op_add (pv 9) (pv 10)) pa_nil))))) pa_nil)))
      (pss_one (ps_dput hu (pv 3) (pv 8) (pe_op op_mod (pe_op op_add (pe_dget2 hu (pv 3) (pv 8) pe_int ⟨rfl, rfl, rfl, rfl⟩) (pe_op op_mul (pv 5) (pv 7))) (k_fld (K := K) rfl (pv 0) rfl)) rfl))))))
      (pss_one (ps_ret (pe_fn g_from_numbers hr (by decide) (by rfl) (pa_cons (pv 0) (pa_cons (pv 3) pa_nil))))))), ?_⟩
    obtain ⟨p, n, F, G, S, r, k⟩ := h
    obtain ⟨a1, a2, a3, rfl, r1, r2, r3⟩ := All.l3 r
    obtain ⟨f, cf, vf, rf⟩ := r2
    obtain ⟨g, cg, vg, rg⟩ := r3
    have hp := S.p
    have hn := S.n
    refine sq (s_setD (kvs := iV []) ev_dnewT fun d H1 hd e1 h1 => ?_)
    dsimp only
    refine sq (s_forB (Hb := H) (srcB_tup (xs := f) (A := pairR) (ev_var rfl rf)) e1 (fun i σ' H' => ∃ kvs v4 v5 v6 v7 v8 v9 v10, σ' = [some a1, some a2, some a3, some (.ref d), v4, v5, v6, v7, v8, v9, v10] ∧ H' d = some (DT (iV kvs)) ∧ (keysI kvs).Nodup ∧ (∀ x ∈ keysI kvs, inSp p n x) ∧ ∀ x ∈ pts p n, Cg p (vsum kvs x) (vsum (f.take i) x * vsum g x)) (fun H2 e2 => ?_) (fun H2 i t v σ' H0 H' ht e2 e0 t0 pv e' hv => ?_) fun σ' H' e' t' pv => ?_)
    · exact ⟨[], none, none, none, none, none, none, none, rfl, e2.at h1, List.nodup_nil, (fun x hx => nomatch hx), fun x hx => by rw [List.take_zero, vsum_nil, Int.zero_mul]; exact Cg.refl 0⟩
    · obtain ⟨kvs, v4, v5, v6, v7, v8, v9, v10, rfl, hk1, hk2, hk3, hk4⟩ := pv
      refine g_pair hv fun u1 u2 q1 q2 => ?_
      obtain rfl : u2 = .int t.2 := q2
      have hm := cf.pow t (List.mem_of_getElem? ht)
      have ht2 := cf.num t (List.mem_of_getElem? ht)
      refine s_forB (Hb := H) (srcB_tup (xs := g) (A := pairR) (ev_var rfl rg)) (e0.trans e') (fun j σ' H' => ∃ kvs v6 v7 v8 v9 v10, σ' = [some a1, some a2, some a3, some (.ref d), some u1, some (.int t.2), v6, v7, v8, v9, v10] ∧ H' d = some (DT (iV kvs)) ∧ (keysI kvs).Nodup ∧ (∀ x ∈ keysI kvs, inSp p n x) ∧ ∀ x ∈ pts p n, Cg p (vsum kvs x) (vsum (f.take i) x * vsum g x + t.2 * mon t.1 x * vsum (g.take j) x)) (fun H3 e3 => ?_) (fun H3 j s v' σ' H4 H5 hs e3 e4 t4 pv e5 hv' => ?_) fun σ' H4 e4 t4 pv => ?_
      · exact ⟨kvs, v6, v7, v8, v9, v10, rfl, e3.at (e'.at hk1), hk2, hk3, fun x hx => by rw [List.take_zero, vsum_nil, Int.mul_zero, Int.add_zero]; exact hk4 x hx⟩
      · obtain ⟨kvs, v6, v7, v8, v9, v10, rfl, hk1, hk2, hk3, hk4⟩ := pv
        have hlk := keysI_len hk2 hk3 S
        refine g_pair hv' fun w1 w2 p1 p2 => ?_
        obtain rfl : w2 = .int s.2 := p2
        have hq := cg.pow s (List.mem_of_getElem? hs)
        have hs2 := cg.num s (List.mem_of_getElem? hs)
        have q1' : ptR t.1 u1 H5 := TMono.up (e3.t.trans (t4.trans e5.t)) q1
        have r1' : spR K p n a1 H5 := Mono.up (e4.trans e5) r1
        refine sq (s_set (R := ptR (mulP p t.1 s.1)) (ev_tupP (ea_cons (EvN.ev (ev_lc2v (C := IsI) (val := fun t : Int × Int => lessN p (t.1 + t.2)) (xs := t.1.zip s.1) (A := fun p => tupR [IsI p.1, IsI p.2]) (srcD_zipT (xs := t.1) (ys := s.1) (A := IsI) (B := IsI) (ea_cons (Ev.imp (ev_var rfl q1') fun v H1 e r => (ptR.tup r).f) (ea_cons (Ev.imp (ev_var rfl p1) fun v H1 e r => (ptR.tup r).f) ea_nil))) (by rw [List.length_zip, hm.1, sizeLine_eq]; omega) fun z v H6 hz e6 rv => g_pair rv fun y1 y2 z1 z2 => ⟨rfl, rfl, ?_⟩)) ea_nil)) fun v H6 e6 rv => ?_)
        · obtain rfl : y1 = .int z.1 := z1
          obtain rfl : y2 = .int z.2 := z2
          exact ev_call (ea_cons (ev_prime T (ev_var rfl (Mono.up e6 r1'))) (ea_cons (ev_I0 (ev_is rfl) (ev_is rfl)) ea_nil)) fun vs H1 Q E h => ⟨p, z.1 + z.2, by omega, by omega, h⟩
        · have hd' : H6 d = some (DT (iV kvs)) := e6.at (e5.at hk1)
          dsimp only
          refine s_dput (R := IsI ((getI kvs (mulP p t.1 s.1) + t.2 * s.2) % p)) hd' (ev_mod (ev_I0 (Ev.to (ev_dget2 (kvs := iV kvs) (k := mulP p t.1 s.1) (v := .int 0) (ev_var rfl ⟨d, rfl, hd'⟩) (ev_var rfl rv) ev_c) (get_iV kvs _)) (ev_mul (ev_is rfl) (ev_is rfl) (.inl ⟨by omega, by omega⟩))) (ev_prime T (ev_var rfl (Mono.up e6 r1'))) (by omega)) (ev_is rfl) (ev_var rfl rv) (by rw [List.length_map, sizeLine_eq]; omega) fun v7' H7 e7 rv7 => ?_
          obtain rfl : v7' = .int ((getI kvs (mulP p t.1 s.1) + t.2 * s.2) % p) := rv7
          rw [put_iV]
          have h3 := e7.at hd'
          refine ⟨(((e4.trans e5).trans e6).trans e7).mut hd h3 trivial, (t4.trans (e5.t.trans (e6.t.trans e7.t))).trans (TEx.upd h3 trivial), putI kvs (mulP p t.1 s.1) ((getI kvs (mulP p t.1 s.1) + t.2 * s.2) % p), some w1, some (.int s.2), some v, v9, v10, rfl, upd_same, putI_nodup hk2, putI_all hk3 (mulP_in hp.1 hm hq), fun x hx => ?_⟩
          rw [vsum_put hk2, vsum_take hs]
          have h4 := hk4 x hx
          have h5 : Cg p (((getI kvs (mulP p t.1 s.1) + t.2 * s.2) % p - getI kvs (mulP p t.1 s.1)) * mon (mulP p t.1 s.1) x) (t.2 * s.2 * (mon t.1 x * mon s.1 x)) :=
            (((Cg.mod _).sub (Cg.refl _)).trans (Cg.of (by omega))).mul (mulP_pts S.pr hm hq hx)
          exact (h4.add h5).trans (Cg.of (by grind))
      · obtain ⟨kvs, v6, v7, v8, v9, v10, rfl, hk1, hk2, hk3, hk4⟩ := pv
        refine ⟨e4, t0.trans (e'.t.trans t4), kvs, some u1, some (.int t.2), v6, v7, v8, v9, v10, rfl, hk1, hk2, hk3, fun x hx => ?_⟩
        have h4 := hk4 x hx
        rw [List.take_length] at h4
        rw [vsum_take ht]
        exact h4.trans (Cg.of (by grind))
    · obtain ⟨kvs, v4, v5, v6, v7, v8, v9, v10, rfl, hk1, hk2, hk3, hk4⟩ := pv
      dsimp only
      refine s_ret (ev_call (ea_cons (ev_var rfl (Mono.up e' r1)) (ea_cons (ev_var rfl (R := dR (iV kvs)) ⟨d, rfl, hk1⟩) ea_nil)) fun vs H1 Q E h => ⟨p, n, kvs, S, hk2, hk3, h⟩) fun v H3 e3 rv => ?_
      refine k v H3 (e'.trans e3) (rv.to fun x hx => ?_)
      have h4 := hk4 x hx
      rw [List.take_length] at h4
      exact h4.trans ((vf x hx).mul (vg x hx))
  case len => obtain ⟨p, n, F, G, _, r, _⟩ := h; exact r.length
end SP
end
section
set_option Elab.async false
set_option linter.all false
set_option maxRecDepth 100000
set_option maxHeartbeats 4000000
namespace SP
open PySem PyProof.Rows L2
variable {P : Program} {w : World} {K : PySem.W.Frag} {mg : Str → Option Value} {base : Heap}
abbrev n_raised : List Str := ["space", "one", "exponent", "found", "_"]
theorem sc_raised : FnScope n_raised ["space", "one", "exponent"] (defScope s_raised) := ⟨rfl, rfl, rfl, by decide +kernel, rfl, by decide +kernel, by decide +kernel⟩
theorem bd_raised : BindB "raised" "raised" s_raised ["space", "one", "exponent"] := fun _ _ _ _ _ _ us hl => match us, hl with | [_, _, _], _ => rfl

def sp_raised (K : PySem.W.Frag) : Sp := fun vs H Q E => ∃ (p n : Nat) (F : Pt → Int) (e : Nat), Shape p n ∧ e < p ∧ SpR [spR K p n, polyR p n F, IsI e] (polyY p n fun x => F x ^ e) vs H Q E
abbrev G_raised (P : Program) (w : World) (K : PySem.W.Frag) (mg : Str → Option Value) (base : Heap) : Prop := GFn P w K mg base "raised" 3 ["space", "one", "exponent"] (sp_raised K)

theorem ok_raised (T : TopF K mg) (g_constant : G_constant P w K mg base) (g_lessened : G_lessened P w K mg base) (g_times : G_times P w K mg base) : G_raised P w K mg base := by
  refine T.d_raised.fn sc_raised bd_raised (fun vs H Q E h => ?len) fun f cdv A outer s H vs Q E hr h => ?walk
  case walk =>
    have hu := room1 hr
    have hu3 := room3 hr
    have hu64 := hr.units
    have hu65 := room65 hr
    refine ⟨_, (pss_cons (ps_set (i := 3) sc_raised.nd rfl (Or.inl rfl) (pe_fn g_constant hr (by decide) (by rfl) (pa_cons (pv 0) (pa_cons pe_int pa_nil))))
      (pss_cons (ps_for PassesOwn.never rfl (pi_range1 (by rfl) T.b_range (pa_cons (pe_fn g_lessened hr (by decide) (by rfl) (pa_cons (k_fld (K := K) rfl (pv 0) rfl) (pa_cons (pv 2) pa_nil))) pa_nil)) (pg_name (i := 4) sc_raised.nd rfl (Or.inl rfl))
      (pss_one (ps_set (i := 3) sc_raised.nd rfl (Or.inl rfl) (pe_fn g_times hr (by decide) (by rfl) (pa_cons (pv 0) (pa_cons (pv 3) (pa_cons (pv 1) pa_nil)))))))
      (pss_one (ps_ret (pv 3))))), ?_⟩
    obtain ⟨p, n, F, e, S, he, r, k⟩ := h
    obtain ⟨a1, a2, _, rfl, r1, r2, rfl⟩ := All.l3 r
    have hp := S.p
    refine sq (s_set (R := polyY p n fun _ => 1) (ev_call (ea_cons (ev_var rfl r1) (ea_cons ev_c ea_nil)) fun vs H1 Q E h => ⟨p, n, 1, S, h⟩) fun v H1 e1 rv => ?_)
    dsimp only
    refine sq (s_forD (srcD_range (n := e) (ea_cons (Ev.to (ev_call (R := IsI (lessN p e)) (ea_cons (ev_prime T (ev_var rfl (Mono.up e1 r1))) (ea_cons (ev_is rfl) ea_nil)) fun vs H1 Q E h => ⟨p, e, by omega, by omega, h⟩) (by rw [lessN_small (by omega)])) ea_nil) (by omega)) (fun i σ' H' => ∃ u v4, σ' = [some a1, some a2, some (.int e), some u, v4] ∧ polyY p n (fun x => F x ^ i) u H') (fun H2 e2 => ?_) (fun H2 i t v' σ' H0 H' ht e2 e0 pv e' hv => ?_) fun σ' H' e' pv => ?_)
    · exact ⟨v, none, rfl, (TMono.up e2.t rv : polyY p n (fun _ => 1) v H2).to fun x _ => Cg.of (by rw [Int.pow_zero])⟩
    · obtain ⟨u, v4, rfl, hu1⟩ := pv
      obtain rfl : v' = .int t := hv
      refine s_set (R := polyY p n fun x => F x ^ i * F x) (ev_call (ea_cons (ev_var rfl (Mono.up (e1.trans (e2.trans (e0.trans e'))) r1)) (ea_cons (ev_var rfl (TMono.up e'.t hu1).r) (ea_cons (ev_var rfl (TMono.up (e1.t.trans (e2.t.trans (e0.t.trans e'.t))) r2)) ea_nil))) fun vs H1 Q E h => ⟨p, n, _, F, S, h⟩) fun w H3 e3 rw => ?_
      exact ⟨e0.trans (e'.trans e3), w, some (.int t), rfl, rw.to fun x _ => Cg.of (by rw [Int.pow_succ])⟩
    · obtain ⟨u, v4, rfl, hu1⟩ := pv
      rw [List.length_range] at hu1
      dsimp only
      exact s_ret (ev_var rfl hu1) fun w H3 e3 rw => k w H3 (e1.trans (e'.trans e3)) rw
  case len => obtain ⟨p, n, F, e, _, _, r, _⟩ := h; exact r.length
abbrev stepP (p : Nat) (Gs : List (Pt → Int)) (x : Pt) : Pt := Gs.map fun G => G x % (p : Int)
theorem step_in {p n : Nat} (hp : 0 < p) {Gs : List (Pt → Int)} (h : Gs.length = n) (x : Pt) : stepP p Gs x ∈ pts p n := by
  refine mem_pts.mpr ⟨by rw [List.length_map, h], fun a ha => ?_⟩
  obtain ⟨G, _, rfl⟩ := List.mem_map.mp ha
  exact ⟨Int.emod_nonneg _ (by omega), Int.emod_lt_of_pos _ (by omega)⟩
def prodG (m : Pt) (Gs : List (Pt → Int)) (x : Pt) : Int := mon m (Gs.map fun G => G x)
theorem prodG_take {m : Pt} {Gs : List (Pt → Int)} (hl : m.length = Gs.length) {i : Nat} {e : Int} {G : Pt → Int} (h : (m.zip Gs)[i]? = some (e, G)) (x : Pt) : prodG (m.take (i + 1)) (Gs.take (i + 1)) x = prodG (m.take i) (Gs.take i) x * G x ^ e.toNat := by
  unfold prodG
  rw [List.getElem?_zip_eq_some] at h
  have h2 : (Gs.map fun G => G x)[i]? = some (G x) := by rw [List.getElem?_map, h.2]; rfl
  rw [List.map_take, List.map_take]
  exact mon_take (by rw [List.length_map, hl]) (by rw [List.getElem?_zip_eq_some]; exact ⟨h.1, h2⟩)
theorem prodG_cg {p : Nat} : ∀ (m : Pt) (Gs : List (Pt → Int)) (x : Pt), Cg p (prodG m Gs x) (mon m (stepP p Gs x))
  | [], _, _ => by unfold prodG; rw [mon_nil, mon_nil]; exact Cg.refl 1
  | _ :: _, [], _ => Cg.refl 1
  | e :: m, G :: Gs, x => by
    show Cg p (G x ^ e.toNat * prodG m Gs x) ((G x % p) ^ e.toNat * mon m (stepP p Gs x))
    exact ((Cg.mod (G x)).symm.pow _).mul (prodG_cg m Gs x)
abbrev n_replaced : List Str := ["first", "one", "second", "polynomials", "found", "power", "number", "part", "exponent", "each"]
theorem sc_replaced : FnScope n_replaced ["first", "one", "second", "polynomials"] (defScope s_replaced) := ⟨rfl, rfl, rfl, by decide +kernel, rfl, by decide +kernel, by decide +kernel⟩
theorem bd_replaced : BindB "replaced" "replaced" s_replaced ["first", "one", "second", "polynomials"] := fun _ _ _ _ _ _ us hl => match us, hl with | [_, _, _, _], _ => rfl

def sp_replaced (K : PySem.W.Frag) : Sp := fun vs H Q E => ∃ (p n : Nat) (F : Pt → Int) (Gs : List (Pt → Int)), Shape p n ∧ Gs.length = n ∧ SpR [spR K p n, polyR p n F, spR K p n, lstR (Gs.map (polyR p n))] (polyY p n fun x => F (stepP p Gs x)) vs H Q E
abbrev G_replaced (P : Program) (w : World) (K : PySem.W.Frag) (mg : Str → Option Value) (base : Heap) : Prop := GFn P w K mg base "replaced" 4 ["first", "one", "second", "polynomials"] (sp_replaced K)

theorem ok_replaced (T : TopF K mg) (g_constant : G_constant P w K mg base) (g_plus : G_plus P w K mg base) (g_raised : G_raised P w K mg base) (g_times : G_times P w K mg base) : G_replaced P w K mg base := by
  refine T.d_replaced.fn sc_replaced bd_replaced (fun vs H Q E h => ?len) fun f cdv A outer s H vs Q E hr h => ?walk
  case walk =>
    have hu := room1 hr
    have hu3 := room3 hr
    have hu64 := hr.units
    have hu65 := room65 hr
    refine ⟨_, (pss_cons (ps_set (i := 4) sc_replaced.nd rfl (Or.inl rfl) pe_tup0Z)
      (pss_cons (ps_for PassesOwn.never rfl (k_piT (K := K) rfl (pv 1)) (pg_tup rfl (pgs_cons (pg_name (i := 5) sc_replaced.nd rfl (Or.inl rfl)) (pgs_cons (pg_name (i := 6) sc_replaced.nd rfl (Or.inl rfl)) pgs_nil)))
      (pss_cons (ps_set (i := 7) sc_replaced.nd rfl (Or.inl rfl) (pe_fn g_constant hr (by decide) (by rfl) (pa_cons (pv 2) (pa_cons (pv 6) pa_nil))))
      (pss_cons (ps_for PassesOwn.never rfl (k_zipTL (K := K) rfl (by rfl) T.b_zip (pa_cons (pv 5) (pa_cons (pv 3) pa_nil))) (pg_tup rfl (pgs_cons (pg_name (i := 8) sc_replaced.nd rfl (Or.inl rfl)) (pgs_cons (pg_name (i := 9) sc_replaced.nd rfl (Or.inl rfl)) pgs_nil)))
      (pss_one (ps_set (i := 7) sc_replaced.nd rfl (Or.inl rfl) (pe_fn g_times hr (by decide) (by rfl) (pa_cons (pv 2) (pa_cons (pv 7) (pa_cons (pe_fn g_raised hr (by decide) (by rfl) (pa_cons (pv 2) (pa_cons (pv 9) (pa_cons (pv 8) pa_nil)))) pa_nil)))))))
      (pss_one (ps_set (i := 4) sc_replaced.nd rfl (Or.inl rfl) (pe_fn g_plus hr (by decide) (by rfl) (pa_cons (pv 2) (pa_cons (pv 4) (pa_cons (pv 7) pa_nil)))))))))
      (pss_one (ps_ret (pv 4))))), ?_⟩
    obtain ⟨p, n, F, Gs, S, hg, r, k⟩ := h
    obtain ⟨a1, a2, a3, a4, rfl, r1, r2, r3, r4⟩ := All.l4 r
    obtain ⟨f, cf, vf, rf⟩ := r2
    have hp := S.p
    have hn := S.n
    refine sq (?_ : tAsg _ _ _ _ _)
    refine fun p0 o0 hp0 ho0 => ?_
    have e1 : Ext H (upd H p0 (.frz o0 (.tup []))) := Ext.new _ hp0
    have rz : polyY p n (fun _ => 0) (.ref p0) (upd H p0 (.frz o0 (.tup []))) := ⟨[], ⟨.nil, (fun t ht => nomatch ht), (fun t ht => nomatch ht)⟩, fun x _ => Cg.refl 0, p0, o0, [], rfl, upd_same, ho0, .nil⟩
    generalize upd H p0 (.frz o0 (.tup [])) = H1 at e1 rz
    show tSeq _ _ _ _ _
    refine sq (s_forD (srcD_tup (xs := f) (A := pairR) (ev_var rfl (TMono.up e1.t rf))) (fun i σ' H' => ∃ u v5 v6 v7 v8 v9, σ' = [some a1, some a2, some a3, some a4, some u, v5, v6, v7, v8, v9] ∧ polyY p n (fun x => lsum (f.take i) fun t => t.2 * prodG t.1 Gs x) u H') (fun H2 e2 => ?_) (fun H2 i t v' σ' H0 H' ht e2 e0 pv e' hv => ?_) fun σ' H' e' pv => ?_)
    · exact ⟨.ref p0, none, none, none, none, none, rfl, (TMono.up e2.t rz : polyY p n (fun _ => 0) _ H2).to fun x _ => Cg.of (by rw [List.take_zero, lsum_nil])⟩
    · obtain ⟨u, v5, v6, v7, v8, v9, rfl, hu1⟩ := pv
      refine g_pair hv fun u1 u2 q1 q2 => ?_
      obtain rfl : u2 = .int t.2 := q2
      have hm := cf.pow t (List.mem_of_getElem? ht)
      have up1 := e1.trans (e2.trans (e0.trans e'))
      have r3' : spR K p n a3 H' := Mono.up up1 r3
      refine sq (s_set (R := polyY p n fun _ => t.2) (ev_call (ea_cons (ev_var rfl r3') (ea_cons (ev_is rfl) ea_nil)) fun vs H1 Q E h => ⟨p, n, t.2, S, h⟩) fun v H3 e3 rv => ?_)
      dsimp only
      have up3 := up1.trans e3
      refine sq (s_forD (srcD_zipTL (xs := t.1) (ys := Gs) (A := IsI) (B := polyR p n) (ea_cons (Ev.imp (ev_var rfl (TMono.up e3.t q1)) fun v H1 e r => (ptR.tup r).f) (ea_cons (ev_var rfl (Mono.up up3 r4)) ea_nil))) (fun j σ' H' => ∃ w v8 v9, σ' = [some a1, some a2, some a3, some a4, some u, some u1, some (.int t.2), some w, v8, v9] ∧ polyY p n (fun x => t.2 * prodG (t.1.take j) (Gs.take j) x) w H') (fun H4 e4 => ?_) (fun H4 j s v' σ' H5 H6 hs e4 e5 pv e6 hv' => ?_) fun σ' H4 e4 pv => ?_)
      · exact ⟨v, v8, v9, rfl, (TMono.up e4.t rv : polyY p n (fun _ => t.2) v H4).to fun x _ => Cg.of (by rw [List.take_zero]; unfold prodG; rw [mon_nil, Int.mul_one])⟩
      · obtain ⟨w, v8, v9, rfl, hw1⟩ := pv
        refine g_pair hv' fun y1 y2 z1 z2 => ?_
        obtain rfl : y1 = .int s.1 := z1
        have hz := List.getElem?_zip_eq_some.mp hs
        have hse := hm.2 s.1 (List.mem_of_getElem? hz.1)
        have r3'' : spR K p n a3 H6 := Mono.up (up3.trans (e4.trans (e5.trans e6))) r3
        refine s_set (R := polyY p n fun x => t.2 * prodG (t.1.take j) (Gs.take j) x * s.2 x ^ s.1.toNat) (ev_call (ea_cons (ev_var rfl r3'') (ea_cons (ev_var rfl (TMono.up e6.t hw1).r) (ea_cons (Ev.imp (ev_call (R := polyY p n fun x => s.2 x ^ s.1.toNat) (ea_cons (ev_var rfl r3'') (ea_cons (ev_var rfl z2) (ea_cons (Ev.to (ev_is rfl) (j := .int ((s.1.toNat : Nat) : Int)) (by rw [Int.toNat_of_nonneg hse.1])) ea_nil))) fun vs H1 Q E h => ⟨p, n, s.2, s.1.toNat, S, by omega, h⟩) fun v H1 e r => polyY.r r) ea_nil))) fun vs H1 Q E h => ⟨p, n, _, _, S, h⟩) fun w' H7 e7 rw' => ?_
        refine ⟨e5.trans (e6.trans e7), w', some (.int s.1), some y2, rfl, rw'.to fun x _ => Cg.of ?_⟩
        rw [prodG_take (by rw [hm.1, hg]) hs, Int.mul_assoc]
      · obtain ⟨w, v8, v9, rfl, hw1⟩ := pv
        have ez : (t.1.zip Gs).length = n := by rw [List.length_zip, hm.1, hg, Nat.min_self]
        rw [ez, List.take_of_length_le (by rw [hm.1]; exact Nat.le_refl _), List.take_of_length_le (by rw [hg]; exact Nat.le_refl _)] at hw1
        dsimp only
        refine s_set (R := polyY p n fun x => (lsum (f.take i) fun t => t.2 * prodG t.1 Gs x) + t.2 * prodG t.1 Gs x) (ev_call (ea_cons (ev_var rfl (Mono.up (up3.trans e4) r3)) (ea_cons (ev_var rfl (TMono.up (e'.t.trans (e3.t.trans e4.t)) hu1)) (ea_cons (ev_var rfl hw1.r) ea_nil))) fun vs H1 Q E h => ⟨p, n, _, _, S, h⟩) fun w' H7 e7 rw' => ?_
        refine ⟨e0.trans (e'.trans (e3.trans (e4.trans e7))), w', _, _, _, _, _, rfl, rw'.to fun x _ => Cg.of ?_⟩
        rw [List.take_add_one, ht, lsum_append]
        show _ = _ + lsum [t] _
        rw [lsum_cons, lsum_nil, Int.add_zero]
    · obtain ⟨u, v5, v6, v7, v8, v9, rfl, hu1⟩ := pv
      rw [List.take_length] at hu1
      dsimp only
      refine s_ret (ev_var rfl hu1) fun w H3 e3 rw => k w H3 (e1.trans (e'.trans e3)) (rw.to fun x hx => ?_)
      refine Cg.trans ?_ (vf (stepP p Gs x) (step_in (by omega) hg x))
      exact lsum_cg fun t _ => (Cg.refl t.2).mul (prodG_cg t.1 Gs x)
  case len => obtain ⟨p, n, F, Gs, _, _, r, _⟩ := h; exact r.length
end SP
end
section
set_option Elab.async false
set_option linter.all false
set_option maxRecDepth 100000
set_option maxHeartbeats 4000000
namespace SP
open PySem PyProof.Rows L2
variable {P : Program} {w : World} {K : PySem.W.Frag} {mg : Str → Option Value} {base : Heap}
abbrev n_is_polynomial : List Str := ["space", "thing", "index", "power", "number"]
theorem sc_is_polynomial : FnScope n_is_polynomial ["space", "thing"] (defScope s_is_polynomial) := ⟨rfl, rfl, rfl, by decide +kernel, rfl, by decide +kernel, by decide +kernel⟩
theorem bd_is_polynomial : BindB "is_polynomial" "is_polynomial" s_is_polynomial ["space", "thing"] := fun _ _ _ _ _ _ us hl => match us, hl with | [_, _], _ => rfl

def sp_is_polynomial (K : PySem.W.Frag) : Sp := fun vs H Q E => ∃ (p n : Nat) (f : Poly), Shape p n ∧ Canon p n f ∧ SpR [spR K p n, polyV f] (IsB true) vs H Q E
abbrev G_is_polynomial (P : Program) (w : World) (K : PySem.W.Frag) (mg : Str → Option Value) (base : Heap) : Prop := GFn P w K mg base "is_polynomial" 2 ["space", "thing"] (sp_is_polynomial K)

theorem g_enum {K : PySem.W.Frag} {i j k : Nat} {σ : L2.St} {H : Hp} {v : V} {Ra Rb Rc : RS} {q : L2.St → Hp → Prop} (h : tupR [Ra, tupR [Rb, Rc]] v H) (hq : ∀ x y z, Ra x H → Rb y H → Rc z H → q (((σ.set i (some x)).set j (some y)).set k (some z)) H) :
    gTup K 2 (gCons (gName i) (gCons (gTup K 2 (gCons (gName j) (gCons (gName k) gNil))) gNil)) v σ H q := by
  obtain ⟨a, vs, rfl, h1, r⟩ := h
  obtain ⟨x, w, rfl, rx, rw⟩ := All.l2 r
  refine ⟨a, _, rfl, SqT.of h1, rfl, _, _, rfl, _, _, rfl, ?_⟩
  exact g_pair rw fun y z ry rz => ⟨rfl, hq x y z rx ry rz⟩
theorem ok_is_polynomial (T : TopF K mg) (g_Space_is_point : G_Space_is_point P w K mg base) : G_is_polynomial P w K mg base := by
  refine T.d_is_polynomial.fn sc_is_polynomial bd_is_polynomial (fun vs H Q E h => ?len) fun f cdv A outer s H vs Q E hr h => ?walk
  case walk =>
    have hu := room1 hr
    have hu3 := room3 hr
    have hu64 := hr.units
    have hu65 := room65 hr
    refine ⟨_, (pss_cons (ps_for PassesOwn.never rfl (k_enumT (K := K) rfl (by rfl) T.b_enumerate (pa_cons (pv 1) pa_nil)) (pg_tup rfl (pgs_cons (pg_name (i := 2) sc_is_polynomial.nd rfl (Or.inl rfl)) (pgs_cons (pg_tup rfl (pgs_cons (pg_name (i := 3) sc_is_polynomial.nd rfl (Or.inl rfl)) (pgs_cons (pg_name (i := 4) sc_is_polynomial.nd rfl (Or.inl rfl)) pgs_nil))) pgs_nil)))
      (pss_cons (ps_if (PW.pt (pw_or (pt_not (pt_val (pe_mt (pv 0) T.c_Space g_Space_is_point hr (by decide) (pa_cons (pv 3) pa_nil)))) (pw_or1 (pt_not (pt_chain op_lt op_lt pe_int (pv 4) (k_fld (K := K) rfl (pv 0) rfl)))))) (pss_one (ps_ret pe_bl)) pss_nil)
      (pss_one (ps_if (PW.pt (pw_and (pt_cmpR op_gt (pv 2) pe_int (nomark _)) (pw_and1 (pt_cmpR (k_geT (K := K) rfl hr.units0) (pv 3) (pe_ix (k_ixT (K := K) rfl) (pe_ix (k_ixT (K := K) rfl) (pv 1) (pe_op op_sub (pv 2) pe_int) (fun _ _ => rfl)) pe_int (fun _ _ => rfl)) (nomark _))))) (pss_one (ps_ret pe_bl)) pss_nil))))
      (pss_one (ps_ret pe_bl))), ?_⟩
    obtain ⟨p, n, f, S, cf, r, k⟩ := h
    obtain ⟨a1, a2, rfl, r1, r2⟩ := All.l2 r
    have hp := S.p
    have hl : f.length ≤ 27 := Nat.le_trans cf.len S.pts
    refine sq (s_forD (srcD_enumT (xs := f) (A := pairR) (ea_cons (ev_var rfl r2) ea_nil)) (fun i σ' H' => ∃ v2 v3 v4, σ' = [some a1, some a2, v2, v3, v4]) (fun H2 e2 => ⟨none, none, none, rfl⟩) (fun H2 i t v' σ' H0 H' ht e2 e0 pv e' hv => ?_) fun σ' H' e' pv => ?_)
    · obtain ⟨v2, v3, v4, rfl⟩ := pv
      have hz := List.getElem?_zip_eq_some.mp ht
      have hi : i < f.length := by have := (List.getElem?_eq_some_iff.mp hz.2).1; exact this
      have hti : t.1 = i := by
        have h1 := hz.1
        rw [List.getElem?_range hi] at h1
        exact (Option.some.inj h1).symm
      refine g_enum hv fun u1 u2 u3 q1 q2 q3 => ?_
      obtain rfl : u1 = .int t.1 := q1
      obtain rfl : u3 = .int t.2.2 := q3
      have hm := cf.pow t.2 (List.mem_of_getElem? hz.2)
      have hc := cf.num t.2 (List.mem_of_getElem? hz.2)
      have up := e2.trans (e0.trans e')
      have r1' : spR K p n a1 H' := Mono.up up r1
      refine sq (s_if (b := false) (EvT.to (et_or (b := false) (et_not (et_test (ev_meth (ev_var rfl r1') (fun x H1 r => sp_ins r fun nm => rfl) (ea_cons (ev_var rfl q2) ea_nil) fun vs H1 Q E h => ⟨p, n, t.2.1, S, by rw [hm.1]; have := S.n; omega, h⟩))) fun _ => ?_) ?_) (fun hb => by cases hb) fun hb H3 e3 => s_next ?_)
      · exact EvT.to (et_not (et_test (ev_chain (Ra := IsI 0) (Rb := IsI t.2.2) (Rc := IsI p) (a := decide ((0 : Int) < t.2.2)) (b := decide (t.2.2 < (p : Int))) ev_c (ev_is rfl) (fun _ => ev_prime T (ev_var rfl r1')) (fun x y H1 e rx ry => rv_val fun Q q => ⟨0, t.2.2, rx, ry, q⟩) fun _ x y H1 e rx ry => rv_val fun Q q => ⟨t.2.2, p, rx, ry, q⟩))) (by rw [decide_eq_true hc.1, decide_eq_true hc.2]; rfl)
      · rw [decide_eq_true hm]; rfl
      · dsimp only
        refine s_if (b := false) (EvT.to (et_and (a := decide (t.1 > 0)) (b := false) (EvT.to (et_test (ev_I0 (ev_is rfl) ev_c)) (by rw [Bool.eq_iff_iff]; simp)) fun h0 => ?_) (by rw [Bool.and_false])) (fun hb => by cases hb) fun hb H4 e4 => s_next ?_
        · have h0' : 0 < i := by rw [hti] at h0; simpa using h0
          have hi1 : i - 1 < f.length := by omega
          have hprev : f[i - 1]? = some f[i - 1] := List.getElem?_eq_getElem hi1
          have r2' : polyV f a2 H3 := TMono.up (up.trans e3).t r2
          have hlt : lexLt t.2.1 (f[i - 1]).1 = true := by
            have h1 := List.pairwise_iff_getElem.mp cf.ord (i - 1) i hi1 hi (by omega)
            have h2 : f[i] = t.2 := (List.getElem?_eq_some_iff.mp hz.2).2
            rw [h2] at h1
            exact h1
          have hpm := cf.pow f[i - 1] (List.getElem_mem hi1)
          have e1 : Ev (tOp (rIxT K) (tOp (rIxT K) (tVar 1) (tOp (rI0 fun i j => .int (i - j)) (tVar 2) (tC (.int 1)))) (tC (.int 0))) [some a1, some a2, some (.int t.1), some u2, some (.int t.2.2)] H3 (ptR (f[i - 1]).1) := by
            refine ev_ixTM (n := 0) (Rs := [ptR (f[i - 1]).1, IsI (f[i - 1]).2]) (ev_ixT (n := i - 1) (R := pairR f[i - 1]) (Rs := f.map pairR) (ev_var rfl r2') (Ev.to (ev_I0 (ev_is rfl) ev_c) ?_) (by rw [List.getElem?_map, hprev]; rfl)) ev_c rfl
            rw [hti]
            show V.int _ = V.int _
            congr 1
            omega
          refine EvT.to (et_test (ev_geP (ev_var rfl (TMono.up e3.t q2)) e1 (by rw [hm.1, hpm.1]))) (by rw [hlt]; rfl)
        · exact ⟨e0.trans (e'.trans (e3.trans e4)), some (.int t.1), some u2, some (.int t.2.2), rfl⟩
    · obtain ⟨v2, v3, v4, rfl⟩ := pv
      dsimp only
      exact s_ret ev_c fun v H3 e3 rv => k v H3 (e'.trans e3) rv
  case len => obtain ⟨p, n, f, _, _, r, _⟩ := h; exact r.length
abbrev n_System_is_solution : List Str := ["self", "point", "one"]
theorem sc_System_is_solution : FnScope n_System_is_solution ["self", "point"] (defScope s_System_is_solution) := ⟨rfl, rfl, rfl, by decide +kernel, rfl, by decide +kernel, by decide +kernel⟩
theorem bd_System_is_solution : BindB "is_solution" "System.is_solution" s_System_is_solution ["self", "point"] := fun _ _ _ _ _ _ us hl => match us, hl with | [_, _], _ => rfl

def solB (p : Nat) (Es : List (Pt → Int)) (x : Pt) : Bool := Es.all fun F => decide (F x % (p : Int) = 0)
def sp_System_is_solution (K : PySem.W.Frag) : Sp := fun vs H Q E => ∃ (p n : Nat) (Es : List (Pt → Int)) (x : Pt), Shape p n ∧ Es.length ≤ 1000 ∧ x ∈ pts p n ∧ SpR [syR K p n Es, ptR x] (IsB (solB p Es x)) vs H Q E
abbrev G_System_is_solution (P : Program) (w : World) (K : PySem.W.Frag) (mg : Str → Option Value) (base : Heap) : Prop := GMt P w K mg base (He.ga K "System") "is_solution" 4 ["self", "point"] (sp_System_is_solution K)

theorem ok_System_is_solution (T : TopF K mg) (g_value : G_value P w K mg base) : G_System_is_solution P w K mg base := by
  refine T.d_System_is_solution.fn sc_System_is_solution bd_System_is_solution (fun vs H Q E h => ?len) fun f cdv A outer s H vs Q E hr h => ?walk
  case walk =>
    have hu := room1 hr
    have hu3 := room3 hr
    have hu64 := hr.units
    have hu65 := room65 hr
    refine ⟨_, (pss_one (ps_ret (pe_callB (k_all (K := K) rfl rfl) (by rfl) T.b_all (by decide +kernel) (pa_cons (pe_lc (own := [("one", 2)]) (g := (gName 2)) (by rfl) sc_System_is_solution.nd (k_piL (K := K) rfl (k_fld (K := K) rfl (pv 0) rfl)) (blkOk_by (own := [("one", 2)]) (N := n_System_is_solution) (sc := defScope s_System_is_solution) (by decide +kernel)) (fun _ _ _ _ _ => (pg_name (i := 2) sc_System_is_solution.nd rfl (Or.inl rfl))) (fun _ _ _ _ _ => pts_nil) (fun _ _ _ _ _ => (pe_cmpR op_eq (pe_fn g_value hr (by decide) (by rfl) (pa_cons (k_fld (K := K) rfl (pv 0) rfl) (pa_cons (pv 2) (pa_cons (pv 1) pa_nil)))) pe_int (nomark _)))) pa_nil)))), ?_⟩
    obtain ⟨p, n, Es, x, S, hE, hx, r, k⟩ := h
    obtain ⟨a1, a2, rfl, r1, r2⟩ := All.l2 r
    refine s_ret (ev_all (bs := Es.map fun F => decide (F x % (p : Int) = 0)) (ea_cons (EvN.ev (ev_lc2v (C := IsB) (val := fun F : Pt → Int => decide (F x % (p : Int) = 0)) (xs := Es) (A := polyR p n) (srcD_list (ev_syEqs T (ev_var rfl r1))) (by rw [sizeLine_eq]; omega) fun F v H1 hF e1 rv => ⟨rfl, rfl, ?_⟩)) ea_nil)) fun v H1 e1 rv => ?_
    · refine k v H1 e1 ?_
      rw [List.all_map] at rv
      exact rv
    · refine Ev.to (ev_eqS (ev_call (R := IsI (F x % p)) (ea_cons (ev_sySpace T (ev_var rfl (Mono.up e1 r1))) (ea_cons (ev_var rfl rv) (ea_cons (ev_var rfl (TMono.up e1.t r2)) ea_nil))) fun vs H1 Q E h => ⟨p, n, F, x, S, hx, h⟩) ev_c rfl) ?_
      congr 1
      rw [Bool.eq_iff_iff]
      simp
  case len => obtain ⟨p, n, Es, x, _, _, _, r, _⟩ := h; exact r.length
abbrev n_System_solutions : List Str := ["self", "point"]
theorem sc_System_solutions : FnScope n_System_solutions ["self"] (defScope s_System_solutions) := ⟨rfl, rfl, rfl, by decide +kernel, rfl, by decide +kernel, by decide +kernel⟩
theorem bd_System_solutions : BindB "solutions" "System.solutions" s_System_solutions ["self"] := fun _ _ _ _ _ _ us hl => match us, hl with | [_], _ => rfl

def solsP (p n : Nat) (Es : List (Pt → Int)) : List Pt := (pts p n).filter fun x => solB p Es x
def sp_System_solutions (K : PySem.W.Frag) : Sp := fun vs H Q E => ∃ (p n : Nat) (Es : List (Pt → Int)), Shape p n ∧ Es.length ≤ 1000 ∧ SpN [syR K p n Es] ((solsP p n Es).map ptR) vs H Q E
abbrev G_System_solutions (P : Program) (w : World) (K : PySem.W.Frag) (mg : Str → Option Value) (base : Heap) : Prop := GMt P w K mg base (He.ga K "System") "solutions" 5 ["self"] (sp_System_solutions K)

theorem ok_System_solutions (T : TopF K mg) (g_Space_points : G_Space_points P w K mg base) (g_System_is_solution : G_System_is_solution P w K mg base) : G_System_solutions P w K mg base := by
  refine T.d_System_solutions.fn sc_System_solutions bd_System_solutions (fun vs H Q E h => ?len) fun f cdv A outer s H vs Q E hr h => ?walk
  case walk =>
    have hu := room1 hr
    have hu3 := room3 hr
    have hu64 := hr.units
    have hu65 := room65 hr
    refine ⟨_, (pss_one (ps_ret (pe_lc (own := [("point", 1)]) (g := (gName 1)) (by rfl) sc_System_solutions.nd (k_piL (K := K) rfl (pe_mt0 (k_fld (K := K) rfl (pv 0) rfl) T.c_Space g_Space_points hr (by decide))) (blkOk_by (own := [("point", 1)]) (N := n_System_solutions) (sc := defScope s_System_solutions) (by decide +kernel)) (fun _ _ _ _ _ => (pg_name (i := 1) sc_System_solutions.nd rfl (Or.inl rfl))) (fun _ _ _ _ _ => (pts_one (pt_val (pe_mt (pv 0) T.c_System g_System_is_solution hr (by decide) (pa_cons (pv 1) pa_nil))))) (fun _ _ _ _ _ => (pv 1))))), ?_⟩
    obtain ⟨p, n, Es, S, hE, r, k⟩ := h
    obtain ⟨a1, rfl, r1⟩ := All.l1 r
    have hz := S.pts
    refine s_retN (ev_lc (f := fun x => solB p Es x) (B := ptR) (xs := pts p n) (A := ptR) (srcD_list (EvN.ev (ev_methN (ev_sySpace T (ev_var rfl r1)) (fun x H1 r => sp_ins r fun nm => rfl) ea_nil fun vs H1 Q E h => ⟨p, n, S, h⟩))) (by rw [sizeLine_eq]; omega) fun x v H1 hx e1 rv => ⟨rfl, rfl, et_test (ev_meth (ev_var rfl (Mono.up e1 r1)) (fun x H1 r => sy_ins r fun vs ve => rfl) (ea_cons (ev_var rfl rv) ea_nil) fun vs H1 Q E h => ⟨p, n, Es, x, S, hE, hx, h⟩), fun _ => ev_var rfl rv⟩) k
  case len => obtain ⟨p, n, Es, _, _, r, _⟩ := h; exact r.length
abbrev n_led : List Str := ["first", "polynomials", "point", "one"]
theorem sc_led : FnScope n_led ["first", "polynomials", "point"] (defScope s_led) := ⟨rfl, rfl, rfl, by decide +kernel, rfl, by decide +kernel, by decide +kernel⟩
theorem bd_led : BindB "led" "led" s_led ["first", "polynomials", "point"] := fun _ _ _ _ _ _ us hl => match us, hl with | [_, _, _], _ => rfl

def sp_led (K : PySem.W.Frag) : Sp := fun vs H Q E => ∃ (p n : Nat) (Gs : List (Pt → Int)) (x : Pt), Shape p n ∧ Gs.length ≤ 1000 ∧ x ∈ pts p n ∧ SpR [spR K p n, lstR (Gs.map (polyR p n)), ptR x] (ptR (stepP p Gs x)) vs H Q E
abbrev G_led (P : Program) (w : World) (K : PySem.W.Frag) (mg : Str → Option Value) (base : Heap) : Prop := GFn P w K mg base "led" 4 ["first", "polynomials", "point"] (sp_led K)

theorem ok_led (T : TopF K mg) (g_value : G_value P w K mg base) : G_led P w K mg base := by
  refine T.d_led.fn sc_led bd_led (fun vs H Q E h => ?len) fun f cdv A outer s H vs Q E hr h => ?walk
  case walk =>
    have hu := room1 hr
    have hu3 := room3 hr
    have hu64 := hr.units
    have hu65 := room65 hr
    refine ⟨_, (pss_one (ps_ret (pe_callTy (k_tup (K := K) rfl) (by rfl) T.b_tuple (by decide +kernel) (pa_cons (pe_lc (own := [("one", 3)]) (g := (gName 3)) (by rfl) sc_led.nd (k_piL (K := K) rfl (pv 1)) (blkOk_by (own := [("one", 3)]) (N := n_led) (sc := defScope s_led) (by decide +kernel)) (fun _ _ _ _ _ => (pg_name (i := 3) sc_led.nd rfl (Or.inl rfl))) (fun _ _ _ _ _ => pts_nil) (fun _ _ _ _ _ => (pe_fn g_value hr (by decide) (by rfl) (pa_cons (pv 0) (pa_cons (pv 3) (pa_cons (pv 2) pa_nil)))))) pa_nil)))), ?_⟩
    obtain ⟨p, n, Gs, x, S, hG, hx, r, k⟩ := h
    obtain ⟨a1, a2, a3, rfl, r1, r2, r3⟩ := All.l3 r
    exact s_ret (ev_tupP (ea_cons (EvN.ev (ev_lc2v (C := IsI) (val := fun G : Pt → Int => G x % (p : Int)) (xs := Gs) (A := polyR p n) (srcD_list (ev_var rfl r2)) (by rw [sizeLine_eq]; omega) fun F v H1 hF e1 rv => ⟨rfl, rfl, ev_call (ea_cons (ev_var rfl (Mono.up e1 r1)) (ea_cons (ev_var rfl rv) (ea_cons (ev_var rfl (TMono.up e1.t r3)) ea_nil))) fun vs H1 Q E h => ⟨p, n, F, x, S, hx, h⟩⟩)) ea_nil)) k
  case len => obtain ⟨p, n, Gs, x, _, _, _, r, _⟩ := h; exact r.length
abbrev n_Machine_after : List Str := ["self", "point"]
theorem sc_Machine_after : FnScope n_Machine_after ["self", "point"] (defScope s_Machine_after) := ⟨rfl, rfl, rfl, by decide +kernel, rfl, by decide +kernel, by decide +kernel⟩
theorem bd_Machine_after : BindB "after" "Machine.after" s_Machine_after ["self", "point"] := fun _ _ _ _ _ _ us hl => match us, hl with | [_, _], _ => rfl

def sp_Machine_after (K : PySem.W.Frag) : Sp := fun vs H Q E => ∃ (p n : Nat) (Es Gs : List (Pt → Int)) (x : Pt), Shape p n ∧ Gs.length ≤ 1000 ∧ x ∈ pts p n ∧ SpR [maR K p n Es Gs, ptR x] (ptR (stepP p Gs x)) vs H Q E
abbrev G_Machine_after (P : Program) (w : World) (K : PySem.W.Frag) (mg : Str → Option Value) (base : Heap) : Prop := GMt P w K mg base (He.ga K "Machine") "after" 5 ["self", "point"] (sp_Machine_after K)

theorem ok_Machine_after (T : TopF K mg) (g_led : G_led P w K mg base) : G_Machine_after P w K mg base := by
  refine T.d_Machine_after.fn sc_Machine_after bd_Machine_after (fun vs H Q E h => ?len) fun f cdv A outer s H vs Q E hr h => ?walk
  case walk =>
    have hu := room1 hr
    have hu3 := room3 hr
    have hu64 := hr.units
    have hu65 := room65 hr
    refine ⟨_, (pss_one (ps_ret (pe_fn g_led hr (by decide) (by rfl) (pa_cons (k_fld (K := K) rfl (pv 0) rfl) (pa_cons (k_fld (K := K) rfl (pv 0) rfl) (pa_cons (pv 1) pa_nil)))))), ?_⟩
    obtain ⟨p, n, Es, Gs, x, S, hG, hx, r, k⟩ := h
    obtain ⟨a1, a2, rfl, r1, r2⟩ := All.l2 r
    exact s_ret (ev_call (ea_cons (ev_maSpace T (ev_var rfl r1)) (ea_cons (ev_maStep T (ev_var rfl r1)) (ea_cons (ev_var rfl r2) ea_nil))) fun vs H1 Q E h => ⟨p, n, Gs, x, S, hG, hx, h⟩) k
  case len => obtain ⟨p, n, Es, Gs, x, _, _, _, r, _⟩ := h; exact r.length
end SP
end
section
set_option Elab.async false
set_option linter.all false
set_option maxRecDepth 100000
set_option maxHeartbeats 4000000
namespace SP
open PySem PyProof.Rows L2
variable {P : Program} {w : World} {K : PySem.W.Frag} {mg : Str → Option Value} {base : Heap}
abbrev n_System_init : List Str := ["self", "space", "equations"]
theorem sc_System_init : FnScope n_System_init ["self", "space", "equations"] (defScope s_System_init) := ⟨rfl, rfl, rfl, by decide +kernel, rfl, by decide +kernel, by decide +kernel⟩
theorem bd_System_init : BindB "__init__" "System.__init__" s_System_init ["self", "space", "equations"] := fun _ _ _ _ _ _ us hl => match us, hl with | [_, _, _], _ => rfl

def sp_mk_System (K : PySem.W.Frag) : Sp := fun vs H Q E => ∃ (p n : Nat) (Es : List (Pt → Int)), SpMk (He.ga K "System") [spR K p n, lstR (Es.map (polyR p n))] (syR K p n Es) vs H Q E
abbrev G_mk_System (P : Program) (w : World) (K : PySem.W.Frag) (mg : Str → Option Value) (base : Heap) : Prop := GMk P w K mg base "System" (He.ga K "System") 1 ["self", "space", "equations"] (sp_mk_System K)

theorem ok_mk_System (T : TopF K mg)  : G_mk_System P w K mg base := by
  refine T.d_System_init.fn sc_System_init bd_System_init (fun vs H Q E h => ?len) fun f cdv A outer s H vs Q E hr h => ?walk
  case walk =>
    have hu := room1 hr
    have hu3 := room3 hr
    have hu64 := hr.units
    have hu65 := room65 hr
    refine ⟨_, (pss_cons (ps_fld (pv 0) (pv 1) rfl)
      (pss_one (ps_fld (pv 0) (pe_callTy (k_list (K := K) rfl) (by rfl) T.b_list (by decide +kernel) (pa_cons (pv 2) pa_nil)) rfl))), ?_⟩
    obtain ⟨p, n, Es, x, dx, rest, Hb, rfl, hx, hX, e0, r, k⟩ := h
    obtain ⟨a1, a2, rfl, r1, r2⟩ := All.l2 r
    refine sq (s_fldx (C := He.ga K "System") (dx := dx) (fs := []) (R := Is a1) hX T.c_System T.n_System_space (by decide) (ev_is rfl) (ev_is rfl) fun v H1 e1 rv => ?_)
    obtain rfl : v = a1 := rv
    have h1 := e1.at hX
    have eb : Ext Hb (upd H1 x (.ins (He.ga K "System") dx (putF "space" v []))) := (e0.trans e1).mut hx h1 trivial
    have h1' : (upd H1 x (.ins (He.ga K "System") dx (putF "space" v []))) x = some (.ins (He.ga K "System") dx (putF "space" v [])) := upd_same
    generalize upd H1 x (.ins (He.ga K "System") dx (putF "space" v [])) = H2 at eb h1'
    dsimp only
    refine s_fldM (C := He.ga K "System") (dx := dx) (R := lstR (Es.map (polyR p n))) h1' T.c_System T.n_System_equations (by show 1 < 1000; decide) (EvN.ev (ev_lstOf (ea_cons (ev_var rfl (Mono.up eb r2)) ea_nil))) (ev_is rfl) fun w H3 e3 rw => ?_
    have h3 := e3.at h1'
    have eb3 := (eb.trans e3).mut (o := .ins (He.ga K "System") dx (putF "equations" w (putF "space" v []))) hx h3 trivial
    exact k _ eb3 ⟨v, w, ⟨x, dx, rfl, upd_same⟩, Mono.up eb3 r1, rw.upd h3⟩
  case len => obtain ⟨p, n, Es, h⟩ := h; exact h.len
abbrev n_Machine_init : List Str := ["self", "start", "step"]
theorem sc_Machine_init : FnScope n_Machine_init ["self", "start", "step"] (defScope s_Machine_init) := ⟨rfl, rfl, rfl, by decide +kernel, rfl, by decide +kernel, by decide +kernel⟩
theorem bd_Machine_init : BindB "__init__" "Machine.__init__" s_Machine_init ["self", "start", "step"] := fun _ _ _ _ _ _ us hl => match us, hl with | [_, _, _], _ => rfl

def sp_mk_Machine (K : PySem.W.Frag) : Sp := fun vs H Q E => ∃ (p n : Nat) (Es Fs : List (Pt → Int)), SpMk (He.ga K "Machine") [syR K p n Es, lstR (Fs.map (polyR p n))] (maR K p n Es Fs) vs H Q E
abbrev G_mk_Machine (P : Program) (w : World) (K : PySem.W.Frag) (mg : Str → Option Value) (base : Heap) : Prop := GMk P w K mg base "Machine" (He.ga K "Machine") 1 ["self", "start", "step"] (sp_mk_Machine K)

theorem ok_mk_Machine (T : TopF K mg)  : G_mk_Machine P w K mg base := by
  refine T.d_Machine_init.fn sc_Machine_init bd_Machine_init (fun vs H Q E h => ?len) fun f cdv A outer s H vs Q E hr h => ?walk
  case walk =>
    have hu := room1 hr
    have hu3 := room3 hr
    have hu64 := hr.units
    have hu65 := room65 hr
    refine ⟨_, (pss_cons (ps_fld (pv 0) (pv 1) rfl)
      (pss_cons (ps_fld (pv 0) (pe_callTy (k_list (K := K) rfl) (by rfl) T.b_list (by decide +kernel) (pa_cons (pv 2) pa_nil)) rfl)
      (pss_one (ps_fld (pv 0) (k_fld (K := K) rfl (pv 1) rfl) rfl)))), ?_⟩
    obtain ⟨p, n, Es, Fs, x, dx, rest, Hb, rfl, hx, hX, e0, r, k⟩ := h
    obtain ⟨a1, a2, rfl, r1, r2⟩ := All.l2 r
    refine sq (s_fldx (C := He.ga K "Machine") (dx := dx) (fs := []) (R := Is a1) hX T.c_Machine T.n_Machine_start (by decide) (ev_is rfl) (ev_is rfl) fun v H1 e1 rv => ?_)
    obtain rfl : v = a1 := rv
    have h1 := e1.at hX
    have eb : Ext Hb (upd H1 x (.ins (He.ga K "Machine") dx (putF "start" v []))) := (e0.trans e1).mut hx h1 trivial
    have h1' : (upd H1 x (.ins (He.ga K "Machine") dx (putF "start" v []))) x = some (.ins (He.ga K "Machine") dx (putF "start" v [])) := upd_same
    generalize upd H1 x (.ins (He.ga K "Machine") dx (putF "start" v [])) = H2 at eb h1'
    dsimp only
    refine sq (s_fldM (C := He.ga K "Machine") (dx := dx) (R := lstR (Fs.map (polyR p n))) h1' T.c_Machine T.n_Machine_step (by show 1 < 1000; decide) (EvN.ev (ev_lstOf (ea_cons (ev_var rfl (Mono.up eb r2)) ea_nil))) (ev_is rfl) fun w H3 e3 rw => ?_)
    have h3 := e3.at h1'
    have eb3 := (eb.trans e3).mut (o := .ins (He.ga K "Machine") dx (putF "step" w (putF "start" v []))) hx h3 trivial
    have rw3 := rw.upd (o := .ins (He.ga K "Machine") dx (putF "step" w (putF "start" v []))) h3
    have h3' : (upd H3 x (.ins (He.ga K "Machine") dx (putF "step" w (putF "start" v [])))) x = some (.ins (He.ga K "Machine") dx (putF "step" w (putF "start" v []))) := upd_same
    generalize upd H3 x (.ins (He.ga K "Machine") dx (putF "step" w (putF "start" v []))) = H4 at eb3 rw3 h3'
    have rs := r1
    obtain ⟨vs, ve, ⟨a, dd, q1, q2⟩, q3, q4⟩ := rs
    dsimp only
    refine s_fldx (C := He.ga K "Machine") (dx := dx) (R := Is vs) h3' T.c_Machine T.n_Machine_space (by show 2 < 1000; decide) (ev_fld (Ra := InsR (He.ga K "System") [("space", vs), ("equations", ve)]) (ev_var rfl (Mono.up eb3 ⟨a, dd, q1, q2⟩)) fun y H6 ry => ?_) (ev_is rfl) fun u H5 e5 ru => ?_
    · obtain ⟨a', dx', g1, g2⟩ := ry
      exact ⟨a', _, dx', _, vs, g1, g2, T.c_System, T.n_System_space, rfl, rfl⟩
    · obtain rfl : u = vs := ru
      have h5 := e5.at h3'
      have eb5 := (eb3.trans e5).mut (o := .ins (He.ga K "Machine") dx (putF "space" u (putF "step" w (putF "start" v [])))) hx h5 trivial
      exact k _ eb5 ⟨v, w, u, ⟨x, dx, rfl, upd_same⟩, Mono.up eb5 r1, (Mono.up e5 rw3 : lstR _ w H5).upd h5, Mono.up eb5 q3⟩
  case len => obtain ⟨p, n, Es, Fs, h⟩ := h; exact h.len
def menu : List Str := ["x", "y", "z", "x1", "b", "word", "k9", "verylongname"]
def LET : Str := "abcdefghijklmnopqrstuvwxyz"
def DIG : Str := "0123456789"
def charB (c : Nat) : Bool := decide (c ∈ LET.cps.toList) || decide (c ∈ DIG.cps.toList)
def nameB (z : Str) : Bool := decide (1 ≤ z.length ∧ z.length ≤ 12) && ((z.cps.toList.head?.map fun c => decide (c ∈ LET.cps.toList)).getD false && z.cps.toList.all charB)
theorem menu_ok : ∀ z ∈ menu, nameB z = true := by decide +kernel
theorem srcD_str {σ : L2.St} {H : Hp} {te : TE} {z : Str} (h : Ev te σ H (Is (.str z))) : SrcD (iStr te) σ H z.cps.toList (fun c => Is (.str ⟨#[c]⟩)) := fun H1 e R k =>
  h H1 e _ fun v H2 e2 rv => ⟨z, rv, k _ H2 e2 (by
    unfold SrcG
    rw [Array.length_toList]
    refine walk_str.mono (fun _ _ => trivial) fun i H' x H'' hi _ y => ?_
    obtain ⟨rfl, c, hc, rfl⟩ := y
    exact ⟨Ext.refl _, c, by rw [Array.getElem?_toList]; exact hc, rfl⟩)⟩
abbrev n_is_name : List Str := ["text", "char"]
theorem sc_is_name : FnScope n_is_name ["text"] (defScope s_is_name) := ⟨rfl, rfl, rfl, by decide +kernel, rfl, by decide +kernel, by decide +kernel⟩
theorem bd_is_name : BindB "is_name" "is_name" s_is_name ["text"] := fun _ _ _ _ _ _ us hl => match us, hl with | [_], _ => rfl

def sp_is_name (_ : PySem.W.Frag) : Sp := fun vs H Q E => ∃ z : Str, nameB z = true ∧ SpR [Is (.str z)] (IsB true) vs H Q E
abbrev G_is_name (P : Program) (w : World) (K : PySem.W.Frag) (mg : Str → Option Value) (base : Heap) : Prop := GFn P w K mg base "is_name" 1 ["text"] (sp_is_name K)

theorem ok_is_name (T : TopF K mg)  : G_is_name P w K mg base := by
  refine T.d_is_name.fn sc_is_name bd_is_name (fun vs H Q E h => ?len) fun f cdv A outer s H vs Q E hr h => ?walk
  case walk =>
    have hu := room1 hr
    have hu3 := room3 hr
    have hu64 := hr.units
    have hu65 := room65 hr
    refine ⟨_, (pss_cons (ps_if (PW.pt (pw_or (pt_not (pt_chain op_le op_le pe_int (pe_callB (k_len (K := K) rfl) (by rfl) T.b_len (by decide +kernel) (pa_cons (pv 0) pa_nil)) (pe_gl T.v_LONGEST_NAME (by rfl)))) (pw_or1 (pt_cmpR op_notInS (pe_ix ix_str (pv 0) pe_int (fun _ _ => rfl)) (pe_gl T.v_LETTERS (by rfl)) rfl)))) (pss_one (ps_ret pe_bl)) pss_nil)
      (pss_one (ps_ret (pe_callB (k_all (K := K) rfl rfl) (by rfl) T.b_all (by decide +kernel) (pa_cons (pe_lc (own := [("char", 1)]) (g := (gName 1)) (by rfl) sc_is_name.nd (pi_str (pv 0)) (blkOk_by (own := [("char", 1)]) (N := n_is_name) (sc := defScope s_is_name) (by decide +kernel)) (fun _ _ _ _ _ => (pg_name (i := 1) sc_is_name.nd rfl (Or.inl rfl))) (fun _ _ _ _ _ => pts_nil) (fun _ _ _ _ _ => (pe_or (pe_cmpR op_inS (pv 1) (pe_gl T.v_LETTERS (by rfl)) rfl) (pe_one (pe_cmpR op_inS (pv 1) (pe_gl T.v_DIGITS (by rfl)) rfl))))) pa_nil))))), ?_⟩
    obtain ⟨z, hz, r, k⟩ := h
    obtain ⟨_, rfl, rfl⟩ := All.l1 r
    unfold nameB at hz
    rw [Bool.and_eq_true, Bool.and_eq_true, decide_eq_true_eq] at hz
    obtain ⟨⟨hl, hu12⟩, hfirst, hall⟩ := hz
    obtain ⟨c, hc, hcL⟩ : ∃ c, z.cps.toList[0]? = some c ∧ decide (c ∈ LET.cps.toList) = true := by
      cases e : z.cps.toList with
      | nil => rw [e] at hfirst; simp at hfirst
      | cons c r => rw [e] at hfirst; exact ⟨c, rfl, by simpa using hfirst⟩
    have hsz : z.length ≤ sizeLine := by rw [sizeLine_eq]; omega
    refine sq (s_if (b := false) (EvT.to (et_or (a := false) (b := false) (EvT.to (et_not (et_test (ev_chain (Ra := IsI 1) (Rb := IsI z.length) (Rc := IsI 12) (a := decide ((1 : Int) ≤ z.length)) (b := decide ((z.length : Int) ≤ 12)) ev_c (ev_len (ea_cons (ev_is rfl) ea_nil) fun v H1 r => len_str hsz r) (fun _ => ev_c) (fun x y H1 e rx ry => rv_val fun Q q => ⟨1, z.length, rx, ry, q⟩) fun _ x y H1 e rx ry => rv_val fun Q q => ⟨z.length, 12, rx, ry, q⟩))) ?_) fun _ => EvT.to (et_test (ev_notInS (ev_ixS (n := 0) hsz (ev_is rfl) ev_c hc) ev_c)) ?_) rfl) (fun hb => by cases hb) fun hb H1 e1 => s_next ?_)
    · rw [decide_eq_true (by omega), decide_eq_true (by omega)]; rfl
    · show (!decide (c ∈ LET.cps.toList)) = false
      rw [hcL]; rfl
    · dsimp only
      refine s_ret (ev_all (bs := z.cps.toList.map charB) (ea_cons (EvN.ev (ev_lc2v (C := IsB) (val := charB) (xs := z.cps.toList) (A := fun c => Is (.str ⟨#[c]⟩)) (srcD_str (ev_is rfl)) (by rw [Array.length_toList, sizeLine_eq]; have : z.cps.size = z.length := rfl; omega) fun c' v H2 hc' e2 rv => ⟨rfl, rfl, ?_⟩)) ea_nil)) fun v H2 e2 rv => ?_
      · obtain rfl : v = .str ⟨#[c']⟩ := rv
        exact ev_orV (ev_inS (ev_is rfl) ev_c) fun _ => ev_inS (ev_is rfl) ev_c
      · refine k v H2 (e1.trans e2) ?_
        rw [List.all_map] at rv
        rw [show v = _ from rv]
        show V.bl _ = V.bl true
        congr 1
  case len => obtain ⟨z, _, r, _⟩ := h; exact r.length
section
variable {σ : L2.St} {H : Hp} {ta tb : TE} {p n : Nat}
theorem ev_notInPr (T : TopF K mg) (hp : Pr p) (ha : Ev ta σ H (IsI p)) : Ev (tOp (rIn K true) ta (tC (.ref (He.ga K "PRIMES")))) σ H (IsB false) :=
  ev_op ha (ev_c (v := .ref (He.ga K "PRIMES"))) fun x y H1 e rx ry Q q => by
    obtain rfl : x = .int p := rx
    obtain rfl : y = .ref (He.ga K "PRIMES") := ry
    refine ⟨_, _, rfl, .inr (T.p_PRIMES H1), rfl, rfl, ?_⟩
    have e2 : (if true = true then !inV (.int (p : Int)) ([2, 3, 5, 7].map V.int) else inV (.int (p : Int)) ([2, 3, 5, 7].map V.int)) = false := by
      rcases hp with rfl | rfl | rfl | rfl <;> rfl
    rw [e2]
    exact q _ H1 (Ext.refl _) rfl
theorem ev_most (T : TopF K mg) (hb : Ev tb σ H (IsI p)) {j : Int} (hj : valV mostK (.inl (p : Int)) = some (.int j)) : Ev (tMost K (tC (.ref (He.ga K "MOST_OF_PRIME"))) tb) σ H (IsI j) := fun H1 e Q q =>
  (ev_c (σ := σ) (H := H) (v := .ref (He.ga K "MOST_OF_PRIME"))) H1 e _ fun x H2 e2 rx => hb H2 (e.trans e2) _ fun y H3 e3 ry => ⟨_, _, _, rx, T.p_MOST, ry, hj, q _ H3 (e2.trans e3) rfl⟩
theorem ev_lenSet {zs : List Str} (ha : Ev ta σ H (lstR (zs.map fun z => Is (.str z)))) (hn : zs.Nodup) (hl : zs.length ≤ 100) : Ev (tLenSetN K ta) σ H (IsI zs.length) := fun H1 e Q q =>
  ha H1 e _ fun x H2 e2 rx => by
    obtain ⟨a, vs, rfl, h1, r⟩ := rx
    have q2 : ∀ {zs : List Str} {vs : List V}, All (zs.map fun z => Is (.str z)) vs H2 → vs = zs.map V.str := by
      intro zs
      induction zs with
      | nil => intro vs r; cases r; rfl
      | cons z zs ih => intro vs r; cases r with | cons a t => rw [ih t, show _ = V.str z from a]; rfl
    rw [q2 r] at h1
    exact ⟨a, zs, rfl, SqL.of h1, hn, hl, q _ H2 e2 rfl⟩
end
def mostN (p : Nat) : Nat := if p = 2 then 8 else if p = 3 then 5 else if p = 5 then 3 else 2
theorem mostN_ok {p : Nat} (h : Pr p) : valV mostK (.inl (p : Int)) = some (.int (mostN p)) := by
  rcases h with rfl | rfl | rfl | rfl <;> rfl
theorem Shape.most {p n : Nat} (h : Shape p n) : n ≤ mostN p := by
  unfold Shape shapes at h
  simp only [List.mem_cons, Prod.mk.injEq, List.not_mem_nil, or_false] at h
  rcases h with ⟨rfl, rfl⟩ | ⟨rfl, rfl⟩ | ⟨rfl, rfl⟩ | ⟨rfl, rfl⟩ | ⟨rfl, rfl⟩ | ⟨rfl, rfl⟩ | ⟨rfl, rfl⟩ | ⟨rfl, rfl⟩ | ⟨rfl, rfl⟩ | ⟨rfl, rfl⟩ <;> decide
abbrev n_Space_init : List Str := ["self", "prime", "names", "name"]
theorem sc_Space_init : FnScope n_Space_init ["self", "prime", "names"] (defScope s_Space_init) := ⟨rfl, rfl, rfl, by decide +kernel, rfl, by decide +kernel, by decide +kernel⟩
theorem bd_Space_init : BindB "__init__" "Space.__init__" s_Space_init ["self", "prime", "names"] := fun _ _ _ _ _ _ us hl => match us, hl with | [_, _, _], _ => rfl

def sp_mk_Space (K : PySem.W.Frag) : Sp := fun vs H Q E => ∃ (p n : Nat) (zs : List Str), Shape p n ∧ zs.length = n ∧ zs.Nodup ∧ (∀ z ∈ zs, nameB z = true) ∧ SpMk (He.ga K "Space") [tabR K (.int p), lstR (zs.map fun z => Is (.str z))] (spR K p n) vs H Q E
abbrev G_mk_Space (P : Program) (w : World) (K : PySem.W.Frag) (mg : Str → Option Value) (base : Heap) : Prop := GMk P w K mg base "Space" (He.ga K "Space") 2 ["self", "prime", "names"] (sp_mk_Space K)

theorem ok_mk_Space (T : TopF K mg) (g_is_name : G_is_name P w K mg base) : G_mk_Space P w K mg base := by
  refine T.d_Space_init.fn sc_Space_init bd_Space_init (fun vs H Q E h => ?len) fun f cdv A outer s H vs Q E hr h => ?walk
  case walk =>
    have hu := room1 hr
    have hu3 := room3 hr
    have hu64 := hr.units
    have hu65 := room65 hr
    refine ⟨_, (pss_cons (ps_if (PW.pt (pw_or (pt_cmpR (k_notInSeq (K := K) rfl) (pv 1) (pe_gl T.v_PRIMES (by rfl)) rfl) (pw_or1 (pt_not (pt_chain op_le op_le pe_int (pe_callB (k_len (K := K) rfl) (by rfl) T.b_len (by decide +kernel) (pa_cons (pv 2) pa_nil)) (pe_gl T.v_MOST_NAMES (by rfl))))))) (pss_one ps_never) pss_nil)
      (pss_cons (ps_if (PW.pt (pw_or (pt_not (pt_val (pe_callB (k_all (K := K) rfl rfl) (by rfl) T.b_all (by decide +kernel) (pa_cons (pe_lc (own := [("name", 3)]) (g := (gName 3)) (by rfl) sc_Space_init.nd (k_piL (K := K) rfl (pv 2)) (blkOk_by (own := [("name", 3)]) (N := n_Space_init) (sc := defScope s_Space_init) (by decide +kernel)) (fun _ _ _ _ _ => (pg_name (i := 3) sc_Space_init.nd rfl (Or.inl rfl))) (fun _ _ _ _ _ => pts_nil) (fun _ _ _ _ _ => (pe_fn g_is_name hr (by decide) (by rfl) (pa_cons (pv 3) pa_nil)))) pa_nil)))) (pw_or1 (pt_cmpR op_lt (pe_lenSetN (by rfl) (by rfl) T.b_len (by rfl) T.b_set (pv 2)) (pe_callB (k_len (K := K) rfl) (by rfl) T.b_len (by decide +kernel) (pa_cons (pv 2) pa_nil)) (nomark _))))) (pss_one ps_never) pss_nil)
      (pss_cons (ps_if (pt_cmpR op_gt (pe_callB (k_len (K := K) rfl) (by rfl) T.b_len (by decide +kernel) (pa_cons (pv 2) pa_nil)) (k_most (K := K) rfl (pe_gl T.v_MOST_OF_PRIME (by rfl)) (pv 1) (fun _ _ => rfl)) (nomark _)) (pss_one ps_never) pss_nil)
      (pss_cons (ps_fld (pv 0) (pv 1) rfl)
      (pss_cons (ps_fld (pv 0) (pe_callTy (k_list (K := K) rfl) (by rfl) T.b_list (by decide +kernel) (pa_cons (pv 2) pa_nil)) rfl)
      (pss_one (ps_fld (pv 0) (pe_callB (k_len (K := K) rfl) (by rfl) T.b_len (by decide +kernel) (pa_cons (pv 2) pa_nil)) rfl))))))), ?_⟩
    obtain ⟨p, n, zs, S, hzl, hznd, hzn, x, dx, rest, Hb, rfl, hx, hX, e0, r, k⟩ := h
    obtain ⟨_, a2, rfl, ⟨rfl, hT⟩, r2⟩ := All.l2 r
    have hn := S.n
    have hmost := S.most
    have r2' : lstR (zs.map fun z => Is (.str z)) a2 H := Mono.up e0 r2
    have elen : ∀ {σ : L2.St} {H1 : Hp}, Ext H H1 → σ[2]? = some (some a2) → Ev (tCB (fun xs H Q => ∃ x n, xs = [x] ∧ LenV K x H n ∧ Q (.int n) H) (tCons (tVar 2) tNil)) σ H1 (IsI n) := fun {σ H1} e hs =>
      ev_len (ea_cons (ev_var hs (Mono.up e r2')) ea_nil) fun v H1 r => by
        have h := len_lst (K := K) r
        rw [List.length_map, hzl] at h
        exact h
    refine sq (s_if (b := false) (EvT.to (et_or (a := false) (b := false) (et_test (ev_notInPr T S.pr (ev_is rfl))) fun _ => EvT.to (et_not (et_test (ev_chain (Ra := IsI 1) (Rb := IsI n) (Rc := IsI 8) (a := decide ((1 : Int) ≤ n)) (b := decide ((n : Int) ≤ 8)) ev_c (elen (Ext.refl _) rfl) (fun _ => ev_c) (fun x y H1 e rx ry => rv_val fun Q q => ⟨1, n, rx, ry, q⟩) fun _ x y H1 e rx ry => rv_val fun Q q => ⟨n, 8, rx, ry, q⟩))) ?_) rfl) (fun hb => by cases hb) fun hb H1 e1 => s_next ?_)
    · rw [decide_eq_true (by omega), decide_eq_true (by omega)]; rfl
    dsimp only
    refine sq (s_if (b := false) (EvT.to (et_or (a := false) (b := false) (EvT.to (et_not (et_test (ev_all (bs := zs.map fun _ => true) (ea_cons (EvN.ev (ev_lc2v (C := IsB) (val := fun _ : Str => true) (xs := zs) (A := fun z => Is (.str z)) (srcD_list (ev_var rfl (Mono.up e1 r2'))) (by rw [sizeLine_eq]; omega) fun z v H2 hz e2 rv => ⟨rfl, rfl, by
        obtain rfl : v = .str z := rv
        exact ev_call (ea_cons (ev_is rfl) ea_nil) fun vs H1 Q E h => ⟨z, hzn z hz, h⟩⟩)) ea_nil)))) (by rw [List.all_map]; simp)) fun _ => EvT.to (et_test (ev_I0 (ev_lenSet (ev_var rfl (Mono.up e1 r2')) hznd (by omega)) (elen e1 rfl))) (by rw [hzl]; simp)) rfl) (fun hb => by cases hb) fun hb H2 e2 => s_next ?_)
    dsimp only
    refine sq (s_if (b := false) (EvT.to (et_test (ev_I0 (elen (e1.trans e2) rfl) (ev_most T (ev_is rfl) (mostN_ok S.pr)))) (by simp; omega)) (fun hb => by cases hb) fun hb H3 e3 => s_next ?_)
    have hX3 := e3.at (e2.at (e1.at hX))
    have eb0 : Ext Hb H3 := e0.trans (e1.trans (e2.trans e3))
    dsimp only
    refine sq (s_fldx (C := He.ga K "Space") (dx := dx) (fs := []) (R := IsI p) hX3 T.c_Space T.n_Space_prime (by decide) (ev_is rfl) (ev_is rfl) fun v H4 e4 rv => ?_)
    obtain rfl : v = .int p := rv
    have h4 := e4.at hX3
    have eb4 := (eb0.trans e4).mut (o := .ins (He.ga K "Space") dx (putF "prime" (.int p) [])) hx h4 trivial
    have h4' : (upd H4 x (.ins (He.ga K "Space") dx (putF "prime" (.int p) []))) x = some (.ins (He.ga K "Space") dx (putF "prime" (.int p) [])) := upd_same
    generalize upd H4 x (.ins (He.ga K "Space") dx (putF "prime" (.int p) [])) = H5 at eb4 h4'
    dsimp only
    refine sq (s_fldM (C := He.ga K "Space") (dx := dx) (R := lstR (zs.map fun z => Is (.str z))) h4' T.c_Space T.n_Space_names (by show 1 < 1000; decide) (EvN.ev (ev_lstOf (ea_cons (ev_var rfl (Mono.up eb4 r2)) ea_nil))) (ev_is rfl) fun w H6 e6 rw => ?_)
    have h6 := e6.at h4'
    have eb6 := (eb4.trans e6).mut (o := .ins (He.ga K "Space") dx (putF "names" w (putF "prime" (.int p) []))) hx h6 trivial
    have h6' : (upd H6 x (.ins (He.ga K "Space") dx (putF "names" w (putF "prime" (.int p) [])))) x = some (.ins (He.ga K "Space") dx (putF "names" w (putF "prime" (.int p) []))) := upd_same
    generalize upd H6 x (.ins (He.ga K "Space") dx (putF "names" w (putF "prime" (.int p) []))) = H7 at eb6 h6'
    dsimp only
    refine s_fldx (C := He.ga K "Space") (dx := dx) (R := IsI n) h6' T.c_Space T.n_Space_count (by show 2 < 1000; decide) (ev_len (ea_cons (ev_var rfl (Mono.up eb6 r2)) ea_nil) fun v H1 r => by
        have h := len_lst (K := K) r
        rw [List.length_map, hzl] at h
        exact h) (ev_is rfl) fun u H8 e8 ru => ?_
    obtain rfl : u = .int n := ru
    have h8 := e8.at h6'
    have eb8 := (eb6.trans e8).mut (o := .ins (He.ga K "Space") dx (putF "count" (.int n) (putF "names" w (putF "prime" (.int p) [])))) hx h8 trivial
    exact k _ eb8 ⟨⟨w, x, dx, rfl, upd_same⟩, eb8.tabs _ hT⟩
  case len => obtain ⟨p, n, zs, _, _, _, _, h⟩ := h; exact h.len
end SP
end
section
set_option Elab.async false
set_option linter.all false
set_option maxRecDepth 100000
set_option maxHeartbeats 4000000
namespace SP
open PySem PyProof.Rows L2
variable {P : Program} {w : World} {K : PySem.W.Frag} {mg : Str → Option Value} {base : Heap}
theorem srcB_range2 {ta : TA} {σ : L2.St} {Hb H : Hp} {lo n : Nat} (h : EvA ta σ Hb [IsI lo, IsI n]) (hn : n ≤ 1000000) (hl : lo ≤ 1000000) : SrcB (iRng2 ta) σ Hb H (List.range (n - lo)) (fun i => IsI ((lo + i : Nat) : Int)) := fun H1 e _ R k =>
  h H1 e _ fun vs H2 e2 r => by
    obtain ⟨v, w, rfl, rv, rw'⟩ := All.l2 r
    refine ⟨(lo : Int), (n : Int), by rw [show v = _ from rv, show w = _ from rw'], ⟨by omega, by omega, by omega, by omega⟩, ?_⟩
    have e3 : ((n : Int) - (lo : Int)).toNat = n - lo := by omega
    rw [e3]
    refine k _ H2 e2 ?_
    have q := srcG_range2 (Hb := Hb) (H2 := H2) (lo := (lo : Int)) (n := n - lo)
    exact q
theorem upto_at {p k : Nat} (h : k < p) : (upto p)[k]? = some (k : Int) := by
  unfold upto
  rw [List.getElem?_map, List.getElem?_range h]
  rfl
theorem upto_len (p : Nat) : (upto p).length = p := by unfold upto; rw [List.length_map, List.length_range]
theorem take_at {α : Type} {L : List α} {i : Nat} {a : α} (h : L[i]? = some a) : L.take (i + 1) = L.take i ++ [a] := by
  rw [List.take_add_one, h]; rfl
theorem lsum_take {α : Type} {L : List α} {f : α → Int} {i : Nat} {a : α} (h : L[i]? = some a) : lsum (L.take (i + 1)) f = lsum (L.take i) f + f a := by
  rw [take_at h, lsum_append, lsum_cons, lsum_nil, Int.add_zero]
def numV (p : Nat) (V : Int → Int) (e : Int) : Int := if e = 0 then V 0 else (-(lsum (upto p) fun a => V a * (a ^ (p - 1 - e.toNat) % p))) % p
theorem numV_range {p : Nat} (hp : 0 < p) {V : Int → Int} (hV : ∀ a ∈ upto p, 0 ≤ V a ∧ V a < p) (e : Int) : 0 ≤ numV p V e ∧ numV p V e < p := by
  unfold numV
  split
  · exact hV 0 (mem_upto.mpr ⟨Int.le_refl _, by omega⟩)
  · exact ⟨Int.emod_nonneg _ (by omega), Int.emod_lt_of_pos _ (by omega)⟩
theorem numV_wgt {p : Nat} (hp : 0 < p) {V : Int → Int} {e : Int} (h0 : 0 ≤ e) : Cg p (numV p V e) (lsum (upto p) fun a => V a * wgt p e a) := by
  unfold numV wgt
  by_cases he : e = 0
  · rw [if_pos he]
    refine (Cg.of ?_).symm
    rw [lsum_congr (g := fun a => if a = 0 then V a else 0)]
    · exact lsum_one (upto_nodup p) (mem_upto.mpr ⟨Int.le_refl _, by omega⟩)
    · intro a ha
      rw [if_pos he]
      by_cases h : a = 0 <;> simp [h]
  · rw [if_neg he]
    refine (Cg.mod _).trans ?_
    rw [show -(lsum (upto p) fun a => V a * (a ^ (p - 1 - e.toNat) % (p : Int))) = lsum (upto p) fun a => -1 * (V a * (a ^ (p - 1 - e.toNat) % (p : Int))) from by rw [lsum_mul]; omega]
    refine lsum_cg fun a ha => ?_
    rw [if_neg he]
    have h1 := (Cg.refl (p := p) (V a)).mul (Cg.mod (p := p) (a ^ (p - 1 - e.toNat)))
    have h2 := h1.neg
    exact (Cg.of (by grind)).trans (h2.trans (Cg.of (by grind)))
theorem numV_back {p : Nat} (h : Pr p) {V : Int → Int} {b : Int} (hb : b ∈ upto p) : Cg p (lsum (upto p) fun e => numV p V e * b ^ e.toNat) (V b) := by
  have hp := h.two
  obtain ⟨k0, k1⟩ := mem_upto.mp hb
  refine (lsum_cg (g := fun e => lsum (upto p) fun a => V a * wgt p e a * b ^ e.toNat) fun e he => ?_).trans ?_
  · rw [lsum_mulr]
    exact (numV_wgt (by omega) (mem_upto.mp he).1).mul (Cg.refl _)
  · rw [lsum_comm]
    refine (lsum_cg (g := fun a => if a = b then V a else 0) fun a ha => ?_).trans (Cg.of (lsum_one (upto_nodup p) hb))
    obtain ⟨a0, a1⟩ := mem_upto.mp ha
    have h1 := (Cg.refl (p := p) (V a)).mul (wgt_back h a0 a1 k0 k1)
    rw [← lsum_mul] at h1
    refine (Cg.of (lsum_congr fun e _ => by grind)).trans (h1.trans (Cg.of ?_))
    by_cases hab : a = b <;> simp [hab]
abbrev n_numbers_of : List Str := ["prime", "values", "found", "exponent", "total", "number"]
theorem sc_numbers_of : FnScope n_numbers_of ["prime", "values"] (defScope s_numbers_of) := ⟨rfl, rfl, rfl, by decide +kernel, rfl, by decide +kernel, by decide +kernel⟩
theorem bd_numbers_of : BindB "numbers_of" "numbers_of" s_numbers_of ["prime", "values"] := fun _ _ _ _ _ _ us hl => match us, hl with | [_, _], _ => rfl

def sp_numbers_of (_ : PySem.W.Frag) : Sp := fun vs H Q E => ∃ (p : Nat) (Y : Int → Int), Pr p ∧ (∀ a ∈ upto p, 0 ≤ Y a ∧ Y a < p) ∧ SpN [IsI p, lstR (((upto p).map Y).map IsI)] (((upto p).map (numV p Y)).map IsI) vs H Q E
abbrev G_numbers_of (P : Program) (w : World) (K : PySem.W.Frag) (mg : Str → Option Value) (base : Heap) : Prop := GFn P w K mg base "numbers_of" 2 ["prime", "values"] (sp_numbers_of K)

theorem ok_numbers_of (T : TopF K mg) (g_raised_number : G_raised_number P w K mg base) : G_numbers_of P w K mg base := by
  refine T.d_numbers_of.fn sc_numbers_of bd_numbers_of (fun vs H Q E h => ?len) fun f cdv A outer s H vs Q E hr h => ?walk
  case walk =>
    have hu := room1 hr
    have hu3 := room3 hr
    have hu64 := hr.units
    have hu65 := room65 hr
    refine ⟨_, (pss_cons (ps_set (i := 2) sc_numbers_of.nd rfl (Or.inl rfl) (pe_lst (pa_cons (pe_ix (k_ixL (K := K) rfl) (pv 1) pe_int (fun _ _ => rfl)) pa_nil)))
      (pss_cons (ps_for PassesOwn.never rfl (pi_range2 (by rfl) T.b_range (pa_cons pe_int (pa_cons (pv 0) pa_nil))) (pg_name (i := 3) sc_numbers_of.nd rfl (Or.inl rfl))
      (pss_cons (ps_set (i := 4) sc_numbers_of.nd rfl (Or.inl rfl) pe_int)
      (pss_cons (ps_for PassesOwn.never rfl (pi_range1 (by rfl) T.b_range (pa_cons (pv 0) pa_nil)) (pg_name (i := 5) sc_numbers_of.nd rfl (Or.inl rfl))
      (pss_one (ps_aug (i := 4) sc_numbers_of.nd rfl (Or.inl rfl) (pe_op op_mul (pe_ix (k_ixL (K := K) rfl) (pv 1) (pv 5) (fun _ _ => rfl)) (pe_fn g_raised_number hr (by decide) (by rfl) (pa_cons (pv 0) (pa_cons (pv 5) (pa_cons (pe_op op_sub (pe_op op_sub (pv 0) pe_int) (pv 3)) pa_nil))))) ip_add)))
      (pss_one (ps_expr (pe_bm PySem.F.plainAttrs_list PySem.F.slot_list_append PySem.F.type_list_append mt_append (pv 2) (pa_cons (pe_op op_mod (pe_un un_neg (pv 4)) (pv 0)) pa_nil)))))))
      (pss_one (ps_ret (pv 2))))), ?_⟩
    obtain ⟨p, Y, hpr, hV, r, k⟩ := h
    obtain ⟨_, a2, rfl, rfl, r2⟩ := All.l2 r
    have hp := hpr.two
    have vat : ∀ {j : Nat}, j < p → (((upto p).map Y).map IsI)[j]? = some (IsI (Y j)) := fun hj => by
      rw [List.getElem?_map, List.getElem?_map, upto_at hj]; rfl
    refine sq (s_setN (ev_lst (Rs := [IsI (Y 0)]) (ea_cons (ev_ixL (n := 0) (ev_var rfl r2) ev_c (vat (by omega))) ea_nil) (by show 1 ≤ _; decide)) fun p0 vs0 H1 hp0 e1 h1 r1 => ?_)
    obtain ⟨_, rfl, rfl⟩ := All.l1 r1
    dsimp only
    refine sq (s_forB (Hb := H) (srcB_range2 (lo := 1) (n := p) (ea_cons ev_c (ea_cons (ev_is rfl) ea_nil)) (by omega) (by omega)) e1 (fun i σ' H' => ∃ v3 v4 v5, σ' = [some (.int p), some a2, some (.ref p0), v3, v4, v5] ∧ H' p0 = some (.lst ((((upto p).take (i + 1)).map (numV p Y)).map V.int))) (fun H2 e2 => ?_) (fun H2 i a v σ' H0 H' ha e2 e0 t0 pv e' hv => ?_) fun σ' H' e' t' pv => ?_)
    · refine ⟨none, none, none, rfl, ?_⟩
      rw [e2.at h1, take_at (upto_at (by omega : 0 < p)), List.take_zero]
      rfl
    · obtain ⟨v3, v4, v5, rfl, hl⟩ := pv
      obtain rfl : v = .int ((1 + a : Nat) : Int) := hv
      have hi := (List.getElem?_eq_some_iff.mp ha).1
      rw [List.length_range] at hi
      obtain rfl : i = a := by rw [List.getElem?_range hi] at ha; exact Option.some.inj ha
      have up := e0.trans e'
      dsimp only [List.set]
      refine sq (s_set ev_c fun v H3 e3 rv => ?_)
      obtain rfl : v = .int 0 := rv
      dsimp only [List.set]
      refine sq (s_forD (srcD_range (n := p) (ea_cons (ev_is rfl) ea_nil) (by omega)) (fun j σ' H' => ∃ v5, σ' = [some (.int p), some a2, some (.ref p0), some (.int ((1 + i : Nat) : Int)), some (.int (lsum ((upto p).take j) fun a => Y a * (a ^ (p - 1 - (1 + i)) % (p : Int)))), v5]) (fun H2 e2 => ⟨v5, by rw [List.take_zero, lsum_nil]⟩) (fun H4 j b v σ' H5 H6 hb e4 e5 pv e6 hv => ?_) fun σ' H4 e4 pv => ?_)
      · obtain ⟨v5, rfl⟩ := pv
        obtain rfl : v = .int b := hv
        have hj := (List.getElem?_eq_some_iff.mp hb).1
        rw [List.length_range] at hj
        obtain rfl : j = b := by rw [List.getElem?_range hj] at hb; exact Option.some.inj hb
        have hu := upto_at hj
        have hvj := hV j (List.mem_of_getElem? hu)
        dsimp only [List.set]
        refine s_aug rfl (ev_mul (ev_ixL (n := j) (ev_var rfl (Mono.up (up.trans (e3.trans (e4.trans (e5.trans e6)))) r2)) (ev_is rfl) (vat hj)) (ev_call (R := IsI ((j : Int) ^ (p - 1 - (1 + i)) % p)) (ea_cons (ev_is rfl) (ea_cons (ev_is rfl) (ea_cons (Ev.to (ev_I0 (ev_I0 (ev_is rfl) ev_c) (ev_is rfl)) (j := .int ((p - 1 - (1 + i) : Nat) : Int)) (by congr 1; omega)) ea_nil))) fun vs H1 Q E h => ⟨p, j, p - 1 - (1 + i), by omega, by omega, by omega, h⟩) (.inl ⟨by omega, by omega⟩)) fun H7 e7 => ?_
        refine ⟨e5.trans (e6.trans e7), some (.int j), ?_⟩
        rw [lsum_take hu]
        rfl
      · obtain ⟨v5, rfl⟩ := pv
        have hl3 : H4 p0 = some (.lst ((((upto p).take (i + 1)).map (numV p Y)).map V.int)) := e4.at (e3.at (e'.at hl))
        refine s_app hl3 (ev_is rfl) (ev_mod (ev_neg (ev_is rfl)) (ev_is rfl) (by omega)) (by rw [List.length_map, List.length_map, List.length_take, upto_len, sizeLine_eq]; omega) fun v H5 e5 rv => ?_
        have h5 := e5.at hl3
        refine ⟨(up.trans (e3.trans (e4.trans e5))).mut hp0 h5 trivial, (t0.trans (e'.trans (e3.trans (e4.trans e5))).t).trans (TEx.upd h5 trivial), _, _, _, rfl, ?_⟩
        rw [upd_same, take_at (upto_at (by omega : i + 1 < p)), List.map_append, List.map_append]
        have hv : v = V.int (numV p Y ((i + 1 : Nat) : Int)) := by
          rw [show v = _ from rv]
          unfold numV
          rw [if_neg (by omega), List.length_range, List.take_of_length_le (Nat.le_of_eq (upto_len p))]
          rw [show p - 1 - (1 + i) = p - 1 - (((i + 1 : Nat) : Int)).toNat from by omega]
        rw [hv]
        rfl
    · obtain ⟨v3, v4, v5, rfl, hl⟩ := pv
      rw [List.length_range, List.take_of_length_le (by rw [upto_len]; omega)] at hl
      refine s_ret (ev_is rfl) fun v H3 e3 rv => ?_
      obtain rfl : v = .ref p0 := rv
      exact k p0 _ H3 hp0 (e'.trans e3) (e3.at hl) (all_ints _)
  case len => obtain ⟨p, Y, _, _, r, _⟩ := h; exact r.length
end SP
end
section
set_option Elab.async false
set_option linter.all false
set_option maxRecDepth 100000
namespace SP
open PySem L2
def setA (i : Nat) (a : Int) (x : Pt) : Pt := x.take i ++ a :: x.drop (i + 1)
section
variable {p n i : Nat} {x r : Pt} {a b : Int}
theorem setA_app (h : r.length = i) (s : Pt) : setA i a (r ++ b :: s) = r ++ a :: s := by
  unfold setA
  rw [List.take_left' h, show r ++ b :: s = (r ++ [b]) ++ s by simp, List.drop_left' (by rw [List.length_append, h]; rfl)]
theorem split_at (h : x.length = n) (hi : i < n) : ∃ (r s : Pt) (c : Int), x = r ++ c :: s ∧ r.length = i ∧ x.drop i = c :: s ∧ x.drop (i + 1) = s ∧ x.take i = r ∧ x.take (i + 1) = r ++ [c] ∧ x[i]? = some c := by
  have hl : i < x.length := by omega
  refine ⟨x.take i, x.drop (i + 1), x[i], ?_, by rw [List.length_take]; omega, ?_, rfl, rfl, ?_, List.getElem?_eq_getElem hl⟩
  · rw [List.getElem_cons_drop, List.take_append_drop]
  · rw [List.getElem_cons_drop]
  · rw [List.take_succ_eq_append_getElem hl]
theorem setA_in (h : inSp p n x) (hi : i < n) (h0 : 0 ≤ a) (h1 : a < p) : inSp p n (setA i a x) := by
  obtain ⟨r, s, c, rfl, hr, _⟩ := split_at h.1 hi
  rw [setA_app hr]
  refine ⟨by have := h.1; simp only [List.length_append, List.length_cons] at this ⊢; exact this, fun b hb => ?_⟩
  simp only [List.mem_append, List.mem_cons] at hb
  rcases hb with hb | rfl | hb
  · exact h.2 b (by simp [hb])
  · exact ⟨h0, h1⟩
  · exact h.2 b (by simp [hb])
theorem setA_at (h : x.length = n) (hi : i < n) : (setA i a x)[i]? = some a := by
  obtain ⟨r, s, c, rfl, hr, _⟩ := split_at h hi
  rw [setA_app hr, ← hr, List.getElem?_append_right (Nat.le_refl _), Nat.sub_self]
  rfl
theorem setA_setA (h : x.length = n) (hi : i < n) : setA i a (setA i b x) = setA i a x := by
  obtain ⟨r, s, c, rfl, hr, _⟩ := split_at h hi
  rw [setA_app hr, setA_app hr, setA_app hr]
theorem setA_self (h : x.length = n) (hi : i < n) (hx : x[i]? = some a) : setA i a x = x := by
  obtain ⟨r, s, c, rfl, hr, _, _, _, _, hc⟩ := split_at h hi
  rw [setA_app hr]
  rw [hx] at hc
  cases hc
  rfl
end
def wNext (p i : Nat) (w : Pt → Int) (x : Pt) : Int := numV p (fun a => w (setA i a x)) (x[i]?.getD 0)
section
variable {p n i : Nat} {w T : Pt → Int}
theorem wNext_set {x : Pt} {a : Int} (h : x.length = n) (hi : i < n) : wNext p i w (setA i a x) = numV p (fun b => w (setA i b x)) a := by
  unfold wNext
  rw [setA_at h hi]
  congr 1
  funext b
  rw [setA_setA h hi]
theorem wNext_range (hp : 0 < p) (hi : i < n) (hw : ∀ x ∈ pts p n, 0 ≤ w x ∧ w x < p) : ∀ x ∈ pts p n, 0 ≤ wNext p i w x ∧ wNext p i w x < p := fun x hx =>
  numV_range hp (fun a ha => hw _ (mem_pts.mpr (setA_in (mem_pts.mp hx) hi (mem_upto.mp ha).1 (mem_upto.mp ha).2))) _
def Half (p n i : Nat) (w T : Pt → Int) : Prop := ∀ x ∈ pts p n, Cg p (lsum (pts p i) fun e => w (e ++ x.drop i) * mon e (x.take i)) (T x)
theorem half_zero : Half p n 0 T T := fun x _ => Cg.of (by
  show lsum [[]] _ = _
  rw [lsum_cons, lsum_nil]
  simp [mon])
theorem half_step (h : Pr p) (hi : i < n) (H : Half p n i w T) : Half p n (i + 1) (wNext p i w) T := fun x hx => by
  obtain ⟨r, s, c, rfl, hr, e1, e2, e3, e4, e5⟩ := split_at (mem_pts.mp hx).1 hi
  have hc := (mem_pts.mp hx).2 c (by simp)
  have hH := H _ hx
  rw [e1, e3] at hH
  rw [lsum_pts, e2, e4]
  refine (lsum_cg fun m hm => ?_).trans hH
  have hml : m.length = i := (mem_pts.mp hm).1
  have h1 := (numV_back h (V := fun b => w (m ++ b :: s)) (mem_upto.mpr hc)).mul (Cg.refl (mon m r))
  refine (Cg.of ?_).trans h1
  rw [← lsum_mulr]
  refine lsum_congr fun a ha => ?_
  rw [mon_snoc (by omega)]
  have e6 : wNext p i w (m ++ [a] ++ s) = numV p (fun b => w (m ++ b :: s)) a := by
    unfold wNext
    rw [show m ++ [a] ++ s = m ++ a :: s by simp]
    rw [show (m ++ a :: s)[i]? = some a by rw [← hml, List.getElem?_append_right (Nat.le_refl _), Nat.sub_self]; rfl]
    congr 1
    funext b
    rw [setA_app hml]
  rw [e6]
  show _ = numV p (fun b => w (m ++ b :: s)) a * c ^ a.toNat * mon m r
  rw [Int.mul_assoc, Int.mul_comm (mon m r)]
theorem half_done (H : Half p n n w T) {x : Pt} (hx : x ∈ pts p n) : Cg p (lsum (pts p n) fun e => w e * mon e x) (T x) := by
  have h := H x hx
  have hl := (mem_pts.mp hx).1
  rw [List.drop_of_length_le (by omega), List.take_of_length_le (by omega)] at h
  simpa using h
end
structure DW (p n : Nat) (w : Pt → Int) (W : Poly) : Prop where
  nd : (keysI W).Nodup
  inn : ∀ k ∈ keysI W, inSp p n k
  all : ∀ x ∈ pts p n, x ∈ keysI W
  val : ∀ t ∈ W, t.2 = w t.1
theorem DW.get {p n : Nat} {w : Pt → Int} {W : Poly} (d : DW p n w W) {x : Pt} (hx : x ∈ pts p n) : valV (iV W) x = some (.int (w x)) := by
  have h := d.all x hx
  rw [valV_get h]
  obtain ⟨t, ht, rfl⟩ := List.mem_map.mp h
  rw [getI_mem d.nd ht, d.val t ht]
theorem DW.vsum {p n : Nat} {w : Pt → Int} {W : Poly} (d : DW p n w W) (x : Pt) : vsum W x = lsum (pts p n) fun e => w e * mon e x := by
  have hp : (keysI W).Perm (pts p n) := (List.perm_ext_iff_of_nodup d.nd (pts_nodup p n)).mpr fun k => ⟨fun h => mem_pts.mpr (d.inn k h), d.all k⟩
  rw [← lsum_perm hp]
  unfold SP.vsum
  rw [show keysI W = W.map (·.1) from rfl, lsum_map]
  exact lsum_congr fun t ht => by rw [d.val t ht]
theorem putI_val {F : Poly} {k : Pt} {c : Int} {w : Pt → Int} (h : ∀ t ∈ F, t.2 = w t.1) (hc : c = w k) : ∀ t ∈ putI F k c, t.2 = w t.1 := by
  intro t ht
  unfold putI at ht
  split at ht
  · obtain ⟨s, hs, rfl⟩ := List.mem_map.mp ht
    by_cases e : s.1 = k
    · rw [if_pos e]
      rw [e]
      exact hc
    · rw [if_neg e]; exact h s hs
  · rcases List.mem_append.mp ht with h1 | h1
    · exact h t h1
    · rw [List.mem_singleton.mp h1]; exact hc
theorem putI_mem {F : Poly} {k : Pt} {c : Int} {x : Pt} : x ∈ keysI (putI F k c) ↔ x ∈ keysI F ∨ x = k := by
  rw [putI_keys]
  split
  · exact ⟨.inl, fun h => h.elim id fun e => e ▸ ‹_›⟩
  · rw [List.mem_append, List.mem_singleton]
theorem zip_map_iV (f : Pt → Int) : ∀ xs : List Pt, xs.zip ((xs.map f).map V.int) = iV (xs.map fun x => (x, f x))
  | [] => rfl
  | x :: xs => by
    have := zip_map_iV f xs
    simp only [List.map_cons, List.zip_cons_cons, List.cons.injEq, true_and]
    simpa using this
end SP
end
section
set_option Elab.async false
set_option linter.all false
set_option maxRecDepth 100000
set_option maxHeartbeats 4000000
namespace SP
open PySem PyProof.Rows L2
variable {P : Program} {w : World} {K : PySem.W.Frag} {mg : Str → Option Value} {base : Heap}
def nlR (ds : List Addr) (Rs : List RS) : RS := fun v H => lstR Rs v H ∧ ∀ a, v = .ref a → a ∉ ds
instance {ds : List Addr} {Rs : List RS} [AllM Rs] : Mono (nlR ds Rs) := ⟨fun e h => ⟨Mono.up e h.1, h.2⟩⟩
theorem EvN.nl {te : TE} {σ : L2.St} {H : Hp} {Rs : List RS} {ds : List Addr} (h : EvN te σ H Rs) (hd : ∀ d ∈ ds, H d ≠ none) : Ev te σ H (nlR ds Rs) := fun H1 e Q q =>
  h H1 e _ fun p vs H2 hp e2 h2 r => q _ H2 e2 ⟨⟨p, vs, rfl, h2, r⟩, fun a ha hm => by
    cases ha
    exact hd p hm (e.free p hp)⟩
theorem cut_to {x : Pt} {i : Nat} (h : i < x.length) : cutL x none (some (i : Int)) = x.take i := by
  unfold cutL
  rw [HT.sIx_none, HT.sIx_nat, Nat.min_eq_left (by omega)]
  rfl
theorem cut_from {x : Pt} {i : Nat} (h : i ≤ x.length) : cutL x (some (i : Int)) none = x.drop i := by
  unfold cutL
  rw [HT.sIx_none, HT.sIx_nat, Nat.min_eq_left h]
  exact List.take_of_length_le (by rw [List.length_drop]; omega)
theorem pe_dictZipK {X : Cx} {K : PySem.W.Frag} {e e2 : Expr} {ta : TA} {p p2 pos pos2 : Pos} (hK : X.K = K) (hu : X.A.units + 3 < cLine) (hc : X.calm = true) (gd : Gl X "dict") (md : X.mg "dict" = none) (gz : Gl X "zip") (mz : X.mg "zip" = none) (ha : PA X [e, e2] ta)
    (hs : starEach [e, e2] X.env = (false, eval e X.env) :: starEach [e2] X.env := by rfl) (hpl : (backTo pos2 (starEach [e2] X.env)).any (·.1) = false := by rfl) :
    PE X (.Call (.Name "dict" p) [.Call (.Name "zip" p2) [e, e2] [] pos2] [] pos) (tDictZip K ta) := hK ▸ pe_dictZip hu hc gd md gz mz ha hs hpl
theorem s_dictZip {K : PySem.W.Frag} {σ : L2.St} {H : Hp} {ta : TA} {D : Ends} {i : Nat} {xs : List Pt} {f : Pt → Int} (h : EvA ta σ H [lstR (xs.map ptR), lstR ((xs.map f).map IsI)]) (hn : xs.Nodup) (hz : xs.length ≤ sizeLine)
    (k : ∀ p H1, H p = none → Ext H H1 → H1 p = some (DT (iV (xs.map fun x => (x, f x)))) → D.nx (σ.set i (some (.ref p))) H1) : tAsg (tDictZip K ta) (gName i) D σ H :=
  ev_dictZip h (by simp) hz H (Ext.refl _) _ fun p ys H1 hp e r hd => k p H1 hp e (by
    rw [hd, All.ints r, zip_map_iV, putL_nodup]
    rw [List.map_map, List.map_map]
    exact (List.map_congr_left (g := id) fun x _ => rfl).symm ▸ (by rw [List.map_id]; exact hn))
abbrev n_polynomial_of : List Str := ["space", "table", "work", "index", "fresh", "point", "rows", "row", "number", "k"]
theorem sc_polynomial_of : FnScope n_polynomial_of ["space", "table"] (defScope s_polynomial_of) := ⟨rfl, rfl, rfl, by decide +kernel, rfl, by decide +kernel, by decide +kernel⟩
theorem bd_polynomial_of : BindB "polynomial_of" "polynomial_of" s_polynomial_of ["space", "table"] := fun _ _ _ _ _ _ us hl => match us, hl with | [_, _], _ => rfl

def sp_polynomial_of (K : PySem.W.Frag) : Sp := fun vs H Q E => ∃ (p n : Nat) (Y : Pt → Int), Shape p n ∧ (∀ x ∈ pts p n, 0 ≤ Y x ∧ Y x < p) ∧ SpR [spR K p n, lstR (((pts p n).map Y).map IsI)] (polyY p n Y) vs H Q E
abbrev G_polynomial_of (P : Program) (w : World) (K : PySem.W.Frag) (mg : Str → Option Value) (base : Heap) : Prop := GFn P w K mg base "polynomial_of" 3 ["space", "table"] (sp_polynomial_of K)

theorem ok_polynomial_of (T : TopF K mg) (g_Space_points : G_Space_points P w K mg base) (g_from_numbers : G_from_numbers P w K mg base) (g_numbers_of : G_numbers_of P w K mg base) : G_polynomial_of P w K mg base := by
  refine T.d_polynomial_of.fn sc_polynomial_of bd_polynomial_of (fun vs H Q E h => ?len) fun f cdv A outer s H vs Q E hr h => ?walk
  case walk =>
    have hu := room1 hr
    have hu3 := room3 hr
    have hu64 := hr.units
    have hu65 := room65 hr
    refine ⟨_, (pss_cons (ps_set (i := 2) sc_polynomial_of.nd rfl (Or.inr rfl) (pe_dictZipK (K := K) rfl hu3 rfl (by rfl) T.b_dict (by rfl) T.b_zip (pa_cons (pe_mt0 (pv 0) T.c_Space g_Space_points hr (by decide)) (pa_cons (pv 1) pa_nil))))
      (pss_cons (ps_for PassesOwn.never rfl (pi_range1 (by rfl) T.b_range (pa_cons (k_fld (K := K) rfl (pv 0) rfl) pa_nil)) (pg_name (i := 3) sc_polynomial_of.nd rfl (Or.inr rfl))
      (pss_cons (ps_set (i := 4) sc_polynomial_of.nd rfl (Or.inl rfl) pe_dnewT)
      (pss_cons (ps_for PassesOwn.never rfl (k_piL (K := K) rfl (pe_mt0 (pv 0) T.c_Space g_Space_points hr (by decide))) (pg_name (i := 5) sc_polynomial_of.nd rfl (Or.inr rfl))
      (pss_one (ps_if (pt_cmpR op_eq (pe_ix (k_ixT (K := K) rfl) (pv 5) (pv 3) (fun _ _ => rfl)) pe_int (nomark _)) (pss_cons (ps_setLc (i := 6) (own := [("k", 9)]) (g := (gName 9)) (by rfl) sc_polynomial_of.nd rfl rfl (sw_true rfl rfl rfl (by decide +kernel)) (pi_range1 (by rfl) T.b_range (pa_cons (k_fld (K := K) rfl (pv 0) rfl) pa_nil)) (blkOk_by (own := [("k", 9)]) (N := n_polynomial_of) (sc := defScope s_polynomial_of) (by decide +kernel)) (fun _ _ _ _ _ => (pg_name (i := 9) sc_polynomial_of.nd rfl (Or.inl rfl))) (fun _ _ _ _ _ => pts_nil) (fun _ _ _ _ _ => (pe_op (k_catA (K := K) rfl) (pe_op (k_catA (K := K) rfl) (pe_slice (k_slA (K := K) rfl) (pv 5) po_none (po_some (pv 3))) (pe_tup (pa_cons (pv 9) pa_nil))) (pe_slice (k_slA (K := K) rfl) (pv 5) (po_some (pe_op op_add (pv 3) pe_int)) po_none))))
      (pss_one (ps_for PassesOwn.never rfl (k_zipA (K := K) rfl (by rfl) T.b_zip (pa_cons (pv 6) (pa_cons (pe_fn g_numbers_of hr (by decide) (by rfl) (pa_cons (k_fld (K := K) rfl (pv 0) rfl) (pa_cons (pe_lc (own := [("row", 7)]) (g := (gName 7)) (by rfl) sc_polynomial_of.nd (k_piL (K := K) rfl (pv 6)) (blkOk_by (own := [("row", 7)]) (N := n_polynomial_of) (sc := defScope s_polynomial_of) (by decide +kernel)) (fun _ _ _ _ _ => (pg_name (i := 7) sc_polynomial_of.nd rfl (Or.inl rfl))) (fun _ _ _ _ _ => pts_nil) (fun _ _ _ _ _ => (pe_dget hu (pv 2) (pv 7) (fun _ _ => rfl)))) pa_nil))) pa_nil))) (pg_tup rfl (pgs_cons (pg_name (i := 7) sc_polynomial_of.nd rfl (Or.inl rfl)) (pgs_cons (pg_name (i := 8) sc_polynomial_of.nd rfl (Or.inl rfl)) pgs_nil)))
      (pss_one (ps_dput hu (pv 4) (pv 7) (pv 8) rfl))))) pss_nil)))
      (pss_one (ps_set (i := 2) sc_polynomial_of.nd rfl (Or.inr rfl) (pv 4))))))
      (pss_one (ps_ret (pe_fn g_from_numbers hr (by decide) (by rfl) (pa_cons (pv 0) (pa_cons (pv 2) pa_nil))))))), ?_⟩
    obtain ⟨p, n, Y, S, hY, r, k⟩ := h
    obtain ⟨a1, a2, rfl, r1, r2⟩ := All.l2 r
    have hp := S.p
    have hn := S.n
    have hz := S.pts
    refine sq (s_dictZip (xs := pts p n) (f := Y) (ea_cons (EvN.ev (ev_methN (ev_var rfl r1) (fun x H1 r => sp_ins r fun nm => rfl) ea_nil fun vs H1 Q E h => ⟨p, n, S, h⟩)) (ea_cons (ev_var rfl r2) ea_nil)) (pts_nodup p n) (by rw [sizeLine_eq]; omega) fun d0 H1 hd0 e1 h1 => ?_)
    dsimp only [List.set]
    refine sq (s_forD (srcD_range (n := n) (ea_cons (ev_count T (ev_var rfl (Mono.up e1 r1))) ea_nil) (by omega)) (fun i σ' H' => ∃ d w W v3 v4 v5 v6 v7 v8 v9, σ' = [some a1, some a2, some (.ref d), v3, v4, v5, v6, v7, v8, v9] ∧ H' d = some (DT (iV W)) ∧ DW p n w W ∧ (∀ x ∈ pts p n, 0 ≤ w x ∧ w x < p) ∧ Half p n i w Y) (fun H2 e2 => ?_) (fun H2 i t v' σ' H0 H' ht e2 e0 pv e' hv => ?_) fun σ' H' e' pv => ?_)
    · refine ⟨d0, Y, _, none, none, none, none, none, none, none, rfl, e2.at h1, ⟨?_, ?_, ?_, ?_⟩, hY, half_zero⟩
      · rw [show keysI ((pts p n).map fun x => (x, Y x)) = pts p n by rw [keysI, List.map_map]; exact List.map_id _]
        exact pts_nodup p n
      · intro k hk
        obtain ⟨t, ht, rfl⟩ := List.mem_map.mp hk
        obtain ⟨x, hx, rfl⟩ := List.mem_map.mp ht
        exact mem_pts.mp hx
      · intro x hx
        exact List.mem_map.mpr ⟨(x, Y x), List.mem_map.mpr ⟨x, hx, rfl⟩, rfl⟩
      · intro t ht
        obtain ⟨x, hx, rfl⟩ := List.mem_map.mp ht
        rfl
    · obtain ⟨d, w, W, v3, v4, v5, v6, v7, v8, v9, rfl, hd, dW, hw, hh⟩ := pv
      obtain rfl : v' = .int t := hv
      have hi := (List.getElem?_eq_some_iff.mp ht).1
      rw [List.length_range] at hi
      obtain rfl : i = t := by rw [List.getElem?_range hi] at ht; exact Option.some.inj ht
      have r1' : spR K p n a1 H' := Mono.up (e1.trans (e2.trans (e0.trans e'))) r1
      have hd' := e'.at hd
      have up0 : Ext H2 H' := e0.trans e'
      clear e0 e' hd ht
      dsimp only [List.set]
      refine sq (s_setD (kvs := iV []) ev_dnewT fun df H3 hdf e3 h3 => ?_)
      dsimp only [List.set]
      refine sq (s_forX (ds := [df]) (xs := pts p n) (A := ptR) (srcX_list (EvN.nl (ev_methN (ev_var rfl (Mono.up e3 r1')) (fun x H1 r => sp_ins r fun nm => rfl) ea_nil fun vs H1 Q E h => ⟨p, n, S, h⟩) (fun a ha => by rw [List.mem_singleton.mp ha, h3]; intro hx; cases hx)))
        (fun j σ' H0 => ∃ F v5 v6 v7 v8 v9, σ' = [some a1, some a2, some (.ref d), some (.int i), some (.ref df), v5, v6, v7, v8, v9] ∧ Ext H' H0 ∧ H0 df = some (DT (iV F)) ∧ (keysI F).Nodup ∧ (∀ x ∈ keysI F, inSp p n x) ∧ (∀ t ∈ F, t.2 = wNext p i w t.1) ∧ ∀ x ∈ pts p n, setA i 0 x ∈ (pts p n).take j → x ∈ keysI F)
        (fun H4 e4 => ?_) (fun H4 j x vx σ' H5 H6 hx e4 e5 t5 pv e6 hvx => ?_) fun H4 σ' H5 e4 e5 t5 pv => ?_)
      · exact ⟨[], v5, v6, v7, v8, v9, rfl, e3.trans e4, e4.at h3, List.nodup_nil, (fun x hx => nomatch hx), (fun x hx => nomatch hx), fun x _ hx => by rw [List.take_zero] at hx; cases hx⟩
      · obtain ⟨F, v5, v6, v7, v8, v9, rfl, eF, hF, f1, f2, f3, f4⟩ := pv
        have hxm := List.mem_of_getElem? hx
        have hxi := mem_pts.mp hxm
        have hil : i < x.length := by rw [hxi.1]; exact hi
        have hxc : x[i]? = some x[i] := List.getElem?_eq_getElem hil
        have eb6 : Ext (delS H4 [df]) H6 := e5.trans e6
        have et6 : TEx H4 H6 := t5.trans e6.t
        have eF6 : Ext H' H6 := eF.trans e6
        have hF6 := e6.at hF
        clear e5 t5 e6 eF hF
        dsimp only [List.set]
        refine s_if (b := decide (x[i] = 0)) (EvT.to (et_test (ev_eqS (ev_ixP (n := i) (ev_var rfl hvx) (ev_is rfl) hxc) ev_c rfl)) (by rw [Bool.eq_iff_iff]; simp)) (fun hb H7 e7 => ?_) fun hb H7 e7 => s_next ?_
        · have hb0 : x[i] = 0 := of_decide_eq_true hb
          rw [hb0] at hxc
          have eb7 := eb6.trans e7
          have et7 := et6.trans e7.t
          have eF7 := eF6.trans e7
          have hF7 := e7.at hF6
          have hvx7 : ptR x vx H7 := TMono.up e7.t hvx
          have r17 : spR K p n a1 H7 := Mono.up eF7 r1'
          have hd7 := eF7.at hd'
          refine sq (s_setN (EvN.cast (ev_lc2v (C := ptR) (val := fun k : Nat => setA i (k : Int) x) (xs := List.range p) (A := fun k => IsI (k : Nat)) (srcD_range (n := p) (ea_cons (ev_prime T (ev_var rfl r17)) ea_nil) (by omega)) (by rw [List.length_range, sizeLine_eq]; omega) fun a u H8 ha e8 hu => ⟨rfl, rfl, ?_⟩) (Rs' := ((upto p).map fun a => setA i a x).map ptR) ?_) fun pr vr H8 hpr e8 h8 r8 => ?_)
          · obtain rfl : u = .int (a : Nat) := hu
            have hv8 : ptR x vx H8 := TMono.up e8.t hvx7
            have q1 := cut_to hil
            have q2 := cut_from (x := x) (i := i + 1) (by omega)
            have e9 : setA i (a : Int) x = (cutL x none (some (i : Int)) ++ [(a : Int)]) ++ cutL x (some ((i : Int) + 1)) none := by
              rw [q1, show ((i : Int) + 1) = ((i + 1 : Nat) : Int) from rfl, q2]
              unfold setA
              rw [List.append_assoc]
              rfl
            show Ev _ _ _ (ptR (setA i (a : Int) x))
            rw [e9]
            refine ev_catP (ev_catP (ev_slP (ev_var rfl hv8) eo_none (eo_some (ev_is rfl))) ((ev_tup (ea_cons (ev_is rfl) ea_nil) (by show 1 ≤ _; decide)).imp fun v H1 e r => ptR_of (x := [(a : Int)]) r) ?_) (ev_slP (ev_var rfl hv8) (eo_some (ev_I0 (ev_is rfl) ev_c)) eo_none) ?_
            · rw [q1, List.length_take, sizeLine_eq]
              have := hxi.1
              show min _ _ + 1 ≤ _
              omega
            · rw [q1, show ((i : Int) + 1) = ((i + 1 : Nat) : Int) from rfl, q2, List.length_append, List.length_take, List.length_drop, sizeLine_eq]
              have := hxi.1
              show min _ _ + 1 + _ ≤ _
              omega
          · unfold upto
            rw [List.map_map, List.map_map, List.map_map]
            rfl
          · have eb8 := eb7.trans e8
            have et8 := et7.trans e8.t
            have eF8 := eF7.trans e8
            have hF8 := e8.at hF7
            have r18 : spR K p n a1 H8 := Mono.up e8 r17
            have hd8 := e8.at hd7
            have hrow : nlR [df] (((upto p).map fun a => setA i a x).map ptR) (.ref pr) H8 := ⟨⟨pr, vr, rfl, h8, r8⟩, fun a ha hm => by
              cases ha
              rw [List.mem_singleton] at hm
              rw [hm, hF7] at hpr
              cases hpr⟩
            have sin : ∀ a ∈ upto p, setA i a x ∈ pts p n := fun a ha => mem_pts.mpr (setA_in hxi hi (mem_upto.mp ha).1 (mem_upto.mp ha).2)
            have getw : ∀ y ∈ (upto p).map (fun a => setA i a x), valV (iV W) y = some (.int (w y)) := fun y hy => by
              obtain ⟨b, hb, rfl⟩ := List.mem_map.mp hy
              exact dW.get (sin b hb)
            dsimp only [List.set]
            refine s_forX (ds := [df]) (xs := ((upto p).map fun a => setA i a x).zip ((upto p).map (numV p fun a => w (setA i a x)))) (A := fun t => tupR [ptR t.1, IsI t.2])
              (srcX_zipL (K := K) (ea_cons (R := nlR [df] (((upto p).map fun a => setA i a x).map ptR)) (ev_var (R := nlR [df] (((upto p).map fun a => setA i a x).map ptR)) rfl hrow) (ea_cons (R := nlR [df] (((upto p).map (numV p fun a => w (setA i a x))).map IsI)) (EvN.nl (ev_callN (ea_cons (ev_prime T (ev_var rfl r18)) (ea_cons (EvN.ev (EvN.cast (ev_lc2v (C := IsI) (val := w) (xs := (upto p).map fun a => setA i a x) (A := ptR) (srcD_list (ev_var rfl hrow.1)) (by rw [List.length_map, upto_len, sizeLine_eq]; omega) fun y u H9 hy e9 hu => ⟨rfl, rfl, ev_dget (kvs := iV W) (ev_var rfl ⟨d, rfl, e9.at hd8⟩) (ev_var rfl hu) (getw y hy)⟩) (Rs' := ((upto p).map fun a => w (setA i a x)).map IsI) (by simp only [List.map_map]; rfl))) ea_nil)) fun vs H1 Q E h => ⟨p, fun a => w (setA i a x), S.pr, fun a ha => hw _ (sin a ha), h⟩) (fun a ha => by rw [List.mem_singleton.mp ha, hF8]; intro hx; cases hx)) ea_nil)))
              (fun m σ' H0 => ∃ F v7 v8, σ' = [some a1, some a2, some (.ref d), some (.int i), some (.ref df), some vx, some (.ref pr), v7, v8, v9] ∧ Ext H' H0 ∧ Ext (delS H4 [df]) H0 ∧ TEx H4 H0 ∧ H0 df = some (DT (iV F)) ∧ (keysI F).Nodup ∧ (∀ x ∈ keysI F, inSp p n x) ∧ (∀ t ∈ F, t.2 = wNext p i w t.1) ∧ ∀ y ∈ pts p n, setA i 0 y ∈ (pts p n).take j ∨ (setA i 0 y = x ∧ y[i]?.getD 0 < m) → y ∈ keysI F)
              (fun H9 e9 => ?_) (fun H9 m t vt σ' H10 H11 ht e9 e10 t10 pv e11 hvt => ?_) fun H9 σ' H10 e9 e10 t10 pv => ?_
            · exact ⟨F, v7, v8, rfl, eF8.trans e9, eb8.trans e9, et8.trans e9.t, e9.at hF8, f1, f2, f3, fun y hy h => h.elim (f4 y hy) fun h => by
                have h0 : 0 ≤ y[i]?.getD 0 := by
                  obtain ⟨c, hc⟩ : ∃ c, y[i]? = some c := ⟨_, List.getElem?_eq_getElem (by rw [(mem_pts.mp hy).1]; exact hi)⟩
                  rw [hc]
                  exact ((mem_pts.mp hy).2 c (List.mem_of_getElem? hc)).1
                omega⟩
            · obtain ⟨F, v7, v8, rfl, q1, q2, q3, q4, q5, q6, q7, q8⟩ := pv
              have hzt := List.getElem?_zip_eq_some.mp ht
              have hm : m < p := by
                have := (List.getElem?_eq_some_iff.mp hzt.1).1
                rwa [List.length_map, upto_len] at this
              rw [List.getElem?_map, List.getElem?_map, upto_at hm] at hzt
              have t1 : setA i (m : Int) x = t.1 := Option.some.inj hzt.1
              have t2 : numV p (fun a => w (setA i a x)) (m : Int) = t.2 := Option.some.inj hzt.2
              have hin : inSp p n t.1 := t1 ▸ mem_pts.mp (sin _ (mem_upto.mpr ⟨by omega, by omega⟩))
              refine g_pair hvt fun u1 u2 p1 p2 => ?_
              obtain rfl : u2 = .int t.2 := p2
              dsimp only [List.set]
              have hlk := keysI_len q5 q6 S
              refine s_dput (R := IsI t.2) (e11.at q4) (ev_is rfl) (ev_is rfl) (ev_var rfl p1) (by rw [List.length_map, sizeLine_eq]; omega) fun u H12 e12 ru => ?_
              obtain rfl : u = .int t.2 := ru
              rw [put_iV]
              have h12 := e12.at (e11.at q4)
              have eu : Ext H10 H12 := e11.trans e12
              refine ⟨(e10.trans eu).mut (delS_in (List.mem_singleton.mpr rfl)) h12 trivial, (t10.trans eu.t).trans (TEx.upd h12 trivial), putI F t.1 t.2, some u1, some (.int t.2), rfl, (q1.trans eu).mut hdf h12 trivial, (q2.trans eu).mut (delS_in (List.mem_singleton.mpr rfl)) h12 trivial, (q3.trans eu.t).trans (TEx.upd h12 trivial), upd_same, putI_nodup q5, putI_all q6 hin, putI_val q7 ?_, fun y hy hh => putI_mem.mpr ?_⟩
              · rw [← t1, wNext_set hxi.1 hi, ← t2]
              · rcases hh with h | ⟨h, hl⟩
                · exact .inl (q8 y hy (.inl h))
                · by_cases hlt : y[i]?.getD 0 < m
                  · exact .inl (q8 y hy (.inr ⟨h, hlt⟩))
                  · refine .inr ?_
                    have hyl := (mem_pts.mp hy).1
                    obtain ⟨c, hc⟩ : ∃ c, y[i]? = some c := ⟨_, List.getElem?_eq_getElem (by rw [hyl]; exact hi)⟩
                    rw [hc] at hlt hl
                    simp only [Option.getD_some] at hlt hl
                    have hcm : c = m := by omega
                    rw [← t1, ← h, setA_setA hyl hi, ← hcm, setA_self hyl hi hc]
            · obtain ⟨F, v7, v8, rfl, q1, q2, q3, q4, q5, q6, q7, q8⟩ := pv
              refine ⟨q2, q3, F, some vx, some (.ref pr), v7, v8, v9, rfl, q1, q4, q5, q6, q7, fun y hy hh => ?_⟩
              rw [take_at hx, List.mem_append, List.mem_singleton] at hh
              refine q8 y hy (hh.imp id fun h => ⟨h, ?_⟩)
              rw [List.length_zip, List.length_map, List.length_map, upto_len, Nat.min_self]
              obtain ⟨c, hc⟩ : ∃ c, y[i]? = some c := ⟨_, List.getElem?_eq_getElem (by rw [(mem_pts.mp hy).1]; exact hi)⟩
              rw [hc]
              exact ((mem_pts.mp hy).2 c (List.mem_of_getElem? hc)).2
        · refine ⟨eb6.trans e7, et6.trans e7.t, F, some vx, v6, v7, v8, v9, rfl, eF6.trans e7, e7.at hF6, f1, f2, f3, fun y hy hh => ?_⟩
          rw [take_at hx, List.mem_append, List.mem_singleton] at hh
          rcases hh with h | h
          · exact f4 y hy h
          · exfalso
            have hb0 : ¬ x[i] = 0 := of_decide_eq_false hb
            have h1 := setA_at (a := 0) (mem_pts.mp hy).1 hi
            rw [h, hxc] at h1
            exact hb0 (Option.some.inj h1)
      · obtain ⟨F, v5, v6, v7, v8, v9, rfl, eF, hF, f1, f2, f3, f4⟩ := pv
        dsimp only
        refine s_set (ev_is rfl) fun u H6 e6 ru => ?_
        obtain rfl : u = .ref df := ru
        refine ⟨up0.trans (eF.trans e6), df, wNext p i w, F, _, _, _, _, _, _, _, rfl, e6.at hF, ⟨f1, f2, fun x hx => f4 x hx ?_, f3⟩, wNext_range (by omega) hi hw, half_step S.pr hi hh⟩
        rw [List.take_length]
        exact mem_pts.mpr (setA_in (mem_pts.mp hx) hi (Int.le_refl _) (by omega))
    · obtain ⟨d, w, W, v3, v4, v5, v6, v7, v8, v9, rfl, hd, dW, hw, hh⟩ := pv
      rw [List.length_range] at hh
      dsimp only
      refine s_ret (ev_call (ea_cons (ev_var rfl (Mono.up (e1.trans e') r1)) (ea_cons (ev_var rfl (R := dR (iV W)) ⟨d, rfl, hd⟩) ea_nil)) fun vs H1 Q E h => ⟨p, n, W, S, dW.nd, dW.inn, h⟩) fun v H3 e3 rv => ?_
      refine k v H3 (e1.trans (e'.trans e3)) (rv.to fun x hx => ?_)
      rw [dW.vsum x]
      exact half_done hh hx
  case len => obtain ⟨p, n, Y, _, _, r, _⟩ := h; exact r.length
end SP
end
section
set_option Elab.async false
set_option linter.all false
set_option maxRecDepth 100000
set_option maxHeartbeats 2000000
namespace SP
open PySem L2
instance allM_map {α : Type} {f : α → RS} {xs : List α} [h : ∀ x, Mono (f x)] : AllM (xs.map f) := ⟨fun S hS => by
  obtain ⟨x, _, rfl⟩ := List.mem_map.mp hS
  exact h x⟩
def EvNN {α : Type} (te : TE) (σ : L2.St) (H : Hp) (xs : List α) (Ss : α → List RS) : Prop := ∀ H1, Ext H H1 → ∀ Q : VK, (∀ (p : Addr) (bs : List Addr) (H2 : Hp), H1 p = none → Ext H1 H2 → H2 p = some (.lst (bs.map V.ref)) → bs.Nodup → p ∉ bs → (∀ b ∈ bs, H1 b = none) →
  bs.length = xs.length → (∀ (j : Nat) (b : Addr), bs[j]? = some b → ∃ (a : α) (ws : List V), xs[j]? = some a ∧ H2 b = some (.lst ws) ∧ All (Ss a) ws H2) → Q (.ref p) H2) → te σ H1 Q
section
variable {α : Type} {K : PySem.W.Frag} {σ : L2.St} {H : Hp} {te : TE} {xs : List α} {A : α → RS} {Ss : α → List RS}
theorem at_map {α β : Type} {f : α → β} {xs : List α} {a : α} {i : Nat} (h : xs[i]? = some a) : (xs.map f)[i]? = some (f a) := by rw [List.getElem?_map, h]; rfl
theorem all_of {H : Hp} : ∀ {Rs : List RS} {vs : List V}, vs.length = Rs.length → (∀ (j : Nat) (v : V) (R : RS), vs[j]? = some v → Rs[j]? = some R → R v H) → All Rs vs H
  | [], [], _, _ => .nil
  | R :: Rs, v :: vs, hl, h => .cons (h 0 v R rfl rfl) (all_of (Nat.succ.inj hl) fun j v R h1 h2 => h (j + 1) v R h1 h2)
  | [], _ :: _, hl, _ => by cases hl
  | _ :: _, [], hl, _ => by cases hl
theorem EvNN.n (h : EvNN te σ H xs Ss) : EvN te σ H (xs.map fun a => lstR (Ss a)) := fun H1 e Q q =>
  h H1 e _ fun p bs H2 hp e2 h2 _ _ _ hl hb => q p _ H2 hp e2 h2 (all_of (by rw [List.length_map, List.length_map, hl]) fun j v R h3 h4 => by
    rw [List.getElem?_map] at h3 h4
    obtain ⟨b, hb1, rfl⟩ := Option.map_eq_some_iff.mp h3
    obtain ⟨a, ws, ha, hw, r⟩ := hb j b hb1
    rw [ha] at h4
    cases h4
    exact ⟨b, ws, rfl, hw, r⟩)
theorem ev_lcN {wi : TI} {g : TG} [gm : GMono g] {vs : List Nat} [m : ∀ x, AllT (Ss x)] (hs : SrcD wi σ H xs A) (hz : xs.length < sizeLine)
    (body : ∀ a x H1, a ∈ xs → Ext H H1 → A a x H1 → g x (wipe σ vs) H1 fun σ2 H2 => wipe σ2 vs = wipe σ vs ∧ H2 = H1 ∧ EvN te σ2 H1 (Ss a)) :
    EvNN (tLc wi g tYes te vs) σ H xs Ss := fun H1 e Q k =>
  hs H1 e _ fun J H2 e2 s D hD => by
    refine lc_it s (fun i Hc => ∃ bs : List Addr, Hc D = some (.lst (bs.map V.ref)) ∧ bs.Nodup ∧ D ∉ bs ∧ (∀ b ∈ bs, H2 b = none) ∧ bs.length = (xs.take i).length ∧ (∀ (j : Nat) (b : Addr), bs[j]? = some b → ∃ (a : α) (ws : List V), xs[j]? = some a ∧ Hc b = some (.lst ws) ∧ All (Ss a) ws Hc) ∧ Ext H2 Hc) ⟨[], upd_same, List.nodup_nil, List.not_mem_nil, (fun b hb => nomatch hb), by simp, (fun j b h => by cases h), Ext.new _ hD⟩ (fun i Hc _ p => ?_) (fun i x Hc Hc' hi p y => ?_) fun Hc p => ?_
    · obtain ⟨bs, _, _, _, _, _, _, ec⟩ := p
      exact ⟨ec, ec.t⟩
    · obtain ⟨bs, hacc, hnd, hDb, hfr, hlen, hb, ec⟩ := p
      obtain ⟨ey, a, ha, hA⟩ := y
      refine gm.imp (fun σ2 H3 q => ?_) (body a x Hc' (List.mem_of_getElem? ha) (((e.trans e2).trans ec).trans ey) hA)
      obtain ⟨q1, rfl, q3⟩ := q
      have hil := (List.getElem?_eq_some_iff.mp ha).1
      have hl : bs.length = i := by
        rw [hlen, List.length_take]
        omega
      refine ⟨q1, (et_yes (σ := σ2) (H := H3)) _ (Ext.refl _) _ fun H4 e4 => ?_⟩
      refine iteT (q3 H4 e4 _ fun b ws H5 hbn e5 hb5 r5 => ⟨bs.map V.ref, e5.at (e4.at (ey.at hacc)), by rw [List.length_map]; omega, ?_⟩)
      replace ey := ey.trans e4
      clear e4 q3 hA
      have h5 : H5 D = some (.lst (bs.map V.ref)) := e5.at (ey.at hacc)
      have tx : TEx H5 (upd H5 D (.lst (bs.map V.ref ++ [V.ref b]))) := TEx.upd h5 trivial
      have hD3 : H4 D ≠ none := by rw [ey.at hacc]; intro hx; cases hx
      have nbD : b ≠ D := fun hx => hD3 (hx ▸ hbn)
      have nbb : b ∉ bs := fun hm => by
        obtain ⟨j, hj⟩ := List.getElem?_of_mem hm
        obtain ⟨_, ws', _, h7, _⟩ := hb j b hj
        rw [ey.at h7] at hbn
        cases hbn
      refine ⟨bs ++ [b], by rw [upd_same, List.map_append]; rfl, List.nodup_append.mpr ⟨hnd, List.nodup_cons.mpr ⟨List.not_mem_nil, List.nodup_nil⟩, fun x hx y hy => by rw [List.mem_singleton.mp hy]; rintro rfl; exact nbb hx⟩, ?_, ?_, ?_, ?_, ((ec.trans ey).trans e5).mut hD h5 trivial⟩
      · rw [List.mem_append, List.mem_singleton]
        rintro (h | h)
        · exact hDb h
        · exact nbD h.symm
      · intro c hc
        rcases List.mem_append.mp hc with h | h
        · exact hfr c h
        · rw [List.mem_singleton.mp h]; exact (ec.trans ey).free b hbn
      · rw [List.length_append, hl, List.length_take]
        show i + 1 = _
        omega
      · intro j c hc
        by_cases hj : j < bs.length
        · rw [List.getElem?_append_left hj] at hc
          obtain ⟨a', ws', h7, h8, h9⟩ := hb j c hc
          have ncD : c ≠ D := fun hx => hDb (hx ▸ List.mem_of_getElem? hc)
          refine ⟨a', ws', h7, by rw [upd_ne ncD]; exact e5.at (ey.at h8), All.upT (((ey.trans e5).t).trans tx) h9⟩
        · rw [List.getElem?_append_right (by omega)] at hc
          have hj0 : j - bs.length = 0 := by
            have := (List.getElem?_eq_some_iff.mp hc).1
            simp only [List.length_cons, List.length_nil] at this
            omega
          rw [hj0] at hc
          cases hc
          have : j = i := by omega
          subst this
          exact ⟨a, ws, ha, by rw [upd_ne nbD]; exact hb5, All.upT tx r5⟩
    · obtain ⟨bs, hacc, hnd, hDb, hfr, hlen, hb, ec⟩ := p
      rw [List.take_length] at hlen
      exact k D bs Hc (e2.fresh hD) (e2.trans ec) hacc hnd hDb (fun b hb => e2.fresh (hfr b hb)) hlen hb
theorem s_setNN {D : Ends} {i : Nat} (h : EvNN te σ H xs Ss) (k : ∀ (p : Addr) (bs : List Addr) (H2 : Hp), H p = none → Ext H H2 → H2 p = some (.lst (bs.map V.ref)) → bs.Nodup → p ∉ bs → (∀ b ∈ bs, H b = none) → bs.length = xs.length → (∀ (j : Nat) (b : Addr), bs[j]? = some b → ∃ (a : α) (ws : List V), xs[j]? = some a ∧ H2 b = some (.lst ws) ∧ All (Ss a) ws H2) → D.nx (σ.set i (some (.ref p))) H2) : tAsg te (gName i) D σ H :=
  h H (Ext.refl _) _ fun p bs H2 h1 h2 h3 h4 h5 h6 h7 h8 => k p bs H2 h1 h2 h3 h4 h5 h6 h7 h8
end
end SP
end
section
set_option Elab.async false
set_option linter.all false
set_option maxRecDepth 100000
set_option maxHeartbeats 4000000
namespace SP
open PySem PyProof.Rows L2
variable {P : Program} {w : World} {K : PySem.W.Frag} {mg : Str → Option Value} {base : Heap}
theorem nodup_at {α : Type} {xs : List α} (h : xs.Nodup) {i j : Nat} {a : α} (hi : xs[i]? = some a) (hj : xs[j]? = some a) : i = j := by
  obtain ⟨h1, h2⟩ := List.getElem?_eq_some_iff.mp hi
  obtain ⟨h3, h4⟩ := List.getElem?_eq_some_iff.mp hj
  have q := List.pairwise_iff_getElem.mp h
  rcases Nat.lt_trichotomy i j with h5 | h5 | h5
  · exact absurd (h2.trans h4.symm) (q i j h1 h3 h5)
  · exact h5
  · exact absurd (h4.trans h2.symm) (q j i h3 h1 h5)
def want (p : Nat) (F : Pt → Int) (x : Pt) (L : List (Pt → Int)) : Int := L.foldl (fun w E => if w ≠ 0 ∧ E x % (p : Int) ≠ 0 then 0 else w) (F x % p)
def shr (p : Nat) (w c : Int) : Int := if w ≠ 0 ∧ c ≠ 0 then w * (c ^ (p - 2) % p) % p else 0
def facY (p : Nat) (Es : List (Pt → Int)) (F : Pt → Int) (j : Nat) (x : Pt) : Int := shr p (want p F x (Es.take j)) ((Es[j]?.getD fun _ => 0) x % p)
def facL (p : Nat) (Es : List (Pt → Int)) (F : Pt → Int) : List (Pt → Int) := (List.range Es.length).map (facY p Es F)
def dotS (Es Fs : List (Pt → Int)) (x : Pt) : Int := lsum (Es.zip Fs) fun t => t.2 x * t.1 x
def Foll (p n : Nat) (Es : List (Pt → Int)) (F : Pt → Int) : Prop := ∀ x ∈ pts p n, (∀ E ∈ Es, Cg p (E x) 0) → Cg p (F x) 0
section
variable {p n : Nat} {F E : Pt → Int} {x : Pt} {Es L : List (Pt → Int)}
theorem want_snoc : want p F x (L ++ [E]) = if want p F x L ≠ 0 ∧ E x % (p : Int) ≠ 0 then 0 else want p F x L := by
  unfold want
  rw [List.foldl_append]
  rfl
theorem want_range (hp : 0 < p) : 0 ≤ want p F x L ∧ want p F x L < p := by
  have q : ∀ (L : List (Pt → Int)) (w : Int), 0 ≤ w ∧ w < p → 0 ≤ L.foldl (fun w E => if w ≠ 0 ∧ E x % (p : Int) ≠ 0 then 0 else w) w ∧ L.foldl (fun w E => if w ≠ 0 ∧ E x % (p : Int) ≠ 0 then 0 else w) w < p := by
    intro L
    induction L with
    | nil => intro w h; exact h
    | cons E L ih =>
      intro w h
      rw [List.foldl_cons]
      refine ih _ ?_
      by_cases hc : w ≠ 0 ∧ E x % (p : Int) ≠ 0
      · rw [if_pos hc]; exact ⟨Int.le_refl _, by omega⟩
      · rw [if_neg hc]; exact h
  exact q L _ ⟨Int.emod_nonneg _ (by omega), Int.emod_lt_of_pos _ (by omega)⟩
theorem shr_range (hp : 0 < p) (w c : Int) : 0 ≤ shr p w c ∧ shr p w c < p := by
  unfold shr
  split
  · exact ⟨Int.emod_nonneg _ (by omega), Int.emod_lt_of_pos _ (by omega)⟩
  · exact ⟨Int.le_refl _, by omega⟩
theorem want_pos : want p F x L ≠ 0 → want p F x L = F x % (p : Int) ∧ ∀ E ∈ L, E x % (p : Int) = 0 := by
  have q : ∀ (L : List (Pt → Int)) (w : Int), L.foldl (fun w E => if w ≠ 0 ∧ E x % (p : Int) ≠ 0 then 0 else w) w ≠ 0 → L.foldl (fun w E => if w ≠ 0 ∧ E x % (p : Int) ≠ 0 then 0 else w) w = w ∧ (w ≠ 0 ∧ ∀ E ∈ L, E x % (p : Int) = 0) := by
    intro L
    induction L with
    | nil => intro w h; exact ⟨rfl, h, fun E hE => nomatch hE⟩
    | cons E L ih =>
      intro w h
      rw [List.foldl_cons] at h ⊢
      have h1 := ih _ h
      by_cases hc : w ≠ 0 ∧ E x % (p : Int) ≠ 0
      · exact absurd (if_pos hc) h1.2.1
      · rw [if_neg hc] at h1 ⊢
        refine ⟨h1.1, h1.2.1, fun E' hE' => ?_⟩
        rcases List.mem_cons.mp hE' with rfl | h2
        · by_cases hz : E' x % (p : Int) = 0
          · exact hz
          · exact absurd ⟨h1.2.1, hz⟩ hc
        · exact h1.2.2 E' h2
  intro h
  obtain ⟨h1, h2, h3⟩ := q L (F x % p) h
  exact ⟨h1, h3⟩
theorem want_end (hx : x ∈ pts p n) (h : Foll p n Es F) : want p F x Es = 0 := by
  apply Classical.byContradiction
  intro hn
  obtain ⟨h1, h2⟩ := want_pos hn
  have := h x hx fun E hE => Cg.zero_iff.mpr (h2 E hE)
  rw [h1, Cg.zero_iff.mp this] at hn
  exact hn rfl
theorem facL_len : (facL p Es F).length = Es.length := by unfold facL; rw [List.length_map, List.length_range]
theorem facL_at {j : Nat} (h : j < Es.length) : (facL p Es F)[j]? = some (facY p Es F j) := by
  unfold facL
  rw [List.getElem?_map, List.getElem?_range h]
  rfl
theorem fac_sum (h : Pr p) : ∀ j, j ≤ Es.length → Cg p (lsum ((Es.zip (facL p Es F)).take j) fun t => t.2 x * t.1 x) (F x - want p F x (Es.take j))
  | 0, _ => by
    rw [List.take_zero, List.take_zero, lsum_nil]
    have h1 : Cg p (F x - F x % p) (F x % p - F x % p) := (Cg.mod (F x)).symm.sub (Cg.refl (F x % p))
    exact (h1.trans (Cg.of (by omega))).symm
  | j + 1, hj => by
    have hE := List.getElem?_eq_getElem (show j < Es.length by omega)
    rw [lsum_take (zip_at hE (facL_at (F := F) (p := p) (by omega))), take_at hE, want_snoc]
    refine ((fac_sum h j (by omega)).add (Cg.refl _)).trans ?_
    unfold facY shr
    rw [hE]
    show Cg p (F x - want p F x (Es.take j) + (if want p F x (Es.take j) ≠ 0 ∧ Es[j] x % (p : Int) ≠ 0 then want p F x (Es.take j) * ((Es[j] x % p) ^ (p - 2) % p) % p else 0) * Es[j] x) _
    generalize hw : want p F x (Es.take j) = w
    generalize Es[j] x = c
    by_cases hc : w ≠ 0 ∧ c % (p : Int) ≠ 0
    · rw [if_pos hc, if_pos hc, Int.sub_zero]
      have hp := h.two
      have hr : 0 ≤ c % (p : Int) := Int.emod_nonneg _ (by omega)
      have h1 := (inv_ok h (a := c % (p : Int)) (by omega) (Int.emod_lt_of_pos _ (by omega))).1
      generalize (c % (p : Int)) ^ (p - 2) % (p : Int) = v at h1
      have h2 : Cg p (w * v % p * c) w := ((Cg.mod (w * v)).mul (Cg.mod c).symm).trans ((Cg.of (by grind)).trans (((Cg.refl w).mul h1).trans (Cg.of (Int.mul_one w))))
      exact ((Cg.refl (F x - w)).add h2).trans (Cg.of (by omega))
    · rw [if_neg hc, if_neg hc, Int.zero_mul, Int.add_zero]
      exact Cg.refl _
theorem fac_dot (h : Pr p) (hx : x ∈ pts p n) (hf : Foll p n Es F) : Cg p (dotS Es (facL p Es F) x) (F x) := by
  have q := fac_sum (F := F) (x := x) h Es.length (Nat.le_refl _)
  rw [List.take_of_length_le (by rw [List.length_zip, facL_len, Nat.min_self]; exact Nat.le_refl _), List.take_length, want_end hx hf, Int.sub_zero] at q
  exact q
end
abbrev n_factors : List Str := ["system", "one", "space", "tables", "point", "wanted", "equation", "table", "number", "share", "_"]
theorem sc_factors : FnScope n_factors ["system", "one"] (defScope s_factors) := ⟨rfl, rfl, rfl, by decide +kernel, rfl, by decide +kernel, by decide +kernel⟩
theorem bd_factors : BindB "factors" "factors" s_factors ["system", "one"] := fun _ _ _ _ _ _ us hl => match us, hl with | [_, _], _ => rfl

def sp_factors (K : PySem.W.Frag) : Sp := fun vs H Q E => ∃ (p n : Nat) (Es : List (Pt → Int)) (F : Pt → Int), Shape p n ∧ Es.length ≤ 1000 ∧ Foll p n Es F ∧ SpN [syR K p n Es, polyR p n F] ((facL p Es F).map (polyR p n)) vs H Q E
abbrev G_factors (P : Program) (w : World) (K : PySem.W.Frag) (mg : Str → Option Value) (base : Heap) : Prop := GFn P w K mg base "factors" 4 ["system", "one"] (sp_factors K)

theorem ok_factors (T : TopF K mg) (g_Space_points : G_Space_points P w K mg base) (g_inverse : G_inverse P w K mg base) (g_polynomial_of : G_polynomial_of P w K mg base) (g_value : G_value P w K mg base) : G_factors P w K mg base := by
  refine T.d_factors.fn sc_factors bd_factors (fun vs H Q E h => ?len) fun f cdv A outer s H vs Q E hr h => ?walk
  case walk =>
    have hu := room1 hr
    have hu3 := room3 hr
    have hu64 := hr.units
    have hu65 := room65 hr
    refine ⟨_, (pss_cons (ps_set (i := 2) sc_factors.nd rfl (Or.inr rfl) (k_fld (K := K) rfl (pv 0) rfl))
      (pss_cons (ps_setLc (i := 3) (own := [("_", 10)]) (g := (gName 10)) (by rfl) sc_factors.nd rfl rfl (sw_true rfl rfl rfl (by decide +kernel)) (k_piL (K := K) rfl (k_fld (K := K) rfl (pv 0) rfl)) (blkOk_by (own := [("_", 10)]) (N := n_factors) (sc := defScope s_factors) (by decide +kernel)) (fun _ _ _ _ _ => (pg_name (i := 10) sc_factors.nd rfl (Or.inl rfl))) (fun _ _ _ _ _ => pts_nil) (fun _ _ _ _ _ => (pe_lst pa_nil)))
      (pss_cons (ps_for PassesOwn.never rfl (k_piL (K := K) rfl (pe_mt0 (pv 2) T.c_Space g_Space_points hr (by decide))) (pg_name (i := 4) sc_factors.nd rfl (Or.inl rfl))
      (pss_cons (ps_set (i := 5) sc_factors.nd rfl (Or.inl rfl) (pe_fn g_value hr (by decide) (by rfl) (pa_cons (pv 2) (pa_cons (pv 1) (pa_cons (pv 4) pa_nil)))))
      (pss_cons (ps_for PassesOwn.never rfl (k_zipA (K := K) rfl (by rfl) T.b_zip (pa_cons (k_fld (K := K) rfl (pv 0) rfl) (pa_cons (pv 3) pa_nil))) (pg_tup rfl (pgs_cons (pg_name (i := 6) sc_factors.nd rfl (Or.inl rfl)) (pgs_cons (pg_name (i := 7) sc_factors.nd rfl (Or.inl rfl)) pgs_nil)))
      (pss_cons (ps_set (i := 8) sc_factors.nd rfl (Or.inl rfl) (pe_fn g_value hr (by decide) (by rfl) (pa_cons (pv 2) (pa_cons (pv 6) (pa_cons (pv 4) pa_nil)))))
      (pss_cons (ps_set (i := 9) sc_factors.nd rfl (Or.inl rfl) pe_int)
      (pss_cons (ps_if (PW.pt (pw_and (pt_cmpR op_ne (pv 5) pe_int (nomark _)) (pw_and1 (pt_cmpR op_ne (pv 8) pe_int (nomark _))))) (pss_cons (ps_set (i := 9) sc_factors.nd rfl (Or.inl rfl) (pe_op op_mod (pe_op op_mul (pv 5) (pe_fn g_inverse hr (by decide) (by rfl) (pa_cons (k_fld (K := K) rfl (pv 2) rfl) (pa_cons (pv 8) pa_nil)))) (k_fld (K := K) rfl (pv 2) rfl)))
      (pss_one (ps_set (i := 5) sc_factors.nd rfl (Or.inl rfl) pe_int))) pss_nil)
      (pss_one (ps_expr (pe_bm PySem.F.plainAttrs_list PySem.F.slot_list_append PySem.F.type_list_append mt_append (pv 7) (pa_cons (pv 9) pa_nil))))))))
      (pss_one (ps_if (pt_cmpR op_ne (pv 5) pe_int (nomark _)) (pss_one (ps_ret pe_non)) pss_nil)))))
      (pss_one (ps_ret (pe_lc (own := [("table", 7)]) (g := (gName 7)) (by rfl) sc_factors.nd (k_piL (K := K) rfl (pv 3)) (blkOk_by (own := [("table", 7)]) (N := n_factors) (sc := defScope s_factors) (by decide +kernel)) (fun _ _ _ _ _ => (pg_name (i := 7) sc_factors.nd rfl (Or.inl rfl))) (fun _ _ _ _ _ => pts_nil) (fun _ _ _ _ _ => (pe_fn g_polynomial_of hr (by decide) (by rfl) (pa_cons (pv 2) (pa_cons (pv 7) pa_nil)))))))))), ?_⟩
    obtain ⟨p, n, Es, F, S, hE, hfol, r, k⟩ := h
    obtain ⟨a1, a2, rfl, r1, r2⟩ := All.l2 r
    have hp := S.p
    have hz := S.pts
    refine sq (s_set (ev_sySpace T (ev_var rfl r1)) fun sp H1 e1 rs => ?_)
    dsimp only [List.set]
    refine sq (s_setNN (xs := Es) (Ss := fun _ => []) (ev_lcN (A := polyR p n) (srcD_list (ev_syEqs T (ev_var rfl (Mono.up e1 r1)))) (by rw [sizeLine_eq]; omega) fun E v H2 hE2 e2 rv => ⟨rfl, rfl, ev_lst ea_nil (by show 0 ≤ _; decide)⟩) fun D bs H2 hD0 e2 hD hnd hDb hfr hlen hbs => ?_)
    have hbl : ∀ j b, bs[j]? = some b → j < Es.length := fun j b h => by
      have := (List.getElem?_eq_some_iff.mp h).1
      omega
    have r2b : syR K p n Es a1 H2 := Mono.up (e1.trans e2) r1
    have rs2 : spR K p n sp H2 := Mono.up e2 rs
    have hfrH : ∀ b ∈ bs, H b = none := fun b hb => e1.fresh (hfr b hb)
    dsimp only [List.set]
    refine sq (s_forX (ds := bs) (xs := pts p n) (A := ptR) (srcX_list (EvN.nl (ev_methN (ev_var rfl rs2) (fun x H1 r => sp_ins r fun nm => rfl) ea_nil fun vs H1 Q E h => ⟨p, n, S, h⟩) (fun a ha => by
        obtain ⟨j, hj⟩ := List.getElem?_of_mem ha
        obtain ⟨_, ws, _, h7, _⟩ := hbs j a hj
        rw [h7]; intro hx; cases hx)))
      (fun m σ' H0 => ∃ v4 v5 v6 v7 v8 v9 v10, σ' = [some a1, some a2, some sp, some (.ref D), v4, v5, v6, v7, v8, v9, v10] ∧ Ext H H0 ∧ Ext H1 H0 ∧ TEx H2 H0 ∧ H0 D = some (.lst (bs.map V.ref)) ∧ ∀ j b, bs[j]? = some b → H0 b = some (.lst ((((pts p n).take m).map (facY p Es F j)).map V.int)))
      (fun H4 e4 => ?_) (fun H4 m x vx σ' H5 H6 hx e4 e5 t5 pv e6 hvx => ?_) fun H4 σ' H5 e4 e5 t5 pv => ?_)
    · refine ⟨none, none, none, none, none, none, none, rfl, e1.trans (e2.trans e4), e2.trans e4, e4.t, e4.at hD, fun j b hj => ?_⟩
      obtain ⟨_, ws, _, h7, h8⟩ := hbs j b hj
      rw [e4.at h7, All.l0 h8, List.take_zero]
      rfl
    · obtain ⟨v4, v5, v6, v7, v8, v9, v10, rfl, q1, q2, q3, q4, q5⟩ := pv
      have hxm := List.mem_of_getElem? hx
      have u1 := q1.trans e6
      have u2 := q2.trans e6
      have u3 := q3.trans e6.t
      have u4 := e6.at q4
      have u5 : ∀ j b, bs[j]? = some b → H6 b = some (.lst ((((pts p n).take m).map (facY p Es F j)).map V.int)) := fun j b h => e6.at (q5 j b h)
      have ed := e5.trans e6
      have td := t5.trans e6.t
      clear q1 q2 q3 q4 q5 e5 t5 e6
      dsimp only [List.set]
      refine sq (s_set (ev_call (R := IsI (F x % p)) (ea_cons (ev_var rfl (Mono.up u2 rs)) (ea_cons (ev_var rfl (TMono.up u1.t r2)) (ea_cons (ev_var rfl hvx) ea_nil))) fun vs H1 Q E h => ⟨p, n, F, x, S, hxm, h⟩) fun w0 H7 e7 rw0 => ?_)
      obtain rfl : w0 = .int (F x % p) := rw0
      dsimp only [List.set]
      have hEqs : lstR (((bs.map V.ref).map Is)) (.ref D) H7 := ⟨D, _, rfl, e7.at u4, all_of (by simp) fun j v R h1 h2 => by
        rw [List.getElem?_map, h1] at h2
        cases h2
        rfl⟩
      obtain ⟨vs0, ve0, hins, hsp0, hle0⟩ := r1
      refine sq (s_forX (ds := bs) (xs := Es.zip (bs.map V.ref)) (A := fun t => tupR [polyR p n t.1, Is t.2]) (srcX_zipL (K := K) (ea_cons (R := nlR bs (Es.map (polyR p n))) (ev_fld (Ra := fun v H => v = a1 ∧ InsR (He.ga K "System") [("space", vs0), ("equations", ve0)] v H ∧ lstR (Es.map (polyR p n)) ve0 H) (fun H9 e9 Q q => (ev_is (v := a1) rfl) H9 e9 Q fun v H10 e10 rv => q v H10 e10 ⟨rv, (show v = a1 from rv) ▸ Mono.up (u1.trans (e7.trans (e9.trans e10))) hins, Mono.up (u1.trans (e7.trans (e9.trans e10))) hle0⟩) fun v H9 r9 => ?_) (ea_cons (R := nlR bs ((bs.map V.ref).map Is)) (ev_var rfl ⟨hEqs, fun a ha => by cases ha; exact hDb⟩) ea_nil)))
        (fun j σ' H0 => ∃ v6 v7 v8 v9, σ' = [some a1, some a2, some sp, some (.ref D), some vx, some (.int (want p F x (Es.take j))), v6, v7, v8, v9, v10] ∧ Ext H H0 ∧ Ext H1 H0 ∧ Ext (delS H4 bs) H0 ∧ TEx H4 H0 ∧ H0 D = some (.lst (bs.map V.ref)) ∧ ∀ i b, bs[i]? = some b → H0 b = some (.lst ((((pts p n).take (if i < j then m + 1 else m)).map (facY p Es F i)).map V.int)))
        (fun H8 e8 => ?_) (fun H8 j t vt σ' H9 H10 ht e8 e9 t9 pv e10 hvt => ?_) fun H8 σ' H9 e8 e9 t9 pv => ?_)
      · obtain ⟨rv, ⟨a, dx, h1, h2⟩, h3⟩ := r9
        refine ⟨a, _, dx, _, ve0, h1, h2, T.c_System, T.n_System_equations, rfl, h3, fun b hb hm => ?_⟩
        obtain ⟨b', vs', hb', hx', _⟩ := hle0
        rw [hb] at hb'
        cases hb'
        rw [hfrH b hm] at hx'
        cases hx'
      · exact ⟨v6, v7, v8, v9, by rw [List.take_zero]; rfl, u1.trans (e7.trans e8), u2.trans (e7.trans e8), ed.trans (e7.trans e8), td.trans (e7.trans e8).t, e8.at (e7.at u4), fun i b hi => by rw [if_neg (by omega)]; exact e8.at (e7.at (u5 i b hi))⟩
      · obtain ⟨v6, v7, v8, v9, rfl, q1, q2, q3, q4, q5, q6⟩ := pv
        have hzt := List.getElem?_zip_eq_some.mp ht
        have hj := (List.getElem?_eq_some_iff.mp hzt.1).1
        obtain ⟨b, hb, hbt⟩ : ∃ b, bs[j]? = some b ∧ V.ref b = t.2 := by
          have h := hzt.2
          rw [List.getElem?_map] at h
          exact Option.map_eq_some_iff.mp h
        have hbm := List.mem_of_getElem? hb
        refine g_pair hvt fun y1 y2 z1 z2 => ?_
        obtain rfl : y2 = t.2 := z2
        rw [← hbt]
        have hwr := want_range (p := p) (F := F) (x := x) (L := Es.take j) (by omega)
        have hcr : 0 ≤ t.1 x % (p : Int) ∧ t.1 x % (p : Int) < p := ⟨Int.emod_nonneg _ (by omega), Int.emod_lt_of_pos _ (by omega)⟩
        have hir : 0 ≤ (t.1 x % (p : Int)) ^ (p - 2) % (p : Int) ∧ (t.1 x % (p : Int)) ^ (p - 2) % (p : Int) < p := ⟨Int.emod_nonneg _ (by omega), Int.emod_lt_of_pos _ (by omega)⟩
        have w1 := q1.trans e10
        have w2 := q2.trans e10
        have w3 := q3.trans e10
        have w4 := q4.trans e10.t
        have hvx10 : ptR x vx H10 := TMono.up ((e7.trans e8).t.trans (t9.trans e10.t)) hvx
        have rs10 : spR K p n sp H10 := Mono.up w2 rs
        have q6b := e10.at (q6 j b hb)
        rw [if_neg (by omega)] at q6b
        dsimp only [List.set]
        refine sq (s_set (ev_call (R := IsI (t.1 x % p)) (ea_cons (ev_var rfl rs10) (ea_cons (ev_var rfl z1) (ea_cons (ev_var rfl hvx10) ea_nil))) fun vs H1 Q E h => ⟨p, n, t.1, x, S, hxm, h⟩) fun c H11 e11 rc => ?_)
        obtain rfl : c = .int (t.1 x % p) := rc
        dsimp only [List.set]
        refine sq (s_set ev_c fun c H12 e12 rc => ?_)
        obtain rfl : c = .int 0 := rc
        dsimp only [List.set]
        have hfin : ∀ (D' : Ends) (H13 : Hp) (w' : Int), Ext H12 H13 → (∀ H4' : Hp, Ext (delS H8 bs) H4' → TEx H8 H4' → Ext H H4' → Ext H1 H4' → Ext (delS H4 bs) H4' → TEx H4 H4' → H4' D = some (.lst (bs.map V.ref)) → (∀ i b, bs[i]? = some b → H4' b = some (.lst ((((pts p n).take (if i < j + 1 then m + 1 else m)).map (facY p Es F i)).map V.int))) →
              D'.nx [some a1, some a2, some sp, some (.ref D), some vx, some (.int w'), some y1, some (.ref b), some (.int (t.1 x % p)), some (.int (facY p Es F j x)), v10] H4') →
            tDrop (tBM K "list" rAppend (tVar 7) (tCons (tVar 9) tNil)) D' [some a1, some a2, some sp, some (.ref D), some vx, some (.int w'), some y1, some (.ref b), some (.int (t.1 x % p)), some (.int (facY p Es F j x)), v10] H13 := fun D' H13 w' e13 kk => by
          have e0 : Ext H10 H13 := (e11.trans e12).trans e13
          refine s_app (e0.at q6b) (ev_is rfl) (ev_is rfl) (by rw [List.length_map, List.length_map, List.length_take, sizeLine_eq]; omega) fun u H14 e14 ru => ?_
          obtain rfl : u = .int (facY p Es F j x) := ru
          have e14 := e0.trans e14
          have h14 := e14.at q6b
          have hdel : delS H4 bs b = none := delS_in hbm
          refine kk _ (((e9.trans e10).trans e14).mut (delS_in hbm) h14 trivial) ((t9.trans (e10.t.trans e14.t)).trans (TEx.upd h14 trivial)) ((w1.trans e14).mut (hfrH b hbm) h14 trivial) ((w2.trans e14).mut (hfr b hbm) h14 trivial) ((w3.trans e14).mut hdel h14 trivial) ((w4.trans e14.t).trans (TEx.upd h14 trivial)) ?_ fun i b' hb' => ?_
          · have hne : D ≠ b := fun hx => hDb (hx ▸ hbm)
            rw [upd_ne hne]
            exact e14.at (e10.at q5)
          · by_cases hij : i = j
            · subst hij
              rw [hb] at hb'
              cases hb'
              rw [upd_same, if_pos (by omega), take_at hx, List.map_append, List.map_append]
              rfl
            · have hne : b' ≠ b := fun hx => hij (nodup_at hnd (hx ▸ hb') hb)
              rw [upd_ne hne]
              have h := e14.at (e10.at (q6 i b' hb'))
              rw [h]
              by_cases hlt : i < j
              · rw [if_pos hlt, if_pos (by omega)]
              · rw [if_neg hlt, if_neg (by omega)]
        have hsn : want p F x (Es.take (j + 1)) = if want p F x (Es.take j) ≠ 0 ∧ t.1 x % (p : Int) ≠ 0 then 0 else want p F x (Es.take j) := by rw [take_at hzt.1, want_snoc]
        have hfy : facY p Es F j x = shr p (want p F x (Es.take j)) (t.1 x % p) := by unfold facY; rw [hzt.1]; rfl
        generalize hwe : want p F x (Es.take j) = w at hwr hsn hfy ⊢
        refine sq (s_if (b := !decide (w = 0) && !decide (t.1 x % (p : Int) = 0)) (EvT.to (et_and (a := !decide (w = 0)) (b := !decide (t.1 x % (p : Int) = 0)) (EvT.to (et_test (ev_neS (ev_is rfl) ev_c rfl)) (by rw [Bool.eq_iff_iff]; simp)) fun _ => EvT.to (et_test (ev_neS (ev_is rfl) ev_c rfl)) (by rw [Bool.eq_iff_iff]; simp)) rfl) (fun hc H13 e13 => ?_) fun hc H13 e13 => s_next ?_)
        · have hc' : w ≠ 0 ∧ t.1 x % (p : Int) ≠ 0 := by simpa using hc
          rw [if_pos hc'] at hsn
          have hfs : facY p Es F j x = w * ((t.1 x % p) ^ (p - 2) % p) % p := by rw [hfy]; exact if_pos hc'
          refine sq (s_set (ev_mod (ev_mul (ev_is rfl) (ev_call (R := IsI ((t.1 x % p) ^ (p - 2) % p)) (ea_cons (ev_prime T (ev_var rfl (Mono.up ((e11.trans e12).trans e13) rs10))) (ea_cons (ev_is rfl) ea_nil)) fun vs H1 Q E h => ⟨p, t.1 x % p, by omega, by omega, h⟩) (.inl ⟨by omega, by omega⟩)) (ev_prime T (ev_var rfl (Mono.up ((e11.trans e12).trans e13) rs10))) (by omega)) fun u H14 e14 ru => ?_)
          obtain rfl : u = .int (w * ((t.1 x % p) ^ (p - 2) % p) % p) := ru
          rw [← hfs]
          dsimp only [List.set]
          refine s_set ev_c fun u H15 e15 ru => ?_
          obtain rfl : u = .int 0 := ru
          dsimp only [List.set]
          exact hfin _ H15 0 (e13.trans (e14.trans e15)) fun H4' g1 g2 g3 g4 g5 g6 g7 g8 => ⟨g1, g2, _, _, _, _, by rw [hsn], g3, g4, g5, g6, g7, g8⟩
        · have hc' : ¬(w ≠ 0 ∧ t.1 x % (p : Int) ≠ 0) := by
            intro h
            have : (!decide (w = 0) && !decide (t.1 x % (p : Int) = 0)) = true := by simpa using h
            rw [hc] at this
            cases this
          rw [if_neg hc'] at hsn
          have hfs : facY p Es F j x = 0 := by rw [hfy]; exact if_neg hc'
          have hq := hfin
          rw [hfs] at hq
          exact hq _ H13 w e13 fun H4' g1 g2 g3 g4 g5 g6 g7 g8 => ⟨g1, g2, _, _, _, _, by rw [hsn], g3, g4, g5, g6, g7, g8⟩
      · obtain ⟨v6, v7, v8, v9, rfl, q1, q2, q3, q4, q5, q6⟩ := pv
        rw [List.length_zip, List.length_map, hlen, Nat.min_self] at q6
        rw [List.length_zip, List.length_map, hlen, Nat.min_self, List.take_length, want_end hxm hfol]
        dsimp only
        refine s_if (b := false) (EvT.to (et_test (ev_neS (ev_is rfl) ev_c rfl)) (by simp)) (fun hb => by cases hb) fun hb H10 e10 => s_next ?_
        refine ⟨q3.trans e10, q4.trans e10.t, some vx, some (.int 0), v6, v7, v8, v9, v10, rfl, q1.trans e10, q2.trans e10, ?_, e10.at q5, fun i b hi => ?_⟩
        · exact e4.t.trans (q4.trans e10.t)
        · have h := q6 i b hi
          rw [if_pos (hbl i b hi)] at h
          exact e10.at h
    · obtain ⟨v4, v5, v6, v7, v8, v9, v10, rfl, q1, q2, q3, q4, q5⟩ := pv
      dsimp only
      refine s_retN (EvN.cast (ev_lc1 (xs := List.range Es.length) (A := fun j => lstR (((pts p n).map (facY p Es F j)).map IsI)) (B := fun j => polyR p n (facY p Es F j)) (srcD_list (ev_var rfl (R := lstR ((List.range Es.length).map fun j => lstR (((pts p n).map (facY p Es F j)).map IsI))) ⟨D, _, rfl, q4, all_of (by simp [hlen]) fun j v R h1 h2 => ?_⟩)) (by rw [List.length_range, sizeLine_eq]; omega) fun j v H6 hj e6 rv => ⟨rfl, rfl, Ev.imp (ev_call (ea_cons (ev_var rfl (Mono.up (q2.trans e6) rs)) (ea_cons (ev_var rfl rv) ea_nil)) fun vs H1 Q E h => ⟨p, n, facY p Es F j, S, fun x hx => shr_range (by omega) _ _, h⟩) fun v H7 e7 r7 => r7.r⟩) ?_) fun pr vs H6 hpr e6 h6 r6 => k pr vs H6 (q1.fresh hpr) (q1.trans e6) h6 r6
      · rw [List.getElem?_map] at h1 h2
        obtain ⟨b, hb, rfl⟩ := Option.map_eq_some_iff.mp h1
        rw [List.getElem?_range (hbl j b hb)] at h2
        cases h2
        have h := q5 j b hb
        rw [List.take_length] at h
        exact ⟨b, _, rfl, h, all_ints _⟩
      · unfold facL
        rw [List.map_map]
        rfl
  case len => obtain ⟨p, n, Es, F, _, _, _, r, _⟩ := h; exact r.length
end SP
end
section
set_option Elab.async false
set_option linter.all false
set_option maxRecDepth 100000
set_option maxHeartbeats 4000000
namespace SP
open PySem PyProof.Rows L2
variable {P : Program} {w : World} {K : PySem.W.Frag} {mg : Str → Option Value} {base : Heap}
abbrev n_shown : List Str := ["system", "one", "polynomials", "total", "equation", "factor"]
theorem sc_shown : FnScope n_shown ["system", "one", "polynomials"] (defScope s_shown) := ⟨rfl, rfl, rfl, by decide +kernel, rfl, by decide +kernel, by decide +kernel⟩
theorem bd_shown : BindB "shown" "shown" s_shown ["system", "one", "polynomials"] := fun _ _ _ _ _ _ us hl => match us, hl with | [_, _, _], _ => rfl

theorem poly_nil {p n : Nat} {p0 : Addr} {o0 : Obj} {H : Hp} (h0 : o0.dict = none) : polyY p n (fun _ => 0) (.ref p0) (upd H p0 (.frz o0 (.tup []))) :=
  ⟨[], ⟨.nil, (fun t ht => nomatch ht), (fun t ht => nomatch ht)⟩, fun x _ => Cg.refl 0, p0, o0, [], rfl, upd_same, h0, .nil⟩
def sp_shown (K : PySem.W.Frag) : Sp := fun vs H Q E => ∃ (p n : Nat) (Es : List (Pt → Int)) (F : Pt → Int) (Fs : List (Pt → Int)), Shape p n ∧ Es.length ≤ 1000 ∧ Fs.length = Es.length ∧ (∀ x ∈ pts p n, Cg p (dotS Es Fs x) (F x)) ∧ SpR [syR K p n Es, polyR p n F, lstR (Fs.map (polyR p n))] (IsB true) vs H Q E
abbrev G_shown (P : Program) (w : World) (K : PySem.W.Frag) (mg : Str → Option Value) (base : Heap) : Prop := GFn P w K mg base "shown" 3 ["system", "one", "polynomials"] (sp_shown K)

theorem ok_shown (T : TopF K mg) (g_plus : G_plus P w K mg base) (g_times : G_times P w K mg base) : G_shown P w K mg base := by
  refine T.d_shown.fn sc_shown bd_shown (fun vs H Q E h => ?len) fun f cdv A outer s H vs Q E hr h => ?walk
  case walk =>
    have hu := room1 hr
    have hu3 := room3 hr
    have hu64 := hr.units
    have hu65 := room65 hr
    refine ⟨_, (pss_cons (ps_set (i := 3) sc_shown.nd rfl (Or.inl rfl) pe_tup0Z)
      (pss_cons (ps_for PassesOwn.never rfl (k_zipA (K := K) rfl (by rfl) T.b_zip (pa_cons (k_fld (K := K) rfl (pv 0) rfl) (pa_cons (pv 2) pa_nil))) (pg_tup rfl (pgs_cons (pg_name (i := 4) sc_shown.nd rfl (Or.inl rfl)) (pgs_cons (pg_name (i := 5) sc_shown.nd rfl (Or.inl rfl)) pgs_nil)))
      (pss_one (ps_set (i := 3) sc_shown.nd rfl (Or.inl rfl) (pe_fn g_plus hr (by decide) (by rfl) (pa_cons (k_fld (K := K) rfl (pv 0) rfl) (pa_cons (pv 3) (pa_cons (pe_fn g_times hr (by decide) (by rfl) (pa_cons (k_fld (K := K) rfl (pv 0) rfl) (pa_cons (pv 5) (pa_cons (pv 4) pa_nil)))) pa_nil)))))))
      (pss_one (ps_ret (pe_and (pe_cmpR op_eq (pe_callB (k_len (K := K) rfl) (by rfl) T.b_len (by decide +kernel) (pa_cons (pv 2) pa_nil)) (pe_callB (k_len (K := K) rfl) (by rfl) T.b_len (by decide +kernel) (pa_cons (k_fld (K := K) rfl (pv 0) rfl) pa_nil)) (nomark _)) (pe_one (pe_cmpR (k_eqD (K := K) rfl hu64) (pv 3) (pv 1) (nomark _)))))))), ?_⟩
    obtain ⟨p, n, Es, F, Fs, S, hE, hFs, hdot, r, k⟩ := h
    obtain ⟨a1, a2, a3, rfl, r1, r2, r3⟩ := All.l3 r
    refine sq (?_ : tAsg _ _ _ _ _)
    refine fun p0 o0 hp0 ho0 => ?_
    have e1 : Ext H (upd H p0 (.frz o0 (.tup []))) := Ext.new _ hp0
    have rz : polyY p n (fun _ => 0) (.ref p0) (upd H p0 (.frz o0 (.tup []))) := poly_nil ho0
    generalize upd H p0 (.frz o0 (.tup [])) = H1 at e1 rz
    show tSeq _ _ _ _ _
    refine sq (s_forD (srcD_zipL (xs := Es) (ys := Fs) (A := polyR p n) (B := polyR p n) (ea_cons (ev_syEqs T (ev_var rfl (Mono.up e1 r1))) (ea_cons (ev_var rfl (Mono.up e1 r3)) ea_nil))) (fun i σ' H' => ∃ u v4 v5, σ' = [some a1, some a2, some a3, some u, v4, v5] ∧ polyY p n (fun x => lsum ((Es.zip Fs).take i) fun t => t.2 x * t.1 x) u H') (fun H2 e2 => ?_) (fun H2 i t v' σ' H0 H' ht e2 e0 pv e' hv => ?_) fun σ' H' e' pv => ?_)
    · exact ⟨.ref p0, none, none, rfl, (TMono.up e2.t rz : polyY p n (fun _ => 0) _ H2).to fun x _ => Cg.of (by rw [List.take_zero, lsum_nil])⟩
    · obtain ⟨u, v4, v5, rfl, hu1⟩ := pv
      refine g_pair hv fun u1 u2 q1 q2 => ?_
      have up := e1.trans (e2.trans (e0.trans e'))
      have r1' : syR K p n Es a1 H' := Mono.up up r1
      refine s_set (R := polyY p n fun x => (lsum ((Es.zip Fs).take i) fun t => t.2 x * t.1 x) + t.2 x * t.1 x) (ev_call (ea_cons (ev_sySpace T (ev_var rfl r1')) (ea_cons (ev_var rfl (TMono.up e'.t hu1)) (ea_cons (Ev.imp (ev_call (R := polyY p n fun x => t.2 x * t.1 x) (ea_cons (ev_sySpace T (ev_var rfl r1')) (ea_cons (ev_var rfl q2) (ea_cons (ev_var rfl q1) ea_nil))) fun vs H1 Q E h => ⟨p, n, t.2, t.1, S, h⟩) fun v H1 e r => polyY.r r) ea_nil))) fun vs H1 Q E h => ⟨p, n, _, _, S, h⟩) fun w H3 e3 rw => ?_
      refine ⟨e0.trans (e'.trans e3), w, some u1, some u2, rfl, rw.to fun x _ => Cg.of ?_⟩
      rw [lsum_take ht]
    · obtain ⟨u, v4, v5, rfl, hu1⟩ := pv
      rw [List.take_length] at hu1
      dsimp only
      have up := e1.trans e'
      obtain ⟨f, cf, vf, rf⟩ := hu1
      obtain ⟨g, cg, vg, rg⟩ := r2
      have efg : f = g := canon_eq S.pr cf cg fun x hx => ((vf x hx).trans (hdot x hx)).trans (vg x hx).symm
      refine s_ret (Ev.to (ev_andV (a := true) (b := true) (Ev.to (ev_eqS (x := .int Es.length) (y := .int Es.length) (ev_len (ea_cons (ev_var rfl (Mono.up up r3)) ea_nil) fun v H1 r => by
          have h := len_lst (K := K) r
          rw [List.length_map, hFs] at h
          exact h) (ev_len (ea_cons (ev_syEqs T (ev_var rfl (Mono.up up r1))) ea_nil) fun v H1 r => by
          have h := len_lst (K := K) r
          rw [List.length_map] at h
          exact h) rfl) (by simp)) fun _ => Ev.to (ev_eqPoly (f := f) (g := g) (Ev.imp (ev_var rfl rf) fun v H1 e r => r.f) (ev_var rfl (TMono.up up.t rg))) (by rw [decide_eq_true efg])) rfl) fun v H3 e3 rv => k v H3 (up.trans e3) rv
  case len => obtain ⟨p, n, Es, F, Fs, _, _, _, _, r, _⟩ := h; exact r.length
abbrev n_all_shown : List Str := ["system", "polynomials", "lists", "one", "parts", "part"]
theorem sc_all_shown : FnScope n_all_shown ["system", "polynomials", "lists"] (defScope s_all_shown) := ⟨rfl, rfl, rfl, by decide +kernel, rfl, by decide +kernel, by decide +kernel⟩
theorem bd_all_shown : BindB "all_shown" "all_shown" s_all_shown ["system", "polynomials", "lists"] := fun _ _ _ _ _ _ us hl => match us, hl with | [_, _, _], _ => rfl

def sp_all_shown (K : PySem.W.Frag) : Sp := fun vs H Q E => ∃ (p n : Nat) (Es Fs : List (Pt → Int)) (Gs : List (List (Pt → Int))), Shape p n ∧ Es.length ≤ 1000 ∧ Gs.length = Fs.length ∧ (∀ G ∈ Gs, G.length = Es.length) ∧ (∀ t ∈ Fs.zip Gs, ∀ x ∈ pts p n, Cg p (dotS Es t.2 x) (t.1 x)) ∧ SpR [syR K p n Es, lstR (Fs.map (polyR p n)), lstR (Gs.map fun G => lstR (G.map (polyR p n)))] (IsB true) vs H Q E
abbrev G_all_shown (P : Program) (w : World) (K : PySem.W.Frag) (mg : Str → Option Value) (base : Heap) : Prop := GFn P w K mg base "all_shown" 4 ["system", "polynomials", "lists"] (sp_all_shown K)

theorem ok_all_shown (T : TopF K mg) (g_is_polynomial : G_is_polynomial P w K mg base) (g_shown : G_shown P w K mg base) : G_all_shown P w K mg base := by
  refine T.d_all_shown.fn sc_all_shown bd_all_shown (fun vs H Q E h => ?len) fun f cdv A outer s H vs Q E hr h => ?walk
  case walk =>
    have hu := room1 hr
    have hu3 := room3 hr
    have hu64 := hr.units
    have hu65 := room65 hr
    refine ⟨_, (pss_cons (ps_if (pt_cmpR op_ne (pe_callB (k_len (K := K) rfl) (by rfl) T.b_len (by decide +kernel) (pa_cons (pv 2) pa_nil)) (pe_callB (k_len (K := K) rfl) (by rfl) T.b_len (by decide +kernel) (pa_cons (pv 1) pa_nil)) (nomark _)) (pss_one (ps_ret pe_bl)) pss_nil)
      (pss_cons (ps_for PassesOwn.never rfl (k_zipA (K := K) rfl (by rfl) T.b_zip (pa_cons (pv 1) (pa_cons (pv 2) pa_nil))) (pg_tup rfl (pgs_cons (pg_name (i := 3) sc_all_shown.nd rfl (Or.inl rfl)) (pgs_cons (pg_name (i := 4) sc_all_shown.nd rfl (Or.inl rfl)) pgs_nil)))
      (pss_one (ps_if (PW.pt (pw_or (pt_not (pt_val (pe_callB (k_all (K := K) rfl rfl) (by rfl) T.b_all (by decide +kernel) (pa_cons (pe_lc (own := [("part", 5)]) (g := (gName 5)) (by rfl) sc_all_shown.nd (k_piL (K := K) rfl (pv 4)) (blkOk_by (own := [("part", 5)]) (N := n_all_shown) (sc := defScope s_all_shown) (by decide +kernel)) (fun _ _ _ _ _ => (pg_name (i := 5) sc_all_shown.nd rfl (Or.inl rfl))) (fun _ _ _ _ _ => pts_nil) (fun _ _ _ _ _ => (pe_fn g_is_polynomial hr (by decide) (by rfl) (pa_cons (k_fld (K := K) rfl (pv 0) rfl) (pa_cons (pv 5) pa_nil))))) pa_nil)))) (pw_or1 (pt_not (pt_val (pe_fn g_shown hr (by decide) (by rfl) (pa_cons (pv 0) (pa_cons (pv 3) (pa_cons (pv 4) pa_nil))))))))) (pss_one (ps_ret pe_bl)) pss_nil)))
      (pss_one (ps_ret pe_bl)))), ?_⟩
    obtain ⟨p, n, Es, Fs, Gs, S, hE, hG, hGl, hdot, r, k⟩ := h
    obtain ⟨a1, a2, a3, rfl, r1, r2, r3⟩ := All.l3 r
    refine sq (s_if (b := false) (EvT.to (et_test (ev_neS (x := .int Fs.length) (y := .int Fs.length) (ev_len (ea_cons (ev_var rfl r3) ea_nil) fun v H1 r => by
          have h := len_lst (K := K) r
          rw [List.length_map, hG] at h
          exact h) (ev_len (ea_cons (ev_var rfl r2) ea_nil) fun v H1 r => by
          have h := len_lst (K := K) r
          rw [List.length_map] at h
          exact h) rfl)) (by simp)) (fun hb => by cases hb) fun hb H1 e1 => s_next ?_)
    dsimp only
    refine sq (s_forD (srcD_zipL (xs := Fs) (ys := Gs) (A := polyR p n) (B := fun G => lstR (G.map (polyR p n))) (ea_cons (ev_var rfl (Mono.up e1 r2)) (ea_cons (ev_var rfl (Mono.up e1 r3)) ea_nil))) (fun i σ' H' => ∃ v3 v4 v5, σ' = [some a1, some a2, some a3, v3, v4, v5]) (fun H2 e2 => ⟨none, none, none, rfl⟩) (fun H2 i t v' σ' H0 H' ht e2 e0 pv e' hv => ?_) fun σ' H' e' pv => ?_)
    · obtain ⟨v3, v4, v5, rfl⟩ := pv
      have hz := List.getElem?_zip_eq_some.mp ht
      have htl := hGl t.2 (List.mem_of_getElem? hz.2)
      refine g_pair hv fun u1 u2 q1 q2 => ?_
      have up := e1.trans (e2.trans (e0.trans e'))
      have r1' : syR K p n Es a1 H' := Mono.up up r1
      dsimp only
      refine s_if (b := false) (EvT.to (et_or (a := false) (b := false) (EvT.to (et_not (et_test (ev_all (bs := t.2.map fun _ => true) (ea_cons (EvN.ev (ev_lc2v (C := IsB) (val := fun _ : Pt → Int => true) (xs := t.2) (A := polyR p n) (srcD_list (ev_var rfl q2)) (by rw [htl, sizeLine_eq]; omega) fun G v H3 hG3 e3 rv => ⟨rfl, rfl, ?_⟩)) ea_nil)))) (by rw [List.all_map]; simp)) fun _ => EvT.to (et_not (et_test (ev_call (R := IsB true) (ea_cons (ev_var rfl r1') (ea_cons (ev_var rfl q1) (ea_cons (ev_var rfl q2) ea_nil))) fun vs H1 Q E h => ⟨p, n, Es, t.1, t.2, S, hE, htl, hdot t (List.mem_of_getElem? ht), h⟩))) rfl) rfl) (fun hb => by cases hb) fun hb H3 e3 => s_next ?_
      · obtain ⟨f, cf, vf, rf⟩ := rv
        exact ev_call (ea_cons (ev_sySpace T (ev_var rfl (Mono.up e3 r1'))) (ea_cons (ev_var rfl rf) ea_nil)) fun vs H1 Q E h => ⟨p, n, f, S, cf, h⟩
      · exact ⟨e0.trans (e'.trans e3), _, _, _, rfl⟩
    · obtain ⟨v3, v4, v5, rfl⟩ := pv
      dsimp only
      exact s_ret ev_c fun v H3 e3 rv => k v H3 (e1.trans (e'.trans e3)) rv
  case len => obtain ⟨p, n, Es, Fs, Gs, _, _, _, _, _, r, _⟩ := h; exact r.length
abbrev n_one_of : List Str := ["space"]
theorem sc_one_of : FnScope n_one_of ["space"] (defScope s_one_of) := ⟨rfl, rfl, rfl, by decide +kernel, rfl, by decide +kernel, by decide +kernel⟩
theorem bd_one_of : BindB "one_of" "one_of" s_one_of ["space"] := fun _ _ _ _ _ _ us hl => match us, hl with | [_], _ => rfl

def sp_one_of (K : PySem.W.Frag) : Sp := fun vs H Q E => ∃ (p n : Nat), Shape p n ∧ SpR [spR K p n] (polyY p n fun _ => 1) vs H Q E
abbrev G_one_of (P : Program) (w : World) (K : PySem.W.Frag) (mg : Str → Option Value) (base : Heap) : Prop := GFn P w K mg base "one_of" 3 ["space"] (sp_one_of K)

theorem ok_one_of (T : TopF K mg) (g_constant : G_constant P w K mg base) : G_one_of P w K mg base := by
  refine T.d_one_of.fn sc_one_of bd_one_of (fun vs H Q E h => ?len) fun f cdv A outer s H vs Q E hr h => ?walk
  case walk =>
    have hu := room1 hr
    have hu3 := room3 hr
    have hu64 := hr.units
    have hu65 := room65 hr
    refine ⟨_, (pss_one (ps_ret (pe_fn g_constant hr (by decide) (by rfl) (pa_cons (pv 0) (pa_cons pe_int pa_nil))))), ?_⟩
    obtain ⟨p, n, S, r, k⟩ := h
    obtain ⟨a1, rfl, r1⟩ := All.l1 r
    exact s_ret (ev_call (ea_cons (ev_var rfl r1) (ea_cons ev_c ea_nil)) fun vs H1 Q E h => ⟨p, n, 1, S, h⟩) k
  case len => obtain ⟨p, n, _, r, _⟩ := h; exact r.length
abbrev n_stepped : List Str := ["machine", "polynomials", "one"]
theorem sc_stepped : FnScope n_stepped ["machine", "polynomials"] (defScope s_stepped) := ⟨rfl, rfl, rfl, by decide +kernel, rfl, by decide +kernel, by decide +kernel⟩
theorem bd_stepped : BindB "stepped" "stepped" s_stepped ["machine", "polynomials"] := fun _ _ _ _ _ _ us hl => match us, hl with | [_, _], _ => rfl

def stepF (p : Nat) (Gs : List (Pt → Int)) (F : Pt → Int) : Pt → Int := fun x => F (stepP p Gs x)
def sp_stepped (K : PySem.W.Frag) : Sp := fun vs H Q E => ∃ (p n : Nat) (Es Gs Fs : List (Pt → Int)), Shape p n ∧ Gs.length = n ∧ Fs.length ≤ 1000 ∧ SpN [maR K p n Es Gs, lstR (Fs.map (polyR p n))] ((Fs.map (stepF p Gs)).map (polyR p n)) vs H Q E
abbrev G_stepped (P : Program) (w : World) (K : PySem.W.Frag) (mg : Str → Option Value) (base : Heap) : Prop := GFn P w K mg base "stepped" 5 ["machine", "polynomials"] (sp_stepped K)

theorem ok_stepped (T : TopF K mg) (g_replaced : G_replaced P w K mg base) : G_stepped P w K mg base := by
  refine T.d_stepped.fn sc_stepped bd_stepped (fun vs H Q E h => ?len) fun f cdv A outer s H vs Q E hr h => ?walk
  case walk =>
    have hu := room1 hr
    have hu3 := room3 hr
    have hu64 := hr.units
    have hu65 := room65 hr
    refine ⟨_, (pss_one (ps_ret (pe_lc (own := [("one", 2)]) (g := (gName 2)) (by rfl) sc_stepped.nd (k_piL (K := K) rfl (pv 1)) (blkOk_by (own := [("one", 2)]) (N := n_stepped) (sc := defScope s_stepped) (by decide +kernel)) (fun _ _ _ _ _ => (pg_name (i := 2) sc_stepped.nd rfl (Or.inl rfl))) (fun _ _ _ _ _ => pts_nil) (fun _ _ _ _ _ => (pe_fn g_replaced hr (by decide) (by rfl) (pa_cons (k_fld (K := K) rfl (pv 0) rfl) (pa_cons (pv 2) (pa_cons (k_fld (K := K) rfl (pv 0) rfl) (pa_cons (k_fld (K := K) rfl (pv 0) rfl) pa_nil))))))))), ?_⟩
    obtain ⟨p, n, Es, Gs, Fs, S, hG, hF, r, k⟩ := h
    obtain ⟨a1, a2, rfl, r1, r2⟩ := All.l2 r
    refine s_retN (ev_lc2v (C := polyR p n) (val := stepF p Gs) (xs := Fs) (A := polyR p n) (srcD_list (ev_var rfl r2)) (by rw [sizeLine_eq]; omega) fun F v H1 hF1 e1 rv => ⟨rfl, rfl, ?_⟩) k
    have r1' : maR K p n Es Gs a1 H1 := Mono.up e1 r1
    exact Ev.imp (ev_call (R := polyY p n (stepF p Gs F)) (ea_cons (ev_maSpace T (ev_var rfl r1')) (ea_cons (ev_var rfl rv) (ea_cons (ev_maSpace T (ev_var rfl r1')) (ea_cons (ev_maStep T (ev_var rfl r1')) ea_nil)))) fun vs H1 Q E h => ⟨p, n, F, Gs, S, hG, h⟩) fun v H1 e r => polyY.r r
  case len => obtain ⟨p, n, Es, Gs, Fs, _, _, _, r, _⟩ := h; exact r.length
end SP
end
section
set_option Elab.async false
set_option linter.all false
set_option maxRecDepth 100000
namespace SP
open PySem L2
structure Row where
  beg : Nat
  row : List Int
  parts : Poly
def subV (p : Nat) (f : Int) (v row : List Int) : List Int := (v.zip row).map fun t => (t.1 - f * t.2) % p
def subK (p : Nat) (f : Int) (kvs parts : Poly) : Poly := parts.foldl (fun a t => putI a t.1 ((getI a t.1 - f * t.2) % p)) kvs
def lessStep (p : Nat) (s : List Int × Poly) (r : Row) : List Int × Poly :=
  if s.1[r.beg]?.getD 0 ≠ 0 then (subV p (s.1[r.beg]?.getD 0) s.1 r.row, subK p (s.1[r.beg]?.getD 0) s.2 r.parts) else s
def lessR (p : Nat) (rs : List Row) (s : List Int × Poly) : List Int × Poly := rs.foldl (lessStep p) s
structure NumOk (p n : Nat) (N : Poly) : Prop where
  nd : (keysI N).Nodup
  inn : ∀ k ∈ keysI N, inSp p n k
  num : ∀ t ∈ N, 0 ≤ t.2 ∧ t.2 < p
structure ValOk (p : Nat) (P : List Pt) (v : List Int) (F : Pt → Int) : Prop where
  len : v.length = P.length
  num : ∀ a ∈ v, 0 ≤ a ∧ a < p
  val : ∀ (j : Nat) (x : Pt), P[j]? = some x → Cg p (v[j]?.getD 0) (F x)
structure RowOk (p n : Nat) (P : List Pt) (r : Row) : Prop where
  beg : r.beg < P.length
  one : r.row[r.beg]?.getD 0 = 1
  nums : NumOk p n r.parts
  vals : ValOk p P r.row (vsum r.parts)
section
variable {p n : Nat} {P : List Pt} {v row : List Int} {N parts : Poly} {f : Int} {F G : Pt → Int}
theorem NumOk.get (h : NumOk p n N) (k : Pt) (hp : 0 < p) : 0 ≤ getI N k ∧ getI N k < p := by
  by_cases hk : k ∈ keysI N
  · obtain ⟨t, ht, rfl⟩ := List.mem_map.mp hk
    rw [getI_mem h.nd ht]
    exact h.num t ht
  · rw [getI_none hk]
    omega
theorem putI_num {k : Pt} {c : Int} (h : ∀ t ∈ N, 0 ≤ t.2 ∧ t.2 < p) (hc : 0 ≤ c ∧ c < p) : ∀ t ∈ putI N k c, 0 ≤ t.2 ∧ t.2 < p := by
  intro t ht
  unfold putI at ht
  split at ht
  · obtain ⟨s, hs, rfl⟩ := List.mem_map.mp ht
    by_cases e : s.1 = k
    · rw [if_pos e]; exact hc
    · rw [if_neg e]; exact h s hs
  · rcases List.mem_append.mp ht with h1 | h1
    · exact h t h1
    · rw [List.mem_singleton.mp h1]; exact hc
theorem getI_put (k j : Pt) (c : Int) : getI (putI N k c) j = if j = k then c else getI N j := by
  unfold getI putI
  split
  · rename_i hany
    induction N with
    | nil => simp at hany
    | cons t r ih =>
      rw [List.map_cons, List.find?_cons, List.find?_cons]
      by_cases e : t.1 = k
      · rw [if_pos e]
        by_cases e2 : j = k
        · rw [if_pos e2, e, e2]; simp
        · rw [if_neg e2]
          have n1 : decide (t.1 = j) = false := decide_eq_false fun h => e2 (h ▸ e)
          rw [n1]
          show Option.getD (Option.map _ (List.find? _ (List.map _ r))) 0 = Option.getD (Option.map _ (List.find? _ r)) 0
          clear ih hany
          induction r with
          | nil => rfl
          | cons s r ih =>
            rw [List.map_cons, List.find?_cons, List.find?_cons]
            by_cases e3 : s.1 = k
            · rw [if_pos e3]
              have n2 : decide (s.1 = j) = false := decide_eq_false fun h => e2 (h ▸ e3)
              rw [n2]
              exact ih
            · rw [if_neg e3]
              cases decide (s.1 = j)
              · exact ih
              · rfl
      · rw [if_neg e]
        by_cases e2 : t.1 = j
        · have n1 : decide (t.1 = j) = true := decide_eq_true e2
          rw [n1, if_neg (fun h => e (e2.trans h))]
        · have n1 : decide (t.1 = j) = false := decide_eq_false e2
          rw [n1]
          refine ih ?_
          rw [List.any_cons, decide_eq_false e, Bool.false_or] at hany
          exact hany
  · rename_i hany
    rw [List.find?_append]
    by_cases e2 : j = k
    · rw [if_pos e2, e2]
      have : List.find? (fun t : Pt × Int => decide (t.1 = k)) N = none := by
        rw [List.find?_eq_none]
        intro t ht hd
        exact hany (List.any_eq_true.mpr ⟨t, ht, hd⟩)
      rw [this]
      simp
    · rw [if_neg e2]
      cases List.find? (fun t : Pt × Int => decide (t.1 = j)) N with
      | some t => rfl
      | none =>
        have : decide (k = j) = false := decide_eq_false fun h => e2 h.symm
        simp [this]
theorem subK_ok (hp : 0 < p) (f : Int) : ∀ (parts : Poly) {N : Poly}, NumOk p n N → (∀ k ∈ keysI parts, inSp p n k) → NumOk p n (subK p f N parts) ∧ (∀ x, Cg p (vsum (subK p f N parts) x) (vsum N x - f * vsum parts x)) ∧
    (∀ k, k ∈ keysI (subK p f N parts) ↔ k ∈ keysI N ∨ k ∈ keysI parts) ∧ ∀ k, k ∉ keysI parts → getI (subK p f N parts) k = getI N k
  | [], N, h, _ => ⟨h, fun x => Cg.of (by rw [vsum_nil, Int.mul_zero, Int.sub_zero]; rfl), fun k => ⟨.inl, fun h => h.elim id fun h => nomatch h⟩, fun k _ => rfl⟩
  | t :: r, N, h, hk => by
    have hc : 0 ≤ (getI N t.1 - f * t.2) % (p : Int) ∧ (getI N t.1 - f * t.2) % (p : Int) < p := ⟨Int.emod_nonneg _ (by omega), Int.emod_lt_of_pos _ (by omega)⟩
    have h1 : NumOk p n (putI N t.1 ((getI N t.1 - f * t.2) % p)) := ⟨putI_nodup h.nd, putI_all h.inn (hk t.1 (List.mem_cons_self ..)), putI_num h.num hc⟩
    obtain ⟨q1, q2, q3, q4⟩ := subK_ok hp f r h1 fun k hkr => hk k (List.mem_cons_of_mem _ hkr)
    refine ⟨q1, fun x => ?_, fun k => ?_, fun k hkn => ?_⟩
    · refine (q2 x).trans ?_
      rw [vsum_put h.nd, vsum_cons]
      have h2 : Cg p (((getI N t.1 - f * t.2) % p - getI N t.1) * mon t.1 x) (-(f * t.2) * mon t.1 x) := (((Cg.mod _).sub (Cg.refl _)).trans (Cg.of (by omega))).mul (Cg.refl _)
      exact (((Cg.refl _).add h2).sub (Cg.refl _)).trans (Cg.of (by grind))
    · refine (q3 k).trans ?_
      rw [putI_mem, show keysI (t :: r) = t.1 :: keysI r from rfl, List.mem_cons]
      exact or_assoc
    · rw [show keysI (t :: r) = t.1 :: keysI r from rfl, List.mem_cons, not_or] at hkn
      refine (q4 k hkn.2).trans ?_
      rw [getI_put, if_neg hkn.1]
theorem subV_ok (hp : 0 < p) (h1 : ValOk p P v F) (h2 : ValOk p P row G) (f : Int) : ValOk p P (subV p f v row) (fun x => F x - f * G x) := by
  refine ⟨by unfold subV; rw [List.length_map, List.length_zip, h1.len, h2.len, Nat.min_self], fun a ha => ?_, fun j x hx => ?_⟩
  · obtain ⟨t, _, rfl⟩ := List.mem_map.mp ha
    exact ⟨Int.emod_nonneg _ (by omega), Int.emod_lt_of_pos _ (by omega)⟩
  · have hj := (List.getElem?_eq_some_iff.mp hx).1
    have e1 := List.getElem?_eq_getElem (show j < v.length by rw [h1.len]; exact hj)
    have e2 := List.getElem?_eq_getElem (show j < row.length by rw [h2.len]; exact hj)
    have q1 := h1.val j x hx
    have q2 := h2.val j x hx
    rw [e1] at q1
    rw [e2] at q2
    unfold subV
    rw [List.getElem?_map, zip_at e1 e2]
    exact (Cg.mod _).trans (q1.sub ((Cg.refl f).mul q2))
theorem subV_at {j : Nat} (h : v.length = row.length) (hj : j < v.length) : (subV p f v row)[j]?.getD 0 = (v[j]?.getD 0 - f * (row[j]?.getD 0)) % p := by
  have e1 := List.getElem?_eq_getElem hj
  have e2 := List.getElem?_eq_getElem (show j < row.length by omega)
  unfold subV
  rw [List.getElem?_map, zip_at e1 e2, e1, e2]
  rfl
end
inductive Lin (p n : Nat) (S : (Pt → Int) → Prop) : (Pt → Int) → Prop
  | base {F} : S F → Lin p n S F
  | zero : Lin p n S fun _ => 0
  | add {F G} : Lin p n S F → Lin p n S G → Lin p n S fun x => F x + G x
  | smul {F} (c : Int) : Lin p n S F → Lin p n S fun x => c * F x
  | cg {F G} : Lin p n S F → (∀ x ∈ pts p n, Cg p (F x) (G x)) → Lin p n S G
theorem Lin.mono {p n : Nat} {S S' : (Pt → Int) → Prop} (h : ∀ F, S F → S' F) {F : Pt → Int} (l : Lin p n S F) : Lin p n S' F := by
  induction l with
  | base q => exact .base (h _ q)
  | zero => exact .zero
  | add _ _ a b => exact .add a b
  | smul c _ a => exact .smul c a
  | cg _ e a => exact .cg a e
abbrev Tri (rs : List Row) : Prop := rs.Pairwise fun r s => s.row[r.beg]?.getD 0 = 0
section
variable {p n : Nat} {P : List Pt}
structure Less (p n : Nat) (P : List Pt) (S : (Pt → Int) → Prop) (s s' : List Int × Poly) : Prop where
  nums : NumOk p n s'.2
  vals : ValOk p P s'.1 (vsum s'.2)
  lin : ∃ D : Pt → Int, Lin p n S D ∧ ∀ x, Cg p (vsum s.2 x) (vsum s'.2 x + D x)
theorem lessStep_zero (hp : 0 < p) {s : List Int × Poly} {r : Row} {a : Nat} (hs : ValOk p P s.1 (vsum s.2)) (hr : RowOk p n P r) (ha : a < P.length) (h0 : r.row[a]?.getD 0 = 0) (hz : s.1[a]?.getD 0 = 0) : (lessStep p s r).1[a]?.getD 0 = 0 := by
  unfold lessStep
  split
  · show (subV p _ s.1 r.row)[a]?.getD 0 = 0
    rw [subV_at (by rw [hs.len, hr.vals.len]) (by rw [hs.len]; exact ha), h0, hz]
    simp
  · exact hz
theorem lessStep_beg (hp : 1 < p) {s : List Int × Poly} {r : Row} (hs : ValOk p P s.1 (vsum s.2)) (hr : RowOk p n P r) : (lessStep p s r).1[r.beg]?.getD 0 = 0 := by
  unfold lessStep
  split
  · show (subV p _ s.1 r.row)[r.beg]?.getD 0 = 0
    rw [subV_at (by rw [hs.len, hr.vals.len]) (by rw [hs.len]; exact hr.beg), hr.one, Int.mul_one, Int.sub_self]
    simp
  · rename_i h
    simpa using h
theorem lessStep_ok (hp : 0 < p) {S : (Pt → Int) → Prop} {s : List Int × Poly} {r : Row} (hn : NumOk p n s.2) (hs : ValOk p P s.1 (vsum s.2)) (hr : RowOk p n P r) (hS : S (vsum r.parts)) : Less p n P S s (lessStep p s r) ∧ (∀ k, k ∈ keysI (lessStep p s r).2 → k ∈ keysI s.2 ∨ k ∈ keysI r.parts) ∧ ∀ k, k ∉ keysI r.parts → getI (lessStep p s r).2 k = getI s.2 k := by
  unfold lessStep
  split
  · obtain ⟨q1, q2, q3, q4⟩ := subK_ok hp (s.1[r.beg]?.getD 0) r.parts hn hr.nums.inn
    refine ⟨⟨q1, ?_, fun x => (s.1[r.beg]?.getD 0) * vsum r.parts x, .smul _ (.base hS), fun x => ?_⟩, fun k hk => (q3 k).mp hk, q4⟩
    · have h := subV_ok hp hs hr.vals (s.1[r.beg]?.getD 0)
      exact ⟨h.len, h.num, fun j x hx => (h.val j x hx).trans (q2 x).symm⟩
    · have q := (q2 x).symm.add (Cg.refl ((s.1[r.beg]?.getD 0) * vsum r.parts x))
      exact (Cg.of (by omega)).trans q
  · exact ⟨⟨hn, hs, fun _ => 0, .zero, fun x => Cg.of (by rw [Int.add_zero])⟩, fun k hk => .inl hk, fun k _ => rfl⟩
theorem less_zero (hp : 0 < p) : ∀ {rs : List Row} {s : List Int × Poly} {a : Nat}, NumOk p n s.2 → ValOk p P s.1 (vsum s.2) → (∀ r ∈ rs, RowOk p n P r) → a < P.length → (∀ r ∈ rs, r.row[a]?.getD 0 = 0) → s.1[a]?.getD 0 = 0 → (lessR p rs s).1[a]?.getD 0 = 0
  | [], s, a, _, _, _, _, _, hz => hz
  | r :: rs, s, a, hn, hs, hr, ha, h0, hz => by
    have hr1 := hr r (List.mem_cons_self ..)
    have q := (lessStep_ok hp (S := fun _ => True) hn hs hr1 trivial).1
    exact less_zero hp (rs := rs) (s := lessStep p s r) q.nums q.vals (fun r' h' => hr r' (List.mem_cons_of_mem _ h')) ha (fun r' h' => h0 r' (List.mem_cons_of_mem _ h')) (lessStep_zero hp hs hr1 ha (h0 r (List.mem_cons_self ..)) hz)
theorem less_beg (hp : 1 < p) : ∀ {rs : List Row} {s : List Int × Poly}, NumOk p n s.2 → ValOk p P s.1 (vsum s.2) → (∀ r ∈ rs, RowOk p n P r) → Tri rs → ∀ r ∈ rs, (lessR p rs s).1[r.beg]?.getD 0 = 0
  | [], _, _, _, _, _, r, hr => nomatch hr
  | r :: rs, s, hn, hs, hr, ht, r', hr' => by
    have hr1 := hr r (List.mem_cons_self ..)
    have q := (lessStep_ok (by omega) (S := fun _ => True) hn hs hr1 trivial).1
    have ht' := List.pairwise_cons.mp ht
    rcases List.mem_cons.mp hr' with rfl | h
    · exact less_zero (by omega) (rs := rs) (s := lessStep p s r') q.nums q.vals (fun r' h' => hr r' (List.mem_cons_of_mem _ h')) hr1.beg (fun s' hs' => ht'.1 s' hs') (lessStep_beg hp hs hr1)
    · exact less_beg hp (rs := rs) (s := lessStep p s r) q.nums q.vals (fun r' h' => hr r' (List.mem_cons_of_mem _ h')) ht'.2 r' h
theorem lessR_ok (hp : 0 < p) : ∀ {rs : List Row} {s : List Int × Poly} {S : (Pt → Int) → Prop}, NumOk p n s.2 → ValOk p P s.1 (vsum s.2) → (∀ r ∈ rs, RowOk p n P r) → (∀ r ∈ rs, S (vsum r.parts)) →
    Less p n P S s (lessR p rs s) ∧ (∀ k, k ∈ keysI (lessR p rs s).2 → k ∈ keysI s.2 ∨ ∃ r ∈ rs, k ∈ keysI r.parts) ∧ ∀ k, (∀ r ∈ rs, k ∉ keysI r.parts) → getI (lessR p rs s).2 k = getI s.2 k
  | [], s, S, hn, hs, _, _ => ⟨⟨hn, hs, fun _ => 0, .zero, fun x => Cg.of (by rw [Int.add_zero]; rfl)⟩, fun k hk => .inl hk, fun k _ => rfl⟩
  | r :: rs, s, S, hn, hs, hr, hS => by
    obtain ⟨q, q1, q2⟩ := lessStep_ok hp (S := S) hn hs (hr r (List.mem_cons_self ..)) (hS r (List.mem_cons_self ..))
    obtain ⟨u, u1, u2⟩ := lessR_ok hp (rs := rs) (s := lessStep p s r) (S := S) q.nums q.vals (fun r' h' => hr r' (List.mem_cons_of_mem _ h')) (fun r' h' => hS r' (List.mem_cons_of_mem _ h'))
    obtain ⟨D1, l1, c1⟩ := q.lin
    obtain ⟨D2, l2, c2⟩ := u.lin
    refine ⟨⟨u.nums, u.vals, fun x => D2 x + D1 x, .add l2 l1, fun x => ?_⟩, fun k hk => ?_, fun k hk => ?_⟩
    · exact (c1 x).trans (((c2 x).add (Cg.refl _)).trans (Cg.of (Int.add_assoc ..)))
    · rcases u1 k hk with h | ⟨r', hr', h⟩
      · rcases q1 k h with h | h
        · exact .inl h
        · exact .inr ⟨r, List.mem_cons_self .., h⟩
      · exact .inr ⟨r', List.mem_cons_of_mem _ hr', h⟩
    · exact (u2 k fun r' h' => hk r' (List.mem_cons_of_mem _ h')).trans (q2 k (hk r (List.mem_cons_self ..)))
end
end SP
end
section
set_option Elab.async false
set_option linter.all false
set_option maxRecDepth 100000
namespace SP
open PySem L2
def begL (v : List Int) : List Nat := ((numb v).filter fun t => decide (t.2 ≠ 0)).map (·.1)
def begOf (v : List Int) : Nat := (begL v)[0]?.getD 0
theorem begOf_ok {v : List Int} (h : v.any (· != 0) = true) : (begL v)[0]? = some (begOf v) ∧ begOf v < v.length ∧ v[begOf v]?.getD 0 ≠ 0 := by
  obtain ⟨a, ha, hn⟩ := List.any_eq_true.mp h
  obtain ⟨i, hi⟩ := List.getElem?_of_mem ha
  have hm : (i, a) ∈ (numb v).filter fun t => decide (t.2 ≠ 0) := List.mem_filter.mpr ⟨List.mem_of_getElem? (numb_at hi), by simpa using hn⟩
  have hne : begL v ≠ [] := fun e => by
    have : i ∈ begL v := List.mem_map.mpr ⟨(i, a), hm, rfl⟩
    rw [e] at this
    cases this
  have h0 : (begL v)[0]? = some (begOf v) := by
    unfold begOf
    cases e : begL v with
    | nil => exact absurd e hne
    | cons b r => rfl
  refine ⟨h0, ?_⟩
  have hb : begOf v ∈ begL v := List.mem_of_getElem? h0
  obtain ⟨t, ht, e⟩ := List.mem_map.mp hb
  obtain ⟨h1, h2⟩ := List.mem_filter.mp ht
  obtain ⟨j, hj⟩ := List.getElem?_of_mem h1
  have hz := List.getElem?_zip_eq_some.mp hj
  have hjl : j < v.length := (List.getElem?_eq_some_iff.mp hz.2).1
  rw [List.getElem?_range hjl] at hz
  have e2 : j = t.1 := Option.some.inj hz.1
  rw [← e, ← e2]
  refine ⟨hjl, ?_⟩
  rw [hz.2]
  exact of_decide_eq_true h2
def invOf (p : Nat) (v : List Int) : Int := (v[begOf v]?.getD 0) ^ (p - 2) % p
def keepR (p : Nat) (s : List Int × Poly) : Row := ⟨begOf s.1, s.1.map fun a => a * invOf p s.1 % p, s.2.map fun t => (t.1, t.2 * invOf p s.1 % p)⟩
structure WS where
  rs : List Row
  fs : List (Pt × Poly)
def takeS (p : Nat) (P : List Pt) (rs : List Row) (m : Pt) : List Int × Poly := lessR p rs (P.map fun x => mon m x % (p : Int), [(m, 1)])
def wStep (p : Nat) (P : List Pt) (w : WS) (m : Pt) : WS :=
  if (w.fs.any fun t => divB t.1 m) = true then w
  else if ((takeS p P w.rs m).1.any (· != 0)) = true then ⟨w.rs ++ [keepR p (takeS p P w.rs m)], w.fs⟩
  else ⟨w.rs, w.fs ++ [(m, (takeS p P w.rs m).2)]⟩
def walkM (p : Nat) (P : List Pt) (L : List Pt) : WS := L.foldl (wStep p P) ⟨[], []⟩
section
variable {p n : Nat} {P : List Pt}
theorem vsum_scale {N : Poly} (c : Int) (x : Pt) : Cg p (vsum (N.map fun t => (t.1, t.2 * c % (p : Int))) x) (c * vsum N x) := by
  induction N with
  | nil => rw [List.map_nil, vsum_nil, Int.mul_zero]; exact Cg.refl 0
  | cons t r ih =>
    rw [List.map_cons, vsum_cons, vsum_cons, Int.mul_add]
    refine Cg.add ?_ ih
    exact ((Cg.mod (t.2 * c)).mul (Cg.refl _)).trans (Cg.of (by grind))
theorem map_getD {v : List Int} {g : Int → Int} {j : Nat} (hj : j < v.length) : (v.map g)[j]?.getD 0 = g (v[j]?.getD 0) := by
  rw [List.getElem?_map, List.getElem?_eq_getElem hj]
  rfl
theorem keep_ok (h : Pr p) {s : List Int × Poly} (hn : NumOk p n s.2) (hs : ValOk p P s.1 (vsum s.2)) (ha : s.1.any (· != 0) = true) :
    RowOk p n P (keepR p s) ∧ (∀ x, Cg p (vsum s.2 x) ((s.1[begOf s.1]?.getD 0) * vsum (keepR p s).parts x)) ∧ keysI (keepR p s).parts = keysI s.2 ∧ ∀ a, a < P.length → s.1[a]?.getD 0 = 0 → (keepR p s).row[a]?.getD 0 = 0 := by
  obtain ⟨h0, h1, h2⟩ := begOf_ok ha
  have hp := h.two
  have hmem : ∃ a, s.1[begOf s.1]? = some a := ⟨_, List.getElem?_eq_getElem h1⟩
  obtain ⟨a, hav⟩ := hmem
  have har := hs.num a (List.mem_of_getElem? hav)
  have hag : s.1[begOf s.1]?.getD 0 = a := by rw [hav]; rfl
  have hiv : invOf p s.1 = a ^ (p - 2) % p := by unfold invOf; rw [hag]
  rw [hag] at h2
  have hinv := inv_ok h (a := a) (by omega) har.2
  rw [← hiv] at hinv
  have hir : 0 ≤ invOf p s.1 ∧ invOf p s.1 < p := by rw [hiv]; exact ⟨Int.emod_nonneg _ (by omega), Int.emod_lt_of_pos _ (by omega)⟩
  have hkeys : keysI (keepR p s).parts = keysI s.2 := by
    show (s.2.map _).map _ = _
    rw [List.map_map]
    rfl
  refine ⟨⟨by rw [← hs.len]; exact h1, ?_, ⟨by rw [hkeys]; exact hn.nd, by rw [hkeys]; exact hn.inn, fun t ht => ?_⟩, ⟨by show (s.1.map _).length = _; rw [List.length_map, hs.len], fun b hb => ?_, fun j x hx => ?_⟩⟩, fun x => ?_, hkeys, fun b hb hz => ?_⟩
  · show (s.1.map _)[begOf s.1]?.getD 0 = 1
    rw [map_getD h1, hag]
    exact ((Cg.mod (p := p) _).trans hinv.1).eq (Int.emod_nonneg _ (by omega)) (Int.emod_lt_of_pos _ (by omega)) (by decide) (by omega)
  · obtain ⟨u, _, rfl⟩ := List.mem_map.mp ht
    exact ⟨Int.emod_nonneg _ (by omega), Int.emod_lt_of_pos _ (by omega)⟩
  · obtain ⟨u, _, rfl⟩ := List.mem_map.mp hb
    exact ⟨Int.emod_nonneg _ (by omega), Int.emod_lt_of_pos _ (by omega)⟩
  · have hj := (List.getElem?_eq_some_iff.mp hx).1
    show Cg p ((s.1.map _)[j]?.getD 0) _
    rw [map_getD (by rw [hs.len]; exact hj)]
    exact (Cg.mod _).trans (((hs.val j x hx).mul (Cg.refl _)).trans ((Cg.of (Int.mul_comm ..)).trans (vsum_scale _ x).symm))
  · rw [hag]
    have q := (Cg.refl (p := p) a).mul (vsum_scale (p := p) (N := s.2) (invOf p s.1) x)
    have q2 := hinv.1.mul (Cg.refl (p := p) (vsum s.2 x))
    exact ((Cg.of (by grind)).trans (q2.symm.trans (Cg.of (by grind)))).trans q.symm
  · show (s.1.map _)[b]?.getD 0 = 0
    rw [map_getD (by rw [hs.len]; exact hb), hz]
    simp
theorem vsum_split {N : Poly} (h : (keysI N).Nodup) (m x : Pt) : vsum N x = getI N m * mon m x + vsum (N.filter fun t => decide (t.1 ≠ m)) x := by
  induction N with
  | nil => rw [List.filter_nil, vsum_nil]; unfold getI; simp
  | cons t r ih =>
    have h1 := List.nodup_cons.mp h
    rw [vsum_cons, getI_cons]
    by_cases e : t.1 = m
    · rw [if_pos e, List.filter_cons_of_neg (by simpa using e)]
      have : r.filter (fun t => decide (t.1 ≠ m)) = r := List.filter_eq_self.mpr fun s hs => by
        refine decide_eq_true fun e2 => h1.1 ?_
        exact List.mem_map.mpr ⟨s, hs, e2.trans e.symm⟩
      rw [this, e]
    · rw [if_neg e, List.filter_cons_of_pos (by simpa using e), vsum_cons, ih h1.2]
      omega
abbrev SetW (w : WS) (F : Pt → Int) : Prop := (∃ r ∈ w.rs, F = vsum r.parts) ∨ ∃ t ∈ w.fs, F = vsum t.2
structure FsOk (p n : Nat) (P : List Pt) (t : Pt × Poly) : Prop where
  inn : inSp p n t.1
  nums : NumOk p n t.2
  zero : ∀ x ∈ P, Cg p (vsum t.2 x) 0
  lead : ∃ G : Poly, (∀ k ∈ keysI G, inSp p n k ∧ keyLt List.sum k t.1 = true) ∧ ∀ x, vsum t.2 x = mon t.1 x + vsum G x
structure WInv (p n : Nat) (P don : List Pt) (w : WS) : Prop where
  rows : ∀ r ∈ w.rs, RowOk p n P r ∧ ∀ k ∈ keysI r.parts, k ∈ don
  tri : Tri w.rs
  fs : ∀ t ∈ w.fs, FsOk p n P t
  all : ∀ m ∈ don, (∃ t ∈ w.fs, divB t.1 m = true) ∨ Lin p n (SetW w) (mon m)
theorem takeS_ok (hp : 1 < p) {w : WS} {don : List Pt} (I : WInv p n P don w) {m : Pt} (hm : inSp p n m) :
    Less p n P (fun F => ∃ r ∈ w.rs, F = vsum r.parts) (P.map fun x => mon m x % (p : Int), [(m, 1)]) (takeS p P w.rs m) ∧ (∀ k ∈ keysI (takeS p P w.rs m).2, k = m ∨ k ∈ don) ∧ (m ∉ don → getI (takeS p P w.rs m).2 m = 1) ∧ ∀ r ∈ w.rs, (takeS p P w.rs m).1[r.beg]?.getD 0 = 0 := by
  have h0 : NumOk p n ([(m, 1)] : Poly) := ⟨List.nodup_cons.mpr ⟨List.not_mem_nil, List.nodup_nil⟩, fun k hk => by rw [List.mem_singleton.mp hk]; exact hm, fun t ht => by rw [List.mem_singleton.mp ht]; exact ⟨by show (0 : Int) ≤ 1; decide, by show (1 : Int) < p; omega⟩⟩
  have hv : ValOk p P (P.map fun x => mon m x % (p : Int)) (vsum [(m, 1)]) := ⟨List.length_map .., fun a ha => by
      obtain ⟨x, _, rfl⟩ := List.mem_map.mp ha
      exact ⟨Int.emod_nonneg _ (by omega), Int.emod_lt_of_pos _ (by omega)⟩, fun j x hx => by
      rw [List.getElem?_map, hx, vsum_cons, vsum_nil, Int.one_mul, Int.add_zero]
      exact Cg.mod _⟩
  have hr := fun r hr => (I.rows r hr).1
  obtain ⟨q1, q2, q3⟩ := lessR_ok (by omega) (rs := w.rs) (s := (P.map fun x => mon m x % (p : Int), [(m, 1)])) (S := fun F => ∃ r ∈ w.rs, F = vsum r.parts) h0 hv hr (fun r hr => ⟨r, hr, rfl⟩)
  refine ⟨q1, fun k hk => ?_, fun hd => ?_, less_beg hp h0 hv hr I.tri⟩
  · rcases q2 k hk with h | ⟨r, hr, h⟩
    · exact .inl (List.mem_singleton.mp h)
    · exact .inr ((I.rows r hr).2 k h)
  · refine (q3 m fun r hr hk => hd ((I.rows r hr).2 m hk)).trans ?_
    unfold getI
    simp
theorem wStep_inv (h : Pr p) {w : WS} {don : List Pt} (I : WInv p n P don w) {m : Pt} (hm : inSp p n m) (hdon : ∀ k ∈ don, inSp p n k ∧ keyLt List.sum k m = true) : WInv p n P (don ++ [m]) (wStep p P w m) := by
  have hp := h.two
  have hmd : m ∉ don := fun hx => by
    have := (hdon m hx).2
    rw [keyLt_irrefl] at this
    cases this
  obtain ⟨q1, q2, q3, q4⟩ := takeS_ok (by omega) I hm
  obtain ⟨D, l, hD⟩ := q1.lin
  unfold wStep
  by_cases c1 : (w.fs.any fun t => divB t.1 m) = true
  · rw [if_pos c1]
    refine ⟨fun r hr => ⟨(I.rows r hr).1, fun k hk => List.mem_append_left _ ((I.rows r hr).2 k hk)⟩, I.tri, I.fs, fun k hk => ?_⟩
    rcases List.mem_append.mp hk with hk | hk
    · exact I.all k hk
    · rw [List.mem_singleton.mp hk]
      obtain ⟨t, ht, hd⟩ := List.any_eq_true.mp c1
      exact .inl ⟨t, ht, hd⟩
  · rw [if_neg c1]
    by_cases c2 : ((takeS p P w.rs m).1.any (· != 0)) = true
    · rw [if_pos c2]
      obtain ⟨k1, k2, k3, k4⟩ := keep_ok h q1.nums q1.vals c2
      refine ⟨fun r hr => ?_, ?_, I.fs, fun k hk => ?_⟩
      · rcases List.mem_append.mp hr with hr | hr
        · exact ⟨(I.rows r hr).1, fun k hk => List.mem_append_left _ ((I.rows r hr).2 k hk)⟩
        · rw [List.mem_singleton.mp hr]
          refine ⟨k1, fun k hk => ?_⟩
          rw [k3] at hk
          rcases q2 k hk with rfl | h1
          · exact List.mem_append_right _ (List.mem_singleton.mpr rfl)
          · exact List.mem_append_left _ h1
      · refine List.pairwise_append.mpr ⟨I.tri, List.pairwise_singleton _ _, fun r hr s hs => ?_⟩
        rw [List.mem_singleton.mp hs]
        exact k4 r.beg (I.rows r hr).1.beg (q4 r hr)
      · rcases List.mem_append.mp hk with hk | hk
        · exact (I.all k hk).imp id fun l => l.mono fun F hF => hF.imp (fun ⟨r, hr, e⟩ => ⟨r, List.mem_append_left _ hr, e⟩) id
        · rw [List.mem_singleton.mp hk]
          refine .inr (Lin.cg (.add (.smul ((takeS p P w.rs m).1[begOf (takeS p P w.rs m).1]?.getD 0) (.base (.inl ⟨keepR p (takeS p P w.rs m), List.mem_append_right _ (List.mem_singleton.mpr rfl), rfl⟩))) (l.mono fun F ⟨r, hr, e⟩ => .inl ⟨r, List.mem_append_left _ hr, e⟩)) fun x _ => ?_)
          have e1 := hD x
          rw [vsum_cons, vsum_nil, Int.one_mul, Int.add_zero] at e1
          exact (((k2 x).symm.add (Cg.refl _)).trans e1.symm)
    · rw [if_neg c2]
      refine ⟨fun r hr => ⟨(I.rows r hr).1, fun k hk => List.mem_append_left _ ((I.rows r hr).2 k hk)⟩, I.tri, fun t ht => ?_, fun k hk => ?_⟩
      · rcases List.mem_append.mp ht with ht | ht
        · exact I.fs t ht
        · rw [List.mem_singleton.mp ht]
          refine ⟨hm, q1.nums, fun x hx => ?_, (takeS p P w.rs m).2.filter (fun t => decide (t.1 ≠ m)), fun k hk => ?_, fun x => ?_⟩
          · obtain ⟨j, hj⟩ := List.getElem?_of_mem hx
            refine (q1.vals.val j x hj).symm.trans (Cg.of ?_)
            have hjl : j < (takeS p P w.rs m).1.length := by rw [q1.vals.len]; exact (List.getElem?_eq_some_iff.mp hj).1
            rw [List.getElem?_eq_getElem hjl]
            show (takeS p P w.rs m).1[j] = 0
            apply Classical.byContradiction
            intro hne
            exact c2 (List.any_eq_true.mpr ⟨_, List.getElem_mem hjl, by simpa using hne⟩)
          · obtain ⟨t, ht, rfl⟩ := List.mem_map.mp hk
            obtain ⟨h1, h2⟩ := List.mem_filter.mp ht
            rcases q2 t.1 (List.mem_map.mpr ⟨t, h1, rfl⟩) with h3 | h3
            · exact absurd h3 (of_decide_eq_true h2)
            · exact hdon _ h3
          · show vsum (takeS p P w.rs m).2 x = _
            rw [vsum_split q1.nums.nd m x, q3 hmd, Int.one_mul]
      · rcases List.mem_append.mp hk with hk | hk
        · exact (I.all k hk).imp (fun ⟨t, ht, e⟩ => ⟨t, List.mem_append_left _ ht, e⟩) fun l => l.mono fun F hF => hF.imp id (fun ⟨r, hr, e⟩ => ⟨r, List.mem_append_left _ hr, e⟩)
        · rw [List.mem_singleton.mp hk]
          refine .inr (Lin.cg (.add (.base (.inr ⟨(m, (takeS p P w.rs m).2), List.mem_append_right _ (List.mem_singleton.mpr rfl), rfl⟩)) (l.mono fun F ⟨r, hr, e⟩ => .inl ⟨r, hr, e⟩)) fun x _ => ?_)
          have e1 := hD x
          rw [vsum_cons, vsum_nil, Int.one_mul, Int.add_zero] at e1
          exact e1.symm
theorem walk_inv (h : Pr p) : ∀ {L don : List Pt} {w : WS}, WInv p n P don w → (don ++ L).Pairwise (fun k m => keyLt List.sum k m = true) → (∀ m ∈ don ++ L, inSp p n m) → WInv p n P (don ++ L) (L.foldl (wStep p P) w)
  | [], don, w, I, _, _ => by rw [List.append_nil]; exact I
  | m :: L, don, w, I, hp, hi => by
    have h2 := List.pairwise_append.mp hp
    have e : don ++ m :: L = (don ++ [m]) ++ L := by simp
    rw [e] at hp hi ⊢
    exact walk_inv h (wStep_inv h I (hi m (by simp)) fun k hk => ⟨hi k (by simp [hk]), h2.2.2 k hk m (List.mem_cons_self ..)⟩) hp hi
end
end SP
end
section
set_option Elab.async false
set_option linter.all false
set_option maxRecDepth 100000
namespace SP
open PySem L2
section
variable {p n : Nat} {P : List Pt}
theorem lsum_upd {k a : Nat} (ha : a < k) (c : Nat → Int) (v : Int) (g : Nat → Int) : lsum (List.range k) (fun j => (if j = a then v else c j) * g j) = lsum (List.range k) (fun j => c j * g j) + (v - c a) * g a := by
  rw [← lsum_one (f := fun j => (v - c j) * g j) (List.nodup_range (n := k)) (List.mem_range.mpr ha), ← lsum_add]
  refine lsum_congr fun j _ => ?_
  by_cases e : j = a
  · rw [if_pos e, if_pos e]; grind
  · rw [if_neg e, if_neg e]; omega
theorem solve_rows : ∀ {rs : List Row}, (∀ r ∈ rs, RowOk p n P r) → Tri rs → ∀ b : Row → Int, ∃ c : Nat → Int, ∀ r ∈ rs, lsum (List.range P.length) (fun j => c j * r.row[j]?.getD 0) = b r
  | [], _, _, _ => ⟨fun _ => 0, fun r hr => nomatch hr⟩
  | r :: rs, hr, ht, b => by
    have ht' := List.pairwise_cons.mp ht
    obtain ⟨c, hc⟩ := solve_rows (rs := rs) (fun s hs => hr s (List.mem_cons_of_mem _ hs)) ht'.2 b
    have h1 := hr r (List.mem_cons_self ..)
    refine ⟨fun j => if j = r.beg then c r.beg + (b r - lsum (List.range P.length) fun j => c j * r.row[j]?.getD 0) else c j, fun s hs => ?_⟩
    rw [lsum_upd h1.beg]
    rcases List.mem_cons.mp hs with rfl | hs
    · rw [h1.one]; omega
    · rw [ht'.1 s hs, Int.mul_zero, Int.add_zero]
      exact hc s hs
def addP (m k : Pt) : Pt := (m.zip k).map fun t => t.1 + t.2
def subP (m k : Pt) : Pt := (m.zip k).map fun t => t.1 - t.2
theorem addP_sum : ∀ {m k : Pt}, m.length = k.length → (addP m k).sum = m.sum + k.sum
  | [], [], _ => rfl
  | a :: m, b :: k, h => by
    have ih := addP_sum (m := m) (k := k) (Nat.succ.inj h)
    show (a + b) + (addP m k).sum = (a + m.sum) + (b + k.sum)
    omega
theorem mulP_cases (hp : 2 ≤ p) : ∀ {m k : Pt}, m.length = k.length → (∀ a ∈ m, 0 ≤ a ∧ a < p) → (∀ a ∈ k, 0 ≤ a ∧ a < p) → mulP p m k = addP m k ∨ (mulP p m k).sum < m.sum + k.sum
  | [], [], _, _, _ => .inl rfl
  | a :: m, b :: k, h, h1, h2 => by
    have ih := mulP_cases hp (m := m) (k := k) (Nat.succ.inj h) (fun z hz => h1 z (List.mem_cons_of_mem _ hz)) (fun z hz => h2 z (List.mem_cons_of_mem _ hz))
    have ha := h1 a (List.mem_cons_self ..)
    have hb := h2 b (List.mem_cons_self ..)
    have hl := lessN_sum hp ha.1 ha.2 hb.1 hb.2
    have hs := addP_sum (m := m) (k := k) (Nat.succ.inj h)
    have e1 : mulP p (a :: m) (b :: k) = lessN p (a + b) :: mulP p m k := rfl
    have e2 : addP (a :: m) (b :: k) = (a + b) :: addP m k := rfl
    rw [e1, e2, List.sum_cons, List.sum_cons, List.sum_cons]
    by_cases c : a + b < (p : Int)
    · rw [if_pos c] at hl
      rw [hl]
      rcases ih with ih | ih
      · exact .inl (by rw [ih])
      · exact .inr (by omega)
    · rw [if_neg c] at hl
      rw [hl]
      right
      rcases ih with ih | ih
      · rw [ih, hs]; omega
      · omega
theorem addP_sub : ∀ {m k : Pt}, m.length = k.length → addP (subP m k) k = m
  | [], [], _ => rfl
  | a :: m, b :: k, h => by
    have ih := addP_sub (m := m) (k := k) (Nat.succ.inj h)
    show (a - b + b) :: addP (subP m k) k = _
    rw [ih]
    congr 1
    omega
theorem subP_in {m k : Pt} (hm : inSp p n m) (hk : inSp p n k) (hd : divB k m = true) : inSp p n (subP m k) := by
  refine ⟨by unfold subP; rw [List.length_map, List.length_zip, hm.1, hk.1, Nat.min_self], fun a ha => ?_⟩
  obtain ⟨t, ht, rfl⟩ := List.mem_map.mp ha
  have h1 := hm.2 t.1 (List.of_mem_zip ht).1
  have h2 := hk.2 t.2 (List.of_mem_zip ht).2
  have h3 : (t.2, t.1) ∈ k.zip m := by
    obtain ⟨i, hi⟩ := List.getElem?_of_mem ht
    have hz := List.getElem?_zip_eq_some.mp hi
    exact List.mem_of_getElem? (zip_at hz.2 hz.1)
  have h4 := List.all_eq_true.mp hd _ h3
  have h5 : t.2 ≤ t.1 := of_decide_eq_true h4
  omega
theorem lex_add : ∀ {d k l : Pt}, d.length = k.length → d.length = l.length → lexLt (addP d k) (addP d l) = lexLt k l
  | [], [], [], _, _ => rfl
  | a :: d, b :: k, c :: l, h1, h2 => by
    have ih := lex_add (d := d) (k := k) (l := l) (Nat.succ.inj h1) (Nat.succ.inj h2)
    show lexLt ((a + b) :: addP d k) ((a + c) :: addP d l) = _
    unfold lexLt
    rw [ih]
    by_cases e : b = c
    · rw [if_pos e, if_pos (by omega)]
    · rw [if_neg e, if_neg (by omega)]
      congr 1
      rw [eq_iff_iff]
      omega
theorem mulP_self (hp : 2 ≤ p) {m k : Pt} (hm : inSp p n m) (hk : inSp p n k) (hd : divB k m = true) : mulP p (subP m k) k = m := by
  have h := subP_in hm hk hd
  have hl : (subP m k).length = k.length := by rw [h.1, hk.1]
  rcases mulP_cases hp hl h.2 hk.2 with q | q
  · rw [q, addP_sub (by rw [hm.1, hk.1])]
  · exfalso
    have e : mulP p (subP m k) k = addP (subP m k) k := by
      unfold mulP addP
      refine List.map_congr_left fun t ht => ?_
      apply lessN_small
      have h1 : t.1 + t.2 ∈ addP (subP m k) k := List.mem_map.mpr ⟨t, ht, rfl⟩
      rw [addP_sub (by rw [hm.1, hk.1])] at h1
      exact (hm.2 _ h1).2
    rw [e, addP_sum hl] at q
    omega
theorem mulP_lt (hp : 2 ≤ p) {m k l : Pt} (hm : inSp p n m) (hl : inSp p n l) (hk : inSp p n k) (hd : divB l m = true) (hlt : keyLt List.sum k l = true) : keyLt List.sum (mulP p (subP m l) k) m = true := by
  have hs := subP_in hm hl hd
  have e1 : addP (subP m l) l = m := addP_sub (by rw [hm.1, hl.1])
  have e2 : m.sum = (subP m l).sum + l.sum := by
    have := addP_sum (m := subP m l) (k := l) (by rw [hs.1, hl.1])
    rw [e1] at this
    exact this
  have e3 := addP_sum (m := subP m l) (k := k) (by rw [hs.1, hk.1])
  unfold keyLt at *
  rcases mulP_cases hp (by rw [hs.1, hk.1]) hs.2 hk.2 with q | q
  · rw [q, e3]
    by_cases c : k.sum = l.sum
    · rw [if_pos c] at hlt
      rw [if_pos (by omega), ← hlt, ← lex_add (d := subP m l) (k := k) (l := l) (by rw [hs.1, hk.1]) (by rw [hs.1, hl.1]), e1]
    · rw [if_neg c] at hlt
      have := of_decide_eq_true hlt
      rw [if_neg (by omega)]
      exact decide_eq_true (by omega)
  · have hle : k.sum ≤ l.sum := by
      by_cases c : k.sum = l.sum
      · omega
      · rw [if_neg c] at hlt
        have := of_decide_eq_true hlt
        omega
    rw [if_neg (by omega)]
    exact decide_eq_true (by omega)
theorem deg_strict {xs : List Pt} (h : xs.Nodup) : (degSort xs).Pairwise fun k m => keyLt List.sum k m = true := by
  have nd : (degSort xs).Nodup := (degSort_perm xs).nodup_iff.mpr h
  refine (List.Pairwise.and nd (degSort_ord xs)).imp fun ⟨h1, h2⟩ => ?_
  exact keyLt_total (fun e => h1 e.symm) h2
theorem walk_zeros (S : Shape p n) {z : Pt} (hz : z ∈ pts p n) (h0 : ∀ t ∈ (walkM p P (degSort (pts p n))).fs, Cg p (vsum t.2 z) 0) (hP : ∀ x ∈ P, x ∈ pts p n) : z ∈ P := by
  have hp := S.p
  have hstr := deg_strict (pts_nodup p n)
  have hmem : ∀ m, m ∈ degSort (pts p n) ↔ m ∈ pts p n := fun m => (degSort_perm (pts p n)).mem_iff
  have I : WInv p n P (degSort (pts p n)) (walkM p P (degSort (pts p n))) := by
    have q := walk_inv (p := p) (n := n) (P := P) S.pr (L := degSort (pts p n)) (don := []) (w := ⟨[], []⟩) ⟨(fun r hr => nomatch hr), .nil, (fun t ht => nomatch ht), (fun m hm => nomatch hm)⟩ hstr (fun m hm => mem_pts.mp ((hmem m).mp hm))
    exact q
  generalize walkM p P (degSort (pts p n)) = w at I h0
  obtain ⟨c, hc⟩ := solve_rows (fun r hr => (I.rows r hr).1) I.tri (fun r => vsum r.parts z)
  have cl : ∀ {F : Pt → Int}, Lin p n (SetW w) F → Cg p (F z) (lsum (List.range P.length) fun j => c j * F (P[j]?.getD [])) := by
    intro F l
    have inP : ∀ j ∈ List.range P.length, P[j]?.getD [] ∈ pts p n := fun j hj => by
      rw [List.getElem?_eq_getElem (List.mem_range.mp hj)]
      exact hP _ (List.getElem_mem _)
    induction l with
    | base hF =>
      rcases hF with ⟨r, hr, rfl⟩ | ⟨t, ht, rfl⟩
      · refine (Cg.of (hc r hr).symm).trans (lsum_cg fun j hj => (Cg.refl _).mul ?_)
        have hjl := List.mem_range.mp hj
        refine ((I.rows r hr).1.vals.val j _ (List.getElem?_eq_getElem hjl)).trans (Cg.of ?_)
        rw [List.getElem?_eq_getElem hjl]
        rfl
      · refine (h0 t ht).trans ?_
        refine (Cg.of (lsum_zero (L := List.range P.length)).symm).trans (lsum_cg fun j hj => ?_)
        rw [List.getElem?_eq_getElem (List.mem_range.mp hj)]
        have q := (Cg.refl (p := p) (c j)).mul ((I.fs t ht).zero _ (List.getElem_mem (List.mem_range.mp hj)))
        exact ((q.trans (Cg.of (Int.mul_zero _))).symm)
    | zero =>
      refine (Cg.of (lsum_zero (L := List.range P.length)).symm).trans (Cg.of (lsum_congr fun j _ => by rw [Int.mul_zero]))
    | add _ _ a b => exact (a.add b).trans (Cg.of (by rw [← lsum_add]; exact lsum_congr fun j _ => by rw [Int.mul_add]))
    | smul d _ a => exact ((Cg.refl d).mul a).trans (Cg.of (by rw [← lsum_mul]; exact lsum_congr fun j _ => by rw [Int.mul_left_comm]))
    | cg _ e a => exact (e z hz).symm.trans (a.trans (lsum_cg fun j hj => (Cg.refl _).mul (e _ (inP j hj))))
  -- every power
  have all : ∀ (i : Nat) (m : Pt), (degSort (pts p n))[i]? = some m → Lin p n (fun F => SetW w F ∨ ∃ (d : Pt) (t : Pt × Poly), t ∈ w.fs ∧ F = fun x => mon d x * vsum t.2 x) (mon m) := by
    intro i
    induction i using Nat.strongRecOn with
    | ind i ih =>
      intro m hm
      have hmm := List.mem_of_getElem? hm
      have hmi := mem_pts.mp ((hmem m).mp hmm)
      rcases I.all m hmm with ⟨t, ht, hd⟩ | l
      · have ft := I.fs t ht
        obtain ⟨G, hG, eG⟩ := ft.lead
        have hsub := subP_in hmi ft.inn hd
        have low : ∀ k ∈ keysI G, Lin p n (fun F => SetW w F ∨ ∃ (d : Pt) (t : Pt × Poly), t ∈ w.fs ∧ F = fun x => mon d x * vsum t.2 x) (mon (mulP p (subP m t.1) k)) := by
          intro k hk
          obtain ⟨hki, hkl⟩ := hG k hk
          have hlt := mulP_lt hp.1 hmi ft.inn hki hd hkl
          obtain ⟨j, hj⟩ := List.getElem?_of_mem ((hmem _).mpr (mem_pts.mpr (mulP_in hp.1 hsub hki)))
          refine ih j ?_ _ hj
          apply Classical.byContradiction
          intro hn
          by_cases e : j = i
          · subst e
            rw [hm] at hj
            rw [← Option.some.inj hj, keyLt_irrefl] at hlt
            cases hlt
          · obtain ⟨h1, h2⟩ := List.getElem?_eq_some_iff.mp hj
            obtain ⟨h3, h4⟩ := List.getElem?_eq_some_iff.mp hm
            have h5 := List.pairwise_iff_getElem.mp hstr i j h3 h1 (by omega)
            rw [h2, h4] at h5
            have h6 := keyLt_trans hlt h5
            rw [keyLt_irrefl] at h6
            cases h6
        have lowG : ∀ G' : Poly, (∀ k ∈ keysI G', k ∈ keysI G) → Lin p n (fun F => SetW w F ∨ ∃ (d : Pt) (t : Pt × Poly), t ∈ w.fs ∧ F = fun x => mon d x * vsum t.2 x) (fun x => mon (subP m t.1) x * vsum G' x) := by
          intro G'
          induction G' with
          | nil => intro _; exact .cg .zero fun x _ => Cg.of (by rw [vsum_nil, Int.mul_zero])
          | cons s r ihr =>
            intro hs
            refine .cg (.add (.smul s.2 (low s.1 (hs s.1 (List.mem_cons_self ..)))) (ihr fun k hk => hs k (List.mem_cons_of_mem _ hk))) fun x hx => ?_
            rw [vsum_cons, Int.mul_add]
            refine Cg.add ?_ (Cg.refl _)
            exact ((Cg.refl s.2).mul (mulP_pts S.pr hsub (hG s.1 (hs s.1 (List.mem_cons_self ..))).1 hx)).trans (Cg.of (by grind))
        refine .cg (.add (.base (.inr ⟨subP m t.1, t, ht, rfl⟩)) (.smul (-1) (lowG G fun k hk => hk))) fun x hx => ?_
        have e1 := mulP_pts S.pr hsub ft.inn hx
        rw [mulP_self hp.1 hmi ft.inn hd] at e1
        refine Cg.trans (Cg.of ?_) e1.symm
        rw [eG x]
        grind
      · exact l.mono fun F hF => .inl hF
  -- the sums hold for the multiples too
  have cl2 : ∀ {F : Pt → Int}, Lin p n (fun F => SetW w F ∨ ∃ (d : Pt) (t : Pt × Poly), t ∈ w.fs ∧ F = fun x => mon d x * vsum t.2 x) F → Cg p (F z) (lsum (List.range P.length) fun j => c j * F (P[j]?.getD [])) := by
    intro F l
    have inP : ∀ j ∈ List.range P.length, P[j]?.getD [] ∈ pts p n := fun j hj => by
      rw [List.getElem?_eq_getElem (List.mem_range.mp hj)]
      exact hP _ (List.getElem_mem _)
    induction l with
    | base hF =>
      rcases hF with hF | ⟨d, t, ht, rfl⟩
      · exact cl (.base hF)
      · refine (((Cg.refl (mon d z)).mul (h0 t ht)).trans (Cg.of (Int.mul_zero _))).trans ?_
        refine (Cg.of (lsum_zero (L := List.range P.length)).symm).trans (lsum_cg fun j hj => ?_)
        have hjl := List.mem_range.mp hj
        rw [List.getElem?_eq_getElem hjl]
        have q := (Cg.refl (p := p) (c j)).mul ((Cg.refl (mon d P[j])).mul ((I.fs t ht).zero _ (List.getElem_mem hjl)))
        exact ((q.trans (Cg.of (by rw [Int.mul_zero, Int.mul_zero]))).symm)
    | zero =>
      refine (Cg.of (lsum_zero (L := List.range P.length)).symm).trans (Cg.of (lsum_congr fun j _ => by rw [Int.mul_zero]))
    | add _ _ a b => exact (a.add b).trans (Cg.of (by rw [← lsum_add]; exact lsum_congr fun j _ => by rw [Int.mul_add]))
    | smul d _ a => exact ((Cg.refl d).mul a).trans (Cg.of (by rw [← lsum_mul]; exact lsum_congr fun j _ => by rw [Int.mul_left_comm]))
    | cg _ e a => exact (e z hz).symm.trans (a.trans (lsum_cg fun j hj => (Cg.refl _).mul (e _ (inP j hj))))
  apply Classical.byContradiction
  intro hnz
  obtain ⟨E, hE⟩ := table_numbers S.pr n (fun x => if x = z then 1 else 0)
  have lE : ∀ L : List Pt, (∀ m ∈ L, m ∈ pts p n) → Lin p n (fun F => SetW w F ∨ ∃ (d : Pt) (t : Pt × Poly), t ∈ w.fs ∧ F = fun x => mon d x * vsum t.2 x) (fun x => lsum L fun m => E m * mon m x) := by
    intro L
    induction L with
    | nil => intro _; exact .cg .zero fun x _ => Cg.of (by rw [lsum_nil])
    | cons m L ihL =>
      intro hL
      obtain ⟨i, hi⟩ := List.getElem?_of_mem ((hmem m).mpr (hL m (List.mem_cons_self ..)))
      exact .cg (.add (.smul (E m) (all i m hi)) (ihL fun k hk => hL k (List.mem_cons_of_mem _ hk))) fun x _ => Cg.of (by rw [lsum_cons])
  have fin := cl2 ((lE (pts p n) fun m hm => hm).cg hE)
  simp only [if_true] at fin
  have zero : lsum (List.range P.length) (fun j => c j * (if P[j]?.getD [] = z then (1 : Int) else 0)) = 0 := by
    refine (lsum_congr fun j hj => ?_).trans (lsum_zero (L := List.range P.length))
    have hjl := List.mem_range.mp hj
    rw [List.getElem?_eq_getElem hjl]
    rw [if_neg (fun e => hnz (by rw [← e]; exact List.getElem_mem hjl)), Int.mul_zero]
  rw [zero] at fin
  have := Cg.zero_iff.mp fin
  rw [Int.emod_eq_of_lt (by decide) (by omega)] at this
  cases this
end
end SP
end
section
set_option Elab.async false
set_option linter.all false
set_option maxRecDepth 100000
set_option maxHeartbeats 2000000
namespace SP
open PySem L2
theorem tab_del {H : Hp} {P : Addr} {ds : List Addr} (h : PlainsAt H ds) (t : LamX.TabS H P LQ) : LamX.TabS (delS H ds) P LQ := by
  obtain ⟨ps, h1, h2, h3⟩ := t
  have np : P ∉ ds := fun hm => by
    obtain ⟨u, q1, q2⟩ := h P hm
    rw [h1] at q1
    cases q1
    exact q2
  refine ⟨ps, by rw [delS_out np]; exact h1, h2, fun pos cv e => ?_⟩
  obtain ⟨c, rfl, hc⟩ := h3 pos cv e
  refine ⟨c, rfl, ?_⟩
  have nc : c ∉ ds := fun hm => by
    obtain ⟨u, q1, q2⟩ := h c hm
    obtain ⟨f, ef⟩ := @codeO_ext c LQ
    rw [hc, ef] at q1
    cases q1
    exact q2
  rw [delS_out nc]
  exact hc
theorem PlainsAt.up {H H' : Hp} {ds : List Addr} (h : PlainsAt H ds) (e : Ext H H') : PlainsAt H' ds := fun d hd => by
  obtain ⟨u, q1, q2⟩ := h d hd
  exact ⟨u, e.at q1 (fun ps z => by subst z; exact q2), q2⟩
theorem Ext.dels {H H' : Hp} {ds : List Addr} (e : Ext H H') (h : PlainsAt H ds) : Ext (delS H ds) (delS H' ds) where
  keep := fun b o q n => by
    by_cases hb : b ∈ ds
    · rw [delS_in hb] at q; cases q
    · rw [delS_out hb] at q ⊢; exact e.keep b o q n
  free := fun b q => by
    by_cases hb : b ∈ ds
    · exact delS_in hb
    · rw [delS_out hb] at q ⊢; exact e.free b q
  tabs := fun P t => tab_del (h.up e) (e.tabs P ((Ext.del H ds).tabs P t))
theorem Ext.toDel {Hb H : Hp} {ds : List Addr} (e : Ext Hb H) (h : PlainsAt H ds) (hn : ∀ d ∈ ds, Hb d = none) : Ext Hb (delS H ds) where
  keep := fun b o q n => by
    by_cases hb : b ∈ ds
    · rw [hn b hb] at q; cases q
    · rw [delS_out hb]; exact e.keep b o q n
  free := fun b q => by
    by_cases hb : b ∈ ds
    · exact hn b hb
    · rw [delS_out hb] at q; exact e.free b q
  tabs := fun P t => tab_del h (e.tabs P t)
theorem plains1 {H : Hp} {d : Addr} {u : HO} (h : H d = some u) (hu : plainO u) : PlainsAt H [d] := fun b hb => by
  rw [List.mem_singleton.mp hb]
  exact ⟨u, h, hu⟩
theorem delS_upd {H : Hp} {d : Addr} {o : HO} {ds : List Addr} (h : d ∈ ds) : delS (upd H d o) ds = delS H ds := by
  funext b
  by_cases hb : b ∈ ds
  · rw [delS_in hb, delS_in hb]
  · have hne : b ≠ d := fun e => hb (by rw [e]; exact h)
    rw [delS_out hb, delS_out hb, upd_ne hne]
theorem upd_delS {H : Hp} {d : Addr} {o : HO} {ds : List Addr} (h : d ∉ ds) : upd (delS H ds) d o = delS (upd H d o) ds := by
  funext b
  by_cases hb : b ∈ ds
  · have hne : b ≠ d := fun e => h (e ▸ hb)
    rw [upd_ne hne, delS_in hb, delS_in hb]
  · rw [delS_out hb]
    by_cases e : b = d
    · subst e; rw [upd_same, upd_same]
    · rw [upd_ne e, upd_ne e, delS_out hb]
theorem TEx.updU {H : Hp} {p : Addr} {o u : HO} (hp : H p = some u) (hu : ¬ tupO u) : TEx H (L2.upd H p o) := fun a x k e => by
  by_cases ha : a = p
  · subst ha
    rw [e] at hp
    cases hp
    exact absurd k hu
  · rw [upd_ne ha]; exact e
theorem Ext.upd_del {H : Hp} {d : Addr} {o u : HO} (h : H d = some u) (hu : chgO u) : Ext (delS H [d]) (upd H d o) := (Ext.del H [d]).mut (delS_in (List.mem_singleton.mpr rfl)) h hu
theorem s_lockX {σ : L2.St} {H : Hp} {g : TG} {tb : TS} {D : Ends} {i : Nat} {d : Addr} {kvs : List (Pt × V)} {ds : List Addr} (hv : σ[i]? = some (some (.ref d))) (hd : H d = some (DT kvs)) (hp : PlainsAt H ds) (hn : d ∉ ds) (Pv : Nat → L2.St → Hp → Prop)
    (h0 : ∀ od H1, Ext (upd H d (.frz od (DT kvs))) H1 → Pv 0 σ H1)
    (hs : ∀ od H2 i a x σ' H0 H' (rt : VK) (bk : L2.St → Hp → Prop), kvs[i]? = some a → Ext (upd H d (.frz od (DT kvs))) H2 → Ext (delS H2 ds) H0 → TEx H2 H0 → Pv i σ' H0 → Ext H0 H' → H' d = some (.frz od (DT kvs)) → ptR a.1 x H' →
      g x σ' H' fun σ3 H3 => tb { nx := fun σ4 H4 => Ext (delS H2 ds) H4 ∧ TEx H2 H4 ∧ Pv (i + 1) σ4 H4, ct := fun σ4 H4 => Ext (delS H2 ds) H4 ∧ TEx H2 H4 ∧ Pv (i + 1) σ4 H4, bk := bk, rt := rt } σ3 H3)
    (hf : ∀ σ' H', Ext (delS H ds) (upd H' d (DT kvs)) → TEx H (upd H' d (DT kvs)) → Pv kvs.length σ' H' → D.nx σ' (upd H' d (DT kvs))) : tLock (tFor (iKeys (tVar i)) g tb) D σ H := by
  refine ⟨d, DT kvs, hd, trivial, fun od => ?_⟩
  have hda : (upd H d (.frz od (DT kvs))) d = some (.frz od (DT kvs)) := upd_same
  refine s_forX (ds := ds) (xs := kvs) (A := fun t => ptR t.1) ?_ Pv (fun H1 e1 => h0 od H1 e1) (fun H2 j a x σ' H0 H' ha e2 e0 t0 pv e' hA => ?_) fun H2 σ' H' e2 e0 t0 pv => ?_
  · intro H1 e1 R k
    refine (ev_is hv) H1 e1 _ fun v H2 e2 rv => ?_
    obtain rfl : v = .ref d := rv
    refine ⟨d, od, rfl, .inr ⟨_, e2.at (e1.at hda), k _ H2 e2 (srcG_keysT ?_)⟩⟩
    rw [delS_out hn]
    exact e2.at (e1.at hda)
  · have h4 : H' d = some (.frz od (DT kvs)) := e'.at (e0.at (by rw [delS_out hn]; exact e2.at hda))
    exact hs od H2 j a x σ' H0 H' _ _ ha e2 e0 t0 pv e' h4 hA
  · have hpL : PlainsAt (upd H d (.frz od (DT kvs))) ds := fun b hb => by
      obtain ⟨u, q1, q2⟩ := hp b hb
      have hne : b ≠ d := fun e => hn (by rw [← e]; exact hb)
      exact ⟨u, by rw [upd_ne hne]; exact q1, q2⟩
    have h4 : H' d = some (.frz od (DT kvs)) := e0.at (by rw [delS_out hn]; exact e2.at hda)
    refine ⟨h4, hf σ' H' ?_ ?_ pv⟩
    · refine Ext.lock (H := delS H ds) (o := od) (by rw [delS_out hn]; exact hd) ?_
      rw [upd_delS hn]
      exact (e2.dels hpL).trans e0
    · have t1 : TEx H (upd H d (.frz od (DT kvs))) := TEx.upd hd trivial
      exact t1.trans (e2.t.trans (t0.trans (TEx.updU h4 (fun h => h))))
section
variable {K : PySem.W.Frag} {σ : L2.St} {H : Hp} {td ty : TE} {kvs : List (Pt × V)} {k : Pt} {v : V}
def dF (d : Addr) (kvs : List (Pt × V)) : RS := fun v H => v = .ref d ∧ ∃ o, H d = some (.frz o (DT kvs))
instance {d : Addr} {kvs : List (Pt × V)} : Mono (dF d kvs) := ⟨fun e ⟨h, o, h2⟩ => ⟨h, o, e.at h2⟩⟩
theorem ev_dgetF {d : Addr} (hd : Ev td σ H (dF d kvs)) (hy : Ev ty σ H (ptR k)) (hv : valV kvs k = some v) : Ev (tDGet td ty) σ H (Is v) := fun H1 e Q q =>
  hd H1 e _ fun x H2 e2 rx => hy H2 (e.trans e2) _ fun y H3 e3 ry => by
    obtain ⟨rfl, o, ha⟩ := rx
    refine ⟨d, v, rfl, ?_, q v H3 (e2.trans e3) rfl⟩
    rw [← hv]
    exact dGet (.inr ⟨o, e3.at ha⟩) ry
end
theorem nlR.upd {Rs : List RS} [AllT Rs] {v : V} {H : Hp} {d : Addr} {o u : HO} {ds : List Addr} (h : nlR ds Rs v H) (hd : H d = some u) (hu : chgO u) (hm : d ∈ ds) : nlR ds Rs v (L2.upd H d o) := by
  obtain ⟨⟨a, vs, rfl, h1, r⟩, hn⟩ := h
  have hne : a ≠ d := fun e => hn a rfl (by rw [e]; exact hm)
  exact ⟨⟨a, vs, rfl, by rw [upd_ne hne]; exact h1, r.upT (TEx.upd hd hu)⟩, hn⟩
theorem g_triple {K : PySem.W.Frag} {i j k : Nat} {σ : L2.St} {H : Hp} {v : V} {Ra Rb Rc : RS} {q : L2.St → Hp → Prop} (h : tupR [Ra, Rb, Rc] v H) (hq : ∀ x y z, Ra x H → Rb y H → Rc z H → q (((σ.set i (some x)).set j (some y)).set k (some z)) H) :
    gTup K 3 (gCons (gName i) (gCons (gName j) (gCons (gName k) gNil))) v σ H q := by
  obtain ⟨a, vs, rfl, h1, r⟩ := h
  obtain ⟨x, y, z, rfl, rx, ry, rz⟩ := All.l3 r
  exact ⟨a, _, rfl, SqT.of h1, rfl, _, _, rfl, _, _, rfl, _, _, rfl, rfl, hq x y z rx ry rz⟩
end SP
end
section
set_option Elab.async false
set_option linter.all false
set_option maxRecDepth 100000
set_option maxHeartbeats 4000000
namespace SP
open PySem PyProof.Rows L2
variable {P : Program} {w : World} {K : PySem.W.Frag} {mg : Str → Option Value} {base : Heap}
def rowR (r : Row) : RS := tupR [IsI ((r.beg : Nat) : Int), lstR (r.row.map IsI), dR (iV r.parts)]
instance {r : Row} : Mono (rowR r) := ⟨fun e h => (inferInstance : Mono (tupR [IsI ((r.beg : Nat) : Int), lstR (r.row.map IsI), dR (iV r.parts)])).up e h⟩
def roR (K : PySem.W.Frag) (p n : Nat) (P : List Pt) (rs : List Row) (ar : Addr) (ds : List Addr) : RS := fun v H => ∃ ws, H ar = some (.lst ws) ∧ ar ∈ ds ∧ PlainsAt H ds ∧ ∃ vs vp, InsR (He.ga K "Rows") [("space", vs), ("points", vp), ("rows", .ref ar)] v (delS H ds) ∧ spR K p n vs (delS H ds) ∧ lstR (P.map ptR) vp (delS H ds) ∧ All (rs.map rowR) ws (delS H ds)
instance {K : PySem.W.Frag} {p n : Nat} {P : List Pt} {rs : List Row} {ar : Addr} {ds : List Addr} : Mono (roR K p n P rs ar ds) := ⟨fun e h => by
  obtain ⟨ws, h1, hm, hpl, vs, vp, h2, h3, h4, h5⟩ := h
  have ed := e.dels hpl
  exact ⟨ws, e.at h1, hm, hpl.up e, vs, vp, Mono.up ed h2, Mono.up ed h3, Mono.up ed h4, h5.up ed⟩⟩
section
variable {K : PySem.W.Frag} {mg : Str → Option Value} {σ : L2.St} {H : Hp} {ta : TE} {p n : Nat} {P : List Pt} {rs : List Row} {ar : Addr} {ds : List Addr}
theorem ev_roSpace (T : TopF K mg) (h : Ev ta σ H (roR K p n P rs ar ds)) : Ev (tFld K ta "space") σ H (spR K p n) :=
  ev_fld h fun x H1 r => by
    obtain ⟨ws, h1, hm', hpl, vs, vp, h2, h3, h4, h5⟩ := r
    obtain ⟨a, dx, e1, e2⟩ := Mono.up (Ext.del H1 ds) h2
    exact ⟨a, _, dx, _, vs, e1, e2, T.c_Rows, T.n_Rows_space, rfl, Mono.up (Ext.del H1 ds) h3⟩
theorem ev_roPoints (T : TopF K mg) (h : Ev ta σ H (roR K p n P rs ar ds)) : Ev (tFld K ta "points") σ H (lstR (P.map ptR)) :=
  ev_fld h fun x H1 r => by
    obtain ⟨ws, h1, hm', hpl, vs, vp, h2, h3, h4, h5⟩ := r
    obtain ⟨a, dx, e1, e2⟩ := Mono.up (Ext.del H1 ds) h2
    exact ⟨a, _, dx, _, vp, e1, e2, T.c_Rows, T.n_Rows_points, rfl, Mono.up (Ext.del H1 ds) h4⟩
theorem ev_roRows (T : TopF K mg) (h : Ev ta σ H (roR K p n P rs ar ds)) : Ev (tFld K ta "rows") σ H (Is (.ref ar)) :=
  ev_fld h fun x H1 r => by
    obtain ⟨ws, h1, hm', hpl, vs, vp, h2, h3, h4, h5⟩ := r
    obtain ⟨a, dx, e1, e2⟩ := Mono.up (Ext.del H1 ds) h2
    exact ⟨a, _, dx, _, .ref ar, e1, e2, T.c_Rows, T.n_Rows_rows, rfl, rfl⟩
theorem ro_ins {x : V} {H1 : Hp} (r : roR K p n P rs ar ds x H1) {m : Str} (hm : ∀ vs vp vr, List.lookup m [(("space" : Str), (vs : V)), ("points", vp), ("rows", vr)] = none) : ∃ a dx fs, x = .ref a ∧ H1 a = some (.ins (He.ga K "Rows") dx fs) ∧ fs.lookup m = none := by
  obtain ⟨ws, h1, hm', hpl, vs, vp, h2, h3, h4, h5⟩ := r
  obtain ⟨a, dx, e1, e2⟩ := Mono.up (Ext.del H1 ds) h2
  exact ⟨a, dx, _, e1, e2, hm _ _ _⟩
theorem PlainsAt.upd {d : Addr} {o : HO} (h : PlainsAt H ds) (ho : plainO o) : PlainsAt (L2.upd H d o) ds := fun b hb => by
  by_cases e : b = d
  · subst e; exact ⟨o, upd_same, ho⟩
  · rw [upd_ne e]; exact h b hb
theorem roR.push {v u : V} {r : Row} {ws : List V} (h : roR K p n P rs ar ds v H) (hw : H ar = some (.lst ws)) (hr : rowR r u (delS H ds)) : roR K p n P (rs ++ [r]) ar ds v (upd H ar (.lst (ws ++ [u]))) := by
  obtain ⟨ws', h1, hm, hpl, vs, vp, h2, h3, h4, h5⟩ := h
  rw [hw] at h1
  cases h1
  refine ⟨ws ++ [u], upd_same, hm, hpl.upd trivial, vs, vp, ?_⟩
  rw [delS_upd hm]
  refine ⟨h2, h3, h4, ?_⟩
  rw [List.map_append]
  exact h5.snoc hr
theorem roR.upd {v : V} {d : Addr} {o : HO} (h : roR K p n P rs ar ds v H) (hd : d ∈ ds) (hn : d ≠ ar) (ho : plainO o) : roR K p n P rs ar ds v (L2.upd H d o) := by
  obtain ⟨ws', h1, hm, hpl, vs, vp, h2, h3, h4, h5⟩ := h
  refine ⟨ws', by rw [upd_ne (fun e => hn e.symm)]; exact h1, hm, hpl.upd ho, vs, vp, ?_⟩
  rw [delS_upd hd]
  exact ⟨h2, h3, h4, h5⟩
theorem roR.more {H1 : Hp} {v : V} {d : Addr} {u : HO} (h : roR K p n P rs ar ds v H) (hd : H d = none) (e : Ext H H1) (h1 : H1 d = some u) (hu : plainO u) : roR K p n P rs ar (d :: ds) v H1 := by
  obtain ⟨ws', q1, hm, hpl, vs, vp, h2, h3, h4, h5⟩ := h
  have hpl1 := hpl.up e
  have hpl2 : PlainsAt H1 (d :: ds) := fun b hb => by
    rcases List.mem_cons.mp hb with rfl | hb
    · exact ⟨u, h1, hu⟩
    · exact hpl1 b hb
  have ed : Ext (delS H ds) (delS H1 (d :: ds)) := ((Ext.del H ds).trans e).toDel hpl2 fun b hb => by
    rcases List.mem_cons.mp hb with rfl | hb
    · by_cases q : b ∈ ds
      · exact delS_in q
      · rw [delS_out q]; exact hd
    · exact delS_in hb
  exact ⟨ws', e.at q1, List.mem_cons_of_mem _ hm, hpl2, vs, vp, Mono.up ed h2, Mono.up ed h3, Mono.up ed h4, h5.up ed⟩
end
def newR (H4 : Hp) : RS := fun v H' => ∃ ar, v = .ref ar ∧ H4 ar = none ∧ H' ar = some (.lst [])
instance {H4 : Hp} : Mono (newR H4) := ⟨fun e h => by
  obtain ⟨a, h1, h2, h3⟩ := h
  exact ⟨a, h1, h2, e.at h3⟩⟩
theorem ev_newR {te : TE} {σ : L2.St} {H : Hp} (h : EvN te σ H []) : Ev te σ H (newR H) := fun H1 e Q q =>
  h H1 e _ fun p vs H2 hp e2 h2 r => q _ H2 e2 ⟨p, rfl, e.free p hp, by rw [h2, All.l0 r]⟩
def SpMkF (C : Addr) (Rs : List RS) (R : Hp → RS) : Sp := fun vs H Q _ => ∃ (x dx : Addr) (rest : List V) (Hb : Hp), vs = .ref x :: rest ∧ Hb x = none ∧ H x = some (.ins C dx []) ∧ Ext Hb H ∧ All Rs rest Hb ∧ ∀ H', Ext Hb H' → R Hb (.ref x) H' → Q .non H'
theorem ev_mkF {C : Addr} {sp : Sp} {E : XK} {ta : TA} {Rs : List RS} {R : Hp → RS} {σ : L2.St} {H : Hp} (h : EvA ta σ H Rs) (hs : ∀ vs H1 Q E, SpMkF C Rs R vs H1 Q E → sp vs H1 Q E) : Ev (tMake C sp [] E ta) σ H (fun v H' => ∃ Hb, Ext H Hb ∧ R Hb v H') := fun H1 e Q q =>
  h H1 e _ fun vs H2 e2 rs x dx hx hdx hne => by
    rw [List.append_nil]
    refine hs _ _ _ E ⟨x, dx, vs, H2, rfl, hx, upd_same, ?_, rs, fun H' e' r => ⟨rfl, q _ H' (e2.trans e') ⟨H2, e.trans e2, r⟩⟩⟩
    refine (Ext.new _ hdx).trans (Ext.new _ ?_)
    rw [upd_ne (fun z => hne z.symm)]
    exact hx
abbrev n_Rows_init : List Str := ["self", "space", "points"]
theorem sc_Rows_init : FnScope n_Rows_init ["self", "space", "points"] (defScope s_Rows_init) := ⟨rfl, rfl, rfl, by decide +kernel, rfl, by decide +kernel, by decide +kernel⟩
theorem bd_Rows_init : BindB "__init__" "Rows.__init__" s_Rows_init ["self", "space", "points"] := fun _ _ _ _ _ _ us hl => match us, hl with | [_, _, _], _ => rfl

def sp_mk_Rows (K : PySem.W.Frag) : Sp := fun vs H Q E => ∃ (p n : Nat) (P : List Pt), SpMkF (He.ga K "Rows") [spR K p n, lstR (P.map ptR)] (fun Hb v H' => ∃ ar, Hb ar = none ∧ roR K p n P [] ar [ar] v H') vs H Q E
abbrev G_mk_Rows (P : Program) (w : World) (K : PySem.W.Frag) (mg : Str → Option Value) (base : Heap) : Prop := GMk P w K mg base "Rows" (He.ga K "Rows") 1 ["self", "space", "points"] (sp_mk_Rows K)

theorem ok_mk_Rows (T : TopF K mg)  : G_mk_Rows P w K mg base := by
  refine T.d_Rows_init.fn sc_Rows_init bd_Rows_init (fun vs H Q E h => ?len) fun f cdv A outer s H vs Q E hr h => ?walk
  case walk =>
    have hu := room1 hr
    have hu3 := room3 hr
    have hu64 := hr.units
    have hu65 := room65 hr
    refine ⟨_, (pss_cons (ps_fld (pv 0) (pv 1) rfl)
      (pss_cons (ps_fld (pv 0) (pv 2) rfl)
      (pss_one (ps_fld (pv 0) (pe_lst pa_nil) rfl)))), ?_⟩
    obtain ⟨p, n, P, x, dx, rest, Hb, rfl, hx, hX, e0, r, k⟩ := h
    obtain ⟨a1, a2, rfl, r1, r2⟩ := All.l2 r
    refine sq (s_fldx (C := He.ga K "Rows") (dx := dx) (fs := []) (R := Is a1) hX T.c_Rows T.n_Rows_space (by decide) (ev_is rfl) (ev_is rfl) fun v H1 e1 rv => ?_)
    obtain rfl : v = a1 := rv
    have h1 := e1.at hX
    have eb := (e0.trans e1).mut (o := .ins (He.ga K "Rows") dx (putF "space" v [])) hx h1 trivial
    have h1' : (upd H1 x (.ins (He.ga K "Rows") dx (putF "space" v []))) x = some (.ins (He.ga K "Rows") dx (putF "space" v [])) := upd_same
    generalize upd H1 x (.ins (He.ga K "Rows") dx (putF "space" v [])) = H2 at eb h1'
    dsimp only
    refine sq (s_fldx (C := He.ga K "Rows") (dx := dx) (R := Is a2) h1' T.c_Rows T.n_Rows_points (by show 1 < 1000; decide) (ev_is rfl) (ev_is rfl) fun w H3 e3 rw => ?_)
    obtain rfl : w = a2 := rw
    have h3 := e3.at h1'
    have eb3 := (eb.trans e3).mut (o := .ins (He.ga K "Rows") dx (putF "points" w (putF "space" v []))) hx h3 trivial
    have h3' : (upd H3 x (.ins (He.ga K "Rows") dx (putF "points" w (putF "space" v [])))) x = some (.ins (He.ga K "Rows") dx (putF "points" w (putF "space" v []))) := upd_same
    generalize upd H3 x (.ins (He.ga K "Rows") dx (putF "points" w (putF "space" v []))) = H4 at eb3 h3'
    dsimp only
    refine s_fldM (C := He.ga K "Rows") (dx := dx) (R := newR H4) h3' T.c_Rows T.n_Rows_rows (by show 2 < 1000; decide) (ev_newR (ev_lst ea_nil (by show 0 ≤ _; decide))) (ev_is rfl) fun u H5 e5 ru => ?_
    obtain ⟨ar, rfl, hf, hl⟩ := ru
    have h5 := e5.at h3'
    have eb5 := (eb3.trans e5).mut (o := .ins (He.ga K "Rows") dx (putF "rows" (.ref ar) (putF "points" w (putF "space" v [])))) hx h5 trivial
    have hne : ar ≠ x := fun e => by rw [e, h3'] at hf; cases hf
    have hfb : Hb ar = none := eb3.free ar hf
    have hpl : PlainsAt (upd H5 x (.ins (He.ga K "Rows") dx (putF "rows" (.ref ar) (putF "points" w (putF "space" v []))))) [ar] := plains1 (u := .lst []) (by rw [upd_ne hne]; exact hl) trivial
    have ed := eb5.toDel hpl (fun d hd => by rw [List.mem_singleton.mp hd]; exact hfb)
    refine k _ eb5 ⟨ar, hfb, [], by rw [upd_ne hne]; exact hl, List.mem_singleton.mpr rfl, hpl, v, w, ?_⟩
    refine ⟨⟨x, dx, rfl, ?_⟩, Mono.up ed r1, Mono.up ed r2, .nil⟩
    rw [delS_out (by rw [List.mem_singleton]; exact fun e => hne e.symm), upd_same]
    rfl
  case len => obtain ⟨p, n, P, x, dx, rest, Hb, rfl, hx, hX, e0, r, k⟩ := h; rw [List.length_cons, r.length]; rfl
end SP
end
section
set_option Elab.async false
set_option linter.all false
set_option maxRecDepth 100000
set_option maxHeartbeats 4000000
namespace SP
open PySem PyProof.Rows L2
variable {P : Program} {w : World} {K : PySem.W.Frag} {mg : Str → Option Value} {base : Heap}
def rowB (Hb : Hp) (r : Row) : RS := fun v _ => rowR r v Hb
instance {Hb : Hp} {r : Row} : TMono (rowB Hb r) := ⟨fun _ h => h⟩
theorem all_rowB {Hb H : Hp} : ∀ {rs : List Row} {ws : List V}, All (rs.map rowR) ws Hb → All (rs.map (rowB Hb)) ws H
  | [], _, r => by cases r; exact .nil
  | r :: rs, _, h => by cases h with | cons a t => exact .cons a (all_rowB t)
theorem g_tripleB {K : PySem.W.Frag} {i j k : Nat} {σ : L2.St} {Hb H : Hp} {v : V} {Ra Rb Rc : RS} {q : L2.St → Hp → Prop} (h : tupR [Ra, Rb, Rc] v Hb) (e : Ext Hb H) (hq : ∀ x y z, Ra x Hb → Rb y Hb → Rc z Hb → q (((σ.set i (some x)).set j (some y)).set k (some z)) H) :
    gTup K 3 (gCons (gName i) (gCons (gName j) (gCons (gName k) gNil))) v σ H q := by
  obtain ⟨a, vs, rfl, h1, r⟩ := h
  obtain ⟨x, y, z, rfl, rx, ry, rz⟩ := All.l3 r
  exact ⟨a, _, rfl, SqT.of (e.at h1), rfl, _, _, rfl, _, _, rfl, _, _, rfl, rfl, hq x y z rx ry rz⟩
theorem lessR_take {p : Nat} {rs : List Row} {i : Nat} {r : Row} {s : List Int × Poly} (h : rs[i]? = some r) : lessR p (rs.take (i + 1)) s = lessStep p (lessR p (rs.take i) s) r := by
  unfold lessR
  rw [take_at h, List.foldl_append]
  rfl
theorem subK_take {p : Nat} {f : Int} {N parts : Poly} {i : Nat} {t : Pt × Int} (h : parts[i]? = some t) : subK p f N (parts.take (i + 1)) = putI (subK p f N (parts.take i)) t.1 ((getI (subK p f N (parts.take i)) t.1 - f * t.2) % p) := by
  unfold subK
  rw [take_at h, List.foldl_append]
  rfl
theorem all_ints' {ns : List Int} {vs : List V} {H : Hp} (h : vs = ns.map V.int) : All (ns.map IsI) vs H := h ▸ all_ints ns
abbrev n_Rows_lessened : List Str := ["self", "values", "numbers", "prime", "at", "row", "parts", "factor", "power", "here", "there"]
theorem sc_Rows_lessened : FnScope n_Rows_lessened ["self", "values", "numbers"] (defScope s_Rows_lessened) := ⟨rfl, rfl, rfl, by decide +kernel, rfl, by decide +kernel, by decide +kernel⟩
theorem bd_Rows_lessened : BindB "lessened" "Rows.lessened" s_Rows_lessened ["self", "values", "numbers"] := fun _ _ _ _ _ _ us hl => match us, hl with | [_, _, _], _ => rfl

def sp_Rows_lessened (K : PySem.W.Frag) : Sp := fun vs H Q E => ∃ (p n : Nat) (P : List Pt) (rs : List Row) (ar : Addr) (ds : List Addr) (v : List Int) (N : Poly) (dn : Addr) (Hb : Hp) (a1 a2 : V), Shape p n ∧ P.length ≤ 1000 ∧ (∀ r ∈ rs, RowOk p n P r) ∧ NumOk p n N ∧ ValOk p P v (vsum N) ∧ vs = [a1, a2, .ref dn] ∧ Hb dn = none ∧ Ext Hb H ∧ roR K p n P rs ar ds a1 Hb ∧ H dn = some (DT (iV N)) ∧ nlR [dn] (v.map IsI) a2 H ∧
  ∀ a vl H', Ext Hb H' → TEx H H' → H' a = some (.tup [vl, .ref dn]) → nlR [dn] ((lessR p rs (v, N)).1.map IsI) vl H' → H' dn = some (DT (iV (lessR p rs (v, N)).2)) → Q (.ref a) H'
abbrev G_Rows_lessened (P : Program) (w : World) (K : PySem.W.Frag) (mg : Str → Option Value) (base : Heap) : Prop := GMt P w K mg base (He.ga K "Rows") "lessened" 1 ["self", "values", "numbers"] (sp_Rows_lessened K)

theorem ok_Rows_lessened (T : TopF K mg)  : G_Rows_lessened P w K mg base := by
  refine T.d_Rows_lessened.fn sc_Rows_lessened bd_Rows_lessened (fun vs H Q E h => ?len) fun f cdv A outer s H vs Q E hr h => ?walk
  case walk =>
    have hu := room1 hr
    have hu3 := room3 hr
    have hu64 := hr.units
    have hu65 := room65 hr
    refine ⟨_, (pss_cons (ps_set (i := 3) sc_Rows_lessened.nd rfl (Or.inr rfl) (k_fld (K := K) rfl (k_fld (K := K) rfl (pv 0) rfl) rfl))
      (pss_cons (ps_for PassesOwn.never rfl (k_piL (K := K) rfl (k_fld (K := K) rfl (pv 0) rfl)) (pg_tup rfl (pgs_cons (pg_name (i := 4) sc_Rows_lessened.nd rfl (Or.inl rfl)) (pgs_cons (pg_name (i := 5) sc_Rows_lessened.nd rfl (Or.inl rfl)) (pgs_cons (pg_name (i := 6) sc_Rows_lessened.nd rfl (Or.inl rfl)) pgs_nil))))
      (pss_cons (ps_set (i := 7) sc_Rows_lessened.nd rfl (Or.inr rfl) (pe_ix (k_ixL (K := K) rfl) (pv 1) (pv 4) (fun _ _ => rfl)))
      (pss_one (ps_if (pt_cmpR op_ne (pv 7) pe_int (nomark _)) (pss_cons (ps_setLc (i := 1) (own := [("here", 9), ("there", 10)]) (g := (gTup K 2 (gCons (gName 9) (gCons (gName 10) gNil)))) (by rfl) sc_Rows_lessened.nd rfl rfl (sw_true rfl rfl rfl (by decide +kernel)) (k_zipA (K := K) rfl (by rfl) T.b_zip (pa_cons (pv 1) (pa_cons (pv 5) pa_nil))) (blkOk_by (own := [("here", 9), ("there", 10)]) (N := n_Rows_lessened) (sc := defScope s_Rows_lessened) (by decide +kernel)) (fun _ _ _ _ _ => (pg_tup rfl (pgs_cons (pg_name (i := 9) sc_Rows_lessened.nd rfl (Or.inl rfl)) (pgs_cons (pg_name (i := 10) sc_Rows_lessened.nd rfl (Or.inl rfl)) pgs_nil)))) (fun _ _ _ _ _ => pts_nil) (fun _ _ _ _ _ => (pe_op op_mod (pe_op op_sub (pv 9) (pe_op op_mul (pv 7) (pv 10))) (pv 3))))
      (pss_one (ps_lock (ps_for PassesOwn.never rfl (pi_keys (pv 6)) (pg_name (i := 8) sc_Rows_lessened.nd rfl (Or.inl rfl))
      (pss_one (ps_dput hu (pv 2) (pv 8) (pe_op op_mod (pe_op op_sub (pe_dget2 hu (pv 2) (pv 8) pe_int ⟨rfl, rfl, rfl, rfl⟩) (pe_op op_mul (pv 7) (pe_dget hu (pv 6) (pv 8) (fun _ _ => rfl)))) (pv 3)) rfl)))))) pss_nil))))
      (pss_one (ps_ret (pe_tup (pa_cons (pv 1) (pa_cons (pv 2) pa_nil))))))), ?_⟩
    obtain ⟨p, n, P, rs, ar, ds, v, N, dn, Hb, a1, a2, S, hP, hrs, hN, hv, rfl, hdn, eb, hro, hd, hvl, k⟩ := h
    have hp := S.p
    have hst : ∀ i, NumOk p n (lessR p (rs.take i) (v, N)).2 ∧ ValOk p P (lessR p (rs.take i) (v, N)).1 (vsum (lessR p (rs.take i) (v, N)).2) := fun i => by
      have q := (lessR_ok (p := p) (n := n) (P := P) (by omega) (rs := rs.take i) (s := (v, N)) (S := fun _ => True) hN hv (fun r hr => hrs r (List.mem_of_mem_take hr)) (fun _ _ => trivial)).1
      exact ⟨q.nums, q.vals⟩
    obtain ⟨ws, hws, _, _, vs0, vp0, i1, i2, i3, i4⟩ := id hro
    have hrows : All (rs.map rowR) ws Hb := i4.up (Ext.del Hb ds)
    have hne : ar ≠ dn := fun e => by rw [e, hdn] at hws; cases hws
    refine sq (s_set (ev_prime T (ev_roSpace T (ev_var rfl (Mono.up eb hro)))) fun u H1 e1 ru => ?_)
    obtain rfl : u = .int p := ru
    dsimp only [List.set]
    refine sq (s_forX (ds := [dn]) (xs := rs) (A := rowB Hb) (srcX_list (Ev.imp (ev_roRows T (ev_var rfl (Mono.up (eb.trans e1) hro))) fun u H2 e2 ru => by
        obtain rfl : u = .ref ar := ru
        exact ⟨⟨ar, ws, rfl, (eb.trans (e1.trans e2)).at hws, all_rowB hrows⟩, fun a ha => by cases ha; rw [List.mem_singleton]; exact hne⟩))
      (fun i σ' H' => ∃ vl w4 w5 w6 w7 w8 w9 w10, σ' = [some a1, some vl, some (.ref dn), some (.int p), w4, w5, w6, w7, w8, w9, w10] ∧ Ext Hb H' ∧ TEx H H' ∧ nlR [dn] ((lessR p (rs.take i) (v, N)).1.map IsI) vl H' ∧ H' dn = some (DT (iV (lessR p (rs.take i) (v, N)).2)))
      (fun H2 e2 => ?_) (fun H2 i r x σ' H3 H4 hr e2 e3 t3 pv e4 hx => ?_) fun H2 σ' H3 e2 e3 t3 pv => ?_)
    · exact ⟨a2, none, none, none, none, none, none, none, rfl, eb.trans (e1.trans e2), (e1.trans e2).t, by rw [List.take_zero]; exact Mono.up (e1.trans e2) hvl, by rw [List.take_zero]; exact e2.at (e1.at hd)⟩
    · obtain ⟨vl, w4, w5, w6, w7, w8, w9, w10, rfl, q1, q2, q3, q4⟩ := pv
      have hR := hrs r (List.mem_of_getElem? hr)
      obtain ⟨hn0, hv0⟩ := hst i
      have hstep := lessR_take (p := p) (s := (v, N)) hr
      generalize hs : lessR p (rs.take i) (v, N) = s at hn0 hv0 q3 q4 hstep
      have u1 := q1.trans e4
      have u2 := q2.trans e4.t
      have u3 : nlR [dn] (s.1.map IsI) vl H4 := Mono.up e4 q3
      have u4 := e4.at q4
      have ed := e3.trans e4
      have td := t3.trans e4.t
      clear q1 q2 q3 q4 e3 t3 e4
      have hx' : rowR r x Hb := hx
      refine g_tripleB hx' u1 fun b1 b2 b3 z1 z2 z3 => ?_
      obtain rfl : b1 = .int ((r.beg : Nat) : Int) := z1
      obtain ⟨dp, rfl, hdp⟩ := z3
      have hdpn : dp ≠ dn := fun e => by rw [e, hdn] at hdp; cases hdp
      have hbl : r.beg < s.1.length := by rw [hv0.len]; exact hR.beg
      have hsb : s.1[r.beg]? = some (s.1[r.beg]?.getD 0) := by rw [List.getElem?_eq_getElem hbl]; rfl
      have hfr := hv0.num _ (List.mem_of_getElem? hsb)
      dsimp only [List.set]
      refine sq (s_set (R := IsI (s.1[r.beg]?.getD 0)) (ev_ixL (n := r.beg) (ev_var rfl u3.1) (ev_is rfl) (at_map hsb)) fun u H5 e5 ru => ?_)
      obtain rfl : u = .int (s.1[r.beg]?.getD 0) := ru
      have hls : lessStep p s r = if s.1[r.beg]?.getD 0 ≠ 0 then (subV p (s.1[r.beg]?.getD 0) s.1 r.row, subK p (s.1[r.beg]?.getD 0) s.2 r.parts) else s := rfl
      generalize hf : s.1[r.beg]?.getD 0 = f at hfr hls ⊢
      dsimp only [List.set]
      refine s_if (b := !decide (f = 0)) (EvT.to (et_test (ev_neS (ev_is rfl) ev_c rfl)) (by rw [Bool.eq_iff_iff]; simp)) (fun hc H6 e6 => ?_) fun hc H6 e6 => s_next ?_
      · have hc' : f ≠ 0 := by simpa using hc
        rw [if_pos hc'] at hls
        have e6' := e5.trans e6
        refine sq (s_setN (EvN.cast (ev_lc2v (C := IsI) (val := fun t : Int × Int => (t.1 - f * t.2) % (p : Int)) (xs := s.1.zip r.row) (A := fun t => tupR [IsI t.1, IsI t.2]) (srcD_zipL (K := K) (xs := s.1) (ys := r.row) (A := IsI) (B := IsI) (ea_cons (ev_var rfl (Mono.up e6' u3).1) (ea_cons (ev_var rfl (Mono.up (u1.trans e6') z2)) ea_nil))) (by rw [List.length_zip, hv0.len, sizeLine_eq]; omega) fun t y H7 ht e7 ry => g_pair ry fun y1 y2 k1 k2 => ⟨rfl, rfl, ?_⟩) (Rs' := (subV p f s.1 r.row).map IsI) rfl) fun pr vr H7 hpr e7 h7 r7 => ?_)
        · obtain rfl : y1 = .int t.1 := k1
          obtain rfl : y2 = .int t.2 := k2
          exact ev_mod (ev_I0 (ev_is rfl) (ev_mul (ev_is rfl) (ev_is rfl) (.inl ⟨by omega, by omega⟩))) (ev_is rfl) (by omega)
        · have e7' := e6'.trans e7
          have hd7 := e7'.at u4
          have hdp7 := (u1.trans e7').at hdp
          have hnl : nlR [dn] ((subV p f s.1 r.row).map IsI) (.ref pr) H7 := ⟨⟨pr, vr, rfl, h7, r7⟩, fun a ha hm => by
            cases ha
            rw [List.mem_singleton.mp hm] at hpr
            rw [e6'.at u4] at hpr
            cases hpr⟩
          have hpl : PlainsAt H7 [dn] := plains1 hd7 trivial
          have ebd : Ext Hb (delS H7 [dn]) := (u1.trans e7').toDel hpl fun d hd => by rw [List.mem_singleton.mp hd]; exact hdn
          have edd : Ext (delS H2 [dn]) (delS H7 [dn]) := (ed.trans e7').toDel hpl fun d hd => delS_in hd
          dsimp only [List.set]
          refine s_lockX (kvs := iV r.parts) (ds := [dn]) rfl hdp7 hpl (by rw [List.mem_singleton]; exact hdpn) (fun i σ' H' => ∃ w8, σ' = [some a1, some (.ref pr), some (.ref dn), some (.int p), some (.int ((r.beg : Nat) : Int)), some b2, some (.ref dp), some (.int f), w8, w9, w10] ∧ H' dn = some (DT (iV (subK p f s.2 (r.parts.take i)))))
            (fun od H8 e8 => ?_) (fun od H8 i a y σ' H9 H10 rt bk ha e8 e9 t9 pv e10 hlk hy => ?_) fun σ' H8 ex tx pv => ?_
          · refine ⟨w8, rfl, ?_⟩
            rw [List.take_zero]
            exact e8.at (by rw [upd_ne (fun e => hdpn e.symm)]; exact hd7)
          · obtain ⟨w8', rfl, hd9⟩ := pv
            obtain ⟨t, ht, rfl⟩ : ∃ t, r.parts[i]? = some t ∧ (t.1, V.int t.2) = a := by
              rw [List.getElem?_map] at ha
              exact Option.map_eq_some_iff.mp ha
            have hd10 := e10.at hd9
            have htm := List.mem_of_getElem? ht
            have htr := hR.nums.num t htm
            have hsk := (subK_ok (p := p) (n := n) (by omega) f (r.parts.take i) hn0 (fun k hk => hR.nums.inn k (by
              obtain ⟨t', ht', rfl⟩ := List.mem_map.mp hk
              exact List.mem_map.mpr ⟨t', List.mem_of_mem_take ht', rfl⟩))).1
            have hlen := keysI_len hsk.nd hsk.inn S
            refine s_dput (R := IsI ((getI (subK p f s.2 (r.parts.take i)) t.1 - f * t.2) % p)) hd10 (ev_mod (ev_I0 (Ev.to (ev_dget2 (kvs := iV (subK p f s.2 (r.parts.take i))) (k := t.1) (v := .int 0) (ev_var rfl ⟨dn, rfl, hd10⟩) (ev_var rfl hy) ev_c) (get_iV _ _)) (ev_mul (ev_is rfl) (ev_dgetF (d := dp) (kvs := iV r.parts) (ev_var rfl ⟨rfl, od, hlk⟩) (ev_var rfl hy) (valV_mem hR.nums.nd htm)) (.inl ⟨by omega, by omega⟩))) (ev_is rfl) (by omega)) (ev_is rfl) (ev_var rfl hy) (by rw [List.length_map, sizeLine_eq]; omega) fun u H11 e11 ru => ?_
            obtain rfl : u = .int ((getI (subK p f s.2 (r.parts.take i)) t.1 - f * t.2) % p) := ru
            rw [put_iV, ← subK_take ht]
            have h11 := e11.at hd10
            exact ⟨((e9.trans (e10.trans e11))).mut (delS_in (List.mem_singleton.mpr rfl)) h11 trivial, (t9.trans (e10.trans e11).t).trans (TEx.upd h11 trivial), _, rfl, upd_same⟩
          · obtain ⟨w8', rfl, hd8⟩ := pv
            rw [List.length_map, List.take_length] at hd8
            refine ⟨edd.trans ex, td.trans (e7'.t.trans tx), .ref pr, _, _, _, _, _, _, _, rfl, ebd.trans ex, u2.trans (e7'.t.trans tx), ?_, ?_⟩
            · rw [hstep, hls]
              exact ⟨Mono.up ex (hnl.1.del hpl hnl.2), hnl.2⟩
            · rw [hstep, hls, upd_ne (fun e => hdpn e.symm)]
              exact hd8
      · have hc' : f = 0 := by simpa using hc
        rw [if_neg (fun h => h hc')] at hls
        have e6' := e5.trans e6
        exact ⟨ed.trans e6', td.trans e6'.t, vl, _, _, _, _, _, _, _, rfl, u1.trans e6', u2.trans e6'.t, by rw [hstep, hls]; exact Mono.up e6' u3, by rw [hstep, hls]; exact e6'.at u4⟩
    · obtain ⟨vl, w4, w5, w6, w7, w8, w9, w10, rfl, q1, q2, q3, q4⟩ := pv
      rw [List.take_length] at q3 q4
      dsimp only
      refine s_ret (ev_tup (Rs := [Is vl, Is (.ref dn)]) (ea_cons (ev_is rfl) (ea_cons (ev_is rfl) ea_nil)) (by show 2 ≤ _; decide)) fun u H4 e4 ru => ?_
      obtain ⟨a, us, rfl, ha, hall⟩ := ru
      obtain ⟨y1, y2, rfl, hy1, hy2⟩ := All.l2 hall
      rw [show y1 = vl from hy1, show y2 = .ref dn from hy2] at ha
      exact k a vl H4 (q1.trans e4) (q2.trans e4.t) ha (Mono.up e4 q3) (e4.at q4)
  case len => obtain ⟨p, n, P, rs, ar, ds, v, N, dn, Hb, a1, a2, S, hP, hrs, hN, hv, rfl, _⟩ := h; rfl
end SP
end
section
set_option Elab.async false
set_option linter.all false
set_option maxRecDepth 100000
set_option maxHeartbeats 4000000
namespace SP
open PySem PyProof.Rows L2
variable {P : Program} {w : World} {K : PySem.W.Frag} {mg : Str → Option Value} {base : Heap}
section
variable {α : Type} {K : PySem.W.Frag} {σ : L2.St} {H H2 Hb : Hp} {a : Addr} {vs : List V} {xs : List α} {A : α → RS}
theorem srcG_enumL [m : ∀ x, TMono (A x)] (hp : Hb a = some (.lst vs)) (r : All (xs.map A) vs H2) : SrcG (Ite K a) Hb H2 (numb xs) (fun p => tupR [IsI ((p.1 : Nat) : Int), A p.2]) := by
  unfold SrcG
  have hn : (numb xs).length = vs.length := by rw [List.length_zip, List.length_range, Nat.min_self, all_len r]
  rw [hn]
  refine walk_enum.mono (fun H' q => SqL.of (q.1.at hp)) fun i H' x H'' _ q y => ?_
  obtain ⟨T, u, w, rfl, hT, rfl, e0, e1⟩ := y
  cases e0
  obtain ⟨p, p1, p2⟩ := all_at (r.upT q.2) e1
  obtain ⟨e, z⟩ := pair_of (Rx := IsI ((i : Nat) : Int)) hT rfl p2
  exact ⟨e, (i, p), numb_at p1, z⟩
theorem srcD_enumL {ta : TA} [m : ∀ x, TMono (A x)] (h : EvA ta σ H [lstR (xs.map A)]) : SrcD (iEnum K ta) σ H (numb xs) (fun p => tupR [IsI ((p.1 : Nat) : Int), A p.2]) := fun H1 e R k =>
  h H1 e _ fun us H2 e2 r => by
    obtain ⟨v, rfl, a, vs, rfl, h1, q1⟩ := All.l1 r
    exact ⟨a, vs, rfl, SqL.of h1, k _ H2 e2 (srcG_enumL (Hb := H2) h1 q1)⟩
end
def ndR (ds : List Addr) (kvs : List (Pt × V)) : RS := fun v H => dR kvs v H ∧ ∀ a, v = .ref a → a ∉ ds
instance {ds : List Addr} {kvs : List (Pt × V)} : Mono (ndR ds kvs) := ⟨fun e h => ⟨Mono.up e h.1, h.2⟩⟩
theorem EvD.nd {te : TE} {σ : L2.St} {H : Hp} {kvs : List (Pt × V)} {ds : List Addr} (h : EvD te σ H kvs) (hd : ∀ d ∈ ds, H d ≠ none) : Ev te σ H (ndR ds kvs) := fun H1 e Q q =>
  h H1 e _ fun p H2 hp e2 h2 => q _ H2 e2 ⟨⟨p, rfl, h2⟩, fun a ha hm => by
    cases ha
    exact hd p hm (e.free p hp)⟩
theorem EvD.cast {te : TE} {σ : L2.St} {H : Hp} {k1 k2 : List (Pt × V)} (h : EvD te σ H k1) (e : k1 = k2) : EvD te σ H k2 := e ▸ h
theorem er_scale {p n : Nat} {N : Poly} (h : NumOk p n N) (c : Int) : putL ((N.filter fun _ => true).map fun t => (t.1, V.int (t.2 * c % (p : Int)))) = iV (N.map fun t => (t.1, t.2 * c % (p : Int))) := by
  rw [List.filter_eq_self.mpr (fun _ _ => rfl)]
  have e1 : (N.map fun t => (t.1, V.int (t.2 * c % (p : Int)))) = iV (N.map fun t => (t.1, t.2 * c % (p : Int))) := by unfold iV; rw [List.map_map]; rfl
  rw [e1]
  refine putL_nodup ?_
  rw [keys_iV]
  show ((N.map _).map _).Nodup
  rw [List.map_map]
  exact h.nd
abbrev n_Rows_keep : List Str := ["self", "values", "numbers", "prime", "at", "factor", "row", "k", "number", "power"]
theorem sc_Rows_keep : FnScope n_Rows_keep ["self", "values", "numbers"] (defScope s_Rows_keep) := ⟨rfl, rfl, rfl, by decide +kernel, rfl, by decide +kernel, by decide +kernel⟩
theorem bd_Rows_keep : BindB "keep" "Rows.keep" s_Rows_keep ["self", "values", "numbers"] := fun _ _ _ _ _ _ us hl => match us, hl with | [_, _, _], _ => rfl

def sp_Rows_keep (K : PySem.W.Frag) : Sp := fun vs H Q E => ∃ (p n : Nat) (P : List Pt) (rs : List Row) (ar : Addr) (ds : List Addr) (s : List Int × Poly) (dn : Addr) (a1 a2 : V), Shape p n ∧ P.length ≤ 1000 ∧ rs.length ≤ 1000 ∧ NumOk p n s.2 ∧ ValOk p P s.1 (vsum s.2) ∧ s.1.any (· != 0) = true ∧ vs = [a1, a2, .ref dn] ∧ roR K p n P rs ar ds a1 H ∧ H dn = some (DT (iV s.2)) ∧ lstR (s.1.map IsI) a2 H ∧
  ∀ ws u H1, Ext H H1 → H1 ar = some (.lst ws) → rowR (keepR p s) u (delS H1 ds) → Q .non (upd H1 ar (.lst (ws ++ [u])))
abbrev G_Rows_keep (P : Program) (w : World) (K : PySem.W.Frag) (mg : Str → Option Value) (base : Heap) : Prop := GMt P w K mg base (He.ga K "Rows") "keep" 3 ["self", "values", "numbers"] (sp_Rows_keep K)

theorem ok_Rows_keep (T : TopF K mg) (g_inverse : G_inverse P w K mg base) : G_Rows_keep P w K mg base := by
  refine T.d_Rows_keep.fn sc_Rows_keep bd_Rows_keep (fun vs H Q E h => ?len) fun f cdv A outer s H vs Q E hr h => ?walk
  case walk =>
    have hu := room1 hr
    have hu3 := room3 hr
    have hu64 := hr.units
    have hu65 := room65 hr
    refine ⟨_, (pss_cons (ps_set (i := 3) sc_Rows_keep.nd rfl (Or.inr rfl) (k_fld (K := K) rfl (k_fld (K := K) rfl (pv 0) rfl) rfl))
      (pss_cons (ps_set (i := 4) sc_Rows_keep.nd rfl (Or.inl rfl) (pe_ix (k_ixL (K := K) rfl) (pe_lc (own := [("k", 7), ("number", 8)]) (g := (gTup K 2 (gCons (gName 7) (gCons (gName 8) gNil)))) (by rfl) sc_Rows_keep.nd (k_enum (K := K) rfl (by rfl) T.b_enumerate (pa_cons (pv 1) pa_nil)) (blkOk_by (own := [("k", 7), ("number", 8)]) (N := n_Rows_keep) (sc := defScope s_Rows_keep) (by decide +kernel)) (fun _ _ _ _ _ => (pg_tup rfl (pgs_cons (pg_name (i := 7) sc_Rows_keep.nd rfl (Or.inl rfl)) (pgs_cons (pg_name (i := 8) sc_Rows_keep.nd rfl (Or.inl rfl)) pgs_nil)))) (fun _ _ _ _ _ => (pts_one (pt_cmpR op_ne (pv 8) pe_int (nomark _)))) (fun _ _ _ _ _ => (pv 7))) pe_int (fun _ _ => rfl)))
      (pss_cons (ps_set (i := 5) sc_Rows_keep.nd rfl (Or.inr rfl) (pe_fn g_inverse hr (by decide) (by rfl) (pa_cons (pv 3) (pa_cons (pe_ix (k_ixL (K := K) rfl) (pv 1) (pv 4) (fun _ _ => rfl)) pa_nil))))
      (pss_cons (ps_setLc (i := 6) (own := [("number", 8)]) (g := (gName 8)) (by rfl) sc_Rows_keep.nd rfl rfl (sw_true rfl rfl rfl (by decide +kernel)) (k_piL (K := K) rfl (pv 1)) (blkOk_by (own := [("number", 8)]) (N := n_Rows_keep) (sc := defScope s_Rows_keep) (by decide +kernel)) (fun _ _ _ _ _ => (pg_name (i := 8) sc_Rows_keep.nd rfl (Or.inl rfl))) (fun _ _ _ _ _ => pts_nil) (fun _ _ _ _ _ => (pe_op op_mod (pe_op op_mul (pv 8) (pv 5)) (pv 3))))
      (pss_one (ps_expr (pe_bm PySem.F.plainAttrs_list PySem.F.slot_list_append PySem.F.type_list_append mt_append (k_fld (K := K) rfl (pv 0) rfl) (pa_cons (pe_tup (pa_cons (pv 4) (pa_cons (pv 6) (pa_cons (pe_lock (pe_dcT (own := [("power", 9), ("number", 8)]) (g := (gTup K 2 (gCons (gName 9) (gCons (gName 8) gNil)))) hu (by rfl) sc_Rows_keep.nd (pi_itemsT (pv 2)) (blkOk_by (own := [("power", 9), ("number", 8)]) (N := n_Rows_keep) (sc := defScope s_Rows_keep) (by decide +kernel)) (fun _ _ _ _ _ => (pg_tup rfl (pgs_cons (pg_name (i := 9) sc_Rows_keep.nd rfl (Or.inl rfl)) (pgs_cons (pg_name (i := 8) sc_Rows_keep.nd rfl (Or.inl rfl)) pgs_nil)))) (fun _ _ _ _ _ => pts_nil) (fun _ _ _ _ _ => (pv 9)) (fun _ _ _ _ _ => (pe_op op_mod (pe_op op_mul (pv 8) (pv 5)) (pv 3))))) pa_nil)))) pa_nil)))))))), ?_⟩
    obtain ⟨p, n, P, rs, ar, ds, s, dn, a1, a2, S, hP, hrl, hN, hV, hany, rfl, hro, hd, hvl, k⟩ := h
    have hp := S.p
    obtain ⟨hb0, hbl, hbn⟩ := begOf_ok hany
    obtain ⟨b, hbv⟩ : ∃ b, s.1[begOf s.1]? = some b := ⟨_, List.getElem?_eq_getElem hbl⟩
    have hbr := hV.num b (List.mem_of_getElem? hbv)
    have hsl := hV.len
    have hinv : invOf p s.1 = b ^ (p - 2) % p := by unfold invOf; rw [hbv]; rfl
    have hir : 0 ≤ invOf p s.1 ∧ invOf p s.1 < p := by rw [hinv]; exact ⟨Int.emod_nonneg _ (by omega), Int.emod_lt_of_pos _ (by omega)⟩
    obtain ⟨ws, hws, har, hpl0, hrest⟩ := id hro
    refine sq (s_set (ev_prime T (ev_roSpace T (ev_var rfl hro))) fun u H1 e1 ru => ?_)
    obtain rfl : u = .int p := ru
    dsimp only [List.set]
    refine sq (s_set (R := IsI ((begOf s.1 : Nat) : Int)) (ev_ixL (n := 0) (EvN.ev (EvN.cast (ev_lc (f := fun t : Nat × Int => decide (t.2 ≠ 0)) (B := fun t : Nat × Int => IsI ((t.1 : Nat) : Int)) (xs := numb s.1) (A := fun t => tupR [IsI ((t.1 : Nat) : Int), IsI t.2]) (srcD_enumL (K := K) (xs := s.1) (A := IsI) (ea_cons (ev_var rfl (Mono.up e1 hvl)) ea_nil)) (by rw [List.length_zip, List.length_range, Nat.min_self, hsl, sizeLine_eq]; omega) fun t y H2 ht e2 ry => g_pair ry fun y1 y2 z1 z2 => ⟨rfl, rfl, ?_, fun _ => ?_⟩) (Rs' := (begL s.1).map fun i : Nat => IsI ((i : Nat) : Int)) ?_)) ev_c (at_map hb0)) fun u H2 e2 ru => ?_)
    · obtain rfl : y2 = .int t.2 := z2
      exact EvT.to (et_test (ev_neS (ev_is rfl) ev_c rfl)) (by rw [Bool.eq_iff_iff]; simp)
    · exact ev_var rfl z1
    · unfold begL
      rw [List.map_map]
      rfl
    obtain rfl : u = .int ((begOf s.1 : Nat) : Int) := ru
    have e12 := e1.trans e2
    dsimp only [List.set]
    refine sq (s_set (R := IsI (invOf p s.1)) (Ev.to (ev_call (R := IsI (b ^ (p - 2) % p)) (ea_cons (ev_is rfl) (ea_cons (ev_ixL (n := begOf s.1) (R := IsI b) (ev_var rfl (Mono.up e12 hvl)) (ev_is rfl) (at_map hbv)) ea_nil)) fun vs H1 Q E h => ⟨p, b, by omega, by omega, h⟩) (by rw [hinv])) fun u H3 e3 ru => ?_)
    obtain rfl : u = .int (invOf p s.1) := ru
    have e13 := e12.trans e3
    dsimp only [List.set]
    refine sq (s_setN (ev_lc2v (C := IsI) (val := fun a : Int => a * invOf p s.1 % (p : Int)) (xs := s.1) (A := IsI) (srcD_list (ev_var rfl (Mono.up e13 hvl))) (by rw [hsl, sizeLine_eq]; omega) fun a y H4 ha e4 ry => ⟨rfl, rfl, ?_⟩) fun pr vr H4 hpr e4 h4 r4 => ?_)
    · obtain rfl : y = .int a := ry
      have har := hV.num a ha
      exact ev_mod (ev_mul (ev_is rfl) (ev_is rfl) (.inl ⟨by omega, by omega⟩)) (ev_is rfl) (by omega)
    have e14 := e13.trans e4
    have hws4 := e14.at hws
    have hd4 := e14.at hd
    have hpl3 := hpl0.up e13
    have hpl4 := hpl0.up e14
    have hnl : nlR ds (((s.1.map fun a => a * invOf p s.1 % (p : Int))).map IsI) (.ref pr) H4 := ⟨⟨pr, vr, rfl, h4, r4⟩, fun a ha hm => by
      cases ha
      obtain ⟨u, hu, _⟩ := hpl3 pr hm
      rw [hu] at hpr
      cases hpr⟩
    have hwl : ws.length = rs.length := by
      obtain ⟨_, _, _, _, _, h5⟩ := hrest
      rw [h5.length, List.length_map]
    dsimp only [List.set]
    refine s_app (R := fun u H1 => rowR (keepR p s) u (delS H1 ds)) hws4 (ev_roRows T (ev_var rfl (Mono.up e14 hro))) ?_ (by rw [hwl, sizeLine_eq]; omega) fun u H5 e5 ru => k ws u H5 (e14.trans e5) (e5.at hws4) ru
    have hN' := hN
    refine Ev.imp (ev_tup (Rs := [IsI ((begOf s.1 : Nat) : Int), nlR ds (((s.1.map fun a => a * invOf p s.1 % (p : Int))).map IsI), ndR ds (iV (s.2.map fun t => (t.1, t.2 * invOf p s.1 % (p : Int))))]) (ea_cons (ev_is rfl) (ea_cons (ev_var rfl hnl) (ea_cons (EvD.nd (ev_lockD (kvs := iV s.2) ⟨dn, hd4, fun H5 e5 o => ?_⟩) (fun d hd => by obtain ⟨u, hu, _⟩ := hpl4 d hd; rw [hu]; intro h; cases h)) ea_nil))) (by show 3 ≤ _; decide)) fun u H5 e5 ru => ?_
    · refine EvD.cast (ev_dcT (f := fun _ => true) (key := fun t : Pt × Int => t.1) (val := fun t : Pt × Int => V.int (t.2 * invOf p s.1 % (p : Int))) (xs := s.2) (srcD_map (g := fun t : Pt × Int => (t.1, V.int t.2)) (srcD_itemsT (ev_is rfl) upd_same)) (by have := keysI_len hN.nd hN.inn S; rw [sizeLine_eq]; omega) fun t v H2 ht e2 rv => ?_) (er_scale hN _)
      refine g_pair rv fun u1 u2 q1 q2 => ⟨rfl, rfl, et_yes, fun _ => ⟨ev_var rfl q1, ?_⟩⟩
      obtain rfl : u2 = .int t.2 := q2
      have htr := hN.num t ht
      exact ev_mod (ev_mul (ev_is rfl) (ev_is rfl) (.inl ⟨by omega, by omega⟩)) (ev_is rfl) (by omega)
    · obtain ⟨a, us, rfl, ha, hall⟩ := ru
      obtain ⟨y1, y2, y3, rfl, h1, h2, h3⟩ := All.l3 hall
      have hpl : PlainsAt H5 ds := hpl4.up e5
      refine ⟨a, [y1, y2, y3], rfl, ?_, .cons h1 (.cons (h2.1.del hpl h2.2) (.cons ?_ .nil))⟩
      · exact TEx.del hpl a _ trivial ha
      · obtain ⟨⟨d', rfl, hd'⟩, hn'⟩ := h3
        exact ⟨d', rfl, by rw [delS_out (hn' d' rfl)]; exact hd'⟩
  case len => obtain ⟨p, n, P, rs, ar, ds, s, dn, a1, a2, S, hP, hrl, hN, hV, hany, rfl, _⟩ := h; rfl
end SP
end
section
set_option Elab.async false
set_option linter.all false
set_option maxRecDepth 100000
set_option maxHeartbeats 4000000
namespace SP
open PySem PyProof.Rows L2
variable {P : Program} {w : World} {K : PySem.W.Frag} {mg : Str → Option Value} {base : Heap}
theorem mt_raw {C : Addr} {m : Str} {sp : Sp} {E : XK} {ta : TE} {t : TA} {σ : L2.St} {H : Hp} {Ra : RS} {Rs : List RS} [mm : Mono Ra] {Q : VK} (ha : Ev ta σ H Ra) (hi : ∀ x H1, Ra x H1 → ∃ a dx fs, x = .ref a ∧ H1 a = some (.ins C dx fs) ∧ fs.lookup m = none) (ht : EvA t σ H Rs)
    (hs : ∀ x vs H1, Ext H H1 → Ra x H1 → All Rs vs H1 → sp (x :: vs) H1 Q E) : tMeth C m sp [] E ta t σ H Q :=
  ha H (Ext.refl _) _ fun x H2 e2 rx => by
    obtain ⟨a, dx, fs, h1, h2, h3⟩ := hi x H2 rx
    refine ⟨a, dx, fs, h1, h2, h3, ht H2 e2 _ fun vs H3 e3 rs => ?_⟩
    rw [List.append_nil]
    exact hs x vs H3 (e2.trans e3) (mm.up e3 rx) rs
def newD (H4 : Hp) (kvs : List (Pt × V)) : RS := fun v H' => ∃ d, v = .ref d ∧ H4 d = none ∧ H' d = some (DT kvs)
instance {H4 : Hp} {kvs : List (Pt × V)} : Mono (newD H4 kvs) := ⟨fun e h => by
  obtain ⟨a, h1, h2, h3⟩ := h
  exact ⟨a, h1, h2, e.at h3⟩⟩
theorem ev_newD {te : TE} {σ : L2.St} {H : Hp} {kvs : List (Pt × V)} (h : EvD te σ H kvs) : Ev te σ H (newD H kvs) := fun H1 e Q q =>
  h H1 e _ fun p H2 hp e2 h2 => q _ H2 e2 ⟨p, rfl, e.free p hp, h2⟩
abbrev n_Rows_take : List Str := ["self", "power", "values", "numbers", "point"]
theorem sc_Rows_take : FnScope n_Rows_take ["self", "power"] (defScope s_Rows_take) := ⟨rfl, rfl, rfl, by decide +kernel, rfl, by decide +kernel, by decide +kernel⟩
theorem bd_Rows_take : BindB "take" "Rows.take" s_Rows_take ["self", "power"] := fun _ _ _ _ _ _ us hl => match us, hl with | [_, _], _ => rfl

def sp_Rows_take (K : PySem.W.Frag) : Sp := fun vs H Q E => ∃ (p n : Nat) (P don : List Pt) (w : WS) (ar : Addr) (ds : List Addr) (m : Pt) (a1 a2 : V), Shape p n ∧ P.length ≤ 1000 ∧ (∀ x ∈ P, inSp p n x) ∧ w.rs.length ≤ 1000 ∧ WInv p n P don w ∧ inSp p n m ∧ vs = [a1, a2] ∧ roR K p n P w.rs ar ds a1 H ∧ ptR m a2 H ∧
  ((takeS p P w.rs m).1.any (· != 0) = true → ∀ ws u H1, Ext H H1 → H1 ar = some (.lst ws) → rowR (keepR p (takeS p P w.rs m)) u (delS H1 ds) → Q .non (upd H1 ar (.lst (ws ++ [u])))) ∧
  ((takeS p P w.rs m).1.any (· != 0) = false → ∀ v H1, Ext H H1 → polyR p n (vsum (takeS p P w.rs m).2) v H1 → Q v H1)
abbrev G_Rows_take (P : Program) (w : World) (K : PySem.W.Frag) (mg : Str → Option Value) (base : Heap) : Prop := GMt P w K mg base (He.ga K "Rows") "take" 4 ["self", "power"] (sp_Rows_take K)

theorem ok_Rows_take (T : TopF K mg) (g_Rows_keep : G_Rows_keep P w K mg base) (g_Rows_lessened : G_Rows_lessened P w K mg base) (g_from_numbers : G_from_numbers P w K mg base) (g_value_of : G_value_of P w K mg base) : G_Rows_take P w K mg base := by
  refine T.d_Rows_take.fn sc_Rows_take bd_Rows_take (fun vs H Q E h => ?len) fun f cdv A outer s H vs Q E hr h => ?walk
  case walk =>
    have hu := room1 hr
    have hu3 := room3 hr
    have hu64 := hr.units
    have hu65 := room65 hr
    refine ⟨_, (pss_cons (ps_setLc (i := 2) (own := [("point", 4)]) (g := (gName 4)) (by rfl) sc_Rows_take.nd rfl rfl (sw_true rfl rfl rfl (by decide +kernel)) (k_piL (K := K) rfl (k_fld (K := K) rfl (pv 0) rfl)) (blkOk_by (own := [("point", 4)]) (N := n_Rows_take) (sc := defScope s_Rows_take) (by decide +kernel)) (fun _ _ _ _ _ => (pg_name (i := 4) sc_Rows_take.nd rfl (Or.inl rfl))) (fun _ _ _ _ _ => pts_nil) (fun _ _ _ _ _ => (pe_fn g_value_of hr (by decide) (by rfl) (pa_cons (k_fld (K := K) rfl (pv 0) rfl) (pa_cons (pv 1) (pa_cons (pv 4) pa_nil))))))
      (pss_cons (ps_asg (pe_mt (pv 0) T.c_Rows g_Rows_lessened hr (by decide) (pa_cons (pv 2) (pa_cons (pe_disp1T hu (pv 1) pe_int) pa_nil))) (pg_tup rfl (pgs_cons (pg_name (i := 2) sc_Rows_take.nd rfl (Or.inl rfl)) (pgs_cons (pg_name (i := 3) sc_Rows_take.nd rfl (Or.inl rfl)) pgs_nil))))
      (pss_cons (ps_if (pt_val (pe_callB (k_anyI (K := K) rfl rfl) (by rfl) T.b_any (by decide +kernel) (pa_cons (pv 2) pa_nil))) (pss_cons (ps_expr (pe_mt (pv 0) T.c_Rows g_Rows_keep hr (by decide) (pa_cons (pv 2) (pa_cons (pv 3) pa_nil))))
      (pss_one (ps_ret pe_non))) pss_nil)
      (pss_one (ps_ret (pe_fn g_from_numbers hr (by decide) (by rfl) (pa_cons (k_fld (K := K) rfl (pv 0) rfl) (pa_cons (pv 3) pa_nil)))))))), ?_⟩
    obtain ⟨p, n, P, don, w, ar, ds, m, a1, a2, S, hP, hPi, hwl, I, hm, rfl, hro, hpm, k1, k2⟩ := h
    have hp := S.p
    obtain ⟨q1, q2, q3, q4⟩ := takeS_ok (P := P) (by omega) I hm
    have hN0 : NumOk p n ([(m, 1)] : Poly) := ⟨List.nodup_cons.mpr ⟨List.not_mem_nil, List.nodup_nil⟩, fun k hk => by rw [List.mem_singleton.mp hk]; exact hm, fun t ht => by rw [List.mem_singleton.mp ht]; exact ⟨by show (0 : Int) ≤ 1; decide, by show (1 : Int) < p; omega⟩⟩
    have hV0 : ValOk p P (P.map fun x => mon m x % (p : Int)) (vsum [(m, 1)]) := ⟨List.length_map .., fun a ha => by
      obtain ⟨x, _, rfl⟩ := List.mem_map.mp ha
      exact ⟨Int.emod_nonneg _ (by omega), Int.emod_lt_of_pos _ (by omega)⟩, fun j x hx => by
      rw [List.getElem?_map, hx, vsum_cons, vsum_nil, Int.one_mul, Int.add_zero]
      exact Cg.mod _⟩
    refine sq (s_setN (ev_lc2v (C := IsI) (val := fun x : Pt => mon m x % (p : Int)) (xs := P) (A := ptR) (srcD_list (ev_roPoints T (ev_var rfl hro))) (by rw [sizeLine_eq]; omega) fun x y H1 hx e1 ry => ⟨rfl, rfl, ev_call (ea_cons (ev_roSpace T (ev_var rfl (Mono.up e1 hro))) (ea_cons (ev_var rfl (TMono.up e1.t hpm)) (ea_cons (ev_var rfl ry) ea_nil))) fun vs H1 Q E h => ⟨p, n, m, x, S, hm, hPi x hx, h⟩⟩) fun pv vr H1 hpv e1 h1 r1 => ?_)
    have hl1 : lstR ((P.map fun x => mon m x % (p : Int)).map IsI) (.ref pv) H1 := ⟨pv, vr, rfl, h1, r1⟩
    have hro1 : roR K p n P w.rs ar ds a1 H1 := Mono.up e1 hro
    dsimp only [List.set]
    refine sq (?_ : tAsg _ _ _ _ _)
    show tMeth _ _ _ _ _ _ _ _ _ _
    refine mt_raw (Ra := fun v H => v = a1 ∧ roR K p n P w.rs ar ds v H) (mm := ⟨fun e h => ⟨h.1, Mono.up e h.2⟩⟩) (fun H2 e2 Q q => (ev_is (v := a1) rfl) H2 e2 Q fun v H3 e3 rv => q v H3 e3 ⟨rv, (show v = a1 from rv) ▸ Mono.up (e2.trans e3) hro1⟩) (fun x H2 r => ro_ins r.2 fun vs vp vr => rfl) (Rs := [Is (.ref pv), newD H1 [(m, .int 1)]]) (ea_cons (ev_is rfl) (ea_cons (ev_newD (ev_disp1T (ev_var rfl (TMono.up e1.t hpm)) ev_c)) ea_nil)) fun x vs H2 e2 rx rvs => ?_
    obtain ⟨rfl, hro2⟩ := rx
    obtain ⟨_, _, rfl, rfl, dn, rfl, hdn, hd⟩ := All.l2 rvs
    refine ⟨p, n, P, w.rs, ar, ds, P.map fun x => mon m x % (p : Int), [(m, 1)], dn, H1, x, .ref pv, S, hP, fun r hr => (I.rows r hr).1, hN0, hV0, rfl, hdn, e2, hro1, hd, ⟨Mono.up e2 hl1, fun a ha hm => ?_⟩, fun a vl H3 e3 t3 ha hvl hd3 => ?_⟩
    · cases ha
      rw [List.mem_singleton.mp hm, hdn] at h1
      cases h1
    · have hu := e1.trans e3
      have hT : tupR [Is vl, Is (.ref dn)] (.ref a) H3 := ⟨a, _, rfl, ha, .cons rfl (.cons rfl .nil)⟩
      refine g_pair hT fun y1 y2 z1 z2 => ?_
      obtain rfl : y1 = vl := z1
      obtain rfl : y2 = .ref dn := z2
      have hro3 : roR K p n P w.rs ar ds x H3 := Mono.up e3 hro1
      show tSeq _ _ _ _ _
      refine sq (s_if (EvT.to (et_test (ev_anyI (ns := (takeS p P w.rs m).1) (ea_cons (ev_var rfl hvl.1) ea_nil))) rfl) (fun hc H4 e4 => ?_) fun hc H4 e4 => s_next ?_)
      · refine sq ?_
        show tMeth _ _ _ _ _ _ _ _ _ _
        refine mt_raw (Ra := roR K p n P w.rs ar ds) (ev_var rfl (Mono.up e4 hro3)) (fun x H2 r => ro_ins r fun vs vp vr => rfl) (Rs := [lstR ((takeS p P w.rs m).1.map IsI), Is (.ref dn)]) (ea_cons (ev_var rfl (Mono.up e4 hvl).1) (ea_cons (ev_is rfl) ea_nil)) fun x' vs H5 e5 rx rvs => ?_
        obtain ⟨c1, _, rfl, hc1, rfl⟩ := All.l2 rvs
        refine ⟨p, n, P, w.rs, ar, ds, takeS p P w.rs m, dn, x', c1, S, hP, hwl, q1.nums, q1.vals, hc, rfl, rx, e5.at (e4.at hd3), hc1, fun ws u H6 e6 h6 r6 => ?_⟩
        exact k1 hc ws u H6 (hu.trans (e4.trans (e5.trans e6))) h6 r6
      · exact s_ret (ev_call (R := polyY p n (vsum (takeS p P w.rs m).2)) (ea_cons (ev_roSpace T (ev_var rfl (Mono.up e4 hro3))) (ea_cons (ev_var rfl (R := dR (iV (takeS p P w.rs m).2)) ⟨dn, rfl, e4.at hd3⟩) ea_nil)) fun vs H1 Q E h => ⟨p, n, (takeS p P w.rs m).2, S, q1.nums.nd, q1.nums.inn, h⟩) fun v H5 e5 rv => k2 hc v H5 (hu.trans (e4.trans e5)) rv.r
  case len => obtain ⟨p, n, P, don, w, ar, ds, m, a1, a2, S, hP, hPi, hwl, I, hm, rfl, _⟩ := h; rfl
end SP
end
section
set_option Elab.async false
set_option linter.all false
set_option maxRecDepth 100000
set_option maxHeartbeats 4000000
namespace SP
open PySem PyProof.Rows L2
variable {P : Program} {w : World} {K : PySem.W.Frag} {mg : Str → Option Value} {base : Heap}
theorem walkM_take {p : Nat} {P L : List Pt} {i : Nat} {m : Pt} (h : L[i]? = some m) : walkM p P (L.take (i + 1)) = wStep p P (walkM p P (L.take i)) m := by
  unfold walkM
  rw [take_at h, List.foldl_append]
  rfl
theorem walkM_len {p : Nat} {P : List Pt} : ∀ i (L : List Pt), i ≤ L.length → (walkM p P (L.take i)).rs.length + (walkM p P (L.take i)).fs.length ≤ i
  | 0, L, _ => by rw [List.take_zero]; exact Nat.le_refl _
  | i + 1, L, h => by
    have ih := walkM_len (p := p) (P := P) i L (by omega)
    rw [walkM_take (List.getElem?_eq_getElem (show i < L.length by omega))]
    unfold wStep
    split
    · omega
    · split
      · simp only [List.length_append, List.length_cons, List.length_nil]; omega
      · simp only [List.length_append, List.length_cons, List.length_nil]; omega
abbrev anyR : RS := fun _ _ => True
instance : TMono anyR := ⟨fun _ h => h⟩
abbrev fsR (p n : Nat) (fs : List (Pt × Poly)) : List RS := fs.map fun t => polyR p n (vsum t.2)
abbrev n_walk : List Str := ["space", "points", "order", "rows", "kept", "found", "leads", "power", "one", "lead"]
theorem sc_walk : FnScope n_walk ["space", "points", "order"] (defScope s_walk) := ⟨rfl, rfl, rfl, by decide +kernel, rfl, by decide +kernel, by decide +kernel⟩
theorem bd_walk : BindB "walk" "walk" s_walk ["space", "points", "order"] := fun _ _ _ _ _ _ us hl => match us, hl with | [_, _, _], _ => rfl

def sp_walk (K : PySem.W.Frag) : Sp := fun vs H Q E => ∃ (p n : Nat) (P : List Pt), Shape p n ∧ P.length ≤ 1000 ∧ (∀ x ∈ P, inSp p n x) ∧ SpR [spR K p n, lstR (P.map ptR), Is (.str "degree")] (tupR [anyR, lstR (fsR p n (walkM p P (degSort (pts p n))).fs), anyR]) vs H Q E
abbrev G_walk (P : Program) (w : World) (K : PySem.W.Frag) (mg : Str → Option Value) (base : Heap) : Prop := GFn P w K mg base "walk" 8 ["space", "points", "order"] (sp_walk K)

theorem ok_walk (T : TopF K mg) (g_Rows_take : G_Rows_take P w K mg base) (g_Space_powers : G_Space_powers P w K mg base) (g_divides : G_divides P w K mg base) (g_mk_Rows : G_mk_Rows P w K mg base) : G_walk P w K mg base := by
  refine T.d_walk.fn sc_walk bd_walk (fun vs H Q E h => ?len) fun f cdv A outer s H vs Q E hr h => ?walk
  case walk =>
    have hu := room1 hr
    have hu3 := room3 hr
    have hu64 := hr.units
    have hu65 := room65 hr
    refine ⟨_, (pss_cons (ps_set (i := 3) sc_walk.nd rfl (Or.inl rfl) (pe_mk g_mk_Rows hr (by decide) (by rfl) (pa_cons (pv 0) (pa_cons (pv 1) pa_nil))))
      (pss_cons (ps_set (i := 4) sc_walk.nd rfl (Or.inl rfl) (pe_lst pa_nil))
      (pss_cons (ps_set (i := 5) sc_walk.nd rfl (Or.inl rfl) (pe_lst pa_nil))
      (pss_cons (ps_set (i := 6) sc_walk.nd rfl (Or.inl rfl) (pe_lst pa_nil))
      (pss_cons (ps_for PassesOwn.never rfl (k_piL (K := K) rfl (pe_mt (pv 0) T.c_Space g_Space_powers hr (by decide) (pa_cons (pv 2) pa_nil))) (pg_name (i := 7) sc_walk.nd rfl (Or.inr rfl))
      (pss_one (ps_if (pt_not (pt_val (pe_callB (k_any (K := K) rfl rfl) (by rfl) T.b_any (by decide +kernel) (pa_cons (pe_lc (own := [("lead", 9)]) (g := (gName 9)) (by rfl) sc_walk.nd (k_piL (K := K) rfl (pv 6)) (blkOk_by (own := [("lead", 9)]) (N := n_walk) (sc := defScope s_walk) (by decide +kernel)) (fun _ _ _ _ _ => (pg_name (i := 9) sc_walk.nd rfl (Or.inl rfl))) (fun _ _ _ _ _ => pts_nil) (fun _ _ _ _ _ => (pe_fn g_divides hr (by decide) (by rfl) (pa_cons (pv 9) (pa_cons (pv 7) pa_nil))))) pa_nil)))) (pss_cons (ps_set (i := 8) sc_walk.nd rfl (Or.inl rfl) (pe_mt (pv 3) T.c_Rows g_Rows_take hr (by decide) (pa_cons (pv 7) pa_nil)))
      (pss_one (ps_if (pt_cmpR op_isN (pv 8) pe_non (nomark _)) (pss_one (ps_expr (pe_bm PySem.F.plainAttrs_list PySem.F.slot_list_append PySem.F.type_list_append mt_append (pv 4) (pa_cons (pv 7) pa_nil)))) (pss_cons (ps_expr (pe_bm PySem.F.plainAttrs_list PySem.F.slot_list_append PySem.F.type_list_append mt_append (pv 5) (pa_cons (pv 8) pa_nil)))
      (pss_one (ps_expr (pe_bm PySem.F.plainAttrs_list PySem.F.slot_list_append PySem.F.type_list_append mt_append (pv 6) (pa_cons (pv 7) pa_nil)))))))) pss_nil)))
      (pss_one (ps_ret (pe_tup (pa_cons (pv 4) (pa_cons (pv 5) (pa_cons (pv 3) pa_nil))))))))))), ?_⟩
    obtain ⟨p, n, P, S, hP, hPi, r, k⟩ := h
    obtain ⟨a1, a2, _, rfl, r1, r2, rfl⟩ := All.l3 r
    have hp := S.p
    have hLl : (degSort (pts p n)).length ≤ 27 := by rw [(degSort_perm _).length_eq]; exact S.pts
    have hstr := deg_strict (pts_nodup p n)
    have hmem : ∀ m, m ∈ degSort (pts p n) → inSp p n m := fun m hm => mem_pts.mp ((degSort_perm (pts p n)).mem_iff.mp hm)
    generalize hL : degSort (pts p n) = L at hLl hstr hmem k
    have hI : ∀ i, WInv p n P (L.take i) (walkM p P (L.take i)) := fun i => by
      have q := walk_inv (p := p) (n := n) (P := P) S.pr (L := L.take i) (don := []) (w := ⟨[], []⟩) ⟨(fun r hr => nomatch hr), .nil, (fun t ht => nomatch ht), (fun m hm => nomatch hm)⟩ (by rw [List.nil_append]; exact hstr.sublist (List.take_sublist i L)) (fun m hm => hmem m (List.mem_of_mem_take (by rwa [List.nil_append] at hm)))
      exact q
    have hwl := fun i (hi : i ≤ L.length) => walkM_len (p := p) (P := P) i L hi
    refine sq (s_set (ev_mkF (ea_cons (ev_var rfl r1) (ea_cons (ev_var rfl r2) ea_nil)) fun vs H1 Q E h => ⟨p, n, P, h⟩) fun x H1 e1 rx => ?_)
    obtain ⟨Hb, eHb, ar, har, hro⟩ := rx
    have har0 : H ar = none := eHb.free ar har
    dsimp only [List.set]
    refine sq (s_setN (ev_lst ea_nil (by show 0 ≤ _; decide)) fun pk vk H2 hpk e2 h2 rk => ?_)
    obtain rfl := All.l0 rk
    have hro2 := hro.more hpk e2 h2 trivial
    dsimp only [List.set]
    refine sq (s_setN (ev_lst ea_nil (by show 0 ≤ _; decide)) fun pf vf H3 hpf e3 h3 rf => ?_)
    obtain rfl := All.l0 rf
    have hro3 := hro2.more hpf e3 h3 trivial
    dsimp only [List.set]
    refine sq (s_setN (ev_lst ea_nil (by show 0 ≤ _; decide)) fun pl vl H4 hpl e4 h4 rl => ?_)
    obtain rfl := All.l0 rl
    have hro4 := hro3.more hpl e4 h4 trivial
    have nar : ∀ {d : Addr} {H' : Hp}, Ext H1 H' → H' d = none → d ≠ ar := fun e hd he => by
      obtain ⟨_, q, _⟩ := hro
      rw [he, e.at q] at hd
      cases hd
    have nk := nar (Ext.refl _) hpk
    have nf := nar e2 hpf
    have nl := nar (e2.trans e3) hpl
    have nfk : pf ≠ pk := fun e => by rw [e, h2] at hpf; cases hpf
    have nlk : pl ≠ pk := fun e => by rw [e, e3.at h2] at hpl; cases hpl
    have nlf : pl ≠ pf := fun e => by rw [e, h3] at hpl; cases hpl
    have fk : H pk = none := e1.free pk hpk
    have ff : H pf = none := (e1.trans e2).free pf hpf
    have fl : H pl = none := (e1.trans (e2.trans e3)).free pl hpl
    have e14 := e1.trans (e2.trans (e3.trans e4))
    have hpls : PlainsAt H4 [pl, pf, pk, ar] := by obtain ⟨_, _, _, q, _⟩ := hro4; exact q
    dsimp only [List.set]
    refine sq (s_forX (ds := [pl, pf, pk, ar]) (xs := L) (A := ptR) (srcX_list (EvN.nl (EvN.cast (ev_methN (ev_var rfl (Mono.up e14 r1)) (fun x H1 r => sp_ins r fun nm => rfl) (ea_cons (ev_is rfl) ea_nil) fun vs H1 Q E h => ⟨p, n, S, h⟩) (by rw [hL])) (fun d hd => by obtain ⟨u, q, _⟩ := hpls d hd; rw [q]; intro h; cases h)))
      (fun i σ' H0 => ∃ v7 v8 v9 ks fvs lvs, σ' = [some a1, some a2, some (.str "degree"), some x, some (.ref pk), some (.ref pf), some (.ref pl), v7, v8, v9] ∧ Ext H H0 ∧ roR K p n P (walkM p P (L.take i)).rs ar [pl, pf, pk, ar] x H0 ∧ H0 pk = some (.lst ks) ∧ ks.length ≤ i ∧ H0 pf = some (.lst fvs) ∧ All (fsR p n (walkM p P (L.take i)).fs) fvs H0 ∧ H0 pl = some (.lst lvs) ∧ All ((walkM p P (L.take i)).fs.map fun t => ptR t.1) lvs H0)
      (fun H5 e5 => ?_) (fun H5 i m vm σ' H6 H7 hm e5 e6 t6 pv e7 hvm => ?_) fun H5 σ' H6 e5 e6 t6 pv => ?_)
    · refine ⟨none, none, none, [], [], [], rfl, e14.trans e5, ?_, e5.at (e4.at (e3.at h2)), Nat.le_refl _, e5.at (e4.at h3), ?_, e5.at h4, ?_⟩
      · rw [List.take_zero]; exact Mono.up e5 hro4
      · rw [List.take_zero]; exact .nil
      · rw [List.take_zero]; exact .nil
    · obtain ⟨v7, v8, v9, ks, fvs, lvs, rfl, q1, q2, q3, q4, q5, q6, q7, q8⟩ := pv
      have hil : i < L.length := (List.getElem?_eq_some_iff.mp hm).1
      have hmi := hmem m (List.mem_of_getElem? hm)
      have hw := hwl i (by omega)
      have I := hI i
      rw [show walkM p P (L.take (i + 1)) = wStep p P (walkM p P (L.take i)) m from walkM_take hm]
      generalize walkM p P (L.take i) = w at q2 q6 q8 hw I ⊢
      have u1 := q1.trans e7
      have u2 := Mono.up e7 q2
      have u3 := e7.at q3
      have u5 := e7.at q5
      have u6 : All (fsR p n w.fs) fvs H7 := All.up e7 q6
      have u7 := e7.at q7
      have u8 : All (w.fs.map fun t => ptR t.1) lvs H7 := All.up e7 q8
      have ed := e6.trans e7
      have td := t6.trans e7.t
      have mk : pk ∈ [pl, pf, pk, ar] := by simp
      have mf : pf ∈ [pl, pf, pk, ar] := by simp
      have ml : pl ∈ [pl, pf, pk, ar] := by simp
      have mr : ar ∈ [pl, pf, pk, ar] := by simp
      dsimp only [List.set]
      refine s_if (b := !(w.fs.any fun t => divB t.1 m)) (EvT.to (et_not (et_test (ev_any (bs := w.fs.map fun t => divB t.1 m) (ea_cons (EvN.ev (ev_lc2v (C := IsB) (val := fun t : Pt × Poly => divB t.1 m) (xs := w.fs) (A := fun t => ptR t.1) (srcD_list (ev_var (R := lstR (w.fs.map fun t => ptR t.1)) rfl ⟨pl, lvs, rfl, u7, u8⟩)) (by rw [sizeLine_eq]; omega) fun t y H8 ht e8 ry => ⟨rfl, rfl, ev_call (ea_cons (ev_var rfl ry) (ea_cons (ev_var rfl (TMono.up e8.t hvm)) ea_nil)) fun vs H1 Q E h => ⟨t.1, m, by have := (I.fs t ht).inn.1; have := S.n; omega, h⟩⟩)) ea_nil)))) (by rw [List.any_map]; rfl)) (fun hc H8 e8 => ?_) fun hc H8 e8 => s_next ?_
      · have hc1 : ¬ (w.fs.any fun t => divB t.1 m) = true := fun h => by rw [h] at hc; cases hc
        refine sq ?_
        show tMeth _ _ _ _ _ _ _ _ _ _
        refine mt_raw (Ra := fun v H => v = x ∧ roR K p n P w.rs ar [pl, pf, pk, ar] v H) (mm := ⟨fun e h => ⟨h.1, Mono.up e h.2⟩⟩) (fun H2 e2 Q q => (ev_is (v := x) rfl) H2 e2 Q fun v H3 e3 rv => q v H3 e3 ⟨rv, (show v = x from rv) ▸ Mono.up (e8.trans (e2.trans e3)) u2⟩) (fun x H2 r => ro_ins r.2 fun vs vp vr => rfl) (Rs := [fun v H => v = vm ∧ ptR m v H]) (ea_cons (m := ⟨fun e h => ⟨h.1, TMono.up e.t h.2⟩⟩) (fun H2 e2 Q q => (ev_is (v := vm) rfl) H2 e2 Q fun v H3 e3 rv => q v H3 e3 ⟨rv, (show v = vm from rv) ▸ TMono.up (e8.trans (e2.trans e3)).t hvm⟩) ea_nil) fun x' vs H9 e9 rx rvs => ?_
        obtain ⟨rfl, hro9⟩ := rx
        obtain ⟨vm', rfl, rfl, hvm9⟩ := All.l1 rvs
        have e79 := e8.trans e9
        refine ⟨p, n, P, L.take i, w, ar, [pl, pf, pk, ar], m, x', vm', S, hP, hPi, by omega, I, hmi, rfl, hro9, hvm9, fun ha ws u H10 e10 hws hu => ?_, fun ha v H10 e10 rv => ?_⟩
        · have hstep : wStep p P w m = ⟨w.rs ++ [keepR p (takeS p P w.rs m)], w.fs⟩ := by unfold wStep; rw [if_neg hc1, if_pos ha]
          have e710 := e79.trans e10
          have hroP := (Mono.up e10 hro9).push hws hu
          have hH : H ar = none := har0
          have ex : Ext H (upd H10 ar (.lst (ws ++ [u]))) := (u1.trans e710).mut hH hws trivial
          have exd : Ext (delS H5 [pl, pf, pk, ar]) (upd H10 ar (.lst (ws ++ [u]))) := (ed.trans e710).mut (delS_in mr) hws trivial
          have ext : TEx H5 (upd H10 ar (.lst (ws ++ [u]))) := (td.trans e710.t).trans (TEx.upd hws trivial)
          have ext7 : TEx H7 (upd H10 ar (.lst (ws ++ [u]))) := e710.t.trans (TEx.upd hws trivial)
          have w3 : (upd H10 ar (.lst (ws ++ [u]))) pk = some (.lst ks) := by rw [upd_ne nk]; exact e710.at u3
          have w5 : (upd H10 ar (.lst (ws ++ [u]))) pf = some (.lst fvs) := by rw [upd_ne nf]; exact e710.at u5
          have w7 : (upd H10 ar (.lst (ws ++ [u]))) pl = some (.lst lvs) := by rw [upd_ne nl]; exact e710.at u7
          generalize upd H10 ar (.lst (ws ++ [u])) = H11 at hroP ex exd ext ext7 w3 w5 w7
          dsimp only [gName, List.set]
          refine s_if (b := true) (EvT.to (et_test (ev_isN (v := .non) (ev_is rfl))) rfl) (fun _ H12 e12 => ?_) fun hb => by cases hb
          refine s_app (R := anyR) (e12.at w3) (ev_is rfl) (Ev.imp (ev_is (v := vm') rfl) fun _ _ _ _ => trivial) (by rw [sizeLine_eq]; omega) fun y H13 e13 _ => ?_
          have e1113 := e12.trans e13
          have h13 := e1113.at w3
          refine ⟨(exd.trans e1113).mut (delS_in mk) h13 trivial, (ext.trans e1113.t).trans (TEx.upd h13 trivial), some vm', some .non, v9, ks ++ [y], fvs, lvs, rfl, (ex.trans e1113).mut fk h13 trivial, ?_, upd_same, by rw [List.length_append]; show _ + 1 ≤ _; omega, by rw [upd_ne nfk]; exact e1113.at w5, ?_, by rw [upd_ne nlk]; exact e1113.at w7, ?_⟩
          · rw [hstep]; exact (Mono.up e1113 hroP).upd mk nk trivial
          · rw [hstep]; exact All.upT ((ext7.trans e1113.t).trans (TEx.upd h13 trivial)) u6
          · rw [hstep]; exact All.upT ((ext7.trans e1113.t).trans (TEx.upd h13 trivial)) u8
        · have hstep : wStep p P w m = ⟨w.rs, w.fs ++ [(m, (takeS p P w.rs m).2)]⟩ := by unfold wStep; rw [if_neg hc1, if_neg (by rw [ha]; decide)]
          have e710 := e79.trans e10
          dsimp only [gName, List.set]
          have hvn : decide (v = V.non) = false := by
            obtain ⟨f, _, _, a, _, rfl, _⟩ := rv
            rfl
          refine s_if (b := false) (EvT.to (et_test (ev_isN (v := v) (ev_is rfl))) hvn) (fun hb => by cases hb) fun _ H12 e12 => ?_
          have rv12 : polyR p n (vsum (takeS p P w.rs m).2) v H12 := TMono.up e12.t rv
          have e712 := e710.trans e12
          refine sq (s_app (R := polyR p n (vsum (takeS p P w.rs m).2)) (e712.at u5) (ev_is rfl) (ev_var rfl rv12) (by rw [u6.length, List.length_map, sizeLine_eq]; omega) fun y H13 e13 ry => ?_)
          have e713 := e712.trans e13
          have h13 := e713.at u5
          have t13 : TEx H13 (upd H13 pf (.lst (fvs ++ [y]))) := TEx.upd h13 trivial
          have ex : Ext H (upd H13 pf (.lst (fvs ++ [y]))) := (u1.trans e713).mut ff h13 trivial
          have exd : Ext (delS H5 [pl, pf, pk, ar]) (upd H13 pf (.lst (fvs ++ [y]))) := (ed.trans e713).mut (delS_in mf) h13 trivial
          have ext7 : TEx H7 (upd H13 pf (.lst (fvs ++ [y]))) := e713.t.trans t13
          have w2 := (Mono.up e713 u2).upd (o := .lst (fvs ++ [y])) mf nf trivial
          have w3 : (upd H13 pf (.lst (fvs ++ [y]))) pk = some (.lst ks) := by rw [upd_ne (fun e => nfk e.symm)]; exact e713.at u3
          have w5 : (upd H13 pf (.lst (fvs ++ [y]))) pf = some (.lst (fvs ++ [y])) := upd_same
          have w7 : (upd H13 pf (.lst (fvs ++ [y]))) pl = some (.lst lvs) := by rw [upd_ne nlf]; exact e713.at u7
          have ry' := TMono.up t13 ry
          generalize upd H13 pf (.lst (fvs ++ [y])) = H14 at ex exd ext7 w2 w3 w5 w7 ry'
          refine s_app (R := ptR m) w7 (ev_is rfl) (ev_var rfl (TMono.up ext7 hvm)) (by rw [u8.length, List.length_map, sizeLine_eq]; omega) fun z H15 e15 rz => ?_
          have h15 := e15.at w7
          have t15 : TEx H15 (upd H15 pl (.lst (lvs ++ [z]))) := TEx.upd h15 trivial
          have all7 : TEx H7 (upd H15 pl (.lst (lvs ++ [z]))) := ext7.trans (e15.t.trans t15)
          refine ⟨(exd.trans e15).mut (delS_in ml) h15 trivial, td.trans all7, _, some v, v9, ks, fvs ++ [y], lvs ++ [z], rfl, (ex.trans e15).mut fl h15 trivial, ?_, by rw [upd_ne (fun e => nlk e.symm)]; exact e15.at w3, by omega, by rw [upd_ne (fun e => nlf e.symm)]; exact e15.at w5, ?_, upd_same, ?_⟩
          · rw [hstep]; exact (Mono.up e15 w2).upd ml nl trivial
          · rw [hstep]
            show All ((w.fs ++ [_]).map _) _ _
            rw [List.map_append]
            exact (All.upT all7 u6).snoc (TMono.up (e15.t.trans t15) ry')
          · rw [hstep]
            show All ((w.fs ++ [_]).map _) _ _
            rw [List.map_append]
            exact (All.upT all7 u8).snoc (TMono.up t15 rz)
      · have hc1 : (w.fs.any fun t => divB t.1 m) = true := by simpa using hc
        have hstep : wStep p P w m = w := by unfold wStep; rw [if_pos hc1]
        rw [hstep]
        exact ⟨ed.trans e8, td.trans e8.t, some vm, v8, v9, ks, fvs, lvs, rfl, u1.trans e8, Mono.up e8 u2, e8.at u3, by omega, e8.at u5, All.up e8 u6, e8.at u7, All.up e8 u8⟩
    · obtain ⟨v7, v8, v9, ks, fvs, lvs, rfl, q1, q2, q3, q4, q5, q6, q7, q8⟩ := pv
      rw [List.take_length] at q6
      dsimp only
      exact s_ret (ev_tup (Rs := [anyR, lstR (fsR p n (walkM p P L).fs), anyR]) (ea_cons (Ev.imp (ev_is (v := .ref pk) rfl) fun _ _ _ _ => trivial) (ea_cons (ev_var rfl ⟨pf, fvs, rfl, q5, q6⟩) (ea_cons (Ev.imp (ev_is (v := x) rfl) fun _ _ _ _ => trivial) ea_nil))) (by show 3 ≤ _; decide)) fun u H7 e7 ru => k u H7 (q1.trans e7) ru
  case len => obtain ⟨p, n, P, _, _, _, r, _⟩ := h; exact r.length
abbrev n_basis : List Str := ["space", "points", "order"]
theorem sc_basis : FnScope n_basis ["space", "points", "order"] (defScope s_basis) := ⟨rfl, rfl, rfl, by decide +kernel, rfl, by decide +kernel, by decide +kernel⟩
theorem bd_basis : BindB "basis" "basis" s_basis ["space", "points", "order"] := fun _ _ _ _ _ _ us hl => match us, hl with | [_, _, _], _ => rfl

def basF (p n : Nat) (P : List Pt) : List (Pt → Int) := (walkM p P (degSort (pts p n))).fs.map fun t => vsum t.2
def sp_basis (K : PySem.W.Frag) : Sp := fun vs H Q E => ∃ (p n : Nat) (P : List Pt), Shape p n ∧ P.length ≤ 1000 ∧ (∀ x ∈ P, inSp p n x) ∧ SpR [spR K p n, lstR (P.map ptR), Is (.str "degree")] (lstR ((basF p n P).map (polyR p n))) vs H Q E
abbrev G_basis (P : Program) (w : World) (K : PySem.W.Frag) (mg : Str → Option Value) (base : Heap) : Prop := GFn P w K mg base "basis" 9 ["space", "points", "order"] (sp_basis K)

theorem ok_basis (T : TopF K mg) (g_walk : G_walk P w K mg base) : G_basis P w K mg base := by
  refine T.d_basis.fn sc_basis bd_basis (fun vs H Q E h => ?len) fun f cdv A outer s H vs Q E hr h => ?walk
  case walk =>
    have hu := room1 hr
    have hu3 := room3 hr
    have hu64 := hr.units
    have hu65 := room65 hr
    refine ⟨_, (pss_one (ps_ret (pe_ix (k_ixT (K := K) rfl) (pe_fn g_walk hr (by decide) (by rfl) (pa_cons (pv 0) (pa_cons (pv 1) (pa_cons (pv 2) pa_nil)))) pe_int (fun _ _ => rfl)))), ?_⟩
    obtain ⟨p, n, P, S, hP, hPi, r, k⟩ := h
    obtain ⟨a1, a2, _, rfl, r1, r2, rfl⟩ := All.l3 r
    refine s_ret (ev_ixTM (n := 1) (R := lstR (fsR p n (walkM p P (degSort (pts p n))).fs)) (ev_call (ea_cons (ev_var rfl r1) (ea_cons (ev_var rfl r2) (ea_cons (ev_is rfl) ea_nil))) fun vs H1 Q E h => ⟨p, n, P, S, hP, hPi, h⟩) ev_c rfl) fun v H1 e1 rv => k v H1 e1 ?_
    unfold basF
    rw [List.map_map]
    exact rv
  case len => obtain ⟨p, n, P, _, _, _, r, _⟩ := h; exact r.length
end SP
end
section
set_option Elab.async false
set_option linter.all false
set_option maxRecDepth 100000
namespace SP
open PySem L2
abbrev Node := Pt × Option Pt × Nat
def Reach (f : Pt → Pt) (S : List Pt) : Nat → Pt → Prop
  | 0, x => x ∈ S
  | j + 1, x => ∃ y, Reach f S j y ∧ f y = x
abbrev keysN (ns : List Node) : List Pt := ns.map (·.1)
structure NInv (f : Pt → Pt) (S : List Pt) (D : List Pt) (c : Nat) (ns : List Node) : Prop where
  nd : (keysN ns).Nodup
  inn : ∀ x ∈ keysN ns, x ∈ D
  par : ∀ t ∈ ns, (t.2.1 = none ∧ t.2.2 = 0 ∧ t.1 ∈ S) ∨ ∃ q, t.2.1 = some q.1 ∧ q ∈ ns ∧ t.2.2 = q.2.2 + 1 ∧ f q.1 = t.1
  ord : ns.Pairwise fun s t => s.2.2 ≤ t.2.2
  lev : ∀ t ∈ ns, t.2.2 ≤ c
  rea : ∀ t ∈ ns, Reach f S t.2.2 t.1
  all : ∀ j x, j ≤ c → Reach f S j x → ∃ t ∈ ns, t.1 = x ∧ t.2.2 ≤ j
def atLev (c : Nat) (ns : List Node) : List Pt := (ns.filter fun t => decide (t.2.2 = c)).map (·.1)
section
variable {f : Pt → Pt} {S D : List Pt} {c : Nat} {ns : List Node}
theorem node_uniq (nd : (keysN ns).Nodup) {s t : Node} (hs : s ∈ ns) (ht : t ∈ ns) (e : s.1 = t.1) : s = t := by
  obtain ⟨i, hi⟩ := List.getElem?_of_mem hs
  obtain ⟨j, hj⟩ := List.getElem?_of_mem ht
  have h1 : (keysN ns)[i]? = some s.1 := at_map hi
  have h2 : (keysN ns)[j]? = some s.1 := by rw [e]; exact at_map hj
  have := nodup_at nd h1 h2
  subst this
  rw [hi] at hj
  exact Option.some.inj hj
theorem ninv_start (hS : S.Nodup) (hD : ∀ x ∈ S, x ∈ D) : NInv f S D 0 (S.map fun x => (x, none, 0)) where
  nd := by rw [keysN, List.map_map]; exact (List.map_id S).symm ▸ hS
  inn := fun x hx => by
    rw [keysN, List.map_map] at hx
    obtain ⟨y, hy, rfl⟩ := List.mem_map.mp hx
    exact hD y hy
  par := fun t ht => by
    obtain ⟨y, hy, rfl⟩ := List.mem_map.mp ht
    exact .inl ⟨rfl, rfl, hy⟩
  ord := by
    rw [List.pairwise_map]
    exact List.Pairwise.imp (fun _ => Nat.le_refl _) hS
  lev := fun t ht => by
    obtain ⟨y, hy, rfl⟩ := List.mem_map.mp ht
    exact Nat.le_refl _
  rea := fun t ht => by
    obtain ⟨y, hy, rfl⟩ := List.mem_map.mp ht
    exact hy
  all := fun j x hj hx => by
    obtain rfl : j = 0 := by omega
    exact ⟨(x, none, 0), List.mem_map.mpr ⟨x, hx, rfl⟩, rfl, Nat.le_refl _⟩
structure NMid (f : Pt → Pt) (S D : List Pt) (c : Nat) (ns : List Node) (done : List Pt) (new : List Node) : Prop where
  nd : (keysN (ns ++ new)).Nodup
  fresh : ∀ t ∈ new, ∃ q, t.2.1 = some q.1 ∧ q ∈ ns ∧ q.2.2 = c ∧ t.2.2 = c + 1 ∧ f q.1 = t.1
  fin : ∀ x ∈ done, f x ∈ keysN (ns ++ new)
theorem mid_start (I : NInv f S D c ns) : NMid f S D c ns [] [] := ⟨by rw [List.append_nil]; exact I.nd, (fun t ht => nomatch ht), (fun x hx => nomatch hx)⟩
theorem mid_old {done : List Pt} {new : List Node} {x : Pt} (M : NMid f S D c ns done new) (h : f x ∈ keysN (ns ++ new)) : NMid f S D c ns (done ++ [x]) new :=
  ⟨M.nd, M.fresh, fun y hy => (List.mem_append.mp hy).elim (M.fin y) fun h1 => by rw [List.mem_singleton.mp h1]; exact h⟩
theorem mid_new {done : List Pt} {new : List Node} {q : Node} (M : NMid f S D c ns done new) (hq : q ∈ ns) (hc : q.2.2 = c) (h : f q.1 ∉ keysN (ns ++ new)) : NMid f S D c ns (done ++ [q.1]) (new ++ [(f q.1, some q.1, c + 1)]) where
  nd := by
    rw [← List.append_assoc, keysN, List.map_append]
    exact List.nodup_append.mpr ⟨M.nd, List.nodup_cons.mpr ⟨List.not_mem_nil, List.nodup_nil⟩, fun a ha b hb e => by rw [List.mem_singleton.mp hb] at e; exact h ((show a = f q.1 from e) ▸ ha)⟩
  fresh := fun t ht => (List.mem_append.mp ht).elim (M.fresh t) fun h1 => by rw [List.mem_singleton.mp h1]; exact ⟨q, rfl, hq, hc, rfl, rfl⟩
  fin := fun y hy => by
    rw [← List.append_assoc, keysN, List.map_append]
    rcases List.mem_append.mp hy with h1 | h1
    · exact List.mem_append_left _ (M.fin y h1)
    · rw [List.mem_singleton.mp h1]; exact List.mem_append_right _ (List.mem_singleton.mpr rfl)
theorem mid_done (hf : ∀ x ∈ D, f x ∈ D) (I : NInv f S D c ns) {new : List Node} (M : NMid f S D c ns (atLev c ns) new) : NInv f S D (c + 1) (ns ++ new) ∧ atLev (c + 1) (ns ++ new) = keysN new := by
  refine ⟨⟨M.nd, fun x hx => ?_, fun t ht => ?_, ?_, fun t ht => ?_, fun t ht => ?_, fun j x hj hx => ?_⟩, ?_⟩
  · obtain ⟨t, ht, rfl⟩ := List.mem_map.mp hx
    rcases List.mem_append.mp ht with h | h
    · exact I.inn _ (List.mem_map.mpr ⟨t, h, rfl⟩)
    · obtain ⟨q, _, h2, _, _, h5⟩ := M.fresh t h
      rw [← h5]
      exact hf _ (I.inn _ (List.mem_map.mpr ⟨q, h2, rfl⟩))
  · rcases List.mem_append.mp ht with h | h
    · exact (I.par t h).imp id fun ⟨q, h1, h2, h3⟩ => ⟨q, h1, List.mem_append_left _ h2, h3⟩
    · obtain ⟨q, h1, h2, h3, h4, h5⟩ := M.fresh t h
      exact .inr ⟨q, h1, List.mem_append_left _ h2, by rw [h4, h3], h5⟩
  · refine List.pairwise_append.mpr ⟨I.ord, ?_, fun s hs t ht => ?_⟩
    · refine List.pairwise_of_forall_mem_list fun s hs t ht => ?_
      obtain ⟨_, _, _, _, h4, _⟩ := M.fresh s hs
      obtain ⟨_, _, _, _, h5, _⟩ := M.fresh t ht
      rw [h4, h5]; exact Nat.le_refl _
    · obtain ⟨_, _, _, _, h5, _⟩ := M.fresh t ht
      have := I.lev s hs
      omega
  · rcases List.mem_append.mp ht with h | h
    · have := I.lev t h; omega
    · obtain ⟨_, _, _, _, h5, _⟩ := M.fresh t h; omega
  · rcases List.mem_append.mp ht with h | h
    · exact I.rea t h
    · obtain ⟨q, h1, h2, h3, h4, h5⟩ := M.fresh t h
      rw [h4]
      exact ⟨q.1, h3 ▸ I.rea q h2, h5⟩
  · by_cases hjc : j ≤ c
    · obtain ⟨t, h1, h2, h3⟩ := I.all j x hjc hx
      exact ⟨t, List.mem_append_left _ h1, h2, h3⟩
    · obtain rfl : j = c + 1 := by omega
      obtain ⟨y, hy, rfl⟩ := hx
      obtain ⟨t, h1, rfl, h3⟩ := I.all c y (Nat.le_refl _) hy
      by_cases hl : t.2.2 = c
      · have hm : t.1 ∈ atLev c ns := List.mem_map.mpr ⟨t, List.mem_filter.mpr ⟨h1, decide_eq_true hl⟩, rfl⟩
        obtain ⟨s, hs, e⟩ := List.mem_map.mp (M.fin _ hm)
        refine ⟨s, hs, e, ?_⟩
        rcases List.mem_append.mp hs with h | h
        · have := I.lev s h; omega
        · obtain ⟨_, _, _, _, h5, _⟩ := M.fresh s h; omega
      · obtain ⟨s, hs, e, hl2⟩ := I.all (t.2.2 + 1) (f t.1) (by omega) ⟨t.1, I.rea t h1, rfl⟩
        exact ⟨s, List.mem_append_left _ hs, e, by omega⟩
  · unfold atLev
    rw [List.filter_append, List.filter_eq_nil_iff.mpr (fun t ht => by have := I.lev t ht; simp; omega), List.nil_append, List.filter_eq_self.mpr (fun t ht => by obtain ⟨_, _, _, _, h5, _⟩ := M.fresh t ht; exact decide_eq_true h5)]
theorem ninv_end (I : NInv f S D c ns) (he : atLev c ns = []) : ∀ j x, Reach f S j x → ∃ t ∈ ns, t.1 = x ∧ t.2.2 ≤ j
  | 0, x, h => I.all 0 x (Nat.zero_le _) h
  | j + 1, x, ⟨y, hy, e⟩ => by
    obtain ⟨t, h1, h2, h3⟩ := ninv_end I he j y hy
    have hl : t.2.2 ≠ c := fun hl => by
      have : t.1 ∈ atLev c ns := List.mem_map.mpr ⟨t, List.mem_filter.mpr ⟨h1, decide_eq_true hl⟩, rfl⟩
      rw [he] at this
      cases this
    have := I.lev t h1
    obtain ⟨s, hs, e2, hl2⟩ := I.all (t.2.2 + 1) x (by omega) ⟨t.1, I.rea t h1, by rw [h2]; exact e⟩
    exact ⟨s, hs, e2, by omega⟩
end
end SP
end
section
set_option Elab.async false
set_option linter.all false
set_option maxRecDepth 100000
set_option maxHeartbeats 2000000
namespace SP
open PySem PySem.Spec PyProof.Rows L2
section
variable {X : Cx}
theorem ps_setDcT {i : Nat} {y : Str} {py : Pos} {kx vx tg iter : Expr} {ifs : List Expr} {scope : Scope} {own : List (Str × Nat)} {pos spos : Pos} {wi : TI} {g : TG} {tt : TT} {tk tv : TE} (hu : X.A.units + 1 < cLine) (hc : X.calm = true) (hN : X.N.Nodup) (hy : X.N[i]? = some y) (hyl : X.env.scope.names.lookup y = some .local)
    (hsw : swapsWith (.DictComp kx vx [⟨tg, iter, ifs, 0⟩] scope pos) (some (.Name y py)) spos.line X.env = pure true) (hi : PI X tg iter wi) (ok : BlkOk X.N X.env.scope scope own)
    (hg : ∀ (s : Shared) (H : Hp) (C : Addr) (cl : List (Str × Addr)) (fp : List Addr), PG (X.blk s H scope (compEnvC scope cl C X.env) fp) tg g) (ht : ∀ (s : Shared) (H : Hp) (C : Addr) (cl : List (Str × Addr)) (fp : List Addr), PTs (X.blk s H scope (compEnvC scope cl C X.env) fp) ifs tt)
    (hk : ∀ (s : Shared) (H : Hp) (C : Addr) (cl : List (Str × Addr)) (fp : List Addr), PE (X.blk s H scope (compEnvC scope cl C X.env) fp) kx tk)
    (he : ∀ (s : Shared) (H : Hp) (C : Addr) (cl : List (Str × Addr)) (fp : List Addr), PE (X.blk s H scope (compEnvC scope cl C X.env) fp) vx tv) (hs : ∀ x, foldedSetIterable iter X.env x = pure x := by intro _; rfl) :
    PS X (.Assign [.Name y py] (.DictComp kx vx [⟨tg, iter, ifs, 0⟩] scope pos) spos) (tAsg (tDcT wi g tt tk tv (own.map (·.2))) (gName i)) := by
  refine ⟨fun pins s σ H D I h => ?_⟩
  rw [exec_Assign_Name_used _ _ _ _ hsw]
  refine wpAny_bind (wpAny_standAt (wpAny_bind ?_))
  show wpAny _ X.A (do let _ ← comprehension (.DictComp kx vx [⟨tg, iter, ifs, 0⟩] scope pos) scope X.env (firstIterPos [⟨tg, iter, ifs, 0⟩] pos) newDict false (eval iter X.env) (some (assign (.Name y py) X.env))) _ _ s
  have h : tDcT wi g tt tk tv (own.map (·.2)) σ H (fun x H1 => gName i x σ H1 D.nx) := h
  refine wpAny_bind (thn (dcT_core (Qf := fun _ s' => SP X pins D .next s') hu hc hN I hi ok hg ht hk he hs h fun L C s' m H' I' q hn f => ?_) fun _ s' hq => wpAny_pure (wpAny_pure hq))
  show wpAny _ _ (assign (.Name y py) X.env (.ref L)) _ _ _
  refine wpAny_assign_Name (store_ok2 (v := V.ref L) I' hN hy (.inl hyl) rfl (fun s2 I2 ⟨a, sb, ha⟩ => ?_) (.inr hyl))
  obtain ⟨f0, f1, f2, f3, f4, f5⟩ := f
  have haC : C ≠ a := by
    rcases ha with z | z
    · rw [z]; exact f1
    · exact fun e => f4 y a z e.symm
  refine ⟨m, hn.sameBut sb haC, fun h3 sb3 => ?_⟩
  exact ⟨_, H', I2.turned (t' := s2.toks) (fun b o hb e => (sb3.2 b hb).trans e) f0 f1 f3 f4 f5, q⟩
theorem sw_trueD {kx vx : Expr} {gs : List Comprehension} {scope : Scope} {pos py : Pos} {y : Str} {l : Nat} {env : Env} (hk : env.scope.kind = .function) (hy : env.scope.names.lookup y = some .local) (hl : (py.line == pos.line) = true)
    (ha : (scope.names.any fun (n, k) => n == y && (k == .local || k == .cell)) = false) : swapsWith (.DictComp kx vx gs scope pos) (some (.Name y py)) l env = pure true := by
  have ky : env.kindOf y = some .local := hy
  have hb : env.blockKind = .function := by unfold Env.blockKind; rw [hk]; rfl
  unfold swapsWith
  simp only [hb, ky, ha, Expr.pos, hl]
  rfl
end
end SP
end
section
set_option Elab.async false
set_option linter.all false
set_option maxRecDepth 100000
set_option maxHeartbeats 4000000
namespace SP
open PySem PyProof.Rows L2
variable {P : Program} {w : World} {K : PySem.W.Frag} {mg : Str → Option Value} {base : Heap}
theorem s_while {c : TT} {tb : TS} {D : Ends} {σ : L2.St} {H : Hp} (Pv : Nat → L2.St → Hp → Prop) (m0 : Nat) (h0 : Pv m0 σ H)
    (hs : ∀ m σ' H', Pv m σ' H' → ∃ b, EvT c σ' H' b ∧ (b = true → ∀ H1, Ext H' H1 → tb { D with nx := fun σ2 H2 => ∃ m', m' < m ∧ Pv m' σ2 H2, ct := fun σ2 H2 => ∃ m', m' < m ∧ Pv m' σ2 H2, bk := D.nx } σ' H1) ∧ (b = false → ∀ H1, Ext H' H1 → D.nx σ' H1)) : tWhile c tb D σ H :=
  ⟨Pv, ⟨m0, h0⟩, fun m σ' H' hp => by
    obtain ⟨b, h1, h2, h3⟩ := hs m σ' H' hp
    refine h1 H' (Ext.refl _) _ fun H1 e1 => ?_
    cases b with
    | true =>
      rw [if_pos rfl]
      exact ⟨fun σ2 H2 => ∃ m', m' < m ∧ Pv m' σ2 H2, fun _ _ h => h, h2 rfl H1 e1⟩
    | false =>
      rw [if_neg (by decide)]
      exact h3 rfl H1 e1⟩
theorem et_truL {K : PySem.W.Frag} {σ : L2.St} {H : Hp} {ta : TE} {Rs : List RS} (h : Ev ta σ H (lstR Rs)) : EvT (fun σ H Q => ta σ H fun x H' => ∃ k, TruV K x H' k ∧ Q k H') σ H (!Rs.isEmpty) := fun H1 e Q q =>
  h H1 e _ fun v H2 e2 r => by
    obtain ⟨a, vs, rfl, h1, r⟩ := r
    refine ⟨_, .inl ⟨vs, SqL.of h1, rfl⟩, ?_⟩
    have hl := r.length
    have : (!vs.isEmpty) = !Rs.isEmpty := by
      cases vs <;> cases Rs <;> simp_all
    rw [this]
    exact q H2 e2
def parR : Option Pt → RS
  | none => Is .non
  | some q => ptR q
instance {o : Option Pt} : TMono (parR o) := by
  cases o with
  | none => exact (inferInstance : TMono (Is .non))
  | some q => exact (inferInstance : TMono (ptR q))
structure NdsR (ns : List Node) (kvs : List (Pt × V)) (H : Hp) : Prop where
  keys : kvs.map (·.1) = keysN ns
  vals : All (ns.map fun t => parR t.2.1) (kvs.map (·.2)) H
def cameR (ns : List Node) : RS := fun v H => ∃ d kvs, v = .ref d ∧ H d = some (DT kvs) ∧ NdsR ns kvs H
theorem NdsR.up {ns : List Node} {kvs : List (Pt × V)} {H H' : Hp} (h : NdsR ns kvs H) (e : TEx H H') : NdsR ns kvs H' := ⟨h.keys, h.vals.upT e⟩
theorem valV_isSome {kvs : List (Pt × V)} {k : Pt} : (valV kvs k).isSome = decide (k ∈ kvs.map (·.1)) := by
  unfold valV
  rw [Option.isSome_map, Bool.eq_iff_iff, List.find?_isSome]
  simp
theorem NdsR.push {ns : List Node} {kvs : List (Pt × V)} {H : Hp} (h : NdsR ns kvs H) {x : Pt} {o : Option Pt} {l : Nat} {v : V} (hx : x ∉ keysN ns) (hv : parR o v H) : putK kvs x v = kvs ++ [(x, v)] ∧ NdsR (ns ++ [(x, o, l)]) (kvs ++ [(x, v)]) H := by
  constructor
  · unfold putK
    rw [if_neg]
    intro h1
    obtain ⟨t, ht, e⟩ := List.any_eq_true.mp h1
    exact hx (by rw [← h.keys]; exact List.mem_map.mpr ⟨t, ht, of_decide_eq_true e⟩)
  · refine ⟨by rw [List.map_append, keysN, List.map_append]; exact congrArg (· ++ [x]) h.keys, ?_⟩
    rw [List.map_append, List.map_append]
    exact h.vals.snoc hv
abbrev n_Machine_came_from : List Str := ["self", "found", "waiting", "fresh", "point", "following"]
theorem sc_Machine_came_from : FnScope n_Machine_came_from ["self"] (defScope s_Machine_came_from) := ⟨rfl, rfl, rfl, by decide +kernel, rfl, by decide +kernel, by decide +kernel⟩
theorem bd_Machine_came_from : BindB "came_from" "Machine.came_from" s_Machine_came_from ["self"] := fun _ _ _ _ _ _ us hl => match us, hl with | [_], _ => rfl

def sp_Machine_came_from (K : PySem.W.Frag) : Sp := fun vs H Q E => ∃ (p n : Nat) (Es Gs : List (Pt → Int)), Shape p n ∧ Es.length ≤ 1000 ∧ Gs.length = n ∧ SpR [maR K p n Es Gs] (fun v H' => ∃ c ns, NInv (stepP p Gs) (solsP p n Es) (pts p n) c ns ∧ atLev c ns = [] ∧ cameR ns v H') vs H Q E
abbrev G_Machine_came_from (P : Program) (w : World) (K : PySem.W.Frag) (mg : Str → Option Value) (base : Heap) : Prop := GMt P w K mg base (He.ga K "Machine") "came_from" 6 ["self"] (sp_Machine_came_from K)

theorem ok_Machine_came_from (T : TopF K mg) (g_Machine_after : G_Machine_after P w K mg base) (g_System_solutions : G_System_solutions P w K mg base) : G_Machine_came_from P w K mg base := by
  refine T.d_Machine_came_from.fn sc_Machine_came_from bd_Machine_came_from (fun vs H Q E h => ?len) fun f cdv A outer s H vs Q E hr h => ?walk
  case walk =>
    have hu := room1 hr
    have hu3 := room3 hr
    have hu64 := hr.units
    have hu65 := room65 hr
    refine ⟨_, (pss_cons (ps_setDcT (i := 1) (own := [("point", 4)]) (g := (gName 4)) hu (by rfl) sc_Machine_came_from.nd rfl rfl (sw_trueD rfl rfl rfl (by decide +kernel)) (k_piL (K := K) rfl (pe_mt0 (k_fld (K := K) rfl (pv 0) rfl) T.c_System g_System_solutions hr (by decide))) (blkOk_by (own := [("point", 4)]) (N := n_Machine_came_from) (sc := defScope s_Machine_came_from) (by decide +kernel)) (fun _ _ _ _ _ => (pg_name (i := 4) sc_Machine_came_from.nd rfl (Or.inl rfl))) (fun _ _ _ _ _ => pts_nil) (fun _ _ _ _ _ => (pv 4)) (fun _ _ _ _ _ => pe_non))
      (pss_cons (ps_set (i := 2) sc_Machine_came_from.nd rfl (Or.inl rfl) (pe_callTy (call_list_dT rfl) (by rfl) T.b_list (by decide +kernel) (pa_cons (pv 1) pa_nil)))
      (pss_cons (ps_while PassesOwn.never (pt_truth (pv 2) (by intro _; rfl))
      (pss_cons (ps_set (i := 3) sc_Machine_came_from.nd rfl (Or.inl rfl) (pe_lst pa_nil))
      (pss_cons (ps_for PassesOwn.never rfl (k_piL (K := K) rfl (pv 2)) (pg_name (i := 4) sc_Machine_came_from.nd rfl (Or.inl rfl))
      (pss_cons (ps_set (i := 5) sc_Machine_came_from.nd rfl (Or.inl rfl) (pe_mt (pv 0) T.c_Machine g_Machine_after hr (by decide) (pa_cons (pv 4) pa_nil)))
      (pss_one (ps_if (pt_cmp (pc_dnotin hu (pv 5) (pv 1))) (pss_cons (ps_dput hu (pv 1) (pv 5) (pv 4) rfl)
      (pss_one (ps_expr (pe_bm PySem.F.plainAttrs_list PySem.F.slot_list_append PySem.F.type_list_append mt_append (pv 3) (pa_cons (pv 5) pa_nil))))) pss_nil))))
      (pss_one (ps_set (i := 2) sc_Machine_came_from.nd rfl (Or.inl rfl) (pv 3))))))
      (pss_one (ps_ret (pv 1)))))), ?_⟩
    obtain ⟨p, n, Es, Gs, S, hE, hG, r, k⟩ := h
    obtain ⟨a1, rfl, r1⟩ := All.l1 r
    have hp := S.p
    have hn := S.n
    have hz := S.pts
    have hSnd : (solsP p n Es).Nodup := (pts_nodup p n).sublist List.filter_sublist
    have hSin : ∀ x ∈ solsP p n Es, x ∈ pts p n := fun x hx => (List.mem_filter.mp hx).1
    have hSl : (solsP p n Es).length ≤ 27 := Nat.le_trans (List.length_filter_le _ _) hz
    have hf : ∀ x ∈ pts p n, stepP p Gs x ∈ pts p n := fun x _ => step_in (by omega) hG x
    have I0 := ninv_start (f := stepP p Gs) hSnd hSin
    have hlen : ∀ {c ns}, NInv (stepP p Gs) (solsP p n Es) (pts p n) c ns → ns.length ≤ 27 := fun {c ns} I => by
      have h1 := nodup_len I.nd (fun x hx => mem_pts.mp (I.inn x hx))
      rw [List.length_map] at h1
      omega
    refine sq (s_setD (kvs := (solsP p n Es).map fun x => (x, V.non)) (EvD.cast (ev_dcT (f := fun _ => true) (key := fun x : Pt => x) (val := fun _ : Pt => V.non) (xs := solsP p n Es) (A := ptR) (srcD_list (EvN.ev (ev_methN (ev_maStart T (ev_var rfl r1)) (fun x H1 r => sy_ins r fun vs ve => rfl) ea_nil fun vs H1 Q E h => ⟨p, n, Es, S, hE, h⟩))) (by rw [sizeLine_eq]; omega) fun x v H1 hx e1 rv => ⟨rfl, rfl, et_yes, fun _ => ⟨ev_var rfl rv, ev_c⟩⟩) ?_) fun df H1 hdf e1 h1 => ?_)
    · rw [List.filter_eq_self.mpr (fun _ _ => rfl)]
      refine putL_nodup ?_
      rw [List.map_map]
      exact (List.map_id (solsP p n Es)).symm ▸ hSnd
    have hN0 : NdsR ((solsP p n Es).map fun x => (x, none, 0)) ((solsP p n Es).map fun x => (x, V.non)) H1 := by
      refine ⟨by rw [keysN, List.map_map, List.map_map]; rfl, ?_⟩
      rw [List.map_map, List.map_map]
      refine all_of (by simp) fun j v R h3 h4 => ?_
      rw [List.getElem?_map] at h3 h4
      obtain ⟨x, hx, rfl⟩ := Option.map_eq_some_iff.mp h3
      rw [hx] at h4
      cases h4
      rfl
    dsimp only [List.set]
    refine sq (s_setN (ev_lstOfD (ea_cons (ev_var rfl ⟨df, rfl, h1⟩) ea_nil)) fun pw vw H2 hpw e2 h2 rw2 => ?_)
    dsimp only [List.set]
    have hw0 : ((solsP p n Es).map fun x => (x, V.non)).map (·.1) = atLev 0 ((solsP p n Es).map fun x => (x, none, 0)) := by
      unfold atLev
      rw [List.filter_eq_self.mpr (fun t ht => by obtain ⟨y, hy, rfl⟩ := List.mem_map.mp ht; rfl), List.map_map, List.map_map]
      rfl
    rw [hw0] at rw2
    refine sq (s_while (fun m σ' H' => ∃ c ns kvs pw v3 v4 v5, σ' = [some a1, some (.ref df), some (.ref pw), v3, v4, v5] ∧ Ext H H' ∧ NInv (stepP p Gs) (solsP p n Es) (pts p n) c ns ∧ H' df = some (DT kvs) ∧ NdsR ns kvs H' ∧ lstR ((atLev c ns).map ptR) (.ref pw) H' ∧ m = 1000 - ns.length + if (atLev c ns).isEmpty then 0 else 1) _ ⟨0, _, _, pw, none, none, none, rfl, e1.trans e2, I0, e2.at h1, hN0.up e2.t, ⟨pw, vw, rfl, h2, rw2⟩, rfl⟩ (fun m σ' H' pv => ?_))
    · obtain ⟨c, ns, kvs, pw, v3, v4, v5, rfl, eH, I, hdf2, hN, hw, hm⟩ := pv
      have hw' := hw
      refine ⟨_, et_truL (ev_var rfl hw), fun hb H3 e3 => ?_, fun hb H3 e3 => ?_⟩
      · have hne : (atLev c ns).isEmpty = false := by simpa using hb
        rw [hne] at hm
        refine sq (s_setN (ev_lst ea_nil (by show 0 ≤ _; decide)) fun pf vf H4 hpf e4 h4 r4 => ?_)
        obtain rfl := All.l0 r4
        have e34 := e3.trans e4
        have hdf4 := e34.at hdf2
        have hpfH : H pf = none := (eH.trans e3).free pf hpf
        have hnd : df ≠ pf := fun e => by rw [e] at hdf2; rw [e3.at hdf2] at hpf; cases hpf
        have hds : PlainsAt H4 [df, pf] := fun b hb => by
          rcases List.mem_cons.mp hb with rfl | hb
          · exact ⟨_, hdf4, trivial⟩
          · rw [List.mem_singleton.mp hb]; exact ⟨_, h4, trivial⟩
        have hwn : nlR [df, pf] ((atLev c ns).map ptR) (.ref pw) H4 := ⟨Mono.up e34 hw, fun a ha hm => by
          cases ha
          obtain ⟨a', vs', e', h', _⟩ := hw
          cases e'
          rcases List.mem_cons.mp hm with e | hm
          · rw [e, hdf2] at h'; cases h'
          · rw [List.mem_singleton.mp hm] at h'
            rw [e3.at h'] at hpf; cases hpf⟩
        have m1 : df ∈ [df, pf] := by simp
        have m2 : pf ∈ [df, pf] := by simp
        dsimp only [List.set]
        refine sq (s_forX (ds := [df, pf]) (xs := atLev c ns) (A := ptR) (srcX_list (ev_var (R := nlR [df, pf] ((atLev c ns).map ptR)) rfl hwn))
          (fun i σ' H0 => ∃ kvs new fv v4 v5, σ' = [some a1, some (.ref df), some (.ref pw), some (.ref pf), v4, v5] ∧ Ext H H0 ∧ NMid (stepP p Gs) (solsP p n Es) (pts p n) c ns ((atLev c ns).take i) new ∧ H0 df = some (DT kvs) ∧ NdsR (ns ++ new) kvs H0 ∧ H0 pf = some (.lst fv) ∧ All ((keysN new).map ptR) fv H0)
          (fun H5 e5 => ?_) (fun H5 i x vx σ' H6 H7 hx e5 e6 t6 pv e7 hvx => ?_) fun H5 σ' H6 e5 e6 t6 pv => ?_)
        · exact ⟨kvs, [], [], v4, v5, rfl, eH.trans (e34.trans e5), by rw [List.take_zero]; exact mid_start I, e5.at hdf4, by rw [List.append_nil]; exact hN.up (e34.trans e5).t, e5.at h4, .nil⟩
        · obtain ⟨kvs, new, fv, v4, v5, rfl, q1, q2, q3, q4, q5, q6⟩ := pv
          obtain ⟨q, hq, rfl⟩ := List.mem_map.mp (List.mem_of_getElem? hx)
          obtain ⟨hqn, hqc⟩ := List.mem_filter.mp hq
          have hqc := of_decide_eq_true hqc
          have hqD : q.1 ∈ pts p n := I.inn _ (List.mem_map.mpr ⟨q, hqn, rfl⟩)
          have u1 := q1.trans e7
          have u3 := e7.at q3
          have u4 := q4.up e7.t
          have u5 := e7.at q5
          have u6 := All.up e7 q6
          have ed := e6.trans e7
          have td := t6.trans e7.t
          have hll : (ns ++ new).length ≤ 27 := by
            have h1 := nodup_len (p := p) (n := n) q2.nd (fun x hx => by
              obtain ⟨t, ht, rfl⟩ := List.mem_map.mp hx
              rcases List.mem_append.mp ht with h | h
              · exact mem_pts.mp (I.inn _ (List.mem_map.mpr ⟨t, h, rfl⟩))
              · obtain ⟨s, _, h2, _, _, h5⟩ := q2.fresh t h
                rw [← h5]
                exact mem_pts.mp (hf _ (I.inn _ (List.mem_map.mpr ⟨s, h2, rfl⟩))))
            rw [List.length_map] at h1
            omega
          have hkl : kvs.length ≤ 27 := by
            have h1 := congrArg List.length u4.keys
            rw [List.length_map, List.length_map] at h1
            omega
          dsimp only [List.set]
          refine sq (s_set (R := ptR (stepP p Gs q.1)) (ev_meth (ev_var rfl (Mono.up u1 r1)) (fun x H1 r => ma_ins r fun v1 v2 v3 => rfl) (ea_cons (ev_var rfl hvx) ea_nil) fun vs H1 Q E h => ⟨p, n, Es, Gs, q.1, S, by omega, hqD, h⟩) fun vy H8 e8 rvy => ?_)
          have w3 := e8.at u3
          dsimp only [List.set]
          refine s_if (b := !(valV kvs (stepP p Gs q.1)).isSome) (et_test (ev_dnotin (ev_var rfl rvy) (ev_var rfl ⟨df, rfl, w3⟩))) (fun hc H9 e9 => ?_) fun hc H9 e9 => s_next ?_
          · have hnk : stepP p Gs q.1 ∉ keysN (ns ++ new) := by
              rw [valV_isSome, u4.keys] at hc
              intro h
              rw [decide_eq_true h] at hc
              cases hc
            have e79 := e8.trans e9
            have x3 := e9.at w3
            have hvx9 : ptR q.1 vx H9 := TMono.up e79.t hvx
            refine sq (s_dput (R := ptR q.1) x3 (ev_var rfl hvx9) (ev_is rfl) (ev_var rfl (TMono.up e9.t rvy)) (by rw [sizeLine_eq]; omega) fun u H10 e10 ru => ?_)
            have e710 := e79.trans e10
            have x10 := e10.at x3
            obtain ⟨p1, p2⟩ := (u4.up e710.t).push (l := c + 1) (o := some q.1) hnk ru
            rw [p1]
            have t10 : TEx H10 (upd H10 df (DT (kvs ++ [(stepP p Gs q.1, u)]))) := TEx.upd x10 trivial
            have ex : Ext H (upd H10 df (DT (kvs ++ [(stepP p Gs q.1, u)]))) := (u1.trans e710).mut hdf x10 trivial
            have exd : Ext (delS H5 [df, pf]) (upd H10 df (DT (kvs ++ [(stepP p Gs q.1, u)]))) := (ed.trans e710).mut (delS_in m1) x10 trivial
            have y5 : (upd H10 df (DT (kvs ++ [(stepP p Gs q.1, u)]))) pf = some (.lst fv) := by rw [upd_ne (fun e => hnd e.symm)]; exact e710.at u5
            have ydf : (upd H10 df (DT (kvs ++ [(stepP p Gs q.1, u)]))) df = some (DT (kvs ++ [(stepP p Gs q.1, u)])) := upd_same
            have t7 : TEx H7 (upd H10 df (DT (kvs ++ [(stepP p Gs q.1, u)]))) := e710.t.trans t10
            have p2' := p2.up t10
            have rvy' := TMono.up ((e9.trans e10).t.trans t10) rvy
            generalize upd H10 df (DT (kvs ++ [(stepP p Gs q.1, u)])) = H11 at ex exd y5 ydf t7 p2' rvy'
            refine s_app (R := ptR (stepP p Gs q.1)) y5 (ev_is rfl) (ev_var rfl rvy') (by rw [u6.length, List.length_map, List.length_map, sizeLine_eq]; rw [List.length_append] at hll; omega) fun z H12 e12 rz => ?_
            have y12 := e12.at y5
            have t12 : TEx H12 (upd H12 pf (.lst (fv ++ [z]))) := TEx.upd y12 trivial
            refine ⟨(exd.trans e12).mut (delS_in m2) y12 trivial, td.trans (t7.trans (e12.t.trans t12)), kvs ++ [(stepP p Gs q.1, u)], new ++ [(stepP p Gs q.1, some q.1, c + 1)], fv ++ [z], some vx, some vy, rfl, (ex.trans e12).mut hpfH y12 trivial, ?_, by rw [upd_ne hnd]; exact e12.at ydf, ?_, upd_same, ?_⟩
            · rw [take_at hx]; exact mid_new q2 hqn hqc hnk
            · rw [← List.append_assoc]; exact p2'.up (e12.t.trans t12)
            · rw [keysN, List.map_append, List.map_append]
              exact (All.upT (t7.trans (e12.t.trans t12)) u6).snoc (TMono.up t12 rz)
          · have hk : stepP p Gs q.1 ∈ keysN (ns ++ new) := by
              rw [valV_isSome, u4.keys] at hc
              simpa using hc
            have e79 := e8.trans e9
            exact ⟨ed.trans e79, td.trans e79.t, kvs, new, fv, some vx, some vy, rfl, u1.trans e79, by rw [take_at hx]; exact mid_old q2 hk, e79.at u3, u4.up e79.t, e79.at u5, All.up e79 u6⟩
        · obtain ⟨kvs, new, fv, v4, v5, rfl, q1, q2, q3, q4, q5, q6⟩ := pv
          rw [List.take_length] at q2
          obtain ⟨I', hat⟩ := mid_done hf I q2
          have hl' := hlen I'
          dsimp only
          refine s_set (ev_is rfl) fun u H7 e7 ru => ?_
          obtain rfl : u = .ref pf := ru
          refine ⟨_, ?_, c + 1, ns ++ new, kvs, pf, some (.ref pf), v4, v5, rfl, q1.trans e7, I', e7.at q3, q4.up e7.t, ⟨pf, fv, rfl, e7.at q5, by rw [hat]; exact All.up e7 q6⟩, rfl⟩
          rw [hm, hat, List.length_append]
          rw [List.length_append] at hl'
          cases new with
          | nil => simp
          | cons t r =>
            have : (keysN (t :: r)).isEmpty = false := rfl
            rw [this, List.length_cons]
            simp only [Bool.false_eq_true, if_false]
            omega
      · have he : atLev c ns = [] := by simpa using hb
        dsimp only
        exact s_ret (ev_is rfl) fun v H4 e4 rv => k v H4 (eH.trans (e3.trans e4)) ⟨c, ns, I, he, df, kvs, rv, e4.at (e3.at hdf2), hN.up (e3.trans e4).t⟩
  case len => obtain ⟨p, n, Es, Gs, _, _, _, r, _⟩ := h; exact r.length
end SP
end
section
set_option Elab.async false
set_option linter.all false
set_option maxRecDepth 100000
set_option maxHeartbeats 4000000
namespace SP
open PySem PyProof.Rows L2
variable {P : Program} {w : World} {K : PySem.W.Frag} {mg : Str → Option Value} {base : Heap}
def PathF (f : Pt → Pt) : List Pt → Prop
  | x :: y :: r => f x = y ∧ PathF f (y :: r)
  | _ => True
structure RunOk (f : Pt → Pt) (S : List Pt) (x : Pt) (l : Nat) (run : List Pt) : Prop where
  len : run.length = l + 1
  path : PathF f run
  start : ∃ s ∈ S, run.head? = some s
  last : run.getLast? = some x
theorem NdsR.get {ns : List Node} {kvs : List (Pt × V)} {H : Hp} (h : NdsR ns kvs H) (nd : (keysN ns).Nodup) {t : Node} (ht : t ∈ ns) : ∃ v, valV kvs t.1 = some v ∧ parR t.2.1 v H := by
  obtain ⟨i, hi⟩ := List.getElem?_of_mem ht
  have h1 : (keysN ns)[i]? = some t.1 := at_map hi
  rw [← h.keys, List.getElem?_map] at h1
  obtain ⟨s, hs, e⟩ := Option.map_eq_some_iff.mp h1
  obtain ⟨v, hv, hp⟩ := h.vals.get (at_map (f := fun t : Node => parR t.2.1) hi)
  rw [List.getElem?_map, hs] at hv
  cases hv
  refine ⟨s.2, ?_, hp⟩
  unfold valV
  have hm := List.mem_of_getElem? hs
  have nd' : (kvs.map (·.1)).Nodup := by rw [h.keys]; exact nd
  have : kvs.find? (fun kv => decide (kv.1 = t.1)) = some s := by
    cases hf : kvs.find? (fun kv => decide (kv.1 = t.1)) with
    | none => exact absurd (decide_eq_true e) (List.find?_eq_none.mp hf s hm)
    | some u =>
      have h2 := List.mem_of_find?_eq_some hf
      have h3 : u.1 = t.1 := by have := List.find?_some hf; simpa using this
      obtain ⟨j, hj⟩ := List.getElem?_of_mem h2
      have h4 := nodup_at nd' (at_map (f := (·.1)) hs) (by rw [at_map (f := (·.1)) hj, h3, e])
      subst h4
      rw [hs] at hj
      exact hj.symm
  rw [this]
  rfl
section
variable {K : PySem.W.Frag} {σ : L2.St} {H : Hp} {ta tb : TE} {Rs : List RS} {R : RS}
theorem ev_ixLast [AllM Rs] (ha : Ev ta σ H (lstR Rs)) (hb : Ev tb σ H (IsI (-1))) (hn : Rs.getLast? = some R) : Ev (tOp (rIxL K) ta tb) σ H R :=
  ev_op ha hb fun x y H1 e rx ry Q q => by
    obtain rfl : y = .int (-1) := ry
    obtain ⟨a, vs, rfl, h1, r⟩ := rx
    rw [List.getLast?_eq_getElem?] at hn
    obtain ⟨v, hv, rv⟩ := r.get hn
    have hne : vs ≠ [] := fun h => by rw [h] at hv; simp at hv
    refine ⟨a, vs, -1, v, rfl, rfl, SqL.of h1, ?_, q v H1 (Ext.refl _) rv⟩
    rw [atI_last hne, r.length]
    exact hv
end
abbrev n_run_to : List Str := ["came", "point", "found"]
theorem sc_run_to : FnScope n_run_to ["came", "point"] (defScope s_run_to) := ⟨rfl, rfl, rfl, by decide +kernel, rfl, by decide +kernel, by decide +kernel⟩
theorem bd_run_to : BindB "run_to" "run_to" s_run_to ["came", "point"] := fun _ _ _ _ _ _ us hl => match us, hl with | [_, _], _ => rfl

def sp_run_to (K : PySem.W.Frag) : Sp := fun vs H Q E => ∃ (f : Pt → Pt) (S D : List Pt) (c : Nat) (ns : List Node) (t : Node) (d : Addr) (kvs : List (Pt × V)), NInv f S D c ns ∧ t.2.2 ≤ 1000 ∧ t ∈ ns ∧ NdsR ns kvs H ∧ SpR [dF d kvs, ptR t.1] (fun v H' => ∃ run, RunOk f S t.1 t.2.2 run ∧ lstR (run.map ptR) v H') vs H Q E
abbrev G_run_to (P : Program) (w : World) (K : PySem.W.Frag) (mg : Str → Option Value) (base : Heap) : Prop := GFn P w K mg base "run_to" 1 ["came", "point"] (sp_run_to K)

theorem ok_run_to (T : TopF K mg)  : G_run_to P w K mg base := by
  refine T.d_run_to.fn sc_run_to bd_run_to (fun vs H Q E h => ?len) fun f cdv A outer s H vs Q E hr h => ?walk
  case walk =>
    have hu := room1 hr
    have hu3 := room3 hr
    have hu64 := hr.units
    have hu65 := room65 hr
    refine ⟨_, (pss_cons (ps_set (i := 2) sc_run_to.nd rfl (Or.inl rfl) (pe_lst (pa_cons (pv 1) pa_nil)))
      (pss_cons (ps_while PassesOwn.never (pt_cmpR op_notN (pe_dget hu (pv 0) (pe_ix (k_ixL (K := K) rfl) (pv 2) (pe_un un_neg pe_int) (fun _ _ => rfl)) (fun _ _ => rfl)) pe_non (nomark _))
      (pss_one (ps_expr (pe_bm PySem.F.plainAttrs_list PySem.F.slot_list_append PySem.F.type_list_append mt_append (pv 2) (pa_cons (pe_dget hu (pv 0) (pe_ix (k_ixL (K := K) rfl) (pv 2) (pe_un un_neg pe_int) (fun _ _ => rfl)) (fun _ _ => rfl)) pa_nil)))))
      (pss_one (ps_ret (k_revL (K := K) rfl (pv 2)))))), ?_⟩
    obtain ⟨f, S, D, c, ns, t, d, kvs, I, hc, ht, hN, r, k⟩ := h
    obtain ⟨a1, a2, rfl, r1, r2⟩ := All.l2 r
    refine sq (s_setN (ev_lst (Rs := [ptR t.1]) (ea_cons (ev_var rfl r2) ea_nil) (by show 1 ≤ _; decide)) fun pf vf H1 hpf e1 h1 rf => ?_)
    dsimp only [List.set]
    have htl := I.lev t ht
    refine sq (s_while (fun m σ' H' => ∃ (s : Node) (rest : List Pt) (vs : List V), σ' = [some a1, some a2, some (.ref pf)] ∧ Ext H H' ∧ s ∈ ns ∧ H' pf = some (.lst vs) ∧ All ((s.1 :: rest).reverse.map ptR) vs H' ∧ PathF f (s.1 :: rest) ∧ (s.1 :: rest).getLast? = some t.1 ∧ rest.length + s.2.2 = t.2.2 ∧ m = s.2.2) t.2.2 ⟨t, [], vf, rfl, e1, ht, h1, rf, trivial, rfl, by simp, rfl⟩ fun m σ' H' pv => ?_)
    obtain ⟨s, rest, us, rfl, eH, hs, hl, hall, hpath, hlast, hlen, rfl⟩ := pv
    obtain ⟨v, hv, hpar⟩ := hN.get I.nd hs
    have hlst : lstR ((s.1 :: rest).reverse.map ptR) (.ref pf) H' := ⟨pf, us, rfl, hl, hall⟩
    have hget : ∀ {σ : L2.St} {H2 : Hp}, Ext H' H2 → σ[0]? = some (some a1) → σ[2]? = some (some (.ref pf)) → Ev (tDGet (tVar 0) (tOp (rIxL K) (tVar 2) (tUn (rU fun i => .int (-i)) (tC (.int 1))))) σ H2 (Is v) := fun {σ H2} e2 h0 h2 =>
      ev_dgetF (d := d) (kvs := kvs) (k := s.1) (ev_var h0 (Mono.up (eH.trans e2) r1)) (ev_ixLast (ev_var h2 (Mono.up e2 hlst)) (ev_neg ev_c) (by rw [List.getLast?_map, List.getLast?_reverse]; rfl)) hv
    refine ⟨!decide (v = .non), ?_, fun hb H2 e2 => ?_, fun hb H2 e2 => ?_⟩
    · exact et_test (ev_notNR (R := Is v) (hget (Ext.refl _) rfl rfl) fun u H1 r => by rw [show u = v from r])
    · rcases I.par s hs with ⟨h1, _⟩ | ⟨q, h1, h2, h3, h4⟩
      · rw [h1] at hpar
        have : v = V.non := hpar
        rw [decide_eq_true this] at hb
        cases hb
      · rw [h1] at hpar
        have hpq : ptR q.1 v H' := TMono.up eH.t (show ptR q.1 v H from hpar)
        have hqv : ptR q.1 v H2 := TMono.up e2.t hpq
        refine s_app (R := ptR q.1) (e2.at hl) (ev_is rfl) (Ev.imp (hget e2 rfl rfl) fun u H3 e3 ru => (show u = v from ru) ▸ TMono.up e3.t hqv) (by have := I.lev s hs; rw [hall.length, List.length_map, List.length_reverse, List.length_cons, sizeLine_eq]; omega) fun u H3 e3 ru => ?_
        have h5 := e3.at (e2.at hl)
        refine ⟨q.2.2, by omega, q, s.1 :: rest, us ++ [u], rfl, (eH.trans (e2.trans e3)).mut hpf h5 trivial, h2, upd_same, ?_, ⟨h4, hpath⟩, ?_, by rw [List.length_cons]; omega, rfl⟩
        · rw [List.reverse_cons, List.map_append]
          exact (All.upT ((e2.trans e3).t.trans (TEx.upd h5 trivial)) hall).snoc (TMono.up (TEx.upd h5 trivial) ru)
        · rw [List.getLast?_cons_cons]; exact hlast
    · have hvn : v = V.non := by simpa using hb
      rcases I.par s hs with ⟨h1, h2, h3⟩ | ⟨q, h1, h2, h3, h4⟩
      · dsimp only
        refine s_ret (EvN.ev (ev_revL (Rs := (s.1 :: rest).reverse.map ptR) (by rw [← List.map_reverse]; exact inferInstance) (ev_var rfl (Mono.up e2 hlst)))) fun u H3 e3 ru => k u H3 (eH.trans (e2.trans e3)) ⟨s.1 :: rest, ⟨by rw [List.length_cons]; omega, hpath, ⟨s.1, h3, rfl⟩, hlast⟩, ?_⟩
        rw [← List.map_reverse, List.reverse_reverse] at ru
        exact ru
      · rw [h1, hvn] at hpar
        obtain ⟨a, ha, _⟩ := hpar
        cases ha
  case len => obtain ⟨f, S, D, c, ns, t, d, kvs, _, _, _, _, r, _⟩ := h; exact r.length
end SP
end
section
set_option Elab.async false
set_option linter.all false
set_option maxRecDepth 100000
namespace SP
open PySem L2
section
variable {p n : Nat} {P : List Pt}
theorem walk_winv (S : Shape p n) (P : List Pt) : WInv p n P (degSort (pts p n)) (walkM p P (degSort (pts p n))) := by
  have hstr := deg_strict (pts_nodup p n)
  have q := walk_inv (p := p) (n := n) (P := P) S.pr (L := degSort (pts p n)) (don := []) (w := ⟨[], []⟩) ⟨(fun r hr => nomatch hr), .nil, (fun t ht => nomatch ht), (fun m hm => nomatch hm)⟩ hstr (fun m hm => mem_pts.mp ((degSort_perm (pts p n)).mem_iff.mp hm))
  exact q
theorem basF_zero (S : Shape p n) {F : Pt → Int} (hF : F ∈ basF p n P) {x : Pt} (hx : x ∈ P) : Cg p (F x) 0 := by
  obtain ⟨t, ht, rfl⟩ := List.mem_map.mp hF
  exact ((walk_winv S P).fs t ht).zero x hx
theorem basF_back (S : Shape p n) (hP : ∀ x ∈ P, x ∈ pts p n) {z : Pt} (hz : z ∈ pts p n) (h : ∀ F ∈ basF p n P, Cg p (F z) 0) : z ∈ P :=
  walk_zeros S hz (fun t ht => h _ (List.mem_map.mpr ⟨t, ht, rfl⟩)) hP
theorem basF_len (S : Shape p n) : (basF p n P).length ≤ 27 := by
  unfold basF
  rw [List.length_map]
  have h := walkM_len (p := p) (P := P) (degSort (pts p n)).length (degSort (pts p n)) (Nat.le_refl _)
  rw [List.take_length] at h
  have h2 := S.pts
  rw [← (degSort_perm (pts p n)).length_eq] at h2
  omega
theorem solB_iff {Es : List (Pt → Int)} {x : Pt} : solB p Es x = true ↔ ∀ E ∈ Es, Cg p (E x) 0 := by
  unfold solB
  rw [List.all_eq_true]
  exact ⟨fun h E hE => Cg.zero_iff.mpr (of_decide_eq_true (h E hE)), fun h E hE => decide_eq_true (Cg.zero_iff.mp (h E hE))⟩
variable {Es Gs Bs : List (Pt → Int)} {c : Nat} {ns : List Node}
abbrev reachP (ns : List Node) : List Pt := sortP false (keysN ns)
theorem mem_reachP {x : Pt} : x ∈ reachP ns ↔ x ∈ keysN ns := mem_sortP
theorem foll_first (S : Shape p n) (I : NInv (stepP p Gs) (solsP p n Es) (pts p n) c ns) {F : Pt → Int} (hF : F ∈ basF p n (reachP ns)) : Foll p n Es F := fun x hx h => by
  obtain ⟨t, ht, e, _⟩ := I.all 0 x (Nat.zero_le _) (show x ∈ solsP p n Es from List.mem_filter.mpr ⟨hx, solB_iff.mpr h⟩)
  exact basF_zero S hF (mem_reachP.mpr (List.mem_map.mpr ⟨t, ht, e⟩))
theorem foll_kept (S : Shape p n) (I : NInv (stepP p Gs) (solsP p n Es) (pts p n) c ns) (he : atLev c ns = []) {F : Pt → Int} (hF : F ∈ basF p n (reachP ns)) : Foll p n (basF p n (reachP ns)) (stepF p Gs F) := fun x hx h => by
  have hP : ∀ x ∈ reachP ns, x ∈ pts p n := fun x hx => I.inn x (mem_reachP.mp hx)
  obtain ⟨t, ht, e⟩ := List.mem_map.mp (mem_reachP.mp (basF_back S hP hx h))
  obtain ⟨s, hs, e2, _⟩ := ninv_end I he (t.2.2 + 1) (stepP p Gs x) ⟨t.1, I.rea t ht, by rw [e]⟩
  exact basF_zero S hF (mem_reachP.mpr (List.mem_map.mpr ⟨s, hs, e2⟩))
theorem foll_apart (S : Shape p n) (I : NInv (stepP p Gs) (solsP p n Es) (pts p n) c ns) (hb : ∀ t ∈ ns, solB p Bs t.1 = false) : Foll p n (basF p n (reachP ns) ++ Bs) fun _ => 1 := fun x hx h => by
  have hP : ∀ x ∈ reachP ns, x ∈ pts p n := fun x hx => I.inn x (mem_reachP.mp hx)
  obtain ⟨t, ht, e⟩ := List.mem_map.mp (mem_reachP.mp (basF_back S hP hx fun F hF => h F (List.mem_append_left _ hF)))
  have h1 := solB_iff.mpr fun E hE => h E (List.mem_append_right (basF p n (reachP ns)) hE)
  rw [← e, hb t ht] at h1
  cases h1
end
end SP
end
section
set_option Elab.async false
set_option linter.all false
set_option maxRecDepth 100000
set_option maxHeartbeats 4000000
namespace SP
open PySem PyProof.Rows L2
variable {P : Program} {w : World} {K : PySem.W.Frag} {mg : Str → Option Value} {base : Heap}
theorem s_lockR {σ : L2.St} {H : Hp} {g : TG} {tb : TS} {D : Ends} {i : Nat} {d : Addr} {kvs : List (Pt × V)} (hv : σ[i]? = some (some (.ref d))) (hd : H d = some (DT kvs)) (Pv : Nat → L2.St → Hp → Prop)
    (h0 : ∀ od H1, Ext (upd H d (.frz od (DT kvs))) H1 → Pv 0 σ H1)
    (hs : ∀ od H2 i a x σ' H0 H' (bk : L2.St → Hp → Prop), kvs[i]? = some a → Ext (upd H d (.frz od (DT kvs))) H2 → Ext H2 H0 → Pv i σ' H0 → Ext H0 H' → H' d = some (.frz od (DT kvs)) → ptR a.1 x H' →
      g x σ' H' fun σ3 H3 => tb { nx := fun σ4 H4 => Ext H2 H4 ∧ Pv (i + 1) σ4 H4, ct := fun σ4 H4 => Ext H2 H4 ∧ Pv (i + 1) σ4 H4, bk := bk, rt := fun v H4 => H4 d = some (.frz od (DT kvs)) ∧ D.rt v (upd H4 d (DT kvs)) } σ3 H3)
    (hf : ∀ σ' H', Ext H (upd H' d (DT kvs)) → Pv kvs.length σ' H' → D.nx σ' (upd H' d (DT kvs))) : tLock (tFor (iKeys (tVar i)) g tb) D σ H := by
  refine ⟨d, DT kvs, hd, trivial, fun od => ?_⟩
  refine s_forD (srcD_keysT (ev_is hv) upd_same) Pv (h0 od) (fun H2 i a x σ' H0 H' ha e2 e0 pv e' hA => hs od H2 i a x σ' H0 H' _ ha e2 e0 pv e' ((e2.trans (e0.trans e')).at upd_same) hA) fun σ' H' e pv => ⟨e.at upd_same, hf σ' H' (Ext.lock hd e) pv⟩
theorem lstR.updU {Rs : List RS} [AllT Rs] {v : V} {H : Hp} {d : Addr} {o u : HO} (h : lstR Rs v H) (hd : H d = some u) (hu : ¬ tupO u) (hn : ∀ vs, u ≠ .lst vs) : lstR Rs v (L2.upd H d o) := by
  obtain ⟨a, vs, rfl, h1, r⟩ := h
  have hne : a ≠ d := fun e => by
    rw [e, hd] at h1
    exact hn vs (Option.some.inj h1)
  exact ⟨a, vs, rfl, by rw [upd_ne hne]; exact h1, r.upT (TEx.updU hd hu)⟩
theorem syR.lock {K : PySem.W.Frag} {p n : Nat} {Es : List (Pt → Int)} {v : V} {H : Hp} {d : Addr} {kvs : List (Pt × V)} {o : HO} (h : syR K p n Es v H) (hd : H d = some (DT kvs)) : syR K p n Es v (L2.upd H d o) := by
  obtain ⟨vs, ve, h1, h2, h3⟩ := h
  exact ⟨vs, ve, h1.upd hd trivial, h2.upd hd trivial, h3.updU hd (fun h => h) (fun _ z => nomatch z)⟩
theorem lev_lt {f : Pt → Pt} {S D : List Pt} {c : Nat} {ns : List Node} (I : NInv f S D c ns) {t : Node} (ht : t ∈ ns) : t.2.2 + 1 ≤ ns.length := by
  have q : ∀ (l : Nat) (t : Node), t ∈ ns → t.2.2 = l → ∀ j, j ≤ l → ∃ s ∈ ns, s.2.2 = j := by
    intro l
    induction l with
    | zero => intro t ht e j hj; exact ⟨t, ht, by omega⟩
    | succ l ih =>
      intro t ht e j hj
      by_cases hjl : j = l + 1
      · exact ⟨t, ht, by omega⟩
      · rcases I.par t ht with ⟨_, h2, _⟩ | ⟨q, _, h2, h3, _⟩
        · omega
        · exact ih q h2 (by omega) j (by omega)
  have h := len_sub (xs := List.range (t.2.2 + 1)) (ys := ns.map fun s => s.2.2) List.nodup_range (fun j hj => by
    obtain ⟨s, h1, h2⟩ := q _ t ht rfl j (by have := List.mem_range.mp hj; omega)
    exact List.mem_map.mpr ⟨s, h1, h2⟩)
  rw [List.length_range, List.length_map] at h
  exact h
theorem first_least {f : Pt → Pt} {S D : List Pt} {c : Nat} {ns : List Node} (I : NInv f S D c ns) (he : atLev c ns = []) {bad : Pt → Bool} {i : Nat} {t : Node} (hi : ns[i]? = some t) (hb : ∀ s ∈ ns.take i, bad s.1 = false) : ∀ j y, Reach f S j y → bad y = true → t.2.2 ≤ j := by
  intro j y hr hy
  obtain ⟨s, hs, rfl, hl⟩ := ninv_end I he j y hr
  obtain ⟨m, hm⟩ := List.getElem?_of_mem hs
  obtain ⟨h1, h2⟩ := List.getElem?_eq_some_iff.mp hi
  obtain ⟨h3, h4⟩ := List.getElem?_eq_some_iff.mp hm
  by_cases hlt : m < i
  · have := hb s (List.mem_of_getElem? (i := m) (by rw [List.getElem?_take, if_pos hlt]; exact hm))
    rw [hy] at this
    cases this
  · by_cases e : m = i
    · subst e
      rw [hi] at hm
      cases hm
      exact hl
    · have := List.pairwise_iff_getElem.mp I.ord i m h1 h3 (by omega)
      rw [h2, h4] at this
      omega
structure RunAns (p n : Nat) (Es Gs Bs : List (Pt → Int)) (x : Pt) (l : Nat) (run : List Pt) : Prop where
  ok : RunOk (stepP p Gs) (solsP p n Es) x l run
  bad : solB p Bs x = true
  len : l + 1 ≤ 27
  least : ∀ j y, Reach (stepP p Gs) (solsP p n Es) j y → solB p Bs y = true → l ≤ j
def NoBad (p n : Nat) (Es Gs Bs : List (Pt → Int)) : Prop := ∀ j y, Reach (stepP p Gs) (solsP p n Es) j y → solB p Bs y = false
structure SafeOk (p n : Nat) (Es Gs Bs Fs : List (Pt → Int)) (As Ks : List (List (Pt → Int))) (Cs : List (Pt → Int)) : Prop where
  len : Fs.length ≤ 27
  la : As.length = Fs.length
  lA : ∀ A ∈ As, A.length = Es.length
  dA : ∀ t ∈ Fs.zip As, ∀ x ∈ pts p n, Cg p (dotS Es t.2 x) (t.1 x)
  lk : Ks.length = Fs.length
  lK : ∀ A ∈ Ks, A.length = Fs.length
  dK : ∀ t ∈ (Fs.map (stepF p Gs)).zip Ks, ∀ x ∈ pts p n, Cg p (dotS Fs t.2 x) (t.1 x)
  lc : Cs.length = (Fs ++ Bs).length
  dC : ∀ x ∈ pts p n, Cg p (dotS (Fs ++ Bs) Cs x) 1
abbrev llR (p n : Nat) (As : List (List (Pt → Int))) : RS := lstR (As.map fun A => lstR (A.map (polyR p n)))
abbrev ansRun (run : List Pt) : RS := tupR [Is (.str "run"), lstR (run.map ptR)]
abbrev ansSafe (p n : Nat) (Fs : List (Pt → Int)) (As Ks : List (List (Pt → Int))) (Cs : List (Pt → Int)) : RS := tupR [Is (.str "safe"), lstR (Fs.map (polyR p n)), llR p n As, llR p n Ks, lstR (Cs.map (polyR p n))]
def ansR (p n : Nat) (Es Gs Bs : List (Pt → Int)) : RS := fun v H => (∃ x l run, RunAns p n Es Gs Bs x l run ∧ ansRun run v H) ∨ (NoBad p n Es Gs Bs ∧ ∃ Fs As Ks Cs, SafeOk p n Es Gs Bs Fs As Ks Cs ∧ ansSafe p n Fs As Ks Cs v H)
theorem mem_zip_map {α β : Type} {g : α → β} {xs : List α} {t : α × β} (h : t ∈ xs.zip (xs.map g)) : t.1 ∈ xs ∧ t.2 = g t.1 := by
  obtain ⟨i, hi⟩ := List.getElem?_of_mem h
  obtain ⟨h1, h2⟩ := List.getElem?_zip_eq_some.mp hi
  refine ⟨List.mem_of_getElem? h1, ?_⟩
  rw [List.getElem?_map, h1] at h2
  exact (Option.some.inj h2).symm
theorem safe_ok {p n c : Nat} {Es Gs Bs : List (Pt → Int)} {ns : List Node} (S : Shape p n) (I : NInv (stepP p Gs) (solsP p n Es) (pts p n) c ns) (he : atLev c ns = []) (hb : ∀ t ∈ ns, solB p Bs t.1 = false) :
    SafeOk p n Es Gs Bs (basF p n (reachP ns)) ((basF p n (reachP ns)).map (facL p Es)) (((basF p n (reachP ns)).map (stepF p Gs)).map (facL p (basF p n (reachP ns)))) (facL p (basF p n (reachP ns) ++ Bs) fun _ => 1) where
  len := basF_len S
  la := List.length_map ..
  lA := fun A hA => by obtain ⟨F, _, rfl⟩ := List.mem_map.mp hA; exact facL_len
  dA := fun t ht x hx => by
    obtain ⟨h1, h2⟩ := mem_zip_map ht
    rw [h2]
    exact fac_dot S.pr hx (foll_first S I h1)
  lk := by rw [List.length_map, List.length_map]
  lK := fun A hA => by obtain ⟨F, _, rfl⟩ := List.mem_map.mp hA; exact facL_len
  dK := fun t ht x hx => by
    obtain ⟨h1, h2⟩ := mem_zip_map ht
    rw [h2]
    obtain ⟨F, hF, e⟩ := List.mem_map.mp h1
    rw [← e]
    exact fac_dot S.pr hx (foll_kept S I he hF)
  lc := facL_len
  dC := fun x hx => fac_dot S.pr hx (foll_apart S I hb)
def runV (f : Pt → Pt) (S : List Pt) (x : Pt) (l : Nat) : RS := fun v H => ∃ run, RunOk f S x l run ∧ lstR (run.map ptR) v H
instance {f : Pt → Pt} {S : List Pt} {x : Pt} {l : Nat} : Mono (runV f S x l) := ⟨fun e ⟨run, h1, h2⟩ => ⟨run, h1, Mono.up e h2⟩⟩
abbrev n_check_safe : List Str := ["machine", "bad", "space", "came", "point", "invariant", "first", "kept", "one"]
theorem sc_check_safe : FnScope n_check_safe ["machine", "bad"] (defScope s_check_safe) := ⟨rfl, rfl, rfl, by decide +kernel, rfl, by decide +kernel, by decide +kernel⟩
theorem bd_check_safe : BindB "check_safe" "check_safe" s_check_safe ["machine", "bad"] := fun _ _ _ _ _ _ us hl => match us, hl with | [_, _], _ => rfl

def sp_check_safe (K : PySem.W.Frag) : Sp := fun vs H Q E => ∃ (p n : Nat) (Es Gs Bs : List (Pt → Int)), Shape p n ∧ Es.length ≤ 500 ∧ Gs.length = n ∧ Bs.length ≤ 500 ∧ SpR [maR K p n Es Gs, syR K p n Bs] (ansR p n Es Gs Bs) vs H Q E
abbrev G_check_safe (P : Program) (w : World) (K : PySem.W.Frag) (mg : Str → Option Value) (base : Heap) : Prop := GFn P w K mg base "check_safe" 10 ["machine", "bad"] (sp_check_safe K)

theorem ok_check_safe (T : TopF K mg) (g_Machine_came_from : G_Machine_came_from P w K mg base) (g_System_is_solution : G_System_is_solution P w K mg base) (g_basis : G_basis P w K mg base) (g_factors : G_factors P w K mg base) (g_mk_System : G_mk_System P w K mg base) (g_one_of : G_one_of P w K mg base) (g_run_to : G_run_to P w K mg base) (g_stepped : G_stepped P w K mg base) : G_check_safe P w K mg base := by
  refine T.d_check_safe.fn sc_check_safe bd_check_safe (fun vs H Q E h => ?len) fun f cdv A outer s H vs Q E hr h => ?walk
  case walk =>
    have hu := room1 hr
    have hu3 := room3 hr
    have hu64 := hr.units
    have hu65 := room65 hr
    refine ⟨_, (pss_cons (ps_set (i := 2) sc_check_safe.nd rfl (Or.inr rfl) (k_fld (K := K) rfl (pv 0) rfl))
      (pss_cons (ps_set (i := 3) sc_check_safe.nd rfl (Or.inl rfl) (pe_mt0 (pv 0) T.c_Machine g_Machine_came_from hr (by decide)))
      (pss_cons (ps_lock (ps_for PassesOwn.never rfl (pi_keys (pv 3)) (pg_name (i := 4) sc_check_safe.nd rfl (Or.inl rfl))
      (pss_one (ps_if (pt_val (pe_mt (pv 1) T.c_System g_System_is_solution hr (by decide) (pa_cons (pv 4) pa_nil))) (pss_one (ps_ret (pe_tup (pa_cons pe_str (pa_cons (pe_fn g_run_to hr (by decide) (by rfl) (pa_cons (pv 3) (pa_cons (pv 4) pa_nil))) pa_nil))))) pss_nil))))
      (pss_cons (ps_set (i := 5) sc_check_safe.nd rfl (Or.inr rfl) (pe_fn g_basis hr (by decide) (by rfl) (pa_cons (pv 2) (pa_cons (pe_callB (cr_sortedD rfl hu64) (by rfl) T.b_sorted (by decide +kernel) (pa_cons (pv 3) pa_nil)) (pa_cons pe_str pa_nil)))))
      (pss_cons (ps_setLc (i := 6) (own := [("one", 8)]) (g := (gName 8)) (by rfl) sc_check_safe.nd rfl rfl (sw_true rfl rfl rfl (by decide +kernel)) (k_piL (K := K) rfl (pv 5)) (blkOk_by (own := [("one", 8)]) (N := n_check_safe) (sc := defScope s_check_safe) (by decide +kernel)) (fun _ _ _ _ _ => (pg_name (i := 8) sc_check_safe.nd rfl (Or.inl rfl))) (fun _ _ _ _ _ => pts_nil) (fun _ _ _ _ _ => (pe_fn g_factors hr (by decide) (by rfl) (pa_cons (k_fld (K := K) rfl (pv 0) rfl) (pa_cons (pv 8) pa_nil)))))
      (pss_cons (ps_setLc (i := 7) (own := [("one", 8)]) (g := (gName 8)) (by rfl) sc_check_safe.nd rfl rfl (sw_true rfl rfl rfl (by decide +kernel)) (k_piL (K := K) rfl (pe_fn g_stepped hr (by decide) (by rfl) (pa_cons (pv 0) (pa_cons (pv 5) pa_nil)))) (blkOk_by (own := [("one", 8)]) (N := n_check_safe) (sc := defScope s_check_safe) (by decide +kernel)) (fun _ _ _ _ _ => (pg_name (i := 8) sc_check_safe.nd rfl (Or.inl rfl))) (fun _ _ _ _ _ => pts_nil) (fun _ _ _ _ _ => (pe_fn g_factors hr (by decide) (by rfl) (pa_cons (pe_mk g_mk_System hr (by decide) (by rfl) (pa_cons (pv 2) (pa_cons (pv 5) pa_nil))) (pa_cons (pv 8) pa_nil)))))
      (pss_one (ps_ret (pe_tup (pa_cons pe_str (pa_cons (pv 5) (pa_cons (pv 6) (pa_cons (pv 7) (pa_cons (pe_fn g_factors hr (by decide) (by rfl) (pa_cons (pe_mk g_mk_System hr (by decide) (by rfl) (pa_cons (pv 2) (pa_cons (pe_op op_cat (pv 5) (k_fld (K := K) rfl (pv 1) rfl)) pa_nil))) (pa_cons (pe_fn g_one_of hr (by decide) (by rfl) (pa_cons (pv 2) pa_nil)) pa_nil))) pa_nil)))))))))))))), ?_⟩
    obtain ⟨p, n, Es, Gs, Bs, S, hE, hG, hB, r, k⟩ := h
    obtain ⟨a1, a2, rfl, r1, r2⟩ := All.l2 r
    have hz := S.pts
    refine sq (s_set (ev_maSpace T (ev_var rfl r1)) fun sp H1 e1 rs => ?_)
    dsimp only [List.set]
    refine sq (s_set (R := fun v H' => ∃ c ns, NInv (stepP p Gs) (solsP p n Es) (pts p n) c ns ∧ atLev c ns = [] ∧ cameR ns v H') (ev_meth (ev_var rfl (Mono.up e1 r1)) (fun x H1 r => ma_ins r fun v1 v2 v3 => rfl) ea_nil fun vs H1 Q E h => ⟨p, n, Es, Gs, S, by omega, hG, h⟩) fun cv H2 e2 rc => ?_)
    obtain ⟨c, ns, I, he, d, kvs, rfl, hd, hN⟩ := rc
    have e12 := e1.trans e2
    have hnl : ns.length ≤ 27 := by
      have h1 := nodup_len I.nd (fun x hx => mem_pts.mp (I.inn x hx))
      rw [List.length_map] at h1
      omega
    have hkl : kvs.length = ns.length := by
      have := congrArg List.length hN.keys
      rw [List.length_map, List.length_map] at this
      exact this
    have r22 : syR K p n Bs a2 H2 := Mono.up e12 r2
    dsimp only [List.set]
    refine sq (s_lockR (i := 3) (kvs := kvs) rfl hd (fun i σ' H' => ∃ v4, σ' = [some a1, some a2, some sp, some (.ref d), v4, none, none, none, none] ∧ ∀ s ∈ ns.take i, solB p Bs s.1 = false) (fun od H3 e3 => ⟨none, rfl, fun s hs => by rw [List.take_zero] at hs; cases hs⟩) (fun od H3 i a x σ' H0 H' bk ha e3 e0 pv e' hdz hx => ?_) fun σ' H' e' pv => ?_)
    · obtain ⟨v4, rfl, hbad⟩ := pv
      obtain ⟨t, ht, het⟩ : ∃ t, ns[i]? = some t ∧ a.1 = t.1 := by
        have h1 : (kvs.map (·.1))[i]? = some a.1 := at_map ha
        rw [hN.keys, keysN, List.getElem?_map] at h1
        obtain ⟨t, h2, h3⟩ := Option.map_eq_some_iff.mp h1
        exact ⟨t, h2, h3.symm⟩
      rw [het] at hx
      have htn := List.mem_of_getElem? ht
      have hxD : t.1 ∈ pts p n := I.inn _ (List.mem_map.mpr ⟨t, htn, rfl⟩)
      have e3' := e3.trans (e0.trans e')
      have r2' : syR K p n Bs a2 H' := Mono.up e3' (r22.lock hd)
      have hN' : NdsR ns kvs H' := (hN.up (TEx.upd hd trivial)).up e3'.t
      dsimp only [gName, List.set]
      refine s_if (b := solB p Bs t.1) (et_test (ev_meth (ev_var rfl r2') (fun x H1 r => sy_ins r fun vs ve => rfl) (ea_cons (ev_var rfl hx) ea_nil) fun vs H1 Q E h => ⟨p, n, Bs, t.1, S, by omega, hxD, h⟩)) (fun hb H4 e4 => ?_) fun hb H4 e4 => s_next ?_
      · refine s_ret (ev_tup (Rs := [Is (.str "run"), runV (stepP p Gs) (solsP p n Es) t.1 t.2.2]) (ea_cons ev_c (ea_cons (ev_call (Rs := [fun v H => dF d kvs v H ∧ NdsR ns kvs H, ptR t.1]) (ea_cons (m := ⟨fun e h => ⟨Mono.up e h.1, h.2.up e.t⟩⟩) (ev_var (m := ⟨fun e h => ⟨Mono.up e h.1, h.2.up e.t⟩⟩) rfl ⟨⟨rfl, _, e4.at hdz⟩, hN'.up e4.t⟩) (ea_cons (ev_var rfl (TMono.up e4.t hx)) ea_nil)) fun vs H1 Q E h => ?_) ea_nil)) (by show 2 ≤ _; decide)) fun v H5 e5 rv => ?_
        · obtain ⟨r, k⟩ := h
          obtain ⟨b1, b2, rfl, q1, q2⟩ := All.l2 r
          exact ⟨_, _, _, c, ns, t, d, kvs, I, by have := lev_lt I htn; omega, htn, q1.2, .cons q1.1 (.cons q2 .nil), k⟩
        · have h5 : H5 d = some (.frz od (DT kvs)) := e5.at (e4.at hdz)
          refine ⟨h5, k v _ (e12.trans (Ext.lock hd (e3'.trans (e4.trans e5)))) (.inl ?_)⟩
          obtain ⟨b, us, rfl, hb5, rr⟩ := rv
          obtain ⟨b1, b2, rfl, q1, run, hrun, q2⟩ := All.l2 rr
          have tx : TEx H5 (upd H5 d (DT kvs)) := TEx.updU h5 (fun h => h)
          have := lev_lt I htn
          exact ⟨t.1, t.2.2, run, ⟨hrun, hb, by omega, first_least I he (bad := solB p Bs) ht hbad⟩, b, _, rfl, tx.tup hb5, .cons q1 (.cons (q2.updU h5 (fun h => h) (fun _ z => nomatch z)) .nil)⟩
      · refine ⟨e0.trans (e'.trans e4), some x, rfl, fun s hs => ?_⟩
        rw [take_at ht] at hs
        rcases List.mem_append.mp hs with h | h
        · exact hbad s h
        · rw [List.mem_singleton.mp h]; exact hb
    · obtain ⟨v4, rfl, hbad⟩ := pv
      rw [hkl, List.take_length] at hbad
      have hd3 : (upd H' d (DT kvs)) d = some (DT kvs) := upd_same
      generalize upd H' d (DT kvs) = H3 at e' hd3
      have e13 := e12.trans e'
      have rs3 : spR K p n sp H3 := Mono.up (e2.trans e') rs
      have r13 : maR K p n Es Gs a1 H3 := Mono.up e13 r1
      have hne : ∀ t ∈ kvs, t.1 ≠ [] := fun t ht e => by
        have h1 : t.1 ∈ keysN ns := by rw [← hN.keys]; exact List.mem_map.mpr ⟨t, ht, rfl⟩
        have h2 := (mem_pts.mp (I.inn _ h1)).1
        have h3 := S.n
        rw [e] at h2
        simp at h2
        omega
      have hPl : (reachP ns).length ≤ 27 := by rw [sortP_len, List.length_map]; exact hnl
      have hPi : ∀ x ∈ reachP ns, inSp p n x := fun x hx => mem_pts.mp (I.inn x (mem_reachP.mp hx))
      have hsafe := safe_ok (Bs := Bs) S I he hbad
      have hff := fun F (hF : F ∈ basF p n (reachP ns)) => foll_first S I hF
      have hfk := fun F (hF : F ∈ basF p n (reachP ns)) => foll_kept S I he hF
      have hfa := foll_apart (Bs := Bs) S I hbad
      dsimp only [List.set]
      refine sq (s_set (R := lstR ((basF p n (reachP ns)).map (polyR p n))) (ev_call (ea_cons (ev_var rfl rs3) (ea_cons (EvN.ev (EvN.cast (Rs' := (reachP ns).map ptR) (ev_sortD (kvs := kvs) (ea_cons (ev_var rfl ⟨d, rfl, hd3⟩) ea_nil) hne) (by rw [hN.keys]))) (ea_cons ev_c ea_nil))) fun vs H1 Q E h => ⟨p, n, reachP ns, S, by omega, hPi, h⟩) fun iv H4 e4 ri => ?_)
      have hno : NoBad p n Es Gs Bs := fun j y hr => by
        obtain ⟨s, hs, rfl, _⟩ := ninv_end I he j y hr
        exact hbad s hs
      generalize basF p n (reachP ns) = Fs at hsafe hff hfk hfa ri
      have hFl := hsafe.len
      have r14 : maR K p n Es Gs a1 H4 := Mono.up e4 r13
      have rs4 : spR K p n sp H4 := Mono.up e4 rs3
      dsimp only [List.set]
      refine sq (s_setN (EvNN.n (ev_lcN (Ss := fun F => (facL p Es F).map (polyR p n)) (xs := Fs) (A := polyR p n) (srcD_list (ev_var rfl ri)) (by rw [sizeLine_eq]; omega) fun F v H5 hF e5 rv => ⟨rfl, rfl, ev_callN (ea_cons (ev_maStart T (ev_var rfl (Mono.up e5 r14))) (ea_cons (ev_var rfl rv) ea_nil)) fun vs H1 Q E h => ⟨p, n, Es, F, S, by omega, hff F hF, h⟩⟩)) fun pa va H5 hpa e5 h5 ra => ?_)
      dsimp only [List.set]
      have r15 : maR K p n Es Gs a1 H5 := Mono.up e5 r14
      have rs5 : spR K p n sp H5 := Mono.up e5 rs4
      have ri5 := Mono.up e5 ri
      refine sq (s_setN (EvNN.n (ev_lcN (Ss := fun F => (facL p Fs F).map (polyR p n)) (xs := Fs.map (stepF p Gs)) (A := polyR p n) (srcD_list (EvN.ev (ev_callN (ea_cons (ev_var rfl r15) (ea_cons (ev_var rfl ri5) ea_nil)) fun vs H1 Q E h => ⟨p, n, Es, Gs, Fs, S, hG, by omega, h⟩))) (by rw [List.length_map, sizeLine_eq]; omega) fun F v H6 hF e6 rv => ⟨rfl, rfl, ev_callN (Rs := [syR K p n Fs, polyR p n F]) (ea_cons (ev_mk (ea_cons (ev_var rfl (Mono.up e6 rs5)) (ea_cons (ev_var rfl (Mono.up e6 ri5)) ea_nil)) fun vs H1 Q E h => ⟨p, n, Fs, h⟩) (ea_cons (ev_var rfl rv) ea_nil)) fun vs H1 Q E h => ⟨p, n, Fs, F, S, by omega, by obtain ⟨F0, h0, rfl⟩ := List.mem_map.mp hF; exact hfk F0 h0, h⟩⟩)) fun pk vk H6 hpk e6 h6 rk => ?_)
      dsimp only [List.set]
      have e56 := e5.trans e6
      have ra6 : llR p n (Fs.map (facL p Es)) (.ref pa) H6 := Mono.up e6 ⟨pa, va, rfl, h5, by rw [List.map_map]; exact ra⟩
      have rk6 : llR p n ((Fs.map (stepF p Gs)).map (facL p Fs)) (.ref pk) H6 := ⟨pk, vk, rfl, h6, by rw [List.map_map (g := fun A : List (Pt → Int) => lstR (A.map (polyR p n)))]; exact rk⟩
      have ri6 := Mono.up e6 ri5
      have rs6 : spR K p n sp H6 := Mono.up e6 rs5
      have r26 : syR K p n Bs a2 H6 := Mono.up (e'.trans (e4.trans e56)) r22
      refine s_ret (ev_tup (Rs := [Is (.str "safe"), lstR (Fs.map (polyR p n)), llR p n (Fs.map (facL p Es)), llR p n ((Fs.map (stepF p Gs)).map (facL p Fs)), lstR ((facL p (Fs ++ Bs) fun _ => 1).map (polyR p n))]) (ea_cons ev_c (ea_cons (ev_var rfl ri6) (ea_cons (ev_var rfl ra6) (ea_cons (ev_var rfl rk6) (ea_cons (EvN.ev (ev_callN (Rs := [syR K p n (Fs ++ Bs), polyR p n fun _ => 1]) (ea_cons (ev_mk (Rs := [spR K p n, lstR ((Fs ++ Bs).map (polyR p n))]) (ea_cons (ev_var rfl rs6) (ea_cons (EvN.ev (EvN.cast (ev_catL (ev_var rfl ri6) (ev_syEqs T (ev_var rfl r26)) (by rw [List.length_map, List.length_map, sizeLine_eq]; omega)) (by rw [List.map_append]))) ea_nil)) fun vs H1 Q E h => ⟨p, n, Fs ++ Bs, h⟩) (ea_cons (Ev.imp (ev_call (R := polyY p n fun _ => 1) (ea_cons (ev_var rfl rs6) ea_nil) fun vs H1 Q E h => ⟨p, n, S, h⟩) fun v H1 e r => r.r) ea_nil)) fun vs H1 Q E h => ⟨p, n, Fs ++ Bs, fun _ => 1, S, by rw [List.length_append]; omega, hfa, h⟩)) ea_nil))))) (by show 5 ≤ _; decide)) fun v H7 e7 rv => k v H7 (e13.trans (e4.trans (e56.trans e7))) (.inr ⟨hno, Fs, _, _, _, hsafe, rv⟩)
  case len => obtain ⟨p, n, Es, Gs, Bs, _, _, _, _, r, _⟩ := h; exact r.length
end SP
end
section
set_option Elab.async false
set_option linter.all false
set_option maxRecDepth 100000
set_option maxHeartbeats 4000000
namespace SP
open PySem PyProof.Rows L2
variable {P : Program} {w : World} {K : PySem.W.Frag} {mg : Str → Option Value} {base : Heap}
theorem cut_toG {α : Type} {xs : List α} {i : Nat} (h : i ≤ xs.length) : cutL xs none (some (i : Int)) = xs.take i := by
  unfold cutL
  rw [HT.sIx_none, HT.sIx_nat, Nat.min_eq_left h]
  rfl
theorem cut_fromG {α : Type} {xs : List α} {i : Nat} (h : i ≤ xs.length) : cutL xs (some (i : Int)) none = xs.drop i := by
  unfold cutL
  rw [HT.sIx_none, HT.sIx_nat, Nat.min_eq_left h]
  exact List.take_of_length_le (by rw [List.length_drop]; omega)
theorem path_in {f : Pt → Pt} {D : List Pt} (hf : ∀ x ∈ D, f x ∈ D) : ∀ {run : List Pt}, PathF f run → (∀ s, run.head? = some s → s ∈ D) → ∀ y ∈ run, y ∈ D
  | [], _, _, y, hy => nomatch hy
  | [x], _, h, y, hy => by rw [List.mem_singleton.mp hy]; exact h x rfl
  | x :: z :: r, hp, h, y, hy => by
    have hx : x ∈ D := h x rfl
    rcases List.mem_cons.mp hy with rfl | hy
    · exact hx
    · refine path_in hf (run := z :: r) hp.2 (fun s hs => ?_) y hy
      cases hs
      rw [← hp.1]
      exact hf x hx
theorem path_zip {f : Pt → Pt} : ∀ {run : List Pt}, PathF f run → ∀ t ∈ run.zip (run.drop 1), f t.1 = t.2
  | [], _, t, ht => by simp at ht
  | [x], _, t, ht => by simp at ht
  | x :: z :: r, hp, t, ht => by
    rcases List.mem_cons.mp (show t ∈ (x, z) :: (z :: r).zip ((z :: r).drop 1) from ht) with rfl | h
    · exact hp.1
    · exact path_zip (run := z :: r) hp.2 t h
abbrev n_is_run : List Str := ["machine", "points", "point", "here", "there"]
theorem sc_is_run : FnScope n_is_run ["machine", "points"] (defScope s_is_run) := ⟨rfl, rfl, rfl, by decide +kernel, rfl, by decide +kernel, by decide +kernel⟩
theorem bd_is_run : BindB "is_run" "is_run" s_is_run ["machine", "points"] := fun _ _ _ _ _ _ us hl => match us, hl with | [_, _], _ => rfl

def sp_is_run (K : PySem.W.Frag) : Sp := fun vs H Q E => ∃ (p n : Nat) (Es Gs : List (Pt → Int)) (x : Pt) (l : Nat) (run : List Pt), Shape p n ∧ Es.length ≤ 1000 ∧ Gs.length = n ∧ l ≤ 100 ∧ RunOk (stepP p Gs) (solsP p n Es) x l run ∧ SpR [maR K p n Es Gs, lstR (run.map ptR)] (IsB true) vs H Q E
abbrev G_is_run (P : Program) (w : World) (K : PySem.W.Frag) (mg : Str → Option Value) (base : Heap) : Prop := GFn P w K mg base "is_run" 6 ["machine", "points"] (sp_is_run K)

theorem ok_is_run (T : TopF K mg) (g_Machine_after : G_Machine_after P w K mg base) (g_Space_is_point : G_Space_is_point P w K mg base) (g_System_is_solution : G_System_is_solution P w K mg base) : G_is_run P w K mg base := by
  refine T.d_is_run.fn sc_is_run bd_is_run (fun vs H Q E h => ?len) fun f cdv A outer s H vs Q E hr h => ?walk
  case walk =>
    have hu := room1 hr
    have hu3 := room3 hr
    have hu64 := hr.units
    have hu65 := room65 hr
    refine ⟨_, (pss_cons (ps_if (PW.pt (pw_or (pt_cmpR op_eq (pe_callB (k_len (K := K) rfl) (by rfl) T.b_len (by decide +kernel) (pa_cons (pv 1) pa_nil)) pe_int (nomark _)) (pw_or1 (pt_not (pt_val (pe_callB (k_all (K := K) rfl rfl) (by rfl) T.b_all (by decide +kernel) (pa_cons (pe_lc (own := [("point", 2)]) (g := (gName 2)) (by rfl) sc_is_run.nd (k_piL (K := K) rfl (pv 1)) (blkOk_by (own := [("point", 2)]) (N := n_is_run) (sc := defScope s_is_run) (by decide +kernel)) (fun _ _ _ _ _ => (pg_name (i := 2) sc_is_run.nd rfl (Or.inl rfl))) (fun _ _ _ _ _ => pts_nil) (fun _ _ _ _ _ => (pe_mt (k_fld (K := K) rfl (pv 0) rfl) T.c_Space g_Space_is_point hr (by decide) (pa_cons (pv 2) pa_nil)))) pa_nil))))))) (pss_one (ps_ret pe_bl)) pss_nil)
      (pss_cons (ps_if (pt_not (pt_val (pe_mt (k_fld (K := K) rfl (pv 0) rfl) T.c_System g_System_is_solution hr (by decide) (pa_cons (pe_ix (k_ixL (K := K) rfl) (pv 1) pe_int (fun _ _ => rfl)) pa_nil)))) (pss_one (ps_ret pe_bl)) pss_nil)
      (pss_one (ps_ret (pe_callB (k_all (K := K) rfl rfl) (by rfl) T.b_all (by decide +kernel) (pa_cons (pe_lc (own := [("here", 3), ("there", 4)]) (g := (gTup K 2 (gCons (gName 3) (gCons (gName 4) gNil)))) (by rfl) sc_is_run.nd (k_zipA (K := K) rfl (by rfl) T.b_zip (pa_cons (pv 1) (pa_cons (pe_slice (k_slL (K := K) rfl) (pv 1) (po_some pe_int) po_none) pa_nil))) (blkOk_by (own := [("here", 3), ("there", 4)]) (N := n_is_run) (sc := defScope s_is_run) (by decide +kernel)) (fun _ _ _ _ _ => (pg_tup rfl (pgs_cons (pg_name (i := 3) sc_is_run.nd rfl (Or.inl rfl)) (pgs_cons (pg_name (i := 4) sc_is_run.nd rfl (Or.inl rfl)) pgs_nil)))) (fun _ _ _ _ _ => pts_nil) (fun _ _ _ _ _ => (pe_cmpR (k_eqD (K := K) rfl hu64) (pe_mt (pv 0) T.c_Machine g_Machine_after hr (by decide) (pa_cons (pv 3) pa_nil)) (pv 4) (nomark _)))) pa_nil)))))), ?_⟩
    obtain ⟨p, n, Es, Gs, x, l, run, S, hE, hG, hl, hrun, r, k⟩ := h
    obtain ⟨a1, a2, rfl, r1, r2⟩ := All.l2 r
    have hp := S.p
    have hn := S.n
    obtain ⟨s, hs, hhd⟩ := hrun.start
    have hlen := hrun.len
    have hsD : s ∈ pts p n := (List.mem_filter.mp hs).1
    have hf : ∀ x ∈ pts p n, stepP p Gs x ∈ pts p n := fun x _ => step_in (by omega) hG x
    have hin : ∀ y ∈ run, y ∈ pts p n := path_in hf hrun.path fun s' h => by rw [hhd] at h; cases h; exact hsD
    have h0 : (run.map ptR)[0]? = some (ptR s) := by rw [List.getElem?_map, ← List.head?_eq_getElem?, hhd]; rfl
    refine sq (s_if (b := false) (EvT.to (et_or (a := false) (b := false) (EvT.to (et_test (ev_eqS (x := .int run.length) (y := .int 0) (ev_len (ea_cons (ev_var rfl r2) ea_nil) fun v H1 r => by
          have h := len_lst (K := K) r
          rw [List.length_map] at h
          exact h) ev_c rfl)) (by rw [hlen, decide_eq_false]; intro h; injection h with h; omega)) fun _ => EvT.to (et_not (et_test (ev_all (bs := run.map fun _ => true) (ea_cons (EvN.ev (ev_lc2v (C := IsB) (val := fun _ : Pt => true) (xs := run) (A := ptR) (srcD_list (ev_var rfl r2)) (by rw [hlen, sizeLine_eq]; omega) fun y v H1 hy e1 rv => ⟨rfl, rfl, Ev.to (ev_meth (R := IsB (decide (inSp p n y))) (ev_maSpace T (ev_var rfl (Mono.up e1 r1))) (fun x H1 r => sp_ins r fun nm => rfl) (ea_cons (ev_var rfl rv) ea_nil) fun vs H1 Q E h => ⟨p, n, y, S, by rw [(mem_pts.mp (hin y hy)).1]; omega, h⟩) (by rw [decide_eq_true (mem_pts.mp (hin y hy))])⟩)) ea_nil)))) (by rw [List.all_map]; simp)) rfl) (fun hb => by cases hb) fun hb H1 e1 => s_next ?_)
    have r11 : maR K p n Es Gs a1 H1 := Mono.up e1 r1
    have r21 : lstR (run.map ptR) a2 H1 := Mono.up e1 r2
    dsimp only
    refine sq (s_if (b := false) (EvT.to (et_not (et_test (ev_meth (R := IsB (solB p Es s)) (ev_maStart T (ev_var rfl r11)) (fun x H1 r => sy_ins r fun vs ve => rfl) (ea_cons (ev_ixL (n := 0) (R := ptR s) (ev_var rfl r21) ev_c h0) ea_nil) fun vs H1 Q E h => ⟨p, n, Es, s, S, hE, hsD, h⟩))) (by rw [(List.mem_filter.mp hs).2]; rfl)) (fun hb => by cases hb) fun hb H2 e2 => s_next ?_)
    have r12 : maR K p n Es Gs a1 H2 := Mono.up e2 r11
    have r22 : lstR (run.map ptR) a2 H2 := Mono.up e2 r21
    have hcut : cutL (run.map ptR) (some 1) none = (run.drop 1).map ptR := by
      rw [show (1 : Int) = ((1 : Nat) : Int) from rfl, cut_fromG (by rw [List.length_map]; omega), List.map_drop]
    dsimp only
    refine s_ret (ev_all (bs := (run.zip (run.drop 1)).map fun t => decide (stepP p Gs t.1 = t.2)) (ea_cons (EvN.ev ?_) ea_nil)) fun v H3 e3 rv => k v H3 (e1.trans (e2.trans e3)) ?_
    · refine ev_lc2v (C := IsB) (val := fun t : Pt × Pt => decide (stepP p Gs t.1 = t.2)) (xs := run.zip (run.drop 1)) (A := fun t => tupR [ptR t.1, ptR t.2]) (srcD_zipL (A := ptR) (B := ptR) (ea_cons (ev_var rfl r22) (ea_cons (EvN.ev (EvN.cast (ev_slL (ev_var rfl r22) (eo_some ev_c) eo_none (by rw [hcut]; exact inferInstance)) hcut)) ea_nil))) (by rw [List.length_zip, hlen, sizeLine_eq]; omega) fun t v H3 ht e3 rv => g_pair rv fun u1 u2 q1 q2 => ⟨rfl, rfl, ?_⟩
      exact ev_eqP (ev_meth (ev_var rfl (Mono.up e3 r12)) (fun x H1 r => ma_ins r fun v1 v2 v3 => rfl) (ea_cons (ev_var rfl q1) ea_nil) fun vs H1 Q E h => ⟨p, n, Es, Gs, t.1, S, by omega, hin _ (List.of_mem_zip ht).1, h⟩) (ev_var rfl q2)
    rw [List.all_map] at rv
    rw [show v = _ from rv]
    show V.bl _ = V.bl true
    congr 1
    rw [List.all_eq_true]
    exact fun t ht => decide_eq_true (path_zip hrun.path t ht)
  case len => obtain ⟨p, n, Es, Gs, x, l, run, _, _, _, _, _, r, _⟩ := h; exact r.length
section
variable {K : PySem.W.Frag} {σ : L2.St} {H : Hp} {ta : TE} {Rs : List RS}
theorem ev_slTM [AllM Rs] {tl th : TO} {lo hi : Option Int} (ha : Ev ta σ H (tupR Rs)) (h1 : EvO tl σ H lo) (h2 : EvO th σ H hi) (hm : AllM (cutL Rs lo hi)) : Ev (tSl (rSlA K) ta tl th) σ H (tupR (cutL Rs lo hi)) := fun H1 e Q q =>
  ha H1 e _ fun x H2 e2 rx => h1 H2 (e.trans e2) _ fun H3 e3 => h2 H3 ((e.trans e2).trans e3) _ fun H4 e4 => by
    have rx' : tupR Rs x H4 := Mono.up (e3.trans e4) rx
    obtain ⟨a, vs, rfl, h5, r⟩ := rx'
    refine ⟨a, vs, rfl, SqT.of h5, fun z => ?_, fun z p hp => ?_⟩
    · refine q _ H4 ((e2.trans e3).trans e4) ⟨a, vs, rfl, h5, ?_⟩
      rw [cutL_whole (by rw [← r.length]; exact z)]
      exact r
    · have e5 : Ext H4 (upd H4 p (.tup (cutV vs lo hi))) := Ext.new _ hp
      exact q _ _ (((e2.trans e3).trans e4).trans e5) ⟨p, _, rfl, upd_same, All.up e5 (cut_all r)⟩
theorem g_quad {i j k l : Nat} {v : V} {Ra Rb Rc Rd : RS} {q : L2.St → Hp → Prop} (h : tupR [Ra, Rb, Rc, Rd] v H) (hq : ∀ x y z w, Ra x H → Rb y H → Rc z H → Rd w H → q ((((σ.set i (some x)).set j (some y)).set k (some z)).set l (some w)) H) :
    gTup K 4 (gCons (gName i) (gCons (gName j) (gCons (gName k) (gCons (gName l) gNil)))) v σ H q := by
  obtain ⟨a, vs, rfl, h1, r⟩ := h
  obtain ⟨x, y, z, w, rfl, rx, ry, rz, rw'⟩ := All.l4 r
  exact ⟨a, _, rfl, SqT.of h1, rfl, _, _, rfl, _, _, rfl, _, _, rfl, _, _, rfl, rfl, hq x y z w rx ry rz rw'⟩
theorem s_asg {g : TG} {D : Ends} {R : RS} (h : Ev ta σ H R) (k : ∀ v H1, Ext H H1 → R v H1 → g v σ H1 D.nx) : tAsg ta g D σ H := h H (Ext.refl _) _ k
end
abbrev n_judge_safe : List Str := ["machine", "bad", "answer", "space", "invariant", "first", "kept", "apart", "one"]
theorem sc_judge_safe : FnScope n_judge_safe ["machine", "bad", "answer"] (defScope s_judge_safe) := ⟨rfl, rfl, rfl, by decide +kernel, rfl, by decide +kernel, by decide +kernel⟩
theorem bd_judge_safe : BindB "judge_safe" "judge_safe" s_judge_safe ["machine", "bad", "answer"] := fun _ _ _ _ _ _ us hl => match us, hl with | [_, _, _], _ => rfl

def sp_judge_safe (K : PySem.W.Frag) : Sp := fun vs H Q E => ∃ (p n : Nat) (Es Gs Bs : List (Pt → Int)), Shape p n ∧ Es.length ≤ 500 ∧ Gs.length = n ∧ Bs.length ≤ 500 ∧ SpR [maR K p n Es Gs, syR K p n Bs, ansR p n Es Gs Bs] (IsB true) vs H Q E
abbrev G_judge_safe (P : Program) (w : World) (K : PySem.W.Frag) (mg : Str → Option Value) (base : Heap) : Prop := GFn P w K mg base "judge_safe" 7 ["machine", "bad", "answer"] (sp_judge_safe K)

theorem ok_judge_safe (T : TopF K mg) (g_System_is_solution : G_System_is_solution P w K mg base) (g_all_shown : G_all_shown P w K mg base) (g_is_polynomial : G_is_polynomial P w K mg base) (g_is_run : G_is_run P w K mg base) (g_mk_System : G_mk_System P w K mg base) (g_one_of : G_one_of P w K mg base) (g_stepped : G_stepped P w K mg base) : G_judge_safe P w K mg base := by
  refine T.d_judge_safe.fn sc_judge_safe bd_judge_safe (fun vs H Q E h => ?len) fun f cdv A outer s H vs Q E hr h => ?walk
  case walk =>
    have hu := room1 hr
    have hu3 := room3 hr
    have hu64 := hr.units
    have hu65 := room65 hr
    refine ⟨_, (pss_cons (ps_set (i := 3) sc_judge_safe.nd rfl (Or.inr rfl) (k_fld (K := K) rfl (pv 0) rfl))
      (pss_cons (ps_if (pt_cmpR op_eq (pe_ix (k_ixT (K := K) rfl) (pv 2) pe_int (fun _ _ => rfl)) pe_str (nomark _)) (pss_one (ps_ret (pe_and (pe_fn g_is_run hr (by decide) (by rfl) (pa_cons (pv 0) (pa_cons (pe_ix (k_ixT (K := K) rfl) (pv 2) pe_int (fun _ _ => rfl)) pa_nil))) (pe_one (pe_mt (pv 1) T.c_System g_System_is_solution hr (by decide) (pa_cons (pe_ix (k_ixL (K := K) rfl) (pe_ix (k_ixT (K := K) rfl) (pv 2) pe_int (fun _ _ => rfl)) (pe_un un_neg pe_int) (fun _ _ => rfl)) pa_nil)))))) pss_nil)
      (pss_cons (ps_asg (pe_slice (k_slA (K := K) rfl) (pv 2) (po_some pe_int) po_none) (pg_tup rfl (pgs_cons (pg_name (i := 4) sc_judge_safe.nd rfl (Or.inl rfl)) (pgs_cons (pg_name (i := 5) sc_judge_safe.nd rfl (Or.inl rfl)) (pgs_cons (pg_name (i := 6) sc_judge_safe.nd rfl (Or.inl rfl)) (pgs_cons (pg_name (i := 7) sc_judge_safe.nd rfl (Or.inl rfl)) pgs_nil))))))
      (pss_cons (ps_if (PW.pt (pw_or (pt_not (pt_val (pe_callB (k_all (K := K) rfl rfl) (by rfl) T.b_all (by decide +kernel) (pa_cons (pe_lc (own := [("one", 8)]) (g := (gName 8)) (by rfl) sc_judge_safe.nd (k_piL (K := K) rfl (pv 4)) (blkOk_by (own := [("one", 8)]) (N := n_judge_safe) (sc := defScope s_judge_safe) (by decide +kernel)) (fun _ _ _ _ _ => (pg_name (i := 8) sc_judge_safe.nd rfl (Or.inl rfl))) (fun _ _ _ _ _ => pts_nil) (fun _ _ _ _ _ => (pe_fn g_is_polynomial hr (by decide) (by rfl) (pa_cons (pv 3) (pa_cons (pv 8) pa_nil))))) pa_nil)))) (pw_or1 (pt_not (pt_val (pe_fn g_all_shown hr (by decide) (by rfl) (pa_cons (k_fld (K := K) rfl (pv 0) rfl) (pa_cons (pv 4) (pa_cons (pv 5) pa_nil))))))))) (pss_one (ps_ret pe_bl)) pss_nil)
      (pss_cons (ps_if (pt_not (pt_val (pe_fn g_all_shown hr (by decide) (by rfl) (pa_cons (pe_mk g_mk_System hr (by decide) (by rfl) (pa_cons (pv 3) (pa_cons (pv 4) pa_nil))) (pa_cons (pe_fn g_stepped hr (by decide) (by rfl) (pa_cons (pv 0) (pa_cons (pv 4) pa_nil))) (pa_cons (pv 6) pa_nil)))))) (pss_one (ps_ret pe_bl)) pss_nil)
      (pss_one (ps_ret (pe_fn g_all_shown hr (by decide) (by rfl) (pa_cons (pe_mk g_mk_System hr (by decide) (by rfl) (pa_cons (pv 3) (pa_cons (pe_op op_cat (pv 4) (k_fld (K := K) rfl (pv 1) rfl)) pa_nil))) (pa_cons (pe_lst (pa_cons (pe_fn g_one_of hr (by decide) (by rfl) (pa_cons (pv 3) pa_nil)) pa_nil)) (pa_cons (pe_lst (pa_cons (pv 7) pa_nil)) pa_nil))))))))))), ?_⟩
    obtain ⟨p, n, Es, Gs, Bs, S, hE, hG, hB, r, k⟩ := h
    obtain ⟨a1, a2, a3, rfl, r1, r2, r3⟩ := All.l3 r
    have hp := S.p
    refine sq (s_set (ev_maSpace T (ev_var rfl r1)) fun sp H1 e1 rs => ?_)
    have r11 : maR K p n Es Gs a1 H1 := Mono.up e1 r1
    have r21 : syR K p n Bs a2 H1 := Mono.up e1 r2
    dsimp only [List.set]
    rcases r3 with ⟨x, l, run, ra, r3⟩ | ⟨hno, Fs, As, Ks, Cs, ok, r3⟩
    · have r31 : ansRun run a3 H1 := Mono.up e1 r3
      obtain ⟨s, hs, hhd⟩ := ra.ok.start
      have hin : ∀ y ∈ run, y ∈ pts p n := path_in (fun x _ => step_in (by omega) hG x) ra.ok.path fun s' h => by rw [hhd] at h; cases h; exact (List.mem_filter.mp hs).1
      have hxD : x ∈ pts p n := hin x (List.mem_of_getLast? ra.ok.last)
      have hl := ra.len
      refine sq (s_if (b := true) (EvT.to (et_test (ev_eqS (x := .str "run") (y := .str "run") (ev_ixTM (n := 0) (ev_var rfl r31) ev_c rfl) ev_c rfl)) (by decide)) (fun hb H2 e2 => ?_) fun hb => by cases hb)
      have r32 : ansRun run a3 H2 := Mono.up e2 r31
      refine s_ret (ev_andV (a := true) (b := true) (ev_call (R := IsB true) (ea_cons (ev_var rfl (Mono.up e2 r11)) (ea_cons (ev_ixTM (n := 1) (R := lstR (run.map ptR)) (ev_var rfl r32) ev_c rfl) ea_nil)) fun vs H1 Q E h => ⟨p, n, Es, Gs, x, l, run, S, by omega, hG, by omega, ra.ok, h⟩) fun _ => Ev.to (ev_meth (R := IsB (solB p Bs x)) (ev_var rfl (Mono.up e2 r21)) (fun x H1 r => sy_ins r fun vs ve => rfl) (ea_cons (ev_ixLast (R := ptR x) (ev_ixTM (n := 1) (R := lstR (run.map ptR)) (ev_var rfl r32) ev_c rfl) (ev_neg ev_c) (by rw [List.getLast?_map, ra.ok.last]; rfl)) ea_nil) fun vs H1 Q E h => ⟨p, n, Bs, x, S, by omega, hxD, h⟩) (by rw [ra.bad])) fun v H3 e3 rv => k v H3 (e1.trans (e2.trans e3)) rv
    · have r31 : ansSafe p n Fs As Ks Cs a3 H1 := Mono.up e1 r3
      have hFl := ok.len
      refine sq (s_if (b := false) (EvT.to (et_test (ev_eqS (x := .str "safe") (y := .str "run") (ev_ixTM (n := 0) (ev_var rfl r31) ev_c rfl) ev_c rfl)) (by decide)) (fun hb => by cases hb) fun hb H2 e2 => s_next ?_)
      have r32 : ansSafe p n Fs As Ks Cs a3 H2 := Mono.up e2 r31
      have hcut : cutL [Is (.str "safe"), lstR (Fs.map (polyR p n)), llR p n As, llR p n Ks, lstR (Cs.map (polyR p n))] (some 1) none = [lstR (Fs.map (polyR p n)), llR p n As, llR p n Ks, lstR (Cs.map (polyR p n))] := by
        rw [show (1 : Int) = ((1 : Nat) : Int) from rfl, cut_fromG (by show 1 ≤ 5; decide)]
        rfl
      dsimp only
      refine sq (s_asg (R := tupR [lstR (Fs.map (polyR p n)), llR p n As, llR p n Ks, lstR (Cs.map (polyR p n))]) (hcut ▸ ev_slTM (ev_var rfl r32) (eo_some ev_c) eo_none (by rw [hcut]; exact inferInstance)) fun v H3 e3 rv => g_quad rv fun x1 x2 x3 x4 q1 q2 q3 q4 => ?_)
      have e13 := e2.trans e3
      have r13 : maR K p n Es Gs a1 H3 := Mono.up e13 r11
      have r23 : syR K p n Bs a2 H3 := Mono.up e13 r21
      have rs3 : spR K p n sp H3 := Mono.up e13 rs
      dsimp only [List.set]
      refine sq (s_if (b := false) (EvT.to (et_or (a := false) (b := false) (EvT.to (et_not (et_test (ev_all (bs := Fs.map fun _ => true) (ea_cons (EvN.ev (ev_lc2v (C := IsB) (val := fun _ : Pt → Int => true) (xs := Fs) (A := polyR p n) (srcD_list (ev_var rfl q1)) (by rw [sizeLine_eq]; omega) fun G v H4 hG4 e4 rv => ⟨rfl, rfl, ?_⟩)) ea_nil)))) (by rw [List.all_map]; simp)) fun _ => EvT.to (et_not (et_test (ev_call (R := IsB true) (ea_cons (ev_maStart T (ev_var rfl r13)) (ea_cons (ev_var rfl q1) (ea_cons (ev_var rfl q2) ea_nil))) fun vs H1 Q E h => ⟨p, n, Es, Fs, As, S, by omega, ok.la, ok.lA, ok.dA, h⟩))) rfl) rfl) (fun hb => by cases hb) fun hb H4 e4 => s_next ?_)
      · obtain ⟨f, cf, vf, rf⟩ := rv
        exact ev_call (ea_cons (ev_var rfl (Mono.up e4 rs3)) (ea_cons (ev_var rfl rf) ea_nil)) fun vs H1 Q E h => ⟨p, n, f, S, cf, h⟩
      have r14 : maR K p n Es Gs a1 H4 := Mono.up e4 r13
      have r24 : syR K p n Bs a2 H4 := Mono.up e4 r23
      have rs4 : spR K p n sp H4 := Mono.up e4 rs3
      have q14 := Mono.up e4 q1
      have q34 := Mono.up e4 q3
      have q44 := Mono.up e4 q4
      dsimp only
      refine sq (s_if (b := false) (EvT.to (et_not (et_test (ev_call (Rs := [syR K p n Fs, lstR ((Fs.map (stepF p Gs)).map (polyR p n)), llR p n Ks]) (R := IsB true) (ea_cons (ev_mk (Rs := [spR K p n, lstR (Fs.map (polyR p n))]) (ea_cons (ev_var rfl rs4) (ea_cons (ev_var rfl q14) ea_nil)) fun vs H1 Q E h => ⟨p, n, Fs, h⟩) (ea_cons (EvN.ev (ev_callN (ea_cons (ev_var rfl r14) (ea_cons (ev_var rfl q14) ea_nil)) fun vs H1 Q E h => ⟨p, n, Es, Gs, Fs, S, hG, by omega, h⟩)) (ea_cons (ev_var rfl q34) ea_nil))) fun vs H1 Q E h => ⟨p, n, Fs, Fs.map (stepF p Gs), Ks, S, by omega, by rw [List.length_map]; exact ok.lk, ok.lK, ok.dK, h⟩))) rfl) (fun hb => by cases hb) fun hb H5 e5 => s_next ?_)
      have r25 : syR K p n Bs a2 H5 := Mono.up e5 r24
      have rs5 : spR K p n sp H5 := Mono.up e5 rs4
      have q15 := Mono.up e5 q14
      have q45 := Mono.up e5 q44
      dsimp only
      refine s_ret (ev_call (Rs := [syR K p n (Fs ++ Bs), lstR ([fun _ => 1].map (polyR p n)), llR p n [Cs]]) (R := IsB true) (ea_cons (ev_mk (Rs := [spR K p n, lstR ((Fs ++ Bs).map (polyR p n))]) (ea_cons (ev_var rfl rs5) (ea_cons (EvN.ev (EvN.cast (ev_catL (ev_var rfl q15) (ev_syEqs T (ev_var rfl r25)) (by rw [List.length_map, List.length_map, sizeLine_eq]; omega)) (by rw [List.map_append]))) ea_nil)) fun vs H1 Q E h => ⟨p, n, Fs ++ Bs, h⟩) (ea_cons (EvN.ev (ev_lst (Rs := [polyR p n fun _ => 1]) (ea_cons (Ev.imp (ev_call (R := polyY p n fun _ => 1) (ea_cons (ev_var rfl rs5) ea_nil) fun vs H1 Q E h => ⟨p, n, S, h⟩) fun v H1 e r => r.r) ea_nil) (by show 1 ≤ _; decide))) (ea_cons (EvN.ev (ev_lst (Rs := [lstR (Cs.map (polyR p n))]) (ea_cons (ev_var rfl q45) ea_nil) (by show 1 ≤ _; decide))) ea_nil))) fun vs H1 Q E h => ⟨p, n, Fs ++ Bs, [fun _ => 1], [Cs], S, by rw [List.length_append]; omega, rfl, fun G hG => by rw [List.mem_singleton.mp hG]; exact ok.lc, fun t ht x hx => by rw [List.mem_singleton.mp (show t ∈ [((fun _ => 1 : Pt → Int), Cs)] from ht)]; exact ok.dC x hx, h⟩) fun v H6 e6 rv => k v H6 (e1.trans (e13.trans (e4.trans (e5.trans e6)))) rv
  case len => obtain ⟨p, n, Es, Gs, Bs, _, _, _, _, r, _⟩ := h; exact r.length
end SP
end
section
set_option Elab.async false
set_option linter.all false
set_option maxRecDepth 100000
set_option maxHeartbeats 4000000
namespace SP
open PySem PyProof.Rows L2
variable {P : Program} {w : World} {K : PySem.W.Frag} {mg : Str → Option Value} {base : Heap}
def sqR (K : PySem.W.Frag) (ns : List Int) : RS := fun v H => ∃ a, v = .ref a ∧ SqL K H a (ns.map V.int)
instance {K : PySem.W.Frag} {ns : List Int} : Mono (sqR K ns) := ⟨fun e ⟨a, h1, h2⟩ => ⟨a, h1, h2.imp (fun h => h.imp (fun h => e.at h) fun ⟨o, h⟩ => ⟨o, e.at h⟩) id⟩⟩
section
variable {K : PySem.W.Frag} {σ : L2.St} {H : Hp} {ta tb : TE} {t : TA} {ns : List Int} {j : Nat} {i : Int}
theorem len_sq {v : V} {H1 : Hp} (h : sqR K ns v H1) : LenV K v H1 ns.length := by
  obtain ⟨a, rfl, h⟩ := h
  exact .inl ⟨_, h, by rw [List.length_map]⟩
theorem ev_ixSq (ha : Ev ta σ H (sqR K ns)) (hb : Ev tb σ H (IsI j)) (hn : ns[j]? = some i) : Ev (tOp (rIxL K) ta tb) σ H (IsI i) :=
  ev_op ha hb fun x y H1 e rx ry Q q => by
    obtain rfl : y = .int j := ry
    obtain ⟨a, rfl, h⟩ := rx
    have hl := (List.getElem?_eq_some_iff.mp hn).1
    refine ⟨a, _, j, .int i, rfl, rfl, h, ?_, q _ H1 (Ext.refl _) rfl⟩
    rw [atI_nat (by rw [List.length_map]; exact hl), List.getElem?_map, hn]
    rfl
theorem ev_int (h : EvA t σ H [IsI i]) : Ev (tCB (fun xs H Q => (∃ i, xs = [V.int i] ∧ Q (.int i) H) ∨ ∃ k, xs = [V.bl k] ∧ Q (.int (if k then 1 else 0)) H) t) σ H (IsI i) := fun H1 e Q q =>
  h H1 e _ fun vs H2 e2 r => by
    obtain ⟨v, rfl, rfl⟩ := All.l1 r
    exact .inl ⟨i, rfl, q _ H2 e2 rfl⟩
theorem ev_intB {b : Bool} (h : EvA t σ H [IsB b]) : Ev (tCB (fun xs H Q => (∃ i, xs = [V.int i] ∧ Q (.int i) H) ∨ ∃ k, xs = [V.bl k] ∧ Q (.int (if k then 1 else 0)) H) t) σ H (IsI (if b then 1 else 0)) := fun H1 e Q q =>
  h H1 e _ fun vs H2 e2 r => by
    obtain ⟨v, rfl, rfl⟩ := All.l1 r
    exact .inr ⟨b, rfl, q _ H2 e2 rfl⟩
end
abbrev n_law_cell : List Str := ["_law_script", "_law_k"]
theorem sc_law_cell : FnScope n_law_cell ["_law_script", "_law_k"] (defScope s_law_cell) := ⟨rfl, rfl, rfl, by decide +kernel, rfl, by decide +kernel, by decide +kernel⟩
theorem bd_law_cell : BindB "_law_cell" "_law_cell" s_law_cell ["_law_script", "_law_k"] := fun _ _ _ _ _ _ us hl => match us, hl with | [_, _], _ => rfl

def sp_law_cell (K : PySem.W.Frag) : Sp := fun vs H Q E => ∃ (ns : List Int) (j : Nat), SpR [sqR K ns, IsI j] (IsI (ns[j]?.getD 0)) vs H Q E
abbrev G_law_cell (P : Program) (w : World) (K : PySem.W.Frag) (mg : Str → Option Value) (base : Heap) : Prop := GFn P w K mg base "_law_cell" 1 ["_law_script", "_law_k"] (sp_law_cell K)

theorem ok_law_cell (T : TopF K mg)  : G_law_cell P w K mg base := by
  refine T.d_law_cell.fn sc_law_cell bd_law_cell (fun vs H Q E h => ?len) fun f cdv A outer s H vs Q E hr h => ?walk
  case walk =>
    have hu := room1 hr
    have hu3 := room3 hr
    have hu64 := hr.units
    have hu65 := room65 hr
    refine ⟨_, (pss_cons (ps_if (pt_cmpR op_lt (pv 1) (pe_callB (k_len (K := K) rfl) (by rfl) T.b_len (by decide +kernel) (pa_cons (pv 0) pa_nil)) (nomark _)) (pss_one (ps_ret (pe_ix (k_ixL (K := K) rfl) (pv 0) (pv 1) (fun _ _ => rfl)))) pss_nil)
      (pss_one (ps_ret pe_int))), ?_⟩
    obtain ⟨ns, j, r, k⟩ := h
    obtain ⟨a1, _, rfl, r1, rfl⟩ := All.l2 r
    refine sq (s_if (b := decide ((j : Int) < (ns.length : Int))) (et_test (ev_I0 (ev_is rfl) (ev_len (ea_cons (ev_var rfl r1) ea_nil) fun v H1 r => len_sq r))) (fun hb H1 e1 => ?_) fun hb H1 e1 => s_next ?_)
    · have hj : j < ns.length := by have := of_decide_eq_true hb; omega
      exact s_ret (ev_ixSq (ev_var rfl (Mono.up e1 r1)) (ev_is rfl) (List.getElem?_eq_getElem hj)) fun v H2 e2 rv => k v H2 (e1.trans e2) (by rw [List.getElem?_eq_getElem hj]; exact rv)
    · have hj : ¬ j < ns.length := by have := of_decide_eq_false hb; omega
      dsimp only
      exact s_ret ev_c fun v H2 e2 rv => k v H2 (e1.trans e2) (by rw [List.getElem?_eq_none (by omega)]; exact rv)
  case len => obtain ⟨ns, j, r, _⟩ := h; exact r.length
abbrev n_law_digits : List Str := ["_law_cell_here", "_law_many", "_law_count", "_law_digits_here", "_law_rest", "_law_k", "_law_mixed"]
theorem sc_law_digits : FnScope n_law_digits ["_law_cell_here", "_law_many", "_law_count"] (defScope s_law_digits) := ⟨rfl, rfl, rfl, by decide +kernel, rfl, by decide +kernel, by decide +kernel⟩
theorem bd_law_digits : BindB "_law_digits" "_law_digits" s_law_digits ["_law_cell_here", "_law_many", "_law_count"] := fun _ _ _ _ _ _ us hl => match us, hl with | [_, _, _], _ => rfl

def digR (m : Int) (n : Nat) : RS := fun v H => ∃ ds : List Int, ds.length = n ∧ (∀ d ∈ ds, 0 ≤ d ∧ d < m) ∧ lstR (ds.map IsI) v H
instance {m : Int} {n : Nat} : Mono (digR m n) := ⟨fun e ⟨ds, h1, h2, h3⟩ => ⟨ds, h1, h2, Mono.up e h3⟩⟩
def sp_law_digits (K : PySem.W.Frag) : Sp := fun vs H Q E => ∃ (c m : Int) (n : Nat), 0 < m ∧ m < 1000000 ∧ n ≤ 1000 ∧ SpR [IsI c, IsI m, IsI n] (digR m n) vs H Q E
abbrev G_law_digits (P : Program) (w : World) (K : PySem.W.Frag) (mg : Str → Option Value) (base : Heap) : Prop := GFn P w K mg base "_law_digits" 1 ["_law_cell_here", "_law_many", "_law_count"] (sp_law_digits K)

theorem ok_law_digits (T : TopF K mg)  : G_law_digits P w K mg base := by
  refine T.d_law_digits.fn sc_law_digits bd_law_digits (fun vs H Q E h => ?len) fun f cdv A outer s H vs Q E hr h => ?walk
  case walk =>
    have hu := room1 hr
    have hu3 := room3 hr
    have hu64 := hr.units
    have hu65 := room65 hr
    refine ⟨_, (pss_cons (ps_set (i := 3) sc_law_digits.nd rfl (Or.inl rfl) (pe_lst pa_nil))
      (pss_cons (ps_set (i := 4) sc_law_digits.nd rfl (Or.inl rfl) (pv 0))
      (pss_cons (ps_for PassesOwn.never rfl (pi_range1 (by rfl) T.b_range (pa_cons (pv 2) pa_nil)) (pg_name (i := 5) sc_law_digits.nd rfl (Or.inl rfl))
      (pss_one (ps_if (pt_cmpR op_ge (pv 0) (pe_op op_pow pe_int pe_int) (nomark _)) (pss_cons (ps_expr (pe_bm PySem.F.plainAttrs_list PySem.F.slot_list_append PySem.F.type_list_append mt_append (pv 3) (pa_cons (pe_op op_mod (pe_callTy call_int1 (by rfl) T.b_int (by decide +kernel) (pa_cons (pv 4) pa_nil)) (pv 1)) pa_nil)))
      (pss_one (ps_set (i := 4) sc_law_digits.nd rfl (Or.inl rfl) (pe_op op_fdiv (pv 4) (pv 1))))) (pss_cons (ps_set (i := 6) sc_law_digits.nd rfl (Or.inl rfl) (pe_op op_mod (pe_callTy call_int1 (by rfl) T.b_int (by decide +kernel) (pa_cons (pe_op op_add (pe_op op_add (pe_op op_mul (pv 0) pe_int) (pe_op op_mul (pv 5) pe_int)) pe_int) pa_nil)) pe_int))
      (pss_cons (ps_set (i := 6) sc_law_digits.nd rfl (Or.inl rfl) (pe_op op_mod (pe_callTy call_int1 (by rfl) T.b_int (by decide +kernel) (pa_cons (pe_op op_add (pe_op op_add (pe_op op_mul (pv 6) (pv 6)) (pe_op op_mul pe_int (pv 6))) (pv 5)) pa_nil)) pe_int))
      (pss_one (ps_expr (pe_bm PySem.F.plainAttrs_list PySem.F.slot_list_append PySem.F.type_list_append mt_append (pv 3) (pa_cons (pe_op op_mod (pe_callTy call_int1 (by rfl) T.b_int (by decide +kernel) (pa_cons (pe_op op_fdiv (pv 6) pe_int) pa_nil)) (pv 1)) pa_nil)))))))))
      (pss_one (ps_ret (pv 3)))))), ?_⟩
    obtain ⟨c, m, n, hm, hm2, hn, r, k⟩ := h
    obtain ⟨_, _, _, rfl, rfl, rfl, rfl⟩ := All.l3 r
    refine sq (s_setN (ev_lst ea_nil (by show 0 ≤ _; decide)) fun p0 vs0 H1 hp0 e1 h1 r1 => ?_)
    obtain rfl := All.l0 r1
    dsimp only [List.set]
    refine sq (s_set (ev_is rfl) fun v H2 e2 rv => ?_)
    obtain rfl : v = .int c := rv
    dsimp only [List.set]
    refine sq (s_forB (Hb := H) (srcB_range (n := n) (ea_cons (ev_is rfl) ea_nil) (by omega)) (e1.trans e2) (fun i σ' H' => ∃ (q : Int) (v5 v6 : Option V) (ds : List Int), σ' = [some (.int c), some (.int m), some (.int n), some (.ref p0), some (.int q), v5, v6] ∧ H' p0 = some (.lst (ds.map V.int)) ∧ ds.length = i ∧ ∀ d ∈ ds, 0 ≤ d ∧ d < m) (fun H3 e3 => ⟨c, none, none, [], rfl, e3.at (e2.at h1), rfl, fun d hd => nomatch hd⟩) (fun H3 i a x σ' H0 H' ha e3 e0 t0 pv e' hx => ?_) fun σ' H' e' t' pv => ?_)
    · obtain ⟨q, v5, v6, ds, rfl, hl, hdl, hds⟩ := pv
      obtain rfl : x = .int a := hx
      have hi := (List.getElem?_eq_some_iff.mp ha).1
      rw [List.length_range] at hi
      have hsz : (ds.map V.int).length < sizeLine := by rw [List.length_map, sizeLine_eq]; omega
      have push : ∀ d : Int, 0 ≤ d ∧ d < m → (ds ++ [d]).length = i + 1 ∧ ∀ d' ∈ ds ++ [d], 0 ≤ d' ∧ d' < m := fun d hd => ⟨by rw [List.length_append, hdl]; rfl, fun d' hd' => by
        rcases List.mem_append.mp hd' with h | h
        · exact hds d' h
        · rw [List.mem_singleton.mp h]; exact hd⟩
      have up := e0.trans e'
      dsimp only [gName, List.set]
      refine s_if (b := decide ((10 : Int) ^ (18 : Int).toNat ≤ c)) (et_test (ev_I0 (ev_is rfl) (ev_I ev_c ev_c ⟨by decide, by decide, by decide⟩))) (fun hb H4 e4 => ?_) fun hb H4 e4 => ?_
      · have hl4 := e4.at (e'.at hl)
        refine sq (s_app hl4 (ev_is rfl) (ev_mod (ev_int (ea_cons (ev_is rfl) ea_nil)) (ev_is rfl) hm) hsz fun v H5 e5 rv => ?_)
        obtain rfl : v = .int (q % m) := rv
        have h5 := e5.at hl4
        have ex := (up.trans (e4.trans e5)).mut (o := .lst (ds.map V.int ++ [.int (q % m)])) hp0 h5 trivial
        have tx := (t0.trans (e'.t.trans (e4.t.trans e5.t))).trans (TEx.upd (o := .lst (ds.map V.int ++ [.int (q % m)])) h5 trivial)
        have h6 : (upd H5 p0 (.lst (ds.map V.int ++ [.int (q % m)]))) p0 = some (.lst ((ds ++ [q % m]).map V.int)) := by rw [upd_same, List.map_append]; rfl
        generalize upd H5 p0 (.lst (ds.map V.int ++ [.int (q % m)])) = H6 at ex tx h6
        dsimp only
        refine s_set (ev_fdiv (ev_is rfl) (ev_is rfl) ⟨hm, by omega⟩) fun v H7 e7 rv => ?_
        obtain rfl : v = .int (q / m) := rv
        obtain ⟨g1, g2⟩ := push (q % m) ⟨Int.emod_nonneg _ (by omega), Int.emod_lt_of_pos _ hm⟩
        exact ⟨ex.trans e7, tx.trans e7.t, _, _, _, _, rfl, e7.at h6, g1, g2⟩
      · refine sq (s_set (ev_mod (j := 2147483647) (ev_int (ea_cons (ev_I0 (ev_I0 (ev_mul (ev_is rfl) ev_c (.inr ⟨by decide, by decide⟩)) (ev_mul (ev_is rfl) ev_c (.inr ⟨by decide, by decide⟩))) ev_c) ea_nil)) ev_c (by decide)) fun v H5 e5 rv => ?_)
        obtain ⟨x1, hx1, hx2, rfl⟩ : ∃ x1 : Int, 0 ≤ x1 ∧ x1 < 2147483647 ∧ v = .int x1 := ⟨_, Int.emod_nonneg _ (by decide), Int.emod_lt_of_pos _ (by decide), rv⟩
        dsimp only [List.set]
        refine sq (s_set (ev_mod (j := 2147483629) (ev_int (ea_cons (ev_I0 (ev_I0 (ev_mul (ev_is rfl) (ev_is rfl) (.inl ⟨by omega, by omega⟩)) (ev_mul ev_c (ev_is rfl) (.inl ⟨by decide, by decide⟩))) (ev_is rfl)) ea_nil)) ev_c (by decide)) fun v H6 e6 rv => ?_)
        obtain ⟨x2, rfl⟩ : ∃ x2 : Int, v = .int x2 := ⟨_, rv⟩
        have hl6 := e6.at (e5.at (e4.at (e'.at hl)))
        dsimp only [List.set]
        refine s_app hl6 (ev_is rfl) (ev_mod (ev_int (ea_cons (ev_fdiv (ev_is rfl) ev_c ⟨by decide, by decide⟩) ea_nil)) (ev_is rfl) hm) hsz fun v H7 e7 rv => ?_
        obtain rfl : v = .int (x2 / 31 % m) := rv
        have h7 := e7.at hl6
        obtain ⟨g1, g2⟩ := push (x2 / 31 % m) ⟨Int.emod_nonneg _ (by omega), Int.emod_lt_of_pos _ hm⟩
        exact ⟨(up.trans (e4.trans (e5.trans (e6.trans e7)))).mut hp0 h7 trivial, (t0.trans (e'.t.trans (e4.t.trans (e5.t.trans (e6.t.trans e7.t))))).trans (TEx.upd h7 trivial), _, _, _, _, rfl, by rw [upd_same, List.map_append]; rfl, g1, g2⟩
    · obtain ⟨q, v5, v6, ds, rfl, hl, hdl, hds⟩ := pv
      rw [List.length_range] at hdl
      dsimp only
      refine s_ret (ev_is rfl) fun v H3 e3 rv => ?_
      obtain rfl : v = .ref p0 := rv
      exact k _ H3 (e'.trans e3) ⟨ds, hdl, hds, p0, _, rfl, e3.at hl, all_ints ds⟩
  case len => obtain ⟨c, m, n, _, _, _, r, _⟩ := h; exact r.length
abbrev n_law_shape : List Str := ["_law_cell_here", "_law_shapes"]
theorem sc_law_shape : FnScope n_law_shape ["_law_cell_here"] (defScope s_law_shape) := ⟨rfl, rfl, rfl, by decide +kernel, rfl, by decide +kernel, by decide +kernel⟩
theorem bd_law_shape : BindB "_law_shape" "_law_shape" s_law_shape ["_law_cell_here"] := fun _ _ _ _ _ _ us hl => match us, hl with | [_], _ => rfl

def shRs : List RS := (shapes ++ [(2, 5), (7, 2)]).map fun t : Nat × Nat => tupR [IsI (t.1 : Nat), IsI (t.2 : Nat)]
instance : AllM shRs := inferInstanceAs (AllM ((shapes ++ [(2, 5), (7, 2)]).map fun t : Nat × Nat => tupR [IsI (t.1 : Nat), IsI (t.2 : Nat)]))
def sp_law_shape (_ : PySem.W.Frag) : Sp := fun vs H Q E => ∃ c : Int, 0 ≤ c ∧ c < 10 ∧ SpR [IsI c] (fun v H' => ∃ p n : Nat, Shape p n ∧ tupR [IsI p, IsI n] v H') vs H Q E
abbrev G_law_shape (P : Program) (w : World) (K : PySem.W.Frag) (mg : Str → Option Value) (base : Heap) : Prop := GFn P w K mg base "_law_shape" 1 ["_law_cell_here"] (sp_law_shape K)

theorem ok_law_shape (T : TopF K mg)  : G_law_shape P w K mg base := by
  refine T.d_law_shape.fn sc_law_shape bd_law_shape (fun vs H Q E h => ?len) fun f cdv A outer s H vs Q E hr h => ?walk
  case walk =>
    have hu := room1 hr
    have hu3 := room3 hr
    have hu64 := hr.units
    have hu65 := room65 hr
    refine ⟨_, (pss_cons (ps_set (i := 1) sc_law_shape.nd rfl (Or.inl rfl) (pe_lst (pa_cons (pe_tup (pa_cons pe_int (pa_cons pe_int pa_nil))) (pa_cons (pe_tup (pa_cons pe_int (pa_cons pe_int pa_nil))) (pa_cons (pe_tup (pa_cons pe_int (pa_cons pe_int pa_nil))) (pa_cons (pe_tup (pa_cons pe_int (pa_cons pe_int pa_nil))) (pa_cons (pe_tup (pa_cons pe_int (pa_cons pe_int pa_nil))) (pa_cons (pe_tup (pa_cons pe_int (pa_cons pe_int pa_nil))) (pa_cons (pe_tup (pa_cons pe_int (pa_cons pe_int pa_nil))) (pa_cons (pe_tup (pa_cons pe_int (pa_cons pe_int pa_nil))) (pa_cons (pe_tup (pa_cons pe_int (pa_cons pe_int pa_nil))) (pa_cons (pe_tup (pa_cons pe_int (pa_cons pe_int pa_nil))) (pa_cons (pe_tup (pa_cons pe_int (pa_cons pe_int pa_nil))) (pa_cons (pe_tup (pa_cons pe_int (pa_cons pe_int pa_nil))) pa_nil))))))))))))))
      (pss_one (ps_ret (pe_ix (k_ixL (K := K) rfl) (pv 1) (pe_op op_mod (pe_callTy call_int1 (by rfl) T.b_int (by decide +kernel) (pa_cons (pv 0) pa_nil)) pe_int) (fun _ _ => rfl))))), ?_⟩
    obtain ⟨c, h0, h1, r, k⟩ := h
    obtain ⟨_, rfl, rfl⟩ := All.l1 r
    have one : ∀ {σ : L2.St} {H : Hp} (a b : Nat), Ev (tTup (tCons (tC (.int a)) (tCons (tC (.int b)) tNil))) σ H (tupR [IsI a, IsI b]) := fun a b => ev_tup (ea_cons ev_c (ea_cons ev_c ea_nil)) (by show 2 ≤ _; decide)
    refine sq (s_setN (Rs := shRs) (ev_lst (ea_cons (one 2 1) (ea_cons (one 2 2) (ea_cons (one 2 3) (ea_cons (one 3 1) (ea_cons (one 3 2) (ea_cons (one 5 1) (ea_cons (one 2 4) (ea_cons (one 3 3) (ea_cons (one 7 1) (ea_cons (one 5 2) (ea_cons (one 2 5) (ea_cons (one 7 2) ea_nil)))))))))))) (by show 12 ≤ _; decide)) fun p0 vs0 H1 hp0 e1 h1' r1 => ?_)
    have hc : c.toNat < shapes.length := by show c.toNat < 10; omega
    have hat : shRs[c.toNat]? = some (tupR [IsI ((shapes[c.toNat]).1 : Nat), IsI ((shapes[c.toNat]).2 : Nat)]) := by
      unfold shRs
      rw [List.getElem?_map, List.getElem?_append_left hc, List.getElem?_eq_getElem hc]
      rfl
    dsimp only [List.set]
    refine s_ret (ev_ixL (n := c.toNat) (ev_var rfl ⟨p0, vs0, rfl, h1', r1⟩) (Ev.to (ev_mod (ev_int (ea_cons (ev_is rfl) ea_nil)) ev_c (by decide)) (by rw [Int.toNat_of_nonneg h0, Int.emod_eq_of_lt h0 (by omega)])) hat) fun v H2 e2 rv => k v H2 (e1.trans e2) ⟨_, _, List.getElem_mem hc, rv⟩
  case len => obtain ⟨c, _, _, r, _⟩ := h; exact r.length
abbrev n_law_names : List Str := ["_law_cell_here", "_law_count", "_law_menu", "_law_start_here", "_law_step_here", "_law_k"]
theorem sc_law_names : FnScope n_law_names ["_law_cell_here", "_law_count"] (defScope s_law_names) := ⟨rfl, rfl, rfl, by decide +kernel, rfl, by decide +kernel, by decide +kernel⟩
theorem bd_law_names : BindB "_law_names" "_law_names" s_law_names ["_law_cell_here", "_law_count"] := fun _ _ _ _ _ _ us hl => match us, hl with | [_, _], _ => rfl

def nameAt (s t k : Nat) : Str := menu.getD ((s + (2 * t + 1) * k) % 8) "x"
theorem nameAt_menu (s t k : Nat) : menu[(s + (2 * t + 1) * k) % 8]? = some (nameAt s t k) := by
  have h : (s + (2 * t + 1) * k) % 8 < menu.length := Nat.mod_lt _ (by decide)
  unfold nameAt
  rw [List.getD_eq_getElem?_getD, List.getElem?_eq_getElem h]
  rfl
theorem names_nodup : ∀ s ∈ List.range 8, ∀ t ∈ List.range 4, ∀ n ∈ List.range 5, ((List.range n).map (nameAt s t)).Nodup := by decide +kernel
def namR (n : Nat) : RS := fun v H => ∃ zs : List Str, zs.length = n ∧ zs.Nodup ∧ (∀ z ∈ zs, nameB z = true) ∧ lstR (zs.map fun z => Is (.str z)) v H
instance {n : Nat} : Mono (namR n) := ⟨fun e ⟨zs, h1, h2, h3, h4⟩ => ⟨zs, h1, h2, h3, Mono.up e h4⟩⟩
def sp_law_names (_ : PySem.W.Frag) : Sp := fun vs H Q E => ∃ (c : Int) (n : Nat), n ≤ 4 ∧ SpR [IsI c, IsI n] (namR n) vs H Q E
abbrev G_law_names (P : Program) (w : World) (K : PySem.W.Frag) (mg : Str → Option Value) (base : Heap) : Prop := GFn P w K mg base "_law_names" 1 ["_law_cell_here", "_law_count"] (sp_law_names K)

theorem ok_law_names (T : TopF K mg)  : G_law_names P w K mg base := by
  refine T.d_law_names.fn sc_law_names bd_law_names (fun vs H Q E h => ?len) fun f cdv A outer s H vs Q E hr h => ?walk
  case walk =>
    have hu := room1 hr
    have hu3 := room3 hr
    have hu64 := hr.units
    have hu65 := room65 hr
    refine ⟨_, (pss_cons (ps_set (i := 2) sc_law_names.nd rfl (Or.inr rfl) (pe_lst (pa_cons pe_str (pa_cons pe_str (pa_cons pe_str (pa_cons pe_str (pa_cons pe_str (pa_cons pe_str (pa_cons pe_str (pa_cons pe_str pa_nil))))))))))
      (pss_cons (ps_set (i := 3) sc_law_names.nd rfl (Or.inr rfl) (pe_op op_mod (pe_callTy call_int1 (by rfl) T.b_int (by decide +kernel) (pa_cons (pv 0) pa_nil)) pe_int))
      (pss_cons (ps_set (i := 4) sc_law_names.nd rfl (Or.inr rfl) (pe_ix (k_ixL (K := K) rfl) (pe_lst (pa_cons pe_int (pa_cons pe_int (pa_cons pe_int (pa_cons pe_int pa_nil))))) (pe_op op_mod (pe_callTy call_int1 (by rfl) T.b_int (by decide +kernel) (pa_cons (pe_op op_fdiv (pv 0) pe_int) pa_nil)) pe_int) (fun _ _ => rfl)))
      (pss_one (ps_ret (pe_lc (own := [("_law_k", 5)]) (g := (gName 5)) (by rfl) sc_law_names.nd (pi_range1 (by rfl) T.b_range (pa_cons (pv 1) pa_nil)) (blkOk_by (own := [("_law_k", 5)]) (N := n_law_names) (sc := defScope s_law_names) (by decide +kernel)) (fun _ _ _ _ _ => (pg_name (i := 5) sc_law_names.nd rfl (Or.inl rfl))) (fun _ _ _ _ _ => pts_nil) (fun _ _ _ _ _ => (pe_ix (k_ixL (K := K) rfl) (pv 2) (pe_op op_mod (pe_callTy call_int1 (by rfl) T.b_int (by decide +kernel) (pa_cons (pe_op op_add (pv 3) (pe_op op_mul (pv 4) (pv 5))) pa_nil)) pe_int) (fun _ _ => rfl))))))))), ?_⟩
    obtain ⟨c, n, hn, r, k⟩ := h
    obtain ⟨_, _, rfl, rfl, rfl⟩ := All.l2 r
    refine sq (s_setN (Rs := menu.map fun z => Is (.str z)) (ev_lst (ea_cons ev_c (ea_cons ev_c (ea_cons ev_c (ea_cons ev_c (ea_cons ev_c (ea_cons ev_c (ea_cons ev_c (ea_cons ev_c ea_nil)))))))) (by show 8 ≤ _; decide)) fun pm vm H1 hpm e1 h1 r1 => ?_)
    dsimp only [List.set]
    refine sq (s_set (ev_mod (ev_int (ea_cons (ev_is rfl) ea_nil)) ev_c (by decide)) fun v H2 e2 rv => ?_)
    obtain ⟨s, hs, rfl⟩ : ∃ s : Nat, s < 8 ∧ v = .int s := ⟨(c % 8).toNat, by omega, by rw [Int.toNat_of_nonneg (by omega)]; exact rv⟩
    have ht0 : 0 ≤ c / 8 % 4 ∧ c / 8 % 4 < 4 := ⟨Int.emod_nonneg _ (by decide), Int.emod_lt_of_pos _ (by decide)⟩
    obtain ⟨t, ht, hte⟩ : ∃ t : Nat, t < 4 ∧ c / 8 % 4 = t := ⟨(c / 8 % 4).toNat, by omega, by rw [Int.toNat_of_nonneg ht0.1]⟩
    have hat : ([IsI 1, IsI 3, IsI 5, IsI 7] : List RS)[t]? = some (IsI ((2 * t + 1 : Nat) : Int)) := by
      rcases (by omega : t = 0 ∨ t = 1 ∨ t = 2 ∨ t = 3) with rfl | rfl | rfl | rfl <;> rfl
    dsimp only [List.set]
    refine sq (s_set (R := IsI ((2 * t + 1 : Nat) : Int)) (ev_ixL (n := t) (Rs := [IsI 1, IsI 3, IsI 5, IsI 7]) (EvN.ev (ev_lst (ea_cons ev_c (ea_cons ev_c (ea_cons ev_c (ea_cons ev_c ea_nil)))) (by show 4 ≤ _; decide))) (Ev.to (ev_mod (ev_int (ea_cons (ev_fdiv (ev_is rfl) ev_c ⟨by decide, by decide⟩) ea_nil)) ev_c (by decide)) (by rw [hte])) hat) fun v H3 e3 rv => ?_)
    obtain rfl : v = .int ((2 * t + 1 : Nat) : Int) := rv
    have e13 := e1.trans (e2.trans e3)
    have hmn : lstR (menu.map fun z => Is (.str z)) (.ref pm) H3 := ⟨pm, vm, rfl, e3.at (e2.at h1), All.up (e2.trans e3) r1⟩
    dsimp only [List.set]
    refine s_ret (EvN.ev (ev_lc2v (C := fun z => Is (.str z)) (val := nameAt s t) (xs := List.range n) (A := fun k => IsI (k : Nat)) (srcD_range (n := n) (ea_cons (ev_is rfl) ea_nil) (by omega)) (by rw [List.length_range, sizeLine_eq]; omega) fun a u H4 ha e4 hu => ⟨rfl, rfl, ?_⟩)) fun v H4 e4 rv => k v H4 (e13.trans e4) ⟨_, by rw [List.length_map, List.length_range], names_nodup s (List.mem_range.mpr hs) t (List.mem_range.mpr ht) n (List.mem_range.mpr (by omega)), fun z hz => ?_, rv⟩
    · obtain rfl : u = .int (a : Nat) := hu
      refine ev_ixL (n := (s + (2 * t + 1) * a) % 8) (ev_var rfl (Mono.up e4 hmn)) (Ev.to (ev_mod (ev_int (ea_cons (ev_I0 (ev_is rfl) (ev_mul (ev_is rfl) (ev_is rfl) (.inl ⟨by omega, by omega⟩))) ea_nil)) ev_c (by decide)) ?_) (by rw [List.getElem?_map, nameAt_menu]; rfl)
      push_cast
      rfl
    · obtain ⟨a, _, rfl⟩ := List.mem_map.mp hz
      exact menu_ok _ (List.mem_of_getElem? (nameAt_menu s t a))
  case len => obtain ⟨c, n, _, r, _⟩ := h; exact r.length
end SP
end
section
set_option Elab.async false
set_option linter.all false
set_option maxRecDepth 100000
set_option maxHeartbeats 4000000
namespace SP
open PySem PyProof.Rows L2
variable {P : Program} {w : World} {K : PySem.W.Frag} {mg : Str → Option Value} {base : Heap}
abbrev n_law_points : List Str := ["_law_prime", "_law_count", "_law_found", "_law_k", "_law_longer", "_law_row", "_law_number"]
theorem sc_law_points : FnScope n_law_points ["_law_prime", "_law_count"] (defScope s_law_points) := ⟨rfl, rfl, rfl, by decide +kernel, rfl, by decide +kernel, by decide +kernel⟩
theorem bd_law_points : BindB "_law_points" "_law_points" s_law_points ["_law_prime", "_law_count"] := fun _ _ _ _ _ _ us hl => match us, hl with | [_, _], _ => rfl

theorem flat_take {α β : Type} {f : α → List β} {xs : List α} {i : Nat} {a : α} (h : xs[i]? = some a) : (xs.take (i + 1)).flatMap f = (xs.take i).flatMap f ++ f a := by
  rw [take_at h, List.flatMap_append, List.flatMap_cons, List.flatMap_nil, List.append_nil]
def sp_law_points (_ : PySem.W.Frag) : Sp := fun vs H Q E => ∃ p n : Nat, Shape p n ∧ SpN [IsI p, IsI n] ((pts p n).map ptR) vs H Q E
abbrev G_law_points (P : Program) (w : World) (K : PySem.W.Frag) (mg : Str → Option Value) (base : Heap) : Prop := GFn P w K mg base "_law_points" 1 ["_law_prime", "_law_count"] (sp_law_points K)

theorem ok_law_points (T : TopF K mg)  : G_law_points P w K mg base := by
  refine T.d_law_points.fn sc_law_points bd_law_points (fun vs H Q E h => ?len) fun f cdv A outer s H vs Q E hr h => ?walk
  case walk =>
    have hu := room1 hr
    have hu3 := room3 hr
    have hu64 := hr.units
    have hu65 := room65 hr
    refine ⟨_, (pss_cons (ps_set (i := 2) sc_law_points.nd rfl (Or.inl rfl) (pe_lst (pa_cons (pe_tup pa_nil) pa_nil)))
      (pss_cons (ps_for PassesOwn.never rfl (pi_range1 (by rfl) T.b_range (pa_cons (pv 1) pa_nil)) (pg_name (i := 3) sc_law_points.nd rfl (Or.inl rfl))
      (pss_cons (ps_set (i := 4) sc_law_points.nd rfl (Or.inl rfl) (pe_lst pa_nil))
      (pss_cons (ps_for PassesOwn.never rfl (k_piL (K := K) rfl (pv 2)) (pg_name (i := 5) sc_law_points.nd rfl (Or.inr rfl))
      (pss_one (ps_expr (pe_bm PySem.F.plainAttrs_list PySem.F.slot_list_extend PySem.F.type_list_extend mt_extend (pv 4) (pa_cons (pe_lc (own := [("_law_number", 6)]) (g := (gName 6)) (by rfl) sc_law_points.nd (pi_range1 (by rfl) T.b_range (pa_cons (pv 0) pa_nil)) (blkOk_by (own := [("_law_number", 6)]) (N := n_law_points) (sc := defScope s_law_points) (by decide +kernel)) (fun _ _ _ _ _ => (pg_name (i := 6) sc_law_points.nd rfl (Or.inl rfl))) (fun _ _ _ _ _ => pts_nil) (fun _ _ _ _ _ => (pe_op (k_catA (K := K) rfl) (pv 5) (pe_tup (pa_cons (pv 6) pa_nil))))) pa_nil)))))
      (pss_one (ps_set (i := 2) sc_law_points.nd rfl (Or.inl rfl) (pv 4))))))
      (pss_one (ps_ret (pv 2))))), ?_⟩
    obtain ⟨p, n, S, r, k⟩ := h
    obtain ⟨_, _, rfl, rfl, rfl⟩ := All.l2 r
    have hp := S.p
    have hn := S.n
    have hlen : ∀ j, j ≤ n → (pts p j).length ≤ 27 := fun j hj => by rw [pts_length]; exact Nat.le_trans (Nat.pow_le_pow_right (by omega) hj) S.pow
    refine sq (s_setN (ev_lst (Rs := [ptR []]) (ea_cons ((ev_tup ea_nil (by show 0 ≤ _; decide)).imp fun v H1 e r => ptR_of (x := []) r) ea_nil) (by show 1 ≤ _; decide)) fun p0 vs0 H1 hp0 e1 h1 r1 => ?_)
    dsimp only [List.set]
    refine sq (s_forD (srcD_range (n := n) (ea_cons (ev_is rfl) ea_nil) (by omega)) (fun i σ' H' => ∃ (pf : Addr) (v3 v4 v5 v6 : Option V), σ' = [some (.int p), some (.int n), some (.ref pf), v3, v4, v5, v6] ∧ H pf = none ∧ lstR ((pts p i).map ptR) (.ref pf) H') (fun H2 e2 => ⟨p0, none, none, none, none, rfl, hp0, p0, vs0, rfl, e2.at h1, All.up e2 r1⟩) (fun H2 i a x σ' H0 H' ha e2 e0 pv e' hx => ?_) fun σ' H' e' pv => ?_)
    · obtain ⟨pf, v3, v4, v5, v6, rfl, hpf, hl⟩ := pv
      obtain rfl : x = .int a := hx
      have hi := (List.getElem?_eq_some_iff.mp ha).1
      rw [List.length_range] at hi
      have hil := hlen i (by omega)
      dsimp only [gName, List.set]
      refine sq (s_setN (ev_lst ea_nil (by show 0 ≤ _; decide)) fun pl vl H3 hpl e3 h3 r3 => ?_)
      obtain rfl := All.l0 r3
      have hl3 : lstR ((pts p i).map ptR) (.ref pf) H3 := Mono.up (e'.trans e3) hl
      have hne : pf ≠ pl := fun e => by
        obtain ⟨b, us, hb, h4, _⟩ := hl
        cases hb
        rw [e] at h4
        rw [e'.at h4] at hpl
        cases hpl
      have hm : pl ∈ [pl] := List.mem_singleton.mpr rfl
      dsimp only [List.set]
      refine sq (s_forX (ds := [pl]) (xs := pts p i) (A := ptR) (srcX_list (ev_var (R := nlR [pl] ((pts p i).map ptR)) rfl ⟨hl3, fun b hb hm => by cases hb; exact hne (List.mem_singleton.mp hm)⟩)) (fun j σ' H0 => ∃ (v5 v6 : Option V) (us : List V), σ' = [some (.int p), some (.int n), some (.ref pf), some (.int a), some (.ref pl), v5, v6] ∧ Ext H' H0 ∧ H0 pl = some (.lst us) ∧ us.length ≤ j * 7 ∧ All ((((pts p i).take j).flatMap fun r => (upto p).map fun b => r ++ [b]).map ptR) us H0) (fun H4 e4 => ⟨v5, v6, [], rfl, e3.trans e4, e4.at h3, Nat.zero_le _, by rw [List.take_zero]; exact .nil⟩) (fun H4 j x vx σ' H5 H6 hx e4 e5 t5 pv e6 hvx => ?_) fun H4 σ' H5 e4 e5 t5 pv => ?_)
      · obtain ⟨v5, v6, us, rfl, q1, q2, q3, q4⟩ := pv
        have hj := (List.getElem?_eq_some_iff.mp hx).1
        have hxi := mem_pts.mp (List.mem_of_getElem? hx)
        dsimp only [gName, List.set]
        refine s_ext (Rs := ((upto p).map fun b => x ++ [b]).map ptR) (e6.at q2) (ev_is rfl) (EvN.cast (ev_lc2v (C := ptR) (val := fun b : Nat => x ++ [(b : Int)]) (xs := List.range p) (A := fun b => IsI (b : Nat)) (srcD_range (n := p) (ea_cons (ev_is rfl) ea_nil) (by omega)) (by rw [List.length_range, sizeLine_eq]; omega) fun b u H7 hb e7 hu => ⟨rfl, rfl, ?_⟩) ?_) (by rw [List.length_map, List.length_map, upto_len, sizeLine_eq]; omega) inferInstance fun ws H7 e7 rws => ?_
        · obtain rfl : u = .int (b : Nat) := hu
          exact ev_catP (ev_var rfl (TMono.up e7.t hvx)) ((ev_tup (ea_cons (ev_is rfl) ea_nil) (by show 1 ≤ _; decide)).imp fun v H1 e r => ptR_of (x := [(b : Int)]) r) (by rw [hxi.1, sizeLine_eq]; show i + 1 ≤ _; omega)
        · unfold upto
          rw [List.map_map, List.map_map, List.map_map]
          rfl
        · have h7 := e7.at (e6.at q2)
          have ex := e6.trans e7
          have t7 : TEx H7 (upd H7 pl (.lst (us ++ ws))) := TEx.upd h7 trivial
          refine ⟨(e5.trans ex).mut (delS_in hm) h7 trivial, (t5.trans ex.t).trans t7, some vx, v6, us ++ ws, rfl, (q1.trans ex).mut hpl h7 trivial, upd_same, ?_, ?_⟩
          · have := rws.length
            rw [List.length_map, List.length_map, upto_len] at this
            rw [List.length_append]
            omega
          · rw [flat_take hx, List.map_append]
            exact All.app (All.upT (ex.t.trans t7) q4) (All.upT t7 rws)
      · obtain ⟨v5, v6, us, rfl, q1, q2, q3, q4⟩ := pv
        rw [List.take_length] at q4
        dsimp only
        refine s_set (ev_is rfl) fun v H6 e6 rv => ?_
        obtain rfl : v = .ref pl := rv
        exact ⟨e0.trans (e'.trans (q1.trans e6)), pl, _, _, _, _, rfl, (e1.trans (e2.trans (e0.trans e'))).free pl hpl, pl, us, rfl, e6.at q2, All.up e6 q4⟩
    · obtain ⟨pf, v3, v4, v5, v6, rfl, hpf, hl⟩ := pv
      rw [List.length_range] at hl
      dsimp only
      refine s_ret (ev_is rfl) fun v H3 e3 rv => ?_
      obtain rfl : v = .ref pf := rv
      obtain ⟨b, us, hb, h4, h5⟩ := hl
      cases hb
      exact k pf us H3 hpf (e1.trans (e'.trans e3)) (e3.at h4) (All.up e3 h5)
  case len => obtain ⟨p, n, _, r, _⟩ := h; exact r.length
abbrev n_law_made : List Str := ["_law_prime", "_law_numbers", "_law_rows", "_law_power", "_law_row"]
theorem sc_law_made : FnScope n_law_made ["_law_prime", "_law_numbers"] (defScope s_law_made) := ⟨rfl, rfl, rfl, by decide +kernel, rfl, by decide +kernel, by decide +kernel⟩
theorem bd_law_made : BindB "_law_made" "_law_made" s_law_made ["_law_prime", "_law_numbers"] := fun _ _ _ _ _ _ us hl => match us, hl with | [_, _], _ => rfl

theorem redI_getI (p : Nat) (k : Pt) : ∀ kvs : Poly, getI (redI p kvs) k = getI kvs k % (p : Int)
  | [] => by show (0 : Int) = 0 % _; rw [Int.zero_emod]
  | t :: r => by
    rw [show redI p (t :: r) = (t.1, t.2 % (p : Int)) :: redI p r from rfl, getI_cons, getI_cons]
    by_cases e : t.1 = k
    · rw [if_pos e, if_pos e]
    · rw [if_neg e, if_neg e]; exact redI_getI p k r
theorem sortP_rev (ks : List Pt) : (sortP false ks).reverse = sortP true ks := by
  refine sortP_eq ((List.reverse_perm _).trans (sortP_perm false ks)) ?_
  rw [List.pairwise_reverse]
  exact sortP_ord false ks
theorem made_eq (p : Nat) (kvs : Poly) : (((sortP false (keysI kvs)).map fun x => (x, getI kvs x % (p : Int))).reverse.filter fun t => decide (t.2 ≠ 0)) = fromN p kvs := by
  rw [← List.map_reverse, sortP_rev, List.filter_map]
  unfold fromN
  have e : (fun k => (k, getI (redI p kvs) k)) = fun k => (k, getI kvs k % (p : Int)) := by
    funext k
    rw [redI_getI]
  have e2 : (fun k => decide (getI (redI p kvs) k ≠ 0)) = (fun t : Pt × Int => decide (t.2 ≠ 0)) ∘ fun x => (x, getI kvs x % (p : Int)) := by
    funext k
    rw [redI_getI]
    rfl
  rw [e, e2]
def sp_law_made (_ : PySem.W.Frag) : Sp := fun vs H Q E => ∃ (p n : Nat) (kvs : Poly), Shape p n ∧ (keysI kvs).Nodup ∧ (∀ x ∈ keysI kvs, inSp p n x) ∧ SpR [IsI p, dR (iV kvs)] (polyR p n (vsum kvs)) vs H Q E
abbrev G_law_made (P : Program) (w : World) (K : PySem.W.Frag) (mg : Str → Option Value) (base : Heap) : Prop := GFn P w K mg base "_law_made" 1 ["_law_prime", "_law_numbers"] (sp_law_made K)

theorem ok_law_made (T : TopF K mg)  : G_law_made P w K mg base := by
  refine T.d_law_made.fn sc_law_made bd_law_made (fun vs H Q E h => ?len) fun f cdv A outer s H vs Q E hr h => ?walk
  case walk =>
    have hu := room1 hr
    have hu3 := room3 hr
    have hu64 := hr.units
    have hu65 := room65 hr
    refine ⟨_, (pss_cons (ps_setLc (i := 2) (own := [("_law_power", 3)]) (g := (gName 3)) (by rfl) sc_law_made.nd rfl rfl (sw_true rfl rfl rfl (by decide +kernel)) (k_piL (K := K) rfl (pe_callB (cr_sortedD rfl hu64) (by rfl) T.b_sorted (by decide +kernel) (pa_cons (pv 1) pa_nil))) (blkOk_by (own := [("_law_power", 3)]) (N := n_law_made) (sc := defScope s_law_made) (by decide +kernel)) (fun _ _ _ _ _ => (pg_name (i := 3) sc_law_made.nd rfl (Or.inl rfl))) (fun _ _ _ _ _ => pts_nil) (fun _ _ _ _ _ => (pe_tup (pa_cons (pv 3) (pa_cons (pe_op op_mod (pe_callTy call_int1 (by rfl) T.b_int (by decide +kernel) (pa_cons (pe_dget hu (pv 1) (pv 3) (fun _ _ => rfl)) pa_nil)) (pv 0)) pa_nil)))))
      (pss_one (ps_ret (pe_callTy (k_tup (K := K) rfl) (by rfl) T.b_tuple (by decide +kernel) (pa_cons (pe_lc (own := [("_law_row", 4)]) (g := (gName 4)) (by rfl) sc_law_made.nd (k_piL (K := K) rfl (k_revL (K := K) rfl (pv 2))) (blkOk_by (own := [("_law_row", 4)]) (N := n_law_made) (sc := defScope s_law_made) (by decide +kernel)) (fun _ _ _ _ _ => (pg_name (i := 4) sc_law_made.nd rfl (Or.inl rfl))) (fun _ _ _ _ _ => (pts_one (pt_cmpR op_ne (pe_ix (k_ixT (K := K) rfl) (pv 4) pe_int (fun _ _ => rfl)) pe_int (nomark _)))) (fun _ _ _ _ _ => (pv 4))) pa_nil))))), ?_⟩
    obtain ⟨p, n, kvs, S, hnd, hk, r, k⟩ := h
    obtain ⟨_, a2, rfl, rfl, r2⟩ := All.l2 r
    have hp := S.p
    have hl := keysI_len hnd hk S
    refine sq (s_setN (ev_lc2v (C := pairR) (val := fun x => (x, getI kvs x % (p : Int))) (xs := sortP false (keysI kvs)) (A := ptR) (srcD_list (EvN.ev (EvN.cast (ev_sortD (kvs := iV kvs) (ea_cons (ev_var rfl r2) ea_nil) (iV_ne S hk)) (by rw [keys_iV])))) (by rw [sortP_len, List.length_map, sizeLine_eq]; omega) fun x v H2 hx e2 rv => ⟨rfl, rfl, ?_⟩) fun pr vr H1 hpr e1 h1 r1 => ?_)
    · exact ev_tup (ea_cons (ev_var rfl rv) (ea_cons (ev_mod (ev_int (ea_cons (ev_dget (kvs := iV kvs) (ev_var rfl (Mono.up e2 r2)) (ev_var rfl rv) (valV_get (mem_sortP.mp hx))) ea_nil)) (ev_is rfl) (by omega)) ea_nil)) (by show 2 ≤ _; decide)
    · dsimp only [List.set]
      refine s_ret (ev_tupOf (Rs := (fromN p kvs).map pairR) (ea_cons (EvN.ev (EvN.cast (ev_lc (f := fun t : Pt × Int => decide (t.2 ≠ 0)) (B := pairR) (xs := ((sortP false (keysI kvs)).map fun x => (x, getI kvs x % (p : Int))).reverse) (A := pairR) (srcD_list (EvN.ev (EvN.cast (ev_revL (Rs := ((sortP false (keysI kvs)).map fun x => (x, getI kvs x % (p : Int))).map pairR) (by rw [← List.map_reverse]; exact inferInstance) (ev_var rfl ⟨pr, vr, rfl, h1, r1⟩)) (by rw [List.map_reverse])))) (by rw [List.length_reverse, List.length_map, sortP_len, List.length_map, sizeLine_eq]; omega) fun t v H2 ht e2 rv => ⟨rfl, rfl, ?_, fun _ => ev_var rfl rv⟩) (by rw [made_eq]))) ea_nil)) fun v H2 e2 rv => k v H2 (e1.trans e2) ⟨fromN p kvs, fromN_canon (by omega) hnd hk, fun x _ => fromN_vals hnd x, rv.f⟩
      exact EvT.to (et_test (ev_neS (ev_ixTM (n := 1) (Rs := [ptR t.1, IsI t.2]) (R := IsI t.2) (ev_var rfl rv) ev_c rfl) ev_c rfl)) (by rw [Bool.eq_iff_iff]; simp)
  case len => obtain ⟨p, n, kvs, _, _, _, r, _⟩ := h; exact r.length
abbrev n_law_constant : List Str := ["_law_prime", "_law_count", "_law_number"]
theorem sc_law_constant : FnScope n_law_constant ["_law_prime", "_law_count", "_law_number"] (defScope s_law_constant) := ⟨rfl, rfl, rfl, by decide +kernel, rfl, by decide +kernel, by decide +kernel⟩
theorem bd_law_constant : BindB "_law_constant" "_law_constant" s_law_constant ["_law_prime", "_law_count", "_law_number"] := fun _ _ _ _ _ _ us hl => match us, hl with | [_, _, _], _ => rfl

def sp_law_constant (_ : PySem.W.Frag) : Sp := fun vs H Q E => ∃ (p n : Nat) (c : Int), Shape p n ∧ SpR [IsI p, IsI n, IsI c] (polyR p n fun _ => c) vs H Q E
abbrev G_law_constant (P : Program) (w : World) (K : PySem.W.Frag) (mg : Str → Option Value) (base : Heap) : Prop := GFn P w K mg base "_law_constant" 2 ["_law_prime", "_law_count", "_law_number"] (sp_law_constant K)

theorem ok_law_constant (T : TopF K mg) (g_law_made : G_law_made P w K mg base) : G_law_constant P w K mg base := by
  refine T.d_law_constant.fn sc_law_constant bd_law_constant (fun vs H Q E h => ?len) fun f cdv A outer s H vs Q E hr h => ?walk
  case walk =>
    have hu := room1 hr
    have hu3 := room3 hr
    have hu64 := hr.units
    have hu65 := room65 hr
    refine ⟨_, (pss_one (ps_ret (pe_fn g_law_made hr (by decide) (by rfl) (pa_cons (pv 0) (pa_cons (pe_disp1T hu (pe_op (k_repA (K := K) rfl) (pe_tup (pa_cons pe_int pa_nil)) (pv 1)) (pv 2)) pa_nil))))), ?_⟩
    obtain ⟨p, n, c, S, r, k⟩ := h
    obtain ⟨_, _, _, rfl, rfl, rfl, rfl⟩ := All.l3 r
    have hp := S.p
    have hn := S.n
    refine s_ret (ev_call (ea_cons (ev_is rfl) (ea_cons (EvD.ev (ev_disp1T (k := List.replicate n 0) (v := .int c) (ev_repP ((ev_tup (ea_cons ev_c ea_nil) (by show 1 ≤ _; decide)).imp fun v H1 e r => ptR_of (x := [0]) r) (ev_is rfl) (by omega) (by omega)) (ev_is rfl))) ea_nil)) fun vs H1 Q E h => ⟨p, n, [(List.replicate n 0, c)], S, by simp, fun x hx => by rw [List.mem_singleton.mp hx]; exact zero_in (by omega), h⟩) fun v H1 e1 rv => ?_
    refine k v H1 e1 (rv.to fun x _ => Cg.of ?_)
    rw [vsum_cons, vsum_nil, Int.add_zero, mon_zero, Int.mul_one]
  case len => obtain ⟨p, n, c, _, r, _⟩ := h; exact r.length
abbrev n_law_power_value : List Str := ["_law_prime", "_law_power", "_law_point", "_law_found", "_law_k", "_law_turn"]
theorem sc_law_power_value : FnScope n_law_power_value ["_law_prime", "_law_power", "_law_point"] (defScope s_law_power_value) := ⟨rfl, rfl, rfl, by decide +kernel, rfl, by decide +kernel, by decide +kernel⟩
theorem bd_law_power_value : BindB "_law_power_value" "_law_power_value" s_law_power_value ["_law_prime", "_law_power", "_law_point"] := fun _ _ _ _ _ _ us hl => match us, hl with | [_, _, _], _ => rfl

def sp_law_power_value (_ : PySem.W.Frag) : Sp := fun vs H Q E => ∃ (p n : Nat) (m x : Pt), Shape p n ∧ inSp p n m ∧ inSp p n x ∧ SpR [IsI p, ptR m, ptR x] (IsI (mon m x % p)) vs H Q E
abbrev G_law_power_value (P : Program) (w : World) (K : PySem.W.Frag) (mg : Str → Option Value) (base : Heap) : Prop := GFn P w K mg base "_law_power_value" 1 ["_law_prime", "_law_power", "_law_point"] (sp_law_power_value K)

theorem ok_law_power_value (T : TopF K mg)  : G_law_power_value P w K mg base := by
  refine T.d_law_power_value.fn sc_law_power_value bd_law_power_value (fun vs H Q E h => ?len) fun f cdv A outer s H vs Q E hr h => ?walk
  case walk =>
    have hu := room1 hr
    have hu3 := room3 hr
    have hu64 := hr.units
    have hu65 := room65 hr
    refine ⟨_, (pss_cons (ps_set (i := 3) sc_law_power_value.nd rfl (Or.inl rfl) pe_int)
      (pss_cons (ps_for PassesOwn.never rfl (pi_range1 (by rfl) T.b_range (pa_cons (pe_callB (k_len (K := K) rfl) (by rfl) T.b_len (by decide +kernel) (pa_cons (pv 1) pa_nil)) pa_nil)) (pg_name (i := 4) sc_law_power_value.nd rfl (Or.inl rfl))
      (pss_one (ps_for PassesOwn.never rfl (pi_range1 (by rfl) T.b_range (pa_cons (pe_ix (k_ixT (K := K) rfl) (pv 1) (pv 4) (fun _ _ => rfl)) pa_nil)) (pg_name (i := 5) sc_law_power_value.nd rfl (Or.inl rfl))
      (pss_one (ps_set (i := 3) sc_law_power_value.nd rfl (Or.inl rfl) (pe_op op_mod (pe_callTy call_int1 (by rfl) T.b_int (by decide +kernel) (pa_cons (pe_op op_mul (pv 3) (pe_ix (k_ixT (K := K) rfl) (pv 2) (pv 4) (fun _ _ => rfl))) pa_nil)) (pv 0)))))))
      (pss_one (ps_ret (pv 3))))), ?_⟩
    obtain ⟨p, n, m, x, S, hm, hx, r, k⟩ := h
    obtain ⟨_, a2, a3, rfl, rfl, r2, r3⟩ := All.l3 r
    have hp := S.p
    have hn := S.n
    refine sq (s_set ev_c fun v H1 e1 rv => ?_)
    obtain rfl : v = V.int 1 := rv
    dsimp only [List.set]
    refine sq (s_forD (srcD_range (n := m.length) (ea_cons (ev_len (ea_cons (ev_var rfl (TMono.up e1.t r2)) ea_nil) fun v H1 r => len_pt r) ea_nil) (by rw [hm.1]; omega)) (fun i σ' H' => ∃ (v4 v5 : Option V), σ' = [some (.int p), some a2, some a3, some (.int (mon (m.take i) (x.take i) % p)), v4, v5]) (fun H2 e2 => ⟨none, none, by rw [List.take_zero, mon_nil, Int.emod_eq_of_lt (by decide) (by omega)]; rfl⟩) (fun H2 i a v σ' H0 H' ha e2 e0 pv e' hv => ?_) fun σ' H' e' pv => ?_)
    · obtain ⟨v4, v5, rfl⟩ := pv
      obtain rfl : v = .int a := hv
      have hi := (List.getElem?_eq_some_iff.mp ha).1
      rw [List.length_range] at hi
      obtain rfl : i = a := by rw [List.getElem?_range hi] at ha; exact Option.some.inj ha
      have he := hm.2 m[i] (List.getElem_mem hi)
      have hix : i < x.length := by rw [hx.1, ← hm.1]; exact hi
      have hb := hx.2 x[i] (List.getElem_mem hix)
      have hz : (m.zip x)[i]? = some (m[i], x[i]) := by rw [List.getElem?_zip_eq_some]; exact ⟨List.getElem?_eq_getElem hi, List.getElem?_eq_getElem hix⟩
      have up := e1.trans (e2.trans (e0.trans e'))
      generalize hc : mon (m.take i) (x.take i) % (p : Int) = c
      have hc0 : 0 ≤ c ∧ c < p := hc ▸ ⟨Int.emod_nonneg _ (by omega), Int.emod_lt_of_pos _ (by omega)⟩
      dsimp only [gName, List.set]
      refine s_forD (srcD_range (n := m[i].toNat) (ea_cons (Ev.to (ev_ixP (n := i) (i := m[i]) (ev_var rfl (TMono.up up.t r2)) (ev_is rfl) (List.getElem?_eq_getElem hi)) (by rw [Int.toNat_of_nonneg he.1])) ea_nil) (by omega)) (fun j σ' H' => ∃ (v5 : Option V), σ' = [some (.int p), some a2, some a3, some (.int (c * x[i] ^ j % p)), some (.int i), v5]) (fun H3 e3 => ⟨v5, by rw [Int.pow_zero, Int.mul_one, Int.emod_eq_of_lt hc0.1 hc0.2]⟩) (fun H3 j b v σ' H4 H5 hb' e3 e4 pv e5 hv => ?_) fun σ' H4 e4 pv => ?_
      · obtain ⟨v5, rfl⟩ := pv
        obtain rfl : v = .int b := hv
        have hr : 0 ≤ c * x[i] ^ j % (p : Int) ∧ c * x[i] ^ j % (p : Int) < p := ⟨Int.emod_nonneg _ (by omega), Int.emod_lt_of_pos _ (by omega)⟩
        dsimp only [gName, List.set]
        refine s_set (ev_mod (ev_int (ea_cons (ev_mul (ev_is rfl) (ev_ixP (n := i) (i := x[i]) (ev_var rfl (TMono.up (up.trans (e3.trans (e4.trans e5))).t r3)) (ev_is rfl) (List.getElem?_eq_getElem hix)) (.inl ⟨by omega, by omega⟩)) ea_nil)) (ev_is rfl) (by omega)) fun v H6 e6 rv => ⟨e4.trans (e5.trans e6), some (.int b), ?_⟩
        rw [show v = _ from rv]
        have : c * x[i] ^ j % (p : Int) * x[i] % p = c * x[i] ^ (j + 1) % p := by
          rw [Int.pow_succ, ← Int.mul_assoc]
          exact (Cg.mod (p := p) (c * x[i] ^ j)).mul (Cg.refl x[i])
        rw [← this]
        rfl
      · obtain ⟨v5, rfl⟩ := pv
        refine ⟨e0.trans (e'.trans e4), some (.int i), v5, ?_⟩
        have : c * x[i] ^ m[i].toNat % (p : Int) = mon (m.take (i + 1)) (x.take (i + 1)) % p := by
          rw [mon_take (by rw [hm.1, hx.1]) hz, ← hc]
          exact (Cg.mod (p := p) _).mul (Cg.refl _)
        rw [List.length_range, this]
    · obtain ⟨v4, v5, rfl⟩ := pv
      dsimp only
      refine s_ret (ev_is rfl) fun v H3 e3 rv => k v H3 (e1.trans (e'.trans e3)) ?_
      rw [show v = _ from rv, List.length_range, List.take_length, List.take_of_length_le (by rw [hm.1, hx.1]; exact Nat.le_refl _)]
      rfl
  case len => obtain ⟨p, n, m, x, _, _, _, r, _⟩ := h; exact r.length
abbrev n_law_value : List Str := ["_law_prime", "_law_one", "_law_point", "_law_total", "_law_power", "_law_number"]
theorem sc_law_value : FnScope n_law_value ["_law_prime", "_law_one", "_law_point"] (defScope s_law_value) := ⟨rfl, rfl, rfl, by decide +kernel, rfl, by decide +kernel, by decide +kernel⟩
theorem bd_law_value : BindB "_law_value" "_law_value" s_law_value ["_law_prime", "_law_one", "_law_point"] := fun _ _ _ _ _ _ us hl => match us, hl with | [_, _, _], _ => rfl

def sp_law_value (_ : PySem.W.Frag) : Sp := fun vs H Q E => ∃ (p n : Nat) (F : Pt → Int) (x : Pt), Shape p n ∧ x ∈ pts p n ∧ SpR [IsI p, polyR p n F, ptR x] (IsI (F x % p)) vs H Q E
abbrev G_law_value (P : Program) (w : World) (K : PySem.W.Frag) (mg : Str → Option Value) (base : Heap) : Prop := GFn P w K mg base "_law_value" 2 ["_law_prime", "_law_one", "_law_point"] (sp_law_value K)

theorem ok_law_value (T : TopF K mg) (g_law_power_value : G_law_power_value P w K mg base) : G_law_value P w K mg base := by
  refine T.d_law_value.fn sc_law_value bd_law_value (fun vs H Q E h => ?len) fun f cdv A outer s H vs Q E hr h => ?walk
  case walk =>
    have hu := room1 hr
    have hu3 := room3 hr
    have hu64 := hr.units
    have hu65 := room65 hr
    refine ⟨_, (pss_cons (ps_set (i := 3) sc_law_value.nd rfl (Or.inl rfl) pe_int)
      (pss_cons (ps_for PassesOwn.never rfl (k_piT (K := K) rfl (pv 1)) (pg_tup rfl (pgs_cons (pg_name (i := 4) sc_law_value.nd rfl (Or.inl rfl)) (pgs_cons (pg_name (i := 5) sc_law_value.nd rfl (Or.inl rfl)) pgs_nil)))
      (pss_one (ps_set (i := 3) sc_law_value.nd rfl (Or.inl rfl) (pe_op op_add (pv 3) (pe_op op_mul (pv 5) (pe_fn g_law_power_value hr (by decide) (by rfl) (pa_cons (pv 0) (pa_cons (pv 4) (pa_cons (pv 2) pa_nil)))))))))
      (pss_one (ps_ret (pe_op op_mod (pe_callTy call_int1 (by rfl) T.b_int (by decide +kernel) (pa_cons (pv 3) pa_nil)) (pv 0)))))), ?_⟩
    obtain ⟨p, n, F, x, S, hx, r, k⟩ := h
    obtain ⟨_, a2, a3, rfl, rfl, r2, r3⟩ := All.l3 r
    obtain ⟨f, cf, vf, rf⟩ := r2
    have hp := S.p
    refine sq (s_set ev_c fun v H1 e1 rv => ?_)
    obtain rfl : v = V.int 0 := rv
    dsimp only [List.set]
    refine sq (s_forD (srcD_tup (xs := f) (A := pairR) (ev_var rfl (TMono.up e1.t rf))) (fun i σ' H' => ∃ (v4 v5 : Option V), σ' = [some (.int p), some a2, some a3, some (.int (lsum (f.take i) fun t => t.2 * (mon t.1 x % (p : Int)))), v4, v5]) (fun H2 e2 => ⟨none, none, by rw [List.take_zero, lsum_nil]; rfl⟩) (fun H2 i t v σ' H0 H' ht e2 e0 pv e' hv => ?_) fun σ' H' e' pv => ?_)
    · obtain ⟨v4, v5, rfl⟩ := pv
      have htm := List.mem_of_getElem? ht
      have ht2 := cf.num t htm
      refine g_pair hv fun u1 u2 q1 q2 => ?_
      obtain rfl : u2 = .int t.2 := q2
      dsimp only [List.set]
      refine s_set (ev_I0 (ev_is rfl) (ev_mul (j := mon t.1 x % (p : Int)) (ev_is rfl) (ev_call (ea_cons (ev_is rfl) (ea_cons (ev_var rfl q1) (ea_cons (ev_var rfl (TMono.up (e1.trans (e2.trans (e0.trans e'))).t r3)) ea_nil))) fun vs H1 Q E h => ⟨p, n, t.1, x, S, cf.pow t htm, mem_pts.mp hx, h⟩) (.inl ⟨by omega, by omega⟩))) fun v H3 e3 rv => ⟨e0.trans (e'.trans e3), some u1, some (.int t.2), ?_⟩
      rw [show v = _ from rv, lsum_take ht]
      rfl
    · obtain ⟨v4, v5, rfl⟩ := pv
      rw [List.take_length]
      dsimp only
      refine s_ret (ev_mod (ev_int (ea_cons (ev_is rfl) ea_nil)) (ev_is rfl) (by omega)) fun v H3 e3 rv => k v H3 (e1.trans (e'.trans e3)) ?_
      rw [show v = _ from rv]
      show V.int _ = V.int _
      congr 1
      have h1 : Cg p (lsum f fun t => t.2 * (mon t.1 x % (p : Int))) (vsum f x) := lsum_cg fun t _ => (Cg.refl t.2).mul (Cg.mod _)
      exact h1.trans (vf x hx)
  case len => obtain ⟨p, n, F, x, _, _, r, _⟩ := h; exact r.length
end SP
end
section
set_option Elab.async false
set_option linter.all false
set_option maxRecDepth 100000
set_option maxHeartbeats 4000000
namespace SP
open PySem PyProof.Rows L2
variable {P : Program} {w : World} {K : PySem.W.Frag} {mg : Str → Option Value} {base : Heap}
abbrev n_law_plus : List Str := ["_law_prime", "_law_one", "_law_other", "_law_numbers", "_law_power", "_law_number"]
theorem sc_law_plus : FnScope n_law_plus ["_law_prime", "_law_one", "_law_other"] (defScope s_law_plus) := ⟨rfl, rfl, rfl, by decide +kernel, rfl, by decide +kernel, by decide +kernel⟩
theorem bd_law_plus : BindB "_law_plus" "_law_plus" s_law_plus ["_law_prime", "_law_one", "_law_other"] := fun _ _ _ _ _ _ us hl => match us, hl with | [_, _, _], _ => rfl

def sp_law_plus (_ : PySem.W.Frag) : Sp := fun vs H Q E => ∃ (p n : Nat) (F G : Pt → Int), Shape p n ∧ SpR [IsI p, polyR p n F, polyR p n G] (polyR p n fun x => F x + G x) vs H Q E
abbrev G_law_plus (P : Program) (w : World) (K : PySem.W.Frag) (mg : Str → Option Value) (base : Heap) : Prop := GFn P w K mg base "_law_plus" 2 ["_law_prime", "_law_one", "_law_other"] (sp_law_plus K)

theorem ok_law_plus (T : TopF K mg) (g_law_made : G_law_made P w K mg base) : G_law_plus P w K mg base := by
  refine T.d_law_plus.fn sc_law_plus bd_law_plus (fun vs H Q E h => ?len) fun f cdv A outer s H vs Q E hr h => ?walk
  case walk =>
    have hu := room1 hr
    have hu3 := room3 hr
    have hu64 := hr.units
    have hu65 := room65 hr
    refine ⟨_, (pss_cons (ps_set (i := 3) sc_law_plus.nd rfl (Or.inl rfl) pe_dnewT)
      (pss_cons (ps_for PassesOwn.never rfl (k_piT (K := K) rfl (pe_op (k_catA (K := K) rfl) (pv 1) (pv 2))) (pg_tup rfl (pgs_cons (pg_name (i := 4) sc_law_plus.nd rfl (Or.inl rfl)) (pgs_cons (pg_name (i := 5) sc_law_plus.nd rfl (Or.inl rfl)) pgs_nil)))
      (pss_one (ps_dput hu (pv 3) (pv 4) (pe_op op_add (pe_dget2 hu (pv 3) (pv 4) pe_int ⟨rfl, rfl, rfl, rfl⟩) (pv 5)) rfl)))
      (pss_one (ps_ret (pe_fn g_law_made hr (by decide) (by rfl) (pa_cons (pv 0) (pa_cons (pv 3) pa_nil))))))), ?_⟩
    obtain ⟨p, n, F, G, S, r, k⟩ := h
    obtain ⟨_, a2, a3, rfl, rfl, r2, r3⟩ := All.l3 r
    obtain ⟨f, cf, vf, rf⟩ := r2
    obtain ⟨g, cg, vg, rg⟩ := r3
    have hl : f.length ≤ 27 := Nat.le_trans cf.len S.pts
    have hlg : g.length ≤ 27 := Nat.le_trans cg.len S.pts
    refine sq (s_setD (kvs := iV []) ev_dnewT fun d H1 hd e1 h1 => ?_)
    dsimp only [List.set]
    refine sq (s_forB (Hb := H) (srcB_tup (xs := f ++ g) (A := pairR) (by rw [List.map_append]; exact ev_catT (ev_var rfl rf) (ev_var rfl rg) (by rw [List.length_map, List.length_map, sizeLine_eq]; omega))) e1 (fun i σ' H' => ∃ (kvs : Poly) (v4 v5 : Option V), σ' = [some (.int p), some a2, some a3, some (.ref d), v4, v5] ∧ H' d = some (DT (iV kvs)) ∧ (keysI kvs).Nodup ∧ (∀ x ∈ keysI kvs, inSp p n x) ∧ ∀ x, vsum kvs x = vsum ((f ++ g).take i) x) (fun H2 e2 => ?_) (fun H2 i t v σ' H0 H' ht e2 e0 t0 pv e' hv => ?_) fun σ' H' e' t' pv => ?_)
    · exact ⟨[], none, none, rfl, e2.at h1, List.nodup_nil, (fun x hx => nomatch hx), fun x => by rw [List.take_zero]⟩
    · obtain ⟨kvs, v4, v5, rfl, hk1, hk2, hk3, hk4⟩ := pv
      have hlk := keysI_len hk2 hk3 S
      refine g_pair hv fun u1 u2 q1 q2 => ?_
      obtain rfl : u2 = .int t.2 := q2
      have hd' : H' d = some (DT (iV kvs)) := e'.at hk1
      have hx : inSp p n t.1 := (List.mem_append.mp (List.mem_of_getElem? ht)).elim (cf.pow t) (cg.pow t)
      dsimp only [List.set]
      refine s_dput (R := IsI (getI kvs t.1 + t.2)) hd' (ev_I0 (Ev.to (ev_dget2 (kvs := iV kvs) (k := t.1) (v := .int 0) (ev_var rfl ⟨d, rfl, hd'⟩) (ev_var rfl q1) ev_c) (get_iV kvs t.1)) (ev_is rfl)) (ev_is rfl) (ev_var rfl q1) (by rw [List.length_map, sizeLine_eq]; omega) fun v H3 e3 rv => ?_
      obtain rfl : v = .int (getI kvs t.1 + t.2) := rv
      rw [put_iV]
      have h3 := e3.at hd'
      refine ⟨((e0.trans e').trans e3).mut hd h3 trivial, ((t0.trans e'.t).trans e3.t).trans (TEx.upd h3 trivial), putI kvs t.1 (getI kvs t.1 + t.2), some u1, some (.int t.2), rfl, upd_same, putI_nodup hk2, putI_all hk3 hx, fun x => ?_⟩
      rw [vsum_put hk2, hk4, vsum_take ht]
      have : getI kvs t.1 + t.2 - getI kvs t.1 = t.2 := by omega
      rw [this]
    · obtain ⟨kvs, v4, v5, rfl, hk1, hk2, hk3, hk4⟩ := pv
      dsimp only
      refine s_ret (ev_call (ea_cons (ev_is rfl) (ea_cons (ev_var rfl (R := dR (iV kvs)) ⟨d, rfl, hk1⟩) ea_nil)) fun vs H1 Q E h => ⟨p, n, kvs, S, hk2, hk3, h⟩) fun v H3 e3 rv => ?_
      refine k v H3 (e'.trans e3) (rv.to fun x hx => ?_)
      rw [hk4, List.take_length, vsum_append]
      exact (vf x hx).add (vg x hx)
  case len => obtain ⟨p, n, F, G, _, r, _⟩ := h; exact r.length
abbrev n_law_scaled : List Str := ["_law_prime", "_law_one", "_law_number", "_law_rows", "_law_power", "_law_each", "_law_row"]
theorem sc_law_scaled : FnScope n_law_scaled ["_law_prime", "_law_one", "_law_number"] (defScope s_law_scaled) := ⟨rfl, rfl, rfl, by decide +kernel, rfl, by decide +kernel, by decide +kernel⟩
theorem bd_law_scaled : BindB "_law_scaled" "_law_scaled" s_law_scaled ["_law_prime", "_law_one", "_law_number"] := fun _ _ _ _ _ _ us hl => match us, hl with | [_, _, _], _ => rfl

def scaleP (p : Nat) (c : Int) (f : Poly) : Poly := (f.map fun t => (t.1, t.2 * c % (p : Int))).filter fun t => decide (t.2 ≠ 0)
theorem scaleP_canon {p n : Nat} (hp : 0 < p) {c : Int} {f : Poly} (cf : Canon p n f) : Canon p n (scaleP p c f) where
  ord := by
    unfold scaleP
    refine List.Pairwise.sublist List.filter_sublist ?_
    rw [List.pairwise_map]
    exact cf.ord
  pow := fun t ht => by
    obtain ⟨u, hu, rfl⟩ := List.mem_map.mp (List.mem_filter.mp ht).1
    exact cf.pow u hu
  num := fun t ht => by
    obtain ⟨h1, h2⟩ := List.mem_filter.mp ht
    obtain ⟨u, hu, rfl⟩ := List.mem_map.mp h1
    have h3 : u.2 * c % (p : Int) ≠ 0 := of_decide_eq_true h2
    have h4 := Int.emod_nonneg (u.2 * c) (show (p : Int) ≠ 0 by omega)
    have h5 := Int.emod_lt_of_pos (u.2 * c) (show 0 < (p : Int) by omega)
    exact ⟨by show 0 < u.2 * c % (p : Int); omega, h5⟩
theorem scaleP_vals {p : Nat} {c : Int} {f : Poly} (x : Pt) : Cg p (vsum (scaleP p c f) x) (c * vsum f x) := by
  unfold vsum scaleP
  refine (lsum_filter (p := p) (f := fun t : Pt × Int => t.2 * mon t.1 x) fun t _ hq => ?_).trans ?_
  · have hq' : t.2 = 0 := by simpa using hq
    rw [hq', Int.zero_mul]
    exact Cg.refl 0
  · rw [lsum_map, ← lsum_mul]
    exact lsum_cg fun t _ => ((Cg.mod (t.2 * c)).mul (Cg.refl _)).trans (Cg.of (by grind))
def sp_law_scaled (_ : PySem.W.Frag) : Sp := fun vs H Q E => ∃ (p n : Nat) (F : Pt → Int) (c : Int), Shape p n ∧ SpR [IsI p, polyR p n F, IsI c] (polyR p n fun x => c * F x) vs H Q E
abbrev G_law_scaled (P : Program) (w : World) (K : PySem.W.Frag) (mg : Str → Option Value) (base : Heap) : Prop := GFn P w K mg base "_law_scaled" 1 ["_law_prime", "_law_one", "_law_number"] (sp_law_scaled K)

theorem ok_law_scaled (T : TopF K mg)  : G_law_scaled P w K mg base := by
  refine T.d_law_scaled.fn sc_law_scaled bd_law_scaled (fun vs H Q E h => ?len) fun f cdv A outer s H vs Q E hr h => ?walk
  case walk =>
    have hu := room1 hr
    have hu3 := room3 hr
    have hu64 := hr.units
    have hu65 := room65 hr
    refine ⟨_, (pss_cons (ps_setLc (i := 3) (own := [("_law_power", 4), ("_law_each", 5)]) (g := (gTup K 2 (gCons (gName 4) (gCons (gName 5) gNil)))) (by rfl) sc_law_scaled.nd rfl rfl (sw_true rfl rfl rfl (by decide +kernel)) (k_piT (K := K) rfl (pv 1)) (blkOk_by (own := [("_law_power", 4), ("_law_each", 5)]) (N := n_law_scaled) (sc := defScope s_law_scaled) (by decide +kernel)) (fun _ _ _ _ _ => (pg_tup rfl (pgs_cons (pg_name (i := 4) sc_law_scaled.nd rfl (Or.inl rfl)) (pgs_cons (pg_name (i := 5) sc_law_scaled.nd rfl (Or.inl rfl)) pgs_nil)))) (fun _ _ _ _ _ => pts_nil) (fun _ _ _ _ _ => (pe_tup (pa_cons (pv 4) (pa_cons (pe_op op_mod (pe_callTy call_int1 (by rfl) T.b_int (by decide +kernel) (pa_cons (pe_op op_mul (pv 5) (pv 2)) pa_nil)) (pv 0)) pa_nil)))))
      (pss_one (ps_ret (pe_callTy (k_tup (K := K) rfl) (by rfl) T.b_tuple (by decide +kernel) (pa_cons (pe_lc (own := [("_law_row", 6)]) (g := (gName 6)) (by rfl) sc_law_scaled.nd (k_piL (K := K) rfl (pv 3)) (blkOk_by (own := [("_law_row", 6)]) (N := n_law_scaled) (sc := defScope s_law_scaled) (by decide +kernel)) (fun _ _ _ _ _ => (pg_name (i := 6) sc_law_scaled.nd rfl (Or.inl rfl))) (fun _ _ _ _ _ => (pts_one (pt_cmpR op_ne (pe_ix (k_ixT (K := K) rfl) (pv 6) pe_int (fun _ _ => rfl)) pe_int (nomark _)))) (fun _ _ _ _ _ => (pv 6))) pa_nil))))), ?_⟩
    obtain ⟨p, n, F, c, S, r, k⟩ := h
    obtain ⟨_, a2, _, rfl, rfl, r2, rfl⟩ := All.l3 r
    obtain ⟨f, cf, vf, rf⟩ := r2
    have hp := S.p
    have hl : f.length ≤ 27 := Nat.le_trans cf.len S.pts
    refine sq (s_setN (ev_lc2v (C := pairR) (val := fun t : Pt × Int => (t.1, t.2 * c % (p : Int))) (xs := f) (A := pairR) (srcD_tup (ev_var rfl rf)) (by rw [sizeLine_eq]; omega) fun t v H1 ht e1 rv => g_pair rv fun u1 u2 q1 q2 => ⟨rfl, rfl, ?_⟩) fun pr vr H1 hpr e1 h1 r1 => ?_)
    · obtain rfl : u2 = .int t.2 := q2
      have ht2 := cf.num t ht
      exact ev_tup (ea_cons (ev_var rfl q1) (ea_cons (ev_mod (ev_int (ea_cons (ev_mul (ev_is rfl) (ev_is rfl) (.inl ⟨by omega, by omega⟩)) ea_nil)) (ev_is rfl) (by omega)) ea_nil)) (by show 2 ≤ _; decide)
    · dsimp only [List.set]
      refine s_ret (ev_tupOf (Rs := (scaleP p c f).map pairR) (ea_cons (EvN.ev (ev_lc (f := fun t : Pt × Int => decide (t.2 ≠ 0)) (B := pairR) (xs := f.map fun t => (t.1, t.2 * c % (p : Int))) (A := pairR) (srcD_list (ev_var rfl ⟨pr, vr, rfl, h1, r1⟩)) (by rw [List.length_map, sizeLine_eq]; omega) fun t v H2 ht e2 rv => ⟨rfl, rfl, ?_, fun _ => ev_var rfl rv⟩)) ea_nil)) fun v H2 e2 rv => k v H2 (e1.trans e2) ⟨scaleP p c f, scaleP_canon (by omega) cf, fun x hx => (scaleP_vals x).trans ((Cg.refl c).mul (vf x hx)), rv.f⟩
      exact EvT.to (et_test (ev_neS (ev_ixTM (n := 1) (Rs := [ptR t.1, IsI t.2]) (R := IsI t.2) (ev_var rfl rv) ev_c rfl) ev_c rfl)) (by rw [Bool.eq_iff_iff]; simp)
  case len => obtain ⟨p, n, F, c, _, r, _⟩ := h; exact r.length
abbrev n_law_minus : List Str := ["_law_prime", "_law_one", "_law_other"]
theorem sc_law_minus : FnScope n_law_minus ["_law_prime", "_law_one", "_law_other"] (defScope s_law_minus) := ⟨rfl, rfl, rfl, by decide +kernel, rfl, by decide +kernel, by decide +kernel⟩
theorem bd_law_minus : BindB "_law_minus" "_law_minus" s_law_minus ["_law_prime", "_law_one", "_law_other"] := fun _ _ _ _ _ _ us hl => match us, hl with | [_, _, _], _ => rfl

def sp_law_minus (_ : PySem.W.Frag) : Sp := fun vs H Q E => ∃ (p n : Nat) (F G : Pt → Int), Shape p n ∧ SpR [IsI p, polyR p n F, polyR p n G] (polyR p n fun x => F x - G x) vs H Q E
abbrev G_law_minus (P : Program) (w : World) (K : PySem.W.Frag) (mg : Str → Option Value) (base : Heap) : Prop := GFn P w K mg base "_law_minus" 3 ["_law_prime", "_law_one", "_law_other"] (sp_law_minus K)

theorem ok_law_minus (T : TopF K mg) (g_law_plus : G_law_plus P w K mg base) (g_law_scaled : G_law_scaled P w K mg base) : G_law_minus P w K mg base := by
  refine T.d_law_minus.fn sc_law_minus bd_law_minus (fun vs H Q E h => ?len) fun f cdv A outer s H vs Q E hr h => ?walk
  case walk =>
    have hu := room1 hr
    have hu3 := room3 hr
    have hu64 := hr.units
    have hu65 := room65 hr
    refine ⟨_, (pss_one (ps_ret (pe_fn g_law_plus hr (by decide) (by rfl) (pa_cons (pv 0) (pa_cons (pv 1) (pa_cons (pe_fn g_law_scaled hr (by decide) (by rfl) (pa_cons (pv 0) (pa_cons (pv 2) (pa_cons (pe_op op_sub (pv 0) pe_int) pa_nil)))) pa_nil)))))), ?_⟩
    obtain ⟨p, n, F, G, S, r, k⟩ := h
    obtain ⟨_, a2, a3, rfl, rfl, r2, r3⟩ := All.l3 r
    refine s_ret (ev_call (R := polyR p n fun x => F x + ((p : Int) - 1) * G x) (ea_cons (ev_is rfl) (ea_cons (ev_var rfl r2) (ea_cons (ev_call (R := polyR p n fun x => ((p : Int) - 1) * G x) (ea_cons (ev_is rfl) (ea_cons (ev_var rfl r3) (ea_cons (ev_I0 (ev_is rfl) ev_c) ea_nil))) fun vs H1 Q E h => ⟨p, n, G, (p : Int) - 1, S, h⟩) ea_nil))) fun vs H1 Q E h => ⟨p, n, F, _, S, h⟩) fun v H1 e1 rv => k v H1 e1 (rv.to fun x _ => ?_)
    have e : F x + ((p : Int) - 1) * G x = F x - G x + p * G x := by grind
    rw [e]
    unfold Cg
    exact Int.add_mul_emod_self_left ..
  case len => obtain ⟨p, n, F, G, _, r, _⟩ := h; exact r.length
abbrev n_law_lessened : List Str := ["_law_prime", "_law_exponent", "_law_turn"]
theorem sc_law_lessened : FnScope n_law_lessened ["_law_prime", "_law_exponent"] (defScope s_law_lessened) := ⟨rfl, rfl, rfl, by decide +kernel, rfl, by decide +kernel, by decide +kernel⟩
theorem bd_law_lessened : BindB "_law_lessened" "_law_lessened" s_law_lessened ["_law_prime", "_law_exponent"] := fun _ _ _ _ _ _ us hl => match us, hl with | [_, _], _ => rfl

def sp_law_lessened (_ : PySem.W.Frag) : Sp := fun vs H Q E => ∃ (p : Nat) (i j : Int), 2 ≤ p ∧ p ≤ 100 ∧ 0 ≤ i ∧ i < p ∧ 0 ≤ j ∧ j < p ∧ SpR [IsI p, IsI (i + j)] (IsI (lessN p (i + j))) vs H Q E
abbrev G_law_lessened (P : Program) (w : World) (K : PySem.W.Frag) (mg : Str → Option Value) (base : Heap) : Prop := GFn P w K mg base "_law_lessened" 1 ["_law_prime", "_law_exponent"] (sp_law_lessened K)

theorem ok_law_lessened (T : TopF K mg)  : G_law_lessened P w K mg base := by
  refine T.d_law_lessened.fn sc_law_lessened bd_law_lessened (fun vs H Q E h => ?len) fun f cdv A outer s H vs Q E hr h => ?walk
  case walk =>
    have hu := room1 hr
    have hu3 := room3 hr
    have hu64 := hr.units
    have hu65 := room65 hr
    refine ⟨_, (pss_cons (ps_for PassesOwn.never rfl (pi_range1 (by rfl) T.b_range (pa_cons pe_int pa_nil)) (pg_name (i := 2) sc_law_lessened.nd rfl (Or.inl rfl))
      (pss_one (ps_if (pt_cmpR op_ge (pv 1) (pv 0) (nomark _)) (pss_one (ps_set (i := 1) sc_law_lessened.nd rfl (Or.inl rfl) (pe_op op_sub (pv 1) (pe_op op_sub (pv 0) pe_int)))) pss_nil)))
      (pss_one (ps_ret (pv 1)))), ?_⟩
    obtain ⟨p, i, j, hp, hp2, i0, i1, j0, j1, r, k⟩ := h
    obtain ⟨_, _, rfl, rfl, rfl⟩ := All.l2 r
    have hle := lessN_sum hp i0 i1 j0 j1
    refine sq (s_forD (srcD_range (n := 20) (ea_cons ev_c ea_nil) (by omega)) (fun t σ' H' => ∃ (c : Int) (v2 : Option V), σ' = [some (.int p), some (.int c), v2] ∧ (t = 0 → c = i + j) ∧ (0 < t → c = lessN p (i + j))) (fun H2 e2 => ⟨i + j, none, rfl, fun _ => rfl, fun h => absurd h (by decide)⟩) (fun H2 t a v σ' H0 H' ha e2 e0 pv e' hv => ?_) fun σ' H' e' pv => ?_)
    · obtain ⟨c, v2, rfl, c0, c1⟩ := pv
      obtain rfl : v = .int a := hv
      dsimp only [gName, List.set]
      refine s_if (b := decide ((p : Int) ≤ c)) (et_test (ev_I0 (ev_is rfl) (ev_is rfl))) (fun hb H3 e3 => ?_) fun hb H3 e3 => s_next ?_
      · have hc := of_decide_eq_true hb
        have ht : t = 0 := by
          apply Classical.byContradiction
          intro h
          have := c1 (by omega)
          rw [hle] at this
          split at this <;> omega
        have hcv := c0 ht
        refine s_set (ev_I0 (ev_is rfl) (ev_I0 (ev_is rfl) ev_c)) fun v H4 e4 rv => ⟨e0.trans (e'.trans (e3.trans e4)), c - ((p : Int) - 1), some (.int a), ?_, fun h => absurd h (by omega), fun _ => ?_⟩
        · rw [show v = _ from rv]
          rfl
        · rw [hle, if_neg (by omega), hcv]
      · have hc : ¬ (p : Int) ≤ c := of_decide_eq_false hb
        refine ⟨e0.trans (e'.trans e3), c, some (.int a), rfl, fun h => absurd h (by omega), fun _ => ?_⟩
        by_cases ht : t = 0
        · rw [hle, if_pos (by have := c0 ht; omega)]
          exact c0 ht
        · exact c1 (by omega)
    · obtain ⟨c, v2, rfl, c0, c1⟩ := pv
      rw [List.length_range] at c1
      dsimp only
      refine s_ret (ev_is rfl) fun v H3 e3 rv => k v H3 (e'.trans e3) ?_
      rw [show v = _ from rv, c1 (by decide)]
      rfl
  case len => obtain ⟨p, i, j, _, _, _, _, _, _, r, _⟩ := h; exact r.length
abbrev n_law_times : List Str := ["_law_prime", "_law_one", "_law_other", "_law_numbers", "_law_power", "_law_number", "_law_second", "_law_factor", "_law_both", "_law_k"]
theorem sc_law_times : FnScope n_law_times ["_law_prime", "_law_one", "_law_other"] (defScope s_law_times) := ⟨rfl, rfl, rfl, by decide +kernel, rfl, by decide +kernel, by decide +kernel⟩
theorem bd_law_times : BindB "_law_times" "_law_times" s_law_times ["_law_prime", "_law_one", "_law_other"] := fun _ _ _ _ _ _ us hl => match us, hl with | [_, _, _], _ => rfl

theorem range_mulP {p : Nat} {m s : Pt} (hl : m.length = s.length) : ((List.range m.length).map fun k => lessN p (m[k]?.getD 0 + s[k]?.getD 0)) = mulP p m s := by
  unfold mulP
  apply List.ext_getElem
  · simp [hl]
  · intro i h1 h2
    have hi : i < m.length := by simpa using h1
    have hj : i < s.length := by omega
    simp [List.getElem?_eq_getElem hi, List.getElem?_eq_getElem hj]
def sp_law_times (_ : PySem.W.Frag) : Sp := fun vs H Q E => ∃ (p n : Nat) (F G : Pt → Int), Shape p n ∧ SpR [IsI p, polyR p n F, polyR p n G] (polyR p n fun x => F x * G x) vs H Q E
abbrev G_law_times (P : Program) (w : World) (K : PySem.W.Frag) (mg : Str → Option Value) (base : Heap) : Prop := GFn P w K mg base "_law_times" 2 ["_law_prime", "_law_one", "_law_other"] (sp_law_times K)

theorem ok_law_times (T : TopF K mg) (g_law_lessened : G_law_lessened P w K mg base) (g_law_made : G_law_made P w K mg base) : G_law_times P w K mg base := by
  refine T.d_law_times.fn sc_law_times bd_law_times (fun vs H Q E h => ?len) fun f cdv A outer s H vs Q E hr h => ?walk
  case walk =>
    have hu := room1 hr
    have hu3 := room3 hr
    have hu64 := hr.units
    have hu65 := room65 hr
    refine ⟨_, (pss_cons (ps_set (i := 3) sc_law_times.nd rfl (Or.inl rfl) pe_dnewT)
      (pss_cons (ps_for PassesOwn.never rfl (k_piT (K := K) rfl (pv 1)) (pg_tup rfl (pgs_cons (pg_name (i := 4) sc_law_times.nd rfl (Or.inr rfl)) (pgs_cons (pg_name (i := 5) sc_law_times.nd rfl (Or.inl rfl)) pgs_nil)))
      (pss_one (ps_for PassesOwn.never rfl (k_piT (K := K) rfl (pv 2)) (pg_tup rfl (pgs_cons (pg_name (i := 6) sc_law_times.nd rfl (Or.inr rfl)) (pgs_cons (pg_name (i := 7) sc_law_times.nd rfl (Or.inl rfl)) pgs_nil)))
      (pss_cons (ps_set (i := 8) sc_law_times.nd rfl (Or.inl rfl) (pe_callTy (k_tup (K := K) rfl) (by rfl) T.b_tuple (by decide +kernel) (pa_cons (pe_lc (own := [("_law_k", 9)]) (g := (gName 9)) (by rfl) sc_law_times.nd (pi_range1 (by rfl) T.b_range (pa_cons (pe_callB (k_len (K := K) rfl) (by rfl) T.b_len (by decide +kernel) (pa_cons (pv 4) pa_nil)) pa_nil)) (blkOk_by (own := [("_law_k", 9)]) (N := n_law_times) (sc := defScope s_law_times) (by decide +kernel)) (fun _ _ _ _ _ => (pg_name (i := 9) sc_law_times.nd rfl (Or.inl rfl))) (fun _ _ _ _ _ => pts_nil) (fun _ _ _ _ _ => (pe_fn g_law_lessened hr (by decide) (by rfl) (pa_cons (pv 0) (pa_cons (pe_op op_add (pe_ix (k_ixT (K := K) rfl) (pv 4) (pv 9) (fun _ _ => rfl)) (pe_ix (k_ixT (K := K) rfl) (pv 6) (pv 9) (fun _ _ => rfl))) pa_nil))))) pa_nil)))
      (pss_one (ps_dput hu (pv 3) (pv 8) (pe_op op_add (pe_dget2 hu (pv 3) (pv 8) pe_int ⟨rfl, rfl, rfl, rfl⟩) (pe_op op_mul (pv 5) (pv 7))) rfl))))))
      (pss_one (ps_ret (pe_fn g_law_made hr (by decide) (by rfl) (pa_cons (pv 0) (pa_cons (pv 3) pa_nil))))))), ?_⟩
    obtain ⟨p, n, F, G, S, r, k⟩ := h
    obtain ⟨_, a2, a3, rfl, rfl, r2, r3⟩ := All.l3 r
    obtain ⟨f, cf, vf, rf⟩ := r2
    obtain ⟨g, cg, vg, rg⟩ := r3
    have hp := S.p
    have hn := S.n
    refine sq (s_setD (kvs := iV []) ev_dnewT fun d H1 hd e1 h1 => ?_)
    dsimp only [List.set]
    refine sq (s_forB (Hb := H) (srcB_tup (xs := f) (A := pairR) (ev_var rfl rf)) e1 (fun i σ' H' => ∃ (kvs : Poly) (v4 v5 v6 v7 v8 v9 : Option V), σ' = [some (.int p), some a2, some a3, some (.ref d), v4, v5, v6, v7, v8, v9] ∧ H' d = some (DT (iV kvs)) ∧ (keysI kvs).Nodup ∧ (∀ x ∈ keysI kvs, inSp p n x) ∧ ∀ x ∈ pts p n, Cg p (vsum kvs x) (vsum (f.take i) x * vsum g x)) (fun H2 e2 => ?_) (fun H2 i t v σ' H0 H' ht e2 e0 t0 pv e' hv => ?_) fun σ' H' e' t' pv => ?_)
    · exact ⟨[], none, none, none, none, none, none, rfl, e2.at h1, List.nodup_nil, (fun x hx => nomatch hx), fun x hx => by rw [List.take_zero, vsum_nil, Int.zero_mul]; exact Cg.refl 0⟩
    · obtain ⟨kvs, v4, v5, v6, v7, v8, v9, rfl, hk1, hk2, hk3, hk4⟩ := pv
      refine g_pair hv fun u1 u2 q1 q2 => ?_
      obtain rfl : u2 = .int t.2 := q2
      have hm := cf.pow t (List.mem_of_getElem? ht)
      have ht2 := cf.num t (List.mem_of_getElem? ht)
      dsimp only [List.set]
      refine s_forB (Hb := H) (srcB_tup (xs := g) (A := pairR) (ev_var rfl rg)) (e0.trans e') (fun j σ' H' => ∃ (kvs : Poly) (v6 v7 v8 v9 : Option V), σ' = [some (.int p), some a2, some a3, some (.ref d), some u1, some (.int t.2), v6, v7, v8, v9] ∧ H' d = some (DT (iV kvs)) ∧ (keysI kvs).Nodup ∧ (∀ x ∈ keysI kvs, inSp p n x) ∧ ∀ x ∈ pts p n, Cg p (vsum kvs x) (vsum (f.take i) x * vsum g x + t.2 * mon t.1 x * vsum (g.take j) x)) (fun H3 e3 => ?_) (fun H3 j s v' σ' H4 H5 hs e3 e4 t4 pv e5 hv' => ?_) fun σ' H4 e4 t4 pv => ?_
      · exact ⟨kvs, v6, v7, v8, v9, rfl, e3.at (e'.at hk1), hk2, hk3, fun x hx => by rw [List.take_zero, vsum_nil, Int.mul_zero, Int.add_zero]; exact hk4 x hx⟩
      · obtain ⟨kvs, v6, v7, v8, v9, rfl, hk1, hk2, hk3, hk4⟩ := pv
        have hlk := keysI_len hk2 hk3 S
        refine g_pair hv' fun w1 w2 p1 p2 => ?_
        obtain rfl : w2 = .int s.2 := p2
        have hq := cg.pow s (List.mem_of_getElem? hs)
        have hs2 := cg.num s (List.mem_of_getElem? hs)
        have q1' : ptR t.1 u1 H5 := TMono.up (e3.t.trans (t4.trans e5.t)) q1
        have hl : t.1.length = s.1.length := by rw [hm.1, hq.1]
        dsimp only [List.set]
        refine sq (s_set (R := ptR (mulP p t.1 s.1)) (ev_tupP (ea_cons (EvN.ev (EvN.cast (ev_lc2v (C := IsI) (val := fun k : Nat => lessN p (t.1[k]?.getD 0 + s.1[k]?.getD 0)) (xs := List.range t.1.length) (A := fun k => IsI (k : Nat)) (srcD_range (n := t.1.length) (ea_cons (ev_len (ea_cons (ev_var rfl q1') ea_nil) fun v H1 r => len_pt r) ea_nil) (by rw [hm.1]; omega)) (by rw [List.length_range, hm.1, sizeLine_eq]; omega) fun a u H6 ha e6 hu => ⟨rfl, rfl, ?_⟩) (by rw [range_mulP hl]))) ea_nil)) fun v H6 e6 rv => ?_)
        · obtain rfl : u = .int (a : Nat) := hu
          have ha1 := List.mem_range.mp ha
          have ha2 : a < s.1.length := by omega
          have b1 := hm.2 _ (List.getElem_mem ha1)
          have b2 := hq.2 _ (List.getElem_mem ha2)
          show Ev _ _ _ (IsI (lessN p (t.1[a]?.getD 0 + s.1[a]?.getD 0)))
          rw [List.getElem?_eq_getElem ha1, List.getElem?_eq_getElem ha2]
          show Ev _ _ _ (IsI (lessN p (t.1[a] + s.1[a])))
          exact ev_call (ea_cons (ev_is rfl) (ea_cons (ev_I0 (ev_ixP (n := a) (i := t.1[a]) (ev_var rfl (TMono.up e6.t q1')) (ev_is rfl) (List.getElem?_eq_getElem ha1)) (ev_ixP (n := a) (i := s.1[a]) (ev_var rfl (TMono.up e6.t p1)) (ev_is rfl) (List.getElem?_eq_getElem ha2))) ea_nil)) fun vs H1 Q E h => ⟨p, t.1[a], s.1[a], by omega, by omega, b1.1, b1.2, b2.1, b2.2, h⟩
        · have hd' : H6 d = some (DT (iV kvs)) := e6.at (e5.at hk1)
          dsimp only [List.set]
          refine s_dput (R := IsI (getI kvs (mulP p t.1 s.1) + t.2 * s.2)) hd' (ev_I0 (Ev.to (ev_dget2 (kvs := iV kvs) (k := mulP p t.1 s.1) (v := .int 0) (ev_var rfl ⟨d, rfl, hd'⟩) (ev_var rfl rv) ev_c) (get_iV kvs _)) (ev_mul (ev_is rfl) (ev_is rfl) (.inl ⟨by omega, by omega⟩))) (ev_is rfl) (ev_var rfl rv) (by rw [List.length_map, sizeLine_eq]; omega) fun v7' H7 e7 rv7 => ?_
          obtain rfl : v7' = .int (getI kvs (mulP p t.1 s.1) + t.2 * s.2) := rv7
          rw [put_iV]
          have h3 := e7.at hd'
          refine ⟨(((e4.trans e5).trans e6).trans e7).mut hd h3 trivial, (t4.trans (e5.t.trans (e6.t.trans e7.t))).trans (TEx.upd h3 trivial), putI kvs (mulP p t.1 s.1) (getI kvs (mulP p t.1 s.1) + t.2 * s.2), some w1, some (.int s.2), some v, v9, rfl, upd_same, putI_nodup hk2, putI_all hk3 (mulP_in hp.1 hm hq), fun x hx => ?_⟩
          rw [vsum_put hk2, vsum_take hs]
          have h4 := hk4 x hx
          have h5 : Cg p ((getI kvs (mulP p t.1 s.1) + t.2 * s.2 - getI kvs (mulP p t.1 s.1)) * mon (mulP p t.1 s.1) x) (t.2 * s.2 * (mon t.1 x * mon s.1 x)) :=
            (Cg.of (by omega)).mul (mulP_pts S.pr hm hq hx)
          exact (h4.add h5).trans (Cg.of (by grind))
      · obtain ⟨kvs, v6, v7, v8, v9, rfl, hk1, hk2, hk3, hk4⟩ := pv
        refine ⟨e4, t0.trans (e'.t.trans t4), kvs, some u1, some (.int t.2), v6, v7, v8, v9, rfl, hk1, hk2, hk3, fun x hx => ?_⟩
        have h4 := hk4 x hx
        rw [List.take_length] at h4
        rw [vsum_take ht]
        exact h4.trans (Cg.of (by grind))
    · obtain ⟨kvs, v4, v5, v6, v7, v8, v9, rfl, hk1, hk2, hk3, hk4⟩ := pv
      dsimp only
      refine s_ret (ev_call (ea_cons (ev_is rfl) (ea_cons (ev_var rfl (R := dR (iV kvs)) ⟨d, rfl, hk1⟩) ea_nil)) fun vs H1 Q E h => ⟨p, n, kvs, S, hk2, hk3, h⟩) fun v H3 e3 rv => ?_
      refine k v H3 (e'.trans e3) (rv.to fun x hx => ?_)
      have h4 := hk4 x hx
      rw [List.take_length] at h4
      exact h4.trans ((vf x hx).mul (vg x hx))
  case len => obtain ⟨p, n, F, G, _, r, _⟩ := h; exact r.length
end SP
end
section
set_option Elab.async false
set_option linter.all false
set_option maxRecDepth 100000
set_option maxHeartbeats 4000000
namespace SP
open PySem PyProof.Rows L2
variable {P : Program} {w : World} {K : PySem.W.Frag} {mg : Str → Option Value} {base : Heap}
theorem canon_one {p n : Nat} (hp : 2 ≤ p) {m : Pt} (hm : inSp p n m) : Canon p n [(m, 1)] where
  ord := List.pairwise_singleton _ _
  pow := fun t ht => by rw [List.mem_singleton.mp ht]; exact hm
  num := fun t ht => by rw [List.mem_singleton.mp ht]; exact ⟨by show (0 : Int) < 1; decide, by show (1 : Int) < p; omega⟩
theorem vsum_one {m x : Pt} : vsum [(m, 1)] x = mon m x := by rw [vsum_cons, vsum_nil, Int.add_zero, Int.one_mul]
abbrev n_law_raised : List Str := ["_law_prime", "_law_count", "_law_one", "_law_exponent", "_law_found", "_law_turn"]
theorem sc_law_raised : FnScope n_law_raised ["_law_prime", "_law_count", "_law_one", "_law_exponent"] (defScope s_law_raised) := ⟨rfl, rfl, rfl, by decide +kernel, rfl, by decide +kernel, by decide +kernel⟩
theorem bd_law_raised : BindB "_law_raised" "_law_raised" s_law_raised ["_law_prime", "_law_count", "_law_one", "_law_exponent"] := fun _ _ _ _ _ _ us hl => match us, hl with | [_, _, _, _], _ => rfl

def sp_law_raised (_ : PySem.W.Frag) : Sp := fun vs H Q E => ∃ (p n : Nat) (F : Pt → Int) (e : Nat), Shape p n ∧ e ≤ 1000 ∧ SpR [IsI p, IsI n, polyR p n F, IsI e] (polyR p n fun x => F x ^ e) vs H Q E
abbrev G_law_raised (P : Program) (w : World) (K : PySem.W.Frag) (mg : Str → Option Value) (base : Heap) : Prop := GFn P w K mg base "_law_raised" 3 ["_law_prime", "_law_count", "_law_one", "_law_exponent"] (sp_law_raised K)

theorem ok_law_raised (T : TopF K mg) (g_law_times : G_law_times P w K mg base) : G_law_raised P w K mg base := by
  refine T.d_law_raised.fn sc_law_raised bd_law_raised (fun vs H Q E h => ?len) fun f cdv A outer s H vs Q E hr h => ?walk
  case walk =>
    have hu := room1 hr
    have hu3 := room3 hr
    have hu64 := hr.units
    have hu65 := room65 hr
    refine ⟨_, (pss_cons (ps_set (i := 4) sc_law_raised.nd rfl (Or.inl rfl) (pe_tup (pa_cons (pe_tup (pa_cons (pe_op (k_repA (K := K) rfl) (pe_tup (pa_cons pe_int pa_nil)) (pv 1)) (pa_cons pe_int pa_nil))) pa_nil)))
      (pss_cons (ps_for PassesOwn.never rfl (pi_range1 (by rfl) T.b_range (pa_cons (pv 3) pa_nil)) (pg_name (i := 5) sc_law_raised.nd rfl (Or.inl rfl))
      (pss_one (ps_set (i := 4) sc_law_raised.nd rfl (Or.inl rfl) (pe_fn g_law_times hr (by decide) (by rfl) (pa_cons (pv 0) (pa_cons (pv 4) (pa_cons (pv 2) pa_nil)))))))
      (pss_one (ps_ret (pv 4))))), ?_⟩
    obtain ⟨p, n, F, e, S, he, r, k⟩ := h
    obtain ⟨_, _, a3, _, rfl, rfl, rfl, r3, rfl⟩ := All.l4 r
    have hp := S.p
    have hn := S.n
    refine sq (s_set (R := polyR p n fun _ => 1) (Ev.imp (ev_tup (Rs := [pairR (List.replicate n 0, 1)]) (ea_cons (ev_tup (Rs := [ptR (List.replicate n 0), IsI 1]) (ea_cons (ev_repP ((ev_tup (ea_cons ev_c ea_nil) (by show 1 ≤ _; decide)).imp fun v H1 e r => ptR_of (x := [0]) r) (ev_is rfl) (by omega) (by omega)) (ea_cons ev_c ea_nil)) (by show 2 ≤ _; decide)) ea_nil) (by show 1 ≤ _; decide)) fun v H1 e1 r1 => ⟨[(List.replicate n 0, 1)], canon_one hp.1 (zero_in (by omega)), fun x hx => Cg.of (by rw [vsum_one, mon_zero]), tupR.f r1⟩) fun v H1 e1 rv => ?_)
    dsimp only [List.set]
    refine sq (s_forD (srcD_range (n := e) (ea_cons (ev_is rfl) ea_nil) (by omega)) (fun i σ' H' => ∃ (u : V) (v5 : Option V), σ' = [some (.int p), some (.int n), some a3, some (.int e), some u, v5] ∧ polyR p n (fun x => F x ^ i) u H') (fun H2 e2 => ?_) (fun H2 i t v' σ' H0 H' ht e2 e0 pv e' hv => ?_) fun σ' H' e' pv => ?_)
    · exact ⟨v, none, rfl, (TMono.up e2.t rv : polyR p n (fun _ => 1) v H2).to fun x _ => Cg.of (by rw [Int.pow_zero])⟩
    · obtain ⟨u, v5, rfl, hu1⟩ := pv
      obtain rfl : v' = .int t := hv
      dsimp only [gName, List.set]
      refine s_set (R := polyR p n fun x => F x ^ i * F x) (ev_call (ea_cons (ev_is rfl) (ea_cons (ev_var rfl (TMono.up e'.t hu1)) (ea_cons (ev_var rfl (TMono.up (e1.t.trans (e2.t.trans (e0.t.trans e'.t))) r3)) ea_nil))) fun vs H1 Q E h => ⟨p, n, _, F, S, h⟩) fun w H3 e3 rw => ?_
      exact ⟨e0.trans (e'.trans e3), w, some (.int t), rfl, rw.to fun x _ => Cg.of (by rw [Int.pow_succ])⟩
    · obtain ⟨u, v5, rfl, hu1⟩ := pv
      rw [List.length_range] at hu1
      dsimp only
      exact s_ret (ev_var rfl hu1) fun w H3 e3 rw => k w H3 (e1.trans (e'.trans e3)) rw
  case len => obtain ⟨p, n, F, e, _, _, r, _⟩ := h; exact r.length
abbrev n_law_unknown : List Str := ["_law_count", "_law_index", "_law_k"]
theorem sc_law_unknown : FnScope n_law_unknown ["_law_count", "_law_index"] (defScope s_law_unknown) := ⟨rfl, rfl, rfl, by decide +kernel, rfl, by decide +kernel, by decide +kernel⟩
theorem bd_law_unknown : BindB "_law_unknown" "_law_unknown" s_law_unknown ["_law_count", "_law_index"] := fun _ _ _ _ _ _ us hl => match us, hl with | [_, _], _ => rfl

def unitP (n i : Nat) : Pt := (List.range n).map fun k => if k = i then (1 : Int) else 0
theorem unitP_in {p n i : Nat} (hp : 2 ≤ p) : inSp p n (unitP n i) := by
  refine ⟨by unfold unitP; rw [List.length_map, List.length_range], fun a ha => ?_⟩
  obtain ⟨k, _, rfl⟩ := List.mem_map.mp ha
  split <;> omega
theorem mon_unit {n i : Nat} (hi : i < n) {x : Pt} (hx : x.length = n) : mon (unitP n i) x = x[i]?.getD 0 := by
  have hl : (unitP n i).length = n := by unfold unitP; rw [List.length_map, List.length_range]
  have q : ∀ j, j ≤ n → mon ((unitP n i).take j) (x.take j) = if i < j then x[i]?.getD 0 else 1 := by
    intro j
    induction j with
    | zero => intro _; rw [List.take_zero, mon_nil]; rfl
    | succ j ih =>
      intro hj
      have hjx : j < x.length := by omega
      have hu : (unitP n i)[j]? = some (if j = i then (1 : Int) else 0) := by unfold unitP; rw [List.getElem?_map, List.getElem?_range (by omega)]; rfl
      have hz : ((unitP n i).zip x)[j]? = some (if j = i then (1 : Int) else 0, x[j]) := by rw [List.getElem?_zip_eq_some]; exact ⟨hu, List.getElem?_eq_getElem hjx⟩
      rw [mon_take (by rw [hl, hx]) hz, ih (by omega)]
      by_cases e : j = i
      · subst e
        rw [if_neg (by omega), if_pos rfl, if_pos (by omega), List.getElem?_eq_getElem hjx]
        show 1 * x[j] ^ 1 = x[j]
        rw [Int.pow_succ, Int.pow_zero, Int.one_mul, Int.one_mul]
      · rw [if_neg e]
        show _ * x[j] ^ 0 = _
        rw [Int.pow_zero, Int.mul_one]
        by_cases h : i < j
        · rw [if_pos h, if_pos (by omega)]
        · rw [if_neg h, if_neg (by omega)]
  have h := q n (Nat.le_refl _)
  rw [List.take_of_length_le (by rw [hl]; exact Nat.le_refl _), List.take_of_length_le (by rw [hx]; exact Nat.le_refl _), if_pos hi] at h
  exact h
def sp_law_unknown (_ : PySem.W.Frag) : Sp := fun vs H Q E => ∃ (p n i : Nat), Shape p n ∧ i < n ∧ SpR [IsI n, IsI i] (polyR p n fun x => x[i]?.getD 0) vs H Q E
abbrev G_law_unknown (P : Program) (w : World) (K : PySem.W.Frag) (mg : Str → Option Value) (base : Heap) : Prop := GFn P w K mg base "_law_unknown" 1 ["_law_count", "_law_index"] (sp_law_unknown K)

theorem ok_law_unknown (T : TopF K mg)  : G_law_unknown P w K mg base := by
  refine T.d_law_unknown.fn sc_law_unknown bd_law_unknown (fun vs H Q E h => ?len) fun f cdv A outer s H vs Q E hr h => ?walk
  case walk =>
    have hu := room1 hr
    have hu3 := room3 hr
    have hu64 := hr.units
    have hu65 := room65 hr
    refine ⟨_, (pss_one (ps_ret (pe_tup (pa_cons (pe_tup (pa_cons (pe_callTy (k_tup (K := K) rfl) (by rfl) T.b_tuple (by decide +kernel) (pa_cons (pe_lc (own := [("_law_k", 2)]) (g := (gName 2)) (by rfl) sc_law_unknown.nd (pi_range1 (by rfl) T.b_range (pa_cons (pv 0) pa_nil)) (blkOk_by (own := [("_law_k", 2)]) (N := n_law_unknown) (sc := defScope s_law_unknown) (by decide +kernel)) (fun _ _ _ _ _ => (pg_name (i := 2) sc_law_unknown.nd rfl (Or.inl rfl))) (fun _ _ _ _ _ => pts_nil) (fun _ _ _ _ _ => (pe_callTy call_int1 (by rfl) T.b_int (by decide +kernel) (pa_cons (pe_cmpR op_eq (pv 2) (pv 1) (nomark _)) pa_nil)))) pa_nil)) (pa_cons pe_int pa_nil))) pa_nil)))), ?_⟩
    obtain ⟨p, n, i, S, hi, r, k⟩ := h
    obtain ⟨_, _, rfl, rfl, rfl⟩ := All.l2 r
    have hp := S.p
    have hn := S.n
    refine s_ret (ev_tup (Rs := [pairR (unitP n i, 1)]) (ea_cons (ev_tup (Rs := [ptR (unitP n i), IsI 1]) (ea_cons (ev_tupP (ea_cons (EvN.ev (EvN.cast (ev_lc2v (C := IsI) (val := fun k : Nat => if k = i then (1 : Int) else 0) (xs := List.range n) (A := fun k => IsI (k : Nat)) (srcD_range (n := n) (ea_cons (ev_is rfl) ea_nil) (by omega)) (by rw [List.length_range, sizeLine_eq]; omega) fun a u H1 ha e1 hu => ⟨rfl, rfl, ?_⟩) (by unfold unitP; rfl))) ea_nil)) (ea_cons ev_c ea_nil)) (by show 2 ≤ _; decide)) ea_nil) (by show 1 ≤ _; decide)) fun v H1 e1 rv => k v H1 e1 ⟨[(unitP n i, 1)], canon_one hp.1 (unitP_in hp.1), fun x hx => Cg.of (by rw [vsum_one, mon_unit hi (mem_pts.mp hx).1]), tupR.f rv⟩
    obtain rfl : u = .int (a : Nat) := hu
    refine Ev.to (ev_intB (b := decide (V.int (a : Nat) = V.int (i : Nat))) (ea_cons (ev_eqS (ev_is rfl) (ev_is rfl) rfl) ea_nil)) ?_
    show V.int _ = V.int _
    congr 1
    by_cases e : a = i
    · subst e; rw [decide_eq_true rfl, if_pos rfl, if_pos rfl]
    · rw [if_neg e, decide_eq_false (fun h => e (by injection h with h; omega))]; rfl
  case len => obtain ⟨p, n, i, _, _, r, _⟩ := h; exact r.length
abbrev n_law_is_tuple_point : List Str := ["_law_prime", "_law_count", "_law_thing", "_law_number"]
theorem sc_law_is_tuple_point : FnScope n_law_is_tuple_point ["_law_prime", "_law_count", "_law_thing"] (defScope s_law_is_tuple_point) := ⟨rfl, rfl, rfl, by decide +kernel, rfl, by decide +kernel, by decide +kernel⟩
theorem bd_law_is_tuple_point : BindB "_law_is_tuple_point" "_law_is_tuple_point" s_law_is_tuple_point ["_law_prime", "_law_count", "_law_thing"] := fun _ _ _ _ _ _ us hl => match us, hl with | [_, _, _], _ => rfl

def sp_law_is_tuple_point (_ : PySem.W.Frag) : Sp := fun vs H Q E => ∃ (p n : Nat) (x : Pt), Shape p n ∧ inSp p n x ∧ SpR [IsI p, IsI n, ptR x] (IsB true) vs H Q E
abbrev G_law_is_tuple_point (P : Program) (w : World) (K : PySem.W.Frag) (mg : Str → Option Value) (base : Heap) : Prop := GFn P w K mg base "_law_is_tuple_point" 1 ["_law_prime", "_law_count", "_law_thing"] (sp_law_is_tuple_point K)

theorem ok_law_is_tuple_point (T : TopF K mg)  : G_law_is_tuple_point P w K mg base := by
  refine T.d_law_is_tuple_point.fn sc_law_is_tuple_point bd_law_is_tuple_point (fun vs H Q E h => ?len) fun f cdv A outer s H vs Q E hr h => ?walk
  case walk =>
    have hu := room1 hr
    have hu3 := room3 hr
    have hu64 := hr.units
    have hu65 := room65 hr
    refine ⟨_, (pss_one (ps_ret (pe_and (pe_cmpR op_eq (pe_callB (k_len (K := K) rfl) (by rfl) T.b_len (by decide +kernel) (pa_cons (pv 2) pa_nil)) (pv 1) (nomark _)) (pe_one (pe_callB (k_all (K := K) rfl rfl) (by rfl) T.b_all (by decide +kernel) (pa_cons (pe_lc (own := [("_law_number", 3)]) (g := (gName 3)) (by rfl) sc_law_is_tuple_point.nd (k_piT (K := K) rfl (pv 2)) (blkOk_by (own := [("_law_number", 3)]) (N := n_law_is_tuple_point) (sc := defScope s_law_is_tuple_point) (by decide +kernel)) (fun _ _ _ _ _ => (pg_name (i := 3) sc_law_is_tuple_point.nd rfl (Or.inl rfl))) (fun _ _ _ _ _ => pts_nil) (fun _ _ _ _ _ => (pe_chain op_le op_lt pe_int (pv 3) (pv 0)))) pa_nil)))))), ?_⟩
    obtain ⟨p, n, x, S, hx, r, k⟩ := h
    obtain ⟨_, _, a3, rfl, rfl, rfl, r3⟩ := All.l3 r
    have hp := S.p
    have hn := S.n
    refine s_ret (ev_andV (a := true) (b := true) (Ev.to (ev_eqS (x := .int x.length) (y := .int n) (ev_len (ea_cons (ev_var rfl r3) ea_nil) fun v H1 r => len_pt r) (ev_is rfl) rfl) (by rw [hx.1]; rw [decide_eq_true rfl])) fun hl => Ev.to (ev_all (bs := x.map fun a : Int => decide (0 ≤ a) && decide (a < (p : Int))) (ea_cons (EvN.ev ?_) ea_nil)) ?_) fun v H1 e1 rv => k v H1 e1 rv
    · exact ev_lc2v (C := IsB) (val := fun a : Int => decide (0 ≤ a) && decide (a < (p : Int))) (xs := x) (srcD_tup ((ev_var rfl r3).imp fun v H1 e r => (ptR.tup r).f)) (by rw [hx.1, sizeLine_eq]; omega)
        fun t v H1 ht e1 rv => ⟨rfl, rfl, by
          obtain rfl : v = .int t := rv
          exact ev_chain (Ra := IsI 0) (Rb := IsI t) (Rc := IsI p) ev_c (ev_is rfl) (fun _ => ev_is rfl) (fun x y H1 e rx ry => rv_val fun Q q => ⟨0, t, rx, ry, q⟩) fun _ x y H1 e rx ry => rv_val fun Q q => ⟨t, p, rx, ry, q⟩⟩
    · show V.bl _ = V.bl true
      congr 1
      rw [List.all_map, List.all_eq_true]
      intro a ha
      have := hx.2 a ha
      show (decide (0 ≤ a) && decide (a < (p : Int))) = true
      rw [decide_eq_true this.1, decide_eq_true this.2]
      rfl
  case len => obtain ⟨p, n, x, _, _, r, _⟩ := h; exact r.length
abbrev n_law_is_polynomial : List Str := ["_law_prime", "_law_count", "_law_thing", "_law_k", "_law_power", "_law_number"]
theorem sc_law_is_polynomial : FnScope n_law_is_polynomial ["_law_prime", "_law_count", "_law_thing"] (defScope s_law_is_polynomial) := ⟨rfl, rfl, rfl, by decide +kernel, rfl, by decide +kernel, by decide +kernel⟩
theorem bd_law_is_polynomial : BindB "_law_is_polynomial" "_law_is_polynomial" s_law_is_polynomial ["_law_prime", "_law_count", "_law_thing"] := fun _ _ _ _ _ _ us hl => match us, hl with | [_, _, _], _ => rfl

def sp_law_is_polynomial (_ : PySem.W.Frag) : Sp := fun vs H Q E => ∃ (p n : Nat) (f : Poly), Shape p n ∧ Canon p n f ∧ SpR [IsI p, IsI n, polyV f] (IsB true) vs H Q E
abbrev G_law_is_polynomial (P : Program) (w : World) (K : PySem.W.Frag) (mg : Str → Option Value) (base : Heap) : Prop := GFn P w K mg base "_law_is_polynomial" 2 ["_law_prime", "_law_count", "_law_thing"] (sp_law_is_polynomial K)

theorem ok_law_is_polynomial (T : TopF K mg) (g_law_is_tuple_point : G_law_is_tuple_point P w K mg base) : G_law_is_polynomial P w K mg base := by
  refine T.d_law_is_polynomial.fn sc_law_is_polynomial bd_law_is_polynomial (fun vs H Q E h => ?len) fun f cdv A outer s H vs Q E hr h => ?walk
  case walk =>
    have hu := room1 hr
    have hu3 := room3 hr
    have hu64 := hr.units
    have hu65 := room65 hr
    refine ⟨_, (pss_cons (ps_for PassesOwn.never rfl (pi_range1 (by rfl) T.b_range (pa_cons (pe_callB (k_len (K := K) rfl) (by rfl) T.b_len (by decide +kernel) (pa_cons (pv 2) pa_nil)) pa_nil)) (pg_name (i := 3) sc_law_is_polynomial.nd rfl (Or.inl rfl))
      (pss_cons (ps_asg (pe_ix (k_ixT (K := K) rfl) (pv 2) (pv 3) (fun _ _ => rfl)) (pg_tup rfl (pgs_cons (pg_name (i := 4) sc_law_is_polynomial.nd rfl (Or.inl rfl)) (pgs_cons (pg_name (i := 5) sc_law_is_polynomial.nd rfl (Or.inl rfl)) pgs_nil))))
      (pss_cons (ps_if (PW.pt (pw_or (pt_not (pt_val (pe_fn g_law_is_tuple_point hr (by decide) (by rfl) (pa_cons (pv 0) (pa_cons (pv 1) (pa_cons (pv 4) pa_nil)))))) (pw_or1 (pt_not (pt_chain op_lt op_lt pe_int (pv 5) (pv 0)))))) (pss_one (ps_ret pe_bl)) pss_nil)
      (pss_one (ps_if (PW.pt (pw_and (pt_cmpR op_gt (pv 3) pe_int (nomark _)) (pw_and1 (pt_not (pt_cmpR (k_ltT (K := K) rfl hr.units0) (pv 4) (pe_ix (k_ixT (K := K) rfl) (pe_ix (k_ixT (K := K) rfl) (pv 2) (pe_op op_sub (pv 3) pe_int) (fun _ _ => rfl)) pe_int (fun _ _ => rfl)) (nomark _)))))) (pss_one (ps_ret pe_bl)) pss_nil)))))
      (pss_one (ps_ret pe_bl))), ?_⟩
    obtain ⟨p, n, f, S, cf, r, k⟩ := h
    obtain ⟨_, _, a3, rfl, rfl, rfl, r3⟩ := All.l3 r
    have hp := S.p
    have hl : f.length ≤ 27 := Nat.le_trans cf.len S.pts
    refine sq (s_forD (srcD_range (n := f.length) (ea_cons (ev_len (ea_cons (ev_var rfl r3) ea_nil) fun v H1 r => by
          have h := len_tup (K := K) r
          rw [List.length_map] at h
          exact h) ea_nil) (by omega)) (fun i σ' H' => ∃ (v3 v4 v5 : Option V), σ' = [some (.int p), some (.int n), some a3, v3, v4, v5]) (fun H2 e2 => ⟨none, none, none, rfl⟩) (fun H2 i a v' σ' H0 H' ha e2 e0 pv e' hv => ?_) fun σ' H' e' pv => ?_)
    · obtain ⟨v3, v4, v5, rfl⟩ := pv
      obtain rfl : v' = .int a := hv
      have hi := (List.getElem?_eq_some_iff.mp ha).1
      rw [List.length_range] at hi
      obtain rfl : i = a := by rw [List.getElem?_range hi] at ha; exact Option.some.inj ha
      have r3' : polyV f a3 H' := TMono.up (e2.trans (e0.trans e')).t r3
      have hm := cf.pow f[i] (List.getElem_mem hi)
      have hc := cf.num f[i] (List.getElem_mem hi)
      dsimp only [gName, List.set]
      refine sq (s_asg (R := pairR f[i]) (ev_ixT (n := i) (Rs := f.map pairR) (ev_var rfl r3') (ev_is rfl) (by rw [List.getElem?_map, List.getElem?_eq_getElem hi]; rfl)) fun v H1 e1 rv => g_pair rv fun u1 u2 q1 q2 => ?_)
      obtain rfl : u2 = .int (f[i]).2 := q2
      dsimp only [List.set]
      refine sq (s_if (b := false) (EvT.to (et_or (a := false) (b := false) (EvT.to (et_not (et_test (ev_call (R := IsB true) (ea_cons (ev_is rfl) (ea_cons (ev_is rfl) (ea_cons (ev_var rfl q1) ea_nil))) fun vs H1 Q E h => ⟨p, n, (f[i]).1, S, hm, h⟩))) rfl) fun _ => ?_) rfl) (fun hb => by cases hb) fun hb H3 e3 => s_next ?_)
      · exact EvT.to (et_not (et_test (ev_chain (Ra := IsI 0) (Rb := IsI (f[i]).2) (Rc := IsI p) (a := decide ((0 : Int) < (f[i]).2)) (b := decide ((f[i]).2 < (p : Int))) ev_c (ev_is rfl) (fun _ => ev_is rfl) (fun x y H1 e rx ry => rv_val fun Q q => ⟨0, (f[i]).2, rx, ry, q⟩) fun _ x y H1 e rx ry => rv_val fun Q q => ⟨(f[i]).2, p, rx, ry, q⟩))) (by rw [decide_eq_true hc.1, decide_eq_true hc.2]; rfl)
      · dsimp only
        refine s_if (b := false) (EvT.to (et_and (a := decide (i > 0)) (b := false) (EvT.to (et_test (ev_I0 (ev_is rfl) ev_c)) (by rw [Bool.eq_iff_iff]; simp)) fun h0 => ?_) (by rw [Bool.and_false])) (fun hb => by cases hb) fun hb H4 e4 => s_next ?_
        · have h0' : 0 < i := by simpa using h0
          have hi1 : i - 1 < f.length := by omega
          have hprev : f[i - 1]? = some f[i - 1] := List.getElem?_eq_getElem hi1
          have r3'' : polyV f a3 H3 := TMono.up (e1.trans e3).t r3'
          have hlt : lexLt (f[i]).1 (f[i - 1]).1 = true := List.pairwise_iff_getElem.mp cf.ord (i - 1) i hi1 hi (by omega)
          have ep : Ev (tOp (rIxT K) (tOp (rIxT K) (tVar 2) (tOp (rI0 fun i j => .int (i - j)) (tVar 3) (tC (.int 1)))) (tC (.int 0))) [some (.int p), some (.int n), some a3, some (.int i), some u1, some (.int (f[i]).2)] H3 (ptR (f[i - 1]).1) := by
            refine ev_ixTM (n := 0) (Rs := [ptR (f[i - 1]).1, IsI (f[i - 1]).2]) (ev_ixT (n := i - 1) (R := pairR f[i - 1]) (Rs := f.map pairR) (ev_var rfl r3'') (Ev.to (ev_I0 (ev_is rfl) ev_c) ?_) (by rw [List.getElem?_map, hprev]; rfl)) ev_c rfl
            show V.int _ = V.int _
            congr 1
            omega
          exact EvT.to (et_not (et_test (ev_ltP (ev_var rfl (TMono.up e3.t q1)) ep))) (by rw [hlt]; rfl)
        · exact ⟨e0.trans (e'.trans (e1.trans (e3.trans e4))), _, _, _, rfl⟩
    · obtain ⟨v3, v4, v5, rfl⟩ := pv
      dsimp only
      exact s_ret ev_c fun v H3 e3 rv => k v H3 (e'.trans e3) rv
  case len => obtain ⟨p, n, f, _, _, r, _⟩ := h; exact r.length
abbrev n_law_after : List Str := ["_law_prime", "_law_step_here", "_law_point", "_law_one"]
theorem sc_law_after : FnScope n_law_after ["_law_prime", "_law_step_here", "_law_point"] (defScope s_law_after) := ⟨rfl, rfl, rfl, by decide +kernel, rfl, by decide +kernel, by decide +kernel⟩
theorem bd_law_after : BindB "_law_after" "_law_after" s_law_after ["_law_prime", "_law_step_here", "_law_point"] := fun _ _ _ _ _ _ us hl => match us, hl with | [_, _, _], _ => rfl

def sp_law_after (_ : PySem.W.Frag) : Sp := fun vs H Q E => ∃ (p n : Nat) (Gs : List (Pt → Int)) (x : Pt), Shape p n ∧ Gs.length ≤ 1000 ∧ x ∈ pts p n ∧ SpR [IsI p, lstR (Gs.map (polyR p n)), ptR x] (ptR (stepP p Gs x)) vs H Q E
abbrev G_law_after (P : Program) (w : World) (K : PySem.W.Frag) (mg : Str → Option Value) (base : Heap) : Prop := GFn P w K mg base "_law_after" 3 ["_law_prime", "_law_step_here", "_law_point"] (sp_law_after K)

theorem ok_law_after (T : TopF K mg) (g_law_value : G_law_value P w K mg base) : G_law_after P w K mg base := by
  refine T.d_law_after.fn sc_law_after bd_law_after (fun vs H Q E h => ?len) fun f cdv A outer s H vs Q E hr h => ?walk
  case walk =>
    have hu := room1 hr
    have hu3 := room3 hr
    have hu64 := hr.units
    have hu65 := room65 hr
    refine ⟨_, (pss_one (ps_ret (pe_callTy (k_tup (K := K) rfl) (by rfl) T.b_tuple (by decide +kernel) (pa_cons (pe_lc (own := [("_law_one", 3)]) (g := (gName 3)) (by rfl) sc_law_after.nd (k_piL (K := K) rfl (pv 1)) (blkOk_by (own := [("_law_one", 3)]) (N := n_law_after) (sc := defScope s_law_after) (by decide +kernel)) (fun _ _ _ _ _ => (pg_name (i := 3) sc_law_after.nd rfl (Or.inl rfl))) (fun _ _ _ _ _ => pts_nil) (fun _ _ _ _ _ => (pe_fn g_law_value hr (by decide) (by rfl) (pa_cons (pv 0) (pa_cons (pv 3) (pa_cons (pv 2) pa_nil)))))) pa_nil)))), ?_⟩
    obtain ⟨p, n, Gs, x, S, hG, hx, r, k⟩ := h
    obtain ⟨_, a2, a3, rfl, rfl, r2, r3⟩ := All.l3 r
    exact s_ret (ev_tupP (ea_cons (EvN.ev (ev_lc2v (C := IsI) (val := fun G : Pt → Int => G x % (p : Int)) (xs := Gs) (A := polyR p n) (srcD_list (ev_var rfl r2)) (by rw [sizeLine_eq]; omega) fun F v H1 hF e1 rv => ⟨rfl, rfl, ev_call (ea_cons (ev_is rfl) (ea_cons (ev_var rfl rv) (ea_cons (ev_var rfl (TMono.up e1.t r3)) ea_nil))) fun vs H1 Q E h => ⟨p, n, F, x, S, hx, h⟩⟩)) ea_nil)) k
  case len => obtain ⟨p, n, Gs, x, _, _, _, r, _⟩ := h; exact r.length
end SP
end
section
set_option Elab.async false
set_option linter.all false
set_option maxRecDepth 100000
set_option maxHeartbeats 4000000
namespace SP
open PySem PyProof.Rows L2
variable {P : Program} {w : World} {K : PySem.W.Frag} {mg : Str → Option Value} {base : Heap}
theorem cut_mid {α : Type} {xs : List α} {i j : Nat} (h : j ≤ xs.length) (hij : i ≤ j) : cutL xs (some (i : Int)) (some (j : Int)) = (xs.drop i).take (j - i) := by
  unfold cutL
  rw [HT.sIx_nat, HT.sIx_nat, Nat.min_eq_left h, Nat.min_eq_left (Nat.le_trans hij h)]
def anyP (p n : Nat) : RS := fun v H => ∃ F, polyR p n F v H
instance {p n : Nat} : TMono (anyP p n) := ⟨fun e ⟨F, h⟩ => ⟨F, TMono.up e h⟩⟩
abbrev n_law_drawn : List Str := ["_law_prime", "_law_count", "_law_cell_here", "_law_digits_here", "_law_numbers", "_law_k", "_law_part", "_law_power", "_law_j"]
theorem sc_law_drawn : FnScope n_law_drawn ["_law_prime", "_law_count", "_law_cell_here"] (defScope s_law_drawn) := ⟨rfl, rfl, rfl, by decide +kernel, rfl, by decide +kernel, by decide +kernel⟩
theorem bd_law_drawn : BindB "_law_drawn" "_law_drawn" s_law_drawn ["_law_prime", "_law_count", "_law_cell_here"] := fun _ _ _ _ _ _ us hl => match us, hl with | [_, _, _], _ => rfl

def sp_law_drawn (_ : PySem.W.Frag) : Sp := fun vs H Q E => ∃ (p n : Nat) (c : Int), Shape p n ∧ SpR [IsI p, IsI n, IsI c] (anyP p n) vs H Q E
abbrev G_law_drawn (P : Program) (w : World) (K : PySem.W.Frag) (mg : Str → Option Value) (base : Heap) : Prop := GFn P w K mg base "_law_drawn" 2 ["_law_prime", "_law_count", "_law_cell_here"] (sp_law_drawn K)

theorem ok_law_drawn (T : TopF K mg) (g_law_digits : G_law_digits P w K mg base) (g_law_made : G_law_made P w K mg base) : G_law_drawn P w K mg base := by
  refine T.d_law_drawn.fn sc_law_drawn bd_law_drawn (fun vs H Q E h => ?len) fun f cdv A outer s H vs Q E hr h => ?walk
  case walk =>
    have hu := room1 hr
    have hu3 := room3 hr
    have hu64 := hr.units
    have hu65 := room65 hr
    refine ⟨_, (pss_cons (ps_set (i := 3) sc_law_drawn.nd rfl (Or.inl rfl) (pe_fn g_law_digits hr (by decide) (by rfl) (pa_cons (pv 2) (pa_cons pe_int (pa_cons (pe_op op_add (pe_op op_mul pe_int (pe_op op_add (pv 1) pe_int)) pe_int) pa_nil)))))
      (pss_cons (ps_set (i := 4) sc_law_drawn.nd rfl (Or.inl rfl) pe_dnewT)
      (pss_cons (ps_for PassesOwn.never rfl (pi_range1 (by rfl) T.b_range (pa_cons (pe_op op_mod (pe_callTy call_int1 (by rfl) T.b_int (by decide +kernel) (pa_cons (pe_ix (k_ixL (K := K) rfl) (pv 3) pe_int (fun _ _ => rfl)) pa_nil)) pe_int) pa_nil)) (pg_name (i := 5) sc_law_drawn.nd rfl (Or.inl rfl))
      (pss_cons (ps_set (i := 6) sc_law_drawn.nd rfl (Or.inr rfl) (pe_slice (k_slL (K := K) rfl) (pv 3) (po_some (pe_op op_add pe_int (pe_op op_mul (pv 5) (pe_op op_add (pv 1) pe_int)))) (po_some (pe_op op_add pe_int (pe_op op_mul (pe_op op_add (pv 5) pe_int) (pe_op op_add (pv 1) pe_int))))))
      (pss_cons (ps_set (i := 7) sc_law_drawn.nd rfl (Or.inl rfl) (pe_callTy (k_tup (K := K) rfl) (by rfl) T.b_tuple (by decide +kernel) (pa_cons (pe_lc (own := [("_law_j", 8)]) (g := (gName 8)) (by rfl) sc_law_drawn.nd (pi_range1 (by rfl) T.b_range (pa_cons (pv 1) pa_nil)) (blkOk_by (own := [("_law_j", 8)]) (N := n_law_drawn) (sc := defScope s_law_drawn) (by decide +kernel)) (fun _ _ _ _ _ => (pg_name (i := 8) sc_law_drawn.nd rfl (Or.inl rfl))) (fun _ _ _ _ _ => pts_nil) (fun _ _ _ _ _ => (pe_op op_mod (pe_callTy call_int1 (by rfl) T.b_int (by decide +kernel) (pa_cons (pe_ix (k_ixL (K := K) rfl) (pv 6) (pv 8) (fun _ _ => rfl)) pa_nil)) (pv 0)))) pa_nil)))
      (pss_one (ps_dput hu (pv 4) (pv 7) (pe_op op_add pe_int (pe_op op_mod (pe_callTy call_int1 (by rfl) T.b_int (by decide +kernel) (pa_cons (pe_ix (k_ixL (K := K) rfl) (pv 6) (pv 1) (fun _ _ => rfl)) pa_nil)) (pe_op op_sub (pv 0) pe_int))) rfl)))))
      (pss_one (ps_ret (pe_fn g_law_made hr (by decide) (by rfl) (pa_cons (pv 0) (pa_cons (pv 4) pa_nil)))))))), ?_⟩
    obtain ⟨p, n, c, S, r, k⟩ := h
    obtain ⟨_, _, _, rfl, rfl, rfl, rfl⟩ := All.l3 r
    have hp := S.p
    have hn := S.n
    refine sq (s_set (R := digR 420 (6 * (n + 1) + 1)) (ev_call (ea_cons (ev_is rfl) (ea_cons ev_c (ea_cons (Ev.to (ev_I0 (ev_mul ev_c (ev_I0 (ev_is rfl) ev_c) (.inl ⟨by decide, by decide⟩)) ev_c) (j := .int ((6 * (n + 1) + 1 : Nat) : Int)) (by congr 1)) ea_nil))) fun vs H1 Q E h => ⟨c, 420, 6 * (n + 1) + 1, by decide, by decide, by omega, h⟩) fun v H1 e1 rv => ?_)
    obtain ⟨ds, hdl, hds, hdr⟩ := rv
    have h0 : ds[0]? = some ds[0] := List.getElem?_eq_getElem (by omega)
    generalize ds[0] = d0 at h0
    have hq0 : 0 ≤ d0 % 7 ∧ d0 % 7 < 7 := ⟨Int.emod_nonneg _ (by decide), Int.emod_lt_of_pos _ (by decide)⟩
    dsimp only [List.set]
    refine sq (s_setD (kvs := iV []) ev_dnewT fun d H2 hd e2 h2 => ?_)
    dsimp only [List.set]
    refine sq (s_forB (Hb := H1) (srcB_range (n := (d0 % 7).toNat) (ea_cons (Ev.to (ev_mod (ev_int (ea_cons (ev_ixL (n := 0) (Rs := ds.map IsI) (R := IsI d0) (ev_var rfl hdr) ev_c (by rw [List.getElem?_map, h0]; rfl)) ea_nil)) ev_c (by decide)) (by rw [Int.toNat_of_nonneg hq0.1])) ea_nil) (by omega)) e2 (fun i σ' H' => ∃ (kvs : Poly) (v5 v6 v7 v8 : Option V), σ' = [some (.int p), some (.int n), some (.int c), some v, some (.ref d), v5, v6, v7, v8] ∧ H' d = some (DT (iV kvs)) ∧ (keysI kvs).Nodup ∧ ∀ x ∈ keysI kvs, inSp p n x) (fun H3 e3 => ⟨[], none, none, none, none, rfl, e3.at h2, List.nodup_nil, fun x hx => nomatch hx⟩) (fun H3 i a x σ' H0 H' ha e3 e0 t0 pv e' hx => ?_) fun σ' H' e' t' pv => ?_)
    · obtain ⟨kvs, v5, v6, v7, v8, rfl, hk1, hk2, hk3⟩ := pv
      obtain rfl : x = .int a := hx
      have hi := (List.getElem?_eq_some_iff.mp ha).1
      rw [List.length_range] at hi
      obtain rfl : i = a := by rw [List.getElem?_range hi] at ha; exact Option.some.inj ha
      have hlk := keysI_len hk2 hk3 S
      have hi6 : i + 1 ≤ 6 := by omega
      have hmul : (i + 1) * (n + 1) ≤ 6 * (n + 1) := Nat.mul_le_mul_right _ hi6
      have hmul2 : (i + 1) * (n + 1) = i * (n + 1) + (n + 1) := Nat.succ_mul _ _
      have hcut : cutL (ds.map IsI) (some ((1 + i * (n + 1) : Nat) : Int)) (some ((1 + (i + 1) * (n + 1) : Nat) : Int)) = ((ds.drop (1 + i * (n + 1))).take (n + 1)).map IsI := by
        rw [cut_mid (by rw [List.length_map]; omega) (by omega), List.map_take, List.map_drop]
        congr 1
        omega
      generalize hpart : (ds.drop (1 + i * (n + 1))).take (n + 1) = part at hcut
      have hpl : part.length = n + 1 := by rw [← hpart, List.length_take, List.length_drop]; omega
      have up := e0.trans e'
      dsimp only [gName, List.set]
      refine sq (s_setN (Rs := part.map IsI) (EvN.cast (ev_slL (Rs := ds.map IsI) (lo := some ((1 + i * (n + 1) : Nat) : Int)) (hi := some ((1 + (i + 1) * (n + 1) : Nat) : Int)) (ev_var rfl (Mono.up up hdr)) (eo_some (Ev.to (ev_I0 ev_c (ev_mul (ev_is rfl) (ev_I0 (ev_is rfl) ev_c) (.inl ⟨by omega, by omega⟩))) (by congr 1))) (eo_some (Ev.to (ev_I0 ev_c (ev_mul (ev_I0 (ev_is rfl) ev_c) (ev_I0 (ev_is rfl) ev_c) (.inl ⟨by omega, by omega⟩))) (by congr 1))) (by rw [hcut]; exact inferInstance)) hcut) fun pr vr H4 hpr e4 h4 r4 => ?_)
      have hprt : lstR (part.map IsI) (.ref pr) H4 := ⟨pr, vr, rfl, h4, r4⟩
      have pat : ∀ j : Nat, j < n + 1 → (part.map IsI)[j]? = some (IsI (part[j]?.getD 0)) := fun j hj => by rw [List.getElem?_map, List.getElem?_eq_getElem (by omega)]; rfl
      dsimp only [List.set]
      refine sq (s_set (R := ptR ((List.range n).map fun j => part[j]?.getD 0 % (p : Int))) (ev_tupP (ea_cons (EvN.ev (ev_lc2v (C := IsI) (val := fun j : Nat => part[j]?.getD 0 % (p : Int)) (xs := List.range n) (A := fun k => IsI (k : Nat)) (srcD_range (n := n) (ea_cons (ev_is rfl) ea_nil) (by omega)) (by rw [List.length_range, sizeLine_eq]; omega) fun a u H5 ha e5 hu => ⟨rfl, rfl, ?_⟩)) ea_nil)) fun w H5 e5 rw5 => ?_)
      · obtain rfl : u = .int (a : Nat) := hu
        have ha1 := List.mem_range.mp ha
        exact ev_mod (ev_int (ea_cons (ev_ixL (n := a) (ev_var rfl (Mono.up e5 hprt)) (ev_is rfl) (pat a (by omega))) ea_nil)) (ev_is rfl) (by omega)
      · have hxin : inSp p n ((List.range n).map fun j => part[j]?.getD 0 % (p : Int)) := by
          refine ⟨by rw [List.length_map, List.length_range], fun a ha => ?_⟩
          obtain ⟨j, _, rfl⟩ := List.mem_map.mp ha
          exact ⟨Int.emod_nonneg _ (by omega), Int.emod_lt_of_pos _ (by omega)⟩
        generalize ((List.range n).map fun j => part[j]?.getD 0 % (p : Int)) = x at rw5 hxin
        have hd' : H5 d = some (DT (iV kvs)) := e5.at (e4.at (e'.at hk1))
        have hprt5 : lstR (part.map IsI) (.ref pr) H5 := Mono.up e5 hprt
        dsimp only [List.set]
        refine s_dput (R := IsI (1 + part[n]?.getD 0 % ((p : Int) - 1))) hd' (ev_I0 ev_c (ev_mod (ev_int (ea_cons (ev_ixL (n := n) (ev_var rfl hprt5) (ev_is rfl) (pat n (by omega))) ea_nil)) (ev_I0 (ev_is rfl) ev_c) (by omega))) (ev_is rfl) (ev_var rfl rw5) (by rw [List.length_map, sizeLine_eq]; omega) fun v6' H6 e6 rv6 => ?_
        obtain rfl : v6' = .int (1 + part[n]?.getD 0 % ((p : Int) - 1)) := rv6
        rw [put_iV]
        have h6 := e6.at hd'
        exact ⟨(up.trans (e4.trans (e5.trans e6))).mut hd h6 trivial, (t0.trans (e'.t.trans (e4.t.trans (e5.t.trans e6.t)))).trans (TEx.upd h6 trivial), _, _, _, _, _, rfl, upd_same, putI_nodup hk2, putI_all hk3 hxin⟩
    · obtain ⟨kvs, v5, v6, v7, v8, rfl, hk1, hk2, hk3⟩ := pv
      dsimp only
      exact s_ret (ev_call (R := polyR p n (vsum kvs)) (ea_cons (ev_is rfl) (ea_cons (ev_var rfl (R := dR (iV kvs)) ⟨d, rfl, hk1⟩) ea_nil)) fun vs H1 Q E h => ⟨p, n, kvs, S, hk2, hk3, h⟩) fun v H3 e3 rv => k v H3 (e1.trans (e'.trans e3)) ⟨_, rv⟩
  case len => obtain ⟨p, n, c, _, r, _⟩ := h; exact r.length
abbrev n_law_solutions : List Str := ["_law_prime", "_law_count", "_law_equations_here", "_law_found", "_law_point", "_law_one"]
theorem sc_law_solutions : FnScope n_law_solutions ["_law_prime", "_law_count", "_law_equations_here"] (defScope s_law_solutions) := ⟨rfl, rfl, rfl, by decide +kernel, rfl, by decide +kernel, by decide +kernel⟩
theorem bd_law_solutions : BindB "_law_solutions" "_law_solutions" s_law_solutions ["_law_prime", "_law_count", "_law_equations_here"] := fun _ _ _ _ _ _ us hl => match us, hl with | [_, _, _], _ => rfl

def sp_law_solutions (_ : PySem.W.Frag) : Sp := fun vs H Q E => ∃ (p n : Nat) (Es : List (Pt → Int)), Shape p n ∧ Es.length ≤ 1000 ∧ SpN [IsI p, IsI n, lstR (Es.map (polyR p n))] ((solsP p n Es).map ptR) vs H Q E
abbrev G_law_solutions (P : Program) (w : World) (K : PySem.W.Frag) (mg : Str → Option Value) (base : Heap) : Prop := GFn P w K mg base "_law_solutions" 3 ["_law_prime", "_law_count", "_law_equations_here"] (sp_law_solutions K)

theorem ok_law_solutions (T : TopF K mg) (g_law_points : G_law_points P w K mg base) (g_law_value : G_law_value P w K mg base) : G_law_solutions P w K mg base := by
  refine T.d_law_solutions.fn sc_law_solutions bd_law_solutions (fun vs H Q E h => ?len) fun f cdv A outer s H vs Q E hr h => ?walk
  case walk =>
    have hu := room1 hr
    have hu3 := room3 hr
    have hu64 := hr.units
    have hu65 := room65 hr
    refine ⟨_, (pss_cons (ps_set (i := 3) sc_law_solutions.nd rfl (Or.inl rfl) (pe_lst pa_nil))
      (pss_cons (ps_for PassesOwn.never rfl (k_piL (K := K) rfl (pe_fn g_law_points hr (by decide) (by rfl) (pa_cons (pv 0) (pa_cons (pv 1) pa_nil)))) (pg_name (i := 4) sc_law_solutions.nd rfl (Or.inr rfl))
      (pss_one (ps_if (pt_val (pe_callB (k_all (K := K) rfl rfl) (by rfl) T.b_all (by decide +kernel) (pa_cons (pe_lc (own := [("_law_one", 5)]) (g := (gName 5)) (by rfl) sc_law_solutions.nd (k_piL (K := K) rfl (pv 2)) (blkOk_by (own := [("_law_one", 5)]) (N := n_law_solutions) (sc := defScope s_law_solutions) (by decide +kernel)) (fun _ _ _ _ _ => (pg_name (i := 5) sc_law_solutions.nd rfl (Or.inl rfl))) (fun _ _ _ _ _ => pts_nil) (fun _ _ _ _ _ => (pe_cmpR op_eq (pe_fn g_law_value hr (by decide) (by rfl) (pa_cons (pv 0) (pa_cons (pv 5) (pa_cons (pv 4) pa_nil)))) pe_int (nomark _)))) pa_nil))) (pss_one (ps_expr (pe_bm PySem.F.plainAttrs_list PySem.F.slot_list_append PySem.F.type_list_append mt_append (pv 3) (pa_cons (pv 4) pa_nil)))) pss_nil)))
      (pss_one (ps_ret (pv 3))))), ?_⟩
    obtain ⟨p, n, Es, S, hE, r, k⟩ := h
    obtain ⟨_, _, a3, rfl, rfl, rfl, r3⟩ := All.l3 r
    have hz := S.pts
    refine sq (s_setN (ev_lst ea_nil (by show 0 ≤ _; decide)) fun pf vf H1 hpf e1 h1 r1 => ?_)
    obtain rfl := All.l0 r1
    have hm : pf ∈ [pf] := List.mem_singleton.mpr rfl
    dsimp only [List.set]
    refine sq (s_forX (ds := [pf]) (xs := pts p n) (A := ptR) (srcX_list (EvN.nl (ev_callN (ea_cons (ev_is rfl) (ea_cons (ev_is rfl) ea_nil)) fun vs H1 Q E h => ⟨p, n, S, h⟩) (fun a ha => by rw [List.mem_singleton.mp ha, h1]; intro hx; cases hx))) (fun i σ' H0 => ∃ (v4 v5 : Option V) (us : List V), σ' = [some (.int p), some (.int n), some a3, some (.ref pf), v4, v5] ∧ Ext H H0 ∧ H0 pf = some (.lst us) ∧ All ((((pts p n).take i).filter fun x => solB p Es x).map ptR) us H0) (fun H4 e4 => ⟨none, none, [], rfl, e1.trans e4, e4.at h1, by rw [List.take_zero]; exact .nil⟩) (fun H4 i x vx σ' H5 H6 hx e4 e5 t5 pv e6 hvx => ?_) fun H4 σ' H5 e4 e5 t5 pv => ?_)
    · obtain ⟨v4, v5, us, rfl, q1, q2, q3⟩ := pv
      have hxm := List.mem_of_getElem? hx
      have hi := (List.getElem?_eq_some_iff.mp hx).1
      have u1 := q1.trans e6
      have hul : us.length ≤ 27 := by
        have h1 := q3.length
        rw [List.length_map] at h1
        have h2 := List.length_filter_le (fun x => solB p Es x) ((pts p n).take i)
        rw [List.length_take] at h2
        omega
      dsimp only [gName, List.set]
      refine s_if (b := solB p Es x) (EvT.to (et_test (ev_all (bs := Es.map fun F => decide (F x % (p : Int) = 0)) (ea_cons (EvN.ev (ev_lc2v (C := IsB) (val := fun F : Pt → Int => decide (F x % (p : Int) = 0)) (xs := Es) (A := polyR p n) (srcD_list (ev_var rfl (Mono.up u1 r3))) (by rw [sizeLine_eq]; omega) fun F v H7 hF e7 rv => ⟨rfl, rfl, Ev.to (ev_eqS (x := .int (F x % (p : Int))) (y := .int 0) (ev_call (R := IsI (F x % p)) (ea_cons (ev_is rfl) (ea_cons (ev_var rfl rv) (ea_cons (ev_var rfl (TMono.up e7.t hvx)) ea_nil))) fun vs H1 Q E h => ⟨p, n, F, x, S, hxm, h⟩) ev_c rfl) (by congr 1; rw [Bool.eq_iff_iff]; simp)⟩)) ea_nil))) (by rw [List.all_map]; rfl)) (fun hb H7 e7 => ?_) fun hb H7 e7 => s_next ?_
      · have h7 := e7.at (e6.at q2)
        refine s_app (R := ptR x) h7 (ev_is rfl) (ev_var rfl (TMono.up e7.t hvx)) (by rw [sizeLine_eq]; omega) fun v H8 e8 rv => ?_
        have h8 := e8.at h7
        have ex := e6.trans (e7.trans e8)
        have t8 : TEx H8 (upd H8 pf (.lst (us ++ [v]))) := TEx.upd h8 trivial
        refine ⟨(e5.trans ex).mut (delS_in hm) h8 trivial, (t5.trans ex.t).trans t8, some vx, v5, us ++ [v], rfl, (q1.trans ex).mut hpf h8 trivial, upd_same, ?_⟩
        rw [take_filter_succ hx, hb, if_pos rfl, List.map_append]
        exact (All.upT (ex.t.trans t8) q3).snoc (TMono.up t8 rv)
      · have ex := e6.trans e7
        refine ⟨e5.trans ex, t5.trans ex.t, some vx, v5, us, rfl, q1.trans ex, ex.at q2, ?_⟩
        rw [take_filter_succ hx, hb, if_neg (by decide), List.append_nil]
        exact All.up ex q3
    · obtain ⟨v4, v5, us, rfl, q1, q2, q3⟩ := pv
      rw [List.take_length] at q3
      dsimp only
      refine s_ret (ev_is rfl) fun v H6 e6 rv => ?_
      obtain rfl : v = .ref pf := rv
      exact k pf us H6 hpf (q1.trans e6) (e6.at q2) (All.up e6 q3)
  case len => obtain ⟨p, n, Es, _, _, r, _⟩ := h; exact r.length
abbrev n_law_shows : List Str := ["_law_prime", "_law_count", "_law_equations_here", "_law_one", "_law_parts", "_law_point", "_law_total", "_law_k", "_law_factor"]
theorem sc_law_shows : FnScope n_law_shows ["_law_prime", "_law_count", "_law_equations_here", "_law_one", "_law_parts"] (defScope s_law_shows) := ⟨rfl, rfl, rfl, by decide +kernel, rfl, by decide +kernel, by decide +kernel⟩
theorem bd_law_shows : BindB "_law_shows" "_law_shows" s_law_shows ["_law_prime", "_law_count", "_law_equations_here", "_law_one", "_law_parts"] := fun _ _ _ _ _ _ us hl => match us, hl with | [_, _, _, _, _], _ => rfl

def sp_law_shows (_ : PySem.W.Frag) : Sp := fun vs H Q E => ∃ (p n : Nat) (Es : List (Pt → Int)) (F : Pt → Int) (Fs : List (Pt → Int)), Shape p n ∧ Es.length ≤ 1000 ∧ Fs.length = Es.length ∧ (∀ x ∈ pts p n, Cg p (dotS Es Fs x) (F x)) ∧ SpR [IsI p, IsI n, lstR (Es.map (polyR p n)), polyR p n F, lstR (Fs.map (polyR p n))] (IsB true) vs H Q E
abbrev G_law_shows (P : Program) (w : World) (K : PySem.W.Frag) (mg : Str → Option Value) (base : Heap) : Prop := GFn P w K mg base "_law_shows" 3 ["_law_prime", "_law_count", "_law_equations_here", "_law_one", "_law_parts"] (sp_law_shows K)

theorem ok_law_shows (T : TopF K mg) (g_law_is_polynomial : G_law_is_polynomial P w K mg base) (g_law_points : G_law_points P w K mg base) (g_law_value : G_law_value P w K mg base) : G_law_shows P w K mg base := by
  refine T.d_law_shows.fn sc_law_shows bd_law_shows (fun vs H Q E h => ?len) fun f cdv A outer s H vs Q E hr h => ?walk
  case walk =>
    have hu := room1 hr
    have hu3 := room3 hr
    have hu64 := hr.units
    have hu65 := room65 hr
    refine ⟨_, (pss_cons (ps_if (PW.pt (pw_or (pt_not (pt_val (pe_callB (k_isi (K := K) rfl) (by rfl) T.b_isinstance (by decide +kernel) (pa_cons (pv 4) (pa_cons (pe_ty (n := "list") T.b_list (by rfl) (by decide +kernel)) pa_nil))))) (pw_or1 (pt_cmpR op_ne (pe_callB (k_len (K := K) rfl) (by rfl) T.b_len (by decide +kernel) (pa_cons (pv 4) pa_nil)) (pe_callB (k_len (K := K) rfl) (by rfl) T.b_len (by decide +kernel) (pa_cons (pv 2) pa_nil)) (nomark _))))) (pss_one (ps_ret pe_bl)) pss_nil)
      (pss_cons (ps_if (pt_not (pt_val (pe_callB (k_all (K := K) rfl rfl) (by rfl) T.b_all (by decide +kernel) (pa_cons (pe_lc (own := [("_law_factor", 8)]) (g := (gName 8)) (by rfl) sc_law_shows.nd (k_piL (K := K) rfl (pv 4)) (blkOk_by (own := [("_law_factor", 8)]) (N := n_law_shows) (sc := defScope s_law_shows) (by decide +kernel)) (fun _ _ _ _ _ => (pg_name (i := 8) sc_law_shows.nd rfl (Or.inl rfl))) (fun _ _ _ _ _ => pts_nil) (fun _ _ _ _ _ => (pe_fn g_law_is_polynomial hr (by decide) (by rfl) (pa_cons (pv 0) (pa_cons (pv 1) (pa_cons (pv 8) pa_nil)))))) pa_nil)))) (pss_one (ps_ret pe_bl)) pss_nil)
      (pss_cons (ps_for PassesOwn.never rfl (k_piL (K := K) rfl (pe_fn g_law_points hr (by decide) (by rfl) (pa_cons (pv 0) (pa_cons (pv 1) pa_nil)))) (pg_name (i := 5) sc_law_shows.nd rfl (Or.inl rfl))
      (pss_cons (ps_set (i := 6) sc_law_shows.nd rfl (Or.inl rfl) pe_int)
      (pss_cons (ps_for PassesOwn.never rfl (pi_range1 (by rfl) T.b_range (pa_cons (pe_callB (k_len (K := K) rfl) (by rfl) T.b_len (by decide +kernel) (pa_cons (pv 4) pa_nil)) pa_nil)) (pg_name (i := 7) sc_law_shows.nd rfl (Or.inl rfl))
      (pss_one (ps_set (i := 6) sc_law_shows.nd rfl (Or.inl rfl) (pe_op op_add (pv 6) (pe_op op_mul (pe_fn g_law_value hr (by decide) (by rfl) (pa_cons (pv 0) (pa_cons (pe_ix (k_ixL (K := K) rfl) (pv 4) (pv 7) (fun _ _ => rfl)) (pa_cons (pv 5) pa_nil)))) (pe_fn g_law_value hr (by decide) (by rfl) (pa_cons (pv 0) (pa_cons (pe_ix (k_ixL (K := K) rfl) (pv 2) (pv 7) (fun _ _ => rfl)) (pa_cons (pv 5) pa_nil)))))))))
      (pss_one (ps_if (pt_cmpR op_ne (pe_op op_mod (pe_callTy call_int1 (by rfl) T.b_int (by decide +kernel) (pa_cons (pv 6) pa_nil)) (pv 0)) (pe_fn g_law_value hr (by decide) (by rfl) (pa_cons (pv 0) (pa_cons (pv 3) (pa_cons (pv 5) pa_nil)))) (nomark _)) (pss_one (ps_ret pe_bl)) pss_nil)))))
      (pss_one (ps_ret pe_bl))))), ?_⟩
    obtain ⟨p, n, Es, F, Fs, S, hE, hFs, hdot, r, k⟩ := h
    obtain ⟨_, _, a3, a4, a5, rfl, rfl, rfl, r3, r4, r5⟩ := All.l5 r
    have hp := S.p
    have lenF : ∀ {v : V} {H1 : Hp}, lstR (Fs.map (polyR p n)) v H1 → LenV K v H1 Fs.length := fun r => by
      have h := len_lst (K := K) r
      rw [List.length_map] at h
      exact h
    refine sq (s_if (b := false) (EvT.to (et_or (a := false) (b := false) (EvT.to (et_not (et_test (ev_isi (R := lstR (Fs.map (polyR p n))) (b := true) (ea_cons (ev_var rfl r5) (ea_cons ev_c ea_nil)) (.ty _) (fun v H1 r => ty_lst r) rfl))) rfl) fun _ => EvT.to (et_test (ev_neS (x := .int Fs.length) (y := .int Fs.length) (ev_len (ea_cons (ev_var rfl r5) ea_nil) fun v H1 r => lenF r) (ev_len (ea_cons (ev_var rfl r3) ea_nil) fun v H1 r => by
          have h := len_lst (K := K) r
          rw [List.length_map, ← hFs] at h
          exact h) rfl)) (by simp)) rfl) (fun hb => by cases hb) fun hb H1 e1 => s_next ?_)
    have r31 : lstR (Es.map (polyR p n)) a3 H1 := Mono.up e1 r3
    have r41 : polyR p n F a4 H1 := TMono.up e1.t r4
    have r51 : lstR (Fs.map (polyR p n)) a5 H1 := Mono.up e1 r5
    dsimp only
    refine sq (s_if (b := false) (EvT.to (et_not (et_test (ev_all (bs := Fs.map fun _ => true) (ea_cons (EvN.ev (ev_lc2v (C := IsB) (val := fun _ : Pt → Int => true) (xs := Fs) (A := polyR p n) (srcD_list (ev_var rfl r51)) (by rw [hFs, sizeLine_eq]; omega) fun G v H3 hG3 e3 rv => ⟨rfl, rfl, ?_⟩)) ea_nil)))) (by rw [List.all_map]; simp)) (fun hb => by cases hb) fun hb H2 e2 => s_next ?_)
    · obtain ⟨f, cf, vf, rf⟩ := rv
      exact ev_call (ea_cons (ev_is rfl) (ea_cons (ev_is rfl) (ea_cons (ev_var rfl rf) ea_nil))) fun vs H1 Q E h => ⟨p, n, f, S, cf, h⟩
    have r32 : lstR (Es.map (polyR p n)) a3 H2 := Mono.up e2 r31
    have r42 : polyR p n F a4 H2 := TMono.up e2.t r41
    have r52 : lstR (Fs.map (polyR p n)) a5 H2 := Mono.up e2 r51
    dsimp only
    refine sq (s_forD (srcD_list (A := ptR) (xs := pts p n) (EvN.ev (ev_callN (ea_cons (ev_is rfl) (ea_cons (ev_is rfl) ea_nil)) fun vs H1 Q E h => ⟨p, n, S, h⟩))) (fun i σ' H' => ∃ (v5 v6 v7 v8 : Option V), σ' = [some (.int p), some (.int n), some a3, some a4, some a5, v5, v6, v7, v8]) (fun H3 e3 => ⟨none, none, none, none, rfl⟩) (fun H3 i x vx σ' H0 H' hx e3 e0 pv e' hvx => ?_) fun σ' H' e' pv => ?_)
    · obtain ⟨v5, v6, v7, v8, rfl⟩ := pv
      have hxm := List.mem_of_getElem? hx
      have up := e3.trans (e0.trans e')
      dsimp only [gName, List.set]
      refine sq (s_set ev_c fun v H4 e4 rv => ?_)
      obtain rfl : v = .int 0 := rv
      have up4 := up.trans e4
      dsimp only [List.set]
      refine sq (s_forD (srcD_range (n := Fs.length) (ea_cons (ev_len (ea_cons (ev_var rfl (Mono.up up4 r52)) ea_nil) fun v H1 r => lenF r) ea_nil) (by omega)) (fun j σ' H' => ∃ (v7 : Option V), σ' = [some (.int p), some (.int n), some a3, some a4, some a5, some vx, some (.int (lsum ((Es.zip Fs).take j) fun t => (t.2 x % (p : Int)) * (t.1 x % (p : Int)))), v7, v8]) (fun H5 e5 => ⟨v7, by rw [List.take_zero, lsum_nil]⟩) (fun H5 j a v σ' H6 H7 ha e5 e6 pv e7 hv => ?_) fun σ' H5 e5 pv => ?_)
      · obtain ⟨v7, rfl⟩ := pv
        obtain rfl : v = .int a := hv
        have hj := (List.getElem?_eq_some_iff.mp ha).1
        rw [List.length_range] at hj
        obtain rfl : j = a := by rw [List.getElem?_range hj] at ha; exact Option.some.inj ha
        have hje : j < Es.length := by omega
        have hz : (Es.zip Fs)[j]? = some (Es[j], Fs[j]) := zip_at (List.getElem?_eq_getElem hje) (List.getElem?_eq_getElem hj)
        have up7 := up4.trans (e5.trans (e6.trans e7))
        have hv7 : ptR x vx H7 := TMono.up (e4.trans (e5.trans (e6.trans e7))).t hvx
        have hr : 0 ≤ Fs[j] x % (p : Int) ∧ Fs[j] x % (p : Int) < p := ⟨Int.emod_nonneg _ (by omega), Int.emod_lt_of_pos _ (by omega)⟩
        dsimp only [gName, List.set]
        refine s_set (ev_I0 (ev_is rfl) (ev_mul (i := Fs[j] x % (p : Int)) (j := Es[j] x % (p : Int)) (ev_call (ea_cons (ev_is rfl) (ea_cons (ev_ixL (n := j) (R := polyR p n Fs[j]) (ev_var rfl (Mono.up up7 r52)) (ev_is rfl) (by rw [List.getElem?_map, List.getElem?_eq_getElem hj]; rfl)) (ea_cons (ev_var rfl hv7) ea_nil))) fun vs H1 Q E h => ⟨p, n, Fs[j], x, S, hxm, h⟩) (ev_call (ea_cons (ev_is rfl) (ea_cons (ev_ixL (n := j) (R := polyR p n Es[j]) (ev_var rfl (Mono.up up7 r32)) (ev_is rfl) (by rw [List.getElem?_map, List.getElem?_eq_getElem hje]; rfl)) (ea_cons (ev_var rfl hv7) ea_nil))) fun vs H1 Q E h => ⟨p, n, Es[j], x, S, hxm, h⟩) (.inl ⟨by omega, by omega⟩))) fun v H8 e8 rv => ⟨e6.trans (e7.trans e8), some (.int j), ?_⟩
        rw [show v = _ from rv, lsum_take hz]
        rfl
      · obtain ⟨v7, rfl⟩ := pv
        have hl : (Es.zip Fs).length = Fs.length := by rw [List.length_zip, hFs, Nat.min_self]
        have hs : (lsum ((Es.zip Fs).take (List.range Fs.length).length) fun t => (t.2 x % (p : Int)) * (t.1 x % (p : Int))) % p = F x % p := by
          rw [List.length_range, ← hl, List.take_length]
          exact (lsum_cg fun t _ => (Cg.mod (t.2 x)).mul (Cg.mod (t.1 x))).trans (hdot x hxm)
        dsimp only
        refine s_if (b := false) (EvT.to (et_test (ev_neS (x := .int (F x % p)) (y := .int (F x % p)) (Ev.to (ev_mod (ev_int (ea_cons (ev_is rfl) ea_nil)) (ev_is rfl) (by omega)) (by rw [hs])) (ev_call (R := IsI (F x % p)) (ea_cons (ev_is rfl) (ea_cons (ev_var rfl (TMono.up (up4.trans e5).t r42)) (ea_cons (ev_var rfl (TMono.up (e4.trans e5).t hvx)) ea_nil))) fun vs H1 Q E h => ⟨p, n, F, x, S, hxm, h⟩) rfl)) (by simp)) (fun hb => by cases hb) fun hb H6 e6 => s_next ⟨e0.trans (e'.trans (e4.trans (e5.trans e6))), _, _, _, _, rfl⟩
    · obtain ⟨v5, v6, v7, v8, rfl⟩ := pv
      dsimp only
      exact s_ret ev_c fun v H3 e3 rv => k v H3 (e1.trans (e2.trans (e'.trans e3))) rv
  case len => obtain ⟨p, n, Es, F, Fs, _, _, _, _, r, _⟩ := h; exact r.length
end SP
end
section
set_option Elab.async false
set_option linter.all false
set_option maxRecDepth 100000
set_option maxHeartbeats 4000000
namespace SP
open PySem PyProof.Rows L2
variable {P : Program} {w : World} {K : PySem.W.Frag} {mg : Str → Option Value} {base : Heap}
theorem fermat_ind {p : Nat} (h : Pr p) {a b : Int} (h0 : 0 ≤ a) (h1 : a < p) (k0 : 0 ≤ b) (k1 : b < p) : Cg p (1 - (a - b) ^ (p - 1)) (if b = a then 1 else 0) := by
  have q := h.all2 (q := fun p a b => decide ((1 - (a - b) ^ (p - 1)) % (p : Int) = (if b = a then 1 else 0) % p)) (by decide +kernel) h0 h1 k0 k1
  unfold Cg
  exact of_decide_eq_true q
theorem ind_step {p n : Nat} (h : Pr p) {x y : Pt} (hx : x ∈ pts p n) (hy : y ∈ pts p n) {j : Nat} (hj : j < n) (c : Int) :
    Cg p ((if y.take j = x.take j then c else 0) * (1 - (x[j]?.getD 0 - y[j]?.getD 0) ^ (p - 1))) (if y.take (j + 1) = x.take (j + 1) then c else 0) := by
  have ix := mem_pts.mp hx
  have iy := mem_pts.mp hy
  have jx : j < x.length := by rw [ix.1]; exact hj
  have jy : j < y.length := by rw [iy.1]; exact hj
  have ex := List.getElem?_eq_getElem jx
  have ey := List.getElem?_eq_getElem jy
  have bx := ix.2 _ (List.getElem_mem jx)
  have byy := iy.2 _ (List.getElem_mem jy)
  have f := fermat_ind h bx.1 bx.2 byy.1 byy.2
  rw [take_at ex, take_at ey, ex, ey]
  show Cg p (_ * (1 - (x[j] - y[j]) ^ (p - 1))) _
  by_cases h1 : y.take j = x.take j
  · rw [if_pos h1]
    refine ((Cg.refl c).mul f).trans (Cg.of ?_)
    by_cases h2 : y[j] = x[j]
    · rw [if_pos h2, if_pos (by rw [h1, h2]), Int.mul_one]
    · rw [if_neg h2, if_neg (fun e => h2 (snoc_inj e).2), Int.mul_zero]
  · rw [if_neg h1, if_neg (fun e => h1 (snoc_inj e).1), Int.zero_mul]
    exact Cg.refl 0
theorem putI_new {kvs : Poly} {k : Pt} {c : Int} (h : k ∉ keysI kvs) : putI kvs k c = kvs ++ [(k, c)] := by
  unfold putI
  rw [if_neg]
  intro h1
  obtain ⟨t, ht, e⟩ := List.any_eq_true.mp h1
  exact h (List.mem_map.mpr ⟨t, ht, of_decide_eq_true e⟩)
abbrev n_law_of_table : List Str := ["_law_prime", "_law_count", "_law_table", "_law_found", "_law_point", "_law_part", "_law_k", "_law_apart", "_law_whole"]
theorem sc_law_of_table : FnScope n_law_of_table ["_law_prime", "_law_count", "_law_table"] (defScope s_law_of_table) := ⟨rfl, rfl, rfl, by decide +kernel, rfl, by decide +kernel, by decide +kernel⟩
theorem bd_law_of_table : BindB "_law_of_table" "_law_of_table" s_law_of_table ["_law_prime", "_law_count", "_law_table"] := fun _ _ _ _ _ _ us hl => match us, hl with | [_, _, _], _ => rfl

def sp_law_of_table (_ : PySem.W.Frag) : Sp := fun vs H Q E => ∃ (p n : Nat) (T : Pt → Int) (kvs : Poly), Shape p n ∧ keysI kvs = pts p n ∧ (∀ t ∈ kvs, t.2 = T t.1) ∧ SpR [IsI p, IsI n, dR (iV kvs)] (polyR p n T) vs H Q E
abbrev G_law_of_table (P : Program) (w : World) (K : PySem.W.Frag) (mg : Str → Option Value) (base : Heap) : Prop := GFn P w K mg base "_law_of_table" 4 ["_law_prime", "_law_count", "_law_table"] (sp_law_of_table K)

theorem ok_law_of_table (T : TopF K mg) (g_law_constant : G_law_constant P w K mg base) (g_law_minus : G_law_minus P w K mg base) (g_law_plus : G_law_plus P w K mg base) (g_law_raised : G_law_raised P w K mg base) (g_law_times : G_law_times P w K mg base) (g_law_unknown : G_law_unknown P w K mg base) : G_law_of_table P w K mg base := by
  refine T.d_law_of_table.fn sc_law_of_table bd_law_of_table (fun vs H Q E h => ?len) fun f cdv A outer s H vs Q E hr h => ?walk
  case walk =>
    have hu := room1 hr
    have hu3 := room3 hr
    have hu64 := hr.units
    have hu65 := room65 hr
    refine ⟨_, (pss_cons (ps_set (i := 3) sc_law_of_table.nd rfl (Or.inl rfl) (pe_tup pa_nil))
      (pss_cons (ps_lock (ps_for PassesOwn.never rfl (pi_keys (pv 2)) (pg_name (i := 4) sc_law_of_table.nd rfl (Or.inl rfl))
      (pss_cons (ps_set (i := 5) sc_law_of_table.nd rfl (Or.inl rfl) (pe_fn g_law_constant hr (by decide) (by rfl) (pa_cons (pv 0) (pa_cons (pv 1) (pa_cons (pe_dget hu (pv 2) (pv 4) (fun _ _ => rfl)) pa_nil)))))
      (pss_cons (ps_for PassesOwn.never rfl (pi_range1 (by rfl) T.b_range (pa_cons (pv 1) pa_nil)) (pg_name (i := 6) sc_law_of_table.nd rfl (Or.inl rfl))
      (pss_cons (ps_set (i := 7) sc_law_of_table.nd rfl (Or.inl rfl) (pe_fn g_law_minus hr (by decide) (by rfl) (pa_cons (pv 0) (pa_cons (pe_fn g_law_unknown hr (by decide) (by rfl) (pa_cons (pv 1) (pa_cons (pv 6) pa_nil))) (pa_cons (pe_fn g_law_constant hr (by decide) (by rfl) (pa_cons (pv 0) (pa_cons (pv 1) (pa_cons (pe_ix (k_ixT (K := K) rfl) (pv 4) (pv 6) (fun _ _ => rfl)) pa_nil)))) pa_nil)))))
      (pss_cons (ps_set (i := 8) sc_law_of_table.nd rfl (Or.inl rfl) (pe_fn g_law_raised hr (by decide) (by rfl) (pa_cons (pv 0) (pa_cons (pv 1) (pa_cons (pv 7) (pa_cons (pe_op op_sub (pv 0) pe_int) pa_nil))))))
      (pss_one (ps_set (i := 5) sc_law_of_table.nd rfl (Or.inl rfl) (pe_fn g_law_times hr (by decide) (by rfl) (pa_cons (pv 0) (pa_cons (pv 5) (pa_cons (pe_fn g_law_minus hr (by decide) (by rfl) (pa_cons (pv 0) (pa_cons (pe_fn g_law_constant hr (by decide) (by rfl) (pa_cons (pv 0) (pa_cons (pv 1) (pa_cons pe_int pa_nil)))) (pa_cons (pv 8) pa_nil)))) pa_nil)))))))))
      (pss_one (ps_set (i := 3) sc_law_of_table.nd rfl (Or.inl rfl) (pe_fn g_law_plus hr (by decide) (by rfl) (pa_cons (pv 0) (pa_cons (pv 3) (pa_cons (pv 5) pa_nil))))))))))
      (pss_one (ps_ret (pv 3))))), ?_⟩
    obtain ⟨p, n, T, kvs, S, hkeys, hT, r, k⟩ := h
    obtain ⟨_, _, _, rfl, rfl, rfl, d, rfl, hd⟩ := All.l3 r
    have hp := S.p
    have hn := S.n
    have hnd : (keysI kvs).Nodup := by rw [hkeys]; exact pts_nodup p n
    refine sq (s_set (R := polyR p n fun _ => 0) (Ev.imp (ev_tup ea_nil (by show 0 ≤ _; decide)) fun v H1 e r => ⟨[], ⟨.nil, (fun t ht => nomatch ht), (fun t ht => nomatch ht)⟩, fun x _ => Cg.refl 0, tupR.f r⟩) fun u0 H1 e1 ru0 => ?_)
    have hd1 : H1 d = some (DT (iV kvs)) := e1.at hd
    dsimp only [List.set]
    refine sq (s_lockR (i := 2) (kvs := iV kvs) rfl hd1 (fun i σ' H' => ∃ (u : V) (v4 v5 v6 v7 v8 : Option V), σ' = [some (.int p), some (.int n), some (.ref d), some u, v4, v5, v6, v7, v8] ∧ polyR p n (fun x => lsum (kvs.take i) fun t => if t.1 = x then t.2 else 0) u H' ∧ ∃ o, H' d = some (.frz o (DT (iV kvs)))) (fun od H2 e2 => ⟨u0, none, none, none, none, none, rfl, (TMono.up ((TEx.upd hd1 trivial).trans e2.t) ru0 : polyR p n (fun _ => 0) u0 H2).to fun x _ => Cg.of (by rw [List.take_zero, lsum_nil]), od, e2.at upd_same⟩) (fun od H2 i a x σ' H0 H' bk ha e2 e0 pv e' hdz hx => ?_) fun σ' H' e' pv => ?_)
    · obtain ⟨u, v4, v5, v6, v7, v8, rfl, hu, _⟩ := pv
      obtain ⟨t, ht, rfl⟩ : ∃ t, kvs[i]? = some t ∧ (t.1, V.int t.2) = a := by
        rw [List.getElem?_map] at ha
        exact Option.map_eq_some_iff.mp ha
      have htm := List.mem_of_getElem? ht
      have hy : t.1 ∈ pts p n := by rw [← hkeys]; exact List.mem_map.mpr ⟨t, htm, rfl⟩
      have iy := mem_pts.mp hy
      have hx : ptR t.1 x H' := hx
      dsimp only [gName, List.set]
      refine sq (s_set (R := polyR p n fun _ => t.2) (ev_call (ea_cons (ev_is rfl) (ea_cons (ev_is rfl) (ea_cons (ev_dgetF (d := d) (kvs := iV kvs) (k := t.1) (v := .int t.2) (ev_var rfl (R := dF d (iV kvs)) ⟨rfl, od, hdz⟩) (ev_var rfl hx) (valV_mem hnd htm)) ea_nil))) fun vs H1 Q E h => ⟨p, n, t.2, S, h⟩) fun w0 H3 e3 rw0 => ?_)
      dsimp only [List.set]
      refine sq (s_forD (srcD_range (n := n) (ea_cons (ev_is rfl) ea_nil) (by omega)) (fun j σ' H' => ∃ (w : V) (v6 v7 v8 : Option V), σ' = [some (.int p), some (.int n), some (.ref d), some u, some x, some w, v6, v7, v8] ∧ polyR p n (fun z => if t.1.take j = z.take j then t.2 else 0) w H') (fun H4 e4 => ⟨w0, v6, v7, v8, rfl, (TMono.up e4.t rw0 : polyR p n (fun _ => t.2) w0 H4).to fun z _ => Cg.of (by rw [List.take_zero, List.take_zero, if_pos rfl])⟩) (fun H4 j a v σ' H5 H6 ha e4 e5 pv e6 hv => ?_) fun σ' H4 e4 pv => ?_)
      · obtain ⟨w, v6, v7, v8, rfl, hw⟩ := pv
        obtain rfl : v = .int a := hv
        have hj := (List.getElem?_eq_some_iff.mp ha).1
        rw [List.length_range] at hj
        obtain rfl : j = a := by rw [List.getElem?_range hj] at ha; exact Option.some.inj ha
        have hjy : j < t.1.length := by rw [iy.1]; exact hj
        have gy : t.1[j]? = some (t.1[j]?.getD 0) := by rw [List.getElem?_eq_getElem hjy]; rfl
        have up := e3.trans (e4.trans (e5.trans e6))
        dsimp only [gName, List.set]
        refine sq (s_set (R := polyR p n fun z => z[j]?.getD 0 - t.1[j]?.getD 0) (ev_call (ea_cons (ev_is rfl) (ea_cons (ev_call (R := polyR p n fun z => z[j]?.getD 0) (ea_cons (ev_is rfl) (ea_cons (ev_is rfl) ea_nil)) fun vs H1 Q E h => ⟨p, n, j, S, hj, h⟩) (ea_cons (ev_call (R := polyR p n fun _ => t.1[j]?.getD 0) (ea_cons (ev_is rfl) (ea_cons (ev_is rfl) (ea_cons (ev_ixP (n := j) (i := t.1[j]?.getD 0) (ev_var rfl (TMono.up up.t hx)) (ev_is rfl) gy) ea_nil))) fun vs H1 Q E h => ⟨p, n, _, S, h⟩) ea_nil))) fun vs H1 Q E h => ⟨p, n, _, _, S, h⟩) fun w1 H7 e7 rw1 => ?_)
        dsimp only [List.set]
        refine sq (s_set (R := polyR p n fun z => (z[j]?.getD 0 - t.1[j]?.getD 0) ^ (p - 1)) (ev_call (ea_cons (ev_is rfl) (ea_cons (ev_is rfl) (ea_cons (ev_var rfl rw1) (ea_cons (Ev.to (ev_I0 (ev_is rfl) ev_c) (j := .int ((p - 1 : Nat) : Int)) (by congr 1; omega)) ea_nil)))) fun vs H1 Q E h => ⟨p, n, _, p - 1, S, by omega, h⟩) fun w2 H8 e8 rw2 => ?_)
        dsimp only [List.set]
        refine s_set (R := polyR p n fun z => (if t.1.take j = z.take j then t.2 else 0) * (1 - (z[j]?.getD 0 - t.1[j]?.getD 0) ^ (p - 1))) (ev_call (ea_cons (ev_is rfl) (ea_cons (ev_var rfl (TMono.up (e6.trans (e7.trans e8)).t hw)) (ea_cons (ev_call (R := polyR p n fun z => 1 - (z[j]?.getD 0 - t.1[j]?.getD 0) ^ (p - 1)) (ea_cons (ev_is rfl) (ea_cons (ev_call (R := polyR p n fun _ => 1) (ea_cons (ev_is rfl) (ea_cons (ev_is rfl) (ea_cons ev_c ea_nil))) fun vs H1 Q E h => ⟨p, n, 1, S, h⟩) (ea_cons (ev_var rfl rw2) ea_nil))) fun vs H1 Q E h => ⟨p, n, fun _ => 1, _, S, h⟩) ea_nil))) fun vs H1 Q E h => ⟨p, n, _, _, S, h⟩) fun w3 H9 e9 rw3 => ?_
        exact ⟨e5.trans (e6.trans (e7.trans (e8.trans e9))), w3, some (.int j), some w1, some w2, rfl, rw3.to fun z hz => ind_step S.pr hz hy hj t.2⟩
      · obtain ⟨w, v6, v7, v8, rfl, hw⟩ := pv
        rw [List.length_range] at hw
        have hw' : polyR p n (fun z => if t.1 = z then t.2 else 0) w H4 := hw.to fun z hz => Cg.of (by rw [List.take_of_length_le (by rw [iy.1]; exact Nat.le_refl _), List.take_of_length_le (by rw [(mem_pts.mp hz).1]; exact Nat.le_refl _)])
        dsimp only
        refine s_set (R := polyR p n fun z => (lsum (kvs.take i) fun t => if t.1 = z then t.2 else 0) + (if t.1 = z then t.2 else 0)) (ev_call (ea_cons (ev_is rfl) (ea_cons (ev_var rfl (TMono.up (e'.trans (e3.trans e4)).t hu)) (ea_cons (ev_var rfl hw') ea_nil))) fun vs H1 Q E h => ⟨p, n, _, _, S, h⟩) fun w3 H5 e5 rw3 => ?_
        exact ⟨e0.trans (e'.trans (e3.trans (e4.trans e5))), w3, _, _, _, _, _, rfl, rw3.to fun z _ => Cg.of (by rw [lsum_take ht]), od, e5.at (e4.at (e3.at hdz))⟩
    · obtain ⟨u, v4, v5, v6, v7, v8, rfl, hu, o, hdo⟩ := pv
      rw [List.length_map, List.take_length] at hu
      have hu' : polyR p n T u (upd H' d (DT (iV kvs))) := (TMono.up (TEx.updU hdo (fun h => h)) hu : polyR p n _ u (upd H' d (DT (iV kvs)))).to fun z hz => Cg.of (by
        rw [lsum_congr (g := fun t : Pt × Int => if t.1 = z then T t.1 else 0) fun t ht => by rw [hT t ht]]
        have e := lsum_map (M := kvs) (k := fun t : Pt × Int => t.1) (f := fun y => if y = z then T y else 0)
        rw [← e]
        show lsum (keysI kvs) _ = _
        rw [hkeys]
        exact lsum_one (pts_nodup p n) hz)
      generalize upd H' d (DT (iV kvs)) = H3 at e' hu'
      dsimp only
      exact s_ret (ev_var rfl hu') fun v H4 e4 rv => k v H4 (e1.trans (e'.trans e4)) rv
  case len => obtain ⟨p, n, T, kvs, _, _, _, r, _⟩ := h; exact r.length
abbrev n_law_replaced : List Str := ["_law_prime", "_law_count", "_law_one", "_law_step_here", "_law_table", "_law_point"]
theorem sc_law_replaced : FnScope n_law_replaced ["_law_prime", "_law_count", "_law_one", "_law_step_here"] (defScope s_law_replaced) := ⟨rfl, rfl, rfl, by decide +kernel, rfl, by decide +kernel, by decide +kernel⟩
theorem bd_law_replaced : BindB "_law_replaced" "_law_replaced" s_law_replaced ["_law_prime", "_law_count", "_law_one", "_law_step_here"] := fun _ _ _ _ _ _ us hl => match us, hl with | [_, _, _, _], _ => rfl

def sp_law_replaced (_ : PySem.W.Frag) : Sp := fun vs H Q E => ∃ (p n : Nat) (F : Pt → Int) (Gs : List (Pt → Int)), Shape p n ∧ Gs.length = n ∧ SpR [IsI p, IsI n, polyR p n F, lstR (Gs.map (polyR p n))] (polyR p n (stepF p Gs F)) vs H Q E
abbrev G_law_replaced (P : Program) (w : World) (K : PySem.W.Frag) (mg : Str → Option Value) (base : Heap) : Prop := GFn P w K mg base "_law_replaced" 5 ["_law_prime", "_law_count", "_law_one", "_law_step_here"] (sp_law_replaced K)

theorem ok_law_replaced (T : TopF K mg) (g_law_after : G_law_after P w K mg base) (g_law_of_table : G_law_of_table P w K mg base) (g_law_points : G_law_points P w K mg base) (g_law_value : G_law_value P w K mg base) : G_law_replaced P w K mg base := by
  refine T.d_law_replaced.fn sc_law_replaced bd_law_replaced (fun vs H Q E h => ?len) fun f cdv A outer s H vs Q E hr h => ?walk
  case walk =>
    have hu := room1 hr
    have hu3 := room3 hr
    have hu64 := hr.units
    have hu65 := room65 hr
    refine ⟨_, (pss_cons (ps_set (i := 4) sc_law_replaced.nd rfl (Or.inl rfl) pe_dnewT)
      (pss_cons (ps_for PassesOwn.never rfl (k_piL (K := K) rfl (pe_fn g_law_points hr (by decide) (by rfl) (pa_cons (pv 0) (pa_cons (pv 1) pa_nil)))) (pg_name (i := 5) sc_law_replaced.nd rfl (Or.inl rfl))
      (pss_one (ps_dput hu (pv 4) (pv 5) (pe_fn g_law_value hr (by decide) (by rfl) (pa_cons (pv 0) (pa_cons (pv 2) (pa_cons (pe_fn g_law_after hr (by decide) (by rfl) (pa_cons (pv 0) (pa_cons (pv 3) (pa_cons (pv 5) pa_nil)))) pa_nil)))) rfl)))
      (pss_one (ps_ret (pe_fn g_law_of_table hr (by decide) (by rfl) (pa_cons (pv 0) (pa_cons (pv 1) (pa_cons (pv 4) pa_nil)))))))), ?_⟩
    obtain ⟨p, n, F, Gs, S, hG, r, k⟩ := h
    obtain ⟨_, _, a3, a4, rfl, rfl, rfl, r3, r4⟩ := All.l4 r
    have hp := S.p
    have hn := S.n
    have hz := S.pts
    refine sq (s_setD (kvs := iV []) ev_dnewT fun d H1 hd e1 h1 => ?_)
    have hm : d ∈ [d] := List.mem_singleton.mpr rfl
    dsimp only [List.set]
    refine sq (s_forX (ds := [d]) (xs := pts p n) (A := ptR) (srcX_list (EvN.nl (ev_callN (ea_cons (ev_is rfl) (ea_cons (ev_is rfl) ea_nil)) fun vs H1 Q E h => ⟨p, n, S, h⟩) (fun a ha => by rw [List.mem_singleton.mp ha, h1]; intro hx; cases hx))) (fun i σ' H0 => ∃ (v5 : Option V), σ' = [some (.int p), some (.int n), some a3, some a4, some (.ref d), v5] ∧ Ext H H0 ∧ H0 d = some (DT (iV (((pts p n).take i).map fun x => (x, stepF p Gs F x % (p : Int)))))) (fun H4 e4 => ⟨none, rfl, e1.trans e4, by rw [List.take_zero]; exact e4.at h1⟩) (fun H4 i x vx σ' H5 H6 hx e4 e5 t5 pv e6 hvx => ?_) fun H4 σ' H5 e4 e5 t5 pv => ?_)
    · obtain ⟨v5, rfl, q1, q2⟩ := pv
      have hxm := List.mem_of_getElem? hx
      have hi := (List.getElem?_eq_some_iff.mp hx).1
      have u1 := q1.trans e6
      have h6 := e6.at q2
      have hnk : x ∉ keysI (((pts p n).take i).map fun x => (x, stepF p Gs F x % (p : Int))) := by
        rw [show keysI (((pts p n).take i).map fun x => (x, stepF p Gs F x % (p : Int))) = (pts p n).take i by rw [keysI, List.map_map]; exact List.map_id _]
        intro h
        obtain ⟨j, hj⟩ := List.getElem?_of_mem h
        rw [List.getElem?_take] at hj
        split at hj
        · have := nodup_at (pts_nodup p n) hj hx
          omega
        · cases hj
      dsimp only [gName, List.set]
      refine s_dput (R := IsI (stepF p Gs F x % p)) h6 (ev_call (ea_cons (ev_is rfl) (ea_cons (ev_var rfl (TMono.up u1.t r3)) (ea_cons (ev_call (R := ptR (stepP p Gs x)) (ea_cons (ev_is rfl) (ea_cons (ev_var rfl (Mono.up u1 r4)) (ea_cons (ev_var rfl hvx) ea_nil))) fun vs H1 Q E h => ⟨p, n, Gs, x, S, by omega, hxm, h⟩) ea_nil))) fun vs H1 Q E h => ⟨p, n, F, stepP p Gs x, S, step_in (by omega) hG x, h⟩) (ev_is rfl) (ev_var rfl hvx) (by rw [List.length_map, List.length_map, List.length_take, sizeLine_eq]; omega) fun v H7 e7 rv => ?_
      obtain rfl : v = .int (stepF p Gs F x % p) := rv
      rw [put_iV, putI_new hnk]
      have h7 := e7.at h6
      have ex := e6.trans e7
      refine ⟨(e5.trans ex).mut (delS_in hm) h7 trivial, (t5.trans ex.t).trans (TEx.upd h7 trivial), some vx, rfl, (q1.trans ex).mut hd h7 trivial, ?_⟩
      rw [upd_same, take_at hx, List.map_append]
      rfl
    · obtain ⟨v5, rfl, q1, q2⟩ := pv
      rw [List.take_length] at q2
      dsimp only
      refine s_ret (ev_call (R := polyR p n fun x => stepF p Gs F x % (p : Int)) (ea_cons (ev_is rfl) (ea_cons (ev_is rfl) (ea_cons (ev_var rfl (R := dR (iV ((pts p n).map fun x => (x, stepF p Gs F x % (p : Int))))) ⟨d, rfl, q2⟩) ea_nil))) fun vs H1 Q E h => ⟨p, n, fun x => stepF p Gs F x % (p : Int), (pts p n).map fun x => (x, stepF p Gs F x % (p : Int)), S, by rw [keysI, List.map_map]; exact List.map_id _, fun t ht => by obtain ⟨x, _, rfl⟩ := List.mem_map.mp ht; rfl, h⟩) fun v H6 e6 rv => k v H6 (q1.trans e6) (rv.to fun x _ => Cg.mod _)
  case len => obtain ⟨p, n, F, Gs, _, _, r, _⟩ := h; exact r.length
end SP
end
section
set_option Elab.async false
set_option linter.all false
set_option maxRecDepth 100000
set_option maxHeartbeats 4000000
namespace SP
open PySem PyProof.Rows L2
variable {P : Program} {w : World} {K : PySem.W.Frag} {mg : Str → Option Value} {base : Heap}
theorem set_same {σ : L2.St} {i : Nat} {u : V} (h : σ[i]? = some (some u)) : σ.set i (some u) = σ := by
  apply List.ext_getElem?
  intro j
  rw [List.getElem?_set]
  by_cases e : i = j
  · subst e
    have hi := (List.getElem?_eq_some_iff.mp h).1
    rw [if_pos rfl, if_pos hi, h]
  · rw [if_neg e]
theorem s_ifSet {c : TT} {te : TE} {D : Ends} {σ : L2.St} {H : Hp} {b : Bool} {i : Nat} {R : RS} [Mono R] {u : V} (h : EvT c σ H b) (hu : σ[i]? = some (some u)) (ru : R u H) (he : b = true → ∀ H1, Ext H H1 → Ev te σ H1 R)
    (k : ∀ v H1, Ext H H1 → R v H1 → D.nx (σ.set i (some v)) H1) : tIfS c (tAsg te (gName i)) tNext D σ H :=
  s_if h (fun hb H1 e1 => s_set (he hb H1 e1) fun v H2 e2 rv => k v H2 (e1.trans e2) rv) fun _ H1 e1 => s_next (by
    have q := k u H1 e1 (Mono.up e1 ru)
    rw [set_same hu] at q
    exact q)
theorem pick {α : Type} {xs : List α} (h : 0 < xs.length) (i : Int) : ∃ (j : Nat) (x : α), i % (xs.length : Int) = (j : Int) ∧ xs[j]? = some x ∧ x ∈ xs := by
  have h1 := Int.emod_nonneg i (show (xs.length : Int) ≠ 0 by omega)
  have h2 := Int.emod_lt_of_pos i (show 0 < (xs.length : Int) by omega)
  have h3 : (i % (xs.length : Int)).toNat < xs.length := by omega
  exact ⟨_, xs[(i % (xs.length : Int)).toNat], by rw [Int.toNat_of_nonneg h1], List.getElem?_eq_getElem h3, List.getElem_mem h3⟩
theorem cut_to1 {α : Type} (xs : List α) : cutL xs none (some (1 : Int)) = xs.take 1 := by
  cases xs with
  | nil => rfl
  | cons x xs => exact cut_toG (xs := x :: xs) (i := 1) (by rw [List.length_cons]; omega)
theorem Canon.filter {p n : Nat} {f : Poly} (c : Canon p n f) (q : Pt × Int → Bool) : Canon p n (f.filter q) :=
  ⟨c.ord.sublist List.filter_sublist, fun t ht => c.pow t (List.mem_filter.mp ht).1, fun t ht => c.num t (List.mem_filter.mp ht).1⟩
theorem Canon.take {p n : Nat} {f : Poly} (c : Canon p n f) (i : Nat) : Canon p n (f.take i) :=
  ⟨c.ord.sublist (List.take_sublist i f), fun t ht => c.pow t (List.mem_of_mem_take ht), fun t ht => c.num t (List.mem_of_mem_take ht)⟩
theorem Canon.any {p n : Nat} {f : Poly} (c : Canon p n f) {v : V} {H : Hp} (h : polyV f v H) : anyP p n v H := ⟨vsum f, f, c, fun _ _ => Cg.refl _, h⟩
def numP (p n m : Nat) : RS := fun v H => ∃ Gs : List (Pt → Int), Gs.length = m ∧ lstR (Gs.map (polyR p n)) v H
instance {p n m : Nat} : Mono (numP p n m) := ⟨fun e ⟨Gs, h, r⟩ => ⟨Gs, h, Mono.up e r⟩⟩
theorem dat {ds : List Int} {j : Nat} (h : j < ds.length) : (ds.map IsI)[j]? = some (IsI (ds[j]?.getD 0)) := by
  rw [List.getElem?_map, List.getElem?_eq_getElem h]
  rfl
abbrev n_law_step : List Str := ["_law_prime", "_law_count", "_law_cell_here", "_law_digits_here", "_law_found", "_law_k", "_law_one", "_law_power", "_law_number"]
theorem sc_law_step : FnScope n_law_step ["_law_prime", "_law_count", "_law_cell_here"] (defScope s_law_step) := ⟨rfl, rfl, rfl, by decide +kernel, rfl, by decide +kernel, by decide +kernel⟩
theorem bd_law_step : BindB "_law_step" "_law_step" s_law_step ["_law_prime", "_law_count", "_law_cell_here"] := fun _ _ _ _ _ _ us hl => match us, hl with | [_, _, _], _ => rfl

def sp_law_step (_ : PySem.W.Frag) : Sp := fun vs H Q E => ∃ (p n : Nat) (c : Int), Shape p n ∧ SpR [IsI p, IsI n, IsI c] (numP p n n) vs H Q E
abbrev G_law_step (P : Program) (w : World) (K : PySem.W.Frag) (mg : Str → Option Value) (base : Heap) : Prop := GFn P w K mg base "_law_step" 3 ["_law_prime", "_law_count", "_law_cell_here"] (sp_law_step K)

theorem ok_law_step (T : TopF K mg) (g_law_digits : G_law_digits P w K mg base) (g_law_drawn : G_law_drawn P w K mg base) (g_law_plus : G_law_plus P w K mg base) (g_law_unknown : G_law_unknown P w K mg base) : G_law_step P w K mg base := by
  refine T.d_law_step.fn sc_law_step bd_law_step (fun vs H Q E h => ?len) fun f cdv A outer s H vs Q E hr h => ?walk
  case walk =>
    have hu := room1 hr
    have hu3 := room3 hr
    have hu64 := hr.units
    have hu65 := room65 hr
    refine ⟨_, (pss_cons (ps_set (i := 3) sc_law_step.nd rfl (Or.inl rfl) (pe_fn g_law_digits hr (by decide) (by rfl) (pa_cons (pv 2) (pa_cons pe_int (pa_cons (pe_op op_add (pe_op op_mul pe_int (pv 1)) pe_int) pa_nil)))))
      (pss_cons (ps_set (i := 4) sc_law_step.nd rfl (Or.inl rfl) (pe_lst pa_nil))
      (pss_cons (ps_for PassesOwn.never rfl (pi_range1 (by rfl) T.b_range (pa_cons (pv 1) pa_nil)) (pg_name (i := 5) sc_law_step.nd rfl (Or.inl rfl))
      (pss_cons (ps_set (i := 6) sc_law_step.nd rfl (Or.inl rfl) (pe_fn g_law_drawn hr (by decide) (by rfl) (pa_cons (pv 0) (pa_cons (pv 1) (pa_cons (pe_op op_add (pe_ix (k_ixL (K := K) rfl) (pv 3) (pe_op op_mul pe_int (pv 5)) (fun _ _ => rfl)) (pe_op op_mul pe_int (pe_ix (k_ixL (K := K) rfl) (pv 3) (pe_op op_add (pe_op op_mul pe_int (pv 5)) pe_int) (fun _ _ => rfl)))) pa_nil)))))
      (pss_cons (ps_if (pt_cmpR op_eq (pe_op op_mod (pe_callTy call_int1 (by rfl) T.b_int (by decide +kernel) (pa_cons (pe_ix (k_ixL (K := K) rfl) (pv 3) (pe_op op_mul pe_int (pv 1)) (fun _ _ => rfl)) pa_nil)) pe_int) pe_int (nomark _)) (pss_one (ps_set (i := 6) sc_law_step.nd rfl (Or.inl rfl) (pe_callTy (k_tup (K := K) rfl) (by rfl) T.b_tuple (by decide +kernel) (pa_cons (pe_lc (own := [("_law_power", 7), ("_law_number", 8)]) (g := (gTup K 2 (gCons (gName 7) (gCons (gName 8) gNil)))) (by rfl) sc_law_step.nd (k_piT (K := K) rfl (pv 6)) (blkOk_by (own := [("_law_power", 7), ("_law_number", 8)]) (N := n_law_step) (sc := defScope s_law_step) (by decide +kernel)) (fun _ _ _ _ _ => (pg_tup rfl (pgs_cons (pg_name (i := 7) sc_law_step.nd rfl (Or.inl rfl)) (pgs_cons (pg_name (i := 8) sc_law_step.nd rfl (Or.inl rfl)) pgs_nil)))) (fun _ _ _ _ _ => (pts_one (pt_cmpR op_lt (pe_callB (k_sumT (K := K) rfl rfl) (by rfl) T.b_sum (by decide +kernel) (pa_cons (pv 7) pa_nil)) pe_int (nomark _)))) (fun _ _ _ _ _ => (pe_tup (pa_cons (pv 7) (pa_cons (pv 8) pa_nil))))) pa_nil)))) pss_nil)
      (pss_cons (ps_if (pt_cmpR op_eq (pe_op op_mod (pe_callTy call_int1 (by rfl) T.b_int (by decide +kernel) (pa_cons (pe_ix (k_ixL (K := K) rfl) (pv 3) (pe_op op_add (pe_op op_mul pe_int (pv 1)) pe_int) (fun _ _ => rfl)) pa_nil)) pe_int) pe_int (nomark _)) (pss_one (ps_set (i := 6) sc_law_step.nd rfl (Or.inl rfl) (pe_fn g_law_plus hr (by decide) (by rfl) (pa_cons (pv 0) (pa_cons (pe_fn g_law_unknown hr (by decide) (by rfl) (pa_cons (pv 1) (pa_cons (pv 5) pa_nil))) (pa_cons (pe_slice (k_slA (K := K) rfl) (pv 6) po_none (po_some pe_int)) pa_nil)))))) pss_nil)
      (pss_one (ps_expr (pe_bm PySem.F.plainAttrs_list PySem.F.slot_list_append PySem.F.type_list_append mt_append (pv 4) (pa_cons (pv 6) pa_nil))))))))
      (pss_one (ps_ret (pv 4)))))), ?_⟩
    obtain ⟨p, n, c, S, r, k⟩ := h
    obtain ⟨_, _, _, rfl, rfl, rfl, rfl⟩ := All.l3 r
    have hp := S.p
    have hn := S.n
    refine sq (s_set (R := digR 5040 (2 * n + 2)) (ev_call (ea_cons (ev_is rfl) (ea_cons ev_c (ea_cons (Ev.to (ev_I0 (ev_mul ev_c (ev_is rfl) (.inl ⟨by decide, by decide⟩)) ev_c) (j := .int ((2 * n + 2 : Nat) : Int)) (by congr 1)) ea_nil))) fun vs H1 Q E h => ⟨c, 5040, 2 * n + 2, by decide, by decide, by omega, h⟩) fun dv H1 e1 rv => ?_)
    obtain ⟨ds, hdl, hds, hdr⟩ := rv
    dsimp only [List.set]
    refine sq (s_setN (ev_lst ea_nil (by show 0 ≤ _; decide)) fun pf vf H2 hpf e2 h2 r2 => ?_)
    obtain rfl := All.l0 r2
    dsimp only [List.set]
    refine sq (s_forB (Hb := H1) (srcB_range (n := n) (ea_cons (ev_is rfl) ea_nil) (by omega)) e2 (fun i σ' H' => ∃ (v5 v6 v7 v8 : Option V) (us : List V) (Gs : List (Pt → Int)), σ' = [some (.int p), some (.int n), some (.int c), some dv, some (.ref pf), v5, v6, v7, v8] ∧ H' pf = some (.lst us) ∧ Gs.length = i ∧ All (Gs.map (polyR p n)) us H') (fun H3 e3 => ⟨none, none, none, none, [], [], rfl, e3.at h2, rfl, .nil⟩) (fun H3 i a x σ' H0 H' ha e3 e0 t0 pv e' hx => ?_) fun σ' H' e' t' pv => ?_)
    · obtain ⟨v5, v6, v7, v8, us, Gs, rfl, hl, hGl, hall⟩ := pv
      obtain rfl : x = .int a := hx
      have hi := (List.getElem?_eq_some_iff.mp ha).1
      rw [List.length_range] at hi
      obtain rfl : i = a := by rw [List.getElem?_range hi] at ha; exact Option.some.inj ha
      have up := e0.trans e'
      have hd' := Mono.up up hdr
      dsimp only [gName, List.set]
      refine sq (s_set (R := anyP p n) (ev_call (ea_cons (ev_is rfl) (ea_cons (ev_is rfl) (ea_cons (ev_I0 (ev_ixL (n := 2 * i) (Rs := ds.map IsI) (ev_var rfl hd') (Ev.to (ev_mul ev_c (ev_is rfl) (.inl ⟨by decide, by decide⟩)) (by congr 1)) (dat (by omega))) (ev_mul ev_c (ev_ixL (n := 2 * i + 1) (Rs := ds.map IsI) (ev_var rfl hd') (Ev.to (ev_I0 (ev_mul ev_c (ev_is rfl) (.inl ⟨by decide, by decide⟩)) ev_c) (by congr 1)) (dat (by omega))) (.inl ⟨by decide, by decide⟩))) ea_nil))) fun vs H1 Q E h => ⟨p, n, _, S, h⟩) fun u H4 e4 ru => ?_)
      have hd4 : lstR (ds.map IsI) dv H4 := Mono.up e4 hd'
      dsimp only [List.set]
      refine sq (s_ifSet (i := 6) (R := anyP p n) (et_test (ev_eqS (ev_mod (ev_int (ea_cons (ev_ixL (n := 2 * n) (Rs := ds.map IsI) (ev_var rfl hd4) (Ev.to (ev_mul ev_c (ev_is rfl) (.inl ⟨by decide, by decide⟩)) (by congr 1)) (dat (by omega))) ea_nil)) ev_c (by decide)) ev_c rfl)) rfl ru (fun _ H5 e5 => ?_) fun u2 H5 e5 ru2 => ?_)
      · obtain ⟨F, f, cf, vf, rf⟩ := ru
        have hfl : f.length ≤ 27 := Nat.le_trans cf.len S.pts
        refine Ev.imp (ev_tupOf (Rs := (f.filter fun t => decide (t.1.sum < 2)).map pairR) (ea_cons (EvN.ev ?_) ea_nil)) fun v H6 e6 rv => (cf.filter _).any rv.f
        refine ev_lc (f := fun t : Pt × Int => decide (t.1.sum < 2)) (B := pairR) (xs := f) (A := pairR) (srcD_tup (ev_var rfl (TMono.up e5.t rf))) (by rw [sizeLine_eq]; omega) fun t v H6 ht e6 rv => g_pair rv fun u1 u2 q1 q2 => ⟨rfl, rfl, ?_, fun _ => ?_⟩
        · exact et_test (ev_I0 (ev_sumP (ea_cons (ev_var rfl q1) ea_nil)) ev_c)
        · exact ev_tup (ea_cons (ev_var rfl q1) (ea_cons (ev_var rfl q2) ea_nil)) (by show 2 ≤ _; decide)
      have hd5 : lstR (ds.map IsI) dv H5 := Mono.up e5 hd4
      dsimp only [List.set]
      refine sq (s_ifSet (i := 6) (R := anyP p n) (et_test (ev_eqS (ev_mod (ev_int (ea_cons (ev_ixL (n := 2 * n + 1) (Rs := ds.map IsI) (ev_var rfl hd5) (Ev.to (ev_I0 (ev_mul ev_c (ev_is rfl) (.inl ⟨by decide, by decide⟩)) ev_c) (by congr 1)) (dat (by omega))) ea_nil)) ev_c (by decide)) ev_c rfl)) rfl ru2 (fun _ H6 e6 => ?_) fun u3 H6 e6 ru3 => ?_)
      · obtain ⟨F, f, cf, vf, rf⟩ := ru2
        exact Ev.imp (ev_call (R := polyR p n fun x => x[i]?.getD 0 + vsum (f.take 1) x) (ea_cons (ev_is rfl) (ea_cons (ev_call (R := polyR p n fun x => x[i]?.getD 0) (ea_cons (ev_is rfl) (ea_cons (ev_is rfl) ea_nil)) fun vs H1 Q E h => ⟨p, n, i, S, hi, h⟩) (ea_cons (Ev.imp (R' := polyR p n (vsum (f.take 1))) (ev_slT (Rs := f.map pairR) (lo := none) (hi := some 1) (ev_var rfl (TMono.up e6.t rf)) eo_none (eo_some ev_c) (by rw [cut_to1, ← List.map_take]; exact inferInstance)) fun v H7 e7 rv => (⟨f.take 1, cf.take 1, fun _ _ => Cg.refl _, by rw [cut_to1, ← List.map_take] at rv; exact rv⟩ : polyR p n (vsum (f.take 1)) v H7)) ea_nil))) fun vs H1 Q E h => ⟨p, n, _, _, S, h⟩) fun v H7 e7 rv => ⟨_, rv⟩
      obtain ⟨F, hF⟩ := ru3
      have up6 := e'.trans (e4.trans (e5.trans e6))
      have hl6 := up6.at hl
      dsimp only [List.set]
      refine s_app (R := polyR p n F) hl6 (ev_is rfl) (ev_var rfl hF) (by rw [hall.length, List.length_map, sizeLine_eq]; omega) fun v H7 e7 rv => ?_
      have h7 := e7.at hl6
      have t7 : TEx H7 (upd H7 pf (.lst (us ++ [v]))) := TEx.upd h7 trivial
      refine ⟨(e0.trans (up6.trans e7)).mut hpf h7 trivial, (t0.trans (up6.trans e7).t).trans t7, _, _, _, _, us ++ [v], Gs ++ [F], rfl, upd_same, by rw [List.length_append, hGl]; rfl, ?_⟩
      rw [List.map_append]
      exact (All.upT ((up6.trans e7).t.trans t7) hall).snoc (TMono.up t7 rv)
    · obtain ⟨v5, v6, v7, v8, us, Gs, rfl, hl, hGl, hall⟩ := pv
      rw [List.length_range] at hGl
      dsimp only
      exact s_ret (ev_var rfl (R := numP p n n) ⟨Gs, hGl, pf, us, rfl, hl, hall⟩) fun v H3 e3 rv => k v H3 (e1.trans (e'.trans e3)) rv
  case len => obtain ⟨p, n, c, _, r, _⟩ := h; exact r.length
abbrev n_law_equations : List Str := ["_law_prime", "_law_count", "_law_cell_here", "_law_digits_here", "_law_points_here", "_law_point", "_law_found", "_law_k", "_law_one", "_law_power", "_law_number"]
theorem sc_law_equations : FnScope n_law_equations ["_law_prime", "_law_count", "_law_cell_here"] (defScope s_law_equations) := ⟨rfl, rfl, rfl, by decide +kernel, rfl, by decide +kernel, by decide +kernel⟩
theorem bd_law_equations : BindB "_law_equations" "_law_equations" s_law_equations ["_law_prime", "_law_count", "_law_cell_here"] := fun _ _ _ _ _ _ us hl => match us, hl with | [_, _, _], _ => rfl

def eqsR (p n : Nat) : RS := fun v H => ∃ Es : List (Pt → Int), Es.length ≤ 4 ∧ lstR (Es.map (polyR p n)) v H
instance {p n : Nat} : Mono (eqsR p n) := ⟨fun e ⟨Es, h, r⟩ => ⟨Es, h, Mono.up e r⟩⟩
def sp_law_equations (_ : PySem.W.Frag) : Sp := fun vs H Q E => ∃ (p n : Nat) (c : Int), Shape p n ∧ SpR [IsI p, IsI n, IsI c] (eqsR p n) vs H Q E
abbrev G_law_equations (P : Program) (w : World) (K : PySem.W.Frag) (mg : Str → Option Value) (base : Heap) : Prop := GFn P w K mg base "_law_equations" 4 ["_law_prime", "_law_count", "_law_cell_here"] (sp_law_equations K)

theorem ok_law_equations (T : TopF K mg) (g_law_constant : G_law_constant P w K mg base) (g_law_digits : G_law_digits P w K mg base) (g_law_drawn : G_law_drawn P w K mg base) (g_law_minus : G_law_minus P w K mg base) (g_law_points : G_law_points P w K mg base) (g_law_value : G_law_value P w K mg base) : G_law_equations P w K mg base := by
  refine T.d_law_equations.fn sc_law_equations bd_law_equations (fun vs H Q E h => ?len) fun f cdv A outer s H vs Q E hr h => ?walk
  case walk =>
    have hu := room1 hr
    have hu3 := room3 hr
    have hu64 := hr.units
    have hu65 := room65 hr
    refine ⟨_, (pss_cons (ps_set (i := 3) sc_law_equations.nd rfl (Or.inl rfl) (pe_fn g_law_digits hr (by decide) (by rfl) (pa_cons (pv 2) (pa_cons pe_int (pa_cons pe_int pa_nil)))))
      (pss_cons (ps_set (i := 4) sc_law_equations.nd rfl (Or.inl rfl) (pe_fn g_law_points hr (by decide) (by rfl) (pa_cons (pv 0) (pa_cons (pv 1) pa_nil))))
      (pss_cons (ps_set (i := 5) sc_law_equations.nd rfl (Or.inl rfl) (pe_ix (k_ixL (K := K) rfl) (pv 4) (pe_op op_mod (pe_callTy call_int1 (by rfl) T.b_int (by decide +kernel) (pa_cons (pe_ix (k_ixL (K := K) rfl) (pv 3) pe_int (fun _ _ => rfl)) pa_nil)) (pe_callB (k_len (K := K) rfl) (by rfl) T.b_len (by decide +kernel) (pa_cons (pv 4) pa_nil))) (fun _ _ => rfl)))
      (pss_cons (ps_set (i := 6) sc_law_equations.nd rfl (Or.inl rfl) (pe_lst pa_nil))
      (pss_cons (ps_for PassesOwn.never rfl (pi_range1 (by rfl) T.b_range (pa_cons (pe_ix (k_ixL (K := K) rfl) (pe_lst (pa_cons pe_int (pa_cons pe_int (pa_cons pe_int (pa_cons pe_int (pa_cons pe_int (pa_cons pe_int (pa_cons pe_int pa_nil)))))))) (pe_op op_mod (pe_callTy call_int1 (by rfl) T.b_int (by decide +kernel) (pa_cons (pe_ix (k_ixL (K := K) rfl) (pv 3) pe_int (fun _ _ => rfl)) pa_nil)) pe_int) (fun _ _ => rfl)) pa_nil)) (pg_name (i := 7) sc_law_equations.nd rfl (Or.inl rfl))
      (pss_cons (ps_set (i := 8) sc_law_equations.nd rfl (Or.inl rfl) (pe_fn g_law_drawn hr (by decide) (by rfl) (pa_cons (pv 0) (pa_cons (pv 1) (pa_cons (pe_op op_add (pe_ix (k_ixL (K := K) rfl) (pv 3) (pe_op op_add pe_int (pe_op op_mul pe_int (pv 7))) (fun _ _ => rfl)) (pe_op op_mul pe_int (pe_ix (k_ixL (K := K) rfl) (pv 3) (pe_op op_add pe_int (pe_op op_mul pe_int (pv 7))) (fun _ _ => rfl)))) pa_nil)))))
      (pss_cons (ps_if (pt_cmpR op_eq (pe_op op_mod (pe_callTy call_int1 (by rfl) T.b_int (by decide +kernel) (pa_cons (pe_ix (k_ixL (K := K) rfl) (pv 3) pe_int (fun _ _ => rfl)) pa_nil)) pe_int) pe_int (nomark _)) (pss_one (ps_set (i := 8) sc_law_equations.nd rfl (Or.inl rfl) (pe_callTy (k_tup (K := K) rfl) (by rfl) T.b_tuple (by decide +kernel) (pa_cons (pe_lc (own := [("_law_power", 9), ("_law_number", 10)]) (g := (gTup K 2 (gCons (gName 9) (gCons (gName 10) gNil)))) (by rfl) sc_law_equations.nd (k_piT (K := K) rfl (pv 8)) (blkOk_by (own := [("_law_power", 9), ("_law_number", 10)]) (N := n_law_equations) (sc := defScope s_law_equations) (by decide +kernel)) (fun _ _ _ _ _ => (pg_tup rfl (pgs_cons (pg_name (i := 9) sc_law_equations.nd rfl (Or.inl rfl)) (pgs_cons (pg_name (i := 10) sc_law_equations.nd rfl (Or.inl rfl)) pgs_nil)))) (fun _ _ _ _ _ => (pts_one (pt_cmpR op_lt (pe_callB (k_sumT (K := K) rfl rfl) (by rfl) T.b_sum (by decide +kernel) (pa_cons (pv 9) pa_nil)) pe_int (nomark _)))) (fun _ _ _ _ _ => (pe_tup (pa_cons (pv 9) (pa_cons (pv 10) pa_nil))))) pa_nil)))) pss_nil)
      (pss_cons (ps_if (pt_cmpR op_gt (pe_op op_mod (pe_callTy call_int1 (by rfl) T.b_int (by decide +kernel) (pa_cons (pe_ix (k_ixL (K := K) rfl) (pv 3) pe_int (fun _ _ => rfl)) pa_nil)) pe_int) pe_int (nomark _)) (pss_one (ps_set (i := 8) sc_law_equations.nd rfl (Or.inl rfl) (pe_fn g_law_minus hr (by decide) (by rfl) (pa_cons (pv 0) (pa_cons (pv 8) (pa_cons (pe_fn g_law_constant hr (by decide) (by rfl) (pa_cons (pv 0) (pa_cons (pv 1) (pa_cons (pe_fn g_law_value hr (by decide) (by rfl) (pa_cons (pv 0) (pa_cons (pv 8) (pa_cons (pv 5) pa_nil)))) pa_nil)))) pa_nil)))))) pss_nil)
      (pss_one (ps_expr (pe_bm PySem.F.plainAttrs_list PySem.F.slot_list_append PySem.F.type_list_append mt_append (pv 6) (pa_cons (pv 8) pa_nil))))))))
      (pss_one (ps_ret (pv 6)))))))), ?_⟩
    obtain ⟨p, n, c, S, r, k⟩ := h
    obtain ⟨_, _, _, rfl, rfl, rfl, rfl⟩ := All.l3 r
    have hp := S.p
    have hn := S.n
    have hpos : 0 < (pts p n).length := by rw [pts_length]; exact Nat.pow_pos (by omega)
    refine sq (s_set (R := digR 5040 16) (ev_call (ea_cons (ev_is rfl) (ea_cons ev_c (ea_cons ev_c ea_nil))) fun vs H1 Q E h => ⟨c, 5040, 16, by decide, by decide, by decide, h⟩) fun dv H1 e1 rv => ?_)
    obtain ⟨ds, hdl, hds, hdr⟩ := rv
    dsimp only [List.set]
    refine sq (s_set (R := lstR ((pts p n).map ptR)) (EvN.ev (ev_callN (ea_cons (ev_is rfl) (ea_cons (ev_is rfl) ea_nil)) fun vs H1 Q E h => ⟨p, n, S, h⟩)) fun pv H2 e2 rp => ?_)
    have hd2 : lstR (ds.map IsI) dv H2 := Mono.up e2 hdr
    obtain ⟨j0, pt, hj0, hpt, hptm⟩ := pick hpos (ds[0]?.getD 0)
    have lenP : ∀ {v : V} {H1 : Hp}, lstR ((pts p n).map ptR) v H1 → LenV K v H1 (pts p n).length := fun r => by
      have h := len_lst (K := K) r
      rw [List.length_map] at h
      exact h
    dsimp only [List.set]
    refine sq (s_set (R := ptR pt) (ev_ixL (n := j0) (ev_var rfl rp) (Ev.to (ev_mod (ev_int (ea_cons (ev_ixL (n := 0) (Rs := ds.map IsI) (ev_var rfl hd2) ev_c (dat (by omega))) ea_nil)) (ev_len (ea_cons (ev_var rfl rp) ea_nil) fun v H1 r => lenP r) (by omega)) (by rw [hj0])) (by rw [List.getElem?_map, hpt]; rfl)) fun xv H3 e3 rx => ?_)
    dsimp only [List.set]
    refine sq (s_setN (ev_lst ea_nil (by show 0 ≤ _; decide)) fun pf vf H4 hpf e4 h4 r4 => ?_)
    obtain rfl := All.l0 r4
    have hd3 : lstR (ds.map IsI) dv H3 := Mono.up e3 hd2
    obtain ⟨j1, hj1, hj1e⟩ : ∃ j : Nat, j < 7 ∧ ds[1]?.getD 0 % 7 = (j : Int) := ⟨(ds[1]?.getD 0 % 7).toNat, by omega, by omega⟩
    obtain ⟨m, hm, hat⟩ : ∃ m : Nat, m ≤ 4 ∧ ([IsI 0, IsI 1, IsI 2, IsI 2, IsI 3, IsI 1, IsI 4] : List RS)[j1]? = some (IsI (m : Int)) := by
      rcases (by omega : j1 = 0 ∨ j1 = 1 ∨ j1 = 2 ∨ j1 = 3 ∨ j1 = 4 ∨ j1 = 5 ∨ j1 = 6) with rfl | rfl | rfl | rfl | rfl | rfl | rfl
      · exact ⟨0, by omega, rfl⟩
      · exact ⟨1, by omega, rfl⟩
      · exact ⟨2, by omega, rfl⟩
      · exact ⟨2, by omega, rfl⟩
      · exact ⟨3, by omega, rfl⟩
      · exact ⟨1, by omega, rfl⟩
      · exact ⟨4, by omega, rfl⟩
    dsimp only [List.set]
    refine sq (s_forB (Hb := H3) (srcB_range (n := m) (ea_cons (ev_ixL (n := j1) (Rs := [IsI 0, IsI 1, IsI 2, IsI 2, IsI 3, IsI 1, IsI 4]) (EvN.ev (ev_lst (ea_cons ev_c (ea_cons ev_c (ea_cons ev_c (ea_cons ev_c (ea_cons ev_c (ea_cons ev_c (ea_cons ev_c ea_nil))))))) (by show 7 ≤ _; decide))) (Ev.to (ev_mod (ev_int (ea_cons (ev_ixL (n := 1) (Rs := ds.map IsI) (ev_var rfl hd3) ev_c (dat (by omega))) ea_nil)) ev_c (by decide)) (by rw [hj1e])) hat) ea_nil) (by omega)) e4 (fun i σ' H' => ∃ (v7 v8 v9 v10 : Option V) (us : List V) (Gs : List (Pt → Int)), σ' = [some (.int p), some (.int n), some (.int c), some dv, some pv, some xv, some (.ref pf), v7, v8, v9, v10] ∧ H' pf = some (.lst us) ∧ Gs.length = i ∧ All (Gs.map (polyR p n)) us H') (fun H5 e5 => ⟨none, none, none, none, [], [], rfl, e5.at h4, rfl, .nil⟩) (fun H5 i a x σ' H0 H' ha e5 e0 t0 pv e' hx => ?_) fun σ' H' e' t' pv => ?_)
    · obtain ⟨v7, v8, v9, v10, us, Gs, rfl, hl, hGl, hall⟩ := pv
      obtain rfl : x = .int a := hx
      have hi := (List.getElem?_eq_some_iff.mp ha).1
      rw [List.length_range] at hi
      obtain rfl : i = a := by rw [List.getElem?_range hi] at ha; exact Option.some.inj ha
      have up := e0.trans e'
      have hd' : lstR (ds.map IsI) dv H' := Mono.up up hd3
      have hx' : ptR pt xv H' := TMono.up up.t rx
      dsimp only [gName, List.set]
      refine sq (s_set (R := anyP p n) (ev_call (ea_cons (ev_is rfl) (ea_cons (ev_is rfl) (ea_cons (ev_I0 (ev_ixL (n := 2 + 2 * i) (Rs := ds.map IsI) (ev_var rfl hd') (Ev.to (ev_I0 ev_c (ev_mul ev_c (ev_is rfl) (.inl ⟨by decide, by decide⟩))) (by congr 1)) (dat (by omega))) (ev_mul ev_c (ev_ixL (n := 3 + 2 * i) (Rs := ds.map IsI) (ev_var rfl hd') (Ev.to (ev_I0 ev_c (ev_mul ev_c (ev_is rfl) (.inl ⟨by decide, by decide⟩))) (by congr 1)) (dat (by omega))) (.inl ⟨by decide, by decide⟩))) ea_nil))) fun vs H1 Q E h => ⟨p, n, _, S, h⟩) fun u H6 e6 ru => ?_)
      have hd6 : lstR (ds.map IsI) dv H6 := Mono.up e6 hd'
      dsimp only [List.set]
      refine sq (s_ifSet (i := 8) (R := anyP p n) (et_test (ev_eqS (ev_mod (ev_int (ea_cons (ev_ixL (n := 10) (Rs := ds.map IsI) (ev_var rfl hd6) ev_c (dat (by omega))) ea_nil)) ev_c (by decide)) ev_c rfl)) rfl ru (fun _ H7 e7 => ?_) fun u2 H7 e7 ru2 => ?_)
      · obtain ⟨F, f, cf, vf, rf⟩ := ru
        have hfl : f.length ≤ 27 := Nat.le_trans cf.len S.pts
        refine Ev.imp (ev_tupOf (Rs := (f.filter fun t => decide (t.1.sum < 2)).map pairR) (ea_cons (EvN.ev ?_) ea_nil)) fun v H6 e6 rv => (cf.filter _).any rv.f
        refine ev_lc (f := fun t : Pt × Int => decide (t.1.sum < 2)) (B := pairR) (xs := f) (A := pairR) (srcD_tup (ev_var rfl (TMono.up e7.t rf))) (by rw [sizeLine_eq]; omega) fun t v H6 ht e6 rv => g_pair rv fun u1 u2 q1 q2 => ⟨rfl, rfl, ?_, fun _ => ?_⟩
        · exact et_test (ev_I0 (ev_sumP (ea_cons (ev_var rfl q1) ea_nil)) ev_c)
        · exact ev_tup (ea_cons (ev_var rfl q1) (ea_cons (ev_var rfl q2) ea_nil)) (by show 2 ≤ _; decide)
      have hd7 : lstR (ds.map IsI) dv H7 := Mono.up e7 hd6
      dsimp only [List.set]
      refine sq (s_ifSet (i := 8) (R := anyP p n) (et_test (ev_I0 (ev_mod (ev_int (ea_cons (ev_ixL (n := 11) (Rs := ds.map IsI) (ev_var rfl hd7) ev_c (dat (by omega))) ea_nil)) ev_c (by decide)) ev_c)) rfl ru2 (fun _ H8 e8 => ?_) fun u3 H8 e8 ru3 => ?_)
      · obtain ⟨F, hF⟩ := ru2
        have hF8 : polyR p n F u2 H8 := TMono.up e8.t hF
        have hx8 : ptR pt xv H8 := TMono.up (e6.trans (e7.trans e8)).t hx'
        exact Ev.imp (ev_call (R := polyR p n fun x => F x - F pt % (p : Int)) (ea_cons (ev_is rfl) (ea_cons (ev_var rfl hF8) (ea_cons (ev_call (R := polyR p n fun _ => F pt % (p : Int)) (ea_cons (ev_is rfl) (ea_cons (ev_is rfl) (ea_cons (ev_call (R := IsI (F pt % p)) (ea_cons (ev_is rfl) (ea_cons (ev_var rfl hF8) (ea_cons (ev_var rfl hx8) ea_nil))) fun vs H1 Q E h => ⟨p, n, F, pt, S, hptm, h⟩) ea_nil))) fun vs H1 Q E h => ⟨p, n, _, S, h⟩) ea_nil))) fun vs H1 Q E h => ⟨p, n, F, _, S, h⟩) fun v H9 e9 rv => ⟨_, rv⟩
      obtain ⟨F, hF⟩ := ru3
      have up8 := e'.trans (e6.trans (e7.trans e8))
      have hl8 := up8.at hl
      dsimp only [List.set]
      refine s_app (R := polyR p n F) hl8 (ev_is rfl) (ev_var rfl hF) (by rw [hall.length, List.length_map, sizeLine_eq]; omega) fun v H9 e9 rv => ?_
      have h9 := e9.at hl8
      have t9 : TEx H9 (upd H9 pf (.lst (us ++ [v]))) := TEx.upd h9 trivial
      refine ⟨(e0.trans (up8.trans e9)).mut hpf h9 trivial, (t0.trans (up8.trans e9).t).trans t9, _, _, _, _, us ++ [v], Gs ++ [F], rfl, upd_same, by rw [List.length_append, hGl]; rfl, ?_⟩
      rw [List.map_append]
      exact (All.upT ((up8.trans e9).t.trans t9) hall).snoc (TMono.up t9 rv)
    · obtain ⟨v7, v8, v9, v10, us, Gs, rfl, hl, hGl, hall⟩ := pv
      rw [List.length_range] at hGl
      dsimp only
      exact s_ret (ev_var rfl (R := eqsR p n) ⟨Gs, by omega, pf, us, rfl, hl, hall⟩) fun v H5 e5 rv => k v H5 (e1.trans (e2.trans (e3.trans (e'.trans e5)))) rv
  case len => obtain ⟨p, n, c, _, r, _⟩ := h; exact r.length
abbrev n_law_start : List Str := ["_law_prime", "_law_count", "_law_cell_here", "_law_equations_here", "_law_points_here", "_law_point", "_law_k"]
theorem sc_law_start : FnScope n_law_start ["_law_prime", "_law_count", "_law_cell_here"] (defScope s_law_start) := ⟨rfl, rfl, rfl, by decide +kernel, rfl, by decide +kernel, by decide +kernel⟩
theorem bd_law_start : BindB "_law_start" "_law_start" s_law_start ["_law_prime", "_law_count", "_law_cell_here"] := fun _ _ _ _ _ _ us hl => match us, hl with | [_, _, _], _ => rfl

def sp_law_start (_ : PySem.W.Frag) : Sp := fun vs H Q E => ∃ (p n : Nat) (c : Int), Shape p n ∧ SpR [IsI p, IsI n, IsI c] (eqsR p n) vs H Q E
abbrev G_law_start (P : Program) (w : World) (K : PySem.W.Frag) (mg : Str → Option Value) (base : Heap) : Prop := GFn P w K mg base "_law_start" 5 ["_law_prime", "_law_count", "_law_cell_here"] (sp_law_start K)

theorem ok_law_start (T : TopF K mg) (g_law_constant : G_law_constant P w K mg base) (g_law_equations : G_law_equations P w K mg base) (g_law_minus : G_law_minus P w K mg base) (g_law_points : G_law_points P w K mg base) (g_law_unknown : G_law_unknown P w K mg base) : G_law_start P w K mg base := by
  refine T.d_law_start.fn sc_law_start bd_law_start (fun vs H Q E h => ?len) fun f cdv A outer s H vs Q E hr h => ?walk
  case walk =>
    have hu := room1 hr
    have hu3 := room3 hr
    have hu64 := hr.units
    have hu65 := room65 hr
    refine ⟨_, (pss_cons (ps_set (i := 3) sc_law_start.nd rfl (Or.inl rfl) (pe_fn g_law_equations hr (by decide) (by rfl) (pa_cons (pv 0) (pa_cons (pv 1) (pa_cons (pv 2) pa_nil)))))
      (pss_cons (ps_set (i := 4) sc_law_start.nd rfl (Or.inl rfl) (pe_fn g_law_points hr (by decide) (by rfl) (pa_cons (pv 0) (pa_cons (pv 1) pa_nil))))
      (pss_cons (ps_if (pt_cmpR op_gt (pe_op op_mod (pe_callTy call_int1 (by rfl) T.b_int (by decide +kernel) (pa_cons (pv 2) pa_nil)) pe_int) pe_int (nomark _)) (pss_cons (ps_set (i := 5) sc_law_start.nd rfl (Or.inl rfl) (pe_ix (k_ixL (K := K) rfl) (pv 4) (pe_op op_mod (pe_callTy call_int1 (by rfl) T.b_int (by decide +kernel) (pa_cons (pe_op op_fdiv (pv 2) pe_int) pa_nil)) (pe_callB (k_len (K := K) rfl) (by rfl) T.b_len (by decide +kernel) (pa_cons (pv 4) pa_nil))) (fun _ _ => rfl)))
      (pss_cons (ps_set (i := 3) sc_law_start.nd rfl (Or.inl rfl) (pe_lst pa_nil))
      (pss_one (ps_for PassesOwn.never rfl (pi_range1 (by rfl) T.b_range (pa_cons (pe_op op_sub (pv 1) (pe_op op_fdiv (pe_op op_mod (pe_callTy call_int1 (by rfl) T.b_int (by decide +kernel) (pa_cons (pv 2) pa_nil)) pe_int) pe_int)) pa_nil)) (pg_name (i := 6) sc_law_start.nd rfl (Or.inl rfl))
      (pss_one (ps_expr (pe_bm PySem.F.plainAttrs_list PySem.F.slot_list_append PySem.F.type_list_append mt_append (pv 3) (pa_cons (pe_fn g_law_minus hr (by decide) (by rfl) (pa_cons (pv 0) (pa_cons (pe_fn g_law_unknown hr (by decide) (by rfl) (pa_cons (pv 1) (pa_cons (pv 6) pa_nil))) (pa_cons (pe_fn g_law_constant hr (by decide) (by rfl) (pa_cons (pv 0) (pa_cons (pv 1) (pa_cons (pe_ix (k_ixT (K := K) rfl) (pv 5) (pv 6) (fun _ _ => rfl)) pa_nil)))) pa_nil)))) pa_nil)))))))) pss_nil)
      (pss_one (ps_ret (pv 3)))))), ?_⟩
    obtain ⟨p, n, c, S, r, k⟩ := h
    obtain ⟨_, _, _, rfl, rfl, rfl, rfl⟩ := All.l3 r
    have hp := S.p
    have hn := S.n
    have hpos : 0 < (pts p n).length := by rw [pts_length]; exact Nat.pow_pos (by omega)
    refine sq (s_set (R := eqsR p n) (ev_call (ea_cons (ev_is rfl) (ea_cons (ev_is rfl) (ea_cons (ev_is rfl) ea_nil))) fun vs H1 Q E h => ⟨p, n, c, S, h⟩) fun ev H1 e1 re => ?_)
    dsimp only [List.set]
    refine sq (s_set (R := lstR ((pts p n).map ptR)) (EvN.ev (ev_callN (ea_cons (ev_is rfl) (ea_cons (ev_is rfl) ea_nil)) fun vs H1 Q E h => ⟨p, n, S, h⟩)) fun pv H2 e2 rp => ?_)
    obtain ⟨j0, pt, hj0, hpt, hptm⟩ := pick hpos (c / 3)
    have lenP : ∀ {v : V} {H1 : Hp}, lstR ((pts p n).map ptR) v H1 → LenV K v H1 (pts p n).length := fun r => by
      have h := len_lst (K := K) r
      rw [List.length_map] at h
      exact h
    have hc3 : 0 ≤ c % 3 ∧ c % 3 < 3 := ⟨Int.emod_nonneg _ (by decide), Int.emod_lt_of_pos _ (by decide)⟩
    dsimp only [List.set]
    refine sq (s_if (b := decide (c % 3 > 0)) (et_test (ev_I0 (ev_mod (ev_int (ea_cons (ev_is rfl) ea_nil)) ev_c (by decide)) ev_c)) (fun hb H3 e3 => ?_) fun hb H3 e3 => s_next ?_)
    · have rp3 : lstR ((pts p n).map ptR) pv H3 := Mono.up e3 rp
      refine sq (s_set (R := ptR pt) (ev_ixL (n := j0) (ev_var rfl rp3) (Ev.to (ev_mod (ev_int (ea_cons (ev_fdiv (ev_is rfl) ev_c ⟨by decide, by decide⟩) ea_nil)) (ev_len (ea_cons (ev_var rfl rp3) ea_nil) fun v H1 r => lenP r) (by omega)) (by rw [hj0])) (by rw [List.getElem?_map, hpt]; rfl)) fun xv H4 e4 rx => ?_)
      dsimp only [List.set]
      refine sq (s_setN (ev_lst ea_nil (by show 0 ≤ _; decide)) fun pf vf H5 hpf e5 h5 r5 => ?_)
      obtain rfl := All.l0 r5
      obtain ⟨m, hm, hme⟩ : ∃ m : Nat, m ≤ n ∧ (n : Int) - c % 3 / 2 = (m : Int) := ⟨((n : Int) - c % 3 / 2).toNat, by omega, by omega⟩
      have iy := mem_pts.mp hptm
      dsimp only [List.set]
      refine s_forB (Hb := H4) (srcB_range (n := m) (ea_cons (Ev.to (ev_I0 (ev_is rfl) (ev_fdiv (ev_mod (ev_int (ea_cons (ev_is rfl) ea_nil)) ev_c (by decide)) ev_c ⟨by decide, by decide⟩)) (by rw [hme])) ea_nil) (by omega)) e5 (fun i σ' H' => ∃ (v6 : Option V) (us : List V) (Gs : List (Pt → Int)), σ' = [some (.int p), some (.int n), some (.int c), some (.ref pf), some pv, some xv, v6] ∧ H' pf = some (.lst us) ∧ Gs.length = i ∧ All (Gs.map (polyR p n)) us H') (fun H6 e6 => ⟨none, [], [], rfl, e6.at h5, rfl, .nil⟩) (fun H6 i a x σ' H0 H' ha e6 e0 t0 pv e' hx => ?_) fun σ' H' e' t' pv => ?_
      · obtain ⟨v6, us, Gs, rfl, hl, hGl, hall⟩ := pv
        obtain rfl : x = .int a := hx
        have hi := (List.getElem?_eq_some_iff.mp ha).1
        rw [List.length_range] at hi
        obtain rfl : i = a := by rw [List.getElem?_range hi] at ha; exact Option.some.inj ha
        have hin : i < n := by omega
        have hjy : i < pt.length := by rw [iy.1]; exact hin
        have gy : pt[i]? = some pt[i] := List.getElem?_eq_getElem hjy
        have hl' := e'.at hl
        dsimp only [gName, List.set]
        refine s_app (R := polyR p n fun z => z[i]?.getD 0 - pt[i]) hl' (ev_is rfl) (ev_call (ea_cons (ev_is rfl) (ea_cons (ev_call (R := polyR p n fun z => z[i]?.getD 0) (ea_cons (ev_is rfl) (ea_cons (ev_is rfl) ea_nil)) fun vs H1 Q E h => ⟨p, n, i, S, hin, h⟩) (ea_cons (ev_call (R := polyR p n fun _ => pt[i]) (ea_cons (ev_is rfl) (ea_cons (ev_is rfl) (ea_cons (ev_ixP (n := i) (i := pt[i]) (ev_var rfl (TMono.up (e0.trans e').t rx)) (ev_is rfl) gy) ea_nil))) fun vs H1 Q E h => ⟨p, n, _, S, h⟩) ea_nil))) fun vs H1 Q E h => ⟨p, n, _, _, S, h⟩) (by rw [hall.length, List.length_map, sizeLine_eq]; omega) fun v H9 e9 rv => ?_
        have h9 := e9.at hl'
        have t9 : TEx H9 (upd H9 pf (.lst (us ++ [v]))) := TEx.upd h9 trivial
        have ex := e'.trans e9
        refine ⟨(e0.trans ex).mut hpf h9 trivial, (t0.trans ex.t).trans t9, some (.int i), us ++ [v], Gs ++ [fun z => z[i]?.getD 0 - pt[i]], rfl, upd_same, by rw [List.length_append, hGl]; rfl, ?_⟩
        rw [List.map_append]
        exact (All.upT (ex.t.trans t9) hall).snoc (TMono.up t9 rv)
      · obtain ⟨v6, us, Gs, rfl, hl, hGl, hall⟩ := pv
        rw [List.length_range] at hGl
        dsimp only
        exact s_ret (ev_var rfl (R := eqsR p n) ⟨Gs, by omega, pf, us, rfl, hl, hall⟩) fun v H6 e6 rv => k v H6 (e1.trans (e2.trans (e3.trans (e4.trans (e'.trans e6))))) rv
    · dsimp only
      exact s_ret (ev_var rfl (Mono.up (e2.trans e3) re)) fun v H4 e4 rv => k v H4 (e1.trans (e2.trans (e3.trans e4))) rv
  case len => obtain ⟨p, n, c, _, r, _⟩ := h; exact r.length
end SP
end
section
set_option Elab.async false
set_option linter.all false
set_option maxRecDepth 100000
set_option maxHeartbeats 4000000
namespace SP
open PySem PyProof.Rows L2
variable {P : Program} {w : World} {K : PySem.W.Frag} {mg : Str → Option Value} {base : Heap}
abbrev n_law_safe_shown : List Str := ["_law_prime", "_law_count", "_law_equations_here", "_law_step_here", "_law_bad", "_law_answer", "_law_invariant", "_law_first", "_law_kept", "_law_apart", "_law_k", "_law_one"]
theorem sc_law_safe_shown : FnScope n_law_safe_shown ["_law_prime", "_law_count", "_law_equations_here", "_law_step_here", "_law_bad", "_law_answer"] (defScope s_law_safe_shown) := ⟨rfl, rfl, rfl, by decide +kernel, rfl, by decide +kernel, by decide +kernel⟩
theorem bd_law_safe_shown : BindB "_law_safe_shown" "_law_safe_shown" s_law_safe_shown ["_law_prime", "_law_count", "_law_equations_here", "_law_step_here", "_law_bad", "_law_answer"] := fun _ _ _ _ _ _ us hl => match us, hl with | [_, _, _, _, _, _], _ => rfl

def sp_law_safe_shown (_ : PySem.W.Frag) : Sp := fun vs H Q E => ∃ (p n : Nat) (Es Gs Bs Fs : List (Pt → Int)) (As Ks : List (List (Pt → Int))) (Cs : List (Pt → Int)), Shape p n ∧ Es.length ≤ 500 ∧ Gs.length = n ∧ Bs.length ≤ 500 ∧ SafeOk p n Es Gs Bs Fs As Ks Cs ∧ SpR [IsI p, IsI n, lstR (Es.map (polyR p n)), lstR (Gs.map (polyR p n)), lstR (Bs.map (polyR p n)), tupR [lstR (Fs.map (polyR p n)), llR p n As, llR p n Ks, lstR (Cs.map (polyR p n))]] (IsB true) vs H Q E
abbrev G_law_safe_shown (P : Program) (w : World) (K : PySem.W.Frag) (mg : Str → Option Value) (base : Heap) : Prop := GFn P w K mg base "_law_safe_shown" 6 ["_law_prime", "_law_count", "_law_equations_here", "_law_step_here", "_law_bad", "_law_answer"] (sp_law_safe_shown K)

theorem ll_at {p n : Nat} {As : List (List (Pt → Int))} {j : Nat} {A : List (Pt → Int)} (h : As[j]? = some A) : (As.map fun A => lstR (A.map (polyR p n)))[j]? = some (lstR (A.map (polyR p n))) := by
  rw [List.getElem?_map, h]
  rfl
theorem ok_law_safe_shown (T : TopF K mg) (g_law_constant : G_law_constant P w K mg base) (g_law_is_polynomial : G_law_is_polynomial P w K mg base) (g_law_replaced : G_law_replaced P w K mg base) (g_law_shows : G_law_shows P w K mg base) : G_law_safe_shown P w K mg base := by
  refine T.d_law_safe_shown.fn sc_law_safe_shown bd_law_safe_shown (fun vs H Q E h => ?len) fun f cdv A outer s H vs Q E hr h => ?walk
  case walk =>
    have hu := room1 hr
    have hu3 := room3 hr
    have hu64 := hr.units
    have hu65 := room65 hr
    refine ⟨_, (pss_cons (ps_asg (pv 5) (pg_tup rfl (pgs_cons (pg_name (i := 6) sc_law_safe_shown.nd rfl (Or.inl rfl)) (pgs_cons (pg_name (i := 7) sc_law_safe_shown.nd rfl (Or.inl rfl)) (pgs_cons (pg_name (i := 8) sc_law_safe_shown.nd rfl (Or.inl rfl)) (pgs_cons (pg_name (i := 9) sc_law_safe_shown.nd rfl (Or.inl rfl)) pgs_nil))))))
      (pss_cons (ps_if (pt_not (pt_val (pe_callB (k_all (K := K) rfl rfl) (by rfl) T.b_all (by decide +kernel) (pa_cons (pe_lc (own := [("_law_one", 11)]) (g := (gName 11)) (by rfl) sc_law_safe_shown.nd (k_piL (K := K) rfl (pv 6)) (blkOk_by (own := [("_law_one", 11)]) (N := n_law_safe_shown) (sc := defScope s_law_safe_shown) (by decide +kernel)) (fun _ _ _ _ _ => (pg_name (i := 11) sc_law_safe_shown.nd rfl (Or.inl rfl))) (fun _ _ _ _ _ => pts_nil) (fun _ _ _ _ _ => (pe_fn g_law_is_polynomial hr (by decide) (by rfl) (pa_cons (pv 0) (pa_cons (pv 1) (pa_cons (pv 11) pa_nil)))))) pa_nil)))) (pss_one (ps_ret pe_bl)) pss_nil)
      (pss_cons (ps_if (PW.pt (pw_or (pt_cmpR op_ne (pe_callB (k_len (K := K) rfl) (by rfl) T.b_len (by decide +kernel) (pa_cons (pv 7) pa_nil)) (pe_callB (k_len (K := K) rfl) (by rfl) T.b_len (by decide +kernel) (pa_cons (pv 6) pa_nil)) (nomark _)) (pw_or1 (pt_cmpR op_ne (pe_callB (k_len (K := K) rfl) (by rfl) T.b_len (by decide +kernel) (pa_cons (pv 8) pa_nil)) (pe_callB (k_len (K := K) rfl) (by rfl) T.b_len (by decide +kernel) (pa_cons (pv 6) pa_nil)) (nomark _))))) (pss_one (ps_ret pe_bl)) pss_nil)
      (pss_cons (ps_for PassesOwn.never rfl (pi_range1 (by rfl) T.b_range (pa_cons (pe_callB (k_len (K := K) rfl) (by rfl) T.b_len (by decide +kernel) (pa_cons (pv 6) pa_nil)) pa_nil)) (pg_name (i := 10) sc_law_safe_shown.nd rfl (Or.inl rfl))
      (pss_cons (ps_if (pt_not (pt_val (pe_fn g_law_shows hr (by decide) (by rfl) (pa_cons (pv 0) (pa_cons (pv 1) (pa_cons (pv 2) (pa_cons (pe_ix (k_ixL (K := K) rfl) (pv 6) (pv 10) (fun _ _ => rfl)) (pa_cons (pe_ix (k_ixL (K := K) rfl) (pv 7) (pv 10) (fun _ _ => rfl)) pa_nil)))))))) (pss_one (ps_ret pe_bl)) pss_nil)
      (pss_one (ps_if (pt_not (pt_val (pe_fn g_law_shows hr (by decide) (by rfl) (pa_cons (pv 0) (pa_cons (pv 1) (pa_cons (pv 6) (pa_cons (pe_fn g_law_replaced hr (by decide) (by rfl) (pa_cons (pv 0) (pa_cons (pv 1) (pa_cons (pe_ix (k_ixL (K := K) rfl) (pv 6) (pv 10) (fun _ _ => rfl)) (pa_cons (pv 3) pa_nil))))) (pa_cons (pe_ix (k_ixL (K := K) rfl) (pv 8) (pv 10) (fun _ _ => rfl)) pa_nil)))))))) (pss_one (ps_ret pe_bl)) pss_nil))))
      (pss_one (ps_ret (pe_fn g_law_shows hr (by decide) (by rfl) (pa_cons (pv 0) (pa_cons (pv 1) (pa_cons (pe_op op_cat (pv 6) (pv 4)) (pa_cons (pe_fn g_law_constant hr (by decide) (by rfl) (pa_cons (pv 0) (pa_cons (pv 1) (pa_cons pe_int pa_nil)))) (pa_cons (pv 9) pa_nil)))))))))))), ?_⟩
    obtain ⟨p, n, Es, Gs, Bs, Fs, As, Ks, Cs, S, hE, hG, hB, ok, r, k⟩ := h
    obtain ⟨_, _, a3, a4, a5, a6, rfl, rfl, rfl, r3, r4, r5, r6⟩ := All.l6 r
    have hFl := ok.len
    have lenL : ∀ {Rs : List RS} {m : Nat} {v : V} {H1 : Hp}, Rs.length = m → lstR Rs v H1 → LenV K v H1 m := fun e r => e ▸ len_lst (K := K) r
    refine sq (s_asg (ev_var rfl r6) fun v H1 e1 rv => g_quad rv fun x1 x2 x3 x4 q1 q2 q3 q4 => ?_)
    have r31 := Mono.up e1 r3
    have r41 := Mono.up e1 r4
    have r51 := Mono.up e1 r5
    dsimp only [List.set]
    refine sq (s_if (b := false) (EvT.to (et_not (et_test (ev_all (bs := Fs.map fun _ => true) (ea_cons (EvN.ev (ev_lc2v (C := IsB) (val := fun _ : Pt → Int => true) (xs := Fs) (A := polyR p n) (srcD_list (ev_var rfl q1)) (by rw [sizeLine_eq]; omega) fun G v H3 hG3 e3 rv => ⟨rfl, rfl, ?_⟩)) ea_nil)))) (by rw [List.all_map]; simp)) (fun hb => by cases hb) fun hb H2 e2 => s_next ?_)
    · obtain ⟨f, cf, vf, rf⟩ := rv
      exact ev_call (ea_cons (ev_is rfl) (ea_cons (ev_is rfl) (ea_cons (ev_var rfl rf) ea_nil))) fun vs H1 Q E h => ⟨p, n, f, S, cf, h⟩
    have q12 := Mono.up e2 q1
    have q22 := Mono.up e2 q2
    have q32 := Mono.up e2 q3
    have q42 := Mono.up e2 q4
    have r32 := Mono.up e2 r31
    have r42 := Mono.up e2 r41
    have r52 := Mono.up e2 r51
    dsimp only
    refine sq (s_if (b := false) (EvT.to (et_or (a := false) (b := false) (EvT.to (et_test (ev_neS (x := .int Fs.length) (y := .int Fs.length) (ev_len (ea_cons (ev_var rfl q22) ea_nil) fun v H1 r => lenL (by rw [List.length_map, ok.la]) r) (ev_len (ea_cons (ev_var rfl q12) ea_nil) fun v H1 r => lenL (by rw [List.length_map]) r) rfl)) (by simp)) fun _ => EvT.to (et_test (ev_neS (x := .int Fs.length) (y := .int Fs.length) (ev_len (ea_cons (ev_var rfl q32) ea_nil) fun v H1 r => lenL (by rw [List.length_map, ok.lk]) r) (ev_len (ea_cons (ev_var rfl q12) ea_nil) fun v H1 r => lenL (by rw [List.length_map]) r) rfl)) (by simp)) rfl) (fun hb => by cases hb) fun hb H3 e3 => s_next ?_)
    have q13 := Mono.up e3 q12
    have q23 := Mono.up e3 q22
    have q33 := Mono.up e3 q32
    have q43 := Mono.up e3 q42
    have r33 := Mono.up e3 r32
    have r43 := Mono.up e3 r42
    have r53 := Mono.up e3 r52
    dsimp only
    refine sq (s_forD (srcD_range (n := Fs.length) (ea_cons (ev_len (ea_cons (ev_var rfl q13) ea_nil) fun v H1 r => lenL (by rw [List.length_map]) r) ea_nil) (by omega)) (fun i σ' H' => ∃ (v10 v11 : Option V), σ' = [some (.int p), some (.int n), some a3, some a4, some a5, some a6, some x1, some x2, some x3, some x4, v10, v11]) (fun H4 e4 => ⟨none, none, rfl⟩) (fun H4 i a x σ' H0 H' ha e4 e0 pv e' hx => ?_) fun σ' H' e' pv => ?_)
    · obtain ⟨v10, v11, rfl⟩ := pv
      obtain rfl : x = .int a := hx
      have hi := (List.getElem?_eq_some_iff.mp ha).1
      rw [List.length_range] at hi
      obtain rfl : i = a := by rw [List.getElem?_range hi] at ha; exact Option.some.inj ha
      have hF := List.getElem?_eq_getElem hi
      obtain ⟨A1, hA⟩ : ∃ A1, As[i]? = some A1 := ⟨_, List.getElem?_eq_getElem (show i < As.length by rw [ok.la]; exact hi)⟩
      obtain ⟨K1, hK⟩ : ∃ K1, Ks[i]? = some K1 := ⟨_, List.getElem?_eq_getElem (show i < Ks.length by rw [ok.lk]; exact hi)⟩
      have fat : (Fs.map (polyR p n))[i]? = some (polyR p n Fs[i]) := by rw [List.getElem?_map, hF]; rfl
      have zA := List.mem_of_getElem? (zip_at hF hA)
      have zK := List.mem_of_getElem? (zip_at (at_map (f := stepF p Gs) hF) hK)
      have up := e4.trans (e0.trans e')
      dsimp only [gName, List.set]
      refine sq (s_if (b := false) (EvT.to (et_not (et_test (ev_call (R := IsB true) (ea_cons (ev_is rfl) (ea_cons (ev_is rfl) (ea_cons (ev_var rfl (Mono.up up r33)) (ea_cons (ev_ixL (n := i) (ev_var rfl (Mono.up up q13)) (ev_is rfl) fat) (ea_cons (ev_ixL (n := i) (ev_var rfl (Mono.up up q23)) (ev_is rfl) (ll_at hA)) ea_nil))))) fun vs H1 Q E h => ⟨p, n, Es, Fs[i], A1, S, by omega, ok.lA _ (List.mem_of_getElem? hA), ok.dA _ zA, h⟩))) rfl) (fun hb => by cases hb) fun hb H5 e5 => s_next ?_)
      have up5 := up.trans e5
      dsimp only
      refine s_if (b := false) (EvT.to (et_not (et_test (ev_call (R := IsB true) (ea_cons (ev_is rfl) (ea_cons (ev_is rfl) (ea_cons (ev_var rfl (Mono.up up5 q13)) (ea_cons (ev_call (R := polyR p n (stepF p Gs Fs[i])) (ea_cons (ev_is rfl) (ea_cons (ev_is rfl) (ea_cons (ev_ixL (n := i) (ev_var rfl (Mono.up up5 q13)) (ev_is rfl) fat) (ea_cons (ev_var rfl (Mono.up up5 r43)) ea_nil)))) fun vs H1 Q E h => ⟨p, n, Fs[i], Gs, S, hG, h⟩) (ea_cons (ev_ixL (n := i) (ev_var rfl (Mono.up up5 q33)) (ev_is rfl) (ll_at hK)) ea_nil))))) fun vs H1 Q E h => ⟨p, n, Fs, stepF p Gs Fs[i], K1, S, by omega, ok.lK _ (List.mem_of_getElem? hK), ok.dK _ zK, h⟩))) rfl) (fun hb => by cases hb) fun hb H6 e6 => s_next ⟨e0.trans (e'.trans (e5.trans e6)), _, _, rfl⟩
    · obtain ⟨v10, v11, rfl⟩ := pv
      dsimp only
      exact s_ret (ev_call (R := IsB true) (ea_cons (ev_is rfl) (ea_cons (ev_is rfl) (ea_cons (EvN.ev (EvN.cast (Rs' := (Fs ++ Bs).map (polyR p n)) (ev_catL (ev_var rfl (Mono.up e' q13)) (ev_var rfl (Mono.up e' r53)) (by rw [List.length_map, List.length_map, sizeLine_eq]; omega)) (by rw [List.map_append]))) (ea_cons (ev_call (R := polyR p n fun _ => 1) (ea_cons (ev_is rfl) (ea_cons (ev_is rfl) (ea_cons ev_c ea_nil))) fun vs H1 Q E h => ⟨p, n, 1, S, h⟩) (ea_cons (ev_var rfl (Mono.up e' q43)) ea_nil))))) fun vs H1 Q E h => ⟨p, n, Fs ++ Bs, fun _ => 1, Cs, S, by rw [List.length_append]; omega, ok.lc, ok.dC, h⟩) fun v H4 e4 rv => k v H4 (e1.trans (e2.trans (e3.trans (e'.trans e4)))) rv
  case len => obtain ⟨p, n, Es, Gs, Bs, Fs, As, Ks, Cs, _, _, _, _, _, r, _⟩ := h; exact r.length
def itL (f : Pt → Pt) (S : List Pt) : Nat → List Pt
  | 0 => S
  | k + 1 => (itL f S k).map f
theorem mem_itL {f : Pt → Pt} {S : List Pt} : ∀ (j : Nat) (x : Pt), x ∈ itL f S j ↔ Reach f S j x
  | 0, _ => Iff.rfl
  | j + 1, x => by
    show x ∈ (itL f S j).map f ↔ ∃ y, Reach f S j y ∧ f y = x
    rw [List.mem_map]
    exact ⟨fun ⟨y, h1, h2⟩ => ⟨y, (mem_itL j y).mp h1, h2⟩, fun ⟨y, h1, h2⟩ => ⟨y, (mem_itL j y).mpr h1, h2⟩⟩
theorem itL_len {f : Pt → Pt} {S : List Pt} : ∀ j, (itL f S j).length = S.length
  | 0 => rfl
  | j + 1 => by
    show ((itL f S j).map f).length = _
    rw [List.length_map, itL_len j]
theorem itL_in {f : Pt → Pt} {S D : List Pt} (hS : ∀ x ∈ S, x ∈ D) (hf : ∀ x ∈ D, f x ∈ D) : ∀ j, ∀ x ∈ itL f S j, x ∈ D
  | 0, x, h => hS x h
  | j + 1, x, h => by
    obtain ⟨y, hy, rfl⟩ := List.mem_map.mp (show x ∈ (itL f S j).map f from h)
    exact hf y (itL_in hS hf j y hy)
def Few (f : Pt → Pt) (S : List Pt) (bad : Pt → Bool) (r : Nat) : Prop :=
  (r = 0 ∧ ∀ j, j < 30 → ∀ y, Reach f S j y → bad y = false) ∨ ∃ k, r = k + 1 ∧ (∃ y, Reach f S k y ∧ bad y = true) ∧ ∀ j, j < k → ∀ y, Reach f S j y → bad y = false
def fewR (f : Pt → Pt) (S : List Pt) (bad : Pt → Bool) : RS := fun v _ => ∃ r : Nat, v = .int r ∧ Few f S bad r
theorem sol_iff {p n : Nat} {Bs : List (Pt → Int)} {y : Pt} (h : y ∈ pts p n) : decide (y ∈ solsP p n Bs) = solB p Bs y := by
  rw [Bool.eq_iff_iff, decide_eq_true_eq]
  exact ⟨fun h => (List.mem_filter.mp h).2, fun q => List.mem_filter.mpr ⟨h, q⟩⟩
abbrev n_law_fewest : List Str := ["_law_prime", "_law_step_here", "_law_starts", "_law_bad", "_law_here", "_law_k", "_law_point"]
theorem sc_law_fewest : FnScope n_law_fewest ["_law_prime", "_law_step_here", "_law_starts", "_law_bad"] (defScope s_law_fewest) := ⟨rfl, rfl, rfl, by decide +kernel, rfl, by decide +kernel, by decide +kernel⟩
theorem bd_law_fewest : BindB "_law_fewest" "_law_fewest" s_law_fewest ["_law_prime", "_law_step_here", "_law_starts", "_law_bad"] := fun _ _ _ _ _ _ us hl => match us, hl with | [_, _, _, _], _ => rfl

def sp_law_fewest (_ : PySem.W.Frag) : Sp := fun vs H Q E => ∃ (p n : Nat) (Es Gs Bs : List (Pt → Int)), Shape p n ∧ Gs.length = n ∧ SpR [IsI p, lstR (Gs.map (polyR p n)), lstR ((solsP p n Es).map ptR), lstR ((solsP p n Bs).map ptR)] (fewR (stepP p Gs) (solsP p n Es) (solB p Bs)) vs H Q E
abbrev G_law_fewest (P : Program) (w : World) (K : PySem.W.Frag) (mg : Str → Option Value) (base : Heap) : Prop := GFn P w K mg base "_law_fewest" 4 ["_law_prime", "_law_step_here", "_law_starts", "_law_bad"] (sp_law_fewest K)

theorem ok_law_fewest (T : TopF K mg) (g_law_after : G_law_after P w K mg base) : G_law_fewest P w K mg base := by
  refine T.d_law_fewest.fn sc_law_fewest bd_law_fewest (fun vs H Q E h => ?len) fun f cdv A outer s H vs Q E hr h => ?walk
  case walk =>
    have hu := room1 hr
    have hu3 := room3 hr
    have hu64 := hr.units
    have hu65 := room65 hr
    refine ⟨_, (pss_cons (ps_set (i := 4) sc_law_fewest.nd rfl (Or.inl rfl) (pe_callTy (k_list (K := K) rfl) (by rfl) T.b_list (by decide +kernel) (pa_cons (pv 2) pa_nil)))
      (pss_cons (ps_for PassesOwn.never rfl (pi_range1 (by rfl) T.b_range (pa_cons pe_int pa_nil)) (pg_name (i := 5) sc_law_fewest.nd rfl (Or.inl rfl))
      (pss_cons (ps_if (pt_val (pe_callB (k_any (K := K) rfl rfl) (by rfl) T.b_any (by decide +kernel) (pa_cons (pe_lc (own := [("_law_point", 6)]) (g := (gName 6)) (by rfl) sc_law_fewest.nd (k_piL (K := K) rfl (pv 4)) (blkOk_by (own := [("_law_point", 6)]) (N := n_law_fewest) (sc := defScope s_law_fewest) (by decide +kernel)) (fun _ _ _ _ _ => (pg_name (i := 6) sc_law_fewest.nd rfl (Or.inl rfl))) (fun _ _ _ _ _ => pts_nil) (fun _ _ _ _ _ => (pe_cmpR (k_inD (K := K) rfl hu65) (pv 6) (pv 3) rfl))) pa_nil))) (pss_one (ps_ret (pe_op op_add (pv 5) pe_int))) pss_nil)
      (pss_one (ps_setLc (i := 4) (own := [("_law_point", 6)]) (g := (gName 6)) (by rfl) sc_law_fewest.nd rfl rfl (sw_true rfl rfl rfl (by decide +kernel)) (k_piL (K := K) rfl (pv 4)) (blkOk_by (own := [("_law_point", 6)]) (N := n_law_fewest) (sc := defScope s_law_fewest) (by decide +kernel)) (fun _ _ _ _ _ => (pg_name (i := 6) sc_law_fewest.nd rfl (Or.inl rfl))) (fun _ _ _ _ _ => pts_nil) (fun _ _ _ _ _ => (pe_fn g_law_after hr (by decide) (by rfl) (pa_cons (pv 0) (pa_cons (pv 1) (pa_cons (pv 6) pa_nil)))))))))
      (pss_one (ps_ret pe_int)))), ?_⟩
    obtain ⟨p, n, Es, Gs, Bs, S, hG, r, k⟩ := h
    obtain ⟨_, a2, a3, a4, rfl, rfl, r2, r3, r4⟩ := All.l4 r
    have hp := S.p
    have hn := S.n
    have hz := S.pts
    have hSl : (solsP p n Es).length ≤ 27 := Nat.le_trans (List.length_filter_le _ _) hz
    have hin := itL_in (f := stepP p Gs) (S := solsP p n Es) (D := pts p n) (fun x hx => (List.mem_filter.mp hx).1) (fun x _ => step_in (by omega) hG x)
    refine sq (s_setN (ev_lstOf (ea_cons (ev_var rfl r3) ea_nil)) fun ph vh H1 hph e1 h1 r1 => ?_)
    dsimp only [List.set]
    refine sq (s_forD (srcD_range (n := 30) (ea_cons ev_c ea_nil) (by omega)) (fun i σ' H' => ∃ (u : V) (v5 v6 : Option V), σ' = [some (.int p), some a2, some a3, some a4, some u, v5, v6] ∧ lstR ((itL (stepP p Gs) (solsP p n Es) i).map ptR) u H' ∧ ∀ j, j < i → ∀ y, Reach (stepP p Gs) (solsP p n Es) j y → solB p Bs y = false) (fun H2 e2 => ⟨.ref ph, none, none, rfl, ⟨ph, vh, rfl, e2.at h1, All.up e2 r1⟩, fun j hj => absurd hj (Nat.not_lt_zero j)⟩) (fun H2 i a x σ' H0 H' ha e2 e0 pv e' hx => ?_) fun σ' H' e' pv => ?_)
    · obtain ⟨u, v5, v6, rfl, hu, hno⟩ := pv
      obtain rfl : x = .int a := hx
      have hi := (List.getElem?_eq_some_iff.mp ha).1
      rw [List.length_range] at hi
      obtain rfl : i = a := by rw [List.getElem?_range hi] at ha; exact Option.some.inj ha
      have hini := hin i
      have hmi := fun y => mem_itL (f := stepP p Gs) (S := solsP p n Es) i y
      have hli : (itL (stepP p Gs) (solsP p n Es) i).length ≤ 27 := by rw [itL_len]; exact hSl
      have hnext : itL (stepP p Gs) (solsP p n Es) (i + 1) = (itL (stepP p Gs) (solsP p n Es) i).map (stepP p Gs) := rfl
      have up := e1.trans (e2.trans (e0.trans e'))
      have hu' := Mono.up e' hu
      generalize itL (stepP p Gs) (solsP p n Es) i = L at hini hmi hli hnext hu'
      dsimp only [gName, List.set]
      refine sq (s_if (b := L.any (solB p Bs)) (EvT.to (et_test (ev_any (bs := L.map fun y => solB p Bs y) (ea_cons (EvN.ev (ev_lc2v (C := IsB) (val := fun y => solB p Bs y) (xs := L) (A := ptR) (srcD_list (ev_var rfl hu')) (by rw [sizeLine_eq]; omega) fun y v H3 hy e3 rv => ⟨rfl, rfl, Ev.to (ev_inP (xs := solsP p n Bs) (ev_var rfl rv) (ev_var rfl (Mono.up (up.trans e3) r4))) (by rw [sol_iff (hini y hy)])⟩)) ea_nil))) (by rw [List.any_map]; rfl)) (fun hb H3 e3 => ?_) fun hb H3 e3 => s_next ?_)
      · obtain ⟨y, hy, hyb⟩ := List.any_eq_true.mp hb
        exact s_ret (ev_I0 (ev_is rfl) ev_c) fun v H4 e4 rv => k v H4 (up.trans (e3.trans e4)) ⟨i + 1, rv, .inr ⟨i, rfl, ⟨y, (hmi y).mp hy, hyb⟩, hno⟩⟩
      · dsimp only
        refine s_set (R := lstR ((L.map (stepP p Gs)).map ptR)) (EvN.ev (ev_lc2v (C := ptR) (val := stepP p Gs) (xs := L) (A := ptR) (srcD_list (ev_var rfl (Mono.up e3 hu'))) (by rw [sizeLine_eq]; omega) fun y v H4 hy e4 rv => ⟨rfl, rfl, ev_call (ea_cons (ev_is rfl) (ea_cons (ev_var rfl (Mono.up (up.trans (e3.trans e4)) r2)) (ea_cons (ev_var rfl rv) ea_nil))) fun vs H1 Q E h => ⟨p, n, Gs, y, S, by omega, hini y hy, h⟩⟩)) fun v H4 e4 rv => ?_
        refine ⟨e0.trans (e'.trans (e3.trans e4)), v, _, _, rfl, by rw [hnext]; exact rv, fun j hj y hy => ?_⟩
        by_cases hji : j < i
        · exact hno j hji y hy
        · obtain rfl : j = i := by omega
          cases hyb : solB p Bs y with
          | false => rfl
          | true =>
            have : L.any (solB p Bs) = true := List.any_eq_true.mpr ⟨y, (hmi y).mpr hy, hyb⟩
            rw [hb] at this
            cases this
    · obtain ⟨u, v5, v6, rfl, hu, hno⟩ := pv
      rw [List.length_range] at hno
      dsimp only
      exact s_ret ev_c fun v H3 e3 rv => k v H3 (e1.trans (e'.trans e3)) ⟨0, rv, .inl ⟨rfl, hno⟩⟩
  case len => obtain ⟨p, n, Es, Gs, Bs, _, _, r, _⟩ := h; exact r.length
end SP
end
section
set_option Elab.async false
set_option linter.all false
set_option maxRecDepth 100000
set_option maxHeartbeats 4000000
namespace SP
open PySem PyProof.Rows L2
variable {P : Program} {w : World} {K : PySem.W.Frag} {mg : Str → Option Value} {base : Heap}
instance {p n : Nat} {Es Gs Bs : List (Pt → Int)} : Mono (ansR p n Es Gs Bs) := ⟨fun e h => h.imp (fun ⟨x, l, run, ra, r⟩ => ⟨x, l, run, ra, Mono.up e r⟩) fun ⟨hno, Fs, As, Ks, Cs, ok, r⟩ => ⟨hno, Fs, As, Ks, Cs, ok, Mono.up e r⟩⟩
theorem path_at {f : Pt → Pt} {run : List Pt} (h : PathF f run) {i : Nat} {y z : Pt} (hy : run[i]? = some y) (hz : run[i + 1]? = some z) : f y = z := by
  refine path_zip h (y, z) (List.mem_of_getElem? (zip_at hy ?_))
  rw [List.getElem?_drop, Nat.add_comm]
  exact hz
theorem run_reach {f : Pt → Pt} {S : List Pt} {x : Pt} {l : Nat} {run : List Pt} (R : RunOk f S x l run) : Reach f S l x := by
  have q : ∀ i y, run[i]? = some y → Reach f S i y := by
    intro i
    induction i with
    | zero =>
      intro y hy
      obtain ⟨s, hs, hh⟩ := R.start
      rw [List.head?_eq_getElem?, hy] at hh
      cases hh
      exact hs
    | succ i ih =>
      intro y hy
      have hi : i < run.length := by have := (List.getElem?_eq_some_iff.mp hy).1; omega
      have hz := List.getElem?_eq_getElem hi
      exact ⟨_, ih _ hz, path_at R.path hz hy⟩
  refine q l x ?_
  have h := R.last
  rw [List.getLast?_eq_getElem?, R.len] at h
  exact h
abbrev n_law : List Str := ["_law_script", "_law_prime", "_law_count", "_law_space", "_law_equations_here", "_law_step_here", "_law_bad", "_law_machine", "_law_other", "_law_answer", "_law_starts", "_law_bad_points", "_law_fewest_here", "_law_run", "_law_k"]
theorem sc_law : FnScope n_law ["_law_script"] (defScope s_law) := ⟨rfl, rfl, rfl, by decide +kernel, rfl, by decide +kernel, by decide +kernel⟩
theorem bd_law : BindB "law" "law" s_law ["_law_script"] := fun _ _ _ _ _ _ us hl => match us, hl with | [_], _ => rfl

def sp_law (K : PySem.W.Frag) : Sp := fun vs H Q E => ∃ (a : Addr) (ns : List Int), vs = [.ref a] ∧ LamX.TabS H (PL K) LQ ∧ SqL K H a (ns.map V.int) ∧ ∀ v H', v = .bl true → Q v H'
abbrev G_law (P : Program) (w : World) (K : PySem.W.Frag) (mg : Str → Option Value) (base : Heap) : Prop := GFn P w K mg base "law" 11 ["_law_script"] (sp_law K)

theorem law_c (T : TopF K mg) (g_law_after : G_law_after P w K mg base) (g_law_safe_shown : G_law_safe_shown P w K mg base) {f : Addr} {cdv : Value} {A : Around} {outer : List Env} {s : Shared} {H : Hp} {E : XK} (hr : Room 10 (A.deeper (envOfC "law" (defScope s_law) s.heap.objs.size f cdv))) :
    ∃ t, PSs (cxOf CX0 P w K mg base n_law "law" (defScope s_law) f cdv A outer s H E).nox ((defBody s_law).drop 12) t ∧ ∀ (Q : VK) (a : Addr) (p n r : Nat) (Es Gs Bs : List (Pt → Int)) (sp ve vg vb vm vo va vst vbp : V) (H12 : Hp), (∀ v H', v = .bl true → Q v H') → Shape p n → Es.length ≤ 4 → Gs.length = n → Bs.length ≤ 4 → Few (stepP p Gs) (solsP p n Es) (solB p Bs) r →
      ansR p n Es Gs Bs va H12 → lstR (Es.map (polyR p n)) ve H12 → lstR (Gs.map (polyR p n)) vg H12 → lstR (Bs.map (polyR p n)) vb H12 → lstR ((solsP p n Es).map ptR) vst H12 → lstR ((solsP p n Bs).map ptR) vbp H12 →
      t { nx := fun _ H' => Q .non H', rt := Q } [some (.ref a), some (.int p), some (.int n), some sp, some ve, some vg, some vb, some vm, some vo, some va, some vst, some vbp, some (.int r), none, none] H12 := by
  have hu := room1 hr
  have hu3 := room3 hr
  have hu64 := hr.units
  have hu65 := room65 hr
  refine ⟨_, (pss_cons (ps_if (pt_cmpR op_eq (pv 12) pe_int (nomark _)) (pss_cons (ps_if (PW.pt (pw_or (pt_cmpR op_ne (pe_callB (k_len (K := K) rfl) (by rfl) T.b_len (by decide +kernel) (pa_cons (pv 9) pa_nil)) pe_int (nomark _)) (pw_or1 (pt_cmpR op_ne (pe_ix (k_ixT (K := K) rfl) (pv 9) pe_int (fun _ _ => rfl)) pe_str (nomark _))))) (pss_one (ps_ret pe_bl)) pss_nil)
      (pss_one (ps_ret (pe_fn g_law_safe_shown hr (by decide) (by rfl) (pa_cons (pv 1) (pa_cons (pv 2) (pa_cons (pv 4) (pa_cons (pv 5) (pa_cons (pv 6) (pa_cons (pe_slice (k_slA (K := K) rfl) (pv 9) (po_some pe_int) po_none) pa_nil)))))))))) pss_nil)
      (pss_cons (ps_if (PW.pt (pw_or (pt_cmpR op_ne (pe_callB (k_len (K := K) rfl) (by rfl) T.b_len (by decide +kernel) (pa_cons (pv 9) pa_nil)) pe_int (nomark _)) (pw_or (pt_cmpR op_ne (pe_ix (k_ixT (K := K) rfl) (pv 9) pe_int (fun _ _ => rfl)) pe_str (nomark _)) (pw_or1 (pt_cmpR op_ne (pe_callB (k_len (K := K) rfl) (by rfl) T.b_len (by decide +kernel) (pa_cons (pe_ix (k_ixT (K := K) rfl) (pv 9) pe_int (fun _ _ => rfl)) pa_nil)) (pv 12) (nomark _)))))) (pss_one (ps_ret pe_bl)) pss_nil)
      (pss_cons (ps_set (i := 13) sc_law.nd rfl (Or.inr rfl) (pe_ix (k_ixT (K := K) rfl) (pv 9) pe_int (fun _ _ => rfl)))
      (pss_cons (ps_if (PW.pt (pw_or (pt_cmpR (k_notInD (K := K) rfl hu65) (pe_ix (k_ixL (K := K) rfl) (pv 13) pe_int (fun _ _ => rfl)) (pv 10) rfl) (pw_or1 (pt_cmpR (k_notInD (K := K) rfl hu65) (pe_ix (k_ixL (K := K) rfl) (pv 13) (pe_op op_sub (pv 12) pe_int) (fun _ _ => rfl)) (pv 11) rfl)))) (pss_one (ps_ret pe_bl)) pss_nil)
      (pss_one (ps_ret (pe_callB (k_all (K := K) rfl rfl) (by rfl) T.b_all (by decide +kernel) (pa_cons (pe_lc (own := [("_law_k", 14)]) (g := (gName 14)) (by rfl) sc_law.nd (pi_range1 (by rfl) T.b_range (pa_cons (pe_op op_sub (pv 12) pe_int) pa_nil)) (blkOk_by (own := [("_law_k", 14)]) (N := n_law) (sc := defScope s_law) (by decide +kernel)) (fun _ _ _ _ _ => (pg_name (i := 14) sc_law.nd rfl (Or.inl rfl))) (fun _ _ _ _ _ => pts_nil) (fun _ _ _ _ _ => (pe_cmpR (k_eqD (K := K) rfl hu64) (pe_fn g_law_after hr (by decide) (by rfl) (pa_cons (pv 1) (pa_cons (pv 5) (pa_cons (pe_ix (k_ixL (K := K) rfl) (pv 13) (pv 14) (fun _ _ => rfl)) pa_nil)))) (pe_ix (k_ixL (K := K) rfl) (pv 13) (pe_op op_add (pv 14) pe_int) (fun _ _ => rfl)) (nomark _)))) pa_nil)))))))), fun Q a p n r Es Gs Bs sp ve vg vb vm vo va vst vbp H12 k S hE hG hB hfew ra12 re12 rg12 rb12 rst12 rbp12 => ?_⟩
  have hp := S.p
  have hn := S.n
  rcases ra12 with ⟨x, l, run, ok, ran⟩ | ⟨hno, Fs, As, Ks, Cs, ok, ran⟩
  · have hll := ok.len
    obtain rfl : r = l + 1 := by
      rcases hfew with ⟨h1, h2⟩ | ⟨m, h1, ⟨y, h2, h3⟩, h4⟩
      · have := h2 l (by omega) x (run_reach ok.ok)
        rw [ok.bad] at this
        cases this
      · have h5 := ok.least m y h2 h3
        by_cases h6 : l < m
        · have := h4 l h6 x (run_reach ok.ok)
          rw [ok.bad] at this
          cases this
        · omega
    have hrl := ok.ok.len
    obtain ⟨s, hs, hhd⟩ := ok.ok.start
    have hin : ∀ y ∈ run, y ∈ pts p n := path_in (fun x _ => step_in (by omega) hG x) ok.ok.path fun s' h => by rw [hhd] at h; cases h; exact (List.mem_filter.mp hs).1
    have h0 : (run.map ptR)[0]? = some (ptR s) := by rw [List.getElem?_map, ← List.head?_eq_getElem?, hhd]; rfl
    have hl : (run.map ptR)[l]? = some (ptR x) := by
      have h := ok.ok.last
      rw [List.getLast?_eq_getElem?, hrl] at h
      rw [List.getElem?_map, show run[l]? = some x from h]
      rfl
    have hxs : x ∈ solsP p n Bs := List.mem_filter.mpr ⟨hin x (List.mem_of_getLast? ok.ok.last), ok.bad⟩
    refine sq (s_if (b := false) (EvT.to (et_test (ev_eqS (ev_is rfl) ev_c rfl)) (by rw [decide_eq_false]; intro h; injection h with h; omega)) (fun hb => by cases hb) fun hb H13 e13 => s_next ?_)
    have ran13 : ansRun run va H13 := Mono.up e13 ran
    dsimp only
    refine sq (s_if (b := false) (EvT.to (et_or (a := false) (b := false) (EvT.to (et_test (ev_neS (x := .int 2) (y := .int 2) (ev_len (n := 2) (ea_cons (ev_var rfl ran13) ea_nil) fun v H1 r => len_tup (K := K) r.f) ev_c rfl)) (by decide)) fun _ => et_or (a := false) (b := false) (EvT.to (et_test (ev_neS (x := .str "run") (y := .str "run") (ev_ixTM (n := 0) (ev_var rfl ran13) ev_c rfl) ev_c rfl)) (by decide)) fun _ => EvT.to (et_test (ev_neS (x := .int ((l + 1 : Nat) : Int)) (y := .int ((l + 1 : Nat) : Int)) (ev_len (n := l + 1) (ea_cons (ev_ixTM (n := 1) (R := lstR (run.map ptR)) (ev_var rfl ran13) ev_c rfl) ea_nil) fun v H1 r => by
        have h := len_lst (K := K) r
        rw [List.length_map, hrl] at h
        exact h) (ev_is rfl) rfl)) (by simp)) rfl) (fun hb => by cases hb) fun hb H14 e14 => s_next ?_)
    have ran14 : ansRun run va H14 := Mono.up e14 ran13
    dsimp only
    refine sq (s_set (R := lstR (run.map ptR)) (ev_ixTM (n := 1) (ev_var rfl ran14) ev_c rfl) fun vr H15 e15 rr => ?_)
    have e1315 := e13.trans (e14.trans e15)
    dsimp only [List.set]
    refine sq (s_if (b := false) (EvT.to (et_or (a := false) (b := false) (EvT.to (et_test (ev_notInP (xs := solsP p n Es) (ev_ixL (n := 0) (R := ptR s) (ev_var rfl rr) ev_c h0) (ev_var rfl (Mono.up e1315 rst12)))) (by rw [decide_eq_true hs]; rfl)) fun _ => EvT.to (et_test (ev_notInP (xs := solsP p n Bs) (ev_ixL (n := l) (R := ptR x) (ev_var rfl rr) (Ev.to (ev_I0 (ev_is rfl) ev_c) (by congr 1; omega)) hl) (ev_var rfl (Mono.up e1315 rbp12)))) (by rw [decide_eq_true hxs]; rfl)) rfl) (fun hb => by cases hb) fun hb H16 e16 => s_next ?_)
    have rr16 := Mono.up e16 rr
    have rg16 := Mono.up (e1315.trans e16) rg12
    have rat : ∀ j, j < l + 1 → ∃ y, run[j]? = some y ∧ y ∈ pts p n ∧ (run.map ptR)[j]? = some (ptR y) := fun j hj => by
      have h := List.getElem?_eq_getElem (show j < run.length by omega)
      exact ⟨_, h, hin _ (List.getElem_mem _), by rw [List.getElem?_map, h]; rfl⟩
    dsimp only
    refine s_ret (ev_all (bs := (List.range l).map fun _ => true) (ea_cons (EvN.ev ?_) ea_nil)) fun v H17 e17 rv => k v H17 ?_
    · refine ev_lc2v (C := IsB) (val := fun _ : Nat => true) (xs := List.range l) (A := fun j => IsI (j : Nat)) (srcD_range (n := l) (ea_cons (Ev.to (ev_I0 (ev_is rfl) ev_c) (by congr 1; omega)) ea_nil) (by omega)) (by rw [List.length_range, sizeLine_eq]; omega) fun j u H17 hj e17 hu => ⟨rfl, rfl, ?_⟩
      obtain rfl : u = .int (j : Nat) := hu
      have hj := List.mem_range.mp hj
      obtain ⟨y, hy1, hy2, hy3⟩ := rat j (by omega)
      obtain ⟨z, hz1, hz2, hz3⟩ := rat (j + 1) (by omega)
      exact Ev.to (ev_eqP (x := stepP p Gs y) (y := z) (ev_call (R := ptR (stepP p Gs y)) (ea_cons (ev_is rfl) (ea_cons (ev_var rfl (Mono.up e17 rg16)) (ea_cons (ev_ixL (n := j) (R := ptR y) (ev_var rfl (Mono.up e17 rr16)) (ev_is rfl) hy3) ea_nil))) fun vs H1 Q E h => ⟨p, n, Gs, y, S, by omega, hy2, h⟩) (ev_ixL (n := j + 1) (R := ptR z) (ev_var rfl (Mono.up e17 rr16)) (Ev.to (ev_I0 (ev_is rfl) ev_c) (by congr 1)) hz3)) (by rw [decide_eq_true (path_at ok.ok.path hy1 hz1)])
    · rw [List.all_map] at rv
      rw [show v = _ from rv]
      congr 1
      rw [List.all_eq_true]
      intro _ _
      rfl
  · obtain rfl : r = 0 := by
      rcases hfew with ⟨h1, _⟩ | ⟨m, h1, ⟨y, h2, h3⟩, _⟩
      · exact h1
      · have := hno m y h2
        rw [h3] at this
        cases this
    refine s_if (b := true) (EvT.to (et_test (ev_eqS (ev_is rfl) ev_c rfl)) (by decide)) (fun hb H13 e13 => ?_) fun hb => by cases hb
    have ran13 : ansSafe p n Fs As Ks Cs va H13 := Mono.up e13 ran
    have hcut : cutL [Is (.str "safe"), lstR (Fs.map (polyR p n)), llR p n As, llR p n Ks, lstR (Cs.map (polyR p n))] (some 1) none = [lstR (Fs.map (polyR p n)), llR p n As, llR p n Ks, lstR (Cs.map (polyR p n))] := by
      rw [show (1 : Int) = ((1 : Nat) : Int) from rfl, cut_fromG (by show 1 ≤ 5; decide)]
      rfl
    refine sq (s_if (b := false) (EvT.to (et_or (a := false) (b := false) (EvT.to (et_test (ev_neS (x := .int 5) (y := .int 5) (ev_len (n := 5) (ea_cons (ev_var rfl ran13) ea_nil) fun v H1 r => len_tup (K := K) r.f) ev_c rfl)) (by decide)) fun _ => EvT.to (et_test (ev_neS (x := .str "safe") (y := .str "safe") (ev_ixTM (n := 0) (ev_var rfl ran13) ev_c rfl) ev_c rfl)) (by decide)) rfl) (fun hb => by cases hb) fun hb H14 e14 => s_next ?_)
    have ran14 : ansSafe p n Fs As Ks Cs va H14 := Mono.up e14 ran13
    have e1314 := e13.trans e14
    dsimp only
    refine s_ret (ev_call (R := IsB true) (ea_cons (ev_is rfl) (ea_cons (ev_is rfl) (ea_cons (ev_var rfl (Mono.up e1314 re12)) (ea_cons (ev_var rfl (Mono.up e1314 rg12)) (ea_cons (ev_var rfl (Mono.up e1314 rb12)) (ea_cons (hcut ▸ ev_slTM (ev_var rfl ran14) (eo_some ev_c) eo_none (by rw [hcut]; exact inferInstance) : Ev _ _ _ (tupR [lstR (Fs.map (polyR p n)), llR p n As, llR p n Ks, lstR (Cs.map (polyR p n))])) ea_nil)))))) fun vs H1 Q E h => ⟨p, n, Es, Gs, Bs, Fs, As, Ks, Cs, S, by omega, hG, by omega, ok, h⟩) fun v H15 e15 rv => k v H15 rv
theorem law_b (T : TopF K mg) (g_judge_safe : G_judge_safe P w K mg base) (g_law_after : G_law_after P w K mg base) (g_law_fewest : G_law_fewest P w K mg base) (g_law_safe_shown : G_law_safe_shown P w K mg base) (g_law_solutions : G_law_solutions P w K mg base) {f : Addr} {cdv : Value} {A : Around} {outer : List Env} {s : Shared} {H : Hp} {E : XK} (hr : Room 10 (A.deeper (envOfC "law" (defScope s_law) s.heap.objs.size f cdv))) :
    ∃ t, PSs (cxOf CX0 P w K mg base n_law "law" (defScope s_law) f cdv A outer s H E).nox ((defBody s_law).drop 8) t ∧ ∀ (Q : VK) (a : Addr) (p n : Nat) (Es Gs Bs : List (Pt → Int)) (sp ve vg vb vm vo va : V) (H8 : Hp), (∀ v H', v = .bl true → Q v H') → Shape p n → Es.length ≤ 4 → Gs.length = n → Bs.length ≤ 4 →
      ansR p n Es Gs Bs va H8 → lstR (Es.map (polyR p n)) ve H8 → lstR (Gs.map (polyR p n)) vg H8 → lstR (Bs.map (polyR p n)) vb H8 → maR K p n Es Gs vm H8 → syR K p n Bs vo H8 →
      t { nx := fun _ H' => Q .non H', rt := Q } [some (.ref a), some (.int p), some (.int n), some sp, some ve, some vg, some vb, some vm, some vo, some va, none, none, none, none, none] H8 := by
  have hu := room1 hr
  have hu3 := room3 hr
  have hu64 := hr.units
  have hu65 := room65 hr
  obtain ⟨t, ht, hk⟩ := law_c (outer := outer) (s := s) (H := H) (E := E) T g_law_after g_law_safe_shown hr
  refine ⟨_, (pss_cons (ps_if (PW.pt (pw_or (pt_not (pt_val (pe_callB (k_isi (K := K) rfl) (by rfl) T.b_isinstance (by decide +kernel) (pa_cons (pv 9) (pa_cons (pe_ty (n := "tuple") T.b_tuple (by rfl) (by decide +kernel)) pa_nil))))) (pw_or1 (pt_cmpR op_notBl (pe_fn g_judge_safe hr (by decide) (by rfl) (pa_cons (pv 7) (pa_cons (pv 8) (pa_cons (pv 9) pa_nil)))) pe_bl (nomark _))))) (pss_one (ps_ret pe_bl)) pss_nil)
      (pss_cons (ps_set (i := 10) sc_law.nd rfl (Or.inl rfl) (pe_fn g_law_solutions hr (by decide) (by rfl) (pa_cons (pv 1) (pa_cons (pv 2) (pa_cons (pv 4) pa_nil)))))
      (pss_cons (ps_set (i := 11) sc_law.nd rfl (Or.inl rfl) (pe_fn g_law_solutions hr (by decide) (by rfl) (pa_cons (pv 1) (pa_cons (pv 2) (pa_cons (pv 6) pa_nil)))))
      (pss_cons (ps_set (i := 12) sc_law.nd rfl (Or.inl rfl) (pe_fn g_law_fewest hr (by decide) (by rfl) (pa_cons (pv 1) (pa_cons (pv 5) (pa_cons (pv 10) (pa_cons (pv 11) pa_nil))))))
      ht)))), fun Q a p n Es Gs Bs sp ve vg vb vm vo va H8 k S hE hG hB ra re8 rg8 rb8 rm8 ro8 => ?_⟩
  refine sq (s_if (b := false) (EvT.to (et_or (a := false) (b := false) (EvT.to (et_not (et_test (ev_isi (R := ansR p n Es Gs Bs) (b := true) (ea_cons (ev_var rfl ra) (ea_cons ev_c ea_nil)) (.ty _) (fun v H1 r => r.elim (fun ⟨_, _, _, _, r⟩ => ty_tup r) fun ⟨_, _, _, _, _, _, r⟩ => ty_tup r) rfl))) rfl) fun _ => EvT.to (et_test (ev_notBl (a := true) (b := true) (ev_call (R := IsB true) (ea_cons (ev_var rfl rm8) (ea_cons (ev_var rfl ro8) (ea_cons (ev_var rfl ra) ea_nil))) fun vs H1 Q E h => ⟨p, n, Es, Gs, Bs, S, by omega, hG, by omega, h⟩) ev_c)) rfl) rfl) (fun hb => by cases hb) fun hb H9 e9 => s_next ?_)
  have ra9 := Mono.up e9 ra
  have re9 := Mono.up e9 re8
  have rg9 := Mono.up e9 rg8
  have rb9 := Mono.up e9 rb8
  dsimp only
  refine sq (s_set (R := lstR ((solsP p n Es).map ptR)) (EvN.ev (ev_callN (ea_cons (ev_is rfl) (ea_cons (ev_is rfl) (ea_cons (ev_var rfl re9) ea_nil))) fun vs H1 Q E h => ⟨p, n, Es, S, by omega, h⟩)) fun vst H10 e10 rst => ?_)
  dsimp only [List.set]
  refine sq (s_set (R := lstR ((solsP p n Bs).map ptR)) (EvN.ev (ev_callN (ea_cons (ev_is rfl) (ea_cons (ev_is rfl) (ea_cons (ev_var rfl (Mono.up e10 rb9)) ea_nil))) fun vs H1 Q E h => ⟨p, n, Bs, S, by omega, h⟩)) fun vbp H11 e11 rbp => ?_)
  have rst11 := Mono.up e11 rst
  have rg11 := Mono.up (e10.trans e11) rg9
  dsimp only [List.set]
  refine sq (s_set (R := fewR (stepP p Gs) (solsP p n Es) (solB p Bs)) (ev_call (ea_cons (ev_is rfl) (ea_cons (ev_var rfl rg11) (ea_cons (ev_var rfl rst11) (ea_cons (ev_var rfl rbp) ea_nil)))) fun vs H1 Q E h => ⟨p, n, Es, Gs, Bs, S, hG, h⟩) fun vf H12 e12 rf => ?_)
  obtain ⟨r, rfl, hfew⟩ := rf
  have e912 := e10.trans (e11.trans e12)
  have ra12 := Mono.up e912 ra9
  have re12 := Mono.up e912 re9
  have rg12 := Mono.up e912 rg9
  have rb12 := Mono.up e912 rb9
  have rst12 := Mono.up e12 rst11
  have rbp12 := Mono.up e12 rbp
  exact hk Q a p n r Es Gs Bs sp ve vg vb vm vo va vst vbp H12 k S hE hG hB hfew ra12 re12 rg12 rb12 rst12 rbp12
theorem law_body (T : TopF K mg) (g_check_safe : G_check_safe P w K mg base) (g_judge_safe : G_judge_safe P w K mg base) (g_law_after : G_law_after P w K mg base) (g_law_cell : G_law_cell P w K mg base) (g_law_fewest : G_law_fewest P w K mg base) (g_law_names : G_law_names P w K mg base) (g_law_safe_shown : G_law_safe_shown P w K mg base) (g_law_shape : G_law_shape P w K mg base) (g_law_solutions : G_law_solutions P w K mg base) (g_law_start : G_law_start P w K mg base) (g_law_step : G_law_step P w K mg base) (g_mk_Machine : G_mk_Machine P w K mg base) (g_mk_Space : G_mk_Space P w K mg base) (g_mk_System : G_mk_System P w K mg base) : BodyOk P w K mg base n_law "law" s_law 10 (sp_law K) := by
  intro f cdv A outer s H vs Q E hr h
  have hu := room1 hr
  have hu3 := room3 hr
  have hu64 := hr.units
  have hu65 := room65 hr
  obtain ⟨t, ht, hk⟩ := law_b (outer := outer) (s := s) (H := H) (E := E) T g_judge_safe g_law_after g_law_fewest g_law_safe_shown g_law_solutions hr
  refine ⟨_, (pss_cons (ps_asg (pe_fn g_law_shape hr (by decide) (by rfl) (pa_cons (pe_op op_mod (pe_callTy call_int1 (by rfl) T.b_int (by decide +kernel) (pa_cons (pe_fn g_law_cell hr (by decide) (by rfl) (pa_cons (pv 0) (pa_cons pe_int pa_nil))) pa_nil)) pe_int) pa_nil)) (pg_tup rfl (pgs_cons (pg_name (i := 1) sc_law.nd rfl (Or.inr rfl)) (pgs_cons (pg_name (i := 2) sc_law.nd rfl (Or.inl rfl)) pgs_nil))))
      (pss_cons (ps_set (i := 3) sc_law.nd rfl (Or.inl rfl) (pe_mk g_mk_Space hr (by decide) (by rfl) (pa_cons (pv 1) (pa_cons (pe_fn g_law_names hr (by decide) (by rfl) (pa_cons (pe_fn g_law_cell hr (by decide) (by rfl) (pa_cons (pv 0) (pa_cons pe_int pa_nil))) (pa_cons (pv 2) pa_nil))) pa_nil))))
      (pss_cons (ps_set (i := 4) sc_law.nd rfl (Or.inl rfl) (pe_fn g_law_start hr (by decide) (by rfl) (pa_cons (pv 1) (pa_cons (pv 2) (pa_cons (pe_fn g_law_cell hr (by decide) (by rfl) (pa_cons (pv 0) (pa_cons pe_int pa_nil))) pa_nil)))))
      (pss_cons (ps_set (i := 5) sc_law.nd rfl (Or.inr rfl) (pe_fn g_law_step hr (by decide) (by rfl) (pa_cons (pv 1) (pa_cons (pv 2) (pa_cons (pe_fn g_law_cell hr (by decide) (by rfl) (pa_cons (pv 0) (pa_cons pe_int pa_nil))) pa_nil)))))
      (pss_cons (ps_set (i := 6) sc_law.nd rfl (Or.inl rfl) (pe_fn g_law_start hr (by decide) (by rfl) (pa_cons (pv 1) (pa_cons (pv 2) (pa_cons (pe_fn g_law_cell hr (by decide) (by rfl) (pa_cons (pv 0) (pa_cons pe_int pa_nil))) pa_nil)))))
      (pss_cons (ps_set (i := 7) sc_law.nd rfl (Or.inl rfl) (pe_mk g_mk_Machine hr (by decide) (by rfl) (pa_cons (pe_mk g_mk_System hr (by decide) (by rfl) (pa_cons (pv 3) (pa_cons (pe_callTy (k_list (K := K) rfl) (by rfl) T.b_list (by decide +kernel) (pa_cons (pv 4) pa_nil)) pa_nil))) (pa_cons (pe_callTy (k_list (K := K) rfl) (by rfl) T.b_list (by decide +kernel) (pa_cons (pv 5) pa_nil)) pa_nil))))
      (pss_cons (ps_set (i := 8) sc_law.nd rfl (Or.inl rfl) (pe_mk g_mk_System hr (by decide) (by rfl) (pa_cons (pv 3) (pa_cons (pe_callTy (k_list (K := K) rfl) (by rfl) T.b_list (by decide +kernel) (pa_cons (pv 6) pa_nil)) pa_nil))))
      (pss_cons (ps_set (i := 9) sc_law.nd rfl (Or.inl rfl) (pe_fn g_check_safe hr (by decide) (by rfl) (pa_cons (pv 7) (pa_cons (pv 8) pa_nil))))
      ht)))))))), ?_⟩
  obtain ⟨a, ns, rfl, hT, hS, k⟩ := h
  have r0 : sqR K ns (.ref a) H := ⟨a, rfl, hS⟩
  refine sq (s_asg (R := fun v H' => ∃ p n : Nat, Shape p n ∧ tupR [IsI p, IsI n] v H') (ev_call (Rs := [IsI (ns[0]?.getD 0 % 10)]) (ea_cons (ev_mod (ev_int (ea_cons (ev_call (R := IsI (ns[0]?.getD 0)) (ea_cons (ev_var rfl r0) (ea_cons ev_c ea_nil)) fun vs H1 Q E h => ⟨ns, 0, h⟩) ea_nil)) ev_c (by decide)) ea_nil) fun vs H1 Q E h => ⟨ns[0]?.getD 0 % 10, Int.emod_nonneg _ (by decide), Int.emod_lt_of_pos _ (by decide), h⟩) fun v H1 e1 rv => ?_)
  obtain ⟨p, n, S, rpn⟩ := rv
  refine g_pair rpn fun u1 u2 q1 q2 => ?_
  obtain rfl : u1 = .int p := q1
  obtain rfl : u2 = .int n := q2
  have hp := S.p
  have hn := S.n
  have r01 := Mono.up e1 r0
  have hT1 : LamX.TabS H1 (PL K) LQ := e1.tabs _ hT
  dsimp only [List.set]
  refine sq (s_set (R := spR K p n) (ev_mk (C := He.ga K "Space") (Rs := [tabR K (.int p), namR n]) (ea_cons (ev_var rfl ⟨rfl, hT1⟩) (ea_cons (ev_call (R := namR n) (ea_cons (ev_call (R := IsI (ns[1]?.getD 0)) (ea_cons (ev_var rfl r01) (ea_cons ev_c ea_nil)) fun vs H1 Q E h => ⟨ns, 1, h⟩) (ea_cons (ev_is rfl) ea_nil)) fun vs H1 Q E h => ⟨_, n, hn.2, h⟩) ea_nil)) fun vs H1 Q E h => ?_) fun sp H2 e2 rs => ?_)
  · obtain ⟨x, dx, rest, Hb, h1, h2, h3, h4, h5, h6⟩ := h
    obtain ⟨b1, b2, rfl, g1, zs, z1, z2, z3, z4⟩ := All.l2 h5
    exact ⟨p, n, zs, S, z1, z2, z3, x, dx, [b1, b2], Hb, h1, h2, h3, h4, .cons g1 (.cons z4 .nil), h6⟩
  have r02 := Mono.up e2 r01
  dsimp only [List.set]
  refine sq (s_set (R := eqsR p n) (ev_call (ea_cons (ev_is rfl) (ea_cons (ev_is rfl) (ea_cons (ev_call (R := IsI (ns[2]?.getD 0)) (ea_cons (ev_var rfl r02) (ea_cons ev_c ea_nil)) fun vs H1 Q E h => ⟨ns, 2, h⟩) ea_nil))) fun vs H1 Q E h => ⟨p, n, _, S, h⟩) fun ve H3 e3 re => ?_)
  obtain ⟨Es, hE, re⟩ := re
  have r03 := Mono.up e3 r02
  have rs3 := Mono.up e3 rs
  dsimp only [List.set]
  refine sq (s_set (R := numP p n n) (ev_call (ea_cons (ev_is rfl) (ea_cons (ev_is rfl) (ea_cons (ev_call (R := IsI (ns[3]?.getD 0)) (ea_cons (ev_var rfl r03) (ea_cons ev_c ea_nil)) fun vs H1 Q E h => ⟨ns, 3, h⟩) ea_nil))) fun vs H1 Q E h => ⟨p, n, _, S, h⟩) fun vg H4 e4 rg => ?_)
  obtain ⟨Gs, hG, rg⟩ := rg
  have r04 := Mono.up e4 r03
  have rs4 := Mono.up e4 rs3
  have re4 := Mono.up e4 re
  dsimp only [List.set]
  refine sq (s_set (R := eqsR p n) (ev_call (ea_cons (ev_is rfl) (ea_cons (ev_is rfl) (ea_cons (ev_call (R := IsI (ns[4]?.getD 0)) (ea_cons (ev_var rfl r04) (ea_cons ev_c ea_nil)) fun vs H1 Q E h => ⟨ns, 4, h⟩) ea_nil))) fun vs H1 Q E h => ⟨p, n, _, S, h⟩) fun vb H5 e5 rb => ?_)
  obtain ⟨Bs, hB, rb⟩ := rb
  have rs5 : spR K p n sp H5 := Mono.up e5 rs4
  have re5 := Mono.up e5 re4
  have rg5 := Mono.up e5 rg
  dsimp only [List.set]
  refine sq (s_set (R := maR K p n Es Gs) (ev_mk (Rs := [syR K p n Es, lstR (Gs.map (polyR p n))]) (ea_cons (ev_mk (Rs := [spR K p n, lstR (Es.map (polyR p n))]) (ea_cons (ev_var rfl rs5) (ea_cons (EvN.ev (ev_lstOf (ea_cons (ev_var rfl re5) ea_nil))) ea_nil)) fun vs H1 Q E h => ⟨p, n, Es, h⟩) (ea_cons (EvN.ev (ev_lstOf (ea_cons (ev_var rfl rg5) ea_nil))) ea_nil)) fun vs H1 Q E h => ⟨p, n, Es, Gs, h⟩) fun vm H6 e6 rm => ?_)
  have rs6 := Mono.up e6 rs5
  have re6 := Mono.up e6 re5
  have rg6 := Mono.up e6 rg5
  have rb6 := Mono.up e6 rb
  dsimp only [List.set]
  refine sq (s_set (R := syR K p n Bs) (ev_mk (Rs := [spR K p n, lstR (Bs.map (polyR p n))]) (ea_cons (ev_var rfl rs6) (ea_cons (EvN.ev (ev_lstOf (ea_cons (ev_var rfl rb6) ea_nil))) ea_nil)) fun vs H1 Q E h => ⟨p, n, Bs, h⟩) fun vo H7 e7 ro => ?_)
  have rm7 := Mono.up e7 rm
  dsimp only [List.set]
  refine sq (s_set (R := ansR p n Es Gs Bs) (ev_call (ea_cons (ev_var rfl rm7) (ea_cons (ev_var rfl ro) ea_nil)) fun vs H1 Q E h => ⟨p, n, Es, Gs, Bs, S, by omega, hG, by omega, h⟩) fun va H8 e8 ra => ?_)
  have re8 := Mono.up (e7.trans e8) re6
  have rg8 := Mono.up (e7.trans e8) rg6
  have rb8 := Mono.up (e7.trans e8) rb6
  exact hk Q a p n Es Gs Bs sp ve vg vb vm vo va H8 k S hE hG hB ra re8 rg8 rb8 (Mono.up e8 rm7) (Mono.up e8 ro)
theorem ok_law (T : TopF K mg) (g_check_safe : G_check_safe P w K mg base) (g_judge_safe : G_judge_safe P w K mg base) (g_law_after : G_law_after P w K mg base) (g_law_cell : G_law_cell P w K mg base) (g_law_fewest : G_law_fewest P w K mg base) (g_law_names : G_law_names P w K mg base) (g_law_safe_shown : G_law_safe_shown P w K mg base) (g_law_shape : G_law_shape P w K mg base) (g_law_solutions : G_law_solutions P w K mg base) (g_law_start : G_law_start P w K mg base) (g_law_step : G_law_step P w K mg base) (g_mk_Machine : G_mk_Machine P w K mg base) (g_mk_Space : G_mk_Space P w K mg base) (g_mk_System : G_mk_System P w K mg base) {f : Addr} {fd : FuncData} (F : FunD K "law" "law" (defArgs s_law) (defBody s_law) (defScope s_law) [] [] f fd) : FnOk P w K mg base CX0 11 f fd ["_law_script"] (sp_law K) := by
  refine F.ok sc_law (fun vs H Q E h => ?_) fun cdv A outer s H vs Q E hr h => ?_
  · obtain ⟨a, ns, rfl, _⟩ := h
    rfl
  · obtain ⟨t, h2, h3⟩ := law_body T g_check_safe g_judge_safe g_law_after g_law_cell g_law_fewest g_law_names g_law_safe_shown g_law_shape g_law_solutions g_law_start g_law_step g_mk_Machine g_mk_Space g_mk_System f cdv A outer s H vs Q E hr h
    exact ⟨t, h2.nox, h3⟩
end SP
end
section
set_option Elab.async false
set_option linter.all false
set_option maxRecDepth 100000
set_option maxHeartbeats 4000000
namespace SP
open PySem PySem.Spec PyProof.Rows L2
theorem law_all {P : Program} {w : World} {K : PySem.W.Frag} {mg : Str → Option Value} {base : Heap} (T : TopF K mg) (TB : LamX.TabB base mg (He.cT K ("ascending", none)).1 (PL K)) {f : Addr} {fd : FuncData}
    (F : FunD K "law" "law" (defArgs s_law) (defBody s_law) (defScope s_law) [] [] f fd) : FnOk P w K mg base CX0 11 f fd ["_law_script"] (sp_law K) := by
  have o_raised_number : G_raised_number P w K mg base := ok_raised_number T 
  have o_value_of : G_value_of P w K mg base := ok_value_of T o_raised_number
  have o_value : G_value P w K mg base := ok_value T o_value_of
  have o_led : G_led P w K mg base := ok_led T o_value
  have o_Machine_after : G_Machine_after P w K mg base := ok_Machine_after T o_led
  have o_tuples_of : G_tuples_of P w K mg base := ok_tuples_of T 
  have o_Space_points : G_Space_points P w K mg base := ok_Space_points T o_tuples_of
  have o_System_is_solution : G_System_is_solution P w K mg base := ok_System_is_solution T o_value
  have o_System_solutions : G_System_solutions P w K mg base := ok_System_solutions T o_Space_points o_System_is_solution
  have o_Machine_came_from : G_Machine_came_from P w K mg base := ok_Machine_came_from T o_Machine_after o_System_solutions
  have o_inverse : G_inverse P w K mg base := ok_inverse T o_raised_number
  have o_Rows_keep : G_Rows_keep P w K mg base := ok_Rows_keep T o_inverse
  have o_Rows_lessened : G_Rows_lessened P w K mg base := ok_Rows_lessened T 
  have o_from_numbers : G_from_numbers P w K mg base := ok_from_numbers T 
  have o_Rows_take : G_Rows_take P w K mg base := ok_Rows_take T o_Rows_keep o_Rows_lessened o_from_numbers o_value_of
  have o_degree_of : G_degree_of P w K mg base := ok_degree_of T 
  have o_key_of : G_key_of P w K mg base := ok_key_of T o_degree_of
  have o_ascending : G_ascending P w K mg base := ok_ascending T TB o_key_of
  have o_Space_powers : G_Space_powers P w K mg base := ok_Space_powers T o_Space_points o_ascending
  have o_divides : G_divides P w K mg base := ok_divides T 
  have o_mk_Rows : G_mk_Rows P w K mg base := ok_mk_Rows T 
  have o_walk : G_walk P w K mg base := ok_walk T o_Rows_take o_Space_powers o_divides o_mk_Rows
  have o_basis : G_basis P w K mg base := ok_basis T o_walk
  have o_numbers_of : G_numbers_of P w K mg base := ok_numbers_of T o_raised_number
  have o_polynomial_of : G_polynomial_of P w K mg base := ok_polynomial_of T o_Space_points o_from_numbers o_numbers_of
  have o_factors : G_factors P w K mg base := ok_factors T o_Space_points o_inverse o_polynomial_of o_value
  have o_mk_System : G_mk_System P w K mg base := ok_mk_System T 
  have o_Space_zero : G_Space_zero P w K mg base := ok_Space_zero T 
  have o_constant : G_constant P w K mg base := ok_constant T o_Space_zero o_from_numbers
  have o_one_of : G_one_of P w K mg base := ok_one_of T o_constant
  have o_run_to : G_run_to P w K mg base := ok_run_to T 
  have o_plus : G_plus P w K mg base := ok_plus T o_from_numbers
  have o_lessened : G_lessened P w K mg base := ok_lessened T 
  have o_times : G_times P w K mg base := ok_times T o_from_numbers o_lessened
  have o_raised : G_raised P w K mg base := ok_raised T o_constant o_lessened o_times
  have o_replaced : G_replaced P w K mg base := ok_replaced T o_constant o_plus o_raised o_times
  have o_stepped : G_stepped P w K mg base := ok_stepped T o_replaced
  have o_check_safe : G_check_safe P w K mg base := ok_check_safe T o_Machine_came_from o_System_is_solution o_basis o_factors o_mk_System o_one_of o_run_to o_stepped
  have o_Space_is_point : G_Space_is_point P w K mg base := ok_Space_is_point T 
  have o_is_polynomial : G_is_polynomial P w K mg base := ok_is_polynomial T o_Space_is_point
  have o_shown : G_shown P w K mg base := ok_shown T o_plus o_times
  have o_all_shown : G_all_shown P w K mg base := ok_all_shown T o_is_polynomial o_shown
  have o_is_run : G_is_run P w K mg base := ok_is_run T o_Machine_after o_Space_is_point o_System_is_solution
  have o_judge_safe : G_judge_safe P w K mg base := ok_judge_safe T o_System_is_solution o_all_shown o_is_polynomial o_is_run o_mk_System o_one_of o_stepped
  have o_law_power_value : G_law_power_value P w K mg base := ok_law_power_value T 
  have o_law_value : G_law_value P w K mg base := ok_law_value T o_law_power_value
  have o_law_after : G_law_after P w K mg base := ok_law_after T o_law_value
  have o_law_cell : G_law_cell P w K mg base := ok_law_cell T 
  have o_law_fewest : G_law_fewest P w K mg base := ok_law_fewest T o_law_after
  have o_law_names : G_law_names P w K mg base := ok_law_names T 
  have o_law_made : G_law_made P w K mg base := ok_law_made T 
  have o_law_constant : G_law_constant P w K mg base := ok_law_constant T o_law_made
  have o_law_is_tuple_point : G_law_is_tuple_point P w K mg base := ok_law_is_tuple_point T 
  have o_law_is_polynomial : G_law_is_polynomial P w K mg base := ok_law_is_polynomial T o_law_is_tuple_point
  have o_law_plus : G_law_plus P w K mg base := ok_law_plus T o_law_made
  have o_law_scaled : G_law_scaled P w K mg base := ok_law_scaled T 
  have o_law_minus : G_law_minus P w K mg base := ok_law_minus T o_law_plus o_law_scaled
  have o_law_lessened : G_law_lessened P w K mg base := ok_law_lessened T 
  have o_law_times : G_law_times P w K mg base := ok_law_times T o_law_lessened o_law_made
  have o_law_raised : G_law_raised P w K mg base := ok_law_raised T o_law_times
  have o_law_unknown : G_law_unknown P w K mg base := ok_law_unknown T 
  have o_law_of_table : G_law_of_table P w K mg base := ok_law_of_table T o_law_constant o_law_minus o_law_plus o_law_raised o_law_times o_law_unknown
  have o_law_points : G_law_points P w K mg base := ok_law_points T 
  have o_law_replaced : G_law_replaced P w K mg base := ok_law_replaced T o_law_after o_law_of_table o_law_points o_law_value
  have o_law_shows : G_law_shows P w K mg base := ok_law_shows T o_law_is_polynomial o_law_points o_law_value
  have o_law_safe_shown : G_law_safe_shown P w K mg base := ok_law_safe_shown T o_law_constant o_law_is_polynomial o_law_replaced o_law_shows
  have o_law_shape : G_law_shape P w K mg base := ok_law_shape T 
  have o_law_solutions : G_law_solutions P w K mg base := ok_law_solutions T o_law_points o_law_value
  have o_law_digits : G_law_digits P w K mg base := ok_law_digits T 
  have o_law_drawn : G_law_drawn P w K mg base := ok_law_drawn T o_law_digits o_law_made
  have o_law_equations : G_law_equations P w K mg base := ok_law_equations T o_law_constant o_law_digits o_law_drawn o_law_minus o_law_points o_law_value
  have o_law_start : G_law_start P w K mg base := ok_law_start T o_law_constant o_law_equations o_law_minus o_law_points o_law_unknown
  have o_law_step : G_law_step P w K mg base := ok_law_step T o_law_digits o_law_drawn o_law_plus o_law_unknown
  have o_mk_Machine : G_mk_Machine P w K mg base := ok_mk_Machine T 
  have o_is_name : G_is_name P w K mg base := ok_is_name T 
  have o_mk_Space : G_mk_Space P w K mg base := ok_mk_Space T o_is_name
  exact ok_law T o_check_safe o_judge_safe o_law_after o_law_cell o_law_fewest o_law_names o_law_safe_shown o_law_shape o_law_solutions o_law_start o_law_step o_mk_Machine o_mk_Space o_mk_System F
theorem law_at (w : World) (mg : Str → Option Value) (fa : Addr) (h : Heap) (Y : hk.says w h) (G : h.Ns mainGlobals mg) (hmg : mg ("law" : Str) = some (.ref fa)) :
    ∃ K : PySem.W.Frag, K.In h ∧ LamX.LawAtS PySem.Challenge.rw_standingpowers_k60_whole_machines_safe_o w K CX0 11 63 "_law_script" mg fa h := by
  obtain ⟨K, KX, S⟩ := Y
  have T := topF KX G S
  obtain ⟨f, fd, h1, F⟩ := T.d_law.ex
  have e : f = fa := by
    have := h1.symm.trans hmg
    cases this
    rfl
  subst e
  have one : (("ascending", none) : He.Defn) ∈ tfs := List.mem_singleton.mpr rfl
  refine ⟨K, KX, fd, [He.cT K ("ascending", none)], sp_law K, fun p hp => ?_, fun p hp => ?_, fun p hp => ?_, fun s u => ?_, fun H a ns hl hb hH hS => ?_, fun base _ _ hTB => ?_⟩
  · rw [List.mem_singleton.mp hp]; exact S.empty _ one
  · rw [List.mem_singleton.mp hp]; exact S.out _ one
  · rw [List.mem_singleton.mp hp]; exact PySem.W.codeHd_of_K KX (S.hd _ one)
  · exact FunD.bindsA (ps := ["_law_script"]) F bd_law s [u] rfl
  · exact ⟨a, ns, rfl, ⟨#[], hH _ (List.mem_singleton.mpr rfl), trivial, fun pos cv e => by cases e⟩, hS, fun v H' e => e⟩
  · exact law_all T (hTB _ (List.mem_singleton.mpr rfl)) F
end SP
end
open PySem PySem.W PySem.Calls PyProof.Rows
set_option maxRecDepth 100000
set_option maxHeartbeats 8000000
theorem PySem.Challenge.cw_standingpowers_k60_whole_machines_safe_o_holds : PySem.Challenge.rw_standingpowers_k60_whole_machines_safe_o.Holds := by
  w_on; o_law
  refine HandSHeadRun.head_any (r := OpenLaw.row PySem.Challenge.rw_standingpowers_k60_whole_machines_safe_o) (q := view (OpenLaw.row PySem.Challenge.rw_standingpowers_k60_whole_machines_safe_o).prog [84]) (H := SP.hk) (ob := SP.ob) (M := 9000) (loose := SP.loose) (d := HandSHeadRun.topDef (OpenLaw.row PySem.Challenge.rw_standingpowers_k60_whole_machines_safe_o).prog 84) (kwd := []) SP.ob_eq
    (by kernel_rfl) (fun s => by kernel_rfl) SP.run (by kernel_rfl) (by kernel_rfl) (by kernel_rfl) (by rfl) (by first | assumption | decide +kernel) (by decide +kernel) ⟨rfl, rfl, rfl, rfl, rfl, by decide +kernel⟩ ?hw ?hc
  case hw => w_witness2
  case hc =>
    refine LamX.walk_ofTsE (l := PySem.Challenge.rw_standingpowers_k60_whole_machines_safe_o) (n := 63) (k := 11) (x := "_law_script") (CX := fun _ => L2.CX0) rfl (by decide) (by kernel_rfl) ⟨rfl, by decide, by decide⟩ ?F (fun _ _ _ _ _ z => z)
    intro w mg fa h Y G hmg0
    have hmg : mg ("law" : PySem.Str) = some (.ref fa) := by
      have e : (HandSHeadRun.topDef (OpenLaw.row PySem.Challenge.rw_standingpowers_k60_whole_machines_safe_o).prog 84).name = ("law" : PySem.Str) := by kernel_rfl
      rw [← e]
      exact hmg0
    exact SP.law_at w mg fa h Y G hmg
