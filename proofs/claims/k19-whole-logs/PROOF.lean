import PyProof.Rows.All
import Wide.All
import OpenK.AllK
import Wide.FinOn
import HandS.ForMost
import HandS.More
import HandS.Defaults
import HandS.HeadHook1
import HandS.HeadHook2
import KE.KStateDown
import Lean
import HandS.WordsExc
import HandS.Head0
import HandS.Head1
import HandS.Head2
import HandS.HeadEnd
import HandS.TupAny
import HandS.TupLe
import HandS.Style
import HandS.IsInst
import HandS.Zip
import KE.GoesNew
import HandS.TupSets
import KE.KeyNested
import KE.KDictKeyed
import KE.SortData
import HandS.TupMul
import HandS.SortInts
import HandS.Strs
import HandS.Conv
import HandS.Wide
import HandS.Steps
import HandS.Dict
import PySem.Challenge.RW_turnsneeded_k19_whole_logs_in_other_prog
set_option Elab.async false
set_option linter.all false
set_option maxRecDepth 100000
namespace K19
open PySem PySem.Spec PyProof.Rows L2
def top (i : Nat) : Stmt := PySem.Challenge.pw_turnsneeded_k19_whole_logs_in_other_prog.main.body.getD i (.Pass ⟨0, 0, 0, 0⟩)
abbrev s_is_integer : Stmt := top 11
abbrev s_is_within : Stmt := top 12
abbrev s_is_triple : Stmt := top 13
abbrev s_are_integers : Stmt := top 14
abbrev s_are_within : Stmt := top 15
abbrev s_are_all : Stmt := top 16
abbrev s_check_number : Stmt := top 17
abbrev s_is_reading : Stmt := top 24
abbrev s_Program_init : Stmt := inClass (top 25) 0
abbrev s_Program_keep : Stmt := inClass (top 25) 1
abbrev s_program_of : Stmt := top 26
abbrev s_check_table : Stmt := top 27
abbrev s_renamed : Stmt := top 28
abbrev s_backward : Stmt := top 29
abbrev s_determinant : Stmt := top 30
abbrev s_dot : Stmt := top 31
abbrev s_turned : Stmt := top 32
abbrev s_stretched : Stmt := top 33
abbrev s_beside : Stmt := top 34
abbrev s_check_reading : Stmt := top 35
abbrev s_also : Stmt := top 36
abbrev s_Summary_init : Stmt := inClass (top 39) 0
abbrev s_Summary_behind : Stmt := inClass (top 39) 1
abbrev s_Summary_again : Stmt := inClass (top 39) 2
abbrev s_still : Stmt := top 40
abbrev s_one_reading : Stmt := top 41
abbrev s_summary : Stmt := top 42
abbrev s_is_rounds : Stmt := top 43
abbrev s_is_built : Stmt := top 44
abbrev s_is_log : Stmt := top 45
abbrev s_check_log : Stmt := top 46
abbrev s_length : Stmt := top 47
abbrev s_added : Stmt := top 48
abbrev s_ends_of : Stmt := top 49
abbrev s_reach : Stmt := top 50
abbrev s_stands_in : Stmt := top 51
abbrev s_visits : Stmt := top 52
abbrev s_law_pool : Stmt := top 54
abbrev s_law_draw : Stmt := top 55
abbrev s_law_some : Stmt := top 56
abbrev s_law_mixed : Stmt := top 57
abbrev s_law_step : Stmt := top 58
abbrev s_law_program : Stmt := top 59
abbrev s_law_ringed : Stmt := top 60
abbrev s_law_from : Stmt := top 61
abbrev s_law_back : Stmt := top 62
abbrev s_law_drawn_log : Stmt := top 63
abbrev s_law_moved : Stmt := top 64
abbrev s_law_from_behind : Stmt := top 65
abbrev s_law_numbers : Stmt := top 66
abbrev s_law_tells : Stmt := top 67
abbrev s_law_renamed_right : Stmt := top 68
abbrev s_law_backward_right : Stmt := top 69
abbrev s_law_led_right : Stmt := top 70
abbrev s_law_beside_right : Stmt := top 71
abbrev s_law : Stmt := top 72
abbrev N_is_integer : List Str := ["thing"]
theorem sc_is_integer : FnScope N_is_integer ["thing"] (defScope s_is_integer) := ⟨rfl, rfl, rfl, by decide +kernel, rfl, by decide +kernel, by decide +kernel⟩
abbrev N_is_within : List Str := ["thing", "least", "most"]
theorem sc_is_within : FnScope N_is_within ["thing", "least", "most"] (defScope s_is_within) := ⟨rfl, rfl, rfl, by decide +kernel, rfl, by decide +kernel, by decide +kernel⟩
abbrev N_is_triple : List Str := ["thing"]
theorem sc_is_triple : FnScope N_is_triple ["thing"] (defScope s_is_triple) := ⟨rfl, rfl, rfl, by decide +kernel, rfl, by decide +kernel, by decide +kernel⟩
abbrev N_are_integers : List Str := ["thing", "many", "item"]
theorem sc_are_integers : FnScope N_are_integers ["thing", "many"] (defScope s_are_integers) := ⟨rfl, rfl, rfl, by decide +kernel, rfl, by decide +kernel, by decide +kernel⟩
abbrev N_are_within : List Str := ["thing", "many", "least", "most", "item"]
theorem sc_are_within : FnScope N_are_within ["thing", "many", "least", "most"] (defScope s_are_within) := ⟨rfl, rfl, rfl, by decide +kernel, rfl, by decide +kernel, by decide +kernel⟩
abbrev N_are_all : List Str := ["thing", "many"]
theorem sc_are_all : FnScope N_are_all ["thing", "many"] (defScope s_are_all) := ⟨rfl, rfl, rfl, by decide +kernel, rfl, by decide +kernel, by decide +kernel⟩
abbrev N_check_number : List Str := ["thing", "least", "most"]
theorem sc_check_number : FnScope N_check_number ["thing", "least", "most"] (defScope s_check_number) := ⟨rfl, rfl, rfl, by decide +kernel, rfl, by decide +kernel, by decide +kernel⟩
abbrev N_is_reading : List Str := ["sides", "tables", "thing"]
theorem sc_is_reading : FnScope N_is_reading ["sides", "tables", "thing"] (defScope s_is_reading) := ⟨rfl, rfl, rfl, by decide +kernel, rfl, by decide +kernel, by decide +kernel⟩
abbrev N_Program_init : List Str := ["self", "sides", "tables", "readings", "number", "item"]
theorem sc_Program_init : FnScope N_Program_init ["self", "sides", "tables", "readings"] (defScope s_Program_init) := ⟨rfl, rfl, rfl, by decide +kernel, rfl, by decide +kernel, by decide +kernel⟩
abbrev N_Program_keep : List Str := ["self", "sides", "tables", "readings"]
theorem sc_Program_keep : FnScope N_Program_keep ["self", "sides", "tables", "readings"] (defScope s_Program_keep) := ⟨rfl, rfl, rfl, by decide +kernel, rfl, by decide +kernel, by decide +kernel⟩
abbrev N_program_of : List Str := ["sides", "tables", "readings", "found"]
theorem sc_program_of : FnScope N_program_of ["sides", "tables", "readings"] (defScope s_program_of) := ⟨rfl, rfl, rfl, by decide +kernel, rfl, by decide +kernel, by decide +kernel⟩
abbrev N_check_table : List Str := ["program", "thing"]
theorem sc_check_table : FnScope N_check_table ["program", "thing"] (defScope s_check_table) := ⟨rfl, rfl, rfl, by decide +kernel, rfl, by decide +kernel, by decide +kernel⟩
abbrev N_renamed : List Str := ["program", "names", "readings", "reader", "read", "step"]
theorem sc_renamed : FnScope N_renamed ["program", "names"] (defScope s_renamed) := ⟨rfl, rfl, rfl, by decide +kernel, rfl, by decide +kernel, by decide +kernel⟩
abbrev N_backward : List Str := ["program", "readings", "reader", "read", "step", "part"]
theorem sc_backward : FnScope N_backward ["program"] (defScope s_backward) := ⟨rfl, rfl, rfl, by decide +kernel, rfl, by decide +kernel, by decide +kernel⟩
abbrev N_determinant : List Str := ["matrix", "found", "place", "item", "rest", "row"]
theorem sc_determinant : FnScope N_determinant ["matrix"] (defScope s_determinant) := ⟨rfl, rfl, rfl, by decide +kernel, rfl, by decide +kernel, by decide +kernel⟩
abbrev N_dot : List Str := ["row", "step", "one", "other"]
theorem sc_dot : FnScope N_dot ["row", "step"] (defScope s_dot) := ⟨rfl, rfl, rfl, by decide +kernel, rfl, by decide +kernel, by decide +kernel⟩
abbrev N_turned : List Str := ["program", "matrix", "sides", "readings", "reader", "read", "step", "row"]
theorem sc_turned : FnScope N_turned ["program", "matrix"] (defScope s_turned) := ⟨rfl, rfl, rfl, by decide +kernel, rfl, by decide +kernel, by decide +kernel⟩
abbrev N_stretched : List Str := ["program", "times", "readings", "reader", "read", "step", "part"]
theorem sc_stretched : FnScope N_stretched ["program", "times"] (defScope s_stretched) := ⟨rfl, rfl, rfl, by decide +kernel, rfl, by decide +kernel, by decide +kernel⟩
abbrev N_beside : List Str := ["one", "other", "moved", "reader", "read", "step"]
theorem sc_beside : FnScope N_beside ["one", "other"] (defScope s_beside) := ⟨rfl, rfl, rfl, by decide +kernel, rfl, by decide +kernel, by decide +kernel⟩
abbrev N_check_reading : List Str := ["program", "thing"]
theorem sc_check_reading : FnScope N_check_reading ["program", "thing"] (defScope s_check_reading) := ⟨rfl, rfl, rfl, by decide +kernel, rfl, by decide +kernel, by decide +kernel⟩
abbrev N_also : List Str := ["program", "reading"]
theorem sc_also : FnScope N_also ["program", "reading"] (defScope s_also) := ⟨rfl, rfl, rfl, by decide +kernel, rfl, by decide +kernel, by decide +kernel⟩
abbrev N_Summary_init : List Str := ["self", "begin", "end", "length", "added", "least", "most", "stands"]
theorem sc_Summary_init : FnScope N_Summary_init ["self", "begin", "end", "length", "added", "least", "most", "stands"] (defScope s_Summary_init) := ⟨rfl, rfl, rfl, by decide +kernel, rfl, by decide +kernel, by decide +kernel⟩
abbrev N_Summary_behind : List Str := ["self", "other", "added", "least", "most", "stands", "one", "two", "step"]
theorem sc_Summary_behind : FnScope N_Summary_behind ["self", "other"] (defScope s_Summary_behind) := ⟨rfl, rfl, rfl, by decide +kernel, rfl, by decide +kernel, by decide +kernel⟩
abbrev N_Summary_again : List Str := ["self", "many", "far", "least", "most", "added", "stands", "step", "one", "more", "number"]
theorem sc_Summary_again : FnScope N_Summary_again ["self", "many"] (defScope s_Summary_again) := ⟨rfl, rfl, rfl, by decide +kernel, rfl, by decide +kernel, by decide +kernel⟩
abbrev N_still : List Str := ["program", "nowhere"]
theorem sc_still : FnScope N_still ["program"] (defScope s_still) := ⟨rfl, rfl, rfl, by decide +kernel, rfl, by decide +kernel, by decide +kernel⟩
abbrev N_one_reading : List Str := ["program", "number", "reader", "read", "step", "least", "most", "stands", "part", "table"]
theorem sc_one_reading : FnScope N_one_reading ["program", "number"] (defScope s_one_reading) := ⟨rfl, rfl, rfl, by decide +kernel, rfl, by decide +kernel, by decide +kernel⟩
abbrev N_summary : List Str := ["program", "log", "found", "item", "later", "inner"]
theorem sc_summary : FnScope N_summary ["program", "log"] (defScope s_summary) := ⟨rfl, rfl, rfl, by decide +kernel, rfl, by decide +kernel, by decide +kernel⟩
abbrev N_is_rounds : List Str := ["thing"]
theorem sc_is_rounds : FnScope N_is_rounds ["thing"] (defScope s_is_rounds) := ⟨rfl, rfl, rfl, by decide +kernel, rfl, by decide +kernel, by decide +kernel⟩
abbrev N_is_built : List Str := ["program", "thing", "depth", "item"]
theorem sc_is_built : FnScope N_is_built ["program", "thing", "depth"] (defScope s_is_built) := ⟨rfl, rfl, rfl, by decide +kernel, rfl, by decide +kernel, by decide +kernel⟩
abbrev N_is_log : List Str := ["program", "thing"]
theorem sc_is_log : FnScope N_is_log ["program", "thing"] (defScope s_is_log) := ⟨rfl, rfl, rfl, by decide +kernel, rfl, by decide +kernel, by decide +kernel⟩
abbrev N_check_log : List Str := ["program", "thing"]
theorem sc_check_log : FnScope N_check_log ["program", "thing"] (defScope s_check_log) := ⟨rfl, rfl, rfl, by decide +kernel, rfl, by decide +kernel, by decide +kernel⟩
abbrev N_length : List Str := ["program", "log"]
theorem sc_length : FnScope N_length ["program", "log"] (defScope s_length) := ⟨rfl, rfl, rfl, by decide +kernel, rfl, by decide +kernel, by decide +kernel⟩
abbrev N_added : List Str := ["program", "log"]
theorem sc_added : FnScope N_added ["program", "log"] (defScope s_added) := ⟨rfl, rfl, rfl, by decide +kernel, rfl, by decide +kernel, by decide +kernel⟩
abbrev N_ends_of : List Str := ["program", "log", "found"]
theorem sc_ends_of : FnScope N_ends_of ["program", "log"] (defScope s_ends_of) := ⟨rfl, rfl, rfl, by decide +kernel, rfl, by decide +kernel, by decide +kernel⟩
abbrev N_reach : List Str := ["program", "log", "found"]
theorem sc_reach : FnScope N_reach ["program", "log"] (defScope s_reach) := ⟨rfl, rfl, rfl, by decide +kernel, rfl, by decide +kernel, by decide +kernel⟩
abbrev N_stands_in : List Str := ["found", "table"]
theorem sc_stands_in : FnScope N_stands_in ["found", "table"] (defScope s_stands_in) := ⟨rfl, rfl, rfl, by decide +kernel, rfl, by decide +kernel, by decide +kernel⟩
abbrev N_visits : List Str := ["program", "log", "table", "found"]
theorem sc_visits : FnScope N_visits ["program", "log", "table"] (defScope s_visits) := ⟨rfl, rfl, rfl, by decide +kernel, rfl, by decide +kernel, by decide +kernel⟩
abbrev N_law_pool : List Str := ["_law_script", "_law_seed", "_law_cell"]
theorem sc_law_pool : FnScope N_law_pool ["_law_script"] (defScope s_law_pool) := ⟨rfl, rfl, rfl, by decide +kernel, rfl, by decide +kernel, by decide +kernel⟩
abbrev N_law_draw : List Str := ["_law_pool_here", "_law_many", "_law_cells", "_law_digit", "_law_mixed_here"]
theorem sc_law_draw : FnScope N_law_draw ["_law_pool_here", "_law_many"] (defScope s_law_draw) := ⟨rfl, rfl, rfl, by decide +kernel, rfl, by decide +kernel, by decide +kernel⟩
abbrev N_law_some : List Str := ["_law_pool_here", "_law_things"]
theorem sc_law_some : FnScope N_law_some ["_law_pool_here", "_law_things"] (defScope s_law_some) := ⟨rfl, rfl, rfl, by decide +kernel, rfl, by decide +kernel, by decide +kernel⟩
abbrev N_law_mixed : List Str := ["_law_pool_here", "_law_things", "_law_left", "_law_k"]
theorem sc_law_mixed : FnScope N_law_mixed ["_law_pool_here", "_law_things"] (defScope s_law_mixed) := ⟨rfl, rfl, rfl, by decide +kernel, rfl, by decide +kernel, by decide +kernel⟩
abbrev N_law_step : List Str := ["_law_pool_here", "_law_sides", "_law_kind", "_law_k"]
theorem sc_law_step : FnScope N_law_step ["_law_pool_here", "_law_sides"] (defScope s_law_step) := ⟨rfl, rfl, rfl, by decide +kernel, rfl, by decide +kernel, by decide +kernel⟩
abbrev N_law_program : List Str := ["_law_parts"]
theorem sc_law_program : FnScope N_law_program ["_law_parts"] (defScope s_law_program) := ⟨rfl, rfl, rfl, by decide +kernel, rfl, by decide +kernel, by decide +kernel⟩
abbrev N_law_ringed : List Str := ["_law_pool_here", "_law_sides", "_law_tables", "_law_readings", "_law_k"]
theorem sc_law_ringed : FnScope N_law_ringed ["_law_pool_here"] (defScope s_law_ringed) := ⟨rfl, rfl, rfl, by decide +kernel, rfl, by decide +kernel, by decide +kernel⟩
abbrev N_law_from : List Str := ["_law_parts", "_law_table", "_law_k"]
theorem sc_law_from : FnScope N_law_from ["_law_parts", "_law_table"] (defScope s_law_from) := ⟨rfl, rfl, rfl, by decide +kernel, rfl, by decide +kernel, by decide +kernel⟩
abbrev N_law_back : List Str := ["_law_parts", "_law_begin", "_law_end", "_law_known", "_law_layer", "_law_turn", "_law_later", "_law_here", "_law_number", "_law_there"]
theorem sc_law_back : FnScope N_law_back ["_law_parts", "_law_begin", "_law_end"] (defScope s_law_back) := ⟨rfl, rfl, rfl, by decide +kernel, rfl, by decide +kernel, by decide +kernel⟩
abbrev N_law_drawn_log : List Str := ["_law_pool_here", "_law_parts", "_law_table", "_law_deep", "_law_great", "_law_items", "_law_here", "_law_turn", "_law_inner", "_law_there", "_law_many", "_law_number"]
theorem sc_law_drawn_log : FnScope N_law_drawn_log ["_law_pool_here", "_law_parts", "_law_table", "_law_deep", "_law_great"] (defScope s_law_drawn_log) := ⟨rfl, rfl, rfl, by decide +kernel, rfl, by decide +kernel, by decide +kernel⟩
abbrev N_law_moved : List Str := ["_law_log", "_law_numbers_here", "_law_made", "_law_item"]
theorem sc_law_moved : FnScope N_law_moved ["_law_log", "_law_numbers_here"] (defScope s_law_moved) := ⟨rfl, rfl, rfl, by decide +kernel, rfl, by decide +kernel, by decide +kernel⟩
abbrev N_law_from_behind : List Str := ["_law_log", "_law_made", "_law_item"]
theorem sc_law_from_behind : FnScope N_law_from_behind ["_law_log"] (defScope s_law_from_behind) := ⟨rfl, rfl, rfl, by decide +kernel, rfl, by decide +kernel, by decide +kernel⟩
abbrev N_law_numbers : List Str := ["_law_parts", "_law_other", "_law_moved_here", "_law_k"]
theorem sc_law_numbers : FnScope N_law_numbers ["_law_parts", "_law_other", "_law_moved_here"] (defScope s_law_numbers) := ⟨rfl, rfl, rfl, by decide +kernel, rfl, by decide +kernel, by decide +kernel⟩
abbrev N_law_tells : List Str := ["_law_program_here", "_law_log"]
theorem sc_law_tells : FnScope N_law_tells ["_law_program_here", "_law_log"] (defScope s_law_tells) := ⟨rfl, rfl, rfl, by decide +kernel, rfl, by decide +kernel, by decide +kernel⟩
abbrev N_law_renamed_right : List Str := ["_law_pool_here", "_law_parts", "_law_program_here", "_law_log", "_law_names", "_law_other", "_law_moved_here", "_law_there", "_law_table", "_law_ends", "_law_one"]
theorem sc_law_renamed_right : FnScope N_law_renamed_right ["_law_pool_here", "_law_parts", "_law_program_here", "_law_log"] (defScope s_law_renamed_right) := ⟨rfl, rfl, rfl, by decide +kernel, rfl, by decide +kernel, by decide +kernel⟩
abbrev N_law_backward_right : List Str := ["_law_parts", "_law_program_here", "_law_log", "_law_other", "_law_moved_here", "_law_there", "_law_total", "_law_least", "_law_most", "_law_due", "_law_more", "_law_one", "_law_item", "_law_part"]
theorem sc_law_backward_right : FnScope N_law_backward_right ["_law_parts", "_law_program_here", "_law_log"] (defScope s_law_backward_right) := ⟨rfl, rfl, rfl, by decide +kernel, rfl, by decide +kernel, by decide +kernel⟩
abbrev N_law_led_right : List Str := ["_law_pool_here", "_law_parts", "_law_program_here", "_law_log", "_law_times", "_law_long", "_law_moved_here", "_law_there", "_law_least", "_law_most", "_law_rows", "_law_matrix", "_law_other", "_law_one", "_law_total", "_law_due", "_law_item", "_law_k", "_law_j", "_law_row"]
theorem sc_law_led_right : FnScope N_law_led_right ["_law_pool_here", "_law_parts", "_law_program_here", "_law_log"] (defScope s_law_led_right) := ⟨rfl, rfl, rfl, by decide +kernel, rfl, by decide +kernel, by decide +kernel⟩
abbrev N_law_beside_right : List Str := ["_law_pool_here", "_law_parts", "_law_program_here", "_law_log", "_law_more", "_law_fresh", "_law_there", "_law_k"]
theorem sc_law_beside_right : FnScope N_law_beside_right ["_law_pool_here", "_law_parts", "_law_program_here", "_law_log"] (defScope s_law_beside_right) := ⟨rfl, rfl, rfl, by decide +kernel, rfl, by decide +kernel, by decide +kernel⟩
abbrev N_law : List Str := ["_law_script", "_law_pool_here", "_law_turn", "_law_parts", "_law_program_here", "_law_log"]
theorem sc_law : FnScope N_law ["_law_script"] (defScope s_law) := ⟨rfl, rfl, rfl, by decide +kernel, rfl, by decide +kernel, by decide +kernel⟩
end K19
set_option maxHeartbeats 0
namespace K19
open PySem PySem.Spec PyProof.Rows L2
def d_is_integer : He.DefD := ⟨("is_integer", none), "is_integer", "is_integer", defArgs s_is_integer, defBody s_is_integer, defScope s_is_integer, [], []⟩
def d_is_within : He.DefD := ⟨("is_within", none), "is_within", "is_within", defArgs s_is_within, defBody s_is_within, defScope s_is_within, [], []⟩
def d_is_triple : He.DefD := ⟨("is_triple", none), "is_triple", "is_triple", defArgs s_is_triple, defBody s_is_triple, defScope s_is_triple, [], []⟩
def d_are_integers : He.DefD := ⟨("are_integers", none), "are_integers", "are_integers", defArgs s_are_integers, defBody s_are_integers, defScope s_are_integers, [], []⟩
def d_are_within : He.DefD := ⟨("are_within", none), "are_within", "are_within", defArgs s_are_within, defBody s_are_within, defScope s_are_within, [], []⟩
def d_are_all : He.DefD := ⟨("are_all", none), "are_all", "are_all", defArgs s_are_all, defBody s_are_all, defScope s_are_all, [], []⟩
def d_check_number : He.DefD := ⟨("check_number", none), "check_number", "check_number", defArgs s_check_number, defBody s_check_number, defScope s_check_number, [], []⟩
def d_is_reading : He.DefD := ⟨("is_reading", none), "is_reading", "is_reading", defArgs s_is_reading, defBody s_is_reading, defScope s_is_reading, [], []⟩
def d_Program_init : He.DefD := ⟨("Program", some "__init__"), "__init__", "Program.__init__", defArgs s_Program_init, defBody s_Program_init, defScope s_Program_init, [], []⟩
def d_Program_keep : He.DefD := ⟨("Program", some "keep"), "keep", "Program.keep", defArgs s_Program_keep, defBody s_Program_keep, defScope s_Program_keep, [], []⟩
def d_program_of : He.DefD := ⟨("program_of", none), "program_of", "program_of", defArgs s_program_of, defBody s_program_of, defScope s_program_of, [], []⟩
def d_check_table : He.DefD := ⟨("check_table", none), "check_table", "check_table", defArgs s_check_table, defBody s_check_table, defScope s_check_table, [], []⟩
def d_renamed : He.DefD := ⟨("renamed", none), "renamed", "renamed", defArgs s_renamed, defBody s_renamed, defScope s_renamed, [], []⟩
def d_backward : He.DefD := ⟨("backward", none), "backward", "backward", defArgs s_backward, defBody s_backward, defScope s_backward, [], []⟩
def d_determinant : He.DefD := ⟨("determinant", none), "determinant", "determinant", defArgs s_determinant, defBody s_determinant, defScope s_determinant, [], []⟩
def d_dot : He.DefD := ⟨("dot", none), "dot", "dot", defArgs s_dot, defBody s_dot, defScope s_dot, [], []⟩
def d_turned : He.DefD := ⟨("turned", none), "turned", "turned", defArgs s_turned, defBody s_turned, defScope s_turned, [], []⟩
def d_stretched : He.DefD := ⟨("stretched", none), "stretched", "stretched", defArgs s_stretched, defBody s_stretched, defScope s_stretched, [], []⟩
def d_beside : He.DefD := ⟨("beside", none), "beside", "beside", defArgs s_beside, defBody s_beside, defScope s_beside, [], []⟩
def d_check_reading : He.DefD := ⟨("check_reading", none), "check_reading", "check_reading", defArgs s_check_reading, defBody s_check_reading, defScope s_check_reading, [], []⟩
def d_also : He.DefD := ⟨("also", none), "also", "also", defArgs s_also, defBody s_also, defScope s_also, [], []⟩
def d_Summary_init : He.DefD := ⟨("Summary", some "__init__"), "__init__", "Summary.__init__", defArgs s_Summary_init, defBody s_Summary_init, defScope s_Summary_init, [], []⟩
def d_Summary_behind : He.DefD := ⟨("Summary", some "behind"), "behind", "Summary.behind", defArgs s_Summary_behind, defBody s_Summary_behind, defScope s_Summary_behind, [], []⟩
def d_Summary_again : He.DefD := ⟨("Summary", some "again"), "again", "Summary.again", defArgs s_Summary_again, defBody s_Summary_again, defScope s_Summary_again, [], []⟩
def d_still : He.DefD := ⟨("still", none), "still", "still", defArgs s_still, defBody s_still, defScope s_still, [], []⟩
def d_one_reading : He.DefD := ⟨("one_reading", none), "one_reading", "one_reading", defArgs s_one_reading, defBody s_one_reading, defScope s_one_reading, [], []⟩
def d_summary : He.DefD := ⟨("summary", none), "summary", "summary", defArgs s_summary, defBody s_summary, defScope s_summary, [], []⟩
def d_is_rounds : He.DefD := ⟨("is_rounds", none), "is_rounds", "is_rounds", defArgs s_is_rounds, defBody s_is_rounds, defScope s_is_rounds, [], []⟩
def d_is_built : He.DefD := ⟨("is_built", none), "is_built", "is_built", defArgs s_is_built, defBody s_is_built, defScope s_is_built, [], []⟩
def d_is_log : He.DefD := ⟨("is_log", none), "is_log", "is_log", defArgs s_is_log, defBody s_is_log, defScope s_is_log, [], []⟩
def d_check_log : He.DefD := ⟨("check_log", none), "check_log", "check_log", defArgs s_check_log, defBody s_check_log, defScope s_check_log, [], []⟩
def d_length : He.DefD := ⟨("length", none), "length", "length", defArgs s_length, defBody s_length, defScope s_length, [], []⟩
def d_added : He.DefD := ⟨("added", none), "added", "added", defArgs s_added, defBody s_added, defScope s_added, [], []⟩
def d_ends_of : He.DefD := ⟨("ends_of", none), "ends_of", "ends_of", defArgs s_ends_of, defBody s_ends_of, defScope s_ends_of, [], []⟩
def d_reach : He.DefD := ⟨("reach", none), "reach", "reach", defArgs s_reach, defBody s_reach, defScope s_reach, [], []⟩
def d_stands_in : He.DefD := ⟨("stands_in", none), "stands_in", "stands_in", defArgs s_stands_in, defBody s_stands_in, defScope s_stands_in, [], []⟩
def d_visits : He.DefD := ⟨("visits", none), "visits", "visits", defArgs s_visits, defBody s_visits, defScope s_visits, [], []⟩
def d_law_pool : He.DefD := ⟨("_law_pool", none), "_law_pool", "_law_pool", defArgs s_law_pool, defBody s_law_pool, defScope s_law_pool, [], []⟩
def d_law_draw : He.DefD := ⟨("_law_draw", none), "_law_draw", "_law_draw", defArgs s_law_draw, defBody s_law_draw, defScope s_law_draw, [], []⟩
def d_law_some : He.DefD := ⟨("_law_some", none), "_law_some", "_law_some", defArgs s_law_some, defBody s_law_some, defScope s_law_some, [], []⟩
def d_law_mixed : He.DefD := ⟨("_law_mixed", none), "_law_mixed", "_law_mixed", defArgs s_law_mixed, defBody s_law_mixed, defScope s_law_mixed, [], []⟩
def d_law_step : He.DefD := ⟨("_law_step", none), "_law_step", "_law_step", defArgs s_law_step, defBody s_law_step, defScope s_law_step, [], []⟩
def d_law_program : He.DefD := ⟨("_law_program", none), "_law_program", "_law_program", defArgs s_law_program, defBody s_law_program, defScope s_law_program, [], []⟩
def d_law_ringed : He.DefD := ⟨("_law_ringed", none), "_law_ringed", "_law_ringed", defArgs s_law_ringed, defBody s_law_ringed, defScope s_law_ringed, [], []⟩
def d_law_from : He.DefD := ⟨("_law_from", none), "_law_from", "_law_from", defArgs s_law_from, defBody s_law_from, defScope s_law_from, [], []⟩
def d_law_back : He.DefD := ⟨("_law_back", none), "_law_back", "_law_back", defArgs s_law_back, defBody s_law_back, defScope s_law_back, [], []⟩
def d_law_drawn_log : He.DefD := ⟨("_law_drawn_log", none), "_law_drawn_log", "_law_drawn_log", defArgs s_law_drawn_log, defBody s_law_drawn_log, defScope s_law_drawn_log, [], []⟩
def d_law_moved : He.DefD := ⟨("_law_moved", none), "_law_moved", "_law_moved", defArgs s_law_moved, defBody s_law_moved, defScope s_law_moved, [], []⟩
def d_law_from_behind : He.DefD := ⟨("_law_from_behind", none), "_law_from_behind", "_law_from_behind", defArgs s_law_from_behind, defBody s_law_from_behind, defScope s_law_from_behind, [], []⟩
def d_law_numbers : He.DefD := ⟨("_law_numbers", none), "_law_numbers", "_law_numbers", defArgs s_law_numbers, defBody s_law_numbers, defScope s_law_numbers, [], []⟩
def d_law_tells : He.DefD := ⟨("_law_tells", none), "_law_tells", "_law_tells", defArgs s_law_tells, defBody s_law_tells, defScope s_law_tells, [], []⟩
def d_law_renamed_right : He.DefD := ⟨("_law_renamed_right", none), "_law_renamed_right", "_law_renamed_right", defArgs s_law_renamed_right, defBody s_law_renamed_right, defScope s_law_renamed_right, [], []⟩
def d_law_backward_right : He.DefD := ⟨("_law_backward_right", none), "_law_backward_right", "_law_backward_right", defArgs s_law_backward_right, defBody s_law_backward_right, defScope s_law_backward_right, [], []⟩
def d_law_led_right : He.DefD := ⟨("_law_led_right", none), "_law_led_right", "_law_led_right", defArgs s_law_led_right, defBody s_law_led_right, defScope s_law_led_right, [], []⟩
def d_law_beside_right : He.DefD := ⟨("_law_beside_right", none), "_law_beside_right", "_law_beside_right", defArgs s_law_beside_right, defBody s_law_beside_right, defScope s_law_beside_right, [], []⟩
def d_law : He.DefD := ⟨("law", none), "law", "law", defArgs s_law, defBody s_law, defScope s_law, [], []⟩
def fn : List He.DefD := [d_is_integer, d_is_within, d_is_triple, d_are_integers, d_are_within, d_are_all, d_check_number, d_is_reading, d_Program_init, d_Program_keep, d_program_of, d_check_table, d_renamed, d_backward, d_determinant, d_dot, d_turned, d_stretched, d_beside, d_check_reading, d_also, d_Summary_init, d_Summary_behind, d_Summary_again, d_still, d_one_reading, d_summary, d_is_rounds, d_is_built, d_is_log, d_check_log, d_length, d_added, d_ends_of, d_reach, d_stands_in, d_visits, d_law_pool, d_law_draw, d_law_some, d_law_mixed, d_law_step, d_law_program, d_law_ringed, d_law_from, d_law_back, d_law_drawn_log, d_law_moved, d_law_from_behind, d_law_numbers, d_law_tells, d_law_renamed_right, d_law_backward_right, d_law_led_right, d_law_beside_right, d_law]
def fa : List He.Fa := [.glo "is_integer", .glo "is_within", .glo "is_triple", .glo "are_integers", .glo "are_within", .glo "are_all", .glo "check_number", .glo "is_reading", .glo "program_of", .glo "check_table", .glo "renamed", .glo "backward", .glo "determinant", .glo "dot", .glo "turned", .glo "stretched", .glo "beside", .glo "check_reading", .glo "also", .glo "still", .glo "one_reading", .glo "summary", .glo "is_rounds", .glo "is_built", .glo "is_log", .glo "check_log", .glo "length", .glo "added", .glo "ends_of", .glo "reach", .glo "stands_in", .glo "visits", .glo "_law_pool", .glo "_law_draw", .glo "_law_some", .glo "_law_mixed", .glo "_law_step", .glo "_law_program", .glo "_law_ringed", .glo "_law_from", .glo "_law_back", .glo "_law_drawn_log", .glo "_law_moved", .glo "_law_from_behind", .glo "_law_numbers", .glo "_law_tells", .glo "_law_renamed_right", .glo "_law_backward_right", .glo "_law_led_right", .glo "_law_beside_right", .glo "law", .free "isinstance", .free "int", .free "bool", .free "tuple", .free "len", .free "all", .free "sorted", .free "list", .free "range", .free "set", .free "enumerate", .free "sum", .free "zip", .free "min", .free "max", .free "abs", .free "str", .int "MOST_SIDES" 4, .int "MOST_TABLES" 8, .int "MOST_READINGS" 24, .int "MOST_STEP" 1000000000000, .int "MOST_TIMES" 1000000000000, .int "MOST_NESTED" 30, .glo "Program", .cls "Program", .mkr "Program", .meth "Program" "keep", .noat "Program" "sides", .noat "Program" "tables", .noat "Program" "readings", .glo "Summary", .cls "Summary", .mkr "Summary", .meth "Summary" "behind", .meth "Summary" "again", .noat "Summary" "begin", .noat "Summary" "end", .noat "Summary" "length", .noat "Summary" "added", .noat "Summary" "least", .noat "Summary" "most", .noat "Summary" "stands"]
def loose : List PySem.Str := (["TurnError", "BadProgram", "NoNames", "NoMatrix", "NoNumber", "OtherSides", "NoReading", "NoLog"] : List PySem.Str) ++ (["NoTable", "is_integer", "is_within", "is_triple", "are_integers", "are_within", "are_all", "check_number"] : List PySem.Str) ++ (["MOST_SIDES", "MOST_TABLES", "MOST_READINGS", "MOST_STEP", "MOST_TIMES", "is_reading", "Program", "program_of"] : List PySem.Str) ++ (["check_table", "renamed", "backward", "determinant", "dot", "turned", "stretched", "beside"] : List PySem.Str) ++ (["check_reading", "also", "MOST_NESTED", "Summary", "still", "one_reading", "summary", "is_rounds"] : List PySem.Str) ++ (["is_built", "is_log", "check_log", "length", "added", "ends_of", "reach", "stands_in"] : List PySem.Str) ++ (["visits", "_law_pool", "_law_draw", "_law_some", "_law_mixed", "_law_step", "_law_program", "_law_ringed"] : List PySem.Str) ++ (["_law_from", "_law_back", "_law_drawn_log", "_law_moved", "_law_from_behind", "_law_numbers", "_law_tells", "_law_renamed_right"] : List PySem.Str) ++ (["_law_backward_right", "_law_led_right", "_law_beside_right"] : List PySem.Str)
abbrev R : PySem.W.OpenRow := PySem.W.OpenLaw.row PySem.Challenge.rw_turnsneeded_k19_whole_logs_in_other_prog
abbrev hk : PySem.W.Hook := He.hookD 5 fa fn
def ob (s : PySem.W.SharedT) : He.AlD := He.obsDG 5 fa fn (HandSHeadRun.getT s)
theorem ob_eq (s : PySem.W.SharedT) : ob s = hk.obs s.abs := He.obsDG_eq (HandSHeadRun.getT_eq s)
theorem run (w : World) : HandSHeadRun.RunEq R (PySem.W.view R.prog [72]) hk ob 6000 loose w := by
  intro os
  kernel_rfl
end K19
set_option maxHeartbeats 4000000
/-! THE DATA LAYER: values as plain data; a state = slots of data, own lists; readings as weakest preconditions over such states. -/
namespace K19
open PySem PySem.Spec PyProof.Rows L2
/-! ### the mirror's data -/
/-- a reading: who reads, what is read, the step -/
structure Rd where
  x : Int
  y : Int
  st : List Int
  deriving DecidableEq
/-- what a walk comes to -/
structure Sm where
  b : Option Int
  e : Option Int
  len : Int
  ad : List Int
  le : List Int
  mo : List Int
  st : List Int
def intsD (l : List Int) : PyData := .tuple (l.map .int)
def Rd.pd (r : Rd) : PyData := .tuple [.int r.x, .int r.y, intsD r.st]
def rds (l : List Rd) : PyData := .tuple (l.map Rd.pd)
def oi : Option Int → PyData
  | none => .none
  | some i => .int i
def oiV : Option Int → V
  | none => .non
  | some i => .int i
/-! ### tuples of tuples: a value's data -/
mutual
inductive Pd (K : PySem.W.Frag) (H : Hp) : PyData → V → Prop
  | non : Pd K H .none .non
  | bl (b : Bool) : Pd K H (.bool b) (.bl b)
  | int (i : Int) : Pd K H (.int i) (.int i)
  | str (x : Str) : Pd K H (.str x) (.str x)
  | tup {a : Addr} {vs : List V} {ds : List PyData} : SqT K H a vs → Pds K H ds vs → Pd K H (.tuple ds) (.ref a)
inductive Pds (K : PySem.W.Frag) (H : Hp) : List PyData → List V → Prop
  | nil : Pds K H [] []
  | cons {v : V} {vs : List V} {d : PyData} {ds : List PyData} : Pd K H d v → Pds K H ds vs → Pds K H (d :: ds) (v :: vs)
end
/-- what may be changed in place -/
def muO : HO → Bool
  | .lst _ => true
  | .dK _ => true
  | _ => false
/-- all stands but what may be changed at S -/
def Stay (S : Addr → Prop) (H H' : Hp) : Prop := ∀ a o, H a = some o → (muO o = true → ¬ S a) → H' a = some o
theorem Stay.refl {S : Addr → Prop} {H : Hp} : Stay S H H := fun _ _ h _ => h
theorem Stay.mono {S S' : Addr → Prop} {H H' : Hp} (s : Stay S H H') (h : ∀ a, S a → S' a) : Stay S' H H' := fun a o e n => s a o e fun m z => n m (h a z)
theorem Stay.new {S : Addr → Prop} {H : Hp} {p : Addr} {o : HO} (h : H p = none) : Stay S H (upd H p o) := fun a u e _ => by
  rw [upd_ne (ne_of_none e h)]
  exact e
theorem Stay.sqT {S : Addr → Prop} {K : PySem.W.Frag} {H H' : Hp} {a : Addr} {vs : List V} (s : Stay S H H') (h : SqT K H a vs) : SqT K H' a vs := by
  rcases h with (h | ⟨o, h⟩) | h
  · exact .inl (.inl (s _ _ h (fun z => nomatch z)))
  · exact .inl (.inr ⟨o, s _ _ h (fun z => nomatch z)⟩)
  · exact .inr h
theorem Stay.rd {S : Addr → Prop} {H H' : Hp} {a : Addr} {vs : List V} (s : Stay S H H') (n : ¬ S a) (h : L2.Rd H a (.lst vs)) : L2.Rd H' a (.lst vs) := by
  rcases h with h | ⟨o, h⟩
  · exact .inl (s _ _ h (fun _ => n))
  · exact .inr ⟨o, s _ _ h (fun z => nomatch z)⟩
theorem Stay.sqL {S : Addr → Prop} {K : PySem.W.Frag} {H H' : Hp} {a : Addr} {vs : List V} (s : Stay S H H') (n : ¬ S a) (h : SqL K H a vs) : SqL K H' a vs := by
  rcases h with (h | ⟨o, h⟩) | h
  · exact .inl (.inl (s _ _ h (fun _ => n)))
  · exact .inl (.inr ⟨o, s _ _ h (fun z => nomatch z)⟩)
  · exact .inr h
mutual
theorem Pd.mono {S : Addr → Prop} {K : PySem.W.Frag} {H H' : Hp} (s : Stay S H H') : ∀ (d : PyData) (v : V), Pd K H d v → Pd K H' d v
  | .none, _, h => by cases h; exact .non
  | .bool _, _, h => by cases h; exact .bl _
  | .int _, _, h => by cases h; exact .int _
  | .str _, _, h => by cases h; exact .str _
  | .list _, _, h => by cases h
  | .dict _, _, h => by cases h
  | .tuple ds, _, h => by
    cases h with
    | tup h hs => exact .tup (s.sqT h) (Pds.mono s ds _ hs)
theorem Pds.mono {S : Addr → Prop} {K : PySem.W.Frag} {H H' : Hp} (s : Stay S H H') : ∀ (ds : List PyData) (vs : List V), Pds K H ds vs → Pds K H' ds vs
  | [], _, h => by cases h; exact .nil
  | d :: ds, _, h => by
    cases h with
    | cons h hs => exact .cons (Pd.mono s d _ h) (Pds.mono s ds _ hs)
end
mutual
theorem Pd.dp {K : PySem.W.Frag} {H : Hp} : ∀ (d : PyData) (v : V), Pd K H d v → Dp K H v d
  | .none, _, h => by cases h; exact .non
  | .bool _, _, h => by cases h; exact .bl _
  | .int _, _, h => by cases h; exact .int _
  | .str _, _, h => by cases h; exact .str _
  | .list _, _, h => by cases h
  | .dict _, _, h => by cases h
  | .tuple ds, _, h => by
    cases h with
    | tup h hs => exact .tup h (Pds.dp ds _ hs)
theorem Pds.dp {K : PySem.W.Frag} {H : Hp} : ∀ (ds : List PyData) (vs : List V), Pds K H ds vs → DpAll K H vs ds
  | [], _, h => by cases h; exact .nil
  | d :: ds, _, h => by
    cases h with
    | cons h hs => exact .cons (Pd.dp d _ h) (Pds.dp ds _ hs)
end
section
variable {K : PySem.W.Frag} {H : Hp}
theorem Pds.length : ∀ {ds : List PyData} {vs : List V}, Pds K H ds vs → vs.length = ds.length
  | [], _, h => by cases h; rfl
  | _ :: _, _, h => by
    cases h with
    | cons _ hs => rw [List.length_cons, List.length_cons, Pds.length hs]
theorem Pds.get : ∀ {ds : List PyData} {vs : List V} {i : Nat} {d : PyData}, Pds K H ds vs → ds[i]? = some d → ∃ v, vs[i]? = some v ∧ Pd K H d v
  | [], _, _, _, h, e => by simp at e
  | _ :: _, _, i, _, h, e => by
    cases h with
    | cons h hs =>
      cases i with
      | zero =>
        rw [List.getElem?_cons_zero] at e
        cases e
        exact ⟨_, rfl, h⟩
      | succ i =>
        rw [List.getElem?_cons_succ] at e
        obtain ⟨v, e1, e2⟩ := Pds.get hs e
        exact ⟨v, by rw [List.getElem?_cons_succ]; exact e1, e2⟩
theorem Pds.getV : ∀ {ds : List PyData} {vs : List V} {i : Nat} {v : V}, Pds K H ds vs → vs[i]? = some v → ∃ d, ds[i]? = some d ∧ Pd K H d v
  | [], _, _, _, h, e => by cases h; simp at e
  | _ :: _, _, i, _, h, e => by
    cases h with
    | cons h hs =>
      cases i with
      | zero =>
        rw [List.getElem?_cons_zero] at e
        cases e
        exact ⟨_, rfl, h⟩
      | succ i =>
        rw [List.getElem?_cons_succ] at e
        obtain ⟨v, e1, e2⟩ := Pds.getV hs e
        exact ⟨v, by rw [List.getElem?_cons_succ]; exact e1, e2⟩
theorem Pds.append : ∀ {ds es : List PyData} {vs ws : List V}, Pds K H ds vs → Pds K H es ws → Pds K H (ds ++ es) (vs ++ ws)
  | [], _, _, _, h, q => by cases h; exact q
  | _ :: _, _, _, _, h, q => by
    cases h with
    | cons h hs => exact .cons h (Pds.append hs q)
theorem Pds.one {d : PyData} {v : V} (h : Pd K H d v) : Pds K H [d] [v] := .cons h .nil
theorem Pds.set {e : PyData} {w : V} (q : Pd K H e w) : ∀ {ds : List PyData} {vs : List V} (i : Nat), Pds K H ds vs → Pds K H (ds.set i e) (vs.set i w)
  | [], _, _, h => by cases h; exact .nil
  | _ :: _, _, 0, h => by
    cases h with
    | cons h hs => exact .cons q hs
  | _ :: _, _, i + 1, h => by
    cases h with
    | cons h hs => exact .cons h (Pds.set q i hs)
theorem Pds.erase : ∀ {ds : List PyData} {vs : List V} (i : Nat), Pds K H ds vs → Pds K H (ds.eraseIdx i) (vs.eraseIdx i)
  | [], _, _, h => by cases h; exact .nil
  | _ :: _, _, 0, h => by
    cases h with
    | cons h hs => exact hs
  | _ :: _, _, i + 1, h => by
    cases h with
    | cons h hs => exact .cons h (Pds.erase i hs)
theorem Pds.take : ∀ {ds : List PyData} {vs : List V} (i : Nat), Pds K H ds vs → Pds K H (ds.take i) (vs.take i)
  | [], _, i, h => by cases h; rw [List.take_nil, List.take_nil]; exact .nil
  | _ :: _, _, 0, h => .nil
  | _ :: _, _, i + 1, h => by
    cases h with
    | cons h hs => exact .cons h (Pds.take i hs)
theorem Pds.drop : ∀ {ds : List PyData} {vs : List V} (i : Nat), Pds K H ds vs → Pds K H (ds.drop i) (vs.drop i)
  | [], _, i, h => by cases h; rw [List.drop_nil, List.drop_nil]; exact .nil
  | _ :: _, _, 0, h => h
  | _ :: _, _, i + 1, h => by
    cases h with
    | cons h hs => exact Pds.drop i hs
theorem Pds.reverse : ∀ {ds : List PyData} {vs : List V}, Pds K H ds vs → Pds K H ds.reverse vs.reverse
  | [], _, h => by cases h; exact .nil
  | _ :: _, _, h => by
    cases h with
    | cons h hs =>
      rw [List.reverse_cons, List.reverse_cons]
      exact Pds.append (Pds.reverse hs) (.one h)
/-- ints are just themselves -/
theorem Pds.toInts : ∀ {ns : List Int} {vs : List V}, Pds K H (ns.map .int) vs → vs = ns.map V.int
  | [], _, h => by cases h; rfl
  | n :: ns, _, h => by
    cases h with
    | cons h hs =>
      cases h
      rw [List.map_cons, Pds.toInts hs]
theorem Pds.ofInts : ∀ (ns : List Int), Pds K H (ns.map .int) (ns.map V.int)
  | [] => .nil
  | n :: ns => .cons (.int n) (Pds.ofInts ns)
theorem Pds.bools : ∀ {ns : List Bool} {vs : List V}, Pds K H (ns.map .bool) vs → vs = ns.map V.bl
  | [], _, h => by cases h; rfl
  | n :: ns, _, h => by
    cases h with
    | cons h hs =>
      cases h
      rw [List.map_cons, Pds.bools hs]
theorem Pd.sq {ds : List PyData} {v : V} (h : Pd K H (.tuple ds) v) : ∃ a vs, v = .ref a ∧ SqT K H a vs ∧ Pds K H ds vs := by
  cases h with
  | tup h hs => exact ⟨_, _, rfl, h, hs⟩
theorem Pd.toInts {ns : List Int} {v : V} (h : Pd K H (intsD ns) v) : ∃ a, v = .ref a ∧ SqT K H a (ns.map V.int) := by
  obtain ⟨a, vs, rfl, h, hs⟩ := h.sq
  rw [Pds.toInts hs] at h
  exact ⟨a, rfl, h⟩
end
/-! ### the world: the written part, the two classes -/
structure Gk where
  K : PySem.W.Frag
  CP : Addr
  CS : Addr
  clP : Cls K CP
  clS : Cls K CS
  nP : ∀ f : Str, f ∈ (["sides", "tables", "readings"] : List Str) → NoAttr K CP f
  nS : ∀ f : Str, f ∈ (["begin", "end", "length", "added", "least", "most", "stands"] : List Str) → NoAttr K CS f
/-- a call's frame: the pool's two lists (where there is one), the heap at the entry -/
structure Cg where
  po : Option (Addr × Addr)
  H0 : Hp
def Cg.has (c : Cg) (a : Addr) : Prop := ∃ pl cl, c.po = some (pl, cl) ∧ (a = pl ∨ a = cl)
/-- data: tuples and scalars; a list from outside; a list that this call made; the k-th own list; the pool; a program; a summary -/
inductive D where
  | p (d : PyData)
  | l (xs : List PyData)
  | nl (xs : List PyData)
  | m (k : Nat)
  | pool
  | prg (s t : Int) (rs : List Rd) (nd : Bool)
  | rdsF (rs : List Rd)
  | sm (S : Sm)
  | slf (C x : Addr)
  | ad (a : Addr)
/-- an own object: a list, a dict with int keys -/
inductive MO where
  | l (xs : List PyData)
  | d (kvs : List (Int × PyData))
section
variable (g : Gk) (c : Cg) (as : List Addr) (H : Hp)
/-- a tuple whose object has no dict -/
def NoDict (v : V) : Prop := ∃ a o us, v = .ref a ∧ H a = some (.frz o (.tup us)) ∧ o.dict = none
def PrgAt (v : V) (s t : Int) (rs : List Rd) (nd : Bool) : Prop := ∃ x dx rv, v = .ref x ∧ H x = some (.ins g.CP dx [("sides", .int s), ("tables", .int t), ("readings", rv)]) ∧ Pd g.K H (rds rs) rv ∧ (nd = true → NoDict H rv)
def SmAt (v : V) (S : Sm) : Prop := ∃ x dx va vl vm vs, v = .ref x ∧
  H x = some (.ins g.CS dx [("begin", oiV S.b), ("end", oiV S.e), ("length", .int S.len), ("added", va), ("least", vl), ("most", vm), ("stands", vs)]) ∧
  Pd g.K H (intsD S.ad) va ∧ Pd g.K H (intsD S.le) vl ∧ Pd g.K H (intsD S.mo) vm ∧ Pd g.K H (intsD S.st) vs
def IsD : D → V → Prop
  | .p d, v => Pd g.K H d v
  | .l xs, v => ∃ a vs, v = .ref a ∧ L2.Rd H a (.lst vs) ∧ a ∉ as ∧ ¬ c.has a ∧ Pds g.K H xs vs
  | .nl xs, v => ∃ a vs, v = .ref a ∧ H a = some (.lst vs) ∧ c.H0 a = none ∧ a ∉ as ∧ ¬ c.has a ∧ Pds g.K H xs vs
  | .m k, v => ∃ a, as[k]? = some a ∧ v = .ref a
  | .pool, v => ∃ pl cl, c.po = some (pl, cl) ∧ v = .ref pl
  | .prg s t rs nd, v => PrgAt g H v s t rs nd
  | .rdsF rs, v => Pd g.K H (rds rs) v ∧ NoDict H v
  | .sm S, v => SmAt g H v S
  | .slf C x, v => v = .ref x ∧ ∃ dx, H x = some (.ins C dx [])
  | .ad a, v => v = .ref a
def OwnAt (a : Addr) : MO → Prop
  | .l xs => ∃ vs, H a = some (.lst vs) ∧ Pds g.K H xs vs
  | .d kvs => ∃ ws : List V, ws.length = kvs.length ∧ H a = some (.dK ((kvs.map fun q => (Sum.inl q.1 : Key)).zip ws)) ∧ Pds g.K H (kvs.map (·.2)) ws
def PoolAt (pl cl : Addr) : Prop := ∃ (s n : Int) (cs : List Int), H pl = some (.lst [.int s, .int n, .ref cl]) ∧ H cl = some (.lst (cs.map V.int)) ∧ cs.length ≤ 63 ∧ ∀ z ∈ cs, 0 ≤ z
def PoolOk : Prop := ∀ pl cl, c.po = some (pl, cl) → pl ≠ cl ∧ c.H0 pl ≠ none ∧ c.H0 cl ≠ none ∧ PoolAt H pl cl
end
structure Lo (g : Gk) (c : Cg) (gs : List (V × D)) (as : List Addr) (H : Hp) (σ : L2.St) (ds : List (Option D)) (ms : List MO) : Prop where
  keep : ∀ a o, c.H0 a = some o → ¬ c.has a → H a = some o
  fr : ∀ a ∈ as, c.H0 a = none
  nd : as.Nodup
  ln : as.length = ms.length
  own : ∀ (k : Nat) (a : Addr) (m : MO), as[k]? = some a → ms[k]? = some m → OwnAt g H a m
  pool : PoolOk c H
  sln : σ.length = ds.length
  sl : ∀ (i : Nat) (d : D), ds[i]? = some (some d) → ∃ v, σ[i]? = some (some v) ∧ IsD g c as H d v
  gh : ∀ p ∈ gs, IsD g c as H p.2 p.1
section
variable {g : Gk} {c : Cg} {as : List Addr} {H H' : Hp} {σ : L2.St} {ds : List (Option D)} {ms : List MO} {gs : List (V × D)}
theorem NoDict.mono {S : Addr → Prop} {v : V} (y : Stay S H H') (h : NoDict H v) : NoDict H' v := by
  obtain ⟨a, o, us, e, h1, h2⟩ := h
  exact ⟨a, o, us, e, y _ _ h1 (fun z => nomatch z), h2⟩
theorem PrgAt.mono {S : Addr → Prop} {v : V} {s t : Int} {rs : List Rd} {nd : Bool} (y : Stay S H H') (h : PrgAt g H v s t rs nd) : PrgAt g H' v s t rs nd := by
  obtain ⟨x, dx, rv, e, h1, h2, h3⟩ := h
  exact ⟨x, dx, rv, e, y _ _ h1 (fun z => nomatch z), Pd.mono y _ _ h2, fun z => (h3 z).mono y⟩
theorem SmAt.mono {S : Addr → Prop} {v : V} {s : Sm} (y : Stay S H H') (h : SmAt g H v s) : SmAt g H' v s := by
  obtain ⟨x, dx, va, vl, vm, vs, e, h1, h2, h3, h4, h5⟩ := h
  exact ⟨x, dx, va, vl, vm, vs, e, y _ _ h1 (fun z => nomatch z), Pd.mono y _ _ h2, Pd.mono y _ _ h3, Pd.mono y _ _ h4, Pd.mono y _ _ h5⟩
/-- data stand while nothing but the own lists and the pool is changed -/
theorem IsD.mono (y : Stay (fun a => a ∈ as ∨ c.has a) H H') : ∀ {d : D} {v : V}, IsD g c as H d v → IsD g c as H' d v
  | .p _, _, h => Pd.mono y _ _ h
  | .l _, _, ⟨a, vs, e, h, n1, n2, hs⟩ => ⟨a, vs, e, y.rd (fun z => z.elim n1 n2) h, n1, n2, Pds.mono y _ _ hs⟩
  | .nl _, _, ⟨a, vs, e, h, n0, n1, n2, hs⟩ => ⟨a, vs, e, y _ _ h (fun _ z => z.elim n1 n2), n0, n1, n2, Pds.mono y _ _ hs⟩
  | .m _, _, h => h
  | .pool, _, h => h
  | .prg _ _ _ _, _, h => PrgAt.mono y h
  | .rdsF _, _, h => ⟨Pd.mono y _ _ h.1, h.2.mono y⟩
  | .sm _, _, h => SmAt.mono y h
  | .slf _ _, _, ⟨e, dx, h⟩ => ⟨e, dx, y _ _ h (fun z => nomatch z)⟩
  | .ad _, _, h => h
theorem OwnAt.mono {S : Addr → Prop} {a : Addr} (y : Stay S H H') (n : ¬ S a) : ∀ {m : MO}, OwnAt g H a m → OwnAt g H' a m
  | .l _, ⟨vs, h, hs⟩ => ⟨vs, y _ _ h (fun _ => n), Pds.mono y _ _ hs⟩
  | .d _, ⟨ws, e, h, hs⟩ => ⟨ws, e, y _ _ h (fun _ => n), Pds.mono y _ _ hs⟩
theorem OwnAt.some {a : Addr} : ∀ {m : MO}, OwnAt g H a m → H a ≠ none
  | .l _, ⟨vs, h, hs⟩ => by rw [h]; exact fun z => nomatch z
  | .d _, ⟨ws, e, h, hs⟩ => by rw [h]; exact fun z => nomatch z
theorem PoolOk.has0 (p : PoolOk c H) {a : Addr} (h : c.has a) : c.H0 a ≠ none := by
  obtain ⟨pl, cl, e, h⟩ := h
  obtain ⟨_, h1, h2, _⟩ := p pl cl e
  rcases h with h | h
  · rw [h]; exact h1
  · rw [h]; exact h2
theorem PoolOk.hasH (p : PoolOk c H) {a : Addr} (h : c.has a) : H a ≠ none := by
  obtain ⟨pl, cl, e, h⟩ := h
  obtain ⟨_, h1, h2, s, n, cs, q1, q2, _⟩ := p pl cl e
  rcases h with h | h
  · rw [h, q1]; exact fun z => nomatch z
  · rw [h, q2]; exact fun z => nomatch z
theorem Lo.ownNone (L : Lo g c gs as H σ ds ms) {p : Addr} (h : H p = none) : p ∉ as := fun hm => by
  obtain ⟨k, hk, e⟩ := List.getElem_of_mem hm
  have e1 : as[k]? = some p := by rw [List.getElem?_eq_getElem hk, e]
  have hk2 : k < ms.length := by rw [← L.ln]; exact hk
  exact (L.own k p _ e1 (List.getElem?_eq_getElem hk2)).some h
theorem Lo.new (L : Lo g c gs as H σ ds ms) {p : Addr} (h : H p = none) : c.H0 p = none ∧ p ∉ as ∧ ¬ c.has p := by
  have n2 : ¬ c.has p := fun z => L.pool.hasH z h
  refine ⟨?_, L.ownNone h, n2⟩
  cases q : c.H0 p with
  | none => rfl
  | some o =>
    rw [L.keep p o q n2] at h
    cases h
theorem Lo.ownPool (L : Lo g c gs as H σ ds ms) {a : Addr} (h : a ∈ as) : ¬ c.has a := fun z => L.pool.has0 z (L.fr a h)
theorem Lo.weak (L : Lo g c gs as H σ ds ms) {gs' : List (V × D)} (h : ∀ p ∈ gs', p ∈ gs) : Lo g c gs' as H σ ds ms :=
  ⟨L.keep, L.fr, L.nd, L.ln, L.own, L.pool, L.sln, L.sl, fun p hp => L.gh p (h p hp)⟩
theorem Lo.pop {q : V × D} (L : Lo g c (q :: gs) as H σ ds ms) : Lo g c gs as H σ ds ms := L.weak fun _ hp => List.mem_cons_of_mem _ hp
theorem Lo.top {v : V} {d : D} (L : Lo g c ((v, d) :: gs) as H σ ds ms) : IsD g c as H d v := L.gh (v, d) List.mem_cons_self
theorem Lo.push {v : V} {d : D} (L : Lo g c gs as H σ ds ms) (h : IsD g c as H d v) : Lo g c ((v, d) :: gs) as H σ ds ms :=
  ⟨L.keep, L.fr, L.nd, L.ln, L.own, L.pool, L.sln, L.sl, fun p hp => by
    rcases List.mem_cons.mp hp with e | e
    · rw [e]; exact h
    · exact L.gh p e⟩
/-- the heap grows, or others' objects stand: nothing of ours is touched -/
theorem Lo.ext (L : Lo g c gs as H σ ds ms) (y : Stay c.has H H') (hp : PoolOk c H') : Lo g c gs as H' σ ds ms := by
  have y2 : Stay (fun a => a ∈ as ∨ c.has a) H H' := y.mono fun a z => .inr z
  refine ⟨fun a o e n => y a o (L.keep a o e n) (fun _ => n), L.fr, L.nd, L.ln, fun k a m e1 e2 => (L.own k a m e1 e2).mono y (L.ownPool (List.mem_of_getElem? e1)), hp, L.sln, fun i d e => ?_, fun p hp => (L.gh p hp).mono y2⟩
  obtain ⟨v, e1, e2⟩ := L.sl i d e
  exact ⟨v, e1, e2.mono y2⟩
theorem PoolOk.ext (p : PoolOk c H) (y : ∀ a, c.has a → ∀ o, H a = some o → H' a = some o) : PoolOk c H' := fun pl cl e => by
  obtain ⟨h0, h1, h2, s, n, cs, q1, q2, q3⟩ := p pl cl e
  exact ⟨h0, h1, h2, s, n, cs, y pl ⟨pl, cl, e, .inl rfl⟩ _ q1, y cl ⟨pl, cl, e, .inr rfl⟩ _ q2, q3⟩
/-- a new object -/
theorem Lo.laid (L : Lo g c gs as H σ ds ms) {p : Addr} {o : HO} (h : H p = none) : Lo g c gs as (upd H p o) σ ds ms :=
  L.ext (.new h) (L.pool.ext fun a _ u e => by rw [upd_ne (ne_of_none e h)]; exact e)
/-- all stands -/
theorem Lo.same (L : Lo g c gs as H σ ds ms) (y : ∀ a o, H a = some o → H' a = some o) : Lo g c gs as H' σ ds ms :=
  L.ext (fun a o e _ => y a o e) (L.pool.ext fun a _ u e => y a u e)
/-- the own list k is written -/
theorem Lo.write (L : Lo g c gs as H σ ds ms) {k : Nat} {a : Addr} {m : MO} {o : HO} (ha : as[k]? = some a) (hm : OwnAt g (upd H a o) a m) : Lo g c gs as (upd H a o) σ ds (ms.set k m) := by
  have ma : a ∈ as := List.mem_of_getElem? ha
  have np := L.ownPool ma
  have kl : k < ms.length := by
    rw [← L.ln]
    exact (List.getElem?_eq_some_iff.mp ha).1
  have hmo : ∃ u, H a = some u ∧ muO u = true := by
    have q := L.own k a _ ha (List.getElem?_eq_getElem kl)
    cases e : ms[k] with
    | l xs =>
      rw [e] at q
      obtain ⟨vs, h, _⟩ := q
      exact ⟨_, h, rfl⟩
    | d kvs =>
      rw [e] at q
      obtain ⟨vs, _, h, _⟩ := q
      exact ⟨_, h, rfl⟩
  obtain ⟨u, hu, mu⟩ := hmo
  have y1 : Stay (fun b => b = a) H (upd H a o) := fun b w e n => by
    by_cases hb : b = a
    · subst hb
      rw [hu] at e
      cases e
      exact absurd rfl (n mu)
    · rw [upd_ne hb]
      exact e
  have y2 : Stay (fun b => b ∈ as ∨ c.has b) H (upd H a o) := y1.mono fun b e => .inl (e ▸ ma)
  refine ⟨fun b w e n => ?_, L.fr, L.nd, by rw [List.length_set]; exact L.ln, fun j b w e1 e2 => ?_, L.pool.ext fun b hb w e => ?_, L.sln, fun i d e => ?_, fun p hp => (L.gh p hp).mono y2⟩
  · have nb : b ≠ a := fun z => by
      rw [z, L.fr a ma] at e
      cases e
    rw [upd_ne nb]
    exact L.keep b w e n
  · by_cases hj : j = k
    · subst hj
      rw [ha] at e1
      cases e1
      rw [List.getElem?_set_self kl] at e2
      cases e2
      exact hm
    · rw [List.getElem?_set_ne (Ne.symm hj)] at e2
      have nb : b ≠ a := fun z => by
        subst z
        exact hj (nd_ix L.nd e1 ha)
      exact (L.own j b w e1 e2).mono y1 nb
  · have nb : b ≠ a := fun z => np (z ▸ hb)
    rw [upd_ne nb]
    exact e
  · obtain ⟨v, e1, e2⟩ := L.sl i d e
    exact ⟨v, e1, e2.mono y2⟩
/-- one more own object, new: what speaks of others stands -/
theorem IsD.more {p : Addr} (hn : H p = none) : ∀ {d : D} {v : V}, IsD g c as H d v → IsD g c (as ++ [p]) H d v
  | .p _, _, h => h
  | .l _, _, ⟨a, vs, e, h, n1, n2, hs⟩ => by
      refine ⟨a, vs, e, h, fun z => ?_, n2, hs⟩
      rcases List.mem_append.mp z with z | z
      · exact n1 z
      · rw [List.mem_singleton.mp z] at h
        rcases h with h | ⟨o, h⟩
        · rw [hn] at h
          cases h
        · rw [hn] at h
          cases h
  | .nl _, _, ⟨a, vs, e, h, n0, n1, n2, hs⟩ => by
      refine ⟨a, vs, e, h, n0, fun z => ?_, n2, hs⟩
      rcases List.mem_append.mp z with z | z
      · exact n1 z
      · rw [List.mem_singleton.mp z, hn] at h
        cases h
  | .m k, _, ⟨a, h, e⟩ => by
      refine ⟨a, ?_, e⟩
      rw [List.getElem?_append_left (List.getElem?_eq_some_iff.mp h).1]
      exact h
  | .pool, _, h => h
  | .prg _ _ _ _, _, h => h
  | .rdsF _, _, h => h
  | .sm _, _, h => h
  | .slf _ _, _, h => h
  | .ad _, _, h => h
/-- a new own list (dict) -/
theorem Lo.own1 (L : Lo g c gs as H σ ds ms) {p : Addr} {o : HO} {m : MO} (h : H p = none) (hm : OwnAt g (upd H p o) p m) : Lo g c ((.ref p, .m ms.length) :: gs) (as ++ [p]) (upd H p o) σ ds (ms ++ [m]) := by
  obtain ⟨n0, n1, n2⟩ := L.new h
  have y : Stay (fun a => a ∈ as ∨ c.has a) H (upd H p o) := .new h
  have M := L.laid (o := o) h
  have up : ∀ {d : D} {v : V}, IsD g c as H d v → IsD g c (as ++ [p]) (upd H p o) d v := fun {d v} q => by
    have q1 : IsD g c (as ++ [p]) H d v := q.more h
    refine q1.mono (Stay.new h)
  refine ⟨M.keep, fun a ha => ?_, ?_, by rw [List.length_append, List.length_append, L.ln]; rfl, fun k a w e1 e2 => ?_, M.pool, L.sln, fun i d e => ?_, fun q hq => ?_⟩
  · rcases List.mem_append.mp ha with z | z
    · exact L.fr a z
    · rw [List.mem_singleton.mp z]
      exact n0
  · rw [List.nodup_append]
    refine ⟨L.nd, List.nodup_cons.mpr ⟨List.not_mem_nil, List.nodup_nil⟩, fun a ha b hb e => n1 ?_⟩
    rw [← List.mem_singleton.mp hb, ← e]
    exact ha
  · by_cases hk : k < as.length
    · rw [List.getElem?_append_left hk] at e1
      rw [List.getElem?_append_left (by rw [← L.ln]; exact hk)] at e2
      exact M.own k a w e1 e2
    · have hk2 : k = as.length := by
        have := (List.getElem?_eq_some_iff.mp e1).1
        rw [List.length_append] at this
        simp only [List.length_singleton] at this
        omega
      subst hk2
      rw [List.getElem?_append_right (Nat.le_refl _), Nat.sub_self] at e1
      rw [L.ln, List.getElem?_append_right (Nat.le_refl _), Nat.sub_self] at e2
      cases e1
      cases e2
      exact hm
  · obtain ⟨v, e1, e2⟩ := L.sl i d e
    exact ⟨v, e1, up e2⟩
  · rcases List.mem_cons.mp hq with z | z
    · rw [z]
      refine ⟨p, ?_, rfl⟩
      rw [← L.ln, List.getElem?_append_right (Nat.le_refl _), Nat.sub_self]
      rfl
    · exact up (L.gh q z)
end
end K19
/-! readings as weakest preconditions over states of data -/
namespace K19
open PySem PySem.Spec PyProof.Rows L2
section
variable (g : Gk) (c : Cg)
def We (te : TE) (ds : List (Option D)) (ms : List MO) (P : D → List MO → Prop) : Prop :=
  ∀ (gs : List (V × D)) (as : List Addr) (H : Hp) (σ : L2.St), Lo g c gs as H σ ds ms → ∀ Q : VK, (∀ v H' d ms', Lo g c ((v, d) :: gs) as H' σ ds ms' → P d ms' → Q v H') → te σ H Q
def Wt (tt : TT) (ds : List (Option D)) (ms : List MO) (P : Bool → List MO → Prop) : Prop :=
  ∀ (gs : List (V × D)) (as : List Addr) (H : Hp) (σ : L2.St), Lo g c gs as H σ ds ms → ∀ Q : Bool → Hp → Prop, (∀ b H' ms', Lo g c gs as H' σ ds ms' → P b ms' → Q b H') → tt σ H Q
def Wa (ta : TA) (ds : List (Option D)) (ms : List MO) (P : List D → List MO → Prop) : Prop :=
  ∀ (gs : List (V × D)) (as : List Addr) (H : Hp) (σ : L2.St), Lo g c gs as H σ ds ms → ∀ Q : List V → Hp → Prop, (∀ vs H' es ms', Lo g c (vs.zip es ++ gs) as H' σ ds ms' → vs.length = es.length → P es ms' → Q vs H') → ta σ H Q
def notM : D → Bool
  | .m _ => false
  | _ => true
def Ws (ts : TS) (ds : List (Option D)) (ms : List MO) (N : List (Option D) → List MO → Prop) (R : D → List MO → Prop) : Prop :=
  ∀ (gs : List (V × D)) (as : List Addr) (H : Hp) (σ : L2.St) (E : Ends), Lo g c gs as H σ ds ms → (∀ p ∈ gs, notM p.2 = true) → (∀ σ' H' as' ds' ms', Lo g c gs as' H' σ' ds' ms' → N ds' ms' → E.nx σ' H') →
    (∀ v H' as' d σ' ds' ms', Lo g c ((v, d) :: gs) as' H' σ' ds' ms' → R d ms' → E.rt v H') → ts E σ H
/-- a target's store -/
def Wg (tg : TG) (d : D) (ds : List (Option D)) (ms : List MO) (P : List (Option D) → List MO → Prop) : Prop :=
  ∀ (gs : List (V × D)) (as : List Addr) (H : Hp) (σ : L2.St) (v : V), Lo g c ((v, d) :: gs) as H σ ds ms → ∀ Q : L2.St → Hp → Prop, (∀ σ' H' ds' ms', Lo g c gs as H' σ' ds' ms' → P ds' ms' → Q σ' H') → tg v σ H Q
/-- what two values come to -/
def Wr (r : R2) (x y : D) (ms : List MO) (P : D → List MO → Prop) : Prop :=
  ∀ (gs : List (V × D)) (as : List Addr) (H : Hp) (σ : L2.St) (ds : List (Option D)) (u v : V), Lo g c gs as H σ ds ms → IsD g c as H x u → IsD g c as H y v → ∀ Q : VK, (∀ w H' d ms', Lo g c ((w, d) :: gs) as H' σ ds ms' → P d ms' → Q w H') → r u v H Q
def Wu (r : V → Hp → VK → Prop) (x : D) (ms : List MO) (P : D → List MO → Prop) : Prop :=
  ∀ (gs : List (V × D)) (as : List Addr) (H : Hp) (σ : L2.St) (ds : List (Option D)) (u : V), Lo g c gs as H σ ds ms → IsD g c as H x u → ∀ Q : VK, (∀ w H' d ms', Lo g c ((w, d) :: gs) as H' σ ds ms' → P d ms' → Q w H') → r u H Q
/-- a call on values -/
def Wc (r : List V → Hp → VK → Prop) (es : List D) (ms : List MO) (P : D → List MO → Prop) : Prop :=
  ∀ (gs : List (V × D)) (as : List Addr) (H : Hp) (σ : L2.St) (ds : List (Option D)) (vs : List V), Lo g c (vs.zip es ++ gs) as H σ ds ms → vs.length = es.length → ∀ Q : VK, (∀ w H' d ms', Lo g c ((w, d) :: gs) as H' σ ds ms' → P d ms' → Q w H') → r vs H Q
/-- a method of a built-in type, by values -/
def Wm (K : PySem.W.Frag) (T : String) (r : V → List V → Hp → VK → Prop) (x : D) (es : List D) (ms : List MO) (P : D → List MO → Prop) : Prop :=
  ∀ (gs : List (V × D)) (as : List Addr) (H : Hp) (σ : L2.St) (ds : List (Option D)) (u : V) (vs : List V), Lo g c (vs.zip es ++ (u, x) :: gs) as H σ ds ms → vs.length = es.length → ∀ Q : VK, (∀ w H' d ms', Lo g c ((w, d) :: gs) as H' σ ds ms' → P d ms' → Q w H') → r u vs H Q
/-- what is walked: its items -/
def Wi (wi : TI) (ds : List (Option D)) (ms : List MO) (P : List PyData → List MO → Prop) : Prop :=
  ∀ (gs : List (V × D)) (as : List Addr) (H : Hp) (σ : L2.St), Lo g c gs as H σ ds ms → ∀ R : It → Hp → Prop,
    (∀ J H' ys ms' (sr : List (V × D)), Lo g c (sr ++ gs) as H' σ ds ms' → (∀ p ∈ sr, notM p.2 = true) →
      (∀ (as' : List Addr) (H2 : Hp), (∀ p ∈ sr, IsD g c as' H2 p.2 p.1) → ∀ i : Nat, (∀ y, ys[i]? = some y → J.go i H2 ∧ ∀ x H3, J.yld i H2 x H3 → (∀ a o, H2 a = some o → H3 a = some o) ∧ IsD g c as' H3 (.p y) x) ∧ (i = ys.length → J.stop i H2)) →
      P ys ms' → R J H') → wi σ H R
end
section
variable {g : Gk} {c : Cg} {ds : List (Option D)} {ms : List MO} {P : D → List MO → Prop} {B : Bool → List MO → Prop}
/-! ### expressions -/
theorem Lo.pushP {gs : List (V × D)} {as : List Addr} {H : Hp} {σ : L2.St} {d : PyData} {v : V} (L : Lo g c gs as H σ ds ms) (h : Pd g.K H d v) : Lo g c ((v, .p d) :: gs) as H σ ds ms := L.push h
theorem we_mono {te : TE} {P' : D → List MO → Prop} (h : We g c te ds ms P') (k : ∀ d ms, P' d ms → P d ms) : We g c te ds ms P := fun gs as H σ L Q q => h gs as H σ L Q fun v H' d ms' L' p => q v H' d ms' L' (k d ms' p)
theorem we_var {i : Nat} {d : D} (e : ds[i]? = some (some d)) (h : P d ms) : We g c (tVar i) ds ms P := fun gs as H σ L Q q => by
  obtain ⟨v, e1, e2⟩ := L.sl i d e
  exact ⟨v, e1, q v H d ms (L.push e2) h⟩
theorem we_int {i : Int} (h : P (.p (.int i)) ms) : We g c (tC (.int i)) ds ms P := fun gs as H σ L Q q => q _ H (.p (.int i)) ms (L.pushP (.int i)) h
theorem we_bl {b : Bool} (h : P (.p (.bool b)) ms) : We g c (tC (.bl b)) ds ms P := fun gs as H σ L Q q => q _ H (.p (.bool b)) ms (L.pushP (.bl b)) h
theorem we_non (h : P (.p .none) ms) : We g c (tC .non) ds ms P := fun gs as H σ L Q q => q _ H (.p .none) ms (L.pushP .non) h
theorem we_str {x : Str} (h : P (.p (.str x)) ms) : We g c (tC (.str x)) ds ms P := fun gs as H σ L Q q => q _ H (.p (.str x)) ms (L.pushP (.str x)) h
theorem we_op {r : R2} {ta tb : TE} (h : We g c ta ds ms fun x ms1 => We g c tb ds ms1 fun y ms2 => Wr g c r x y ms2 P) : We g c (tOp r ta tb) ds ms P := fun gs as H σ L Q q =>
  h gs as H σ L _ fun u H1 x ms1 L1 k1 => k1 _ as H1 σ L1 _ fun v H2 y ms2 L2 k2 => k2 gs as H2 σ ds u v L2.pop.pop L2.pop.top L2.top Q q
theorem we_un {r : V → Hp → VK → Prop} {ta : TE} (h : We g c ta ds ms fun x ms1 => Wu g c r x ms1 P) : We g c (tUn r ta) ds ms P := fun gs as H σ L Q q =>
  h gs as H σ L _ fun u H1 x ms1 L1 k1 => k1 gs as H1 σ ds u L1.pop L1.top Q q
theorem wa_nil {A : List D → List MO → Prop} (h : A [] ms) : Wa g c tNil ds ms A := fun gs as H σ L Q q => q [] H [] ms L rfl h
theorem wa_cons {A : List D → List MO → Prop} {ta : TE} {tr : TA} (h : We g c ta ds ms fun x ms1 => Wa g c tr ds ms1 fun es ms2 => A (x :: es) ms2) : Wa g c (tCons ta tr) ds ms A := fun gs as H σ L Q q =>
  h gs as H σ L _ fun u H1 x ms1 L1 k1 => k1 _ as H1 σ L1 _ fun vs H2 es ms2 L2 le k2 => q (u :: vs) H2 (x :: es) ms2 (L2.weak fun p hp => by
    rw [List.zip_cons_cons, List.cons_append] at hp
    rcases List.mem_cons.mp hp with e | hp
    · rw [e]
      exact List.mem_append_right _ List.mem_cons_self
    · rcases List.mem_append.mp hp with z | z
      · exact List.mem_append_left _ z
      · exact List.mem_append_right _ (List.mem_cons_of_mem _ z)) (by rw [List.length_cons, List.length_cons, le]) k2
theorem we_cb {r : List V → Hp → VK → Prop} {ta : TA} (h : Wa g c ta ds ms fun es ms1 => Wc g c r es ms1 P) : We g c (tCB r ta) ds ms P := fun gs as H σ L Q q =>
  h gs as H σ L _ fun vs H1 es ms1 L1 le k1 => k1 gs as H1 σ ds vs L1 le Q q
theorem zip_all {gs : List (V × D)} {as : List Addr} {H : Hp} {σ : L2.St} {es : List D} {vs : List V} (L : Lo g c (vs.zip es ++ gs) as H σ ds ms) : Lo g c gs as H σ ds ms := L.weak fun p hp => List.mem_append_right _ hp
/-- plain data side by side -/
theorem zip_pds {gs : List (V × D)} {as : List Addr} {H : Hp} {σ : L2.St} {xs : List PyData} {vs : List V} (L : Lo g c (vs.zip (xs.map D.p) ++ gs) as H σ ds ms) (le : vs.length = (xs.map D.p).length) : Pds g.K H xs vs := by
  have key : ∀ (xs : List PyData) (vs : List V), vs.length = xs.length → (∀ p ∈ vs.zip (xs.map D.p), IsD g c as H p.2 p.1) → Pds g.K H xs vs := by
    intro xs
    induction xs with
    | nil =>
      intro vs hl _
      have e : vs = [] := List.eq_nil_of_length_eq_zero hl
      rw [e]
      exact .nil
    | cons x xs ih =>
      intro vs hl ha
      cases vs with
      | nil => cases hl
      | cons v vs =>
        refine .cons (ha (v, D.p x) ?_) (ih vs (Nat.succ.inj hl) fun p hp => ha p ?_)
        · rw [List.map_cons, List.zip_cons_cons]
          exact List.mem_cons_self
        · rw [List.map_cons, List.zip_cons_cons]
          exact List.mem_cons_of_mem _ hp
  exact key xs vs (by rw [le, List.length_map]) fun p hp => L.gh p (List.mem_append_left _ hp)
theorem we_tup {ta : TA} (h : Wa g c ta ds ms fun es ms1 => ∃ xs : List PyData, es = xs.map D.p ∧ xs.length ≤ 1000 ∧ P (.p (.tuple xs)) ms1) : We g c (tTup ta) ds ms P := fun gs as H σ L Q q =>
  h gs as H σ L _ fun vs H1 es ms1 L1 le ⟨xs, e, hl, k1⟩ => by
    subst e
    have hp := zip_pds L1 le
    have L2 := zip_all L1
    refine ⟨Nat.le_of_lt (small1000 (by rw [le, List.length_map]; exact hl)), fun p np => ?_⟩
    have y : Stay (fun _ => False) H1 (upd H1 p (.tup vs)) := .new np
    exact q (.ref p) _ (.p (.tuple xs)) ms1 ((L2.laid np).pushP (.tup (.of upd_same) (Pds.mono y _ _ hp))) k1
theorem we_lst {ta : TA} (h : Wa g c ta ds ms fun es ms1 => ∃ xs : List PyData, es = xs.map D.p ∧ xs.length ≤ 1000 ∧ P (.nl xs) ms1) : We g c (tLst ta) ds ms P := fun gs as H σ L Q q =>
  h gs as H σ L _ fun vs H1 es ms1 L1 le ⟨xs, e, hl, k1⟩ => by
    subst e
    have hp := zip_pds L1 le
    have L2 := zip_all L1
    refine ⟨Nat.le_of_lt (small1000 (by rw [le, List.length_map]; exact hl)), fun p np => ?_⟩
    have y : Stay (fun _ => False) H1 (upd H1 p (.lst vs)) := .new np
    obtain ⟨n0, n1, n2⟩ := L2.new np
    exact q (.ref p) _ (.nl xs) ms1 ((L2.laid np).push ⟨p, vs, rfl, upd_same, n0, n1, n2, Pds.mono y _ _ hp⟩) k1
/-! ### tests and truth values -/
theorem wt_test {te : TE} (h : We g c te ds ms fun d ms1 => ∃ b, d = .p (.bool b) ∧ B b ms1) : Wt g c (tTest te) ds ms B := fun gs as H σ L Q q =>
  h gs as H σ L _ fun v H1 d ms1 L1 ⟨b, e, k⟩ => by
    subst e
    have hb := L1.top
    cases hb
    exact ⟨b, rfl, q b H1 ms1 L1.pop k⟩
theorem wt_B {te : TE} (h : We g c te ds ms fun d ms1 => ∃ b, d = .p (.bool b) ∧ B b ms1) : Wt g c (tB te) ds ms B := fun gs as H σ L Q q =>
  h gs as H σ L _ fun v H1 d ms1 L1 ⟨b, e, k⟩ => by
    subst e
    have hb := L1.top
    cases hb
    exact ⟨b, rfl, q b H1 ms1 L1.pop k⟩
theorem wt_and {t u : TT} (h : Wt g c t ds ms fun b ms1 => if b = true then Wt g c u ds ms1 B else B false ms1) : Wt g c (tAnd t u) ds ms B := fun gs as H σ L Q q =>
  h gs as H σ L _ fun b H1 ms1 L1 k => by
    cases b with
    | true => exact k gs as H1 σ L1 Q q
    | false => exact q false H1 ms1 L1 k
theorem wt_or {t u : TT} (h : Wt g c t ds ms fun b ms1 => if b = true then B true ms1 else Wt g c u ds ms1 B) : Wt g c (tOr t u) ds ms B := fun gs as H σ L Q q =>
  h gs as H σ L _ fun b H1 ms1 L1 k => by
    cases b with
    | true => exact q true H1 ms1 L1 k
    | false => exact k gs as H1 σ L1 Q q
theorem wt_not {t : TT} (h : Wt g c t ds ms fun b ms1 => B (!b) ms1) : Wt g c (tNot t) ds ms B := fun gs as H σ L Q q =>
  h gs as H σ L _ fun b H1 ms1 L1 k => q (!b) H1 ms1 L1 k
theorem we_andV {ta tb : TE} (h : We g c ta ds ms fun d ms1 => ∃ b, d = .p (.bool b) ∧ if b = true then We g c tb ds ms1 P else P (.p (.bool false)) ms1) : We g c (tAndV ta tb) ds ms P := fun gs as H σ L Q q =>
  h gs as H σ L _ fun v H1 d ms1 L1 ⟨b, e, k⟩ => by
    subst e
    have hb := L1.top
    cases hb
    refine ⟨b, rfl, ?_⟩
    cases b with
    | true => exact k gs as H1 σ L1.pop Q q
    | false => exact q _ H1 _ ms1 (L1.pop.pushP (.bl false)) k
theorem we_orV {ta tb : TE} (h : We g c ta ds ms fun d ms1 => ∃ b, d = .p (.bool b) ∧ if b = true then P (.p (.bool true)) ms1 else We g c tb ds ms1 P) : We g c (tOrV ta tb) ds ms P := fun gs as H σ L Q q =>
  h gs as H σ L _ fun v H1 d ms1 L1 ⟨b, e, k⟩ => by
    subst e
    have hb := L1.top
    cases hb
    refine ⟨b, rfl, ?_⟩
    cases b with
    | true => exact q _ H1 _ ms1 (L1.pop.pushP (.bl true)) k
    | false => exact k gs as H1 σ L1.pop Q q
theorem we_notV {ta : TE} (h : We g c ta ds ms fun d ms1 => ∃ b, d = .p (.bool b) ∧ P (.p (.bool (!b))) ms1) : We g c (tNotV ta) ds ms P := fun gs as H σ L Q q =>
  h gs as H σ L _ fun v H1 d ms1 L1 ⟨b, e, k⟩ => by
    subst e
    have hb := L1.top
    cases hb
    exact ⟨b, rfl, q _ H1 _ ms1 (L1.pop.pushP (.bl (!b))) k⟩
theorem we_ifE {t : TT} {ta tb : TE} (h : Wt g c t ds ms fun b ms1 => if b = true then We g c ta ds ms1 P else We g c tb ds ms1 P) : We g c (tIf t ta tb) ds ms P := fun gs as H σ L Q q =>
  h gs as H σ L _ fun b H1 ms1 L1 k => by
    cases b with
    | true => exact k gs as H1 σ L1 Q q
    | false => exact k gs as H1 σ L1 Q q
/-! ### operators on values -/
/-- a scalar's data -/
def atm : V → PyData
  | .non => .none
  | .bl b => .bool b
  | .int i => .int i
  | .str x => .str x
  | _ => .none
def isAtm : V → Bool
  | .non => true
  | .bl _ => true
  | .int _ => true
  | .str _ => true
  | _ => false
theorem pd_atm {K : PySem.W.Frag} {H : Hp} : ∀ {v : V}, isAtm v = true → Pd K H (atm v) v
  | .non, _ => .non
  | .bl _, _ => .bl _
  | .int _, _ => .int _
  | .str _, _ => .str _
  | .byt _, h => nomatch h
  | .flt _, h => nomatch h
  | .ref _, h => nomatch h
  | .ty _, h => nomatch h
theorem wr_I0 {f : Int → Int → V} {i j : Int} (h : P (.p (atm (f i j))) ms) (ha : isAtm (f i j) = true := by rfl) : Wr g c (rI0 f) (.p (.int i)) (.p (.int j)) ms P := fun gs as H σ ds u v L hx hy Q q => by
  cases hx
  cases hy
  exact ⟨i, j, rfl, rfl, q _ H _ ms (L.pushP (pd_atm ha)) h⟩
theorem wr_I {C : Int → Int → Prop} {f : Int → Int → V} {i j : Int} (hc : C i j) (h : P (.p (atm (f i j))) ms) (ha : isAtm (f i j) = true := by rfl) : Wr g c (rI C f) (.p (.int i)) (.p (.int j)) ms P := fun gs as H σ ds u v L hx hy Q q => by
  cases hx
  cases hy
  exact ⟨i, j, rfl, rfl, hc, q _ H _ ms (L.pushP (pd_atm ha)) h⟩
theorem wu_neg {i : Int} (h : P (.p (.int (-i))) ms) : Wu g c (rU fun i => .int (-i)) (.p (.int i)) ms P := fun gs as H σ ds u L hx Q q => by
  cases hx
  exact ⟨i, rfl, q _ H _ ms (L.pushP (.int _)) h⟩
/-- == and != of scalars -/
def scalD : PyData → PyData → Bool
  | .none, .none => true
  | .none, .int _ => true
  | .int _, .none => true
  | .int _, .int _ => true
  | .bool _, .bool _ => true
  | .str _, .str _ => true
  | _, _ => false
theorem scal_pd {K : PySem.W.Frag} {H : Hp} {x y : PyData} {u v : V} (h : scalD x y = true) (hx : Pd K H x u) (hy : Pd K H y v) : scal u v = true ∧ decide (u = v) = PyData.eqv x y := by
  cases hx with
  | non =>
    cases hy with
    | non => exact ⟨rfl, rfl⟩
    | int i => exact ⟨rfl, rfl⟩
    | _ => cases h
  | bl b =>
    cases hy with
    | bl b' =>
      refine ⟨rfl, ?_⟩
      cases b <;> cases b' <;> rfl
    | _ => cases h
  | int i =>
    cases hy with
    | non => exact ⟨rfl, rfl⟩
    | int j =>
      refine ⟨rfl, ?_⟩
      rw [dec_int]
      simp only [PyData.eqv]
    | _ => cases h
  | str x =>
    cases hy with
    | str y =>
      refine ⟨rfl, ?_⟩
      have e1 : PyData.eqv (.str x) (.str y) = (x == y) := by simp only [PyData.eqv]
      rw [e1]
      by_cases e : x = y
      · subst e
        rw [decide_eq_true rfl]
        exact (beq_self_eq_true _).symm
      · rw [decide_eq_false (fun z => e (V.str.inj z))]
        exact (beq_eq_false_iff_ne.mpr e).symm
    | _ => cases h
  | tup _ _ => cases h
theorem wr_eq {x y : PyData} (hs : scalD x y = true) (h : P (.p (.bool (PyData.eqv x y))) ms) : Wr g c rEq (.p x) (.p y) ms P := fun gs as H σ ds u v L hx hy Q q => by
  obtain ⟨s, e⟩ := scal_pd hs hx hy
  refine ⟨s, ?_⟩
  rw [e]
  exact q _ H _ ms (L.pushP (.bl _)) h
theorem wr_ne {x y : PyData} (hs : scalD x y = true) (h : P (.p (.bool (!PyData.eqv x y))) ms) : Wr g c rNe (.p x) (.p y) ms P := fun gs as H σ ds u v L hx hy Q q => by
  obtain ⟨s, e⟩ := scal_pd hs hx hy
  refine ⟨s, ?_⟩
  rw [e]
  exact q _ H _ ms (L.pushP (.bl _)) h
/-- == and != of data of any depth -/
theorem wr_eqD {x y : PyData} (hx : SeqAt.shaped x = true) (hy : SeqAt.shaped y = true) (h : P (.p (.bool (PyData.eqv x y))) ms) : Wr g c (rEqD g.K) (.p x) (.p y) ms P := fun gs as H σ ds u v L h1 h2 Q q =>
  ⟨x, y, Pd.dp _ _ h1, Pd.dp _ _ h2, hx, hy, q _ H _ ms (L.pushP (.bl _)) h⟩
theorem wr_neD {x y : PyData} (hx : SeqAt.shaped x = true) (hy : SeqAt.shaped y = true) (h : P (.p (.bool (!PyData.eqv x y))) ms) : Wr g c (rNeD g.K) (.p x) (.p y) ms P := fun gs as H σ ds u v L h1 h2 Q q =>
  ⟨x, y, Pd.dp _ _ h1, Pd.dp _ _ h2, hx, hy, q _ H _ ms (L.pushP (.bl _)) h⟩
/-- a readable list's items -/
def lstD : D → Option (List PyData)
  | .l xs => some xs
  | .nl xs => some xs
  | _ => none
theorem lstD_at {as : List Addr} {H : Hp} : ∀ {x : D} {xs : List PyData} {u : V}, lstD x = some xs → IsD g c as H x u → ∃ a vs, u = .ref a ∧ L2.Rd H a (.lst vs) ∧ a ∉ as ∧ ¬ c.has a ∧ Pds g.K H xs vs
  | .l xs, ys, u, e, ⟨a, vs, e1, h, n1, n2, hs⟩ => by
    cases e
    exact ⟨a, vs, e1, h, n1, n2, hs⟩
  | .nl xs, ys, u, e, ⟨a, vs, e1, h, n0, n1, n2, hs⟩ => by
    cases e
    exact ⟨a, vs, e1, .inl h, n1, n2, hs⟩
theorem lstD_sq {as : List Addr} {H : Hp} {x : D} {xs : List PyData} {u : V} (e : lstD x = some xs) (h : IsD g c as H x u) : ∃ a vs, u = .ref a ∧ SqL g.K H a vs ∧ Pds g.K H xs vs := by
  obtain ⟨a, vs, e1, h1, _, _, h2⟩ := lstD_at e h
  exact ⟨a, vs, e1, .inl h1, h2⟩
theorem wr_eqL {x y : D} {xs ys : List PyData} (ex : lstD x = some xs) (ey : lstD y = some ys) (hx : SeqAt.shaped (.list xs) = true) (hy : SeqAt.shaped (.list ys) = true) (h : P (.p (.bool (PyData.eqv (.list xs) (.list ys)))) ms) :
    Wr g c (rEqD g.K) x y ms P := fun gs as H σ ds u v L h1 h2 Q q => by
  obtain ⟨a, vs, rfl, ha, pa⟩ := lstD_sq ex h1
  obtain ⟨b, ws, rfl, hb, pb⟩ := lstD_sq ey h2
  exact ⟨.list xs, .list ys, .lst ha (Pds.dp _ _ pa), .lst hb (Pds.dp _ _ pb), hx, hy, q _ H _ ms (L.pushP (.bl _)) h⟩
theorem wr_neL {x y : D} {xs ys : List PyData} (ex : lstD x = some xs) (ey : lstD y = some ys) (hx : SeqAt.shaped (.list xs) = true) (hy : SeqAt.shaped (.list ys) = true) (h : P (.p (.bool (!PyData.eqv (.list xs) (.list ys)))) ms) :
    Wr g c (rNeD g.K) x y ms P := fun gs as H σ ds u v L h1 h2 Q q => by
  obtain ⟨a, vs, rfl, ha, pa⟩ := lstD_sq ex h1
  obtain ⟨b, ws, rfl, hb, pb⟩ := lstD_sq ey h2
  exact ⟨.list xs, .list ys, .lst ha (Pds.dp _ _ pa), .lst hb (Pds.dp _ _ pb), hx, hy, q _ H _ ms (L.pushP (.bl _)) h⟩
/-- is None, is not None -/
def isNoneD : D → Bool
  | .p .none => true
  | _ => false
theorem isNone_v {as : List Addr} {H : Hp} : ∀ {x : D} {u : V}, IsD g c as H x u → decide (u = .non) = isNoneD x
  | .p .none, _, h => by cases h; rfl
  | .p (.bool _), _, h => by cases h; rfl
  | .p (.int _), _, h => by cases h; rfl
  | .p (.str _), _, h => by cases h; rfl
  | .p (.list _), _, h => by cases h
  | .p (.dict _), _, h => by cases h
  | .p (.tuple _), _, h => by cases h; rfl
  | .l _, _, ⟨a, vs, e, _⟩ => by subst e; rfl
  | .nl _, _, ⟨a, vs, e, _⟩ => by subst e; rfl
  | .m _, _, ⟨a, _, e⟩ => by subst e; rfl
  | .pool, _, ⟨_, _, _, e⟩ => by subst e; rfl
  | .prg _ _ _ _, _, ⟨_, _, _, e, _⟩ => by subst e; rfl
  | .rdsF _, _, ⟨_, _, _, _, e, _⟩ => by subst e; rfl
  | .sm _, _, ⟨_, _, _, _, _, _, e, _⟩ => by subst e; rfl
  | .slf _ _, _, ⟨e, _⟩ => by subst e; rfl
  | .ad _, _, e => by cases e; rfl
theorem wr_isN {x : D} (h : P (.p (.bool (isNoneD x))) ms) : Wr g c (fun x y H Q => y = .non ∧ Q (.bl (decide (x = .non))) H) x (.p .none) ms P := fun gs as H σ ds u v L h1 h2 Q q => by
  cases h2
  refine ⟨rfl, ?_⟩
  rw [isNone_v h1]
  exact q _ H _ ms (L.pushP (.bl _)) h
theorem wr_notN {x : D} (h : P (.p (.bool (!isNoneD x))) ms) : Wr g c (fun x y H Q => y = .non ∧ Q (.bl (!decide (x = .non))) H) x (.p .none) ms P := fun gs as H σ ds u v L h1 h2 Q q => by
  cases h2
  refine ⟨rfl, ?_⟩
  rw [isNone_v h1]
  exact q _ H _ ms (L.pushP (.bl _)) h
/-- is True, is not True -/
theorem wr_isB {a b : Bool} (h : P (.p (.bool (decide (a = b)))) ms) : Wr g c (fun x y H Q => ∃ a b, x = .bl a ∧ y = .bl b ∧ Q (.bl (decide (a = b))) H) (.p (.bool a)) (.p (.bool b)) ms P := fun gs as H σ ds u v L h1 h2 Q q => by
  cases h1
  cases h2
  exact ⟨a, b, rfl, rfl, q _ H _ ms (L.pushP (.bl _)) h⟩
theorem wr_notB {a b : Bool} (h : P (.p (.bool (!decide (a = b)))) ms) : Wr g c (fun x y H Q => ∃ a b, x = .bl a ∧ y = .bl b ∧ Q (.bl (!decide (a = b))) H) (.p (.bool a)) (.p (.bool b)) ms P := fun gs as H σ ds u v L h1 h2 Q q => by
  cases h1
  cases h2
  exact ⟨a, b, rfl, rfl, q _ H _ ms (L.pushP (.bl _)) h⟩
/-- items -/
theorem ix_nat {i : Int} {n : Nat} (h0 : 0 ≤ i) (h1 : i < n) {α : Type} {l : List α} (hl : l.length = n) : ∃ x, l[i.toNat]? = some x := by
  have : i.toNat < l.length := by omega
  exact ⟨l[i.toNat], List.getElem?_eq_getElem this⟩
theorem wr_ixT {xs : List PyData} {i : Int} {z : PyData} (e : 0 ≤ i ∧ xs[i.toNat]? = some z) (h : P (.p z) ms) : Wr g c (rIxT g.K) (.p (.tuple xs)) (.p (.int i)) ms P := fun gs as H σ ds u v L h1 h2 Q q => by
  obtain ⟨a, vs, rfl, hq, hs⟩ := Pd.sq h1
  cases h2
  obtain ⟨w, e1, e2⟩ := hs.get e.2
  have ei : i = ((i.toNat : Nat) : Int) := (Int.toNat_of_nonneg e.1).symm
  refine ⟨a, vs, i, w, rfl, rfl, hq, ?_, q w H _ ms (L.pushP e2) h⟩
  rw [ei]
  exact atI_nat e1
theorem wr_ixL {x : D} {xs : List PyData} {i : Int} {z : PyData} (ex : lstD x = some xs) (e : 0 ≤ i ∧ xs[i.toNat]? = some z) (h : P (.p z) ms) : Wr g c (rIxL g.K) x (.p (.int i)) ms P := fun gs as H σ ds u v L h1 h2 Q q => by
  obtain ⟨a, vs, rfl, hq, hs⟩ := lstD_sq ex h1
  cases h2
  obtain ⟨w, e1, e2⟩ := hs.get e.2
  have ei : i = ((i.toNat : Nat) : Int) := (Int.toNat_of_nonneg e.1).symm
  refine ⟨a, vs, i, w, rfl, rfl, hq, ?_, q w H _ ms (L.pushP e2) h⟩
  rw [ei]
  exact atI_nat e1
theorem wr_ixM {k : Nat} {xs : List PyData} {i : Int} {z : PyData} (ex : ms[k]? = some (.l xs)) (e : 0 ≤ i ∧ xs[i.toNat]? = some z) (h : P (.p z) ms) : Wr g c (rIxL g.K) (.m k) (.p (.int i)) ms P := fun gs as H σ ds u v L h1 h2 Q q => by
  obtain ⟨a, ha, rfl⟩ := h1
  obtain ⟨vs, hq, hs⟩ := L.own k a _ ha ex
  cases h2
  obtain ⟨w, e1, e2⟩ := hs.get e.2
  have ei : i = ((i.toNat : Nat) : Int) := (Int.toNat_of_nonneg e.1).symm
  refine ⟨a, vs, i, w, rfl, rfl, .of hq, ?_, q w H _ ms (L.pushP e2) h⟩
  rw [ei]
  exact atI_nat e1
/-- t + u -/
theorem wr_catT {xs ys : List PyData} (hl : xs.length + ys.length ≤ 1000) (h : P (.p (.tuple (xs ++ ys))) ms) : Wr g c (rCatA g.K) (.p (.tuple xs)) (.p (.tuple ys)) ms P := fun gs as H σ ds u v L h1 h2 Q q => by
  obtain ⟨a, vs, rfl, hq, hs⟩ := Pd.sq h1
  obtain ⟨b, ws, rfl, hr, ht⟩ := Pd.sq h2
  have l1 := hs.length
  have l2 := ht.length
  refine ⟨a, b, vs, ws, rfl, rfl, hq, hr, Nat.le_of_lt (small1000 (by omega)), fun e => ?_, fun _ e => ?_, fun _ _ p np => ?_⟩
  · subst e
    have ex : xs = [] := List.eq_nil_of_length_eq_zero (by rw [← l1]; rfl)
    subst ex
    exact q _ H _ ms (L.pushP (.tup hr ht)) h
  · subst e
    have ey : ys = [] := List.eq_nil_of_length_eq_zero (by rw [← l2]; rfl)
    subst ey
    rw [List.append_nil] at h
    exact q _ H _ ms (L.pushP (.tup hq hs)) h
  · have y : Stay (fun _ => False) H (upd H p (.tup (vs ++ ws))) := .new np
    exact q _ _ _ ms ((L.laid np).pushP (.tup (.of upd_same) (Pds.mono y _ _ (hs.append ht)))) h
/-! ### slices -/
def Wo (g : Gk) (c : Cg) (to : TO) (ds : List (Option D)) (ms : List MO) (P : Option Int → List MO → Prop) : Prop :=
  ∀ (gs : List (V × D)) (as : List Addr) (H : Hp) (σ : L2.St), Lo g c gs as H σ ds ms → ∀ Q : Option Int → Hp → Prop, (∀ o H' ms', Lo g c gs as H' σ ds ms' → P o ms' → Q o H') → to σ H Q
theorem wo_none {O : Option Int → List MO → Prop} (h : O none ms) : Wo g c tNoPart ds ms O := fun gs as H σ L Q q => q none H ms L h
theorem wo_some {O : Option Int → List MO → Prop} {te : TE} (h : We g c te ds ms fun d ms1 => ∃ i, d = .p (.int i) ∧ O (some i) ms1) : Wo g c (tPart te) ds ms O := fun gs as H σ L Q q =>
  h gs as H σ L _ fun v H1 d ms1 L1 ⟨i, e, k⟩ => by
    subst e
    have hi := L1.top
    cases hi
    exact ⟨i, rfl, q (some i) H1 ms1 L1.pop k⟩
def cutD (xs : List PyData) (lo hi : Option Int) : List PyData := (xs.drop (HT.sIx xs.length 0 lo)).take (HT.sIx xs.length xs.length hi - HT.sIx xs.length 0 lo)
theorem Pds.cut {K : PySem.W.Frag} {H : Hp} {xs : List PyData} {vs : List V} (h : Pds K H xs vs) (lo hi : Option Int) : Pds K H (cutD xs lo hi) (cutV vs lo hi) := by
  unfold cutD cutV
  rw [h.length]
  exact Pds.take _ (Pds.drop _ h)
theorem we_slT {te : TE} {tl th : TO} (h : We g c te ds ms fun x ms1 => Wo g c tl ds ms1 fun lo ms2 => Wo g c th ds ms2 fun hi ms3 => ∃ xs, x = .p (.tuple xs) ∧ P (.p (.tuple (cutD xs lo hi))) ms3) : We g c (tSl (rSlA g.K) te tl th) ds ms P := fun gs as H σ L Q q =>
  h gs as H σ L _ fun v H1 x ms1 L1 k1 => k1 _ as H1 σ L1 _ fun lo H2 ms2 L2 k2 => k2 _ as H2 σ L2 _ fun hi H3 ms3 L3 ⟨xs, e, k3⟩ => by
    subst e
    obtain ⟨a, vs, rfl, hq, hs⟩ := Pd.sq L3.top
    refine ⟨a, vs, rfl, hq, fun ⟨e0, e1⟩ => ?_, fun _ p np => ?_⟩
    · have ec : cutD xs lo hi = xs := by
        unfold cutD
        rw [← hs.length, e0, e1, List.drop_zero, Nat.sub_zero, hs.length, List.take_length]
      rw [ec] at k3
      exact q _ H3 _ ms3 L3 k3
    · have y : Stay (fun _ => False) H3 (upd H3 p (.tup (cutV vs lo hi))) := .new np
      exact q _ _ _ ms3 ((L3.pop.laid np).pushP (.tup (.of upd_same) (Pds.mono y _ _ (hs.cut lo hi)))) k3
theorem we_slL {te : TE} {tl th : TO} (h : We g c te ds ms fun x ms1 => Wo g c tl ds ms1 fun lo ms2 => Wo g c th ds ms2 fun hi ms3 => ∃ xs, lstD x = some xs ∧ P (.nl (cutD xs lo hi)) ms3) : We g c (tSl (rSlL g.K) te tl th) ds ms P := fun gs as H σ L Q q =>
  h gs as H σ L _ fun v H1 x ms1 L1 k1 => k1 _ as H1 σ L1 _ fun lo H2 ms2 L2 k2 => k2 _ as H2 σ L2 _ fun hi H3 ms3 L3 ⟨xs, e, k3⟩ => by
    obtain ⟨a, vs, rfl, hq, hs⟩ := lstD_sq e L3.top
    refine ⟨a, vs, rfl, hq, fun p np => ?_⟩
    have y : Stay (fun _ => False) H3 (upd H3 p (.lst (cutV vs lo hi))) := .new np
    obtain ⟨n0, n1, n2⟩ := L3.new np
    exact q _ _ (.nl (cutD xs lo hi)) ms3 ((L3.pop.laid np).push ⟨p, _, rfl, upd_same, n0, n1, n2, Pds.mono y _ _ (hs.cut lo hi)⟩) k3
/-- xs[::-1] of a list -/
theorem we_revL {te : TE} (h : We g c te ds ms fun x ms1 => ∃ xs, lstD x = some xs ∧ P (.nl xs.reverse) ms1) : We g c (tRevL g.K te) ds ms P := fun gs as H σ L Q q =>
  h gs as H σ L _ fun v H1 x ms1 L1 ⟨xs, e, k⟩ => by
    obtain ⟨a, vs, rfl, hq, hs⟩ := lstD_sq e L1.top
    refine ⟨a, vs, rfl, hq, fun p np => ?_⟩
    have y : Stay (fun _ => False) H1 (upd H1 p (.lst vs.reverse)) := .new np
    obtain ⟨n0, n1, n2⟩ := L1.new np
    exact q _ _ (.nl xs.reverse) ms1 ((L1.pop.laid np).push ⟨p, _, rfl, upd_same, n0, n1, n2, Pds.mono y _ _ hs.reverse⟩) k
theorem we_revM {te : TE} (h : We g c te ds ms fun x ms1 => ∃ k xs, x = .m k ∧ ms1[k]? = some (.l xs) ∧ P (.nl xs.reverse) ms1) : We g c (tRevL g.K te) ds ms P := fun gs as H σ L Q q =>
  h gs as H σ L _ fun v H1 x ms1 L1 ⟨k, xs, e, ek, kk⟩ => by
    subst e
    obtain ⟨a, ha, rfl⟩ := L1.top
    obtain ⟨vs, hq, hs⟩ := L1.own k a _ ha ek
    refine ⟨a, vs, rfl, .of hq, fun p np => ?_⟩
    have y : Stay (fun _ => False) H1 (upd H1 p (.lst vs.reverse)) := .new np
    obtain ⟨n0, n1, n2⟩ := L1.new np
    exact q _ _ (.nl xs.reverse) ms1 ((L1.pop.laid np).push ⟨p, _, rfl, upd_same, n0, n1, n2, Pds.mono y _ _ hs.reverse⟩) kk
/-! ### fields -/
theorem we_fP {ta : TE} {f : Str} (h : We g c ta ds ms fun d ms1 => ∃ s t rs nd, d = .prg s t rs nd ∧ f ∈ (["sides", "tables", "readings"] : List Str) ∧
    ∀ rv : V, ∃ z w, ([("sides", .int s), ("tables", .int t), ("readings", rv)] : List (Str × V)).lookup f = some w ∧ (∀ (K : PySem.W.Frag) (H : Hp), Pd K H (rds rs) rv → Pd K H z w) ∧ P (.p z) ms1) : We g c (tFld g.K ta f) ds ms P := fun gs as H σ L Q q =>
  h gs as H σ L _ fun v H1 d ms1 L1 ⟨s, t, rs, nd, e, hf, k⟩ => by
    subst e
    obtain ⟨x, dx, rv, rfl, hx, hr, _⟩ := L1.top
    obtain ⟨z, w, e1, e2, e3⟩ := k rv
    exact ⟨x, g.CP, dx, _, w, rfl, hx, g.clP, g.nP f hf, e1, q w H1 _ ms1 (L1.pop.pushP (e2 _ _ hr)) e3⟩
theorem we_sides {ta : TE} (h : We g c ta ds ms fun d ms1 => ∃ s t rs nd, d = .prg s t rs nd ∧ P (.p (.int s)) ms1) : We g c (tFld g.K ta "sides") ds ms P :=
  we_fP (we_mono h fun d ms1 ⟨s, t, rs, nd, e, k⟩ => ⟨s, t, rs, nd, e, by decide +kernel, fun rv => ⟨.int s, .int s, rfl, fun _ _ _ => .int s, k⟩⟩)
theorem we_tables {ta : TE} (h : We g c ta ds ms fun d ms1 => ∃ s t rs nd, d = .prg s t rs nd ∧ P (.p (.int t)) ms1) : We g c (tFld g.K ta "tables") ds ms P :=
  we_fP (we_mono h fun d ms1 ⟨s, t, rs, nd, e, k⟩ => ⟨s, t, rs, nd, e, by decide +kernel, fun rv => ⟨.int t, .int t, rfl, fun _ _ _ => .int t, k⟩⟩)
theorem we_readings {ta : TE} (h : We g c ta ds ms fun d ms1 => ∃ s t rs nd, d = .prg s t rs nd ∧ P (.p (rds rs)) ms1) : We g c (tFld g.K ta "readings") ds ms P :=
  we_fP (we_mono h fun d ms1 ⟨s, t, rs, nd, e, k⟩ => ⟨s, t, rs, nd, e, by decide +kernel, fun rv => ⟨rds rs, rv, rfl, fun _ _ hr => hr, k⟩⟩)
/-- the readings, where their tuple has no dict -/
theorem we_readingsF {ta : TE} (h : We g c ta ds ms fun d ms1 => ∃ s t rs, d = .prg s t rs true ∧ P (.rdsF rs) ms1) : We g c (tFld g.K ta "readings") ds ms P := fun gs as H σ L Q q =>
  h gs as H σ L _ fun v H1 d ms1 L1 ⟨s, t, rs, e, k⟩ => by
    subst e
    obtain ⟨x, dx, rv, rfl, hx, hr, hn⟩ := L1.top
    exact ⟨x, g.CP, dx, _, rv, rfl, hx, g.clP, g.nP "readings" (by decide +kernel), rfl, q rv H1 (.rdsF rs) ms1 (L1.pop.push ⟨hr, hn rfl⟩) k⟩
theorem pd_oi {K : PySem.W.Frag} {H : Hp} : ∀ o : Option Int, Pd K H (oi o) (oiV o)
  | none => .non
  | some i => .int i
theorem we_fS {ta : TE} {f : Str} (h : We g c ta ds ms fun d ms1 => ∃ S, d = .sm S ∧ f ∈ (["begin", "end", "length", "added", "least", "most", "stands"] : List Str) ∧
    ∀ va vl vm vs : V, ∃ z w, ([("begin", oiV S.b), ("end", oiV S.e), ("length", .int S.len), ("added", va), ("least", vl), ("most", vm), ("stands", vs)] : List (Str × V)).lookup f = some w ∧
      (∀ (K : PySem.W.Frag) (H : Hp), Pd K H (intsD S.ad) va → Pd K H (intsD S.le) vl → Pd K H (intsD S.mo) vm → Pd K H (intsD S.st) vs → Pd K H z w) ∧ P (.p z) ms1) : We g c (tFld g.K ta f) ds ms P := fun gs as H σ L Q q =>
  h gs as H σ L _ fun v H1 d ms1 L1 ⟨S, e, hf, k⟩ => by
    subst e
    obtain ⟨x, dx, va, vl, vm, vs, rfl, hx, h1, h2, h3, h4⟩ := L1.top
    obtain ⟨z, w, e1, e2, e3⟩ := k va vl vm vs
    exact ⟨x, g.CS, dx, _, w, rfl, hx, g.clS, g.nS f hf, e1, q w H1 _ ms1 (L1.pop.pushP (e2 _ _ h1 h2 h3 h4)) e3⟩
theorem we_begin {ta : TE} (h : We g c ta ds ms fun d ms1 => ∃ S, d = .sm S ∧ P (.p (oi S.b)) ms1) : We g c (tFld g.K ta "begin") ds ms P :=
  we_fS (we_mono h fun d ms1 ⟨S, e, k⟩ => ⟨S, e, by decide +kernel, fun va vl vm vs => ⟨oi S.b, _, rfl, fun _ _ _ _ _ _ => pd_oi _, k⟩⟩)
theorem we_end {ta : TE} (h : We g c ta ds ms fun d ms1 => ∃ S, d = .sm S ∧ P (.p (oi S.e)) ms1) : We g c (tFld g.K ta "end") ds ms P :=
  we_fS (we_mono h fun d ms1 ⟨S, e, k⟩ => ⟨S, e, by decide +kernel, fun va vl vm vs => ⟨oi S.e, _, rfl, fun _ _ _ _ _ _ => pd_oi _, k⟩⟩)
theorem we_length {ta : TE} (h : We g c ta ds ms fun d ms1 => ∃ S, d = .sm S ∧ P (.p (.int S.len)) ms1) : We g c (tFld g.K ta "length") ds ms P :=
  we_fS (we_mono h fun d ms1 ⟨S, e, k⟩ => ⟨S, e, by decide +kernel, fun va vl vm vs => ⟨.int S.len, _, rfl, fun _ _ _ _ _ _ => .int _, k⟩⟩)
theorem we_added {ta : TE} (h : We g c ta ds ms fun d ms1 => ∃ S, d = .sm S ∧ P (.p (intsD S.ad)) ms1) : We g c (tFld g.K ta "added") ds ms P :=
  we_fS (we_mono h fun d ms1 ⟨S, e, k⟩ => ⟨S, e, by decide +kernel, fun va vl vm vs => ⟨intsD S.ad, _, rfl, fun _ _ q _ _ _ => q, k⟩⟩)
theorem we_least {ta : TE} (h : We g c ta ds ms fun d ms1 => ∃ S, d = .sm S ∧ P (.p (intsD S.le)) ms1) : We g c (tFld g.K ta "least") ds ms P :=
  we_fS (we_mono h fun d ms1 ⟨S, e, k⟩ => ⟨S, e, by decide +kernel, fun va vl vm vs => ⟨intsD S.le, _, rfl, fun _ _ _ q _ _ => q, k⟩⟩)
theorem we_most {ta : TE} (h : We g c ta ds ms fun d ms1 => ∃ S, d = .sm S ∧ P (.p (intsD S.mo)) ms1) : We g c (tFld g.K ta "most") ds ms P :=
  we_fS (we_mono h fun d ms1 ⟨S, e, k⟩ => ⟨S, e, by decide +kernel, fun va vl vm vs => ⟨intsD S.mo, _, rfl, fun _ _ _ _ q _ => q, k⟩⟩)
theorem we_stands {ta : TE} (h : We g c ta ds ms fun d ms1 => ∃ S, d = .sm S ∧ P (.p (intsD S.st)) ms1) : We g c (tFld g.K ta "stands") ds ms P :=
  we_fS (we_mono h fun d ms1 ⟨S, e, k⟩ => ⟨S, e, by decide +kernel, fun va vl vm vs => ⟨intsD S.st, _, rfl, fun _ _ _ _ _ q => q, k⟩⟩)
/-! ### built-in calls by values -/
theorem zip1 {gs : List (V × D)} {as : List Addr} {H : Hp} {σ : L2.St} {vs : List V} {x : D} (L : Lo g c (vs.zip [x] ++ gs) as H σ ds ms) (le : vs.length = [x].length) : ∃ v, vs = [v] ∧ Lo g c gs as H σ ds ms ∧ IsD g c as H x v := by
  match vs, le with
  | [v], _ => exact ⟨v, rfl, L.pop, L.top⟩
theorem zip2 {gs : List (V × D)} {as : List Addr} {H : Hp} {σ : L2.St} {vs : List V} {x y : D} (L : Lo g c (vs.zip [x, y] ++ gs) as H σ ds ms) (le : vs.length = [x, y].length) : ∃ u v, vs = [u, v] ∧ Lo g c gs as H σ ds ms ∧ IsD g c as H x u ∧ IsD g c as H y v := by
  match vs, le with
  | [u, v], _ => exact ⟨u, v, rfl, L.pop.pop, L.top, L.pop.top⟩
abbrev rLenQ (K : PySem.W.Frag) : List V → Hp → VK → Prop := fun xs H Q => ∃ p ys, xs = [.ref p] ∧ (SqL K H p ys ∨ SqT K H p ys) ∧ Q (.int ys.length) H
theorem wc_lenT {xs : List PyData} (h : P (.p (.int xs.length)) ms) : Wc g c (rLenQ g.K) [.p (.tuple xs)] ms P := fun gs as H σ ds vs L le Q q => by
  obtain ⟨v, rfl, L1, hv⟩ := zip1 L le
  obtain ⟨a, ws, rfl, hq, hs⟩ := Pd.sq hv
  refine ⟨a, ws, rfl, .inr hq, ?_⟩
  rw [hs.length]
  exact q _ H _ ms (L1.pushP (.int _)) h
theorem wc_lenL {x : D} {xs : List PyData} (e : lstD x = some xs) (h : P (.p (.int xs.length)) ms) : Wc g c (rLenQ g.K) [x] ms P := fun gs as H σ ds vs L le Q q => by
  obtain ⟨v, rfl, L1, hv⟩ := zip1 L le
  obtain ⟨a, ws, rfl, hq, hs⟩ := lstD_sq e hv
  refine ⟨a, ws, rfl, .inl hq, ?_⟩
  rw [hs.length]
  exact q _ H _ ms (L1.pushP (.int _)) h
theorem wc_lenM {k : Nat} {xs : List PyData} (e : ms[k]? = some (.l xs)) (h : P (.p (.int xs.length)) ms) : Wc g c (rLenQ g.K) [.m k] ms P := fun gs as H σ ds vs L le Q q => by
  obtain ⟨v, rfl, L1, hv⟩ := zip1 L le
  obtain ⟨a, ha, rfl⟩ := hv
  obtain ⟨ws, hq, hs⟩ := L1.own k a _ ha e
  refine ⟨a, ws, rfl, .inl (.of hq), ?_⟩
  rw [hs.length]
  exact q _ H _ ms (L1.pushP (.int _)) h
theorem wc_abs {i : Int} (h : P (.p (.int (if i < 0 then -i else i))) ms) : Wc g c (fun xs H Q => ∃ i, xs = [.int i] ∧ Q (.int (if i < 0 then -i else i)) H) [.p (.int i)] ms P := fun gs as H σ ds vs L le Q q => by
  obtain ⟨v, rfl, L1, hv⟩ := zip1 L le
  cases hv
  exact ⟨i, rfl, q _ H _ ms (L1.pushP (.int _)) h⟩
theorem wc_max2 {i j : Int} (h : P (.p (.int (if j > i then j else i))) ms) : Wc g c (fun xs H Q => ∃ i j, xs = [.int i, .int j] ∧ Q (.int (if j > i then j else i)) H) [.p (.int i), .p (.int j)] ms P := fun gs as H σ ds vs L le Q q => by
  obtain ⟨u, v, rfl, L1, hu, hv⟩ := zip2 L le
  cases hu
  cases hv
  exact ⟨i, j, rfl, q _ H _ ms (L1.pushP (.int _)) h⟩
theorem wc_min2 {i j : Int} (h : P (.p (.int (if j < i then j else i))) ms) : Wc g c (fun xs H Q => ∃ i j, xs = [.int i, .int j] ∧ Q (.int (if j < i then j else i)) H) [.p (.int i), .p (.int j)] ms P := fun gs as H σ ds vs L le Q q => by
  obtain ⟨u, v, rfl, L1, hu, hv⟩ := zip2 L le
  cases hu
  cases hv
  exact ⟨i, j, rfl, q _ H _ ms (L1.pushP (.int _)) h⟩
abbrev rInt1 : List V → Hp → VK → Prop := fun xs H Q => (∃ i, xs = [.int i] ∧ Q (.int i) H) ∨ ∃ k, xs = [.bl k] ∧ Q (.int (if k then 1 else 0)) H
theorem wc_int1 {i : Int} (h : P (.p (.int i)) ms) : Wc g c rInt1 [.p (.int i)] ms P := fun gs as H σ ds vs L le Q q => by
  obtain ⟨v, rfl, L1, hv⟩ := zip1 L le
  cases hv
  exact .inl ⟨i, rfl, q _ H _ ms (L1.pushP (.int _)) h⟩
theorem wc_intB {b : Bool} (h : P (.p (.int (if b = true then 1 else 0))) ms) : Wc g c rInt1 [.p (.bool b)] ms P := fun gs as H σ ds vs L le Q q => by
  obtain ⟨v, rfl, L1, hv⟩ := zip1 L le
  cases hv
  exact .inr ⟨b, rfl, q _ H _ ms (L1.pushP (.int _)) h⟩
abbrev rTupQ (K : PySem.W.Frag) : List V → Hp → VK → Prop := fun xs H Q => ∃ p ys, xs = [.ref p] ∧ ((SqL K H p ys ∧ ∀ l, H l = none → Q (.ref l) (upd H l (.tup ys))) ∨ (SqT K H p ys ∧ Q (.ref p) H))
theorem wc_tup {x : D} {xs : List PyData} (e : lstD x = some xs) (h : P (.p (.tuple xs)) ms) : Wc g c (rTupQ g.K) [x] ms P := fun gs as H σ ds vs L le Q q => by
  obtain ⟨v, rfl, L1, hv⟩ := zip1 L le
  obtain ⟨a, ws, rfl, hq, hs⟩ := lstD_sq e hv
  refine ⟨a, ws, rfl, .inl ⟨hq, fun p np => ?_⟩⟩
  have y : Stay (fun _ => False) H (upd H p (.tup ws)) := .new np
  exact q _ _ _ ms ((L1.laid np).pushP (.tup (.of upd_same) (Pds.mono y _ _ hs))) h
theorem wc_tupM {k : Nat} {xs : List PyData} (e : ms[k]? = some (.l xs)) (h : P (.p (.tuple xs)) ms) : Wc g c (rTupQ g.K) [.m k] ms P := fun gs as H σ ds vs L le Q q => by
  obtain ⟨v, rfl, L1, hv⟩ := zip1 L le
  obtain ⟨a, ha, rfl⟩ := hv
  obtain ⟨ws, hq, hs⟩ := L1.own k a _ ha e
  refine ⟨a, ws, rfl, .inl ⟨.of hq, fun p np => ?_⟩⟩
  have y : Stay (fun _ => False) H (upd H p (.tup ws)) := .new np
  exact q _ _ _ ms ((L1.laid np).pushP (.tup (.of upd_same) (Pds.mono y _ _ hs))) h
abbrev rLstQ (K : PySem.W.Frag) : List V → Hp → VK → Prop := fun xs H Q => ∃ p ys, xs = [.ref p] ∧ (SqL K H p ys ∨ SqT K H p ys) ∧ ∀ l, H l = none → Q (.ref l) (upd H l (.lst ys))
theorem wc_lstT {xs : List PyData} (h : P (.nl xs) ms) : Wc g c (rLstQ g.K) [.p (.tuple xs)] ms P := fun gs as H σ ds vs L le Q q => by
  obtain ⟨v, rfl, L1, hv⟩ := zip1 L le
  obtain ⟨a, ws, rfl, hq, hs⟩ := Pd.sq hv
  refine ⟨a, ws, rfl, .inr hq, fun p np => ?_⟩
  have y : Stay (fun _ => False) H (upd H p (.lst ws)) := .new np
  obtain ⟨n0, n1, n2⟩ := L1.new np
  exact q _ _ (.nl xs) ms ((L1.laid np).push ⟨p, _, rfl, upd_same, n0, n1, n2, Pds.mono y _ _ hs⟩) h
theorem wc_sum {x : D} {ns : List Int} (e : lstD x = some (ns.map .int)) (h : P (.p (.int ns.sum)) ms) : Wc g c (rSum g.K) [x] ms P := fun gs as H σ ds vs L le Q q => by
  obtain ⟨v, rfl, L1, hv⟩ := zip1 L le
  obtain ⟨a, ws, rfl, hq, hs⟩ := lstD_sq e hv
  have ew := Pds.toInts hs
  subst ew
  exact ⟨a, ns, rfl, hq, q _ H _ ms (L1.pushP (.int _)) h⟩
theorem wc_all {x : D} {bs : List Bool} (e : lstD x = some (bs.map .bool)) (h : P (.p (.bool (bs.all id))) ms) : Wc g c (rAll g.K) [x] ms P := fun gs as H σ ds vs L le Q q => by
  obtain ⟨v, rfl, L1, hv⟩ := zip1 L le
  obtain ⟨a, ws, rfl, hq, hs⟩ := lstD_sq e hv
  have ew := Pds.bools hs
  subst ew
  exact ⟨a, bs, rfl, hq, q _ H _ ms (L1.pushP (.bl _)) h⟩
end
end K19
/-! statements, loops, comprehensions, calls over states of data -/
namespace K19
open PySem PySem.Spec PyProof.Rows L2
section
variable {g : Gk} {c : Cg} {ds : List (Option D)} {ms : List MO} {P : D → List MO → Prop} {N : List (Option D) → List MO → Prop} {R : D → List MO → Prop}
/-! ### isinstance -/
def isiD : D → String → Option Bool
  | .p .none, n => kitB "NoneType" n
  | .p (.bool _), n => kitB "bool" n
  | .p (.int _), n => kitB "int" n
  | .p (.str _), n => kitB "str" n
  | .p (.tuple _), n => kitB "tuple" n
  | _, _ => none
theorem ty_sqT {K : PySem.W.Frag} {H : Hp} {a : Addr} {vs : List V} (h : SqT K H a vs) : TyX K H (.ref a) (.type "tuple") := by
  rcases h with (h | ⟨o, h⟩) | ⟨o, its, n, h, hc, _⟩
  · exact .base (.tup h)
  · exact .fTuple h
  · exact .kTuple h hc
theorem isi_ty {as : List Addr} {H : Hp} {n : String} {b : Bool} : ∀ {d : D} {v : V}, isiD d n = some b → IsD g c as H d v → ∃ t, TyX g.K H v t ∧ PySem.W.kitOne g.K t (.type n) = some b
  | .p .none, _, e, h => by cases h; exact ⟨_, .base .non, kit_ty e⟩
  | .p (.bool _), _, e, h => by cases h; exact ⟨_, .base (.bl _), kit_ty e⟩
  | .p (.int _), _, e, h => by cases h; exact ⟨_, .base (.int _), kit_ty e⟩
  | .p (.str _), _, e, h => by cases h; exact ⟨_, .base (.str _), kit_ty e⟩
  | .p (.tuple _), _, e, h => by
    obtain ⟨a, vs, rfl, hq, _⟩ := Pd.sq h
    exact ⟨_, ty_sqT hq, kit_ty e⟩
  | .p (.list _), _, e, h => by cases e
  | .p (.dict _), _, e, h => by cases e
  | .l _, _, e, h => by cases e
  | .nl _, _, e, h => by cases e
  | .m _, _, e, h => by cases e
  | .pool, _, e, h => by cases e
  | .prg _ _ _ _, _, e, h => by cases e
  | .rdsF _, _, e, h => by cases e
  | .sm _, _, e, h => by cases e
  | .slf _ _, _, e, h => by cases e
  | .ad _, _, e, h => by cases e
theorem we_isi {ta : TE} {n : String} (h : We g c ta ds ms fun d ms1 => ∃ b, isiD d n = some b ∧ P (.p (.bool b)) ms1) : We g c (tCB (rIsi g.K) (tCons ta (tCons (tC (.ty n)) tNil))) ds ms P := fun gs as H σ L Q q =>
  h gs as H σ L _ fun v H1 d ms1 L1 ⟨b, e, k⟩ => by
    obtain ⟨t, ty, kk⟩ := isi_ty e L1.top
    exact ⟨v, .ty n, t, .type n, b, rfl, .ty n, ty, kk, q _ H1 _ ms1 (L1.pop.pushP (.bl _)) k⟩
/-! ### statements -/
theorem ws_mono {ts : TS} {N' : List (Option D) → List MO → Prop} {R' : D → List MO → Prop} (h : Ws g c ts ds ms N' R') (kn : ∀ ds ms, N' ds ms → N ds ms) (kr : ∀ d ms, R' d ms → R d ms) : Ws g c ts ds ms N R :=
  fun gs as H σ E L n q r => h gs as H σ E L n (fun σ' H' as' ds' ms' L' p => q σ' H' as' ds' ms' L' (kn _ _ p)) fun v H' as' d σ' ds' ms' L' p => r v H' as' d σ' ds' ms' L' (kr _ _ p)
theorem ws_seq {t u : TS} (h : Ws g c t ds ms (fun ds1 ms1 => Ws g c u ds1 ms1 N R) R) : Ws g c (tSeq t u) ds ms N R := fun gs as H σ E L n q r =>
  h gs as H σ { E with nx := u E } L n (fun σ' H' as' ds' ms' L' p => p gs as' H' σ' E L' n q r) r
theorem ws_next (h : N ds ms) : Ws g c tNext ds ms N R := fun gs as H σ E L n q r => q σ H as ds ms L h
theorem ws_drop {te : TE} (h : We g c te ds ms fun _ ms1 => N ds ms1) : Ws g c (tDrop te) ds ms N R := fun gs as H σ E L n q r =>
  h gs as H σ L _ fun v H' d ms' L' k => q σ H' as ds ms' L'.pop k
theorem ws_ret {te : TE} (h : We g c te ds ms R) : Ws g c (tRet te) ds ms N R := fun gs as H σ E L n q r =>
  h gs as H σ L _ fun v H' d ms' L' k => r v H' as d σ ds ms' L' k
theorem ws_retN (h : R (.p .none) ms) : Ws g c tRetN ds ms N R := fun gs as H σ E L n q r => r .non H as (.p .none) σ ds ms (L.pushP .non) h
theorem ws_if {t : TT} {u w : TS} (h : Wt g c t ds ms fun b ms1 => if b = true then Ws g c u ds ms1 N R else Ws g c w ds ms1 N R) : Ws g c (tIfS t u w) ds ms N R := fun gs as H σ E L n q r =>
  h gs as H σ L _ fun b H1 ms1 L1 k => by
    cases b with
    | true => exact k gs as H1 σ E L1 n q r
    | false => exact k gs as H1 σ E L1 n q r
theorem ws_asg {te : TE} {tg : TG} (h : We g c te ds ms fun d ms1 => Wg g c tg d ds ms1 N) : Ws g c (tAsg te tg) ds ms N R := fun gs as H σ E L n q r =>
  h gs as H σ L _ fun v H' d ms' L' k => k gs as H' σ v L' _ fun σ' H2 ds' ms2 L2 p => q σ' H2 as ds' ms2 L2 p
theorem Lo.set {gs : List (V × D)} {as : List Addr} {H : Hp} {σ : L2.St} {v : V} {d : D} (L : Lo g c ((v, d) :: gs) as H σ ds ms) {i : Nat} (hi : i < ds.length) : Lo g c gs as H (σ.set i (some v)) (ds.set i (some d)) ms :=
  ⟨L.keep, L.fr, L.nd, L.ln, L.own, L.pool, by rw [List.length_set, List.length_set]; exact L.sln, fun j e hj => by
    by_cases hij : i = j
    · subst hij
      rw [List.getElem?_set_self hi] at hj
      cases hj
      exact ⟨v, List.getElem?_set_self (by rw [L.sln]; exact hi), L.top⟩
    · rw [List.getElem?_set_ne hij] at hj
      rw [List.getElem?_set_ne hij]
      exact L.sl j e hj, L.pop.gh⟩
theorem wg_name {i : Nat} {d : D} (h : i < ds.length ∧ N (ds.set i (some d)) ms) : Wg g c (gName i) d ds ms N := fun gs as H σ v L Q q => q _ H _ ms (L.set h.1) h.2
/-- several targets -/
def Wgs (g : Gk) (c : Cg) (tgs : TGs) (xs : List PyData) (ds : List (Option D)) (ms : List MO) (P : List (Option D) → List MO → Prop) : Prop :=
  ∀ (gs : List (V × D)) (as : List Addr) (H : Hp) (σ : L2.St) (vs : List V), Lo g c gs as H σ ds ms → Pds g.K H xs vs → ∀ Q : L2.St → Hp → Prop, (∀ σ' H' ds' ms', Lo g c gs as H' σ' ds' ms' → P ds' ms' → Q σ' H') → tgs vs σ H Q
theorem wgs_nil (h : N ds ms) : Wgs g c gNil [] ds ms N := fun gs as H σ vs L hs Q q => by
  cases hs
  exact ⟨rfl, q σ H ds ms L h⟩
theorem wgs_cons {i : Nat} {tgs : TGs} {x : PyData} {xs : List PyData} (h : i < ds.length ∧ Wgs g c tgs xs (ds.set i (some (.p x))) ms N) : Wgs g c (gCons (gName i) tgs) (x :: xs) ds ms N := fun gs as H σ vs L hs Q q => by
  cases hs with
  | cons h1 hs => exact ⟨_, _, rfl, h.2 gs as H _ _ ((L.pushP h1).set h.1) hs Q q⟩
theorem wg_tup {n : Nat} {tgs : TGs} {xs : List PyData} (hl : xs.length = n) (h : Wgs g c tgs xs ds ms N) : Wg g c (gTup g.K n tgs) (.p (.tuple xs)) ds ms N := fun gs as H σ v L Q q => by
  obtain ⟨a, vs, rfl, hq, hs⟩ := Pd.sq L.top
  exact ⟨a, vs, rfl, hq, by rw [hs.length]; exact hl, h gs as H σ vs L.pop hs Q q⟩
theorem ws_aug {i : Nat} {te : TE} {f : Int → Int → Int} (h : ∃ x : Int, ds[i]? = some (some (.p (.int x))) ∧ i < ds.length ∧ We g c te ds ms fun d ms1 => ∃ y : Int, d = .p (.int y) ∧ N (ds.set i (some (.p (.int (f x y))))) ms1) : Ws g c (tAug i te (ipI f)) ds ms N R := fun gs as H σ E L n q r => by
  obtain ⟨x, e, hi, h⟩ := h
  obtain ⟨u, eu, hu⟩ := L.sl i _ e
  cases hu
  refine ⟨_, eu, h gs as H σ L _ fun v H' d ms' L' ⟨y, ed, k⟩ => ?_⟩
  subst ed
  have hy := L'.top
  cases hy
  exact ⟨x, y, rfl, rfl, q _ H' as _ ms' ((L'.pop.pushP (.int (f x y))).set hi) k⟩
/-- xs.append(e) of an own list -/
theorem ws_append {i : Nat} {te : TE} (h : ∃ k xs0, ds[i]? = some (some (.m k)) ∧ ms[k]? = some (.l xs0) ∧ We g c te ds ms fun d ms1 => ∃ x xs, d = .p x ∧ ms1[k]? = some (.l xs) ∧ xs.length ≤ 1000 ∧ N ds (ms1.set k (.l (xs ++ [x])))) :
    Ws g c (tDrop (tBM g.K "list" rAppend (tVar i) (tCons te tNil))) ds ms N R := fun gs as H σ E L n q r => by
  obtain ⟨k, xs0, e, e0, h⟩ := h
  obtain ⟨u, eu, a, ha, ea⟩ := L.sl i _ e
  subst ea
  have tv : tyV g.K "list" (.ref a) H := by
    obtain ⟨vs, hq, _⟩ := L.own k a _ ha e0
    exact .inl ⟨rfl, _, .of hq⟩
  refine ⟨_, eu, tv, h gs as H σ L _ fun v H' d ms' L' ⟨x, xs, ed, ex, hl, k'⟩ => ?_⟩
  subst ed
  obtain ⟨vs, hq, hs⟩ := L'.own k a _ ha ex
  have ll : vs.length < sizeLine := small1000 (by rw [hs.length]; exact hl)
  refine ⟨a, vs, v, rfl, rfl, hq, ll, ?_⟩
  have hx : Pd g.K H' x v := L'.top
  refine q σ _ as ds _ (L'.pop.write ha (o := .lst (vs ++ [v])) (m := .l (xs ++ [x])) ⟨_, upd_same, ?_⟩) k'
  have y : Stay (fun b => b = a) H' (upd H' a (.lst (vs ++ [v]))) := fun b w e nn => by
    by_cases hb : b = a
    · subst hb
      rw [hq] at e
      cases e
      exact absurd rfl (nn rfl)
    · rw [upd_ne hb]
      exact e
  exact (Pds.mono y _ _ hs).append (.one (Pd.mono y _ _ hx))
/-! ### for -/
theorem ws_for {wi : TI} {tg : TG} {tb : TS} (h : Wi g c wi ds ms fun ys ms1 => ∃ Iv : Nat → List (Option D) → List MO → Prop, Iv 0 ds ms1 ∧
    (∀ (i : Nat) y ds2 ms2, ys[i]? = some y → Iv i ds2 ms2 → Wg g c tg (.p y) ds2 ms2 fun ds3 ms3 => Ws g c tb ds3 ms3 (Iv (i + 1)) R) ∧ ∀ ds2 ms2, Iv ys.length ds2 ms2 → N ds2 ms2) : Ws g c (tFor wi tg tb) ds ms N R := fun gs as H σ E L n q r =>
  h gs as H σ L _ fun J H1 ys ms1 sr L1 ns it ⟨Iv, i0, turn, fin⟩ => by
    refine ⟨fun i m σ2 H2 => m = ys.length - i ∧ i ≤ ys.length ∧ ∃ as2 ds2 ms2, Lo g c (sr ++ gs) as2 H2 σ2 ds2 ms2 ∧ Iv i ds2 ms2, ⟨ys.length, by simp, Nat.zero_le _, as, ds, ms1, L1, i0⟩, ?_⟩
    rintro i m σ2 H2 ⟨rfl, hi, as2, ds2, ms2, L2, iv⟩
    have src : ∀ p ∈ sr, IsD g c as2 H2 p.2 p.1 := fun p hp => L2.gh p (List.mem_append_left _ hp)
    obtain ⟨go, stop⟩ := it as2 H2 src i
    by_cases hlt : i < ys.length
    · obtain ⟨jg, jy⟩ := go ys[i] (List.getElem?_eq_getElem hlt)
      refine .inr ⟨jg, fun σ' H' => ∃ as' ds' ms', Lo g c (sr ++ gs) as' H' σ' ds' ms' ∧ Iv (i + 1) ds' ms', fun σ' H' ⟨as', ds', ms', L', iv'⟩ => ⟨ys.length - (i + 1), by omega, rfl, hlt, as', ds', ms', L', iv'⟩, fun x H3 yx => ?_⟩
      obtain ⟨sm, px⟩ := jy x H3 yx
      refine turn i _ ds2 ms2 (List.getElem?_eq_getElem hlt) iv (sr ++ gs) as2 H3 σ2 x ((L2.same sm).push px) _ fun σ4 H4 ds4 ms4 L4 w => ?_
      refine w (sr ++ gs) as2 H4 σ4 _ L4 (fun p hp => ?_) (fun σ' H' as' ds' ms' L' iv' => ⟨as', ds', ms', L', iv'⟩) fun v H' as' d σ' ds' ms' L' k => r v H' as' d σ' ds' ms' (L'.weak fun p hp => ?_) k
      · rcases List.mem_append.mp hp with z | z
        · exact ns p z
        · exact n p z
      · rcases List.mem_cons.mp hp with z | z
        · rw [z]; exact List.mem_cons_self
        · exact List.mem_cons_of_mem _ (List.mem_append_right _ z)
    · have e : i = ys.length := by omega
      subst e
      exact .inl ⟨stop rfl, q σ2 H2 as2 ds2 ms2 (L2.weak fun p hp => List.mem_append_right _ hp) (fin ds2 ms2 iv)⟩
/-! ### what is walked -/
variable {I : List PyData → List MO → Prop}
theorem wi_tup {te : TE} (h : We g c te ds ms fun d ms1 => ∃ xs, d = .p (.tuple xs) ∧ I xs ms1) : Wi g c (iTup g.K te) ds ms I := fun gs as H σ L R q =>
  h gs as H σ L _ fun v H1 d ms1 L1 ⟨xs, e, k⟩ => by
    subst e
    obtain ⟨a, vs, rfl, hq, hs⟩ := Pd.sq L1.top
    refine ⟨a, rfl, ⟨vs, hq⟩, q _ H1 xs ms1 [(.ref a, .p (.tuple xs))] L1 (fun p hp => by rw [List.mem_singleton.mp hp]; rfl) (fun as2 H2 src i => ?_) k⟩
    obtain ⟨b, ws, eb, hr, ht⟩ := Pd.sq (src _ List.mem_cons_self)
    cases eb
    refine ⟨fun y hy => ?_, fun hl => ⟨ws, hr, by rw [ht.length]; exact Nat.le_of_eq hl.symm⟩⟩
    obtain ⟨w, e1, e2⟩ := ht.get hy
    refine ⟨⟨ws, w, hr, e1⟩, fun x H3 ⟨eH, f⟩ => ?_⟩
    subst eH
    have e3 := f ws hr
    rw [e1] at e3
    cases e3
    exact ⟨fun _ _ z => z, e2⟩
theorem wi_list {te : TE} (h : We g c te ds ms fun d ms1 => ∃ xs, lstD d = some xs ∧ I xs ms1) : Wi g c (iList g.K te) ds ms I := fun gs as H σ L R q =>
  h gs as H σ L _ fun v H1 d ms1 L1 ⟨xs, e, k⟩ => by
    obtain ⟨a, vs, rfl, hq, hs⟩ := lstD_sq e L1.top
    refine ⟨a, rfl, ⟨vs, hq⟩, q _ H1 xs ms1 [(.ref a, d)] L1 (fun p hp => by rw [List.mem_singleton.mp hp]; cases d <;> first | rfl | cases e) (fun as2 H2 src i => ?_) k⟩
    obtain ⟨b, ws, eb, hr, ht⟩ := lstD_sq e (src _ List.mem_cons_self)
    cases eb
    refine ⟨fun y hy => ?_, fun hl => ⟨ws, hr, by rw [ht.length]; exact Nat.le_of_eq hl.symm⟩⟩
    obtain ⟨w, e1, e2⟩ := ht.get hy
    refine ⟨⟨ws, w, hr, e1⟩, fun x H3 ⟨eH, f⟩ => ?_⟩
    subst eH
    have e3 := f ws hr
    rw [e1] at e3
    cases e3
    exact ⟨fun _ _ z => z, e2⟩
def rngD (lo : Int) (n : Nat) : List PyData := (List.range n).map fun i : Nat => .int (lo + (i : Int))
theorem rngD_get {lo : Int} {n i : Nat} {y : PyData} (h : (rngD lo n)[i]? = some y) : i < n ∧ y = .int (lo + (i : Int)) := by
  unfold rngD at h
  rw [List.getElem?_map] at h
  by_cases hi : i < n
  · rw [List.getElem?_range hi] at h
    cases h
    exact ⟨hi, rfl⟩
  · rw [List.getElem?_eq_none (by rw [List.length_range]; omega)] at h
    cases h
theorem rngD_len (lo : Int) (n : Nat) : (rngD lo n).length = n := by
  unfold rngD
  rw [List.length_map, List.length_range]
theorem wi_rng1 {ta : TA} (h : Wa g c ta ds ms fun es ms1 => ∃ j : Int, es = [.p (.int j)] ∧ j ≤ 1000 ∧ 0 ≤ j ∧ I (rngD 0 j.toNat) ms1) : Wi g c (iRng1 ta) ds ms I := fun gs as H σ L R q =>
  h gs as H σ L _ fun vs H1 es ms1 L1 le ⟨j, e, h1, h2, k⟩ => by
    subst e
    obtain ⟨v, rfl, L2, hv⟩ := zip1 L1 le
    cases hv
    refine ⟨j, rfl, by omega, by omega, q _ H1 _ ms1 [] L2 (fun p hp => absurd hp List.not_mem_nil) (fun as2 H2 src i => ⟨fun y hy => ?_, fun hl => by rw [rngD_len] at hl; exact Nat.le_of_eq hl.symm⟩) k⟩
    obtain ⟨hi, rfl⟩ := rngD_get hy
    refine ⟨hi, fun x H3 ⟨eH, ex⟩ => ?_⟩
    subst eH ex
    exact ⟨fun _ _ z => z, .int _⟩
/-! ### comprehensions -/
def wipeD (ds : List (Option D)) : List Nat → List (Option D)
  | [] => ds
  | v :: vs => (wipeD ds vs).set v none
theorem wipeD_len : ∀ vs : List Nat, (wipeD ds vs).length = ds.length
  | [] => rfl
  | v :: vs => by
    show ((wipeD ds vs).set v none).length = ds.length
    rw [List.length_set, wipeD_len vs]
theorem Lo.wipe {gs : List (V × D)} {as : List Addr} {H : Hp} {σ : L2.St} (L : Lo g c gs as H σ ds ms) : ∀ vs : List Nat, Lo g c gs as H (wipe σ vs) (wipeD ds vs) ms
  | [] => L
  | v :: vs => by
    have M := L.wipe vs
    refine ⟨M.keep, M.fr, M.nd, M.ln, M.own, M.pool, ?_, fun j e hj => ?_, M.gh⟩
    · show ((L2.wipe σ vs).set v none).length = ((wipeD ds vs).set v none).length
      rw [List.length_set, List.length_set]
      exact M.sln
    · have hj2 : ((wipeD ds vs).set v none)[j]? = some (some e) := hj
      show ∃ w, ((L2.wipe σ vs).set v none)[j]? = some (some w) ∧ IsD g c as H e w
      by_cases hv : v = j
      · subst hv
        by_cases hl : v < (wipeD ds vs).length
        · rw [List.getElem?_set_self hl] at hj2
          cases hj2
        · rw [List.getElem?_eq_none (by rw [List.length_set]; omega)] at hj2
          cases hj2
      · rw [List.getElem?_set_ne hv] at hj2
        rw [List.getElem?_set_ne hv]
        exact M.sl j e hj2
theorem wipe_get (σ : L2.St) (j : Nat) : ∀ vs : List Nat, (L2.wipe σ vs)[j]? = if j ∈ vs ∧ j < σ.length then some none else σ[j]?
  | [] => by simp [L2.wipe]
  | v :: vs => by
    show ((L2.wipe σ vs).set v none)[j]? = _
    have ih := wipe_get σ j vs
    by_cases hv : v = j
    · subst hv
      by_cases hl : v < σ.length
      · rw [List.getElem?_set_self (by rw [L2.wipe_length]; exact hl), if_pos ⟨List.mem_cons_self, hl⟩]
      · rw [if_neg (fun z => hl z.2), List.getElem?_eq_none (by rw [List.length_set, L2.wipe_length]; omega), List.getElem?_eq_none (by omega)]
    · rw [List.getElem?_set_ne hv, ih]
      by_cases hm : j ∈ vs ∧ j < σ.length
      · rw [if_pos hm, if_pos ⟨List.mem_cons_of_mem _ hm.1, hm.2⟩]
      · rw [if_neg hm, if_neg (fun z => hm ⟨(List.mem_cons.mp z.1).resolve_left (fun e => hv e.symm), z.2⟩)]
def setV (σ : L2.St) : List (Nat × V) → L2.St
  | [] => σ
  | p :: r => setV (σ.set p.1 (some p.2)) r
def setD (ds : List (Option D)) : List (Nat × PyData) → List (Option D)
  | [] => ds
  | p :: r => setD (ds.set p.1 (some (.p p.2))) r
theorem setV_len : ∀ (ps : List (Nat × V)) (σ : L2.St), (setV σ ps).length = σ.length
  | [], _ => rfl
  | p :: r, σ => by
    show (setV (σ.set p.1 (some p.2)) r).length = _
    rw [setV_len r, List.length_set]
theorem setV_get : ∀ (ps : List (Nat × V)) (σ : L2.St) (j : Nat), j ∉ ps.map (·.1) → (setV σ ps)[j]? = σ[j]?
  | [], _, _, _ => rfl
  | p :: r, σ, j, h => by
    show (setV (σ.set p.1 (some p.2)) r)[j]? = _
    rw [setV_get r _ j (fun z => h (by rw [List.map_cons]; exact List.mem_cons_of_mem _ z)), List.getElem?_set_ne (fun z => h (by rw [List.map_cons, z]; exact List.mem_cons_self))]
theorem wipe_set {σ : L2.St} {vs : List Nat} {ps : List (Nat × V)} (h : ∀ j ∈ ps.map (·.1), j ∈ vs) : L2.wipe (setV (L2.wipe σ vs) ps) vs = L2.wipe σ vs := by
  apply List.ext_getElem?
  intro j
  rw [wipe_get, wipe_get, setV_len, L2.wipe_length]
  by_cases hm : j ∈ vs ∧ j < σ.length
  · rw [if_pos hm, if_pos hm]
  · rw [if_neg hm, if_neg hm]
    by_cases hj : j ∈ ps.map (·.1)
    · have hl : ¬ j < σ.length := fun z => hm ⟨h j hj, z⟩
      rw [List.getElem?_eq_none (by rw [setV_len, L2.wipe_length]; omega), List.getElem?_eq_none (by omega)]
    · rw [setV_get ps _ j hj, wipe_get, if_neg hm]
theorem Lo.sets {gs : List (V × D)} {as : List Addr} {H : Hp} : ∀ {σ : L2.St} {ds : List (Option D)} {ps : List (Nat × PyData)} {vs : List V}, Lo g c gs as H σ ds ms → (∀ p ∈ ps, p.1 < ds.length) → Pds g.K H (ps.map (·.2)) vs →
    Lo g c gs as H (setV σ ((ps.map (·.1)).zip vs)) (setD ds ps) ms
  | σ, ds, [], _, L, _, h => by
    cases h
    exact L
  | σ, ds, p :: r, _, L, hp, h => by
    cases h with
    | cons h1 hs =>
      have M := (L.pushP h1).set (hp p List.mem_cons_self)
      have Z := Lo.sets M (ps := r) (fun q hq => by rw [List.length_set]; exact hp q (List.mem_cons_of_mem _ hq)) hs
      exact Z
/-- a comprehension's target: a name, a tuple of names -/
def Tgt (K : PySem.W.Frag) (tg : TG) (y : PyData) (ps : List (Nat × PyData)) : Prop :=
  ∀ (H : Hp) (v : V) (σ : L2.St) (Q : L2.St → Hp → Prop), Pd K H y v → (∀ vs : List V, vs.length = ps.length → Pds K H (ps.map (·.2)) vs → Q (setV σ ((ps.map (·.1)).zip vs)) H) → tg v σ H Q
theorem tgt_name {K : PySem.W.Frag} {i : Nat} {y : PyData} : Tgt K (gName i) y [(i, y)] := fun H v σ Q h q => q [v] rfl (.one h)
theorem tgt_two {K : PySem.W.Frag} {i j : Nat} {x y : PyData} : Tgt K (gTup K 2 (gCons (gName i) (gCons (gName j) gNil))) (.tuple [x, y]) [(i, x), (j, y)] := fun H v σ Q h q => by
  obtain ⟨a, vs, rfl, hq, hs⟩ := h.sq
  cases hs with
  | cons h1 hs =>
    cases hs with
    | cons h2 hs =>
      cases hs
      exact ⟨a, _, rfl, hq, rfl, _, _, rfl, _, _, rfl, rfl, q [_, _] rfl (.cons h1 (.cons h2 .nil))⟩
theorem tgt_three {K : PySem.W.Frag} {i j k : Nat} {x y z : PyData} : Tgt K (gTup K 3 (gCons (gName i) (gCons (gName j) (gCons (gName k) gNil)))) (.tuple [x, y, z]) [(i, x), (j, y), (k, z)] := fun H v σ Q h q => by
  obtain ⟨a, vs, rfl, hq, hs⟩ := h.sq
  cases hs with
  | cons h1 hs =>
    cases hs with
    | cons h2 hs =>
      cases hs with
      | cons h3 hs =>
        cases hs
        exact ⟨a, _, rfl, hq, rfl, _, _, rfl, _, _, rfl, _, _, rfl, rfl, q [_, _, _] rfl (.cons h1 (.cons h2 (.cons h3 .nil)))⟩
/-- what can be a list from outside or a new one -/
def lsty : D → Bool
  | .l _ => true
  | .nl _ => true
  | _ => false
/-- the list at p, which nothing of ours names, is written -/
theorem Lo.grow {gs : List (V × D)} {as : List Addr} {H : Hp} {σ : L2.St} {p : Addr} {ws us : List V} (L : Lo g c gs as H σ ds ms) (hp : H p = some (.lst ws)) (n0 : c.H0 p = none) (n1 : p ∉ as) (n2 : ¬ c.has p)
    (hs : ∀ (i : Nat) d v, ds[i]? = some (some d) → σ[i]? = some (some v) → lsty d = true → v ≠ .ref p) (hg : ∀ q ∈ gs, lsty q.2 = true → q.1 ≠ .ref p) : Lo g c gs as (upd H p (.lst us)) σ ds ms := by
  have y : Stay (fun b => b = p) H (upd H p (.lst us)) := fun b w e nn => by
    by_cases hb : b = p
    · subst hb
      rw [hp] at e
      cases e
      exact absurd rfl (nn rfl)
    · rw [upd_ne hb]
      exact e
  have up : ∀ {d : D} {v : V}, (lsty d = true → v ≠ .ref p) → IsD g c as H d v → IsD g c as (upd H p (.lst us)) d v := fun {d v} hd h => by
    cases d with
    | p d => exact Pd.mono y _ _ h
    | l xs =>
      obtain ⟨a, vs, e, h, m1, m2, hq⟩ := h
      have na : a ≠ p := fun z => hd rfl (by rw [e, z])
      exact ⟨a, vs, e, y.rd na h, m1, m2, Pds.mono y _ _ hq⟩
    | nl xs =>
      obtain ⟨a, vs, e, h, m0, m1, m2, hq⟩ := h
      have na : a ≠ p := fun z => hd rfl (by rw [e, z])
      exact ⟨a, vs, e, y _ _ h (fun _ => na), m0, m1, m2, Pds.mono y _ _ hq⟩
    | m k => exact h
    | pool => exact h
    | prg s t rs nd => exact PrgAt.mono y h
    | rdsF rs => exact ⟨Pd.mono y _ _ h.1, h.2.mono y⟩
    | sm S => exact SmAt.mono y h
    | ad b => exact h
    | slf C x =>
      obtain ⟨e, dx, h⟩ := h
      exact ⟨e, dx, y _ _ h (fun z => nomatch z)⟩
  have na : ∀ {a : Addr}, a ∈ as → a ≠ p := fun {a} ha z => n1 (z ▸ ha)
  refine ⟨fun a o e n => ?_, L.fr, L.nd, L.ln, fun k a m e1 e2 => (L.own k a m e1 e2).mono y (na (List.mem_of_getElem? e1)), L.pool.ext fun a ha o e => ?_, L.sln, fun i d e => ?_, fun q hq => up (hg q hq) (L.gh q hq)⟩
  · have nb : a ≠ p := fun z => by
      rw [z, n0] at e
      cases e
    rw [upd_ne nb]
    exact L.keep a o e n
  · have nb : a ≠ p := fun z => n2 (z ▸ ha)
    rw [upd_ne nb]
    exact e
  · obtain ⟨v, e1, e2⟩ := L.sl i d e
    exact ⟨v, e1, up (hs i d v e e1) e2⟩
theorem lsty_at {as : List Addr} {H : Hp} {d : D} {v : V} (hl : lsty d = true) (h : IsD g c as H d v) : ∃ a, v = .ref a ∧ H a ≠ none := by
  cases d with
  | l xs =>
    obtain ⟨a, vs, e, h, _⟩ := h
    refine ⟨a, e, ?_⟩
    rcases h with h | ⟨o, h⟩
    · rw [h]; exact fun z => nomatch z
    · rw [h]; exact fun z => nomatch z
  | nl xs =>
    obtain ⟨a, vs, e, h, _⟩ := h
    exact ⟨a, e, by rw [h]; exact fun z => nomatch z⟩
  | _ => cases hl
theorem setD_get : ∀ (ps : List (Nat × PyData)) (ds : List (Option D)) (j : Nat) (d : D), lsty d = true → (setD ds ps)[j]? = some (some d) → j ∉ ps.map (·.1) ∧ ds[j]? = some (some d)
  | [], _, _, _, _, h => ⟨List.not_mem_nil, h⟩
  | p :: r, ds, j, d, hd, h => by
    obtain ⟨h1, h2⟩ := setD_get r (ds.set p.1 (some (.p p.2))) j d hd h
    by_cases hj : p.1 = j
    · subst hj
      by_cases hl : p.1 < ds.length
      · rw [List.getElem?_set_self hl] at h2
        cases h2
        cases hd
      · rw [List.getElem?_eq_none (by rw [List.length_set]; omega)] at h2
        cases h2
    · rw [List.getElem?_set_ne hj] at h2
      exact ⟨fun z => by
        rw [List.map_cons] at z
        rcases List.mem_cons.mp z with e | e
        · exact hj e.symm
        · exact h1 e, h2⟩
/-- the slots' own facts, carried along -/
def slotG : L2.St → List (Option D) → List (V × D)
  | some v :: σ, some d :: ds => (v, d) :: slotG σ ds
  | none :: σ, _ :: ds => slotG σ ds
  | some _ :: σ, none :: ds => slotG σ ds
  | [], _ => []
  | _ :: _, [] => []
theorem slotG_mem : ∀ {σ : L2.St} {ds : List (Option D)} {v : V} {d : D}, (v, d) ∈ slotG σ ds → ∃ i : Nat, ds[i]? = some (some d) ∧ σ[i]? = some (some v)
  | some w :: σ, some e :: ds, v, d, h => by
    rcases List.mem_cons.mp (show (v, d) ∈ (w, e) :: slotG σ ds from h) with z | z
    · cases z
      exact ⟨0, rfl, rfl⟩
    · obtain ⟨i, h1, h2⟩ := slotG_mem z
      exact ⟨i + 1, h1, h2⟩
  | none :: σ, e :: ds, v, d, h => by
    obtain ⟨i, h1, h2⟩ := slotG_mem (σ := σ) (ds := ds) (by cases e <;> exact h)
    exact ⟨i + 1, h1, h2⟩
  | some w :: σ, none :: ds, v, d, h => by
    obtain ⟨i, h1, h2⟩ := slotG_mem (σ := σ) (ds := ds) h
    exact ⟨i + 1, h1, h2⟩
  | [], ds, v, d, h => by cases ds <;> exact absurd h List.not_mem_nil
  | _ :: _, [], v, d, h => by
    rename_i w σ
    cases w <;> exact absurd h List.not_mem_nil
theorem mem_slotG : ∀ {σ : L2.St} {ds : List (Option D)} {v : V} {d : D} (i : Nat), ds[i]? = some (some d) → σ[i]? = some (some v) → (v, d) ∈ slotG σ ds
  | [], _, _, _, i, _, h => by simp at h
  | _ :: _, [], _, _, i, h, _ => by simp at h
  | w :: σ, e :: ds, v, d, 0, h1, h2 => by
    rw [List.getElem?_cons_zero] at h1 h2
    cases h1
    cases h2
    exact List.mem_cons_self
  | w :: σ, e :: ds, v, d, i + 1, h1, h2 => by
    rw [List.getElem?_cons_succ] at h1 h2
    have z := mem_slotG i h1 h2
    cases w with
    | none => cases e <;> exact z
    | some w =>
      cases e with
      | none => exact z
      | some e => exact List.mem_cons_of_mem _ z
theorem Lo.slots {gs : List (V × D)} {as : List Addr} {H : Hp} {σ : L2.St} (L : Lo g c gs as H σ ds ms) : Lo g c (slotG σ ds ++ gs) as H σ ds ms :=
  ⟨L.keep, L.fr, L.nd, L.ln, L.own, L.pool, L.sln, L.sl, fun p hp => by
    rcases List.mem_append.mp hp with z | z
    · obtain ⟨v, d⟩ := p
      obtain ⟨i, h1, h2⟩ := slotG_mem z
      obtain ⟨w, e1, e2⟩ := L.sl i d h1
      rw [h2] at e1
      cases e1
      exact e2
    · exact L.gh p z⟩
theorem Lo.unslot {gs : List (V × D)} {as : List Addr} {H : Hp} {σ σ' : L2.St} {ds' : List (Option D)} {ms' : List MO} (L : Lo g c (slotG σ ds ++ gs) as H σ' ds' ms') (hl : σ.length = ds.length) (hv : ∀ (i : Nat) d, ds[i]? = some (some d) → ∃ v, σ[i]? = some (some v)) :
    Lo g c gs as H σ ds ms' :=
  ⟨L.keep, L.fr, L.nd, L.ln, L.own, L.pool, hl, fun i d e => by
    obtain ⟨v, e1⟩ := hv i d e
    exact ⟨v, e1, L.gh (v, d) (List.mem_append_left _ (mem_slotG i e e1))⟩, fun p hp => L.gh p (List.mem_append_right _ hp)⟩
/-- the core of a comprehension: at its end the new list p is named by nothing else -/
theorem lc_any {wi : TI} {tg : TG} {tt : TT} {te : TE} {own : List Nat} {gs : List (V × D)} {as : List Addr} {H : Hp} {σ : L2.St} {F : List PyData → List MO → Prop} {Q : VK} (L : Lo g c gs as H σ ds ms)
    (h : Wi g c wi ds ms fun ys ms1 => ys.length ≤ 1000 ∧ ∃ Iv : Nat → List PyData → List MO → Prop, Iv 0 [] ms1 ∧
      (∀ (i : Nat) y acc ms2, ys[i]? = some y → Iv i acc ms2 → ∃ ps : List (Nat × PyData), Tgt g.K tg y ps ∧ (ps.all fun p => own.contains p.1 && decide (p.1 < ds.length)) = true ∧
        Wt g c tt (setD (wipeD ds own) ps) ms2 fun b ms3 => if b = true then We g c te (setD (wipeD ds own) ps) ms3 fun d ms4 => ∃ z, d = .p z ∧ Iv (i + 1) (acc ++ [z]) ms4 else Iv (i + 1) acc ms3) ∧
      ∀ acc ms2, Iv ys.length acc ms2 → F acc ms2)
    (q : ∀ (p : Addr) (H' : Hp) (acc : List PyData) (vs : List V) (ms' : List MO), Lo g c gs as H' σ ds ms' → H' p = some (.lst vs) → Pds g.K H' acc vs → c.H0 p = none → p ∉ as → ¬ c.has p →
      (∀ (i : Nat) d v, ds[i]? = some (some d) → σ[i]? = some (some v) → lsty d = true → v ≠ .ref p) → (∀ r ∈ gs, lsty r.2 = true → r.1 ≠ .ref p) → F acc ms' → Q (.ref p) H') : tLc wi tg tt te own σ H Q := by
  refine h gs as H σ L _ fun J H1 ys ms1 sr L1 ns it ⟨hlen, Iv, i0, turn, fin⟩ => ?_
  intro p np
  obtain ⟨n0, n1, n2⟩ := L1.new np
  have hval : ∀ (i : Nat) d, ds[i]? = some (some d) → ∃ v, σ[i]? = some (some v) := fun i d e => by
    obtain ⟨v, e1, _⟩ := L.sl i d e
    exact ⟨v, e1⟩
  -- p is named by nothing of ours
  have hsl : ∀ (i : Nat) d v, ds[i]? = some (some d) → σ[i]? = some (some v) → lsty d = true → v ≠ .ref p := fun i d v e1 e2 hd z => by
    obtain ⟨w, ew, hw⟩ := L1.sl i d e1
    rw [e2] at ew
    cases ew
    obtain ⟨a, ea, hn⟩ := lsty_at hd hw
    rw [z] at ea
    cases ea
    exact hn np
  have hgl : ∀ r ∈ sr ++ gs, lsty r.2 = true → r.1 ≠ .ref p := fun r hr hd z => by
    obtain ⟨a, ea, hn⟩ := lsty_at hd (L1.gh r hr)
    rw [z] at ea
    cases ea
    exact hn np
  refine ⟨fun i m H2 => m = ys.length - i ∧ i ≤ ys.length ∧ ∃ acc vs ms2, Lo g c (sr ++ gs) as H2 σ ds ms2 ∧ H2 p = some (.lst vs) ∧ Pds g.K H2 acc vs ∧ acc.length ≤ i ∧ Iv i acc ms2, ⟨ys.length, by simp, Nat.zero_le _, [], [], ms1, L1.laid np, upd_same, .nil, Nat.le_refl _, i0⟩, ?_⟩
  rintro i m H2 ⟨rfl, hi, acc, vs, ms2, L2, hp, hacc, hal, iv⟩
  have src : ∀ r ∈ sr, IsD g c as H2 r.2 r.1 := fun r hr => L2.gh r (List.mem_append_left _ hr)
  obtain ⟨go, stop⟩ := it as H2 src i
  by_cases hlt : i < ys.length
  · obtain ⟨jg, jy⟩ := go ys[i] (List.getElem?_eq_getElem hlt)
    refine .inr ⟨jg, fun H' => ∃ acc vs ms2, Lo g c (sr ++ gs) as H' σ ds ms2 ∧ H' p = some (.lst vs) ∧ Pds g.K H' acc vs ∧ acc.length ≤ i + 1 ∧ Iv (i + 1) acc ms2, fun H' ⟨acc', vs', ms', z⟩ => ⟨ys.length - (i + 1), by omega, rfl, hlt, acc', vs', ms', z⟩, fun x H3 yx => ?_⟩
    obtain ⟨sm, px⟩ := jy x H3 yx
    obtain ⟨ps, tgt, hin, body⟩ := turn i _ acc ms2 (List.getElem?_eq_getElem hlt) iv
    have hin1 : ∀ r ∈ ps, r.1 ∈ own ∧ r.1 < ds.length := fun r hr => by
      have z := List.all_eq_true.mp hin r hr
      rw [Bool.and_eq_true, decide_eq_true_eq, List.contains_iff_mem] at z
      exact z
    have y3 : Stay (fun _ => False) H2 H3 := fun a o e _ => sm a o e
    have hp3 : H3 p = some (.lst vs) := sm p _ hp
    have M3 := (L2.same sm).slots
    refine tgt H3 x (_root_.L2.wipe σ own) _ px fun us hus hps => ?_
    have L3 : Lo g c (slotG σ ds ++ (sr ++ gs)) as H3 (setV (_root_.L2.wipe σ own) ((ps.map (·.1)).zip us)) (setD (wipeD ds own) ps) ms2 := Lo.sets (M3.wipe own) (fun r hr => by rw [wipeD_len]; exact (hin1 r hr).2) hps
    have hfst : ((ps.map (·.1)).zip us).map (·.1) = ps.map (·.1) := List.map_fst_zip (by rw [List.length_map, hus]; exact Nat.le_refl _)
    refine ⟨wipe_set fun j hj => ?_, ?_⟩
    · rw [hfst] at hj
      obtain ⟨r, hr, e⟩ := List.mem_map.mp hj
      rw [← e]
      exact (hin1 r hr).1
    -- p within the block: one more ghost
    have hq3 : IsD g c as H3 (.nl acc) (.ref p) := ⟨p, vs, rfl, hp3, n0, n1, n2, Pds.mono y3 _ _ hacc⟩
    refine body _ as H3 _ (L3.push hq3) _ fun b H4 ms4 L4 kb => ?_
    cases b with
    | false =>
      obtain ⟨a4, vs4, ea, hp4, _, _, _, hacc4⟩ := L4.top
      cases ea
      exact ⟨acc, vs4, ms4, L4.pop.unslot L.sln hval, hp4, hacc4, by omega, kb⟩
    | true =>
      refine kb _ as H4 _ L4 _ fun yv H5 d5 ms5 L5 ⟨z, ed, kz⟩ => ?_
      subst ed
      obtain ⟨a5, vs5, ea, hp5, _, _, _, hacc5⟩ := L5.pop.top
      cases ea
      have hz : Pd g.K H5 z yv := L5.top
      refine ⟨vs5, hp5, small1000 (by rw [hacc5.length]; omega), acc ++ [z], vs5 ++ [yv], ms5, ?_, upd_same, ?_, ?_, kz⟩
      · exact (L5.pop.pop.unslot L.sln hval).grow hp5 n0 n1 n2 hsl hgl
      · have y5 : Stay (fun b => b = p) H5 (upd H5 p (.lst (vs5 ++ [yv]))) := fun b w e nn => by
          by_cases hb : b = p
          · subst hb
            rw [hp5] at e
            cases e
            exact absurd rfl (nn rfl)
          · rw [upd_ne hb]
            exact e
        exact (Pds.mono y5 _ _ hacc5).append (.one (Pd.mono y5 _ _ hz))
      · rw [List.length_append, List.length_singleton]
        omega
  · have e : i = ys.length := by omega
    subst e
    exact .inl ⟨stop rfl, q p H2 acc vs ms2 (L2.weak fun r hr => List.mem_append_right _ hr) hp hacc n0 n1 n2 hsl (fun r hr => hgl r (List.mem_append_right _ hr)) (fin acc ms2 iv)⟩
end
end K19
/-! comprehensions as values, new own lists, calls, defs -/
namespace K19
open PySem PySem.Spec PyProof.Rows L2
section
variable {g : Gk} {c : Cg} {ds : List (Option D)} {ms : List MO} {P : D → List MO → Prop} {N : List (Option D) → List MO → Prop} {R : D → List MO → Prop}
/-- what a comprehension asks of a turn -/
def LcTurn (g : Gk) (c : Cg) (tg : TG) (tt : TT) (te : TE) (own : List Nat) (ds : List (Option D)) (ys : List PyData) (Iv : Nat → List PyData → List MO → Prop) : Prop :=
  ∀ (i : Nat) y acc ms2, ys[i]? = some y → Iv i acc ms2 → ∃ ps : List (Nat × PyData), Tgt g.K tg y ps ∧ (ps.all fun p => own.contains p.1 && decide (p.1 < ds.length)) = true ∧
    Wt g c tt (setD (wipeD ds own) ps) ms2 fun b ms3 => if b = true then We g c te (setD (wipeD ds own) ps) ms3 fun d ms4 => ∃ z, d = .p z ∧ Iv (i + 1) (acc ++ [z]) ms4 else Iv (i + 1) acc ms3
theorem we_lc {wi : TI} {tg : TG} {tt : TT} {te : TE} {own : List Nat} (h : Wi g c wi ds ms fun ys ms1 => ys.length ≤ 1000 ∧ ∃ Iv : Nat → List PyData → List MO → Prop, Iv 0 [] ms1 ∧ LcTurn g c tg tt te own ds ys Iv ∧ ∀ acc ms2, Iv ys.length acc ms2 → P (.nl acc) ms2) :
    We g c (tLc wi tg tt te own) ds ms P := fun gs as H σ L Q q =>
  lc_any (F := fun acc ms2 => P (.nl acc) ms2) L h fun p H' acc vs ms' L' hp hs n0 n1 n2 _ _ k => q _ H' (.nl acc) ms' (L'.push ⟨p, vs, rfl, hp, n0, n1, n2, hs⟩) k
/-- no test, each item by itself -/
theorem we_map {wi : TI} {tg : TG} {te : TE} {own : List Nat} (h : Wi g c wi ds ms fun ys ms1 => ys.length ≤ 1000 ∧ ∃ f : Nat → PyData,
    (∀ (i : Nat) y, ys[i]? = some y → ∃ ps : List (Nat × PyData), Tgt g.K tg y ps ∧ (ps.all fun p => own.contains p.1 && decide (p.1 < ds.length)) = true ∧ We g c te (setD (wipeD ds own) ps) ms1 fun d ms4 => d = .p (f i) ∧ ms4 = ms1) ∧
    P (.nl ((List.range ys.length).map f)) ms1) : We g c (tLc wi tg tYes te own) ds ms P :=
  we_lc fun gs as H σ L R q => h gs as H σ L R fun J H' ys ms' sr L' ns it ⟨hl, f, turn, fin⟩ => q J H' ys ms' sr L' ns it ⟨hl, fun i acc ms2 => acc = (List.range i).map f ∧ ms2 = ms', ⟨rfl, rfl⟩, fun i y acc ms2 hy ⟨ea, em⟩ => by
    subst em
    obtain ⟨ps, h1, h2, h3⟩ := turn i y hy
    refine ⟨ps, h1, h2, fun gs2 as2 H2 σ2 L2 Q2 q2 => q2 true H2 ms2 L2 ?_⟩
    refine we_mono h3 fun d ms4 ⟨e1, e2⟩ => ⟨f i, e1, ?_, e2⟩
    rw [ea, List.range_succ, List.map_append]
    rfl, fun acc ms2 ⟨ea, em⟩ => by
    subst ea em
    exact fin⟩
/-- a new list that becomes an own one -/
def Wn (g : Gk) (c : Cg) (te : TE) (ds : List (Option D)) (ms : List MO) (P : List PyData → List MO → Prop) : Prop :=
  ∀ (gs : List (V × D)) (as : List Addr) (H : Hp) (σ : L2.St), Lo g c gs as H σ ds ms → ∀ Q : VK, (∀ p H' xs ms', Lo g c ((.ref p, .m ms'.length) :: gs) (as ++ [p]) H' σ ds (ms' ++ [.l xs]) → P xs ms' → Q (.ref p) H') → te σ H Q
theorem ws_asgN {te : TE} {i : Nat} (h : Wn g c te ds ms fun xs ms1 => i < ds.length ∧ N (ds.set i (some (.m ms1.length))) (ms1 ++ [.l xs])) : Ws g c (tAsg te (gName i)) ds ms N R := fun gs as H σ E L n q r =>
  h gs as H σ L _ fun p H' xs ms' L' ⟨hi, k⟩ => q _ H' (as ++ [p]) _ _ (L'.set hi) k
theorem wn_nil {F : List PyData → List MO → Prop} (h : F [] ms) : Wn g c (tLst tNil) ds ms F := fun gs as H σ L Q q =>
  ⟨Nat.zero_le _, fun p np => q p _ [] ms (L.own1 np ⟨[], upd_same, .nil⟩) h⟩
/-- a list that nothing of ours names, taken over -/
theorem Lo.take {gs : List (V × D)} {as : List Addr} {H : Hp} {σ : L2.St} {p : Addr} {vs : List V} {acc : List PyData} (L : Lo g c gs as H σ ds ms) (hp : H p = some (.lst vs)) (hs : Pds g.K H acc vs) (n0 : c.H0 p = none) (n1 : p ∉ as)
    (hsl : ∀ (i : Nat) d v, ds[i]? = some (some d) → σ[i]? = some (some v) → lsty d = true → v ≠ .ref p) (hg : ∀ r ∈ gs, lsty r.2 = true → r.1 ≠ .ref p) : Lo g c ((.ref p, .m ms.length) :: gs) (as ++ [p]) H σ ds (ms ++ [.l acc]) := by
  have up : ∀ {d : D} {v : V}, (lsty d = true → v ≠ .ref p) → IsD g c as H d v → IsD g c (as ++ [p]) H d v := fun {d v} hd h => by
    cases d with
    | p d => exact h
    | l xs =>
      obtain ⟨a, vs, e, h, m1, m2, hq⟩ := h
      refine ⟨a, vs, e, h, fun z => ?_, m2, hq⟩
      rcases List.mem_append.mp z with z | z
      · exact m1 z
      · exact hd rfl (by rw [e, List.mem_singleton.mp z])
    | nl xs =>
      obtain ⟨a, vs, e, h, m0, m1, m2, hq⟩ := h
      refine ⟨a, vs, e, h, m0, fun z => ?_, m2, hq⟩
      rcases List.mem_append.mp z with z | z
      · exact m1 z
      · exact hd rfl (by rw [e, List.mem_singleton.mp z])
    | m k =>
      obtain ⟨a, h, e⟩ := h
      refine ⟨a, ?_, e⟩
      rw [List.getElem?_append_left (List.getElem?_eq_some_iff.mp h).1]
      exact h
    | pool => exact h
    | prg s t rs nd => exact h
    | rdsF rs => exact h
    | sm S => exact h
    | slf C x => exact h
    | ad b => exact h
  refine ⟨L.keep, fun a ha => ?_, ?_, by rw [List.length_append, List.length_append, L.ln]; rfl, fun k a w e1 e2 => ?_, L.pool, L.sln, fun i d e => ?_, fun q hq => ?_⟩
  · rcases List.mem_append.mp ha with z | z
    · exact L.fr a z
    · rw [List.mem_singleton.mp z]
      exact n0
  · rw [List.nodup_append]
    refine ⟨L.nd, List.nodup_cons.mpr ⟨List.not_mem_nil, List.nodup_nil⟩, fun a ha b hb e => n1 ?_⟩
    rw [← List.mem_singleton.mp hb, ← e]
    exact ha
  · by_cases hk : k < as.length
    · rw [List.getElem?_append_left hk] at e1
      rw [List.getElem?_append_left (by rw [← L.ln]; exact hk)] at e2
      exact L.own k a w e1 e2
    · have hk2 : k = as.length := by
        have := (List.getElem?_eq_some_iff.mp e1).1
        rw [List.length_append] at this
        simp only [List.length_singleton] at this
        omega
      subst hk2
      rw [List.getElem?_append_right (Nat.le_refl _), Nat.sub_self] at e1
      rw [L.ln, List.getElem?_append_right (Nat.le_refl _), Nat.sub_self] at e2
      cases e1
      cases e2
      exact ⟨vs, hp, hs⟩
  · obtain ⟨v, e1, e2⟩ := L.sl i d e
    exact ⟨v, e1, up (hsl i d v e e1) e2⟩
  · rcases List.mem_cons.mp hq with z | z
    · rw [z]
      refine ⟨p, ?_, rfl⟩
      rw [← L.ln, List.getElem?_append_right (Nat.le_refl _), Nat.sub_self]
      rfl
    · exact up (hg q z) (L.gh q z)
theorem wn_lc {wi : TI} {tg : TG} {tt : TT} {te : TE} {own : List Nat} {F : List PyData → List MO → Prop} (h : Wi g c wi ds ms fun ys ms1 => ys.length ≤ 1000 ∧ ∃ Iv : Nat → List PyData → List MO → Prop, Iv 0 [] ms1 ∧ LcTurn g c tg tt te own ds ys Iv ∧ ∀ acc ms2, Iv ys.length acc ms2 → F acc ms2) :
    Wn g c (tLc wi tg tt te own) ds ms F := fun gs as H σ L Q q =>
  lc_any (F := F) L h fun p H' acc vs ms' L' hp hs n0 n1 n2 hsl hg k => q p H' acc ms' (L'.take hp hs n0 n1 hsl hg) k
/-- list(xs), taken over -/
theorem wn_list {te : TE} {F : List PyData → List MO → Prop} (h : We g c te ds ms fun d ms1 => ∃ xs, lstD d = some xs ∧ F xs ms1) : Wn g c (tCB (rLstQ g.K) (tCons te tNil)) ds ms F := fun gs as H σ L Q q =>
  h gs as H σ L _ fun v H1 d ms1 L1 ⟨xs, e, k⟩ => by
    obtain ⟨a, vs, rfl, hq, hs⟩ := lstD_sq e L1.top
    refine ⟨a, vs, rfl, .inl hq, fun p np => ?_⟩
    have y : Stay (fun _ => False) H1 (upd H1 p (.lst vs)) := .new np
    exact q p _ xs ms1 (L1.pop.own1 np ⟨vs, upd_same, Pds.mono y _ _ hs⟩) k
/-- xs[i] = e of an own list -/
theorem ws_setM {i : Nat} {te ti : TE} (h : We g c te ds ms fun d ms1 => ∃ x, d = .p x ∧ ∃ k, ds[i]? = some (some (.m k)) ∧ We g c ti ds ms1 fun j ms2 => ∃ (n : Int) (xs : List PyData), j = .p (.int n) ∧ ms2[k]? = some (.l xs) ∧ 0 ≤ n ∧ n < xs.length ∧ N ds (ms2.set k (.l (xs.set n.toNat x)))) :
    Ws g c (tAsg te (gSub (tVar i) ti rSetL)) ds ms N R := fun gs as H σ E L nn q r =>
  h gs as H σ L _ fun v H1 d ms1 L1 ⟨x, ed, k, ek, h2⟩ => by
    subst ed
    obtain ⟨u, eu, a, ha, ea⟩ := L1.sl i _ ek
    subst ea
    refine ⟨_, eu, h2 _ as H1 σ L1 _ fun w H2 j ms2 L2 ⟨n, xs, ej, em, n0, n1, k'⟩ => ?_⟩
    subst ej
    have hn := L2.top
    cases hn
    obtain ⟨vs, hq, hs⟩ := L2.own k a _ ha em
    have hx : Pd g.K H2 x v := L2.pop.top
    have lv := hs.length
    have en : n = ((n.toNat : Nat) : Int) := (Int.toNat_of_nonneg n0).symm
    refine ⟨a, vs, n, n.toNat, rfl, rfl, hq, ?_, ?_⟩
    · unfold ixN
      rw [if_pos n0, if_pos (by rw [lv]; exact n1)]
    · refine q σ _ as ds _ (L2.pop.pop.write ha (o := .lst (vs.set n.toNat v)) (m := .l (xs.set n.toNat x)) ⟨_, upd_same, ?_⟩) k'
      have y : Stay (fun b => b = a) H2 (upd H2 a (.lst (vs.set n.toNat v))) := fun b w e nn => by
        by_cases hb : b = a
        · subst hb
          rw [hq] at e
          cases e
          exact absurd rfl (nn rfl)
        · rw [upd_ne hb]
          exact e
      exact Pds.set (Pd.mono y _ _ hx) _ (Pds.mono y _ _ hs)
/-- xs.pop(i) of an own list -/
theorem we_popM {i : Nat} {ti : TE} (h : ∃ k xs0, ds[i]? = some (some (.m k)) ∧ ms[k]? = some (.l xs0) ∧ We g c ti ds ms fun j ms2 => ∃ (n : Int) (xs : List PyData) (z : PyData), j = .p (.int n) ∧ ms2[k]? = some (.l xs) ∧ 0 ≤ n ∧ n < 1000 ∧ xs[n.toNat]? = some z ∧ P (.p z) (ms2.set k (.l (xs.eraseIdx n.toNat)))) :
    We g c (tBM g.K "list" rPopAt (tVar i) (tCons ti tNil)) ds ms P := fun gs as H σ L Q q => by
  obtain ⟨k, xs0, ek, em0, h⟩ := h
  obtain ⟨u, eu, a, ha, ea⟩ := L.sl i _ ek
  subst ea
  have tv : tyV g.K "list" (.ref a) H := by
    obtain ⟨vs, hq, _⟩ := L.own k a _ ha em0
    exact .inl ⟨rfl, _, .of hq⟩
  refine ⟨_, eu, tv, h gs as H σ L _ fun w H2 j ms2 L2 ⟨n, xs, z, ej, em, n0, n1, hz, k'⟩ => ?_⟩
  subst ej
  have hn := L2.top
  cases hn
  obtain ⟨vs, hq, hs⟩ := L2.own k a _ ha em
  obtain ⟨zv, e1, e2⟩ := hs.get hz
  have hl : n.toNat < vs.length := (List.getElem?_eq_some_iff.mp e1).1
  have en : n = ((n.toNat : Nat) : Int) := (Int.toNat_of_nonneg n0).symm
  refine ⟨a, vs, n, n.toNat, zv, rfl, rfl, hq, by omega, by omega, ?_, e1, ?_⟩
  · refine (ixN_seq (n := vs.length) ?_).1
    unfold ixN
    rw [if_pos n0, if_pos (by omega)]
  · have y : Stay (fun b => b = a) H2 (upd H2 a (.lst (vs.eraseIdx n.toNat))) := fun b w e nn => by
      by_cases hb : b = a
      · subst hb
        rw [hq] at e
        cases e
        exact absurd rfl (nn rfl)
      · rw [upd_ne hb]
        exact e
    exact q _ _ (.p z) _ ((L2.pop.write ha (o := .lst (vs.eraseIdx n.toNat)) (m := .l (xs.eraseIdx n.toNat)) ⟨_, upd_same, Pds.erase _ (Pds.mono y _ _ hs)⟩).pushP (Pd.mono y _ _ e2)) k'
/-- what seemed own is a new list from now on: k the last own one -/
theorem Lo.freeze {gs : List (V × D)} {as : List Addr} {H : Hp} {σ : L2.St} {xs : List PyData} {ms0 : List MO} {ds' : List (Option D)} (L : Lo g c gs as H σ ds (ms0 ++ [.l xs])) (hn : ∀ p ∈ gs, notM p.2 = true) (hl : ds'.length = ds.length)
    (hd : ∀ (i : Nat) d, ds'[i]? = some (some d) → (notM d = true ∧ ds[i]? = some (some d)) ∨ (∃ k, k < ms0.length ∧ d = .m k ∧ ds[i]? = some (some d)) ∨ (d = .nl xs ∧ ds[i]? = some (some (.m ms0.length)))) : ∃ as', Lo g c gs as' H σ ds' ms0 := by
  have hlen : as.length = ms0.length + 1 := by rw [L.ln, List.length_append]; rfl
  obtain ⟨as0, a, ea⟩ : ∃ as0 a, as = as0 ++ [a] := by
    have hne : as ≠ [] := fun z => by rw [z] at hlen; cases hlen
    exact ⟨as.dropLast, as.getLast hne, (List.dropLast_concat_getLast hne).symm⟩
  subst ea
  have hl0 : as0.length = ms0.length := by
    rw [List.length_append, List.length_singleton] at hlen
    omega
  have nd := List.nodup_append.mp L.nd
  have na : a ∉ as0 := fun z => nd.2.2 a z a (List.mem_singleton.mpr rfl) rfl
  have last : (as0 ++ [a])[ms0.length]? = some a := by rw [← hl0, List.getElem?_append_right (Nat.le_refl _), Nat.sub_self]; rfl
  obtain ⟨vs, hq, hs⟩ := L.own ms0.length a (.l xs) last (by rw [List.getElem?_append_right (Nat.le_refl _), Nat.sub_self]; rfl)
  have np := L.ownPool (List.mem_of_getElem? last)
  have down : ∀ {d : D} {v : V}, notM d = true → IsD g c (as0 ++ [a]) H d v → IsD g c as0 H d v := fun {d v} nm h => by
    cases d with
    | l xs =>
      obtain ⟨b, vs, e, h, m1, m2, hq⟩ := h
      exact ⟨b, vs, e, h, fun z => m1 (List.mem_append_left _ z), m2, hq⟩
    | nl xs =>
      obtain ⟨b, vs, e, h, m0, m1, m2, hq⟩ := h
      exact ⟨b, vs, e, h, m0, fun z => m1 (List.mem_append_left _ z), m2, hq⟩
    | m k => cases nm
    | p d => exact h
    | pool => exact h
    | prg s t rs nd => exact h
    | rdsF rs => exact h
    | sm S => exact h
    | slf C x => exact h
    | ad b => exact h
  refine ⟨as0, L.keep, fun b hb => L.fr b (List.mem_append_left _ hb), nd.1, hl0, fun k b m e1 e2 => ?_, L.pool, by rw [hl]; exact L.sln, fun i d e => ?_, fun p hp => down (hn p hp) (L.gh p hp)⟩
  · refine L.own k b m ?_ ?_
    · rw [List.getElem?_append_left (List.getElem?_eq_some_iff.mp e1).1]
      exact e1
    · rw [List.getElem?_append_left (List.getElem?_eq_some_iff.mp e2).1]
      exact e2
  · rcases hd i d e with ⟨nm, e1⟩ | ⟨k, hk, rfl, e1⟩ | ⟨rfl, e1⟩
    · obtain ⟨v, e2, e3⟩ := L.sl i d e1
      exact ⟨v, e2, down nm e3⟩
    · obtain ⟨v, e2, b, e3, e4⟩ := L.sl i _ e1
      refine ⟨v, e2, b, ?_, e4⟩
      rw [List.getElem?_append_left (by rw [hl0]; exact hk)] at e3
      exact e3
    · obtain ⟨v, e2, b, e3, e4⟩ := L.sl i _ e1
      rw [last] at e3
      cases e3
      exact ⟨v, e2, a, vs, e4, hq, L.fr a (List.mem_append_right _ (List.mem_singleton.mpr rfl)), na, np, hs⟩
theorem ws_freeze {ts : TS} (h : Ws g c ts ds ms (fun ds1 ms1 => ∃ ms0 xs ds', ms1 = ms0 ++ [.l xs] ∧ ds'.length = ds1.length ∧ (∀ (i : Nat) d, ds'[i]? = some (some d) → (notM d = true ∧ ds1[i]? = some (some d)) ∨ (∃ k, k < ms0.length ∧ d = .m k ∧ ds1[i]? = some (some d)) ∨ (d = .nl xs ∧ ds1[i]? = some (some (.m ms0.length)))) ∧ N ds' ms0) R) :
    Ws g c ts ds ms N R := fun gs as H σ E L n q r =>
  h gs as H σ E L n (fun σ' H' as' ds1 ms1 L' ⟨ms0, xs, ds', em, hl, hd, k⟩ => by
    subst em
    obtain ⟨as2, L2⟩ := L'.freeze n hl hd
    exact q σ' H' as2 ds' ms0 L2 k) r
/-! ### calls -/
/-- an own list handed over is a list from outside -/
def argD (ms : List MO) : D → D
  | .nl xs => .l xs
  | .m k => match ms[k]? with
    | some (.l xs) => .l xs
    | _ => .m k
  | d => d
def okA : D → Bool
  | .m _ => false
  | _ => true
/-- what a def may hand back -/
def okR : D → Bool
  | .l _ => false
  | .m _ => false
  | .pool => false
  | .slf _ _ => false
  | .ad _ => false
  | _ => true
def resD (ms : List MO) : D → D
  | .m k => match ms[k]? with
    | some (.l xs) => .nl xs
    | _ => .m k
  | d => d
abbrev DSp := List D → (D → Prop) → Prop
/-- a promise on data -/
def spD (g : Gk) (w : DSp) : Sp := fun vs H Q _ => ∃ (c : Cg) (es : List D), c.H0 = H ∧ PoolOk c H ∧ vs.length = es.length ∧ (∀ p ∈ vs.zip es, IsD g c [] H p.2 p.1) ∧
  w es fun d => okR d = true → ∀ v H' as, (∀ a o, c.H0 a = some o → ¬ c.has a → H' a = some o) → PoolOk c H' → (∀ a ∈ as, c.H0 a = none) → IsD g c as H' d v → Q v H'
theorem arg_is {gs : List (V × D)} {as : List Addr} {H : Hp} {σ : L2.St} {d : D} {v : V} (L : Lo g c gs as H σ ds ms) (h : IsD g c as H d v) (ok : okA (argD ms d) = true) : IsD g ⟨c.po, H⟩ [] H (argD ms d) v := by
  cases d with
  | p d => exact h
  | l xs =>
    obtain ⟨a, vs, e, h, m1, m2, hq⟩ := h
    exact ⟨a, vs, e, h, List.not_mem_nil, m2, hq⟩
  | nl xs =>
    obtain ⟨a, vs, e, h, m0, m1, m2, hq⟩ := h
    exact ⟨a, vs, e, .inl h, List.not_mem_nil, m2, hq⟩
  | m k =>
    obtain ⟨a, ha, e⟩ := h
    show IsD g ⟨c.po, H⟩ [] H (match ms[k]? with | some (.l xs) => .l xs | _ => .m k) v
    have ok2 : okA (match ms[k]? with | some (.l xs) => .l xs | _ => .m k) = true := ok
    cases q : ms[k]? with
    | none =>
      rw [q] at ok2
      cases ok2
    | some m =>
      rw [q] at ok2
      cases m with
      | d kvs => cases ok2
      | l xs =>
        obtain ⟨vs, h1, h2⟩ := L.own k a _ ha q
        exact ⟨a, vs, e, .inl h1, List.not_mem_nil, L.ownPool (List.mem_of_getElem? ha), h2⟩
  | pool => exact h
  | prg s t rs nd => exact h
  | rdsF rs => exact h
  | sm S => exact h
  | slf C x => exact h
  | ad b => exact h
theorem zip_map_mem {vs : List V} {es : List D} {f : D → D} {p : V × D} (h : p ∈ vs.zip (es.map f)) : ∃ q, q ∈ vs.zip es ∧ p = (q.1, f q.2) := by
  rw [List.zip_map_right] at h
  obtain ⟨q, hq, e⟩ := List.mem_map.mp h
  exact ⟨q, hq, e.symm⟩
/-- a call by a promise on data, values at hand -/
theorem call_core {w : DSp} {gs : List (V × D)} {as : List Addr} {H1 : Hp} {σ : L2.St} {vs : List V} {es : List D} {E : XK} {Q : VK} (L1 : Lo g c (vs.zip es ++ gs) as H1 σ ds ms) (le : vs.length = es.length) (hok : ∀ e ∈ es, okA (argD ms e) = true)
    (k : w (es.map (argD ms)) fun d => okR d = true ∧ P d ms) (wm : ∀ es (Q Q' : D → Prop), (∀ d, Q d → Q' d) → w es Q → w es Q') (q : ∀ v H' d ms', Lo g c ((v, d) :: gs) as H' σ ds ms' → P d ms' → Q v H') : spD g w vs H1 Q E := by
  have L2 := zip_all L1
  refine ⟨⟨c.po, H1⟩, es.map (argD ms), rfl, fun pl cl e => ?_, by rw [List.length_map]; exact le, fun p hp => ?_, wm _ _ _ (fun d ⟨od, kd⟩ _ v H' as' y hpo hfr hv => ?_) k⟩
  · obtain ⟨h0, h1, h2, z⟩ := L2.pool pl cl e
    obtain ⟨s, n, cs, q1, q2, q3⟩ := id z
    exact ⟨h0, (by show H1 pl ≠ none; rw [q1]; exact (fun z => nomatch z)), (by show H1 cl ≠ none; rw [q2]; exact (fun z => nomatch z)), z⟩
  · obtain ⟨r, hr, e⟩ := zip_map_mem hp
    rw [e]
    exact arg_is L2 (L1.gh r (List.mem_append_left _ hr)) (hok r.2 (List.of_mem_zip hr).2)
  · have y1 : Stay c.has H1 H' := fun a o e nn => by
      by_cases hh : c.has a
      · by_cases hm : muO o = true
        · exact absurd hh (nn hm)
        · -- the pool's own objects are lists
          exfalso
          obtain ⟨pl, cl, e1, e2⟩ := hh
          obtain ⟨_, _, _, s, n, cs, q1, q2, _⟩ := L2.pool pl cl e1
          rcases e2 with z | z
          · rw [z, q1] at e
            cases e
            exact hm rfl
          · rw [z, q2] at e
            cases e
            exact hm rfl
      · exact y a o e hh
    have p1 : PoolOk c H' := fun pl cl e => by
      obtain ⟨h0, h1, h2, _⟩ := L2.pool pl cl e
      obtain ⟨_, _, _, z⟩ := hpo pl cl e
      exact ⟨h0, h1, h2, z⟩
    refine q v H' d ms ((L2.ext y1 p1).push ?_) kd
    cases d with
    | p d => exact hv
    | l xs => cases od
    | nl xs =>
      obtain ⟨a, us, e, h, m0, m1, m2, hq⟩ := hv
      obtain ⟨n0, n1, n2⟩ := L2.new m0
      exact ⟨a, us, e, h, n0, n1, n2, hq⟩
    | m k => cases od
    | pool => cases od
    | prg s t rs nd => exact hv
    | rdsF rs => exact hv
    | sm S => exact hv
    | slf C x => cases od
    | ad b => cases od
theorem we_call {w : DSp} {E : XK} {ta : TA} (h : Wa g c ta ds ms fun es ms1 => (∀ e ∈ es, okA (argD ms1 e) = true) ∧ w (es.map (argD ms1)) fun d => okR d = true ∧ P d ms1) (wm : ∀ es (Q Q' : D → Prop), (∀ d, Q d → Q' d) → w es Q → w es Q') :
    We g c (tCall (spD g w) [] E ta) ds ms P := fun gs as H σ L Q q =>
  h gs as H σ L _ fun vs H1 es ms1 L1 le ⟨hok, k⟩ => by
    show spD g w (vs ++ []) H1 Q E
    rw [List.append_nil]
    exact call_core L1 le hok k wm q
/-- a def that the callers know by its name -/
def Kn (Pg : Program) (w : World) (g : Gk) (mg : Str → Option Value) (base : Heap) (x : Str) (k : Nat) (ps : List Str) (sp : DSp) : Prop :=
  ∃ f fd, FnOk Pg w g.K mg base CX0 k f fd ps (spD g sp) ∧ mg x = some (.ref f) ∧ PySem.W.keepIn g.K (.ref f) = true ∧ Binds g.K fd ps []
theorem pe_kn {X : Cx} {k : Nat} {x : Str} {ps : List Str} {sp : DSp} {e : Expr} {es : List Expr} {t : TA} {p pos : Pos} (hK : X.K = g.K) (C : Kn X.prog X.w g X.mg X.base x k ps sp) (hr : Room k X.A) (hg : Gl X x) (ha : PA X (e :: es) t)
    (hdb : (x == ("__debug__" : Str)) = false := by decide) (he : starEach (e :: es) X.env = (false, eval e X.env) :: starEach es X.env := by rfl) (hpl : (backTo pos (starEach es X.env)).any (·.1) = false := by rfl) :
    PE X (.Call (.Name x p) (e :: es) [] pos) (tCall (spD g sp) [] E0 t) := by
  obtain ⟨f, fd, F, hm, hk, hb⟩ := C
  rw [← hK] at F hk hb
  exact pe_call F hr hg hm hk hb .nil pass0 ha hdb he hpl
/-- the def rule -/
theorem dok {Pg : Program} {w : World} {mg : Str → Option Value} {base : Heap} {x qual : Str} {st : Stmt} {f : Addr} {fd : FuncData} {Ns ps : List Str} {k : Nat} {sp : DSp} (F : FunD g.K x qual (defArgs st) (defBody st) (defScope st) [] [] f fd) (S : FnScope Ns ps (defScope st))
    (len : ∀ es Q, sp es Q → es.length = ps.length)
    (body : ∀ (cdv : Value) (A : Around) (outer : List Env) (s : Shared) (H : Hp) (E : XK), Room k (A.deeper (envOfC qual (defScope st) s.heap.objs.size f cdv)) →
      ∃ t, PSs (cxOf CX0 Pg w g.K mg base Ns qual (defScope st) f cdv A outer s H E).nox (defBody st) t ∧
        ∀ (c : Cg) (es : List D) (Q : D → Prop), sp es Q → Ws g c t (es.map some ++ List.replicate (Ns.length - es.length) none) [] (fun _ _ => Q (.p .none)) (fun d ms => okR (resD ms d) = true ∧ Q (resD ms d))) :
    FnOk Pg w g.K mg base CX0 (k + 1) f fd ps (spD g sp) := by
  refine F.ok S (fun vs H Q E ⟨c, es, _, _, hl, _, h⟩ => by rw [hl]; exact len es _ h) fun cdv A outer s H vs Q E hr ⟨c, es, hH, hpo, hl, hds, h⟩ => ?_
  obtain ⟨t, hps, hw⟩ := body cdv A outer s H E hr
  refine ⟨t, hps.nox, ?_⟩
  have hle : es.length ≤ Ns.length := by
    rw [len es _ h, ← S.pre, List.length_take]
    exact Nat.min_le_right _ _
  have L : Lo g c [] [] H (_root_.L2.start Ns vs) (es.map some ++ List.replicate (Ns.length - es.length) none) [] := by
    refine ⟨fun a o e _ => by rw [← hH]; exact e, fun a ha => absurd ha List.not_mem_nil, List.nodup_nil, rfl, fun k a m e _ => by simp at e, hpo, ?_, fun i d e => ?_, fun p hp => absurd hp List.not_mem_nil⟩
    · unfold _root_.L2.start
      rw [List.length_append, List.length_append, List.length_map, List.length_map, List.length_replicate, List.length_replicate, hl]
    · by_cases hi : i < es.length
      · rw [List.getElem?_append_left (by rw [List.length_map]; exact hi), List.getElem?_map, List.getElem?_eq_getElem hi] at e
        cases e
        have hi2 : i < vs.length := by rw [hl]; exact hi
        refine ⟨vs[i], ?_, ?_⟩
        · unfold _root_.L2.start
          rw [List.getElem?_append_left (by rw [List.length_map]; exact hi2), List.getElem?_map, List.getElem?_eq_getElem hi2]
          rfl
        · refine hds (vs[i], es[i]) ?_
          refine List.mem_of_getElem? (i := i) ?_
          rw [List.getElem?_zip_eq_some]
          exact ⟨List.getElem?_eq_getElem hi2, List.getElem?_eq_getElem hi⟩
      · rw [List.getElem?_append_right (by rw [List.length_map]; omega), List.getElem?_replicate] at e
        split at e
        · cases e
        · cases e
  refine hw c es _ h [] [] H _ _ L (fun p hp => absurd hp List.not_mem_nil) (fun σ' H' as' ds' ms' L' k => ?_) fun v H' as' d σ' ds' ms' L' ⟨o, k⟩ => ?_
  · exact k rfl .non H' as' L'.keep L'.pool L'.fr .non
  · refine k o v H' [] L'.keep L'.pool (fun a ha => absurd ha List.not_mem_nil) ?_
    have hv := L'.top
    cases d with
    | m j =>
      obtain ⟨a, ha, e⟩ := hv
      have o2 : okR (match ms'[j]? with | some (.l xs) => .nl xs | _ => .m j) = true := o
      show IsD g c [] H' (match ms'[j]? with | some (.l xs) => .nl xs | _ => .m j) v
      cases q : ms'[j]? with
      | none =>
        rw [q] at o2
        cases o2
      | some m =>
        rw [q] at o2
        cases m with
        | d kvs => cases o2
        | l xs =>
          obtain ⟨vs', h1, h2⟩ := L'.own j a _ ha q
          exact ⟨a, vs', e, h1, L'.fr a (List.mem_of_getElem? ha), List.not_mem_nil, L'.ownPool (List.mem_of_getElem? ha), h2⟩
    | p d => exact hv
    | l xs => cases o
    | nl xs =>
      obtain ⟨a, us, e, h, m0, m1, m2, hq⟩ := hv
      exact ⟨a, us, e, h, m0, List.not_mem_nil, m2, hq⟩
    | pool => cases o
    | prg s t rs nd => exact hv
    | rdsF rs => exact hv
    | sm S => exact hv
    | slf C x => cases o
    | ad b => cases o
end
end K19
/-! steps for straight code -/
namespace K19
open PySem PySem.Spec PyProof.Rows L2
section
variable {g : Gk} {c : Cg} {ds : List (Option D)} {ms : List MO} {P : D → List MO → Prop} {B : Bool → List MO → Prop}
theorem wr_add {i j : Int} (h : P (.p (.int (i + j))) ms) : Wr g c (rI0 fun i j => .int (i + j)) (.p (.int i)) (.p (.int j)) ms P := wr_I0 h
theorem wr_sub {i j : Int} (h : P (.p (.int (i - j))) ms) : Wr g c (rI0 fun i j => .int (i - j)) (.p (.int i)) (.p (.int j)) ms P := wr_I0 h
theorem wr_lt {i j : Int} (h : P (.p (.bool (decide (i < j)))) ms) : Wr g c (rI0 fun i j => .bl (decide (i < j))) (.p (.int i)) (.p (.int j)) ms P := wr_I0 h
theorem wr_le {i j : Int} (h : P (.p (.bool (decide (i ≤ j)))) ms) : Wr g c (rI0 fun i j => .bl (decide (i ≤ j))) (.p (.int i)) (.p (.int j)) ms P := wr_I0 h
theorem wr_gt {i j : Int} (h : P (.p (.bool (decide (j < i)))) ms) : Wr g c (rI0 fun i j => .bl (decide (j < i))) (.p (.int i)) (.p (.int j)) ms P := wr_I0 h
theorem wr_ge {i j : Int} (h : P (.p (.bool (decide (j ≤ i)))) ms) : Wr g c (rI0 fun i j => .bl (decide (j ≤ i))) (.p (.int i)) (.p (.int j)) ms P := wr_I0 h
theorem wr_mod {i j : Int} (hj : 0 < j) (h : P (.p (.int (i % j))) ms) : Wr g c (rI (fun _ j => 0 < j) fun i j => .int (i % j)) (.p (.int i)) (.p (.int j)) ms P := wr_I hj h
theorem wr_mulL {i j : Int} (hi : -(2 ^ 64) < i ∧ i < 2 ^ 64) (h : P (.p (.int (i * j))) ms) : Wr g c (rI CMul fun i j => .int (i * j)) (.p (.int i)) (.p (.int j)) ms P := wr_I (.inl hi) h
theorem wr_mulR {i j : Int} (hi : -(2 ^ 64) < j ∧ j < 2 ^ 64) (h : P (.p (.int (i * j))) ms) : Wr g c (rI CMul fun i j => .int (i * j)) (.p (.int i)) (.p (.int j)) ms P := wr_I (.inr hi) h
theorem wr_fdiv {i j : Int} (hj : CDiv i j) (h : P (.p (.int (i / j))) ms) : Wr g c (rI CDiv fun i j => .int (i / j)) (.p (.int i)) (.p (.int j)) ms P := wr_I hj h
theorem wr_pow {i j : Int} (hj : CPow i j) (h : P (.p (.int (i ^ j.toNat))) ms) : Wr g c (rI CPow fun i j => .int (i ^ j.toNat)) (.p (.int i)) (.p (.int j)) ms P := wr_I hj h
theorem wr_eqI {i j : Int} (h : P (.p (.bool (decide (i = j)))) ms) : Wr g c rEq (.p (.int i)) (.p (.int j)) ms P := wr_eq rfl (by
  have e : PyData.eqv (.int i) (.int j) = decide (i = j) := by
    simp only [PyData.eqv]
    exact Bool.beq_eq_decide_eq i j
  rw [e]
  exact h)
theorem wr_neI {i j : Int} (h : P (.p (.bool (!decide (i = j)))) ms) : Wr g c rNe (.p (.int i)) (.p (.int j)) ms P := wr_ne rfl (by
  have e : PyData.eqv (.int i) (.int j) = decide (i = j) := by
    simp only [PyData.eqv]
    exact Bool.beq_eq_decide_eq i j
  rw [e]
  exact h)
theorem we_chain {r r' : R2} {ta tb tc : TE} (h : We g c ta ds ms fun x ms1 => We g c tb ds ms1 fun y ms2 => Wr g c r x y ms2 fun z ms3 => ∃ k, z = .p (.bool k) ∧ if k = true then We g c tc ds ms3 fun w ms4 => Wr g c r' y w ms4 P else P (.p (.bool false)) ms3) :
    We g c (tChain r r' ta tb tc) ds ms P := fun gs as H σ L Q q =>
  h gs as H σ L _ fun u H1 x ms1 L1 k1 => k1 _ as H1 σ L1 _ fun v H2 y ms2 L2 k2 => k2 _ as H2 σ ds u v L2 L2.pop.top L2.top _ fun z H3 d ms3 L3 ⟨k, e, k3⟩ => by
    subst e
    have hz := L3.top
    cases hz
    refine ⟨k, rfl, ?_⟩
    cases k with
    | true => exact k3 _ as H3 σ L3.pop _ fun w H4 d4 ms4 L4 k4 => k4 gs as H4 σ ds v w L4.pop.pop.pop L4.pop.top L4.top Q q
    | false => exact q _ H3 _ ms3 ((L3.pop.pop.pop).pushP (.bl false)) k3
theorem wr_rd0 {r : Rd} (h : P (.p (.int r.x)) ms) : Wr g c (rIxT g.K) (.p r.pd) (.p (.int 0)) ms P := wr_ixT (xs := [.int r.x, .int r.y, intsD r.st]) ⟨by decide, rfl⟩ h
theorem wr_rd1 {r : Rd} (h : P (.p (.int r.y)) ms) : Wr g c (rIxT g.K) (.p r.pd) (.p (.int 1)) ms P := wr_ixT (xs := [.int r.x, .int r.y, intsD r.st]) ⟨by decide, rfl⟩ h
theorem wr_rd2 {r : Rd} (h : P (.p (intsD r.st)) ms) : Wr g c (rIxT g.K) (.p r.pd) (.p (.int 2)) ms P := wr_ixT (xs := [.int r.x, .int r.y, intsD r.st]) ⟨by decide, rfl⟩ h
theorem ex_prg {s t : Int} {rs : List Rd} {nd : Bool} {B : Int → Int → List Rd → Bool → Prop} (h : B s t rs nd) : ∃ s' t' rs' nd', D.prg s t rs nd = .prg s' t' rs' nd' ∧ B s' t' rs' nd' := ⟨s, t, rs, nd, rfl, h⟩
theorem ex_sm {S : Sm} {B : Sm → Prop} (h : B S) : ∃ S', D.sm S = .sm S' ∧ B S' := ⟨S, rfl, h⟩
theorem ex_b {b : Bool} {B : Bool → Prop} (h : B b) : ∃ b', D.p (.bool b) = .p (.bool b') ∧ B b' := ⟨b, rfl, h⟩
end
section
variable {g : Gk} {c : Cg} {ds : List (Option D)} {ms : List MO} {P : D → List MO → Prop} {N : List (Option D) → List MO → Prop} {R : D → List MO → Prop}
/-- scalars and tuples -/
def plain : PyData → Bool
  | .none => true
  | .bool _ => true
  | .int _ => true
  | .str _ => true
  | .tuple _ => true
  | _ => false
def isiT : PyData → String → Bool
  | .int _, n => n == "int"
  | .bool _, n => n == "bool" || n == "int"
  | .str _, n => n == "str"
  | .tuple _, n => n == "tuple"
  | _, _ => false
theorem isi_plain {d : PyData} {n : String} (hd : plain d = true) (hn : n = "int" ∨ n = "bool" ∨ n = "str" ∨ n = "tuple") : isiD (.p d) n = some (isiT d n) := by
  cases d with
  | none => rcases hn with e | e | e | e <;> subst e <;> kernel_rfl
  | bool b => rcases hn with e | e | e | e <;> subst e <;> kernel_rfl
  | int i => rcases hn with e | e | e | e <;> subst e <;> kernel_rfl
  | str x => rcases hn with e | e | e | e <;> subst e <;> kernel_rfl
  | tuple xs => rcases hn with e | e | e | e <;> subst e <;> kernel_rfl
  | list xs => cases hd
  | dict kvs => cases hd
theorem we_isp {ta : TE} {n : String} (h : We g c ta ds ms fun d ms1 => ∃ x, d = .p x ∧ plain x = true ∧ P (.p (.bool (isiT x n))) ms1) (hn : n = "int" ∨ n = "bool" ∨ n = "str" ∨ n = "tuple" := by decide) :
    We g c (tCB (rIsi g.K) (tCons ta (tCons (tC (.ty n)) tNil))) ds ms P :=
  we_isi (we_mono h fun d ms1 ⟨x, e, hx, k⟩ => ⟨isiT x n, by rw [e]; exact isi_plain hx hn, k⟩)
theorem ex_isi {x : PyData} {B : PyData → Prop} (hx : plain x = true) (h : B x) : ∃ y, D.p x = .p y ∧ plain y = true ∧ B y := ⟨x, rfl, hx, h⟩
theorem ws_ds {ts : TS} {ds' : List (Option D)} (e : ds = ds') (h : Ws g c ts ds' ms N R) : Ws g c ts ds ms N R := by
  rw [e]
  exact h
theorem ret_p {d : PyData} {Q : D → Prop} (h : Q (.p d)) : okR (resD ms (.p d)) = true ∧ Q (resD ms (.p d)) := ⟨rfl, h⟩
theorem ret_nl {xs : List PyData} {Q : D → Prop} (h : Q (.nl xs)) : okR (resD ms (.nl xs)) = true ∧ Q (resD ms (.nl xs)) := ⟨rfl, h⟩
theorem ret_prg {s t : Int} {rs : List Rd} {nd : Bool} {Q : D → Prop} (h : Q (.prg s t rs nd)) : okR (resD ms (.prg s t rs nd)) = true ∧ Q (resD ms (.prg s t rs nd)) := ⟨rfl, h⟩
theorem ret_sm {S : Sm} {Q : D → Prop} (h : Q (.sm S)) : okR (resD ms (.sm S)) = true ∧ Q (resD ms (.sm S)) := ⟨rfl, h⟩
end
theorem iteT' {b : Bool} {A B : Prop} (h : b = true) (a : A) : if b = true then A else B := by
  rw [if_pos h]
  exact a
theorem iteF' {b : Bool} {A B : Prop} (h : b = false) (a : B) : if b = true then A else B := by
  rw [h]
  exact iteF a
theorem ite_b {b : Bool} {A B : Prop} (h1 : b = true → A) (h2 : b = false → B) : if b = true then A else B := by
  cases b with
  | true => exact h1 rfl
  | false => exact h2 rfl
/-- a promise by what is asked and what comes -/
def spF {α : Type} (enc : α → List D) (pre : α → Prop) (post : α → D → Prop) : DSp := fun es Q => ∃ a : α, es = enc a ∧ pre a ∧ ∀ d, post a d → okR d = true ∧ Q d
/-- .. by what is asked and the one answer -/
def spE {α : Type} (enc : α → List D) (pre : α → Prop) (f : α → D) : DSp := fun es Q => ∃ a : α, es = enc a ∧ pre a ∧ okR (f a) = true ∧ Q (f a)
section
variable {g : Gk} {c : Cg} {ds : List (Option D)} {ms : List MO} {P : D → List MO → Prop}
theorem we_callE {α : Type} {enc : α → List D} {pre : α → Prop} {f : α → D} {E : XK} {ta : TA} (h : Wa g c ta ds ms fun es ms1 => (es.all fun e => okA (argD ms1 e)) = true ∧ ∃ a, es.map (argD ms1) = enc a ∧ pre a ∧ okR (f a) = true ∧ P (f a) ms1) : We g c (tCall (spD g (spE enc pre f)) [] E ta) ds ms P :=
  we_call (fun gs as H σ L Q q => h gs as H σ L Q fun vs H' es ms' L' le ⟨ha, a, h1, h2, h3, k⟩ => q vs H' es ms' L' le ⟨List.all_eq_true.mp ha, a, h1, h2, h3, h3, k⟩) fun es Q Q' k ⟨a, h1, h2, h3, h4⟩ => ⟨a, h1, h2, h3, k _ h4⟩
theorem we_callF {α : Type} {enc : α → List D} {pre : α → Prop} {post : α → D → Prop} {E : XK} {ta : TA} (h : Wa g c ta ds ms fun es ms1 => (es.all fun e => okA (argD ms1 e)) = true ∧ ∃ a, es.map (argD ms1) = enc a ∧ pre a ∧ ∀ d, post a d → okR d = true ∧ P d ms1) :
    We g c (tCall (spD g (spF enc pre post)) [] E ta) ds ms P :=
  we_call (fun gs as H σ L Q q => h gs as H σ L Q fun vs H' es ms' L' le ⟨ha, a, h1, h2, h3⟩ => q vs H' es ms' L' le ⟨List.all_eq_true.mp ha, a, h1, h2, fun d hd => ⟨(h3 d hd).1, h3 d hd⟩⟩) fun es Q Q' k ⟨a, h1, h2, h3⟩ => ⟨a, h1, h2, fun d hd => ⟨(h3 d hd).1, k d (h3 d hd).2⟩⟩
/-- a comprehension without a test over typed items -/
theorem we_mapT {α : Type} {wi : TI} {tg : TG} {te : TE} {own : List Nat} (h : Wi g c wi ds ms fun ys ms1 => ∃ (xs : List α) (e : α → PyData) (F : α → PyData), ys = xs.map e ∧ xs.length ≤ 1000 ∧
    (∀ x ∈ xs, ∃ ps : List (Nat × PyData), Tgt g.K tg (e x) ps ∧ (ps.all fun p => own.contains p.1 && decide (p.1 < ds.length)) = true ∧ We g c te (setD (wipeD ds own) ps) ms1 fun d ms4 => d = .p (F x) ∧ ms4 = ms1) ∧
    P (.nl (xs.map F)) ms1) : We g c (tLc wi tg tYes te own) ds ms P :=
  we_lc fun gs as H σ L R q => h gs as H σ L R fun J H' ys ms' sr L' ns it ⟨xs, e, F, ey, hl, turn, fin⟩ => q J H' ys ms' sr L' ns it ⟨by rw [ey, List.length_map]; exact hl, fun i acc ms2 => acc = (xs.take i).map F ∧ ms2 = ms', ⟨by rw [List.take_zero]; rfl, rfl⟩, fun i y acc ms2 hy ⟨ea, em⟩ => by
    subst em
    rw [ey, List.getElem?_map] at hy
    cases hx : xs[i]? with
    | none =>
      rw [hx] at hy
      cases hy
    | some x =>
      rw [hx] at hy
      cases hy
      obtain ⟨ps, h1, h2, h3⟩ := turn x (List.mem_of_getElem? hx)
      refine ⟨ps, h1, h2, fun gs2 as2 H2 σ2 L2 Q2 q2 => q2 true H2 ms2 L2 ?_⟩
      refine we_mono h3 fun d ms4 ⟨e1, e2⟩ => ⟨F x, e1, ?_, e2⟩
      rw [ea, List.take_succ, hx, List.map_append]
      rfl, fun acc ms2 ⟨ea, em⟩ => by
    subst em
    rw [ea, ey, List.length_map, List.take_length]
    exact fin⟩
theorem wc_allT {α : Type} {xs : List α} {f : α → Bool} (h : P (.p (.bool (xs.all f))) ms) : Wc g c (rAll g.K) [.nl (xs.map fun x => .bool (f x))] ms P := by
  refine wc_all (bs := xs.map f) ?_ ?_
  · show some _ = some _
    rw [List.map_map]
    rfl
  · rw [List.all_map]
    exact h
theorem wc_sumT {α : Type} {xs : List α} {f : α → Int} (h : P (.p (.int (xs.map f).sum)) ms) : Wc g c (rSum g.K) [.nl (xs.map fun x => .int (f x))] ms P := by
  refine wc_sum (ns := xs.map f) ?_ h
  show some _ = some _
  rw [List.map_map]
  rfl
end
/-- what the module's names stand for -/
structure Tx (g : Gk) (mg : Str → Option Value) : Prop where
  f_isinstance : mg "isinstance" = none
  f_int : mg "int" = none
  f_bool : mg "bool" = none
  f_tuple : mg "tuple" = none
  f_len : mg "len" = none
  f_all : mg "all" = none
  f_sorted : mg "sorted" = none
  f_list : mg "list" = none
  f_range : mg "range" = none
  f_set : mg "set" = none
  f_enumerate : mg "enumerate" = none
  f_sum : mg "sum" = none
  f_zip : mg "zip" = none
  f_min : mg "min" = none
  f_max : mg "max" = none
  f_abs : mg "abs" = none
  f_str : mg "str" = none
  nSides : ∃ t, mg "MOST_SIDES" = some (.int 4 t)
  nTables : ∃ t, mg "MOST_TABLES" = some (.int 8 t)
  nReadings : ∃ t, mg "MOST_READINGS" = some (.int 24 t)
  nStep : ∃ t, mg "MOST_STEP" = some (.int 1000000000000 t)
  nTimes : ∃ t, mg "MOST_TIMES" = some (.int 1000000000000 t)
  nNested : ∃ t, mg "MOST_NESTED" = some (.int 30 t)
  gP : mg "Program" = some (.ref g.CP)
  gS : mg "Summary" = some (.ref g.CS)
/-- a def of the text as it stands -/
abbrev FT (g : Gk) (x qual : Str) (st : Stmt) (f : Addr) (fd : FuncData) : Prop := FunD g.K x qual (defArgs st) (defBody st) (defScope st) [] [] f fd
theorem kn {g : Gk} {Pg : Program} {w : World} {mg : Str → Option Value} {base : Heap} {x qual : Str} {st : Stmt} {f : Addr} {fd : FuncData} {k : Nat} {ps : List Str} {sp : DSp} (F : FT g x qual st f fd) (h : FnOk Pg w g.K mg base CX0 k f fd ps (spD g sp)) (hm : mg x = some (.ref f))
    (hb : ∀ (kV doc pm : Value) (an : Option Addr) (cdv ct : Value) (us : List Value), us.length = ps.length → bindArgs (PySem.W.fnOf x qual (defArgs st) (defBody st) (defScope st) .none kV doc pm an cdv ct) ⟨us, []⟩ = pure (ps.zip us)) : Kn Pg w g mg base x k ps sp :=
  ⟨f, fd, h, hm, F.kp, FunD.bindsN F hb⟩
end K19
namespace K19
open PySem PySem.Spec PyProof.Rows L2
local macro_rules | `(tactic| walk_at "st") => `(tactic| first
  | with_reducible refine ws_seq ?_ | with_reducible refine ws_ret ?_ | with_reducible refine ws_if ?_ | with_reducible refine ws_next ?_
  | with_reducible refine we_int ?_ | with_reducible refine we_bl ?_ | with_reducible refine we_non ?_ | with_reducible refine we_str ?_
  | ((with_reducible refine' we_var ?we ?_); (case we => exact rfl)) | with_reducible refine we_op ?_ | with_reducible refine we_un ?_ | with_reducible refine we_isp ?_ | with_reducible refine we_callE ?_ | with_reducible refine we_callF ?_ | with_reducible refine we_cb ?_ | with_reducible refine wa_cons ?_ | with_reducible refine wa_nil ?_
  | with_reducible refine we_tup ?_ | with_reducible refine we_slT ?_ | with_reducible refine wo_none ?_ | with_reducible refine wo_some ?_
  | with_reducible refine we_andV ?_ | with_reducible refine we_orV ?_ | with_reducible refine we_notV ?_ | with_reducible refine we_chain ?_ | with_reducible refine we_ifE ?_
  | with_reducible refine wt_test ?_ | with_reducible refine wt_B ?_ | with_reducible refine wt_and ?_ | with_reducible refine wt_or ?_ | with_reducible refine wt_not ?_
  | with_reducible refine wr_add ?_ | with_reducible refine wr_sub ?_ | with_reducible refine wr_lt ?_ | with_reducible refine wr_le ?_ | with_reducible refine wr_gt ?_ | with_reducible refine wr_ge ?_ | with_reducible refine wr_eqI ?_ | with_reducible refine wr_neI ?_
  | with_reducible refine wr_rd0 ?_ | with_reducible refine wr_rd1 ?_ | with_reducible refine wr_rd2 ?_ | ((with_reducible refine' wr_ixT ?we ?_); (case we => exact ⟨by decide, rfl⟩))
  | with_reducible refine wr_isN ?_ | with_reducible refine wr_notN ?_ | with_reducible refine wr_isB ?_ | with_reducible refine wr_notB ?_ | with_reducible refine wu_neg ?_
  | with_reducible refine we_sides ?_ | with_reducible refine we_tables ?_ | with_reducible refine we_readings ?_ | with_reducible refine we_begin ?_ | with_reducible refine we_end ?_ | with_reducible refine we_length ?_ | with_reducible refine we_added ?_ | with_reducible refine we_least ?_ | with_reducible refine we_most ?_ | with_reducible refine we_stands ?_
  | with_reducible refine wi_tup ?_ | with_reducible refine wi_rng1 ?_ | with_reducible refine ws_drop ?_
  | with_reducible refine ex_b ?_ | ((with_reducible refine' ex_isi ?wp ?_); (case wp => first | assumption | rfl)) | with_reducible refine ex_prg ?_ | with_reducible refine ex_sm ?_ | with_reducible refine ret_p ?_ | with_reducible refine ret_nl ?_ | with_reducible refine ret_prg ?_ | with_reducible refine ret_sm ?_ | with_reducible refine iteT ?_ | with_reducible refine iteF ?_
  | (with_reducible refine wc_allT ?_) | (with_reducible refine wc_sumT ?_) | (with_reducible refine wc_tup rfl ?_) | (with_reducible refine wc_lenT ?_)
  | (refine ⟨rfl, (_, _, _, _), rfl, (by first | trivial | assumption | decide | omega), rfl, ?_⟩; try dsimp only) | (refine ⟨rfl, (_, _, _), rfl, (by first | trivial | assumption | decide | omega), rfl, ?_⟩; try dsimp only) | (refine ⟨rfl, (_, _), rfl, (by first | trivial | assumption | decide | omega), rfl, ?_⟩; try dsimp only) | (refine ⟨rfl, _, rfl, (by first | trivial | assumption | decide | omega), rfl, ?_⟩; try dsimp only)
  | ((with_reducible refine' iteT' ?wp ?_); (case wp => rfl)) | ((with_reducible refine' iteF' ?wp ?_); (case wp => rfl))
  | (with_reducible refine ws_asg ?_) | ((with_reducible refine wg_name ⟨?wl, ?_⟩); (case wl => exact (Nat.le_of_ble_eq_true rfl))))
section
variable {Pg : Program} {w : World} {g : Gk} {mg : Str → Option Value} {base : Heap}
/-! ### checks -/
def isInt : PyData → Bool
  | .int _ => true
  | _ => false
theorem isInt_isi (d : PyData) : (isiT d "int" && !isiT d "bool") = isInt d := by
  cases d <;> rfl
abbrev sp_is_integer : DSp := spE (fun d : PyData => [.p d]) (fun d => plain d = true) (fun d => .p (.bool (isInt d)))
theorem ok_is_integer {f : Addr} {fd : FuncData} (T : Tx g mg) (F : FT g "is_integer" "is_integer" s_is_integer f fd) : FnOk Pg w g.K mg base CX0 1 f fd ["thing"] (spD g sp_is_integer) := by
  refine dok F sc_is_integer (fun es Q ⟨a, e, _⟩ => by rw [e]; rfl) fun cdv A outer s H E hr => ⟨_, (pss_one (ps_ret (pe_and (pe_callB call_isi (by rfl) T.f_isinstance (by decide +kernel) (pa_cons (pv 0) (pa_cons (pe_bltn (v := .ty "int") (by rfl) T.f_int (by decide +kernel) rfl) pa_nil))) (pe_one (pe_not (pe_callB call_isi (by rfl) T.f_isinstance (by decide +kernel) (pa_cons (pv 0) (pa_cons (pe_bltn (v := .ty "bool") (by rfl) T.f_bool (by decide +kernel) rfl) pa_nil)))))))), fun c es Q ⟨d, e, hd, q⟩ => ?_⟩
  subst e
  try dsimp only [cxOf, Cx.nox, Cx.wish]
  refine ws_ds (ds' := [some (.p d)]) rfl ?_
  have hd : plain d = true := hd
  have q : Q (.p (.bool (isInt d))) := q.2
  rw [← isInt_isi] at q
  repeat walk_at "st"
  cases h : isiT d "int" with
  | false =>
    rw [h] at q
    repeat walk_at "st"
    exact q
  | true =>
    rw [h] at q
    repeat walk_at "st"
    exact q
/-- is_within of an int, of a scalar or tuple -/
def within (d : PyData) (lo hi : Int) : Bool := match d with
  | .int i => decide (lo ≤ i) && decide (i ≤ hi)
  | _ => false
theorem within_int (i lo hi : Int) : within (.int i) lo hi = (decide (lo ≤ i) && decide (i ≤ hi)) := rfl
abbrev sp_is_within : DSp := spE (fun a : PyData × Int × Int => [.p a.1, .p (.int a.2.1), .p (.int a.2.2)]) (fun a => plain a.1 = true) (fun a => .p (.bool (within a.1 a.2.1 a.2.2)))
theorem ok_is_within {f : Addr} {fd : FuncData} (T : Tx g mg) (F : FT g "is_within" "is_within" s_is_within f fd) (C_is_integer : Kn Pg w g mg base "is_integer" 1 ["thing"] sp_is_integer) : FnOk Pg w g.K mg base CX0 2 f fd ["thing", "least", "most"] (spD g sp_is_within) := by
  refine dok F sc_is_within (fun es Q ⟨a, e, _⟩ => by rw [e]; rfl) fun cdv A outer s H E hr => ⟨_, (pss_one (ps_ret (pe_and (pe_kn rfl C_is_integer (hr.mono (by omega)) (by rfl) (pa_cons (pv 0) pa_nil)) (pe_one (pe_chain op_le op_le (pv 1) (pv 0) (pv 2)))))), fun c es Q ⟨⟨d, lo, hi⟩, e, hd, q⟩ => ?_⟩
  subst e
  try dsimp only [cxOf, Cx.nox, Cx.wish]
  refine ws_ds (ds' := [some (.p d), some (.p (.int lo)), some (.p (.int hi))]) rfl ?_
  have hd : plain d = true := hd
  have q : Q (.p (.bool (within d lo hi))) := q.2
  repeat walk_at "st"
  by_cases h : ∃ i, d = .int i
  · obtain ⟨i, rfl⟩ := h
    refine iteT ?_
    repeat walk_at "st"
    by_cases h1 : lo ≤ i
    · rw [decide_eq_true h1]
      repeat walk_at "st"
      rw [within_int, decide_eq_true h1] at q
      exact q
    · rw [decide_eq_false h1]
      repeat walk_at "st"
      rw [within_int, decide_eq_false h1] at q
      exact q
  · have e1 : isInt d = false := by
      cases d with
      | int i => exact absurd ⟨i, rfl⟩ h
      | _ => rfl
    have e2 : within d lo hi = false := by
      cases d with
      | int i => exact absurd ⟨i, rfl⟩ h
      | _ => rfl
    rw [e1]
    rw [e2] at q
    repeat walk_at "st"
    exact q
def isTriple : PyData → Bool
  | .tuple xs => decide ((xs.length : Int) = 3)
  | _ => false
abbrev sp_is_triple : DSp := spE (fun d : PyData => [.p d]) (fun d => plain d = true) (fun d => .p (.bool (isTriple d)))
theorem ok_is_triple {f : Addr} {fd : FuncData} (T : Tx g mg) (F : FT g "is_triple" "is_triple" s_is_triple f fd) : FnOk Pg w g.K mg base CX0 1 f fd ["thing"] (spD g sp_is_triple) := by
  refine dok F sc_is_triple (fun es Q ⟨a, e, _⟩ => by rw [e]; rfl) fun cdv A outer s H E hr => ⟨_, (pss_one (ps_ret (pe_and (pe_callB call_isi (by rfl) T.f_isinstance (by decide +kernel) (pa_cons (pv 0) (pa_cons (pe_bltn (v := .ty "tuple") (by rfl) T.f_tuple (by decide +kernel) rfl) pa_nil))) (pe_one (pe_cmpR op_eq (pe_callB call_len_seq (by rfl) T.f_len (by decide +kernel) (pa_cons (pv 0) pa_nil)) pe_int (nomark _)))))), fun c es Q ⟨d, e, hd, q⟩ => ?_⟩
  subst e
  try dsimp only [cxOf, Cx.nox, Cx.wish]
  refine ws_ds (ds' := [some (.p d)]) rfl ?_
  have q : Q (.p (.bool (isTriple d))) := q.2
  repeat walk_at "st"
  cases d with
  | tuple xs =>
    refine iteT ?_
    repeat walk_at "st"
    exact q
  | _ => first | (refine iteF ?_; repeat walk_at "st"; exact q) | cases hd
abbrev sp_are_integers : DSp := spE (fun a : List Int × Int => [.p (intsD a.1), .p (.int a.2)]) (fun a => a.1.length ≤ 1000) (fun a => .p (.bool (decide ((a.1.length : Int) = a.2))))
theorem ok_are_integers {f : Addr} {fd : FuncData} (T : Tx g mg) (F : FT g "are_integers" "are_integers" s_are_integers f fd) (C_is_integer : Kn Pg w g mg base "is_integer" 1 ["thing"] sp_is_integer) : FnOk Pg w g.K mg base CX0 2 f fd ["thing", "many"] (spD g sp_are_integers) := by
  refine dok F sc_are_integers (fun es Q ⟨a, e, _⟩ => by rw [e]; rfl) fun cdv A outer s H E hr => ⟨_, (pss_one (ps_ret (pe_and (pe_callB call_isi (by rfl) T.f_isinstance (by decide +kernel) (pa_cons (pv 0) (pa_cons (pe_bltn (v := .ty "tuple") (by rfl) T.f_tuple (by decide +kernel) rfl) pa_nil))) (pe_and (pe_cmpR op_eq (pe_callB call_len_seq (by rfl) T.f_len (by decide +kernel) (pa_cons (pv 0) pa_nil)) (pv 1) (nomark _)) (pe_one (pe_callB (cr_all rfl) (by rfl) T.f_all (by decide +kernel) (pa_cons (pe_lc (own := [("item", 2)]) (tt := tYes) rfl sc_are_integers.nd (pi_tup (pv 0)) (blkOk_by (by kernel_rfl)) (fun _ _ _ _ _ => (pg_name (i := 2) sc_are_integers.nd rfl (.inl rfl))) (fun _ _ _ _ _ => pts_nil) (fun _ _ _ _ _ => (pe_kn rfl C_is_integer (hr.mono (by omega)) (by rfl) (pa_cons (pv 2) pa_nil)))) pa_nil))))))), fun c es Q ⟨⟨l, n⟩, e, hd, q⟩ => ?_⟩
  subst e
  try dsimp only [cxOf, Cx.nox, Cx.wish]
  refine ws_ds (ds' := [some (.p (intsD l)), some (.p (.int n)), none]) rfl ?_
  have hd : l.length ≤ 1000 := hd
  have q : Q (.p (.bool (decide ((l.length : Int) = n)))) := q.2
  repeat walk_at "st"
  refine (wc_lenT (xs := l.map .int) ?_)
  rw [List.length_map]
  repeat walk_at "st"
  refine ite_b (fun h => ?_) (fun h => ?_)
  · rw [h] at q
    repeat walk_at "st"
    refine we_mapT (α := Int) ?_
    repeat walk_at "st"
    refine ⟨_, rfl, l, .int, fun _ => .bool true, rfl, hd, fun x _ => ⟨_, tgt_name, rfl, ?_⟩, ?_⟩
    · repeat walk_at "st"
      exact ⟨rfl, rfl⟩
    · repeat walk_at "st"
      rw [show l.all (fun _ => true) = true by simp]
      exact q
  · rw [h] at q
    repeat walk_at "st"
    exact q
abbrev sp_are_within : DSp := spE (fun a : List Int × Int × Int × Int => [.p (intsD a.1), .p (.int a.2.1), .p (.int a.2.2.1), .p (.int a.2.2.2)]) (fun a => a.1.length ≤ 1000) (fun a => .p (.bool (decide ((a.1.length : Int) = a.2.1) && a.1.all fun x => within (.int x) a.2.2.1 a.2.2.2)))
theorem ok_are_within {f : Addr} {fd : FuncData} (T : Tx g mg) (F : FT g "are_within" "are_within" s_are_within f fd) (C_are_integers : Kn Pg w g mg base "are_integers" 2 ["thing", "many"] sp_are_integers) : FnOk Pg w g.K mg base CX0 3 f fd ["thing", "many", "least", "most"] (spD g sp_are_within) := by
  refine dok F sc_are_within (fun es Q ⟨a, e, _⟩ => by rw [e]; rfl) fun cdv A outer s H E hr => ⟨_, (pss_one (ps_ret (pe_and (pe_kn rfl C_are_integers (hr.mono (by omega)) (by rfl) (pa_cons (pv 0) (pa_cons (pv 1) pa_nil))) (pe_one (pe_callB (cr_all rfl) (by rfl) T.f_all (by decide +kernel) (pa_cons (pe_lc (own := [("item", 4)]) (tt := tYes) rfl sc_are_within.nd (pi_tup (pv 0)) (blkOk_by (by kernel_rfl)) (fun _ _ _ _ _ => (pg_name (i := 4) sc_are_within.nd rfl (.inl rfl))) (fun _ _ _ _ _ => pts_nil) (fun _ _ _ _ _ => (pe_chain op_le op_le (pv 2) (pv 4) (pv 3)))) pa_nil)))))), fun c es Q ⟨⟨l, n, lo, hi⟩, e, hd, q⟩ => ?_⟩
  subst e
  try dsimp only [cxOf, Cx.nox, Cx.wish]
  refine ws_ds (ds' := [some (.p (intsD l)), some (.p (.int n)), some (.p (.int lo)), some (.p (.int hi)), none]) rfl ?_
  have hd : l.length ≤ 1000 := hd
  have q : Q (.p (.bool (decide ((l.length : Int) = n) && l.all fun x => within (.int x) lo hi))) := q.2
  repeat walk_at "st"
  refine ite_b (fun h => ?_) (fun h => ?_)
  · rw [h, Bool.true_and] at q
    repeat walk_at "st"
    refine we_mapT (α := Int) ?_
    repeat walk_at "st"
    refine ⟨_, rfl, l, .int, fun x => .bool (within (.int x) lo hi), rfl, hd, fun x _ => ⟨_, tgt_name, rfl, ?_⟩, ?_⟩
    · repeat walk_at "st"
      refine ite_b (fun h1 => ?_) (fun h1 => ?_)
      · repeat walk_at "st"
        dsimp only
        rw [within_int, h1, Bool.true_and]
        exact ⟨rfl, rfl⟩
      · dsimp only
        rw [within_int, h1, Bool.false_and]
        exact ⟨rfl, rfl⟩
    · repeat walk_at "st"
      exact q
  · rw [h, Bool.false_and] at q
    repeat walk_at "st"
    exact q
abbrev sp_check_number : DSp := spE (fun a : Int × Int × Int => [.p (.int a.1), .p (.int a.2.1), .p (.int a.2.2)]) (fun a => a.2.1 ≤ a.1 ∧ a.1 ≤ a.2.2) (fun _ => .p .none)
theorem ok_check_number {f : Addr} {fd : FuncData} (T : Tx g mg) (F : FT g "check_number" "check_number" s_check_number f fd) (C_is_within : Kn Pg w g mg base "is_within" 2 ["thing", "least", "most"] sp_is_within) : FnOk Pg w g.K mg base CX0 3 f fd ["thing", "least", "most"] (spD g sp_check_number) := by
  refine dok F sc_check_number (fun es Q ⟨a, e, _⟩ => by rw [e]; rfl) fun cdv A outer s H E hr => ⟨_, (pss_one (ps_if (pt_not (pt_val (pe_kn rfl C_is_within (hr.mono (by omega)) (by rfl) (pa_cons (pv 0) (pa_cons (pv 1) (pa_cons (pv 2) pa_nil))))))
    (pss_one ps_never)
    pss_nil)), fun c es Q ⟨⟨n, lo, hi⟩, e, hd, q⟩ => ?_⟩
  subst e
  try dsimp only [cxOf, Cx.nox, Cx.wish]
  refine ws_ds (ds' := [some (.p (.int n)), some (.p (.int lo)), some (.p (.int hi))]) rfl ?_
  have hd : lo ≤ n ∧ n ≤ hi := hd
  have q : Q (.p .none) := q.2
  repeat walk_at "st"
  rw [within_int, decide_eq_true hd.1, decide_eq_true hd.2]
  repeat walk_at "st"
  exact q
abbrev sp_check_table : DSp := spE (fun a : (Int × Int × List Rd × Bool) × Int => [.prg a.1.1 a.1.2.1 a.1.2.2.1 a.1.2.2.2, .p (.int a.2)]) (fun a => 0 ≤ a.2 ∧ a.2 < a.1.2.1) (fun _ => .p .none)
theorem ok_check_table {f : Addr} {fd : FuncData} (T : Tx g mg) (F : FT g "check_table" "check_table" s_check_table f fd) (C_is_within : Kn Pg w g mg base "is_within" 2 ["thing", "least", "most"] sp_is_within) : FnOk Pg w g.K mg base CX0 3 f fd ["program", "thing"] (spD g sp_check_table) := by
  refine dok F sc_check_table (fun es Q ⟨a, e, _⟩ => by rw [e]; rfl) fun cdv A outer s H E hr => ⟨_, (pss_one (ps_if (pt_not (pt_val (pe_kn rfl C_is_within (hr.mono (by omega)) (by rfl) (pa_cons (pv 1) (pa_cons pe_int (pa_cons (pe_op op_sub (pe_fld (pv 0) rfl) pe_int) pa_nil))))))
    (pss_one ps_never)
    pss_nil)), fun c es Q ⟨⟨⟨ps, pt, pr, nd⟩, n⟩, e, hd, q⟩ => ?_⟩
  subst e
  try dsimp only [cxOf, Cx.nox, Cx.wish]
  refine ws_ds (ds' := [some (.prg ps pt pr nd), some (.p (.int n))]) rfl ?_
  have hd : 0 ≤ n ∧ n < pt := hd
  have q : Q (.p .none) := q.2
  repeat walk_at "st"
  rw [within_int, decide_eq_true hd.1, decide_eq_true (show n ≤ pt - 1 by omega)]
  repeat walk_at "st"
  exact q
/-- a reading of so many sides and tables -/
def Rd.ok (r : Rd) (s t : Int) : Prop := 0 ≤ r.x ∧ r.x < t ∧ 0 ≤ r.y ∧ r.y < t ∧ (r.st.length : Int) = s ∧ ∀ z ∈ r.st, -1000000000000 ≤ z ∧ z ≤ 1000000000000
abbrev sp_is_reading : DSp := spE (fun a : Int × Int × Rd => [.p (.int a.1), .p (.int a.2.1), .p a.2.2.pd]) (fun a => a.2.2.ok a.1 a.2.1 ∧ a.1 ≤ 4) (fun _ => .p (.bool true))
theorem ok_is_reading {f : Addr} {fd : FuncData} (T : Tx g mg) (F : FT g "is_reading" "is_reading" s_is_reading f fd) (C_is_within : Kn Pg w g mg base "is_within" 2 ["thing", "least", "most"] sp_is_within) (C_is_triple : Kn Pg w g mg base "is_triple" 1 ["thing"] sp_is_triple)
    (C_are_within : Kn Pg w g mg base "are_within" 3 ["thing", "many", "least", "most"] sp_are_within) : FnOk Pg w g.K mg base CX0 4 f fd ["sides", "tables", "thing"] (spD g sp_is_reading) := by
  obtain ⟨tS, cMOST_STEP⟩ := T.nStep
  refine dok F sc_is_reading (fun es Q ⟨a, e, _⟩ => by rw [e]; rfl) fun cdv A outer s H E hr => ⟨_, (pss_cons (ps_if (PW.pt (pw_or (pt_not (pt_val (pe_kn rfl C_is_triple (hr.mono (by omega)) (by rfl) (pa_cons (pv 2) pa_nil)))) (pw_or (pt_not (pt_val (pe_kn rfl C_is_within (hr.mono (by omega)) (by rfl) (pa_cons (pe_ix ix_tup (pv 2) pe_int (fun _ _ => rfl)) (pa_cons pe_int (pa_cons (pe_op op_sub (pv 1) pe_int) pa_nil)))))) (pw_or1 (pt_not (pt_val (pe_kn rfl C_is_within (hr.mono (by omega)) (by rfl) (pa_cons (pe_ix ix_tup (pv 2) pe_int (fun _ _ => rfl)) (pa_cons pe_int (pa_cons (pe_op op_sub (pv 1) pe_int) pa_nil))))))))))
    (pss_one (ps_ret pe_bl))
    pss_nil)
    (pss_one (ps_ret (pe_kn rfl C_are_within (hr.mono (by omega)) (by rfl) (pa_cons (pe_ix ix_tup (pv 2) pe_int (fun _ _ => rfl)) (pa_cons (pv 0) (pa_cons (pe_un un_neg (pe_glob (v := .int 1000000000000) rfl cMOST_STEP ⟨_, rfl⟩)) (pa_cons (pe_glob (v := .int 1000000000000) rfl cMOST_STEP ⟨_, rfl⟩) pa_nil)))))))), fun c es Q ⟨⟨ns, nt, r⟩, e, hd, q⟩ => ?_⟩
  subst e
  try dsimp only [cxOf, Cx.nox, Cx.wish]
  refine ws_ds (ds' := [some (.p (.int ns)), some (.p (.int nt)), some (.p r.pd)]) rfl ?_
  have hd : r.ok ns nt ∧ ns ≤ 4 := hd
  have q : Q (.p (.bool true)) := q.2
  obtain ⟨⟨h1, h2, h3, h4, h5, h6⟩, h7⟩ := hd
  repeat walk_at "st"
  rw [within_int, decide_eq_true h1, decide_eq_true (show r.x ≤ nt - 1 by omega)]
  repeat walk_at "st"
  rw [within_int, decide_eq_true h3, decide_eq_true (show r.y ≤ nt - 1 by omega)]
  repeat walk_at "st"
  refine ⟨rfl, (_, _, _, _), rfl, ?_, rfl, ?_⟩
  · show r.st.length ≤ 1000
    omega
  · dsimp only
    rw [decide_eq_true h5, show (r.st.all fun x => within (.int x) (-1000000000000) 1000000000000) = true from List.all_eq_true.mpr fun z hz => by
      rw [within_int, decide_eq_true (h6 z hz).1, decide_eq_true (h6 z hz).2]
      rfl]
    exact ⟨rfl, q⟩
abbrev sp_check_reading : DSp := spE (fun a : (Int × Int × List Rd × Bool) × Rd => [.prg a.1.1 a.1.2.1 a.1.2.2.1 a.1.2.2.2, .p a.2.pd]) (fun a => a.2.ok a.1.1 a.1.2.1 ∧ a.1.1 ≤ 4) (fun _ => .p .none)
theorem ok_check_reading {f : Addr} {fd : FuncData} (T : Tx g mg) (F : FT g "check_reading" "check_reading" s_check_reading f fd) (C_is_reading : Kn Pg w g mg base "is_reading" 4 ["sides", "tables", "thing"] sp_is_reading) : FnOk Pg w g.K mg base CX0 5 f fd ["program", "thing"] (spD g sp_check_reading) := by
  refine dok F sc_check_reading (fun es Q ⟨a, e, _⟩ => by rw [e]; rfl) fun cdv A outer s H E hr => ⟨_, (pss_one (ps_if (pt_not (pt_val (pe_kn rfl C_is_reading (hr.mono (by omega)) (by rfl) (pa_cons (pe_fld (pv 0) rfl) (pa_cons (pe_fld (pv 0) rfl) (pa_cons (pv 1) pa_nil))))))
    (pss_one ps_never)
    pss_nil)), fun c es Q ⟨⟨⟨ps, pt, pr, nd⟩, r⟩, e, hd, q⟩ => ?_⟩
  subst e
  try dsimp only [cxOf, Cx.nox, Cx.wish]
  refine ws_ds (ds' := [some (.prg ps pt pr nd), some (.p r.pd)]) rfl ?_
  have hd : r.ok ps pt ∧ ps ≤ 4 := hd
  have q : Q (.p .none) := q.2
  repeat walk_at "st"
  exact q
end
end K19
/-! zip of three tuples, enumerate of a tuple -/
namespace K19
open PySem PySem.Spec PyProof.Rows L2
/-- three tuples side by side, in new triples -/
def It3 (K : PySem.W.Frag) (a b d : Addr) : It :=
  ⟨fun i H => ∃ (xs ys zs : List V) (x y z : V), (SqT K H a xs ∧ xs[i]? = some x) ∧ (SqT K H b ys ∧ ys[i]? = some y) ∧ SqT K H d zs ∧ zs[i]? = some z,
    fun i H v H' => ∃ T x y z, v = .ref T ∧ H T = none ∧ H' = upd H T (.tup [x, y, z]) ∧ (∀ xs, SqT K H a xs → xs[i]? = some x) ∧ (∀ ys, SqT K H b ys → ys[i]? = some y) ∧ ∀ zs, SqT K H d zs → zs[i]? = some z,
    fun i H => ∃ (xs ys zs : List V), SqT K H a xs ∧ SqT K H b ys ∧ SqT K H d zs ∧ min (min xs.length ys.length) zs.length = i⟩
abbrev Tn3 (N a b d : Addr) : Nat → Heap → Prop := fun i h => IsZip h (N + 5) (N + 3) (N + 4) .none ∧ IsTupOf3 h (N + 3) (.ref N) (.ref (N + 1)) (.ref (N + 2)) ∧ (∃ x y z, IsTupOf3 h (N + 4) x y z) ∧ h.IsTupleIter N a i ∧ h.IsTupleIter (N + 1) b i ∧ h.IsTupleIter (N + 2) d i
abbrev fp3 (N : Addr) : List Addr := [N + 5, N + 3, N + 4, N, N + 1, N + 2]
theorem one_lt {a N : Addr} (h : a < N) : ∀ b ∈ [a], b < N := fun b hb => by
  rw [List.mem_singleton.mp hb]
  exact h
theorem sub3 {N c : Addr} (h : c ∈ [N + 5, N + 4, N, N + 1, N + 2]) : c ∈ fp3 N := by
  simp only [List.mem_cons, List.not_mem_nil, or_false] at h
  rcases h with z | z | z | z | z <;> rw [z] <;> simp [fp3]
theorem turn_zip3 {P : Program} {w : World} {K : PySem.W.Frag} {elts : List Expr} {kk : Nat} {tpos : Pos} {a b d N : Addr} (ha : a < N) (hb : b < N) (hd : d < N) :
    Turn P w K (.Tuple elts kk tpos) (It3 K a b d) (fp3 N) (N + 5) (Tn3 N a b d) where
  mem := List.mem_cons_self
  obj := fun i h st c hc => by
    obtain ⟨hz, hT, ⟨x, y, z, hO⟩, ⟨o1, e1, _, d1⟩, ⟨o2, e2, _, d2⟩, ⟨o3, e3, _, d3⟩⟩ := st
    have q : c = N + 5 ∨ c = N + 3 ∨ c = N + 4 ∨ c = N ∨ c = N + 1 ∨ c = N + 2 := by simpa using hc
    rcases q with q | q | q | q | q | q <;> subst q
    · exact ⟨_, hz, fun v q => nomatch q⟩
    · exact ⟨_, hT, fun v q => nomatch q⟩
    · exact ⟨_, hO, fun v q => nomatch q⟩
    · exact ⟨o1, e1, fun v q => by rw [d1] at q; cases q⟩
    · exact ⟨o2, e2, fun v q => by rw [d2] at q; cases q⟩
    · exact ⟨o3, e3, fun v q => by rw [d3] at q; cases q⟩
  keep := fun i h h' st k => by
    obtain ⟨hz, hT, ⟨x, y, z, hO⟩, h1, h2, h3⟩ := st
    exact ⟨k _ (by simp) _ hz, k _ (by simp) _ hT, ⟨x, y, z, k _ (by simp) _ hO⟩, h1.at fun o q => k _ (by simp) o q, h2.at fun o q => k _ (by simp) o q, h3.at fun o q => k _ (by simp) o q⟩
  item := by
    intro X eP ew eK hc i pins s σ H E I hf st hg
    subst eP ew eK
    obtain ⟨hz, hT, hO, h1, h2, h3⟩ := id st
    obtain ⟨xs, ys, zs, x, y, z, ⟨qx, gx⟩, ⟨qy, gy⟩, qz, gz⟩ := hg
    obtain ⟨us1, r1, p1, _⟩ := I.tuple qx
    obtain ⟨us2, r2, p2, _⟩ := I.tuple qy
    obtain ⟨us3, r3, p3, _⟩ := I.tuple qz
    obtain ⟨u1, e1, t1⟩ := r1.get gx
    obtain ⟨u2, e2, t2⟩ := r2.get gy
    obtain ⟨u3, e3, t3⟩ := r3.get gz
    have hlive : ∀ c ∈ fp3 N, c < s.heap.objs.size := fun c hcm => by
      have q : c = N + 5 ∨ c = N + 3 ∨ c = N + 4 ∨ c = N ∨ c = N + 1 ∨ c = N + 2 := by simpa using hcm
      have hb5 : N + 5 < s.heap.objs.size := Heap.lt_size hz
      rcases q with q | q | q | q | q | q <;> subst q <;> first | exact hb5 | exact Nat.lt_of_le_of_lt (by omega) hb5
    have i1 : i < us1.length := (List.getElem?_eq_some_iff.mp e1).1
    have i2 : i < us2.length := (List.getElem?_eq_some_iff.mp e2).1
    have i3 : i < us3.length := (List.getElem?_eq_some_iff.mp e3).1
    have hh : X.A.handled = none := I.ok.hd hc
    refine (GoesN.zip3 (elts := elts) (x1 := kk) (pos := tpos) (zip_sep3 (one_lt ha) (one_lt hb) (one_lt hd)) (Draws.tuple (prog := X.prog) (w := X.w) (A := X.A.in1) hh N a (Nat.ne_of_lt ha) us1.toArray)
      (Draws.tuple (prog := X.prog) (w := X.w) (A := X.A.in1) hh (N + 1) b (Nat.ne_of_lt (Nat.lt_succ_of_lt hb)) us2.toArray) (Draws.tuple (prog := X.prog) (w := X.w) (A := X.A.in1) hh (N + 2) d (Nat.ne_of_lt (Nat.lt_add_right 2 hd)) us3.toArray)).goes i s _ E (by simp only [List.size_toArray]; omega)
      ⟨hz, hT, hO, ⟨h1, p1⟩, ⟨h2, p2⟩, ⟨h3, p3⟩⟩ fun v h' tk ⟨T, v1, v2, v3, ev, hn, g1, g2, g3, hTup⟩ ⟨hz', hT', hO', ⟨h1', _⟩, ⟨h2', _⟩, h3', _⟩ hk _ => ?_
    subst ev
    rw [List.getElem?_toArray, e1] at g1
    rw [List.getElem?_toArray, e2] at g2
    rw [List.getElem?_toArray, e3] at g3
    cases g1
    cases g2
    cases g3
    have new : ObjOk X.prog X.w (upd H T (.tup [x, y, z])) h' T (.tup [x, y, z]) := ⟨by show 3 ≤ sizeLine; decide, [u1, u2, u3], .cons t1 (.cons t2 (.cons t3 .nil)), hTup⟩
    have hnT : H T = none := I.hok.fresh hn
    have I2 : Inv X pins σ (upd H T (.tup [x, y, z])) { s with heap := h', toks := tk } := I.turnedNew (ch := fp3 N) (fun c o hcm q => hk c o (fun zz => hcm (sub3 zz)) q) hf hn new
    refine ⟨.ref T, _, I2, rfl, ⟨T, x, y, z, rfl, hnT, rfl, fun l hl => by rw [I.tuple_inj hl qx]; exact gx, fun l hl => by rw [I.tuple_inj hl qy]; exact gy, fun l hl => by rw [I.tuple_inj hl qz]; exact gz⟩, ⟨hz', hT', hO', h1', h2', h3'⟩, fun c hcm => ?_⟩
    rw [upd_ne (Nat.ne_of_lt (Nat.lt_of_lt_of_le (hlive c hcm) hn))]
    exact (hf c hcm).1
  done := by
    intro X eP ew eK hc i pins s σ H E I hf st hg
    subst eP ew eK
    obtain ⟨hz, hT, hO, h1, h2, h3⟩ := id st
    obtain ⟨xs, ys, zs, qx, qy, qz, he⟩ := hg
    obtain ⟨us1, r1, p1, _⟩ := I.tuple qx
    obtain ⟨us2, r2, p2, _⟩ := I.tuple qy
    obtain ⟨us3, r3, p3, _⟩ := I.tuple qz
    have l1 := r1.length
    have l2 := r2.length
    have l3 := r3.length
    have en : min (min us1.toArray.size us2.toArray.size) us3.toArray.size = i := by
      simp only [List.size_toArray]
      rw [← l1, ← l2, ← l3]
      exact he
    have hh : X.A.handled = none := I.ok.hd hc
    refine (GoesN.zip3 (elts := elts) (x1 := kk) (pos := tpos) (zip_sep3 (one_lt ha) (one_lt hb) (one_lt hd)) (Draws.tuple (prog := X.prog) (w := X.w) (A := X.A.in1) hh N a (Nat.ne_of_lt ha) us1.toArray)
      (Draws.tuple (prog := X.prog) (w := X.w) (A := X.A.in1) hh (N + 1) b (Nat.ne_of_lt (Nat.lt_succ_of_lt hb)) us2.toArray) (Draws.tuple (prog := X.prog) (w := X.w) (A := X.A.in1) hh (N + 2) d (Nat.ne_of_lt (Nat.lt_add_right 2 hd)) us3.toArray)).stops s _ E ?_ fun h' tk hk _ => ?_
    · rw [en]
      exact ⟨hz, hT, hO, ⟨h1, p1⟩, ⟨h2, p2⟩, ⟨h3, p3⟩⟩
    · exact I.turnedL (ch := fp3 N) (fun c o hcm q => hk c o (fun zz => hcm (sub3 zz)) q) hf
  self := fun A i s Q E st h => wpAny_pyIter_zip st.1 h
def iZip3 (K : PySem.W.Frag) (ta : TA) : TI := fun σ H R => ta σ H fun vs H1 => ∃ a b d xs ys zs, vs = [.ref a, .ref b, .ref d] ∧ SqT K H1 a xs ∧ SqT K H1 b ys ∧ SqT K H1 d zs ∧ R (It3 K a b d) H1
theorem pi_zip3 {X : Cx} {e1 e2 e3 : Expr} {ta : TA} {p pos tpos : Pos} {elts : List Expr} {kk : Nat} (hg : Gl X "zip") (hm : X.mg "zip" = none) (ha : PA X [e1, e2, e3] ta)
    (hs : starEach [e1, e2, e3] X.env = (false, eval e1 X.env) :: starEach [e2, e3] X.env := by rfl) (hpl : (backTo pos (starEach [e2, e3] X.env)).any (·.1) = false := by rfl) :
    PI X (.Tuple elts kk tpos) (.Call (.Name "zip" p) [e1, e2, e3] [] pos) (iZip3 X.K ta) := by
  refine ⟨fun pins s σ H R I h => Call_ (ld_blt I hg hm PyProof.Rows.boot_zip (PyProof.Rows.callWith_type1 (thn (ha.run pos pins s σ H _ I h) fun us s1 ⟨vs, H1, I1, rv, q1⟩ => ?_) hs hpl))⟩
  obtain ⟨a, b, d, xs, ys, zs, ev, qx, qy, qz, q⟩ := q1
  subst ev
  obtain ⟨u1, u2, u3, rfl, r1, r2, r3⟩ : ∃ u1 u2 u3, us = [u1, u2, u3] ∧ RelV (.ref a) u1 ∧ RelV (.ref b) u2 ∧ RelV (.ref d) u3 := by
    cases rv with
    | cons p1 t =>
      cases t with
      | cons p2 t =>
        cases t with
        | cons p3 t =>
          cases t
          exact ⟨_, _, _, rfl, p1, p2, p3⟩
  cases r1
  cases r2
  cases r3
  obtain ⟨us1, _, p1, _⟩ := I1.tuple qx
  obtain ⟨us2, _, p2, _⟩ := I1.tuple qy
  obtain ⟨us3, _, p3, _⟩ := I1.tuple qz
  have lt : ∀ {t : Addr} {its : Array Value}, s1.heap.IsTuple t its → t < s1.heap.objs.size := fun ⟨_, z, _⟩ => Heap.lt_size z
  refine zip_begins3 (begins_tuple a us1.toArray) (begins_tuple b us2.toArray) (begins_tuple d us3.toArray) p1 p2 p3 fun h' hz hT hO g1 g2 g3 _ hk => wpAny_pyIter_zip hz ?_
  have I2 : Inv X pins σ H1 { s1 with heap := h' } := I1.kept (t' := s1.toks) hk
  refine ⟨_, fp3 s1.heap.objs.size, _, _, H1, rfl, I2, turn_zip3 (lt p1) (lt p2) (lt p3), ⟨hz, hT, ⟨_, _, _, hO⟩, ⟨_, g1, rfl, rfl⟩, ⟨_, g2, rfl, rfl⟩, ⟨_, g3, rfl, rfl⟩⟩, fun c hcm => ?_, q⟩
  have hle : s1.heap.objs.size ≤ c := by
    simp only [fp3, List.mem_cons, List.not_mem_nil, or_false] at hcm
    rcases hcm with z | z | z | z | z | z <;> rw [z] <;> first | exact Nat.le_refl _ | exact Nat.le_add_right _ _
  exact I1.fpOk hle (I1.hok.fresh hle)
end K19
namespace K19
open PySem PySem.Spec PyProof.Rows L2
abbrev itO (t : Addr) : Obj := { cls := .type "tuple_iterator", data := .fields #[.ref t, .int 0 0] }
abbrev enO (i : Addr) : Obj := { cls := .type "enumerate", data := .fields #[.none, .bool false, .ref i, rawInt 0, .none, .none] }
abbrev enHp (h : Heap) (t : Addr) : Heap := (h.push (itO t)).push (enO h.objs.size)
theorem new_enumT (t : Addr) (items : Array Value) : Meets (Builtin.«enumerate.__new__» ⟨[.type "enumerate", .ref t], []⟩)
    (fun _ R s => s.heap.IsTuple t items ∧ R (.ok (.ret (.ref (s.heap.push (itO t)).objs.size))) { s with heap := enHp s.heap t }) :=
  .of_wp fun prog w A R s h => by
    obtain ⟨hp, gn, dr, tk, os⟩ := s
    obtain ⟨ht, hR⟩ := h
    have hs := sub_enumerate
    have go : ∀ {A' : Around} {E : Value → Shared → Prop} {Q : Value → Shared → Prop}, Q (.ref hp.objs.size) ⟨hp.push (itO t), gn, dr, tk, os⟩ → wpAny (model prog w) A' (pyIter (.ref t)) Q E ⟨hp, gn, dr, tk, os⟩ := fun q => wpAny_pyIter_tuple ht q
    wp_walk using go
    refine wpAny_stack_any fun st => wpAny_pure ?_
    split
    · rename_i cl _ _ _ _ _
      cases (cl == Value.type "enumerate") <;> (wp_walk using go; exact ⟨_, rfl, hR⟩)
    · wp_walk using go
      exact ⟨_, rfl, hR⟩
theorem call_enumT {prog : Program} {w : World} {A : Around} {E : Value → Shared → Prop} {s : Shared} {t : Addr} {items : Array Value} {Q : Value → Shared → Prop} (ht : s.heap.IsTuple t items)
    (q : ∀ h', IsEnum h' (s.heap.objs.size + 1) s.heap.objs.size 0 .none → h'.IsTupleIter s.heap.objs.size t 0 → (∀ c o, s.heap.get? c = some o → h'.get? c = some o) → Q (.ref (s.heap.objs.size + 1)) { s with heap := h' }) :
    wpAny (model prog w) A (call (.type "enumerate") [.ref t]) Q E s := by
  have hz : (s.heap.push (itO t)).objs.size = s.heap.objs.size + 1 := Heap.size_push ..
  have he : IsEnum (enHp s.heap t) (s.heap.objs.size + 1) s.heap.objs.size 0 .none := by
    have e := Heap.get?_push_size (s.heap.push (itO t)) (o := enO s.heap.objs.size) rfl
    rw [hz] at e
    exact e
  refine callType_new F.called_enumerate (by decide) (F.typeCall_enumerate_1 _) (F.newCall_enumerate_1 _) (fun ob => F.args_object_init_2 ob _) F.entry_enumerate_new (new_enumT t items) ⟨ht, ?_⟩
  show _ ∧ _
  rw [hz]
  exact ⟨⟨_, he, rfl⟩, q _ he ⟨_, Heap.get?_push_of_some _ (Heap.get?_push_size _ rfl), rfl, rfl⟩ fun c o z => Heap.get?_push_of_some _ (Heap.get?_push_of_some _ z)⟩
/-- the tuple at a, the items with their numbers in new pairs -/
def ItE (K : PySem.W.Frag) (a : Addr) : It :=
  ⟨fun i H => ∃ (xs : List V) (x : V), SqT K H a xs ∧ xs[i]? = some x, fun i H v H' => ∃ T x, v = .ref T ∧ H T = none ∧ H' = upd H T (.tup [.int (i : Nat), x]) ∧ ∀ xs, SqT K H a xs → xs[i]? = some x, fun i H => ∃ xs : List V, SqT K H a xs ∧ xs.length = i⟩
abbrev TnE (N a : Addr) : Nat → Heap → Prop := fun i h => (∃ old, IsEnum h (N + 1) N (0 + (i : Int)) old) ∧ h.IsTupleIter N a i
theorem turn_enT {P : Program} {w : World} {K : PySem.W.Frag} {elts : List Expr} {kk : Nat} {tpos : Pos} {a N : Addr} (ha : a < N) : Turn P w K (.Tuple elts kk tpos) (ItE K a) [N + 1, N] (N + 1) (TnE N a) where
  mem := List.mem_cons_self
  obj := fun i h st c hc => by
    obtain ⟨⟨old, he⟩, ⟨o1, e1, _, d1⟩⟩ := st
    have q : c = N + 1 ∨ c = N := by simpa using hc
    rcases q with q | q <;> subst q
    · exact ⟨_, he, fun v q => nomatch q⟩
    · exact ⟨o1, e1, fun v q => by rw [d1] at q; cases q⟩
  keep := fun i h h' st k => by
    obtain ⟨⟨old, he⟩, h1⟩ := st
    exact ⟨⟨old, k _ (by simp) _ he⟩, h1.at fun o q => k _ (by simp) o q⟩
  item := by
    intro X eP ew eK hc i pins s σ H E I hf st hg
    subst eP ew eK
    obtain ⟨he, h1⟩ := id st
    obtain ⟨xs, x, qx, gx⟩ := hg
    obtain ⟨us, r1, p1, _⟩ := I.tuple qx
    obtain ⟨u, e1, t1⟩ := r1.get gx
    have hlive : ∀ c ∈ ([N + 1, N] : List Addr), c < s.heap.objs.size := fun c hcm => by
      have q : c = N + 1 ∨ c = N := by simpa using hcm
      obtain ⟨old, z⟩ := he
      have hb : N + 1 < s.heap.objs.size := Heap.lt_size z
      rcases q with q | q <;> subst q
      · exact hb
      · exact Nat.lt_of_succ_lt hb
    have i1 : i < us.length := (List.getElem?_eq_some_iff.mp e1).1
    have hh : X.A.handled = none := I.ok.hd hc
    refine (GoesN.enumFrom (elts := elts) (x1 := kk) (pos := tpos) 0 (Draws.tuple (prog := X.prog) (w := X.w) (A := X.A.in1) hh N a (Nat.ne_of_lt ha) us.toArray) (N + 1) (Nat.succ_ne_self N) (fun z => ?_) (by simp)).goes i s _ E (by simp only [List.size_toArray]; exact i1)
      ⟨he, h1, p1⟩ fun v h' tk ⟨T, tok, y, ev, hn, gy, hTup⟩ ⟨he', h1', _⟩ hk _ => ?_
    · have q : N + 1 = N ∨ N + 1 = a := by simpa using z
      rcases q with q | q
      · exact absurd q (Nat.succ_ne_self N)
      · rw [← q] at ha
        exact absurd (Nat.lt_of_succ_lt ha) (Nat.lt_irrefl _)
    · subst ev
      rw [List.getElem?_toArray, e1] at gy
      cases gy
      have e0 : (0 : Int) + (i : Int) = ((i : Nat) : Int) := Int.zero_add _
      rw [e0] at hTup
      have new : ObjOk X.prog X.w (upd H T (.tup [.int (i : Nat), x])) h' T (.tup [.int (i : Nat), x]) := ⟨by show 2 ≤ sizeLine; decide, [.int (i : Nat) tok, u], .cons ⟨_, rfl⟩ (.cons t1 .nil), hTup⟩
      have I2 : Inv X pins σ (upd H T (.tup [.int (i : Nat), x])) { s with heap := h', toks := tk } := I.turnedNew (ch := [N + 1, N]) hk hf hn new
      refine ⟨.ref T, _, I2, rfl, ⟨T, x, rfl, I.hok.fresh hn, rfl, fun l hl => by rw [I.tuple_inj hl qx]; exact gx⟩, ⟨he', h1'⟩, fun c hcm => ?_⟩
      rw [upd_ne (Nat.ne_of_lt (Nat.lt_of_lt_of_le (hlive c hcm) hn))]
      exact (hf c hcm).1
  done := by
    intro X eP ew eK hc i pins s σ H E I hf st hg
    subst eP ew eK
    obtain ⟨he, h1⟩ := id st
    obtain ⟨xs, qx, en⟩ := hg
    obtain ⟨us, r1, p1, _⟩ := I.tuple qx
    have l1 := r1.length
    have hh : X.A.handled = none := I.ok.hd hc
    have e2 : us.toArray.size = i := by
      rw [List.size_toArray, ← l1]
      exact en
    refine (GoesN.enumFrom (elts := elts) (x1 := kk) (pos := tpos) 0 (Draws.tuple (prog := X.prog) (w := X.w) (A := X.A.in1) hh N a (Nat.ne_of_lt ha) us.toArray) (N + 1) (Nat.succ_ne_self N) (fun z => ?_) (by simp)).stops s _ E ?_ fun h' tk hk _ => ?_
    · have q : N + 1 = N ∨ N + 1 = a := by simpa using z
      rcases q with q | q
      · exact absurd q (Nat.succ_ne_self N)
      · rw [← q] at ha
        exact absurd (Nat.lt_of_succ_lt ha) (Nat.lt_irrefl _)
    · rw [e2]
      exact ⟨he, h1, p1⟩
    · exact I.turnedL (ch := [N + 1, N]) hk hf
  self := fun A i s Q E st h => by
    obtain ⟨⟨old, he⟩, _⟩ := st
    exact wpAny_pyIter_enum he h
def iEnT (K : PySem.W.Frag) (ta : TA) : TI := fun σ H R => ta σ H fun vs H1 => ∃ a xs, vs = [.ref a] ∧ SqT K H1 a xs ∧ R (ItE K a) H1
theorem pi_enumT {X : Cx} {e : Expr} {ta : TA} {p pos tpos : Pos} {elts : List Expr} {kk : Nat} (hg : Gl X "enumerate") (hm : X.mg "enumerate" = none) (ha : PA X [e] ta) (hs : starEach [e] X.env = [(false, eval e X.env)] := by rfl) :
    PI X (.Tuple elts kk tpos) (.Call (.Name "enumerate" p) [e] [] pos) (iEnT X.K ta) := by
  refine ⟨fun pins s σ H R I h => Call_ (ld_blt I hg hm boot_enumerate (PyProof.Rows.callWith_type1 (thn (ha.run pos pins s σ H _ I h) fun us s1 ⟨vs, H1, I1, rv, a, xs, ev, qx, q⟩ => ?_) hs rfl))⟩
  subst ev
  obtain ⟨u1, rfl, r1⟩ : ∃ u1, us = [u1] ∧ RelV (.ref a) u1 := by
    cases rv with
    | cons p1 t =>
      cases t
      exact ⟨_, rfl, p1⟩
  cases r1
  obtain ⟨us1, _, p1, _⟩ := I1.tuple qx
  have lt : a < s1.heap.objs.size := by
    obtain ⟨_, z, _⟩ := p1
    exact Heap.lt_size z
  refine call_enumT p1 fun h' he h1 hk => wpAny_pyIter_enum he ?_
  have I2 : Inv X pins σ H1 { s1 with heap := h' } := I1.kept (t' := s1.toks) hk
  refine ⟨s1.heap.objs.size + 1, [s1.heap.objs.size + 1, s1.heap.objs.size], _, _, H1, rfl, I2, turn_enT lt, ⟨⟨_, he⟩, h1⟩, fun c hcm => ?_, q⟩
  have hle : s1.heap.objs.size ≤ c := by
    have z : c = s1.heap.objs.size + 1 ∨ c = s1.heap.objs.size := by simpa using hcm
    rcases z with z | z <;> rw [z]
    · exact Nat.le_succ _
    · exact Nat.le_refl _
  exact I1.fpOk hle (I1.hok.fresh hle)
end K19
/-! zip of a tuple and a list -/
namespace K19
open PySem PySem.Spec PyProof.Rows L2
/-- a tuple and a list side by side, in new pairs -/
def It2 (K : PySem.W.Frag) (a b : Addr) : It :=
  ⟨fun i H => ∃ (xs ys : List V) (x y : V), (SqT K H a xs ∧ xs[i]? = some x) ∧ SqL K H b ys ∧ ys[i]? = some y,
    fun i H v H' => ∃ T x y, v = .ref T ∧ H T = none ∧ H' = upd H T (.tup [x, y]) ∧ (∀ xs, SqT K H a xs → xs[i]? = some x) ∧ ∀ ys, SqL K H b ys → ys[i]? = some y,
    fun i H => ∃ (xs ys : List V), SqT K H a xs ∧ SqL K H b ys ∧ min xs.length ys.length = i⟩
abbrev Tn2 (N a b : Addr) : Nat → Heap → Prop := fun i h => IsZip h (N + 4) (N + 2) (N + 3) .none ∧ IsTupOf2 h (N + 2) (.ref N) (.ref (N + 1)) ∧ (∃ x y, IsTupOf2 h (N + 3) x y) ∧ h.IsTupleIter N a i ∧ h.IsListIter (N + 1) b i
abbrev fp2 (N : Addr) : List Addr := [N + 4, N + 2, N + 3, N, N + 1]
theorem sub2 {N c : Addr} (h : c ∈ [N + 4, N + 3, N, N + 1]) : c ∈ fp2 N := by
  simp only [List.mem_cons, List.not_mem_nil, or_false] at h
  rcases h with z | z | z | z <;> rw [z] <;> simp [fp2]
theorem turn_zip2 {P : Program} {w : World} {K : PySem.W.Frag} {elts : List Expr} {kk : Nat} {tpos : Pos} {a b N : Addr} (ha : a < N) (hb : b < N) : Turn P w K (.Tuple elts kk tpos) (It2 K a b) (fp2 N) (N + 4) (Tn2 N a b) where
  mem := List.mem_cons_self
  obj := fun i h st c hc => by
    obtain ⟨hz, hT, ⟨x, y, hO⟩, ⟨o1, e1, _, d1⟩, ⟨o2, e2, _, d2⟩⟩ := st
    have q : c = N + 4 ∨ c = N + 2 ∨ c = N + 3 ∨ c = N ∨ c = N + 1 := by simpa using hc
    rcases q with q | q | q | q | q <;> subst q
    · exact ⟨_, hz, fun v q => nomatch q⟩
    · exact ⟨_, hT, fun v q => nomatch q⟩
    · exact ⟨_, hO, fun v q => nomatch q⟩
    · exact ⟨o1, e1, fun v q => by rw [d1] at q; cases q⟩
    · exact ⟨o2, e2, fun v q => by rw [d2] at q; cases q⟩
  keep := fun i h h' st k => by
    obtain ⟨hz, hT, ⟨x, y, hO⟩, h1, h2⟩ := st
    exact ⟨k _ (by simp) _ hz, k _ (by simp) _ hT, ⟨x, y, k _ (by simp) _ hO⟩, h1.at fun o q => k _ (by simp) o q, h2.at fun o q => k _ (by simp) o q⟩
  item := by
    intro X eP ew eK hc i pins s σ H E I hf st hg
    subst eP ew eK
    obtain ⟨hz, hT, hO, h1, h2⟩ := id st
    obtain ⟨xs, ys, x, y, ⟨qx, gx⟩, qy, gy⟩ := hg
    obtain ⟨us1, r1, p1, _⟩ := I.tuple qx
    obtain ⟨us2, r2, p2, _⟩ := I.list qy
    obtain ⟨u1, e1, t1⟩ := r1.get gx
    obtain ⟨u2, e2, t2⟩ := r2.get gy
    have hlive : ∀ c ∈ fp2 N, c < s.heap.objs.size := fun c hcm => by
      have q : c = N + 4 ∨ c = N + 2 ∨ c = N + 3 ∨ c = N ∨ c = N + 1 := by simpa using hcm
      have hb5 : N + 4 < s.heap.objs.size := Heap.lt_size hz
      rcases q with q | q | q | q | q <;> subst q <;> first | exact hb5 | exact Nat.lt_of_le_of_lt (by omega) hb5
    have i1 : i < us1.length := (List.getElem?_eq_some_iff.mp e1).1
    have i2 : i < us2.length := (List.getElem?_eq_some_iff.mp e2).1
    have hh : X.A.handled = none := I.ok.hd hc
    refine (GoesN.zip2 (elts := elts) (x1 := kk) (pos := tpos) (zip_sep2 (one_lt ha) (one_lt hb)) (Draws.tuple (prog := X.prog) (w := X.w) (A := X.A.in1) hh N a (Nat.ne_of_lt ha) us1.toArray)
      (Draws.list (prog := X.prog) (w := X.w) (A := X.A.in1) hh (N + 1) b (Nat.ne_of_lt (Nat.lt_succ_of_lt hb)) us2.toArray)).goes i s _ E (by simp only [List.size_toArray]; omega)
      ⟨hz, hT, hO, ⟨h1, p1⟩, h2, p2.isList⟩ fun v h' tk ⟨T, v1, v2, ev, hn, g1, g2, hTup⟩ ⟨hz', hT', hO', ⟨h1', _⟩, h2', _⟩ hk _ => ?_
    subst ev
    rw [List.getElem?_toArray, e1] at g1
    rw [List.getElem?_toArray, e2] at g2
    cases g1
    cases g2
    have new : ObjOk X.prog X.w (upd H T (.tup [x, y])) h' T (.tup [x, y]) := ⟨by show 2 ≤ sizeLine; decide, [u1, u2], .cons t1 (.cons t2 .nil), hTup⟩
    have hnT : H T = none := I.hok.fresh hn
    have I2 : Inv X pins σ (upd H T (.tup [x, y])) { s with heap := h', toks := tk } := I.turnedNew (ch := fp2 N) (fun c o hcm q => hk c o (fun zz => hcm (sub2 zz)) q) hf hn new
    refine ⟨.ref T, _, I2, rfl, ⟨T, x, y, rfl, hnT, rfl, fun l hl => by rw [I.tuple_inj hl qx]; exact gx, fun l hl => by rw [I.list_inj hl qy]; exact gy⟩, ⟨hz', hT', hO', h1', h2'⟩, fun c hcm => ?_⟩
    rw [upd_ne (Nat.ne_of_lt (Nat.lt_of_lt_of_le (hlive c hcm) hn))]
    exact (hf c hcm).1
  done := by
    intro X eP ew eK hc i pins s σ H E I hf st hg
    subst eP ew eK
    obtain ⟨hz, hT, hO, h1, h2⟩ := id st
    obtain ⟨xs, ys, qx, qy, he⟩ := hg
    obtain ⟨us1, r1, p1, _⟩ := I.tuple qx
    obtain ⟨us2, r2, p2, _⟩ := I.list qy
    have l1 := r1.length
    have l2 := r2.length
    have hh : X.A.handled = none := I.ok.hd hc
    have en : min us1.toArray.size us2.toArray.size = i := by
      simp only [List.size_toArray]
      rw [← l1, ← l2]
      exact he
    refine (GoesN.zip2 (elts := elts) (x1 := kk) (pos := tpos) (zip_sep2 (one_lt ha) (one_lt hb)) (Draws.tuple (prog := X.prog) (w := X.w) (A := X.A.in1) hh N a (Nat.ne_of_lt ha) us1.toArray)
      (Draws.list (prog := X.prog) (w := X.w) (A := X.A.in1) hh (N + 1) b (Nat.ne_of_lt (Nat.lt_succ_of_lt hb)) us2.toArray)).stops s _ E ?_ fun h' tk hk _ => ?_
    · rw [en]
      exact ⟨hz, hT, hO, ⟨h1, p1⟩, h2, p2.isList⟩
    · exact I.turnedL (ch := fp2 N) (fun c o hcm q => hk c o (fun zz => hcm (sub2 zz)) q) hf
  self := fun A i s Q E st h => wpAny_pyIter_zip st.1 h
def iZipM (K : PySem.W.Frag) (ta : TA) : TI := fun σ H R => ta σ H fun vs H1 => ∃ a b xs ys, vs = [.ref a, .ref b] ∧ SqT K H1 a xs ∧ SqL K H1 b ys ∧ R (It2 K a b) H1
theorem pi_zipM {X : Cx} {e1 e2 : Expr} {ta : TA} {p pos tpos : Pos} {elts : List Expr} {kk : Nat} (hg : Gl X "zip") (hm : X.mg "zip" = none) (ha : PA X [e1, e2] ta)
    (hs : starEach [e1, e2] X.env = (false, eval e1 X.env) :: starEach [e2] X.env := by rfl) (hpl : (backTo pos (starEach [e2] X.env)).any (·.1) = false := by rfl) :
    PI X (.Tuple elts kk tpos) (.Call (.Name "zip" p) [e1, e2] [] pos) (iZipM X.K ta) := by
  refine ⟨fun pins s σ H R I h => Call_ (ld_blt I hg hm PyProof.Rows.boot_zip (PyProof.Rows.callWith_type1 (thn (ha.run pos pins s σ H _ I h) fun us s1 ⟨vs, H1, I1, rv, q1⟩ => ?_) hs hpl))⟩
  obtain ⟨a, b, xs, ys, ev, qx, qy, q⟩ := q1
  subst ev
  obtain ⟨u1, u2, rfl, r1, r2⟩ : ∃ u1 u2, us = [u1, u2] ∧ RelV (.ref a) u1 ∧ RelV (.ref b) u2 := by
    cases rv with
    | cons p1 t =>
      cases t with
      | cons p2 t =>
        cases t
        exact ⟨_, _, rfl, p1, p2⟩
  cases r1
  cases r2
  obtain ⟨us1, _, p1, _⟩ := I1.tuple qx
  obtain ⟨us2, _, p2, _⟩ := I1.list qy
  have l1 : a < s1.heap.objs.size := by
    obtain ⟨_, z, _⟩ := p1
    exact Heap.lt_size z
  have l2 : b < s1.heap.objs.size := by
    obtain ⟨_, z, _⟩ := p2.isList
    exact Heap.lt_size z
  refine zip_begins2 (begins_tuple a us1.toArray) (begins_list b us2.toArray) p1 p2.isList fun h' hz hT hO g1 g2 _ hk => wpAny_pyIter_zip hz ?_
  have I2 : Inv X pins σ H1 { s1 with heap := h' } := I1.kept (t' := s1.toks) hk
  refine ⟨_, fp2 s1.heap.objs.size, _, _, H1, rfl, I2, turn_zip2 l1 l2, ⟨hz, hT, ⟨_, _, hO⟩, ⟨_, g1, rfl, rfl⟩, ⟨_, g2, rfl, rfl⟩⟩, fun c hcm => ?_, q⟩
  have hle : s1.heap.objs.size ≤ c := by
    simp only [fp2, List.mem_cons, List.not_mem_nil, or_false] at hcm
    rcases hcm with z | z | z | z | z <;> rw [z] <;> first | exact Nat.le_refl _ | exact Nat.le_add_right _ _
  exact I1.fpOk hle (I1.hok.fresh hle)
end K19
/-! sets of readings -/
namespace K19
open PySem PySem.Spec PyProof.Rows L2
/-- a reading as a key -/
def Rd.nk (r : Rd) : NestedKey := .tup [.num r.x, .num r.y, .tup (r.st.map .num)]
theorem nums_inj : ∀ {xs ys : List Int}, xs.map NestedKey.num = ys.map NestedKey.num → xs = ys
  | [], [], _ => rfl
  | [], _ :: _, h => by cases h
  | _ :: _, [], h => by cases h
  | x :: xs, y :: ys, h => by
    rw [List.map_cons, List.map_cons] at h
    injection h with h1 h2
    injection h1 with h1
    rw [h1, nums_inj h2]
theorem Rd.nk_inj {r q : Rd} (h : r.nk = q.nk) : r = q := by
  unfold Rd.nk at h
  injection h with h
  injection h with h1 h
  injection h with h2 h
  injection h with h3 _
  injection h1 with h1
  injection h2 with h2
  injection h3 with h3
  have h4 := nums_inj h3
  cases r
  cases q
  dsimp only at h1 h2 h4
  rw [h1, h2, h4]
theorem nums_depth : ∀ xs : List Int, NestedKey.depthAll (xs.map .num) = 0
  | [] => rfl
  | x :: xs => by
    rw [List.map_cons, NestedKey.depthAll, nums_depth xs]
    rfl
theorem Rd.nk_depth (r : Rd) : r.nk.depth ≤ 2 := by
  simp only [Rd.nk, NestedKey.depth, NestedKey.depthAll, nums_depth]
  omega
abbrev hR (w : World) (r : Rd) : Int := r.nk.hash w
def IsR (h : Heap) (r : Rd) (a : Addr) : Prop := NestedIs h r.nk (.ref a)
theorem IsR.stay {h h' : Heap} {r : Rd} {a : Addr} (x : IsR h r a) (k : ∀ c o, h.get? c = some o → h'.get? c = some o) : IsR h' r a := NestedIs.at (fun c o _ _ e _ => k c o e) _ _ x
theorem IsR.one {h : Heap} {r q : Rd} {a : Addr} (x : IsR h r a) (y : IsR h q a) : r = q := Rd.nk_inj (NestedIs.inj _ _ _ x y)
/-- all but a set's cell stands -/
theorem IsR.past {h h' : Heap} {r : Rd} {a b : Addr} {o : Obj} {es : Array (Int × Value)} {ep : Nat} {t : SetTable} (x : IsR h r b) (ho : h.get? a = some o) (hd : o.data = .set es ep t) (sb : Heap.SameBut a h h') : IsR h' r b :=
  NestedIs.at (fun c oc vs n e ed => by
    have ne : c ≠ a := fun z => by
      rw [z, ho] at e
      cases e
      rw [hd] at ed
      cases ed
    exact (sb.2 c ne).trans e) _ _ x
section
variable {P : Program} {w : World} {A : Around} {E : Value → Shared → Prop} {s : Shared}
theorem hash_rd {r : Rd} {a : Addr} {Q : Int → Shared → Prop} (hu : A.units + 8 < cLine) (x : IsR s.heap r a) (h : Q (hR w r) { s with toks := s.toks + r.nk.draws }) : wpAny (model P w) A (pyHash (.ref a)) Q E s :=
  (nestedKind P w).pyHash hu ⟨x, Nat.le_trans r.nk_depth (by decide)⟩ h
theorem eq_rd {r q : Rd} {a b : Addr} {Q : Bool → Shared → Prop} (hu : A.units + 8 < cLine) (x : IsR s.heap r a) (y : IsR s.heap q b) (h : Q (decide (r = q)) s) : wpAny (model P w) A (eqBool (.ref a) (.ref b)) Q E s := by
  refine (nestedKind P w).eqBool hu ⟨x, Nat.le_trans r.nk_depth (by decide)⟩ ⟨y, Nat.le_trans q.nk_depth (by decide)⟩ ?_
  have e : decide (r.nk = q.nk) = decide (r = q) := by
    by_cases c : r = q
    · rw [c, decide_eq_true rfl, decide_eq_true rfl]
    · rw [decide_eq_false c, decide_eq_false fun z => c (Rd.nk_inj z)]
  rw [e]
  exact h
theorem quiet_rd {r : Rd} {a : Addr} {Q : Bool → Shared → Prop} (x : IsR s.heap r a) (h : Q true s) : wpAny (model P w) A (eqIsQuiet 8 (.ref a)) Q E s := (nestedKind P w).quiet ⟨x, Nat.le_trans r.nk_depth (by decide)⟩ h
/-- of no class statement; a hash by value: n levels down -/
def NoCls (n : Nat) (s : Shared) (v : Value) : Prop := ∀ (P : Program) (w : World) (A : Around) (E : Value → Shared → Prop) (Q : Bool → Shared → Prop), Q false s → wpAny (model P w) A (ofAClassStatement n v) Q E s
def ByVal (n : Nat) (s : Shared) (v : Value) : Prop := ∀ (P : Program) (w : World) (A : Around) (E : Value → Shared → Prop) (Q : Bool → Shared → Prop), Q true s → wpAny (model P w) A (hashByValue n v) Q E s
theorem NoCls.tup {n m : Nat} {a : Addr} {o : Obj} {vs : Array Value} (ho : s.heap.get? a = some o) (hc : o.cls = .type "tuple") (hd : o.data = .seq vs m) (hv : ∀ v ∈ vs.toList, NoCls n s v) : NoCls (n + 1) s (.ref a) := fun P w A E Q h => by
  unfold ofAClassStatement
  have hT : s.TypeIs (.ref a) "tuple" := ⟨o, ho, hc⟩
  refine wpAny_bind (wpAny_typeOf hT ?_)
  dsimp only
  simp only [show (("tuple" : String) == "tuple") = true by decide, if_true, Bool.not_true, Bool.false_eq_true, if_false]
  try refine wpAny_bind (wpAny_pure ?_)
  try simp only [Bool.not_true, Bool.false_eq_true, if_false]
  show wpAny _ _ (seqItems? (.ref a) >>= _) _ _ s
  refine wpAny_bind (wpAny_seqItems ho hd ?_)
  dsimp only
  refine wpAny_bind ?_
  show wpAny _ _ (forIn vs _ _) _ _ s
  rw [← Array.forIn_toList]
  refine wpAny_forIn_list _ (fun left r s2 => s2 = s ∧ r.1 = none ∧ ∀ v ∈ left, NoCls n s v) _ (fun v left r s2 ⟨e, hr, all⟩ => ?_) (fun r s2 ⟨e, hr, _⟩ => ?_) _ _ ⟨rfl, rfl, hv⟩
  · subst e
    refine wpAny_bind (all v List.mem_cons_self P w A E _ ?_)
    simp only [Bool.false_eq_true, if_false]
    exact wpAny_pure ⟨rfl, rfl, fun u hu => all u (List.mem_cons_of_mem _ hu)⟩
  · obtain ⟨r1, r2⟩ := r
    dsimp only at hr
    subst hr e
    exact wpAny_pure h
theorem ByVal.tup {n m : Nat} {a : Addr} {o : Obj} {vs : Array Value} (ho : s.heap.get? a = some o) (hc : o.cls = .type "tuple") (hd : o.data = .seq vs m) (hv : ∀ v ∈ vs.toList, ByVal n s v) : ByVal (n + 1) s (.ref a) := fun P w A E Q h => by
  unfold hashByValue
  have hT : s.TypeIs (.ref a) "tuple" := ⟨o, ho, hc⟩
  refine wpAny_bind (wpAny_specialOf hT F.slot_tuple_hash.lookup ?_)
  show wpAny _ _ (seqItems? (.ref a) >>= _) _ _ s
  refine wpAny_bind (wpAny_seqItems ho hd ?_)
  refine wpAny_bind ?_
  show wpAny _ _ (forIn vs _ _) _ _ s
  rw [← Array.forIn_toList]
  refine wpAny_forIn_list _ (fun left r s2 => s2 = s ∧ r.1 = none ∧ ∀ v ∈ left, ByVal n s v) _ (fun v left r s2 ⟨e, hr, all⟩ => ?_) (fun r s2 ⟨e, hr, _⟩ => ?_) _ _ ⟨rfl, rfl, hv⟩
  · subst e
    refine wpAny_bind (all v List.mem_cons_self P w A E _ ?_)
    simp only [Bool.not_true, Bool.false_eq_true, if_false]
    exact wpAny_pure ⟨rfl, rfl, fun u hu => all u (List.mem_cons_of_mem _ hu)⟩
  · obtain ⟨r1, r2⟩ := r
    dsimp only at hr
    subst hr e
    exact wpAny_pure h
theorem num_two {i : Int} {v : Value} {h : Heap} (x : NestedIs h (.num i) v) (n : Nat) : (∀ s, NoCls n s v) ∧ ∀ s, ByVal n s v := by
  cases x with
  | bool e => exact ⟨fun s P w A E Q q => by cases n <;> exact wpAny_pure q, fun s P w A E Q q => by cases n <;> exact wpAny_pure q⟩
  | int _ t => exact ⟨fun s P w A E Q q => by cases n <;> exact wpAny_pure q, fun s P w A E Q q => by cases n <;> exact wpAny_pure q⟩
theorem nums_two (n : Nat) (s : Shared) : ∀ {xs : List Int} {vs : List Value}, NestedAll s.heap (xs.map .num) vs → ∀ v ∈ vs, NoCls n s v ∧ ByVal n s v
  | [], _, h, v, hv => by
    cases h
    cases hv
  | x :: xs, _, h, v, hv => by
    cases h with
    | cons h1 h2 =>
      rcases List.mem_cons.mp hv with e | hv
      · rw [e]
        exact ⟨(num_two h1 n).1 s, (num_two h1 n).2 s⟩
      · exact nums_two n s h2 v hv
theorem IsR.two {r : Rd} {a : Addr} (x : IsR s.heap r a) (n : Nat) : NoCls (n + 2) s (.ref a) ∧ ByVal (n + 2) s (.ref a) := by
  have go : ∀ v ∈ ([] : List Value), NoCls (n + 1) s v ∧ ByVal (n + 1) s v := fun v hv => by cases hv
  unfold IsR Rd.nk at x
  cases x with
  | @tup _ o vs m _ ho hc hd hk =>
    have all : ∀ v ∈ vs.toList, NoCls (n + 1) s v ∧ ByVal (n + 1) s v := by
      cases e : vs.toList with
      | nil => rw [e] at hk; cases hk
      | cons v1 l =>
        rw [e] at hk
        cases hk with
        | cons h1 hk =>
          cases hk with
          | cons h2 hk =>
            cases hk with
            | cons h3 hk =>
              cases hk
              intro v hv
              rcases List.mem_cons.mp hv with z | hv
              · rw [z]
                exact ⟨(num_two h1 _).1 s, (num_two h1 _).2 s⟩
              rcases List.mem_cons.mp hv with z | hv
              · rw [z]
                exact ⟨(num_two h2 _).1 s, (num_two h2 _).2 s⟩
              rw [List.mem_singleton.mp hv]
              cases h3 with
              | tup ho3 hc3 hd3 hk3 => exact ⟨.tup ho3 hc3 hd3 fun v hv => (nums_two n s hk3 v hv).1, .tup ho3 hc3 hd3 fun v hv => (nums_two n s hk3 v hv).2⟩
    exact ⟨.tup ho hc hd fun v hv => (all v hv).1, .tup ho hc hd fun v hv => (all v hv).2⟩
/-- a search among readings shows nothing -/
theorem seen_rd {r : Rd} {b : Addr} {Q : Bool → Shared → Prop} (x : IsR s.heap r b) {ys : List Value} (hy : ∀ y ∈ ys, ∃ q c, y = Value.ref c ∧ IsR s.heap q c) (h : Q false s) : wpAny (model P w) A (searchCouldBeSeen (.ref b) ys) Q E s := by
  unfold searchCouldBeSeen
  refine wpAny_bind ?_
  refine wpAny_forIn_list _ (fun left r s2 => s2 = s ∧ r.1 = none ∧ ∀ y ∈ left, ∃ q c, y = Value.ref c ∧ IsR s.heap q c) _ (fun v left r s2 ⟨e, hr, all⟩ => ?_) (fun r s2 ⟨e, hr, _⟩ => ?_) _ _ ⟨rfl, rfl, hy⟩
  · subst e
    obtain ⟨q, c, rfl, hc⟩ := all v List.mem_cons_self
    have more := fun u hu => all u (List.mem_cons_of_mem _ hu)
    dsimp only
    by_cases hv : (b == c || (carriedByValue (.ref b) && carriedByValue (.ref c))) = true
    · exact wp_if_pos hv (wpAny_pure ⟨rfl, rfl, more⟩)
    · refine wp_if_neg hv (wpAny_bind (quiet_rd x ?_))
      simp only [Bool.not_true, Bool.false_eq_true, if_false]
      refine wpAny_bind (quiet_rd hc ?_)
      simp only [Bool.not_true, Bool.false_eq_true, if_false]
      refine wpAny_bind ((x.two 6).1 P w A E _ ?_)
      simp only [Bool.false_eq_true, if_false]
      refine wpAny_bind ((hc.two 6).1 P w A E _ ?_)
      simp only [Bool.false_eq_true, if_false]
      exact wpAny_pure ⟨rfl, rfl, more⟩
  · obtain ⟨r1, r2⟩ := r
    dsimp only at hr
    subst hr e
    exact wpAny_pure h
end
end K19
/-! the set of readings: search, add -/
namespace K19
open PySem PySem.Spec PyProof.Rows L2
abbrev rowR (k : Rd → Int) (p : Addr × Rd) : Int × Value := (k p.2, .ref p.1)
abbrev rowsR (k : Rd → Int) (L : List (Addr × Rd)) : List (Int × Value) := L.map (rowR k)
abbrev hsR (k : Rd → Int) (L : List (Addr × Rd)) : List Int := L.map fun p => k p.2
/-- the set at a: what it holds in the table's order -/
structure SetR (w : World) (k : Rd → Int) (h : Heap) (a : Addr) (L : List (Addr × Rd)) (es : Array (Int × Value)) (ep : Nat) (t : SetTable) : Prop where
  obj : ∃ o, h.get? a = some o ∧ o.ExactSet ∧ o.data = .set es ep t
  rows : es.toList = rowsR k L
  tab : TabOk t (hsR k L)
  once : (L.map (·.2)).Nodup
  keys : ∀ p ∈ L, IsR h p.2 p.1
  plain : t.plain = true
  led : w.params.followText "set-order" = true ∨ t.led = true
  room : L.length * 5 < t.mask * 3
  few : L.length < 64
theorem rows_size {k : Rd → Int} {es : Array (Int × Value)} {L : List (Addr × Rd)} (e : es.toList = rowsR k L) : es.size = L.length := by
  rw [← Array.length_toList, e, List.length_map]
theorem fits_of {t : SetTable} {n : Nat} (h1 : t.place.size = n) (h2 : t.dummies = #[]) (h3 : n ≤ t.mask) : t.fits n = true := by
  unfold SetTable.fits SetTable.fill
  rw [h2, Bool.and_eq_true, beq_iff_eq, decide_eq_true_eq]
  refine ⟨h1, ?_⟩
  show t.place.size + 0 ≤ t.mask
  omega
section
variable {P : Program} {w : World} {k : Rd → Int} {A : Around} {E : Value → Shared → Prop} {s : Shared} {a : Addr} {L : List (Addr × Rd)} {es : Array (Int × Value)} {ep : Nat} {t : SetTable}
theorem SetR.size {h : Heap} (R : SetR w k h a L es ep t) : es.size = L.length := rows_size R.rows
theorem SetR.places {h : Heap} (R : SetR w k h a L es ep t) : t.place.size = L.length := by
  have e := R.tab.sz
  rw [List.length_map] at e
  exact e
theorem SetR.fit {h : Heap} (R : SetR w k h a L es ep t) : t.fits es.size = true := by
  have z := R.room
  exact fits_of (by rw [R.places, R.size]) R.tab.dm (by rw [R.size]; omega)
theorem SetR.at_ {h : Heap} (R : SetR w k h a L es ep t) {i : Nat} {p : Addr × Rd} (e : L[i]? = some p) : es[i]? = some (rowR k p) := by
  rw [← Array.getElem?_toList, R.rows, List.getElem?_map, e]
  rfl
theorem SetR.nogw {h : Heap} (R : SetR w k h a L es ep t) : ¬ t.gaveWay = true := by
  unfold SetTable.gaveWay
  rw [mask_odd R.tab.mok]
  exact of_decide_eq_true rfl
/-- step c of the way of a hash -/
abbrev stepW (m : Nat) (h : Int) (c : Nat) : SetTable.Probe := nth m (runAt m (SetTable.bits h % (m + 1)) (SetTable.bits h)) c
theorem stepW_clean (m : Nat) (h : Int) (c : Nat) : (stepW m h c).dummy = none := by
  have go : ∀ (n : Nat) (p : SetTable.Probe), p.dummy = none → (nth m p n).dummy = none := by
    intro n
    induction n with
    | zero => exact fun p z => z
    | succ n ih =>
      intro p z
      refine ih _ ?_
      unfold adv
      split
      · exact z
      · exact z
  exact go c _ rfl
theorem stepW_on (m : Nat) (h : Int) (c q : Nat) : nth m (stepW m h c) q = stepW m h (c + q) := (nth_add m c _ q).symm
theorem memory_same (t : SetTable) : t.sameMemory t.moves t.mask = some true := by
  unfold SetTable.sameMemory
  exact if_pos (beq_self_eq_true _)
abbrev hAt (es : Array (Int × Value)) : Nat → Int := fun i => (es[i]?.map (·.1)).getD 0
/-- what lies ahead of step c, up to the first empty slot at K -/
structure Ahead (k : Rd → Int) (L : List (Addr × Rd)) (t : SetTable) (r : Rd) (K c : Nat) : Prop where
  le : c ≤ K
  hit : ∀ (i : Nat) p, L[i]? = some p → p.2 = r → ∃ d, c ≤ d ∧ d < K ∧ t.place.toList[i]? = some (way t.mask (k r) d)
theorem find_rd (R : SetR w k s.heap a L es ep t) {x : Addr} {r : Rd} (hx : IsR s.heap r x) (hu : A.units + 8 < cLine) {K : Nat} (k1 : K < 10 * SetTable.turns t.mask) (k2 : way t.mask (k r) K ∉ t.place.toList)
    (k3 : ∀ c, c < K → way t.mask (k r) c ∈ t.place.toList) {Q : SetFound → Shared → Prop} (yes : r ∈ L.map (·.2) → Q (.there none) s) (no : r ∉ L.map (·.2) → Q (.free (way t.mask (k r) K) false) s) :
    ∀ (f c : Nat) (st : Option SetTable.Probe), st.getD (t.probeStart (k r)) = stepW t.mask (k r) c → K - c < f → Ahead k L t r K c → wpAny (model P w) A (setSearchFrom a (.ref x) (k r) true f st) Q E s := by
  intro f
  induction f with
  | zero => exact fun _ _ _ z _ => absurd z (Nat.not_lt_zero _)
  | succ f ih =>
    intro c st es0 hf ah
    obtain ⟨o, ho, hex, hd⟩ := R.obj
    have hcK := ah.le
    rw [setSearchFrom_succ]
    refine wpAny_bind (wpAny_setState_of ho hd R.fit ?_)
    dsimp only
    refine wp_if_neg R.nogw ?_
    try refine wpAny_bind (wpAny_pure ?_)
    have hsL : ∀ (i : Nat) p, L[i]? = some p → hAt es i = k p.2 := fun i p e => by
      show (es[i]?.map (·.1)).getD 0 = _
      rw [R.at_ e]
      rfl
    have wy : ∀ q, (nth t.mask (stepW t.mask (k r) c) q).j = way t.mask (k r) (c + q) := fun q => congrArg SetTable.Probe.j (stepW_on t.mask (k r) c q)
    have wK : (nth t.mask (stepW t.mask (k r) c) (K - c)).j = way t.mask (k r) K := by rw [wy, Nat.add_sub_cancel' hcK]
    have met := go_spec t R.tab.ris R.tab.dm (hAt es) (k r) (10 * SetTable.turns t.mask) (K - c) _ (stepW_clean t.mask (k r) c) (by omega) (fun q hq => by rw [wy]; exact k3 _ (by omega)) (by rw [wK]; exact k2)
    have ahead0 : ∀ i p, L[i]? = some p → p.2 = r → hAt es i = k r := fun i p e z => by rw [hsL i p e, z]
    rcases met with ⟨q, i, hq, hi, hh, hno, pr⟩ | ⟨hno, pr⟩
    · have pr2 : t.probe (fun i => (es[i]?.map (·.1)).getD 0) (k r) (st.getD (t.probeStart (k r))) = some (.candidate (way t.mask (k r) (c + q)) i (stepW t.mask (k r) (c + (q + 1)))) := by
        rw [es0, ← wy, ← stepW_on]
        exact pr
      rw [pr2]
      dsimp only
      rw [wy] at hi
      have il : i < L.length := by
        have z := (List.getElem?_eq_some_iff.mp hi).1
        rw [Array.length_toList, R.places] at z
        exact z
      obtain ⟨p, hp⟩ : ∃ p, L[i]? = some p := ⟨_, List.getElem?_eq_getElem il⟩
      have pm := List.mem_of_getElem? hp
      have tail : wpAny (model P w) A (searchRest a (.ref x) (k r) true f es t (way t.mask (k r) (c + q)) i (stepW t.mask (k r) (c + (q + 1)))) Q E s := by
        unfold searchRest
        rw [R.at_ hp]
        dsimp only
        refine wpAny_bind (wpAny_holding (eq_rd hu (R.keys p pm) hx ?_))
        refine wpAny_bind (wpAny_setState_of ho hd R.fit ?_)
        dsimp only
        by_cases same : p.2 = r
        · exact wp_if_pos (by rw [same]; simp) (wpAny_pure (yes (List.mem_map.mpr ⟨p, pm, same⟩)))
        · have nb : ¬ decide (p.2 = r) = true := fun z => same (of_decide_eq_true z)
          refine wp_if_neg (by rw [decide_eq_false same]; simp) ?_
          try refine wpAny_bind (wpAny_pure ?_)
          rw [memory_same]
          dsimp only
          have live := slot_live R.tab.ris hi
          simp only [if_true, live, R.at_ hp]
          refine wpAny_bind (wpAny_isSame_ref_self (wpAny_bind (wpAny_pure ?_)))
          simp only [if_true]
          refine wp_if_neg nb ?_
          refine ih (c + (q + 1)) (some (stepW t.mask (k r) (c + (q + 1)))) rfl (by omega) ⟨by omega, fun j p1 e1 z1 => ?_⟩
          obtain ⟨d, d1, d2, d3⟩ := ah.hit j p1 e1 z1
          refine ⟨d, ?_, d2, d3⟩
          rcases Nat.lt_trichotomy d (c + q) with g | g | g
          · refine absurd (ahead0 j p1 e1 z1) (hno (d - c) j (by omega) ?_)
            rw [wy, Nat.add_sub_cancel' d1]
            exact d3
          · subst g
            have l2 := slot_live R.tab.ris d3
            rw [live] at l2
            injection l2 with l2
            rw [← l2, hp] at e1
            cases e1
            exact absurd z1 same
          · omega
      by_cases hl : t.led = true
      · refine wp_if_neg (by rw [hl]; simp) ?_
        try refine wpAny_bind (wpAny_pure ?_)
        exact tail
      · refine wp_if_pos (by simp [hl]) (wpAny_bind (seen_rd hx (fun y hy => ?_) ?_))
        · obtain ⟨e, he, rfl⟩ := List.mem_map.mp hy
          have h1 : e ∈ es ∧ e.1 = k r := by simpa using he
          have h2 : e ∈ es.toList := Array.mem_toList_iff.mpr h1.1
          rw [R.rows] at h2
          obtain ⟨p2, m2, rfl⟩ := List.mem_map.mp h2
          exact ⟨p2.2, p2.1, rfl, R.keys p2 m2⟩
        · refine wp_if_neg Bool.false_ne_true ?_
          try refine wpAny_bind (wpAny_pure ?_)
          exact tail
    · have pr2 : t.probe (fun i => (es[i]?.map (·.1)).getD 0) (k r) (st.getD (t.probeStart (k r))) = some (.empty (way t.mask (k r) K) none) := by
        rw [es0, ← wK]
        exact pr
      rw [pr2]
      dsimp only
      refine wpAny_pure (no fun hm => ?_)
      obtain ⟨p, pm, pr⟩ := List.mem_map.mp hm
      obtain ⟨j, e1⟩ := List.mem_iff_getElem?.mp pm
      obtain ⟨d, d1, d2, d3⟩ := ah.hit j p e1 pr
      refine hno (d - c) j (by omega) ?_ (ahead0 j p e1 pr)
      rw [wy, Nat.add_sub_cancel' d1]
      exact d3
theorem search_rd (R : SetR w k s.heap a L es ep t) {x : Addr} {r : Rd} (hx : IsR s.heap r x) (hu : A.units + 8 < cLine) {Q : SetFound → Shared → Prop} (yes : r ∈ L.map (·.2) → Q (.there none) s)
    (no : ∀ K, r ∉ L.map (·.2) → way t.mask (k r) K ∉ t.place.toList → (∀ c, c < K → way t.mask (k r) c ∈ t.place.toList) → Q (.free (way t.mask (k r) K) false) s) :
    wpAny (model P w) A (setSearch a (.ref x) (k r) true) Q E s := by
  have room := R.room
  obtain ⟨K, k1, k2, k3⟩ := R.tab.first (by rw [List.length_map]; omega) (k r)
  have small : 10 * SetTable.turns t.mask ≤ 2000 := by
    unfold SetTable.turns
    rcases R.tab.mok with z | z | z <;> omega
  unfold setSearch
  refine find_rd R hx hu k1 k2 k3 yes (fun z => no K z k2 k3) 100000 0 none rfl (by omega) ⟨Nat.zero_le _, fun i p e z => ?_⟩
  have il : i < t.place.toList.length := by
    rw [Array.length_toList, R.places]
    exact (List.getElem?_eq_some_iff.mp e).1
  obtain ⟨d, d1, d2⟩ := R.tab.before (h := k r) k2 (by rw [List.getElem?_map, e, ← z]; rfl) (List.getElem?_eq_getElem il)
  exact ⟨d, Nat.zero_le _, d1, by rw [List.getElem?_eq_getElem il, d2]⟩
end
end K19
namespace K19
open PySem PySem.Spec PyProof.Rows L2
theorem all_places {α : Type} : ∀ L : List α, (List.range L.length).filterMap (fun i => L[i]?) = L := by
  intro L
  have go : ∀ n, n ≤ L.length → (List.range n).filterMap (fun i => L[i]?) = L.take n := by
    intro n
    induction n with
    | zero => exact fun _ => rfl
    | succ n ih =>
      intro h
      rw [List.range_succ, List.filterMap_append, ih (Nat.le_of_succ_le h), List.take_succ]
      cases e : L[n]? with
      | none => simp [e]
      | some x => simp [e]
  rw [go _ (Nat.le_refl _), List.take_length]
theorem map_put {α β : Type} (f : α → β) (L : List α) (j : Nat) (x : α) : (L.map f).take j ++ f x :: (L.map f).drop j = (L.take j ++ x :: L.drop j).map f := by
  rw [List.map_append, List.map_cons, List.map_take, List.map_drop]
theorem picked {α β γ : Type} (f : α → β) (u : β → γ) (z : γ) {L : List α} {es : Array β} (h : es.toList = L.map f) : ∀ ord : List Nat, (∀ i ∈ ord, i < L.length) →
    ord.filterMap (fun i => es[i]?) = (ord.filterMap fun i => L[i]?).map f ∧ (ord.filterMap fun i => L[i]?).map (fun x => u (f x)) = ord.map fun i => (es.map u).getD i z
  | [], _ => ⟨rfl, rfl⟩
  | i :: ord, hl => by
    obtain ⟨h1, h2⟩ := picked f u z h ord fun j hj => hl j (List.mem_cons_of_mem _ hj)
    have il := hl i List.mem_cons_self
    have e1 : L[i]? = some L[i] := List.getElem?_eq_getElem il
    have e2 : es[i]? = some (f L[i]) := by
      rw [← Array.getElem?_toList, h, List.getElem?_map, e1]
      rfl
    have e3 : (es.map u).getD i z = u (f L[i]) := by
      rw [Array.getD_eq_getD_getElem?, Array.getElem?_map, e2]
      rfl
    rw [List.filterMap_cons_some e2, List.filterMap_cons_some e1, List.map_cons, List.map_cons, List.map_cons, h1, h2, e3]
    exact ⟨rfl, rfl⟩
section
variable {P : Program} {w : World} {k : Rd → Int} {A : Around} {E : Value → Shared → Prop} {s : Shared} {a : Addr} {L : List (Addr × Rd)} {es : Array (Int × Value)} {ep : Nat} {t : SetTable}
/-- the table laid anew -/
theorem relay_rd {o : Obj} (ho : s.heap.get? a = some o) (hx : o.ExactSet) (hd : o.data = .set es ep t) (rows : es.toList = rowsR k L) (p1 : t.place.size = L.length) (p2 : t.dummies = #[]) (p3 : L.length ≤ t.mask) (once : (L.map (·.2)).Nodup)
    (keys : ∀ p ∈ L, IsR s.heap p.2 p.1) (pl : t.plain = true) (ld : w.params.followText "set-order" = true ∨ t.led = true) (few : L.length < 64) {n M : Nat} (m1 : SetTable.sizeAbove n - 1 = M) (m2 : MaskOk M) (m3 : SetTable.sizeAbove n ≤ 128)
    (m4 : L.length * 5 < M * 3) {Q : Unit → Shared → Prop} (q : ∀ h' L' es' ep' t', Heap.SameBut a s.heap h' → SetR w k h' a L' es' ep' t' → L'.Perm L → Q () { s with heap := h' }) : wpAny (model P w) A (setRelay a n) Q E s := by
  have z := rows_size rows
  obtain ⟨t2, ord, e, op, T, f1, f2, f3, f4⟩ := relaid_ok t (hs := es.map (·.1)) (wanted := n) m1 m2 (by rw [Array.size_map, z]; omega)
  rw [Array.size_map, z] at op
  obtain ⟨g1, g2⟩ := picked (rowR k) (fun x : Int × Value => x.1) 0 rows ord.toList fun i hi => List.mem_range.mp (op.mem_iff.mp hi)
  have pm : (ord.toList.filterMap fun i => L[i]?).Perm L := by
    have y := op.filterMap (fun i => L[i]?)
    rw [all_places] at y
    exact y
  generalize (ord.toList.filterMap fun i => L[i]?) = L2 at g1 g2 pm
  rw [← g2] at T
  have rows2 : (ord.filterMap (es[·]?)).toList = rowsR k L2 := by
    rw [Array.toList_filterMap]
    exact g1
  have z2 : (ord.filterMap (es[·]?)).size = es.size := by rw [rows_size rows2, pm.length_eq, z]
  rw [setRelay_eq]
  refine wpAny_bind (wpAny_setState_of ho hd (by rw [z]; exact fits_of p1 p2 p3) ?_)
  dsimp only
  refine wp_if_neg (by rw [sizeLine_eq]; omega) ?_
  try refine wpAny_bind (wpAny_pure ?_)
  rw [e]
  dsimp only
  refine wpAny_bind (wp_if_neg (by rw [z2]; simp) ?_)
  try refine wpAny_bind (wpAny_pure ?_)
  refine wpAny_pure ?_
  dsimp only
  refine wpAny_storeSet_of ho hd ?_ (by rw [z2, z, sizeLine_eq]; omega)
  have sb : Heap.SameBut a s.heap (s.heap.update a (Obj.putSet (ord.filterMap (es[·]?)) t2)) := Heap.SameBut.update ..
  refine q _ L2 (ord.filterMap (es[·]?)) (ep + 1) t2 sb ⟨⟨_, store_at ho hd, ⟨hx.1, hx.2.1, hx.2.2⟩, rfl⟩, rows2, T, (pm.map (·.2)).nodup_iff.mpr once, fun p hp => (keys p (pm.mem_iff.mp hp)).past ho hd sb, by rw [f3]; exact pl, by rw [f2]; exact ld, ?_, by rw [pm.length_eq]; exact few⟩ pm
  rw [pm.length_eq, f1]
  exact m4
/-- one reading is added -/
theorem add_rd (R : SetR w (hR w) s.heap a L es ep t) {x : Addr} {r : Rd} (hx : IsR s.heap r x) (hu : A.units + 8 < cLine) (few : L.length + 1 < 64) {Q : Bool → Shared → Prop}
    (q : ∀ b h' L' es' ep' t', Heap.SameBut a s.heap h' → SetR w (hR w) h' a L' es' ep' t' → (r ∈ L.map (·.2) → L' = L) → (r ∉ L.map (·.2) → L'.Perm ((x, r) :: L)) → Q b { s with heap := h' }) :
    wpAny (model P w) A (setAddHashed a (.ref x) (hR w r)) Q E s := by
  obtain ⟨o, ho, hex, hd⟩ := R.obj
  have z := R.size
  have room := R.room
  have by8 : ∀ {s' : Shared}, IsR s'.heap r x → ByVal 8 s' (.ref x) := fun y => (y.two 6).2
  unfold setAddHashed
  refine wpAny_holding ?_
  rw [show (100000 : Nat) = 99999 + 1 from rfl, setAddHashedIn_succ]
  refine wpAny_bind (wpAny_setState_of ho hd R.fit ?_)
  dsimp only
  refine wp_if_neg (by simp [byScan, Value.scannable]) ?_
  try refine wpAny_bind (wpAny_pure ?_)
  refine wpAny_bind (search_rd R hx hu (fun hm => ?_) fun K hm w1 w2 => ?_)
  · dsimp only
    exact wpAny_pure (q false _ L es ep t (Heap.SameBut.refl a _) R (fun _ => rfl) fun y => absurd hm y)
  dsimp only
  refine wpAny_bind (wpAny_setState_of ho hd R.fit ?_)
  dsimp only
  obtain ⟨c1, c2, c3, c4, c5, c6, c7, c8, c9⟩ := R.tab.put w1 w2
  have pl1 : (t.put (way t.mask (hR w r) K)).1.plain = true := by
    rw [c6]
    exact R.plain
  generalize hpt : t.put (way t.mask (hR w r) K) = pt at c1 c3 c4 c5 c6 c7 c8 c9 pl1 ⊢
  obtain ⟨t1, j⟩ := pt
  dsimp only at c1 c3 c4 c5 c6 c7 c8 c9 pl1 ⊢
  subst c1
  first
    | (refine wpAny_bind ?_; refine wp_if_pos pl1 ?_; refine by8 hx P w _ _ _ ?_)
    | refine wp_if_pos pl1 (wpAny_bind (by8 hx P w _ _ _ ?_))
  simp only [if_true]
  have ins : (SetTable.insertAt es (SetTable.below t.place (way t.mask (hR w r) K)) (hR w r, Value.ref x)).toList = rowsR (hR w) (L.take (SetTable.below t.place (way t.mask (hR w r) K)) ++ (x, r) :: L.drop (SetTable.below t.place (way t.mask (hR w r) K))) := by
    rw [SetTable.toList_insertAt, R.rows]
    exact map_put (rowR (hR w)) L _ (x, r)
  generalize SetTable.below t.place (way t.mask (hR w r) K) = j at c2 c3 ins ⊢
  have pm := put_perm L j (x, r)
  have tab1 : TabOk t1 (hsR (hR w) (L.take j ++ (x, r) :: L.drop j)) := by
    have e : hsR (hR w) (L.take j ++ (x, r) :: L.drop j) = (hsR (hR w) L).take j ++ hR w r :: (hsR (hR w) L).drop j := (map_put (fun p : Addr × Rd => hR w p.2) L j (x, r)).symm
    rw [e]
    exact c3
  generalize SetTable.insertAt es j (hR w r, Value.ref x) = es1 at ins ⊢
  generalize L.take j ++ (x, r) :: L.drop j = L1 at pm tab1 ins
  have n1 : L1.length = L.length + 1 := pm.length_eq
  have z1 : es1.size = L.length + 1 := by rw [rows_size ins, n1]
  have once1 : (L1.map (·.2)).Nodup := (pm.map (·.2)).nodup_iff.mpr (List.nodup_cons.mpr ⟨hm, R.once⟩)
  refine wpAny_bind (wpAny_storeSet_of ho hd ?_ (by rw [z1, sizeLine_eq]; omega))
  have sb : Heap.SameBut a s.heap (s.heap.update a (Obj.putSet es1 t1)) := Heap.SameBut.update ..
  have ho1 := store_at (es' := es1) (t' := t1) ho hd
  generalize s.heap.update a (Obj.putSet es1 t1) = h1 at sb ho1 ⊢
  have keys1 : ∀ p ∈ L1, IsR h1 p.2 p.1 := fun p hp => by
    rcases List.mem_cons.mp (pm.mem_iff.mp hp) with e | hp
    · rw [e]
      exact hx.past ho hd sb
    · exact (R.keys p hp).past ho hd sb
  have ld1 : w.params.followText "set-order" = true ∨ t1.led = true := by
    rw [c5]
    exact R.led
  by_cases full : t1.tooFull = true
  · first
      | (refine wpAny_bind ?_; refine wp_if_pos (by simp [full]) ?_)
      | (refine wp_if_pos (by simp [full]) ?_; refine wpAny_bind ?_)
    have big : t1.mask * 3 ≤ (L.length + 1) * 5 := by
      have y := full
      unfold SetTable.tooFull at y
      rw [decide_eq_true_eq, c9, List.length_map] at y
      exact y
    rw [z]
    have two : (t.mask = 7 ∧ L.length = 4) ∨ (t.mask = 31 ∧ L.length = 18) := by
      rcases R.tab.mok with e | e | e <;> rw [c4, e] at big <;> rw [e] at room
      · exact .inl ⟨e, by omega⟩
      · exact .inr ⟨e, by omega⟩
      · exact absurd big (by omega)
    have pz : t1.place.size = L1.length := by
      have y := tab1.sz
      rw [List.length_map] at y
      exact y
    have go : ∀ M, SetTable.sizeAbove (SetTable.grown (L.length + 1)) = M + 1 → MaskOk M → (L.length + 1) * 5 < M * 3 →
        wpAny (model P w) A (setRelay a (SetTable.grown (L.length + 1))) (fun _ s' => wpAny (model P w) A (pure true) Q E s') E { s with heap := h1 } := fun M y1 y2 y3 => by
      have yM : M ≤ 127 := by rcases y2 with e | e | e <;> omega
      refine relay_rd (s := { s with heap := h1 }) ho1 ⟨hex.1, hex.2.1, hex.2.2⟩ rfl ins pz tab1.dm (by rw [n1, c4]; omega) once1 keys1 pl1 ld1 (by rw [n1]; exact few) (n := SetTable.grown (L.length + 1)) (by rw [y1]; rfl) y2 (by rw [y1]; omega) (by rw [n1]; exact y3) ?_
      intro h2 L2 es2 ep2 t2 sb2 R2 pm2
      exact wpAny_pure (q true h2 L2 es2 ep2 t2 (sb.trans sb2) R2 (fun y => absurd y hm) fun _ => pm2.trans pm)
    rcases two with ⟨_, e⟩ | ⟨_, e⟩
    · exact go 31 (by rw [e]; exact size_20) (.inr (.inl rfl)) (by omega)
    · exact go 127 (by rw [e]; exact size_76) (.inr (.inr rfl)) (by omega)
  · first
      | refine wp_if_neg (by simp [full]) ?_
      | (refine wpAny_bind ?_; refine wp_if_neg (by simp [full]) ?_; refine wpAny_pure ?_)
    refine wpAny_pure (q true h1 L1 es1 (ep + 1) t1 sb ⟨⟨_, ho1, ⟨hex.1, hex.2.1, hex.2.2⟩, rfl⟩, ins, tab1, once1, keys1, pl1, ld1, ?_, by rw [n1]; exact few⟩ (fun y => absurd y hm) fun _ => pm)
    have y := full
    unfold SetTable.tooFull at y
    rw [decide_eq_true_eq, c9, List.length_map] at y
    rw [n1]
    omega
end
end K19
namespace K19
open PySem PySem.Spec PyProof.Rows L2
/-- what the set has of the first i readings -/
structure GotR (ks : List (Addr × Rd)) (i : Nat) (L : List (Addr × Rd)) : Prop where
  of : ∀ p ∈ L, p ∈ ks.take i
  to : ∀ p ∈ ks.take i, p.2 ∈ L.map (·.2)
  ln : L.length ≤ i
theorem GotR.next {ks L L' : List (Addr × Rd)} {i : Nat} {p : Addr × Rd} (g : GotR ks i L) (e : ks[i]? = some p) (h1 : p.2 ∈ L.map (·.2) → L' = L) (h2 : p.2 ∉ L.map (·.2) → L'.Perm (p :: L)) : GotR ks (i + 1) L' := by
  have et : ks.take (i + 1) = ks.take i ++ [p] := take_next e
  by_cases c : p.2 ∈ L.map (·.2)
  · rw [h1 c]
    refine ⟨fun q hq => by rw [et]; exact List.mem_append_left _ (g.of q hq), fun q hq => ?_, Nat.le_succ_of_le g.ln⟩
    rw [et] at hq
    rcases List.mem_append.mp hq with z | z
    · exact g.to q z
    · rw [List.mem_singleton.mp z]
      exact c
  · have pm := h2 c
    have pm2 : (L'.map (·.2)).Perm (p.2 :: L.map (·.2)) := pm.map (·.2)
    refine ⟨fun q hq => ?_, fun q hq => ?_, by rw [pm.length_eq]; exact Nat.succ_le_succ g.ln⟩
    · rw [et]
      rcases List.mem_cons.mp (pm.mem_iff.mp hq) with z | z
      · rw [z]
        exact List.mem_append_right _ (List.mem_singleton.mpr rfl)
      · exact List.mem_append_left _ (g.of q z)
    · rw [et] at hq
      refine pm2.mem_iff.mpr ?_
      rcases List.mem_append.mp hq with z | z
      · exact List.mem_cons_of_mem _ (g.to q z)
      · rw [List.mem_singleton.mp z]
        exact List.mem_cons_self
abbrev setO (w : World) : Obj := { cls := .type "set", dict := none, data := .set #[] 0 (.fresh 0 0 (!w.params.followText "set-order")) }
section
variable {P : Program} {w : World} {A : Around} {E : Value → Shared → Prop} {s : Shared}
theorem SetR.moved {k : Rd → Int} {h h' : Heap} {a : Addr} {L : List (Addr × Rd)} {es : Array (Int × Value)} {ep : Nat} {t : SetTable} (R : SetR w k h a L es ep t) (e1 : ∀ o, h.get? a = some o → h'.get? a = some o) (e2 : ∀ p ∈ L, IsR h' p.2 p.1) : SetR w k h' a L es ep t := by
  obtain ⟨o, ho, r⟩ := R.obj
  exact ⟨⟨o, e1 o ho, r⟩, R.rows, R.tab, R.once, e2, R.plain, R.led, R.room, R.few⟩
theorem SetR.empty {k : Rd → Int} {h : Heap} {a : Addr} (e : h.get? a = some (setO w)) : SetR w k h a [] #[] 0 (.fresh 0 0 (!w.params.followText "set-order")) where
  obj := ⟨_, e, ⟨rfl, rfl, rfl⟩, rfl⟩
  rows := rfl
  tab := ⟨.nil, rfl, rfl, .inl rfl, fun x hx => absurd hx List.not_mem_nil, fun i h j hi => by cases hi⟩
  once := List.nodup_nil
  keys := fun p hp => absurd hp List.not_mem_nil
  plain := rfl
  led := by
    show _ ∨ (!w.params.followText "set-order") = true
    cases w.params.followText "set-order" <;> simp
  room := of_decide_eq_true (p := 0 * 5 < 7 * 3) rfl
  few := of_decide_eq_true (p := 0 < 64) rfl
/-- set.update over what draws readings -/
theorem update_rd {I : Addr} {fp wr : List Addr} {G : Array GenState → Array GenState → Prop} {n : Nat} {Pv : Nat → Value → Prop} {St : Nat → Shared → Prop} {R : Result → Shared → Prop} (W : WalksS P w A.in1 I fp wr G n Pv St) (S : Addr) (hSf : S ∉ fp)
    (ks : List (Addr × Rd)) (hn : n = ks.length) (few : ks.length < 64) (val : ∀ i v, Pv i v → ∃ p, ks[i]? = some p ∧ v = .ref p.1) (h0 : Heap) (hk : ∀ p ∈ ks, IsR h0 p.2 p.1) (hS0 : h0.get? S = none) (hw0 : ∀ b ∈ wr, h0.get? b = none) (hu : A.in1.units + 8 < cLine) :
    ∀ (m i : Nat) (s : Shared), n - i = m → i ≤ n → St i s → (∀ b o, h0.get? b = some o → s.heap.get? b = some o) → (∃ L es ep t, SetR w (hR w) s.heap S L es ep t ∧ GotR ks i L) →
      (∀ s' L es ep t, Moved (S :: wr) G s s' → SetR w (hR w) s'.heap S L es ep t → GotR ks n L → (∀ b o, h0.get? b = some o → s'.heap.get? b = some o) → R (.ok (.ret .none)) s') →
      codeAny (model P w) A (.builtin "set.update.loop" ⟨[.ref S, .ref I], []⟩) R s := by
  have up : ∀ b ∈ wr, b ∈ S :: wr := fun b hb => List.mem_cons_of_mem _ hb
  have old : ∀ {s s' : Shared}, Moved wr G s s' → (∀ b o, h0.get? b = some o → s.heap.get? b = some o) → ∀ b o, h0.get? b = some o → s'.heap.get? b = some o := fun hm hkp b o e => by
    refine hm.heap b o (fun hb => ?_) (hkp b o e)
    rw [hw0 b hb] at e
    cases e
  have stay : ∀ {s s' : Shared} {L : List (Addr × Rd)} {i : Nat} {es ep t}, Moved wr G s s' → GotR ks i L → SetR w (hR w) s.heap S L es ep t → (∀ b o, h0.get? b = some o → s'.heap.get? b = some o) → SetR w (hR w) s'.heap S L es ep t := fun hm g hS kp =>
    hS.moved (fun o e => hm.heap S o (fun z => hSf (W.sub _ z)) e) fun p hp => (hk p (List.mem_of_mem_take (g.of p hp))).stay kp
  intro m
  induction m with
  | zero =>
    intro i s hm0 hi st kp ⟨L, es, ep, t, hS, g⟩ hR
    obtain rfl : i = n := Nat.le_antisymm hi (Nat.le_of_sub_eq_zero hm0)
    refine codeAny_builtin F.entry_set_update_loop ?_
    rw [Around.under_plainId F.plain_set_update_loop _]
    show wpAny _ A.in1 (pyNext (.ref I) >>= _) _ _ s
    refine wpAny_bind (W.done s _ _ st fun s' hm => ?_)
    show wpAny _ A.in1 (ret Value.none) _ _ s'
    exact wpAny_pure (hR s' L es ep t (hm.mono up) (stay hm g hS (old hm kp)) g (old hm kp))
  | succ m ih =>
    intro i s hm0 hi st kp ⟨L, es, ep, t, hS, g⟩ hR
    refine codeAny_builtin F.entry_set_update_loop ?_
    rw [Around.under_plainId F.plain_set_update_loop _]
    show wpAny _ A.in1 (pyNext (.ref I) >>= _) _ _ s
    refine wpAny_bind (W.item i s _ _ (by omega) st fun v s1 hP st1 hm => ?_)
    obtain ⟨p, hp, rfl⟩ := val i v hP
    have kp1 := old hm kp
    have hS1 := stay hm g hS kp1
    have hx : IsR s1.heap p.2 p.1 := (hk p (List.mem_of_getElem? hp)).stay kp1
    show wpAny _ A.in1 (holding [Value.ref p.1] (setAdd S (.ref p.1)) >>= _) _ _ s1
    refine wpAny_bind (wpAny_holding ?_)
    unfold setAdd
    refine wpAny_holding (wpAny_bind (hash_rd hu hx ?_))
    have gl := g.ln
    have il : i < ks.length := (List.getElem?_eq_some_iff.mp hp).1
    refine add_rd (s := { s1 with toks := s1.toks + p.2.nk.draws }) hS1 hx hu (by omega) fun b h2 L2 es2 ep2 t2 sb hS2 c1 c2 => ?_
    have kp2 : ∀ b o, h0.get? b = some o → h2.get? b = some o := fun b o e => (sb.2 b (fun z => by rw [z, hS0] at e; cases e)).trans (kp1 b o e)
    refine wpAny_pure ⟨plainId_quiet F.plain_set_update_loop _, ih (i + 1) _ (by omega) (by omega) (W.frame _ s1 h2 _ st1 (Nat.le_add_right _ _) fun b hb o e => ?_) kp2 ⟨L2, es2, ep2, t2, hS2, g.next hp c1 c2⟩ fun s3 L3 es3 ep3 t3 hm3 hS3 g3 kp3 => ?_⟩
    · exact (sb.2 b fun z => hSf (z ▸ hb)).trans e
    · exact hR s3 L3 es3 ep3 t3 (Moved.trans W.gtrans ((hm.mono up).then_heap (Nat.le_add_right _ _) fun b o hb e => (sb.2 b fun z => hb (z ▸ List.mem_cons_self)).trans e) hm3) hS3 g3 kp3
/-- what set takes: a list, a tuple -/
def Srcs (h : Heap) (l : Addr) (items : Array Value) : Bool → Prop
  | true => h.IsList l items
  | false => h.IsTuple l items
/-- what set(..) has made at the end -/
def SetEnd (w : World) (s : Shared) (ks : List (Addr × Rd)) (s2 : Shared) : Prop := ∃ h' tk L es ep t, s2 = { s with heap := h', toks := tk } ∧ SetR w (hR w) h' s.heap.objs.size L es ep t ∧ GotR ks ks.length L ∧ ∀ b o, s.heap.get? b = some o → h'.get? b = some o
theorem loop_rd {l : Addr} {o : Obj} {ks : List (Addr × Rd)} {items : Array Value} {G : Array GenState → Array GenState → Prop} {St : Nat → Shared → Prop} {R : Result → Shared → Prop} (ei : items = (ks.map fun p => Value.ref p.1).toArray) (lt : l < s.heap.objs.size) (hG : ∀ a b, G a b → b = a)
    (W : WalksS P w A.in1 (s.heap.push (setO w)).objs.size [(s.heap.push (setO w)).objs.size, l] [(s.heap.push (setO w)).objs.size] G items.size (fun i v => items[i]? = some v) St) (hk : ∀ p ∈ ks, IsR s.heap p.2 p.1) (few : ks.length < 64) (hu : A.in1.units + 8 < cLine)
    (st : St 0 { s with heap := (s.heap.push (setO w)).push o }) (hR : ∀ s2, SetEnd w s ks s2 → R (.ok (.ret .none)) s2) : codeAny (model P w) A (.builtin "set.update.loop" ⟨[.ref s.heap.objs.size, .ref (s.heap.push (setO w)).objs.size], []⟩) R { s with heap := (s.heap.push (setO w)).push o } := by
  have hsz : (s.heap.push (setO w)).objs.size = s.heap.objs.size + 1 := Heap.size_push ..
  have off : s.heap.objs.size ∉ [(s.heap.push (setO w)).objs.size, l] := by
    rw [hsz]
    simp only [List.mem_cons, List.not_mem_nil, or_false, not_or]
    exact ⟨Nat.ne_of_lt (Nat.lt_succ_self _), Nat.ne_of_gt lt⟩
  have val : ∀ (i : Nat) (v : Value), items[i]? = some v → ∃ p, ks[i]? = some p ∧ v = .ref p.1 := fun i v hv => by
    rw [ei, List.getElem?_toArray, List.getElem?_map] at hv
    cases e : ks[i]? with
    | none => rw [e] at hv; cases hv
    | some p => rw [e] at hv; cases hv; exact ⟨p, rfl, rfl⟩
  have gone : ∀ c, s.heap.objs.size ≤ c → s.heap.get? c = none := fun c hc => by
    cases e : s.heap.get? c with
    | none => rfl
    | some o => exact absurd (Nat.lt_of_lt_of_le (Heap.lt_size e) hc) (Nat.lt_irrefl _)
  have isz : items.size = ks.length := by rw [ei, List.size_toArray, List.length_map]
  have hS : (s.heap.push (setO w)).get? s.heap.objs.size = some (setO w) := Heap.get?_push_size _ rfl
  refine update_rd W s.heap.objs.size off ks isz few val s.heap hk (gone _ (Nat.le_refl _)) (fun c hc => gone c ?_) hu (items.size - 0) 0 _ rfl (Nat.zero_le _) st
    (fun b o e => Heap.get?_push_of_some _ (Heap.get?_push_of_some _ e)) ⟨[], #[], 0, _, SetR.empty (Heap.get?_push_of_some _ hS), ⟨fun p hp => absurd hp List.not_mem_nil, fun p hp => by simp at hp, Nat.le_refl _⟩⟩ fun s' L es ep t hm hS' gt kp => hR s' ?_
  · rw [List.mem_singleton.mp hc, hsz]
    exact Nat.le_succ _
  · rw [isz] at gt
    obtain ⟨h', g2, d', tk', os'⟩ := s'
    have eg : g2 = s.gens := hG _ _ hm.gens
    have ed : d' = s.drawn := hm.drawn
    have eo : os' = s.os := hm.os
    subst eg ed eo
    exact ⟨h', tk', L, es, ep, t, rfl, hS', gt, kp⟩
set_option maxHeartbeats 16000000 in
theorem call_set_rd {l : Addr} {b : Bool} (ks : List (Addr × Rd)) {Q : Value → Shared → Prop} (hh : A.handled = none) (hl : Srcs s.heap l (ks.map fun p => Value.ref p.1).toArray b) (hk : ∀ p ∈ ks, IsR s.heap p.2 p.1) (few : ks.length < 64) (hu : A.units + 16 < cLine)
    (q : ∀ (h' : Heap) (tk : Nat) L es ep t, SetR w (hR w) h' s.heap.objs.size L es ep t → GotR ks ks.length L → (∀ c o, s.heap.get? c = some o → h'.get? c = some o) → Q (.ref s.heap.objs.size) { s with heap := h', toks := tk }) :
    wpAny (model P w) A (call (.type "set") [.ref l]) Q E s := by
  obtain ⟨c, tl, hmro⟩ := F.called_set.mro
  have hmade := F.called_set.made
  have hsub := F.called_set.sub
  refine wpAny_call (codeAny_of_tree ?_)
  show wpAny _ _ (callAny (.type "set") _) _ _ _
  refine wpAny_pure ⟨Code.quiet_builtin _ (by decide +kernel), codeAny_builtin F.entry_type_call ?_⟩
  rw [Around.under_plain (weight_type_call_type "set" [.ref l] []) rfl]
  have h1 := F.called_set.notType
  have h2 := F.called_set.canCreate
  have hct := F.typeCall_set_1 (.ref l)
  repeat (any_goals (first | assumption | wp_step))
  refine codeAny_mono (code_set_led1 (.ref l) (E := E) (Q₁ := fun ob s₁ => ob = .ref s.heap.objs.size ∧ s₁ = { s with heap := s.heap.push (setO w) }) ⟨rfl, rfl⟩) fun r s₁ hr => ?_
  cases r with
  | error e => exact hr
  | ok fl =>
    cases fl with
    | ret ob =>
      obtain ⟨rfl, rfl⟩ := hr
      have hS : (s.heap.push (setO w)).get? s.heap.objs.size = some (setO w) := Heap.get?_push_size _ rfl
      have hT : Shared.TypeIs { s with heap := s.heap.push (setO w) } (.ref s.heap.objs.size) "set" := ⟨_, hS, rfl⟩
      have hli := F.called_set.init.lookup
      have hbi := F.called_set.init.bind (.ref s.heap.objs.size)
      repeat (any_goals (first | assumption | wp_step))
      refine codeAny_mono (codeAny_call_builtin (R := wants (fun r s₂ => r = .none ∧ ∃ h' tk L es ep t, s₂ = { s with heap := h', toks := tk } ∧ SetR w (hR w) h' s.heap.objs.size L es ep t ∧ GotR ks ks.length L ∧ (∀ b o, s.heap.get? b = some o → h'.get? b = some o)) E)
        F.called_set.init.plain F.entry_set_init (check_set_init_1 hT ?_)) fun r₂ s₂ hr₂ => ?_
      · cases b with
        | true =>
          have hL : s.heap.IsList l (ks.map fun p => Value.ref p.1).toArray := hl
          have eI : (ks.map fun p => Value.ref p.1).toArray = (ks.map fun p => Value.ref p.1).toArray := rfl
          generalize hI : (ks.map fun p => Value.ref p.1).toArray = items at hL
          clear hl eI hli hbi hT h1 h2 hct hmro hmade hsub
          obtain ⟨⟨oc, od, oa, os⟩, ho, hc, n, hd⟩ := hL
          simp only at hc hd
          subst hc hd
          have ho2 : (s.heap.push (setO w)).get? l = some { cls := .type "list", dict := od, data := .seq items n, slots := os } := Heap.get?_push_of_some _ ho
          have z1 := F.sub_list_set
          have z2 := F.sub_list_frozenset
          have z3 : (Value.type "list" == Value.type "dict") = false := by decide
          unfold Builtin.«set.__init__» noKeywords Builtin.Frozenset.updateFrom
          generalize hPI : pyIter = PI
          wp_walk
          subst hPI
          have isl : (s.heap.push (setO w)).IsList l items := ⟨_, ho2, rfl, n, rfl⟩
          have lt : l < s.heap.objs.size := Heap.lt_size ho
          have hsz : (s.heap.push (setO w)).objs.size = s.heap.objs.size + 1 := Heap.size_push ..
          have ne1 : l ≠ (s.heap.push (setO w)).objs.size := by
            rw [hsz]
            exact Nat.ne_of_lt (Nat.lt_succ_of_lt lt)
          have hh3 : A.in1.in1.in1.handled = none := by simp [hh]
          refine wpAny_pyIter_list isl (wpAny_bind (wpAny_runValue ?_))
          refine loop_rd hI.symm lt (fun _ _ z => z) ((Walks.list hh3 _ l ne1 items).toS) hk few (by simp only [Around.in1_units]; omega) ⟨⟨_, Heap.get?_push_size _ rfl, rfl, rfl⟩, (isl.push _)⟩ fun s2 fin => ?_
          refine wpAny_pure ?_
          show wpAny _ _ (ret Value.none) _ _ _
          exact wpAny_pure ⟨rfl, fin⟩
        | false =>
          have hL : s.heap.IsTuple l (ks.map fun p => Value.ref p.1).toArray := hl
          have eI : (ks.map fun p => Value.ref p.1).toArray = (ks.map fun p => Value.ref p.1).toArray := rfl
          generalize hI : (ks.map fun p => Value.ref p.1).toArray = items at hL
          clear hl eI hli hbi hT h1 h2 hct hmro hmade hsub
          obtain ⟨⟨oc, od, oa, os⟩, ho, hc, n, hd⟩ := hL
          simp only at hc hd
          subst hc hd
          have ho2 : (s.heap.push (setO w)).get? l = some { cls := .type "tuple", dict := od, data := .seq items n, slots := os } := Heap.get?_push_of_some _ ho
          have z1 := F.sub_tuple_set
          have z2 := F.sub_tuple_frozenset
          have z3 : (Value.type "tuple" == Value.type "dict") = false := by decide
          unfold Builtin.«set.__init__» noKeywords Builtin.Frozenset.updateFrom
          generalize hPI : pyIter = PI
          wp_walk
          subst hPI
          have isl : (s.heap.push (setO w)).IsTuple l items := ⟨_, ho2, rfl, n, rfl⟩
          have lt : l < s.heap.objs.size := Heap.lt_size ho
          have hsz : (s.heap.push (setO w)).objs.size = s.heap.objs.size + 1 := Heap.size_push ..
          have ne1 : l ≠ (s.heap.push (setO w)).objs.size := by
            rw [hsz]
            exact Nat.ne_of_lt (Nat.lt_succ_of_lt lt)
          have hh3 : A.in1.in1.in1.handled = none := by simp [hh]
          refine wpAny_pyIter_tuple isl (wpAny_bind (wpAny_runValue ?_))
          refine loop_rd hI.symm lt (fun _ _ z => z) ((Walks.tuple hh3 _ l ne1 items).toS) hk few (by simp only [Around.in1_units]; omega) ⟨⟨_, Heap.get?_push_size _ rfl, rfl, rfl⟩, (isl.push _)⟩ fun s2 fin => ?_
          refine wpAny_pure ?_
          show wpAny _ _ (ret Value.none) _ _ _
          exact wpAny_pure ⟨rfl, fin⟩
      · cases r₂ with
        | error e => exact hr₂
        | ok fl₂ =>
          cases fl₂ with
          | ret r =>
            obtain ⟨rfl, h', tk, L, es, ep, t, rfl, hS', g', hk'⟩ := hr₂
            repeat (any_goals (first | assumption | wp_step))
            exact q _ _ _ _ _ _ hS' g' hk'
          | _ => exact hr₂.elim
    | _ => exact hr.elim
end
end K19
/-! set(..), sorted(set): the rules; the order of readings -/
namespace K19
open PySem PySem.Spec PyProof.Rows L2
/-! ### data read off a heap -/
section
variable {X : Cx} {pins : List (Addr × Obj)} {σ : L2.St} {H : Hp} {s : Shared}
mutual
theorem pd_reads (I : Inv X pins σ H s) : ∀ (d : PyData) (v : V) (u : Value), Pd X.K H d v → RelV v u → Reads s.heap u d []
  | .none, _, _, h, r => by
    cases h
    cases r
    exact .none
  | .bool _, _, _, h, r => by
    cases h
    cases r
    exact .bool _
  | .int _, _, _, h, r => by
    cases h
    obtain ⟨t, rfl⟩ := r
    exact .int _ _
  | .str _, _, _, h, r => by
    cases h
    obtain ⟨t, rfl⟩ := r
    exact .str _ _
  | .list _, _, _, h, _ => by cases h
  | .dict _, _, _, h, _ => by cases h
  | .tuple ds, _, _, h, r => by
    cases h with
    | tup hq hs =>
      cases r
      obtain ⟨us, rv, ⟨o, ho, hc, n, hd⟩, _⟩ := I.tuple hq
      exact .tuple ho hc hd (pds_reads I ds _ us hs rv)
theorem pds_reads (I : Inv X pins σ H s) : ∀ (ds : List PyData) (vs : List V) (us : List Value), Pds X.K H ds vs → Vals vs us → ReadsAll s.heap us ds []
  | [], _, _, h, r => by
    cases h
    cases r
    exact .nil
  | d :: ds, _, _, h, r => by
    cases h with
    | cons h hs =>
      cases r with
      | cons r rs => exact .cons (pd_reads I d _ _ h r) (pds_reads I ds _ _ hs rs)
end
theorem reads_nums {h : Heap} : ∀ {xs : List Int} {us : List Value} {as : List Addr}, ReadsAll h us (xs.map .int) as → NestedAll h (xs.map .num) us
  | [], _, _, r => by
    cases r
    exact .nil
  | x :: xs, _, _, r => by
    have r2 : ReadsAll h _ (.int x :: xs.map .int) _ := r
    cases r2 with
    | cons r1 rs =>
      cases r1
      exact .cons (.int _ _) (reads_nums rs)
theorem reads_isR {h : Heap} {r : Rd} {a : Addr} {as : List Addr} (x : Reads h (.ref a) r.pd as) : IsR h r a := by
  unfold Rd.pd intsD at x
  cases x with
  | @tuple _ o vs n _ _ ho hc hd hk =>
    refine .tup ho hc hd ?_
    generalize vs.toList = l at hk
    cases hk with
    | cons h1 hk =>
      cases hk with
      | cons h2 hk =>
        cases hk with
        | cons h3 hk =>
          cases hk
          cases h1
          cases h2
          cases h3 with
          | tuple ho3 hc3 hd3 hk3 => exact .cons (.int _ _) (.cons (.int _ _) (.cons (.tup ho3 hc3 hd3 (reads_nums hk3)) .nil))
theorem isR_of (I : Inv X pins σ H s) {r : Rd} {a : Addr} (h : Pd X.K H r.pd (.ref a)) : IsR s.heap r a := reads_isR (pd_reads I _ _ _ h rfl)
end
/-! ### the set as an object -/
def SetAtR (w : World) (h : Heap) (a : Addr) (L : List (Addr × Rd)) : Prop := ∃ es ep t, (∃ o, h.get? a = some o ∧ o.ExactSet ∧ o.data = .set es ep t) ∧ es.toList = rowsR (hR w) L ∧ TabOk t (hsR (hR w) L) ∧ (L.map (·.2)).Nodup ∧ t.plain = true ∧
  (w.params.followText "set-order" = true ∨ t.led = true) ∧ L.length * 5 < t.mask * 3 ∧ L.length < 64
def setRO (w : World) (a : Addr) (L : List (Addr × Rd)) : HO := .ext fun h => SetAtR w h a L
theorem SetR.bare {w : World} {h : Heap} {a : Addr} {L : List (Addr × Rd)} {es : Array (Int × Value)} {ep : Nat} {t : SetTable} (R : SetR w (hR w) h a L es ep t) : SetAtR w h a L := ⟨es, ep, t, R.obj, R.rows, R.tab, R.once, R.plain, R.led, R.room, R.few⟩
theorem SetAtR.ok {w : World} {P : Program} {H : Hp} {h : Heap} {a : Addr} {L : List (Addr × Rd)} (R : SetAtR w h a L) : ObjOk P w H h a (setRO w a L) := by
  obtain ⟨es, ep, t, ⟨o, ho, r⟩, q⟩ := id R
  refine ⟨R, ⟨o, ho⟩, fun h1 h2 x k => ?_⟩
  obtain ⟨es1, ep1, t1, ⟨o1, ho1, r1⟩, q1⟩ := x
  exact ⟨es1, ep1, t1, ⟨o1, k o1 ho1, r1⟩, q1⟩
def rSetRd (K : PySem.W.Frag) (w : World) : List V → Hp → VK → Prop := fun xs H Q => ∃ (l : Addr) (ks : List (Addr × Rd)), xs = [V.ref l] ∧ (SqL K H l (ks.map fun p => V.ref p.1) ∨ SqT K H l (ks.map fun p => V.ref p.1)) ∧ (∀ p ∈ ks, Pd K H p.2.pd (.ref p.1)) ∧ ks.length < 64 ∧
  ∀ a L, H a = none → (∀ p ∈ L, p ∈ ks) → (∀ p ∈ ks, p.2 ∈ L.map (·.2)) → (L.map (·.2)).Nodup → Q (.ref a) (upd H a (setRO w a L))
theorem refs_vals {ks : List (Addr × Rd)} {us : List Value} (r : Vals (ks.map fun p => V.ref p.1) us) : us = ks.map fun p => Value.ref p.1 := by
  induction ks generalizing us with
  | nil => cases r; rfl
  | cons p ks ih =>
    cases r with
    | cons r1 rs =>
      cases r1
      rw [ih rs]
      rfl
theorem vals_refs : ∀ ks : List (Addr × Rd), Vals (ks.map fun p => V.ref p.1) (ks.map fun p => Value.ref p.1)
  | [] => .nil
  | _ :: ks => .cons rfl (vals_refs ks)
section
variable {X : Cx}
theorem cr_setOfN (hc : X.calm = true) (hu : X.A.units + 64 < cLine) : CallR X (.type "set") (rSetRd X.K X.w) := by
  intro pins s σ H xs us Q I r h
  obtain ⟨l, ks, rfl, hl, hk, few, q⟩ := h
  rw [Vals.ref1 r]
  have hn : H s.heap.objs.size = none := I.hok.fresh (Nat.le_refl _)
  obtain ⟨b, hb⟩ : ∃ b, Srcs s.heap l (ks.map fun p => Value.ref p.1).toArray b := by
    rcases hl with hl | hl
    · obtain ⟨its, rv, pl, _⟩ := I.list hl
      rw [refs_vals rv] at pl
      exact ⟨true, pl.isList⟩
    · obtain ⟨its, rv, pl, _⟩ := I.tuple hl
      rw [refs_vals rv] at pl
      exact ⟨false, pl⟩
  refine call_set_rd (P := X.prog) (w := X.w) ks (I.ok.hd hc) hb (fun p hp => isR_of I (hk p hp)) few (by omega) fun h' tk L es ep t R g k => ?_
  refine ⟨.ref s.heap.objs.size, upd H s.heap.objs.size (setRO X.w s.heap.objs.size L), I.laid (t' := tk) k (Nat.le_refl _) R.bare.ok, rfl, q _ L hn (fun p hp => List.mem_of_mem_take (g.of p hp)) (fun p hp => g.to p ?_) R.once⟩
  rw [List.take_length]
  exact hp
end
/-! ### the order of readings -/
def Rd.lt (r q : Rd) : Prop := r.x < q.x ∨ (r.x = q.x ∧ (r.y < q.y ∨ (r.y = q.y ∧ r.st < q.st)))
theorem alike_rd (r q : Rd) : PySem.W.alike r.pd q.pd = true := by
  simp only [Rd.pd, intsD, PySem.W.alike, PySem.W.alikeAll, PySem.W.alike_ints, Bool.and_self]
theorem eqv_int (i j : Int) : PyData.eqv (.int i) (.int j) = decide (i = j) := by
  simp only [PyData.eqv]
  exact Bool.beq_eq_decide_eq i j
theorem eqvAll_ints : ∀ xs ys : List Int, PyData.eqvAll (xs.map .int) (ys.map .int) = decide (xs = ys)
  | [], [] => by simp [PyData.eqvAll]
  | [], _ :: _ => by simp [PyData.eqvAll]
  | _ :: _, [] => by simp [PyData.eqvAll]
  | x :: xs, y :: ys => by
    have e : PyData.eqvAll ((x :: xs).map .int) ((y :: ys).map .int) = (PyData.eqv (.int x) (.int y) && PyData.eqvAll (xs.map .int) (ys.map .int)) := by
      simp only [List.map_cons, PyData.eqvAll]
    rw [e, eqv_int, eqvAll_ints xs ys]
    by_cases h1 : x = y
    · by_cases h2 : xs = ys
      · rw [h1, h2]
        simp
      · simp [h2]
    · simp [h1]
theorem eqv_ints (xs ys : List Int) : PyData.eqv (intsD xs) (intsD ys) = decide (xs = ys) := by
  unfold intsD
  rw [PyData.eqv]
  exact eqvAll_ints xs ys
theorem dataLt_rd (r q : Rd) : PySem.W.dataLt r.pd q.pd = true ↔ r.lt q := by
  have e1 : PySem.W.dataLt r.pd q.pd = PyProof.Rows.lexLt PyProof.Rows.itemOrd (PySem.W.keyToksAll (.int r.x :: [.int r.y, intsD r.st])) (PySem.W.keyToksAll (.int q.x :: [.int q.y, intsD q.st])) := rfl
  have e2 : PyProof.Rows.lexLt PyProof.Rows.itemOrd (PySem.W.keyToksAll [intsD r.st]) (PySem.W.keyToksAll [intsD q.st]) = if PyData.eqv (intsD r.st) (intsD q.st) = true then PyProof.Rows.lexLt PyProof.Rows.itemOrd (PySem.W.keyToksAll []) (PySem.W.keyToksAll []) else PySem.W.dataLt (intsD r.st) (intsD q.st) :=
    PySem.W.dataLt_cons (by simp only [intsD, PySem.W.alike, PySem.W.alike_ints]) [] []
  have e3 : PySem.W.dataLt (intsD r.st) (intsD q.st) = decide (r.st < q.st) := PySem.W.dataLt_ints r.st q.st
  have e4 : PyProof.Rows.lexLt PyProof.Rows.itemOrd (PySem.W.keyToksAll []) (PySem.W.keyToksAll []) = false := by decide +kernel
  have e5 : ∀ i j : Int, PySem.W.dataLt (.int i) (.int j) = decide (i < j) := fun i j => PySem.W.dataLt_int i j
  rw [e1, PySem.W.dataLt_cons (by simp [PySem.W.alike]), PySem.W.dataLt_cons (by simp [PySem.W.alike]), e2, e3, e4, e5, e5, eqv_int, eqv_int, eqv_ints]
  unfold Rd.lt
  by_cases h1 : r.x = q.x
  · rw [decide_eq_true h1, if_pos rfl]
    by_cases h2 : r.y = q.y
    · rw [decide_eq_true h2, if_pos rfl]
      by_cases h3 : r.st = q.st
      · rw [decide_eq_true h3, if_pos rfl]
        refine ⟨(fun z => nomatch z), fun z => ?_⟩
        rcases z with z | ⟨_, z | ⟨_, z⟩⟩
        · omega
        · omega
        · rw [h3] at z
          exact absurd z (List.lt_irrefl _)
      · rw [decide_eq_false h3, if_neg Bool.false_ne_true, decide_eq_true_eq]
        refine ⟨fun z => .inr ⟨h1, .inr ⟨h2, z⟩⟩, fun z => ?_⟩
        rcases z with z | ⟨_, z | ⟨_, z⟩⟩
        · omega
        · omega
        · exact z
    · rw [decide_eq_false h2, if_neg Bool.false_ne_true, decide_eq_true_eq]
      refine ⟨fun z => .inr ⟨h1, .inl z⟩, fun z => ?_⟩
      rcases z with z | ⟨_, z | ⟨z, _⟩⟩
      · omega
      · exact z
      · exact absurd z h2
  · rw [decide_eq_false h1, if_neg Bool.false_ne_true, decide_eq_true_eq]
    refine ⟨fun z => .inl z, fun z => ?_⟩
    rcases z with z | ⟨z, _⟩
    · exact z
    · exact absurd z h1
theorem rd_total (r q : Rd) : r.lt q ∨ r = q ∨ q.lt r := by
  unfold Rd.lt
  rcases Int.lt_trichotomy r.x q.x with h | h | h
  · exact .inl (.inl h)
  · rcases Int.lt_trichotomy r.y q.y with h2 | h2 | h2
    · exact .inl (.inr ⟨h, .inl h2⟩)
    · by_cases h3 : r.st < q.st
      · exact .inl (.inr ⟨h, .inr ⟨h2, h3⟩⟩)
      · by_cases h4 : q.st < r.st
        · exact .inr (.inr (.inr ⟨h.symm, .inr ⟨h2.symm, h4⟩⟩))
        · refine .inr (.inl ?_)
          have e := List.le_antisymm (show q.st ≤ r.st from h3) (show r.st ≤ q.st from h4)
          cases r
          cases q
          dsimp only at h h2 e
          rw [h, h2, e]
    · exact .inr (.inr (.inr ⟨h.symm, .inl h2⟩))
  · exact .inr (.inr (.inl h))
theorem rd_irrefl (r : Rd) : ¬ r.lt r := fun h => by
  rcases h with h | ⟨_, h | ⟨_, h⟩⟩
  · omega
  · omega
  · exact absurd h (List.lt_irrefl _)
theorem rd_trans {a b c : Rd} (h : a.lt b) (k : b.lt c) : a.lt c := by
  unfold Rd.lt at *
  rcases h with h | ⟨h1, h | ⟨h2, h⟩⟩ <;> rcases k with k | ⟨k1, k | ⟨k2, k⟩⟩
  · exact .inl (by omega)
  · exact .inl (by omega)
  · exact .inl (by omega)
  · exact .inl (by omega)
  · exact .inr ⟨by omega, .inl (by omega)⟩
  · exact .inr ⟨by omega, .inl (by omega)⟩
  · exact .inl (by omega)
  · exact .inr ⟨by omega, .inl (by omega)⟩
  · exact .inr ⟨by omega, .inr ⟨by omega, List.lt_trans h k⟩⟩
/-- strictly ascending -/
def Asc (rs : List Rd) : Prop := rs.Pairwise Rd.lt
theorem asc_unique : ∀ {xs ys : List Rd}, Asc xs → Asc ys → (∀ r, r ∈ xs ↔ r ∈ ys) → xs = ys
  | [], [], _, _, _ => rfl
  | [], y :: ys, _, _, h => absurd ((h y).mpr List.mem_cons_self) List.not_mem_nil
  | x :: xs, [], _, _, h => absurd ((h x).mp List.mem_cons_self) List.not_mem_nil
  | x :: xs, y :: ys, hx, hy, h => by
    have hx2 := List.pairwise_cons.mp hx
    have hy2 := List.pairwise_cons.mp hy
    have e : x = y := by
      rcases List.mem_cons.mp ((h x).mp List.mem_cons_self) with z | z
      · exact z
      · rcases List.mem_cons.mp ((h y).mpr List.mem_cons_self) with u | u
        · exact u.symm
        · exact absurd (rd_trans (hy2.1 x z) (hx2.1 y u)) (rd_irrefl y)
    subst e
    have nx : x ∉ xs := fun z => rd_irrefl x (hx2.1 x z)
    have ny : x ∉ ys := fun z => rd_irrefl x (hy2.1 x z)
    rw [asc_unique hx2.2 hy2.2 fun r => ⟨fun z => ?_, fun z => ?_⟩]
    · rcases List.mem_cons.mp ((h r).mp (List.mem_cons_of_mem _ z)) with u | u
      · exact absurd z (u ▸ nx)
      · exact u
    · rcases List.mem_cons.mp ((h r).mpr (List.mem_cons_of_mem _ z)) with u | u
      · exact absurd z (u ▸ ny)
      · exact u
theorem preimage {α β : Type} (f : α → β) : ∀ {vs : List β} {L : List α}, vs.Perm (L.map f) → ∃ L1 : List α, vs = L1.map f ∧ L1.Perm L
  | [], L, h => by
    have e := List.perm_nil.mp h.symm
    rw [List.map_eq_nil_iff] at e
    rw [e]
    exact ⟨[], rfl, .nil⟩
  | v :: vs, L, h => by
    obtain ⟨p, hp, e⟩ := List.mem_map.mp (h.mem_iff.mp List.mem_cons_self)
    obtain ⟨l1, l2, el⟩ := List.append_of_mem hp
    subst el e
    have h2 : (f p :: vs).Perm (f p :: (l1 ++ l2).map f) := by
      refine h.trans ?_
      rw [List.map_append, List.map_cons, List.map_append]
      exact List.perm_middle
    obtain ⟨L1, e1, pm⟩ := preimage f (L := l1 ++ l2) h2.cons_inv
    exact ⟨p :: L1, by rw [List.map_cons, e1], (pm.cons p).trans List.perm_middle.symm⟩
/-! ### sorted -/
section
variable {P : Program} {w : World} {A : Around} {E : Value → Shared → Prop} {s : Shared}
theorem sort_asc {L : List (Addr × Rd)} (h : (L.map (·.2)).Nodup) : Asc ((L.mergeSort (PySem.W.dataLe false fun p : Addr × Rd => p.2.pd)).map (·.2)) := by
  have le : ∀ a b : Addr × Rd, PySem.W.dataLe false (fun p : Addr × Rd => p.2.pd) a b = true ↔ ¬ b.2.lt a.2 := fun a b => by
    rw [PySem.W.dataLe_eq]
    show (!PySem.W.dataLt b.2.pd a.2.pd) = true ↔ _
    rw [← dataLt_rd]
    simp
  have srt := List.pairwise_mergeSort (le := PySem.W.dataLe false fun p : Addr × Rd => p.2.pd) (fun a b c h1 h2 => (le a c).mpr fun z => by
    rcases rd_total a.2 b.2 with y | y | y
    · exact (le b c).mp h2 (rd_trans z y)
    · rw [y] at z
      exact (le b c).mp h2 z
    · exact (le a b).mp h1 y) (fun a b => by
    rw [Bool.or_eq_true, le, le]
    rcases rd_total a.2 b.2 with y | y | y
    · exact .inl fun z => rd_irrefl _ (rd_trans y z)
    · rw [y]
      exact .inl (rd_irrefl _)
    · exact .inr fun z => rd_irrefl _ (rd_trans y z)) L
  have nd : ((L.mergeSort (PySem.W.dataLe false fun p : Addr × Rd => p.2.pd)).map (·.2)).Nodup := ((List.mergeSort_perm L _).map (·.2)).nodup_iff.mpr h
  unfold Asc
  rw [List.pairwise_map]
  have nd2 := List.pairwise_map.mp nd
  refine (srt.and nd2).imp fun {a b} ⟨h1, h2⟩ => ?_
  rcases rd_total a.2 b.2 with y | y | y
  · exact y
  · exact absurd y h2
  · exact absurd y ((le a b).mp h1)
theorem sorted_setR {a : Addr} {L : List (Addr × Rd)} {es : Array (Int × Value)} {ep : Nat} {t : SetTable} {Q : Value → Shared → Prop} (R : SetR w (hR w) s.heap a L es ep t) (hh : A.handled = none) (hu : A.units + 64 < cLine) (rd : ∀ p ∈ L, Reads s.heap (.ref p.1) p.2.pd [])
    (q : ∀ (s' : Shared) (p : Addr) (out : Array Value) (c : Nat) (L' : List (Addr × Rd)), (∀ b o, s.heap.get? b = some o → s'.heap.get? b = some o) → s'.gens = s.gens → s'.os = s.os → s.heap.objs.size ≤ p → s'.heap.get? p = some (seqObj "list" out c) →
      out.toList = L'.map (fun p => Value.ref p.1) → L'.Perm L → Asc (L'.map (·.2)) → Q (.ref p) s') : wpAny (model P w) A (call (.builtin "sorted") [.ref a]) Q E s := by
  obtain ⟨o, ho, hex, hd⟩ := R.obj
  have z := R.size
  have few := R.few
  refine Calls.call_function_entry kind_sorted plain_sorted entry_sorted (args_sorted1 _) ?_
  unfold Builtin.«sorted»
  refine wpAny_bind (m := checkCount "sorted" 1 1 _) (wpAny_pure ?_)
  refine wpAny_bind (collect_set (A := A.in1) hh ⟨o, ho, hex.1, hd⟩ R.fit (by unfold scanBound; omega) R.tab.ris R.led fun s1 vs k1 hz g1 o1 pm => ?_)
  have er : es.toList.map (·.2) = L.map fun p => Value.ref p.1 := by
    rw [R.rows, List.map_map]
    rfl
  rw [er] at pm
  obtain ⟨L1, rfl, p1⟩ := preimage _ pm
  have n1 : L1.length = L.length := p1.length_eq
  refine wpAny_bind (wpAny_newList ?_ (by rw [List.length_map, sizeLine_eq]; omega))
  have hl : (s1.heap.push (seqObj "list" (L1.map fun p => Value.ref p.1).toArray 0)).get? s1.heap.objs.size = some (seqObj "list" (L1.map fun p => Value.ref p.1).toArray 0) := Heap.get?_push_size _ rfl
  have each : ∀ M : List (Addr × Rd), (∀ p ∈ M, p ∈ L) → PySem.W.EachIs (fun v p => v = Value.ref p.1) (M.map fun p => Value.ref p.1) M := by
    intro M
    induction M with
    | nil => exact fun _ => .nil
    | cons p M ih => exact fun h => .cons rfl (ih fun r hr => h r (List.mem_cons_of_mem _ hr))
  have each2 : ∀ M : List (Addr × Rd), (∀ p ∈ M, p ∈ L) → PySem.W.EachIs (fun v (p : Addr × Rd) => ∃ as, Reads (s1.heap.push (seqObj "list" (L1.map fun p => Value.ref p.1).toArray 0)) v p.2.pd as ∧ s1.heap.objs.size ∉ as) (M.map fun p => Value.ref p.1) M := by
    intro M
    induction M with
    | nil => exact fun _ => .nil
    | cons p M ih => exact fun h => .cons ⟨[], PyProof.Rows.Reads.keeps (fun b u e => Heap.get?_push_of_some _ (k1 b u e)) (rd p (h p List.mem_cons_self)), List.not_mem_nil⟩ (ih fun r hr => h r (List.mem_cons_of_mem _ hr))
  have inL : ∀ p ∈ L1, p ∈ L := fun p hp => p1.mem_iff.mp hp
  refine wpAny_bind (wpAny_holding (PySem.W.list_sort_data (s := { s1 with heap := s1.heap.push (seqObj "list" (L1.map fun p => Value.ref p.1).toArray 0) }) (enc := fun p : Addr × Rd => p.2.pd) hl (each L1 inL) (each2 L1 inL)
    (PySem.W.AllAlike.of fun b b' => alike_rd b.2 b'.2) (PySem.W.Sortable.tuples fun b => ⟨_, _, rfl⟩) (by rw [sizeLine_eq]; omega) (fun p _ => ?_) fun out hlen ho2 => ?_))
  · have e : p.2.pd.depth ≤ 2 := by
      simp only [Rd.pd, intsD, PyData.depth, PyData.depthAll, PySem.W.depth_ints]
      omega
    simp only [Around.in1_units]
    omega
  · obtain ⟨c, hc⟩ := sortedHeap_at (vs := L1.map fun p => Value.ref p.1) (out := List.toArray out) hl
    have eo : out = (L1.mergeSort (PySem.W.dataLe false fun p : Addr × Rd => p.2.pd)).map fun p => Value.ref p.1 := by
      have go : ∀ {vs : List Value} {M : List (Addr × Rd)}, PySem.W.EachIs (fun v p => v = Value.ref p.1) vs M → vs = M.map fun p => Value.ref p.1 := by
        intro vs M h
        induction h with
        | nil => rfl
        | cons h1 _ ih => rw [List.map_cons, h1, ih]
      exact go ho2
    have pm2 := List.mergeSort_perm L1 (PySem.W.dataLe false fun p : Addr × Rd => p.2.pd)
    refine wpAny_pure ⟨_, rfl, q _ s1.heap.objs.size (List.toArray out) c _ (fun b u e => ?_) g1 o1 hz hc (by rw [eo]) (pm2.trans p1) (sort_asc ((p1.map (·.2)).nodup_iff.mpr R.once))⟩
    have y := k1 b u e
    have lt := Heap.lt_size y
    show (sortedHeap (s1.heap.push (seqObj "list" (L1.map fun p => Value.ref p.1).toArray 0)) s1.heap.objs.size _ _).get? b = some u
    rw [sortedHeap_old (Nat.ne_of_lt lt) (by rw [size_push']; exact Nat.lt_succ_of_lt lt)]
    exact Heap.get?_push_of_some _ y
end
def rSortRd (K : PySem.W.Frag) (w : World) : List V → Hp → VK → Prop := fun xs H Q => ∃ (a : Addr) (L : List (Addr × Rd)), xs = [V.ref a] ∧ H a = some (setRO w a L) ∧ (∀ p ∈ L, Pd K H p.2.pd (.ref p.1)) ∧
  ∀ (L' : List (Addr × Rd)) p, L'.Perm L → Asc (L'.map (·.2)) → H p = none → Q (.ref p) (upd H p (.lst (L'.map fun p => V.ref p.1)))
section
variable {X : Cx}
theorem cr_sortedS2 (hc : X.calm = true) (hu : X.A.units + 64 < cLine) : CallR X (.builtin "sorted") (rSortRd X.K X.w) := by
  intro pins s σ H xs us Q I r h
  obtain ⟨a, L, rfl, ha, hk, q⟩ := h
  rw [Vals.ref1 r]
  obtain ⟨es, ep, t, h1, h2, h3, h4, h5, h6, h7, h8⟩ : SetAtR X.w s.heap a L := (I.hok a _ ha).1
  have R : SetR X.w (hR X.w) s.heap a L es ep t := ⟨h1, h2, h3, h4, fun p hp => isR_of I (hk p hp), h5, h6, h7, h8⟩
  refine sorted_setR R (I.ok.hd hc) hu (fun p hp => pd_reads I _ _ _ (hk p hp) rfl) fun s' p out c L' k g o hp hg eo pm as => ?_
  have hn : H p = none := I.hok.fresh hp
  have hlen : (L'.map fun p => V.ref p.1).length ≤ sizeLine := by
    rw [List.length_map, pm.length_eq, sizeLine_eq]
    omega
  have hv : Vals (L'.map fun p => V.ref p.1) out.toList := by
    rw [eo]
    exact vals_refs L'
  have J : Inv X pins σ (upd H p (.lst (L'.map fun p => V.ref p.1))) { s with heap := s'.heap, gens := s'.gens, drawn := s'.drawn, toks := s'.toks } :=
    I.call (ch := []) (Un.laid k hp hn) (I.hok.laid k hp ⟨hlen, out.toList, c, hv, hg⟩) (by rw [g]; exact I.bare) (fun _ z => nomatch z)
  have e : s' = { s with heap := s'.heap, gens := s'.gens, drawn := s'.drawn, toks := s'.toks } := by
    cases s'
    cases s
    cases o
    rfl
  rw [e]
  exact ⟨.ref p, _, J, rfl, q L' p pm as hn⟩
end
end K19
/-! <= of readings, t * n, t[::-1] of a pair, sorted(tuple of ints), index of a reading -/
namespace K19
open PySem PySem.Spec PyProof.Rows L2
/-! ### r <= q, q below r -/
theorem lexAt_ge (e r : Nat → Bool) (z : Bool) : ∀ (k i j : Nat), i ≤ j → j < i + k → (∀ m, i ≤ m → m < j → e m = true) → e j = false → Ob.lexAt e r z i k = r j
  | 0, i, j, h1, h2, _, _ => absurd h2 (by omega)
  | k + 1, i, j, h1, h2, h3, h4 => by
    rw [Ob.lexAt_succ]
    by_cases c : i = j
    · subst c
      rw [h4, if_neg Bool.false_ne_true]
    · rw [h3 i (Nat.le_refl _) (by omega), if_pos rfl]
      exact lexAt_ge e r z k (i + 1) j (by omega) (by omega) (fun m m1 m2 => h3 m (by omega) m2) h4
theorem lexAt_end (e r : Nat → Bool) (z : Bool) : ∀ (k i : Nat), (∀ m, i ≤ m → m < i + k → e m = true) → Ob.lexAt e r z i k = z
  | 0, _, _ => Ob.lexAt_zero
  | k + 1, i, h => by
    rw [Ob.lexAt_succ, h i (Nat.le_refl _) (by omega), if_pos rfl]
    exact lexAt_end e r z k (i + 1) fun m m1 m2 => h m (by omega) (by omega)
/-- where the lists part -/
theorem part_at : ∀ {ms ns : List Int}, ms < ns → (∃ j, j < ms.length ∧ j < ns.length ∧ (∀ m, m < j → ns.getD m 0 = ms.getD m 0) ∧ ms.getD j 0 < ns.getD j 0) ∨ (ms.length < ns.length ∧ ∀ m, m < ms.length → ns.getD m 0 = ms.getD m 0)
  | [], [], h => absurd h (List.lt_irrefl _)
  | [], _ :: _, _ => .inr ⟨Nat.succ_pos _, fun m h => absurd h (Nat.not_lt_zero _)⟩
  | _ :: _, [], h => by cases h
  | x :: ms, y :: ns, h => by
    rcases List.cons_lt_cons_iff.mp h with c | ⟨c, h2⟩
    · exact .inl ⟨0, Nat.succ_pos _, Nat.succ_pos _, fun m z => absurd z (Nat.not_lt_zero _), c⟩
    · subst c
      rcases part_at h2 with ⟨j, j1, j2, j3, j4⟩ | ⟨j1, j2⟩
      · refine .inl ⟨j + 1, Nat.succ_lt_succ j1, Nat.succ_lt_succ j2, fun m z => ?_, j4⟩
        cases m with
        | zero => rfl
        | succ m => exact j3 m (Nat.lt_of_succ_lt_succ z)
      · refine .inr ⟨Nat.succ_lt_succ j1, fun m z => ?_⟩
        cases m with
        | zero => rfl
        | succ m => exact j2 m (Nat.lt_of_succ_lt_succ z)
theorem intsAt {its : List Value} {ns : List Int} (h : IntsAre its ns) (j : Nat) (hj : j < its.toArray.size) : ∃ t, its.toArray[j] = .int (ns.getD j 0) t := PyProof.Rows.IntsAre.int_at h _ _ (by simp at hj; simp [hj])
theorem eqAt_i {A : Around} {s : Shared} (i j : Int) (t u : Tok) : SeqAt.EqAt A s (.int i t) (.int j u) (decide (i = j)) := by
  have e : (i == j) = decide (i = j) := Bool.beq_eq_decide_eq i j
  rw [← e]
  exact SeqAt.EqAt.int_int _ _ _ _
theorem le_nums {A : Around} {s : Shared} {a b : Addr} {us vs : List Value} {ns ms : List Int} (ha : s.heap.IsTuple a us.toArray) (hb : s.heap.IsTuple b vs.toArray) (i1 : IntsAre us ns) (i2 : IntsAre vs ms) (hu : A.units < cLine) (ne : ns ≠ ms) :
    Ob.RcOp .LtE A s (.ref a) (.ref b) (decide (ns < ms)) := by
  have l1 : us.toArray.size = ns.length := by rw [List.size_toArray]; exact i1.length
  have l2 : vs.toArray.size = ms.length := by rw [List.size_toArray]; exact i2.length
  have R := Ob.RcOp.tuples_le (A := A) (s := s) (e := fun j => decide (ns.getD j 0 = ms.getD j 0)) (r := fun j => decide (ns.getD j 0 ≤ ms.getD j 0)) ha hb hu (fun j h1 h2 => by
    obtain ⟨t, e1⟩ := intsAt i1 j h1
    obtain ⟨u, e2⟩ := intsAt i2 j h2
    rw [e1, e2]
    exact eqAt_i _ _ _ _) (fun j h1 h2 _ => by
    obtain ⟨t, e1⟩ := intsAt i1 j h1
    obtain ⟨u, e2⟩ := intsAt i2 j h2
    rw [e1, e2]
    exact Ob.RcOp.le_int _ _ _ _)
  rw [l1, l2] at R
  by_cases lt : ns < ms
  · rw [decide_eq_true lt]
    rcases part_at lt with ⟨j, j1, j2, j3, j4⟩ | ⟨j1, j2⟩
    · rw [lexAt_ge _ _ _ _ 0 j (Nat.zero_le _) (by omega) (fun m _ hm => decide_eq_true (j3 m hm).symm) (decide_eq_false (by omega)), decide_eq_true (by omega)] at R
      exact R
    · rw [lexAt_end _ _ _ _ 0 fun m _ hm => decide_eq_true (j2 m (by omega)).symm, decide_eq_true (by omega)] at R
      exact R
  · rw [decide_eq_false lt]
    have gt : ms < ns := by
      by_cases g : ms < ns
      · exact g
      · exact absurd (List.le_antisymm (show ns ≤ ms from g) (show ms ≤ ns from lt)) ne
    rcases part_at gt with ⟨j, j1, j2, j3, j4⟩ | ⟨j1, j2⟩
    · rw [lexAt_ge _ _ _ _ 0 j (Nat.zero_le _) (by omega) (fun m _ hm => decide_eq_true (j3 m hm)) (decide_eq_false (by omega)), decide_eq_false (by omega)] at R
      exact R
    · rw [lexAt_end _ _ _ _ 0 fun m _ hm => decide_eq_true (j2 m (by omega)), decide_eq_false (by omega)] at R
      exact R
theorem nums_reads {h : Heap} {ws : List Value} {ks : List Int} (hi : IntsAre ws ks) : ReadsAll h ws (ks.map .int) [] := by
  induction hi with
  | nil => exact .nil
  | cons k t _ ih => exact .cons (.int k t) ih
theorem eq_nums {A : Around} {s : Shared} {a b : Addr} {us vs : List Value} {ns ms : List Int} (ha : s.heap.IsTuple a us.toArray) (hb : s.heap.IsTuple b vs.toArray) (i1 : IntsAre us ns) (i2 : IntsAre vs ms) (hu : A.units + 1 < cLine) :
    SeqAt.EqAt A s (.ref a) (.ref b) (decide (ns = ms)) := by
  have rd : ∀ {c : Addr} {ws : List Value} {ks : List Int}, s.heap.IsTuple c ws.toArray → IntsAre ws ks → Reads s.heap (.ref c) (intsD ks) [] := fun {c ws ks} ⟨o, ho, hc, n, hd⟩ hi => by
    refine .tuple ho hc hd ?_
    show ReadsAll s.heap ws (ks.map .int) []
    exact nums_reads hi
  have z := PySem.W.eqAt_alike (intsD ns) (intsD ms) A s _ _ _ _ (rd ha i1) (rd hb i2) (by simp only [intsD, PySem.W.alike, PySem.W.alike_ints]) (by
    simp only [intsD, PyData.depth, PySem.W.depth_ints]
    omega)
  rw [eqv_ints] at z
  exact z
def rGtRd (K : PySem.W.Frag) : R2 := fun x y H Q => ∃ r q : Rd, Pd K H r.pd x ∧ Pd K H q.pd y ∧ q.lt r ∧ Q (.bl false) H
section
variable {X : Cx} {pins : List (Addr × Obj)} {σ : L2.St} {H : Hp} {s : Shared}
/-- a reading's tuple and its step's -/
theorem rd_parts (I : Inv X pins σ H s) {r : Rd} {v : V} {u : Value} (h : Pd X.K H r.pd v) (rv : RelV v u) : ∃ a b t1 t2 us, u = .ref a ∧ s.heap.IsTuple a #[.int r.x t1, .int r.y t2, .ref b] ∧ s.heap.IsTuple b us.toArray ∧ IntsAre us r.st := by
  obtain ⟨a, vs, rfl, hq, hs⟩ := Pd.sq h
  cases rv
  obtain ⟨its, r1, p1, _⟩ := I.tuple hq
  cases hs with
  | cons h1 hs =>
    cases hs with
    | cons h2 hs =>
      cases hs with
      | cons h3 hs =>
        cases hs
        cases h1
        cases h2
        obtain ⟨b, rfl, hb⟩ := Pd.toInts h3
        obtain ⟨us, r2, p2, _⟩ := I.tuple hb
        cases r1 with
        | cons q1 r1 =>
          cases r1 with
          | cons q2 r1 =>
            cases r1 with
            | cons q3 r1 =>
              cases r1
              obtain ⟨t1, rfl⟩ := q1
              obtain ⟨t2, rfl⟩ := q2
              cases q3
              exact ⟨a, b, t1, t2, us, rfl, p1, p2, Vals.ints r2⟩
end
section
variable {X : Cx}
theorem op_leD (hu : X.A.units + 64 < cLine) : OpR X (compareOp .LtE) (rGtRd X.K) := by
  intro pins s σ H x y v u Q I rx ry h
  obtain ⟨r, q, hr, hq, lt, k⟩ := h
  obtain ⟨a, b, t1, t2, us, rfl, p1, p2, i1⟩ := rd_parts I hr rx
  obtain ⟨a', b', t1', t2', us', rfl, p1', p2', i1'⟩ := rd_parts I hq ry
  have R := Ob.RcOp.tuples_le (A := X.A) (s := s) (e := fun j => match j with | 0 => decide (r.x = q.x) | 1 => decide (r.y = q.y) | _ => decide (r.st = q.st)) (r := fun j => match j with | 0 => decide (r.x ≤ q.x) | 1 => decide (r.y ≤ q.y) | _ => decide (r.st < q.st)) p1 p1' (by omega) (fun j h1 h2 => by
    match j, h1 with
    | 0, _ => exact eqAt_i _ _ _ _
    | 1, _ => exact eqAt_i _ _ _ _
    | 2, _ => exact eq_nums p2 p2' i1 i1' (by simp only [Around.in1_units]; omega)
    | j + 3, h1 => exact absurd h1 (by simp)) (fun j h1 h2 he => by
    match j, h1, he with
    | 0, _, _ => exact Ob.RcOp.le_int _ _ _ _
    | 1, _, _ => exact Ob.RcOp.le_int _ _ _ _
    | 2, _, he => exact le_nums p2 p2' i1 i1' (by simp only [Around.in1_units]; omega) (of_decide_eq_false he)
    | j + 3, h1, _ => exact absurd h1 (by simp))
  have z : Ob.RcOp .LtE X.A s (.ref a) (.ref a') false := by
    have e3 : ∀ (e f : Nat → Bool) (zz : Bool), Ob.lexAt e f zz 0 (min 3 3) = if e 0 = true then (if e 1 = true then (if e 2 = true then zz else f 2) else f 1) else f 0 := fun e f zz => rfl
    have e4 : (if decide (r.x = q.x) = true then (if decide (r.y = q.y) = true then (if decide (r.st = q.st) = true then decide (3 ≤ 3) else decide (r.st < q.st)) else decide (r.y ≤ q.y)) else decide (r.x ≤ q.x)) = false := by
      rcases lt with c | ⟨c, c1 | ⟨c1, c2⟩⟩
      · rw [if_neg (fun z => absurd (of_decide_eq_true z) (by omega))]
        exact decide_eq_false (by omega)
      · rw [if_pos (decide_eq_true c.symm), if_neg (fun z => absurd (of_decide_eq_true z) (by omega))]
        exact decide_eq_false (by omega)
      · rw [if_pos (decide_eq_true c.symm), if_pos (decide_eq_true c1.symm), if_neg (fun z => List.lt_irrefl _ ((of_decide_eq_true z) ▸ c2))]
        exact decide_eq_false fun y => List.lt_irrefl _ (List.lt_trans y c2)
    rw [← e4]
    exact R
  exact z X.prog X.w X.xe (EP X pins σ Q) ⟨.bl false, H, I, rfl, k⟩
end
/-! ### t * n of a tuple that is not empty -/
def rRepP (K : PySem.W.Frag) : R2 := fun x y H Q => ∃ l k xs, x = .ref l ∧ y = .int k ∧ SqT K H l xs ∧ xs ≠ [] ∧ 1 ≤ k ∧ k ≤ 1000 ∧ xs.length ≤ 1000 ∧ (k = 1 → Q (.ref l) H) ∧ ∀ p, H p = none → Q (.ref p) (upd H p (.tup (List.replicate k.toNat xs).flatten))
theorem mul_one_tup (l : Addr) (items : Array Value) (n : Nat) (dd : Option Addr) (sl : Array (Option Value)) (u : Tok) :
    Meets (Builtin.«tuple.__mul__» ⟨[.ref l, .int 1 u], []⟩) (fun _ R s => s.heap.get? l = some { cls := .type "tuple", dict := dd, data := .seq items n, slots := sl } ∧ R (.ok (.ret (.ref l))) s) :=
  .of_wp fun prog w A R s h => by
    obtain ⟨hp, g, d, tk, os⟩ := s
    obtain ⟨hl, h⟩ := h
    have f1 := AutoSeq1.idx_int
    have f2 := AutoSeq1.sub_tuple_tuple
    wp_walk using AutoSeq1.wpAny_loadPart' hl
    exact ⟨_, rfl, h⟩
section
variable {X : Cx}
theorem op_repK : OpR X (binaryOp .Mult) (rRepP X.K) := by
  intro pins s σ H x y v u Q I rx ry h
  obtain ⟨l, k, xs, rfl, rfl, hT, hne, h1, h2, hz, q1, q⟩ := h
  by_cases c : k = 1
  · subst c
    cases rx
    obtain ⟨t, rfl⟩ := ry
    obtain ⟨its, r, ⟨⟨cls, dd, data, sl⟩, ho, hc, n, hd⟩, hs⟩ := I.tuple hT
    simp only at hc hd
    subst hc hd
    exact wpAny_binaryOp_repeat_ref (T := "tuple") (U := "int") (by decide) ⟨_, ho, rfl⟩ (fun s' => typeIs_int s' 1 t) noFill_tuple_mul F.fills_int_mul F.slot_int_rmul repeat_tuple F.slot_int_index.lookup
      (call_meets F.slot_int_rmul (typeIs_int s 1 t) F.entry_int_rmul (F.args_int_rmul_2 _ _) (int_rmul_tuple 1 t l its.toArray n dd sl)
        ⟨ho, rfl, ⟨_, ho, rfl⟩, call_meets F.slot_tuple_mul ⟨_, ho, rfl⟩ F.entry_tuple_mul (F.args_tuple_mul_2 _ _) (mul_one_tup l its.toArray n dd sl t) ⟨ho, .ref l, H, I, rfl, q1 rfl⟩⟩)
  · exact op_repT pins s σ H _ _ v u Q I rx ry ⟨l, k, xs, rfl, rfl, hT, hne, by omega, h2, hz, q⟩
end
/-! ### t[::-1] of a pair -/
theorem rev_pair {prog : Program} {w : World} {A : Around} {E : Value → Shared → Prop} {s : Shared} {t sl : Addr} {x y : Value} {vl vu vs : Value} {Q : Value → Shared → Prop} (ht : s.heap.IsTuple t #[x, y]) (hs : s.heap.IsSliceOf sl vl vu vs) (pl : IsPart vl none) (pu : IsPart vu none) (ps : IsPart vs (some (-1)))
    (h : Q (.ref s.heap.objs.size) { s with heap := s.heap.push { cls := .type "tuple", data := .seq #[y, x] } }) : wpAny (model prog w) A (getItem (.ref t) (.ref sl)) Q E s := by
  obtain ⟨os, hos, hcs, hds⟩ := id hs
  have hT : s.TypeIs (.ref sl) "slice" := ⟨os, hos, hcs⟩
  have ht2 : IsTup s.heap t #[x, y] := ht
  unfold getItem
  try with_reducible refine wpAny_holding ?_
  first | refine wpAny_bind (wpAny_pure ?_) | skip
  refine wpAny_bind (wpAny_sequenceKey ht2.typeIs (by decide) ?_)
  refine wpAny_bind (wpAny_callSpecial?_slot (name := Str.ofString "__getitem__") ht2.typeIs PyProof.Rows.slot_tuple_getitem (wpAny_call_entry PyProof.Rows.slot_tuple_getitem ht2.typeIs entry_tuple_getitem ?_ (args_tuple_getitem _ _)))
  show wpAny _ _ (Builtin.Tuple.tupleItemsOf (.ref t) >>= _) _ _ s
  refine wpAny_bind (tupleItemsOf_ ht2 (wpAny_bind (wpAny_typeOf hT ?_)))
  rw [if_pos (by decide)]
  refine wpAny_bind ?_
  · unfold Builtin.Slice.sliceApplied Builtin.Slice.sliceFields
    refine wpAny_bind (wpAny_bind (wpAny_field hos hds (x := vl) rfl (wpAny_bind (wpAny_field hos hds (x := vu) rfl (wpAny_bind (wpAny_field hos hds (x := vs) rfl (wpAny_pure ?_)))))))
    refine wpAny_bind (HT.slicePart_ ps ?_)
    show wpAny _ _ (if ((-1 : Int) == 0) = true then _ else _) _ _ s
    rw [if_neg (by decide)]
    refine wpAny_bind (HT.slicePart_ pl (wpAny_bind (HT.slicePart_ pu (wpAny_bind (wpAny_pure ?_)))))
    have a1 : Builtin.Slice.sliceAdjust none none (-1) 2 = (1, -1) := by decide +kernel
    have a2 : Builtin.Slice.slicePlaces 1 (-1) (-1) = 2 := by decide +kernel
    show wpAny _ _ (match Builtin.Slice.sliceAdjust none none (-1) 2 with | (lo, hi) => (pure (lo, (-1 : Int), Builtin.Slice.slicePlaces lo hi (-1)) : Sem (Int × Int × Nat))) _ _ s
    rw [a1]
    show wpAny _ _ (pure ((1 : Int), (-1 : Int), Builtin.Slice.slicePlaces 1 (-1) (-1)) : Sem (Int × Int × Nat)) _ _ s
    rw [a2]
    refine wpAny_pure ?_
    show wpAny _ _ (if ((1 : Int) == 0 && (-1 : Int) == 1 && (2 : Nat) == 2) = true then _ else _) _ _ s
    rw [if_neg (by decide)]
    have e : ((List.range 2).filterMap fun (k : Nat) => (#[x, y] : Array Value)[((1 : Int) + (k : Int) * (-1)).toNat]?).toArray = #[y, x] := by rfl
    show wpAny _ _ (do let p ← Builtin.Tuple.tupleExact ((List.range 2).filterMap fun (k : Nat) => (#[x, y] : Array Value)[((1 : Int) + (k : Int) * (-1)).toNat]?).toArray; ret p) _ _ s
    rw [e]
    refine wpAny_bind (m := Builtin.Tuple.tupleExact _) (wpAny_newObj_type (wpAny_pure ⟨_, rfl, wpAny_pure h⟩) (by show 2 ≤ sizeLine; decide))
def tRevP (K : PySem.W.Frag) (te : TE) : TE := fun σ H Q => te σ H fun x H1 => ∃ a y z, x = .ref a ∧ SqT K H1 a [y, z] ∧ ∀ p, H1 p = none → Q (.ref p) (upd H1 p (.tup [z, y]))
section
variable {X : Cx}
theorem pe_revT {e : Expr} {te : TE} {k : Nat} {p1 p2 p3 pos : Pos} (he : PE X e te) : PE X (.Subscript e (.Slice none none (some (.UnaryOp .USub (.Constant (.int 1) k p1) p2)) p3) pos) (tRevP X.K te) := by
  refine ⟨fun pins s σ H Q I h => Subscript_ (thn (he.run pins s σ H _ I h) fun v s1 ⟨x, H1, I1, r1, a, y, z, ex, hx, q⟩ => ?_)⟩
  subst ex
  cases r1
  have part : PO X (some (.UnaryOp .USub (.Constant (.int 1) k p1) p2)) (tPart (tUn (rU fun i => .int (-i)) (tC (.int 1)))) := po_some (pe_un un_neg pe_int)
  refine wpAny_Slice (thn (po_none.run pins s1 σ H1 (fun o G => o = none ∧ G = H1) I1 ⟨rfl, rfl⟩) fun vl s2 ⟨o1, G1, J1, pl, e1, f1⟩ => ?_)
  subst e1 f1
  refine thn (po_none.run pins s2 σ G1 (fun o G => o = none ∧ G = G1) J1 ⟨rfl, rfl⟩) fun vu s3 ⟨o2, G2, J2, pu, e2, f2⟩ => ?_
  subst e2 f2
  refine thn (part.run pins s3 σ G2 (fun o G => o = some (-1) ∧ G = G2) J2 ⟨1, rfl, -1, rfl, rfl, rfl⟩) fun vs s4 ⟨o3, G3, J3, ps, e3, f3⟩ => ?_
  subst e3 f3
  have J4 : Inv X pins σ G3 { s4 with heap := s4.heap.push { cls := .type "slice", data := .fields #[vl, vu, vs] } } := J3.kept (t' := s4.toks) fun b ob q => Heap.get?_push_of_some _ q
  obtain ⟨its, r, ht, hz⟩ := J4.tuple hx
  obtain ⟨u1, u2, rfl, ry, rz⟩ : ∃ u1 u2, its = [u1, u2] ∧ RelV y u1 ∧ RelV z u2 := by
    cases r with
    | cons p1 r =>
      cases r with
      | cons p2 r =>
        cases r
        exact ⟨_, _, rfl, p1, p2⟩
  have ht2 : IsTup { s4 with heap := s4.heap.push { cls := .type "slice", data := .fields #[vl, vu, vs] } }.heap a #[u1, u2] := ht
  show wpAny (model X.prog X.w) X.A (subscriptTail e (.Slice none none (some (.UnaryOp .USub (.Constant (.int 1) k p1) p2)) p3) (.ref a) (.ref s4.heap.objs.size)) (EP X pins σ Q) X.xe { s4 with heap := s4.heap.push { cls := .type "slice", data := .fields #[vl, vu, vs] } }
  refine tail_any (ops := [.ref a, .ref s4.heap.objs.size]) ht2.typeIs PyProof.Rows.slot_tuple_getitem.lookup ?_ (by with_unfolding_all rfl)
  refine rev_pair ht (Heap.IsSliceOf.new _ vl vu vs) pl pu ps ?_
  refine ⟨.ref _, _, J4.laid (t' := s4.toks) (o := .tup [z, y]) (fun b ob q => Heap.get?_push_of_some _ q) (Nat.le_refl _) ?_, rfl, q _ (J4.hok.fresh (Nat.le_refl _))⟩
  exact ⟨by show 2 ≤ sizeLine; decide, [u2, u1], .cons rz (.cons ry .nil), ⟨_, Heap.get?_push_size _ rfl, rfl, _, rfl⟩⟩
end
/-! ### sorted(t), t a tuple of ints -/
theorem collect_tup {prog : Program} {w : World} {A : Around} {E : Value → Shared → Prop} {s : Shared} {l : Addr} {vs : List Value} {Q : List Value → Shared → Prop} (hl : s.heap.IsTuple l vs.toArray) (hz : vs.length ≤ sizeLine)
    (h : ∀ h' : Heap, (∀ b o, s.heap.get? b = some o → h'.get? b = some o) → s.heap.objs.size ≤ h'.objs.size → Q vs { s with heap := h' }) : wpAny (model prog w) A (collect (.ref l)) Q E s := by
  obtain ⟨o, ho, hc, n, hd⟩ := id hl
  have lt := Heap.lt_size ho
  unfold collect
  refine wpAny_bind (wpAny_runValue (codeAny_builtin entry_proto_collect' ?_))
  show wpAny _ _ (do again (.builtin "list.__iadd__" ⟨[← newList [], .ref l], []⟩)) _ _ s
  refine wpAny_bind (wpAny_newList (wpAny_pure ⟨Code.quiet_builtin _ (by decide +kernel), codeAny_builtin entry_list_iadd' ?_⟩))
  show wpAny _ _ (Builtin.List.listExtendWith (.ref s.heap.objs.size) (.ref l) (.ref s.heap.objs.size)) _ _ { s with heap := s.heap.push (seqObj "list" #[] 0) }
  unfold Builtin.List.listExtendWith
  have ho2 : (s.heap.push (seqObj "list" #[] 0)).get? l = some o := Heap.get?_push_of_some _ ho
  refine wpAny_bind (wpAny_typeOf (T := "tuple") ⟨o, ho2, hc⟩ ?_)
  have yes : (Value.type "tuple" == Value.type "tuple") = true := by rfl
  rw [if_pos (by rw [yes]; simp)]
  refine wpAny_bind (listItems_at ho2 hd (wpAny_bind (listItems_at (xs := #[]) (n := 0) (Heap.get?_push_size _ rfl) rfl ?_)))
  rw [if_neg (by simp)]
  refine wpAny_bind (listUpdate_at (xs := #[]) (n := 0) (Heap.get?_push_size _ rfl) rfl ?_ (Nat.zero_le _) (by show (#[] ++ vs.toArray).size ≤ sizeLine + 1; simp only [Array.size_append, List.size_toArray, List.length_nil]; omega))
  refine wpAny_pure ?_
  refine wpAny_bind (wpAny_load (get?_update_seq (Heap.get?_push_size _ rfl) _) ?_)
  show wpAny _ _ (pure ((#[] : Array Value) ++ vs.toArray).toList) Q E _
  rw [show ((#[] : Array Value) ++ vs.toArray).toList = vs by simp]
  refine wpAny_pure (h _ (fun b o e => ?_) ?_)
  · rw [Heap.get?_update_ne _ _ _ _ (Nat.ne_of_lt (Heap.lt_size e))]
    exact Heap.get?_push_of_some _ e
  · rw [Heap.size_update, Heap.size_push]
    exact Nat.le_succ _
def rSortTI (K : PySem.W.Frag) : List V → Hp → VK → Prop := fun vs H Q => ∃ (a : Addr) (ns : List Int), vs = [V.ref a] ∧ SqT K H a (ns.map V.int) ∧ ∀ (ns' : List Int) (p : Addr), ns'.Perm ns → ns'.Pairwise (· ≤ ·) → H p = none → Q (.ref p) (upd H p (.lst (ns'.map V.int)))
section
variable {X : Cx}
theorem cr_sortedTI : CallR X (.builtin "sorted") (rSortTI X.K) := by
  intro pins s σ H vs us Q I r h
  obtain ⟨a, ns, rfl, hs, q⟩ := h
  obtain ⟨its, rv, hl, hz⟩ := I.tuple hs
  rw [Vals.ref1 r]
  have hi : IntsAre its ns := Vals.ints rv
  have hz2 : its.length ≤ sizeLine := by rw [← rv.length]; exact hz
  refine Calls.call_function_entry kind_sorted plain_sorted entry_sorted (args_sorted1 _) ?_
  unfold Builtin.«sorted»
  refine wpAny_bind (m := checkCount "sorted" 1 1 _) (wpAny_pure ?_)
  refine wpAny_bind (collect_tup hl hz2 fun h1 k1 z1 => ?_)
  refine wpAny_bind (wpAny_newList ?_ hz2)
  have ho : (h1.push (seqObj "list" its.toArray 0)).get? h1.objs.size = some (seqObj "list" its.toArray 0) := Heap.get?_push_size _ rfl
  refine wpAny_bind (wpAny_holding (wpAny_call_entry slot_list_sort ⟨_, ho, rfl⟩ entry_list_sort (SrtO.list_sort_ord SrtO.swo_int ho hz2 (fun h2 => SrtO.ints_sortable hi h2) fun out b1 b2 => ⟨_, rfl, ?_⟩) (args_list_sort _)))
  obtain ⟨j1, j2, j3⟩ := SrtO.ints_out hi b1 b2
  obtain ⟨c, hc⟩ := sortedHeap_at (vs := its) (out := out.toArray) ho
  have hlen : ((out.map SrtO.iv).map V.int).length ≤ sizeLine := by
    rw [List.length_map, j2.length_eq]
    rw [List.length_map] at hz
    exact hz
  refine wpAny_pure ⟨_, rfl, .ref h1.objs.size, upd H h1.objs.size (.lst ((out.map SrtO.iv).map V.int)), I.laid (t' := s.toks) (fun b u e => ?_) z1 ⟨hlen, out, c, vals_of_ints j1, hc⟩, rfl, q _ _ j2 j3 (I.hok.fresh z1)⟩
  have y := k1 b u e
  have lt := Heap.lt_size y
  show (sortedHeap (h1.push (seqObj "list" its.toArray 0)) h1.objs.size _ _).get? b = some u
  rw [sortedHeap_old (Nat.ne_of_lt lt) (by rw [size_push']; exact Nat.lt_succ_of_lt lt)]
  exact Heap.get?_push_of_some _ y
/-! ### rs.index(r) -/
variable {pins : List (Addr × Obj)} {σ : L2.St} {H : Hp} {s : Shared}
def rIdxRd (K : PySem.W.Frag) : V → List V → Hp → VK → Prop := fun x xs H Q => ∃ (a : Addr) (y : V) (r : Rd) (rs : List Rd) (j : Nat), x = V.ref a ∧ xs = [y] ∧ Pd K H (rds rs) (V.ref a) ∧ Pd K H r.pd y ∧ rs[j]? = some r ∧ rs.Nodup ∧ Q (.int (j : Nat)) H
theorem rd_eqv (r q : Rd) : PyData.eqv r.pd q.pd = decide (r = q) := by
  have e : PyData.eqv r.pd q.pd = (PyData.eqv (.int r.x) (.int q.x) && (PyData.eqv (.int r.y) (.int q.y) && PyData.eqv (intsD r.st) (intsD q.st))) := by
    simp only [Rd.pd, PyData.eqv, PyData.eqvAll, Bool.and_true]
  rw [e, eqv_int, eqv_int, eqv_ints]
  cases r
  cases q
  simp only [Rd.mk.injEq, Bool.decide_and]
theorem rds_reads (I : Inv X pins σ H s) {rs : List Rd} {a : Addr} (h : Pd X.K H (rds rs) (.ref a)) : ∃ us : List Value, s.heap.IsTuple a us.toArray ∧ ReadsAll s.heap us (rs.map Rd.pd) [] := by
  cases h with
  | tup hq hs =>
    obtain ⟨us, rv, p, _⟩ := I.tuple hq
    exact ⟨us, p, pds_reads I _ _ _ hs rv⟩
theorem at_rd {h : Heap} : ∀ {rs : List Rd} {us : List Value} (j : Nat) (hj : j < us.length), ReadsAll h us (rs.map Rd.pd) [] → ∃ r, rs[j]? = some r ∧ Reads h us[j] r.pd []
  | [], _, _, hj, x => by
    cases x
    exact absurd hj (Nat.not_lt_zero _)
  | r :: rs, us, j, hj, x => by
    rw [List.map_cons] at x
    generalize ea : ([] : List Addr) = as at x
    cases x with
    | cons x1 x2 =>
      obtain ⟨e1, e2⟩ := List.append_eq_nil_iff.mp ea.symm
      subst e1 e2
      cases j with
      | zero => exact ⟨r, rfl, x1⟩
      | succ j => exact at_rd j (Nat.lt_of_succ_lt_succ hj) x2
theorem readsAll_len {h : Heap} : ∀ {ds : List PyData} {us : List Value} {as : List Addr}, ReadsAll h us ds as → us.length = ds.length
  | [], _, _, x => by
    cases x
    rfl
  | _ :: _, _, _, x => by
    cases x with
    | cons x1 x2 => rw [List.length_cons, List.length_cons, readsAll_len x2]
theorem mt_tupIndexD (hu : X.A.units + 65 < cLine) : MtR X "tuple.index" (rIdxRd X.K) := by
  intro pins s σ H x xs v us Q I rx rxs h
  obtain ⟨a, y, r, rs, j, rfl, rfl, hl, hy, hj, nd, q⟩ := h
  cases rx
  obtain ⟨uy, rfl, ry⟩ : ∃ uy, us = [uy] ∧ RelV y uy := by
    cases rxs with
    | cons ry rt =>
      cases rt
      exact ⟨_, rfl, ry⟩
  obtain ⟨its, ⟨⟨cls, dd, data, sl⟩, ho, hc, n, hd⟩, rA⟩ := rds_reads I hl
  simp only at hc hd
  subst hc hd
  have rr : Reads s.heap uy r.pd [] := pd_reads I _ _ _ hy ry
  have len : its.length = rs.length := by rw [readsAll_len rA, List.length_map]
  have lj : j < its.toArray.size := by
    rw [List.size_toArray, len]
    exact (List.getElem?_eq_some_iff.mp hj).1
  classical
  -- whether a value reads as r
  have look : ∀ (m : Nat) (hm : m < its.toArray.size) (z : Rd), rs[m]? = some z → SeqAt.EqAt X.A.in1 s its.toArray[m] uy (decide (z = r)) := fun m hm z hz => by
    have hm2 : m < its.length := by simpa using hm
    obtain ⟨z2, e2, r2⟩ := at_rd m hm2 rA
    rw [hz] at e2
    cases e2
    have w := PySem.W.eqAt_alike z.pd r.pd X.A.in1 s its[m] uy _ _ r2 rr (alike_rd z r) (by
      have e : z.pd.depth ≤ 2 := by
        simp only [Rd.pd, intsD, PyData.depth, PyData.depthAll, PySem.W.depth_ints]
        omega
      simp only [Around.in1_units]
      omega)
    rw [rd_eqv] at w
    simpa using w
  have uniq : ∀ (m : Nat) (hm : m < its.toArray.size) (z : Rd), rs[m]? = some z → ∀ m' (hm' : m' < its.toArray.size) z', rs[m']? = some z' → its.toArray[m] = its.toArray[m'] → decide (z = r) = decide (z' = r) := fun m hm z hz m' hm' z' hz' e => by
    have h1 : m < its.length := by simpa using hm
    have h2 : m' < its.length := by simpa using hm'
    obtain ⟨y1, f1, g1⟩ := at_rd m h1 rA
    obtain ⟨y2, f2, g2⟩ := at_rd m' h2 rA
    rw [hz] at f1
    rw [hz'] at f2
    cases f1
    cases f2
    have e2 : its[m] = its[m'] := by simpa using e
    rw [e2] at g1
    have w1 : ∃ b, its[m'] = .ref b := by
      have g3 : Reads s.heap its[m'] (.tuple [.int z'.x, .int z'.y, intsD z'.st]) [] := g2
      generalize its[m'] = vv at g3
      cases g3 with
      | tuple _ _ _ _ => exact ⟨_, rfl⟩
    obtain ⟨b, eb⟩ := w1
    rw [eb] at g1 g2
    rw [(reads_isR g1).one (reads_isR g2)]
  let e : Value → Bool := fun u => decide (∃ (m : Nat) (hm : m < its.toArray.size) (z : Rd), rs[m]? = some z ∧ its.toArray[m] = u ∧ z = r)
  have ee : ∀ (m : Nat) (hm : m < its.toArray.size) (z : Rd), rs[m]? = some z → e its.toArray[m] = decide (z = r) := fun m hm z hz => by
    by_cases c : z = r
    · rw [decide_eq_true c]
      exact decide_eq_true ⟨m, hm, z, hz, rfl, c⟩
    · rw [decide_eq_false c]
      refine decide_eq_false fun ⟨m', hm', z', hz', e', c'⟩ => ?_
      have w := uniq m' hm' z' hz' m hm z hz e'
      rw [decide_eq_true c', decide_eq_false c] at w
      cases w
  have at_ : ∀ (m : Nat) (hm : m < its.toArray.size), ∃ z, rs[m]? = some z := fun m hm => by
    have h1 : m < rs.length := by
      rw [← len]
      simpa using hm
    exact ⟨_, List.getElem?_eq_getElem h1⟩
  refine call_meets PySem.F.slot_tuple_index ⟨_, ho, rfl⟩ PySem.F.entry_tuple_index (PySem.F.args_tuple_index_2 _ _) (TI.tuple_indexAt a its.toArray n dd sl uy e j lj ?_ ?_) ⟨ho, fun u hu2 => ?_, .int (j : Nat), H, I.tok _, ⟨_, rfl⟩, q⟩
  · rw [ee j lj r hj]
    exact decide_eq_true rfl
  · intro m hm hmj
    obtain ⟨z, hz⟩ := at_ m hm
    rw [ee m hm z hz]
    refine decide_eq_false fun c => ?_
    subst c
    have e1 := List.getElem?_eq_some_iff.mp hz
    have e2 := List.getElem?_eq_some_iff.mp hj
    exact absurd ((List.getElem_inj nd).mp (e1.2.trans e2.2.symm)) (Nat.ne_of_lt hmj)
  · obtain ⟨m, hm, rfl⟩ := Array.getElem_of_mem hu2
    obtain ⟨z, hz⟩ := at_ m hm
    rw [ee m hm z hz]
    exact look m hm z hz
end
end K19
/-! more steps: zips, numbers, sets, objects -/
namespace K19
open PySem PySem.Spec PyProof.Rows L2
section
variable {g : Gk} {c : Cg} {ds : List (Option D)} {ms : List MO} {P : D → List MO → Prop} {I : List PyData → List MO → Prop}
/-! ### what is walked -/
theorem pd_new2 {K : PySem.W.Frag} {H : Hp} {T : Addr} {x y : V} {d e : PyData} (n : H T = none) (h1 : Pd K H d x) (h2 : Pd K H e y) : Pd K (upd H T (.tup [x, y])) (.tuple [d, e]) (.ref T) := by
  have s : Stay (fun _ => False) H (upd H T (.tup [x, y])) := .new n
  exact .tup (.of upd_same) (.cons (Pd.mono s _ _ h1) (.cons (Pd.mono s _ _ h2) .nil))
theorem pd_new3 {K : PySem.W.Frag} {H : Hp} {T : Addr} {x y z : V} {d e f : PyData} (n : H T = none) (h1 : Pd K H d x) (h2 : Pd K H e y) (h3 : Pd K H f z) : Pd K (upd H T (.tup [x, y, z])) (.tuple [d, e, f]) (.ref T) := by
  have s : Stay (fun _ => False) H (upd H T (.tup [x, y, z])) := .new n
  exact .tup (.of upd_same) (.cons (Pd.mono s _ _ h1) (.cons (Pd.mono s _ _ h2) (.cons (Pd.mono s _ _ h3) .nil)))
theorem keep_new {H : Hp} {T : Addr} {o : HO} (n : H T = none) : ∀ a u, H a = some u → upd H T o a = some u := fun a u e => by
  rw [upd_ne (ne_of_none e n)]
  exact e
/-- zip of two tuples -/
theorem wi_zip2 {ta : TA} (h : Wa g c ta ds ms fun es ms1 => ∃ xs ys, es = [.p (.tuple xs), .p (.tuple ys)] ∧ xs.length = ys.length ∧ I ((xs.zip ys).map fun p => .tuple [p.1, p.2]) ms1) : Wi g c (RZ.iZipA g.K ta) ds ms I := fun gs as H σ L R q =>
  h gs as H σ L _ fun vs H1 es ms1 L1 le ⟨xs, ys, e, hl, k⟩ => by
    subst e
    obtain ⟨u, v, rfl, L2, hu, hv⟩ := zip2 L1 le
    obtain ⟨a, us, rfl, qa, sa⟩ := Pd.sq hu
    obtain ⟨b, ws, rfl, qb, sb⟩ := Pd.sq hv
    refine ⟨a, b, us, ws, rfl, .inr ⟨qa, qb, q _ H1 _ ms1 [(.ref a, .p (.tuple xs)), (.ref b, .p (.tuple ys))] ((L2.pushP (.tup qb sb)).pushP (.tup qa sa)) (fun p hp => ?_) (fun as2 H2 src i => ?_) k⟩⟩
    · rcases List.mem_cons.mp hp with z | z
      · rw [z]; rfl
      · rw [List.mem_singleton.mp z]; rfl
    · obtain ⟨a2, us2, ea, ra, ta2⟩ := Pd.sq (src _ List.mem_cons_self)
      obtain ⟨b2, ws2, eb, rb, tb2⟩ := Pd.sq (src _ (List.mem_cons_of_mem _ List.mem_cons_self))
      cases ea
      cases eb
      refine ⟨fun y hy => ?_, fun hi => ⟨us2, ws2, ra, rb, .inl ?_⟩⟩
      · rw [List.getElem?_map] at hy
        cases hz : (xs.zip ys)[i]? with
        | none =>
          rw [hz] at hy
          cases hy
        | some p =>
          rw [hz] at hy
          cases hy
          obtain ⟨g1, g2⟩ := List.getElem?_zip_eq_some.mp hz
          obtain ⟨x1, f1, h1⟩ := ta2.get g1
          obtain ⟨x2, f2, h2⟩ := tb2.get g2
          refine ⟨⟨us2, ws2, x1, x2, ra, rb, f1, f2⟩, fun x H3 ⟨T, y1, y2, ev, nT, eH, k1, k2⟩ => ?_⟩
          subst ev eH
          have e1 := k1 us2 ra
          have e2 := k2 ws2 rb
          rw [f1] at e1
          rw [f2] at e2
          cases e1
          cases e2
          exact ⟨keep_new nT, pd_new2 nT h1 h2⟩
      · rw [List.length_map, List.length_zip] at hi
        rw [ta2.length]
        omega
/-- zip of a tuple and a list -/
theorem wi_zipM {ta : TA} (h : Wa g c ta ds ms fun es ms1 => ∃ xs d ys, es = [.p (.tuple xs), d] ∧ lstD d = some ys ∧ xs.length = ys.length ∧ I ((xs.zip ys).map fun p => .tuple [p.1, p.2]) ms1) : Wi g c (iZipM g.K ta) ds ms I := fun gs as H σ L R q =>
  h gs as H σ L _ fun vs H1 es ms1 L1 le ⟨xs, d, ys, e, ed, hl, k⟩ => by
    subst e
    obtain ⟨u, v, rfl, L2, hu, hv⟩ := zip2 L1 le
    obtain ⟨a, us, rfl, qa, sa⟩ := Pd.sq hu
    obtain ⟨b, ws, rfl, qb, sb⟩ := lstD_sq ed hv
    refine ⟨a, b, us, ws, rfl, qa, qb, q _ H1 _ ms1 [(.ref a, .p (.tuple xs)), (.ref b, d)] ((L2.push hv).pushP (.tup qa sa)) (fun p hp => ?_) (fun as2 H2 src i => ?_) k⟩
    · rcases List.mem_cons.mp hp with z | z
      · rw [z]; rfl
      · rw [List.mem_singleton.mp z]
        cases d <;> first | rfl | cases ed
    · obtain ⟨a2, us2, ea, ra, ta2⟩ := Pd.sq (src _ List.mem_cons_self)
      obtain ⟨b2, ws2, eb, rb, tb2⟩ := lstD_sq ed (src _ (List.mem_cons_of_mem _ List.mem_cons_self))
      cases ea
      cases eb
      refine ⟨fun y hy => ?_, fun hi => ⟨us2, ws2, ra, rb, ?_⟩⟩
      · rw [List.getElem?_map] at hy
        cases hz : (xs.zip ys)[i]? with
        | none =>
          rw [hz] at hy
          cases hy
        | some p =>
          rw [hz] at hy
          cases hy
          obtain ⟨g1, g2⟩ := List.getElem?_zip_eq_some.mp hz
          obtain ⟨x1, f1, h1⟩ := ta2.get g1
          obtain ⟨x2, f2, h2⟩ := tb2.get g2
          refine ⟨⟨us2, ws2, x1, x2, ⟨ra, f1⟩, rb, f2⟩, fun x H3 ⟨T, y1, y2, ev, nT, eH, k1, k2⟩ => ?_⟩
          subst ev eH
          have e1 := k1 us2 ra
          have e2 := k2 ws2 rb
          rw [f1] at e1
          rw [f2] at e2
          cases e1
          cases e2
          exact ⟨keep_new nT, pd_new2 nT h1 h2⟩
      · rw [List.length_map, List.length_zip] at hi
        rw [ta2.length, tb2.length]
        omega
/-- zip of three tuples -/
theorem wi_zip3 {ta : TA} (h : Wa g c ta ds ms fun es ms1 => ∃ xs ys zs, es = [.p (.tuple xs), .p (.tuple ys), .p (.tuple zs)] ∧ xs.length = ys.length ∧ ys.length = zs.length ∧ I ((xs.zip (ys.zip zs)).map fun p => .tuple [p.1, p.2.1, p.2.2]) ms1) :
    Wi g c (iZip3 g.K ta) ds ms I := fun gs as H σ L R q =>
  h gs as H σ L _ fun vs H1 es ms1 L1 le ⟨xs, ys, zs, e, hl, hl2, k⟩ => by
    subst e
    obtain ⟨u, v, w, rfl⟩ : ∃ u v w, vs = [u, v, w] := by
      match vs, le with
      | [u, v, w], _ => exact ⟨u, v, w, rfl⟩
    have hu : Pd g.K H1 (.tuple xs) u := L1.top
    have hv : Pd g.K H1 (.tuple ys) v := L1.pop.top
    have hw : Pd g.K H1 (.tuple zs) w := L1.pop.pop.top
    have L2 : Lo g c gs as H1 σ ds ms1 := L1.pop.pop.pop
    obtain ⟨a, us, rfl, qa, sa⟩ := Pd.sq hu
    obtain ⟨b, ws, rfl, qb, sb⟩ := Pd.sq hv
    obtain ⟨d, ts, rfl, qd, sd⟩ := Pd.sq hw
    refine ⟨a, b, d, us, ws, ts, rfl, qa, qb, qd, q _ H1 _ ms1 [(.ref a, .p (.tuple xs)), (.ref b, .p (.tuple ys)), (.ref d, .p (.tuple zs))] (((L2.pushP (.tup qd sd)).pushP (.tup qb sb)).pushP (.tup qa sa)) (fun p hp => ?_) (fun as2 H2 src i => ?_) k⟩
    · rcases List.mem_cons.mp hp with z | z
      · rw [z]; rfl
      rcases List.mem_cons.mp z with z | z
      · rw [z]; rfl
      · rw [List.mem_singleton.mp z]; rfl
    · obtain ⟨a2, us2, ea, ra, ta2⟩ := Pd.sq (src _ List.mem_cons_self)
      obtain ⟨b2, ws2, eb, rb, tb2⟩ := Pd.sq (src _ (List.mem_cons_of_mem _ List.mem_cons_self))
      obtain ⟨d2, ts2, ed, rd, td2⟩ := Pd.sq (src _ (List.mem_cons_of_mem _ (List.mem_cons_of_mem _ List.mem_cons_self)))
      cases ea
      cases eb
      cases ed
      refine ⟨fun y hy => ?_, fun hi => ⟨us2, ws2, ts2, ra, rb, rd, ?_⟩⟩
      · rw [List.getElem?_map] at hy
        cases hz : (xs.zip (ys.zip zs))[i]? with
        | none =>
          rw [hz] at hy
          cases hy
        | some p =>
          rw [hz] at hy
          cases hy
          obtain ⟨g1, g23⟩ := List.getElem?_zip_eq_some.mp hz
          obtain ⟨g2, g3⟩ := List.getElem?_zip_eq_some.mp g23
          obtain ⟨x1, f1, h1⟩ := ta2.get g1
          obtain ⟨x2, f2, h2⟩ := tb2.get g2
          obtain ⟨x3, f3, h3⟩ := td2.get g3
          refine ⟨⟨us2, ws2, ts2, x1, x2, x3, ⟨ra, f1⟩, ⟨rb, f2⟩, rd, f3⟩, fun x H3 ⟨T, y1, y2, y3, ev, nT, eH, k1, k2, k3⟩ => ?_⟩
          subst ev eH
          have e1 := k1 us2 ra
          have e2 := k2 ws2 rb
          have e3 := k3 ts2 rd
          rw [f1] at e1
          rw [f2] at e2
          rw [f3] at e3
          cases e1
          cases e2
          cases e3
          exact ⟨keep_new nT, pd_new3 nT h1 h2 h3⟩
      · rw [List.length_map, List.length_zip, List.length_zip] at hi
        rw [ta2.length, tb2.length, td2.length]
        omega
/-- enumerate of a tuple -/
def enD (xs : List PyData) : List PyData := (List.range xs.length).map fun i : Nat => .tuple [.int (i : Int), xs.getD i .none]
theorem enD_get {xs : List PyData} {i : Nat} {y : PyData} (h : (enD xs)[i]? = some y) : ∃ z, xs[i]? = some z ∧ y = .tuple [.int (i : Int), z] := by
  unfold enD at h
  rw [List.getElem?_map] at h
  by_cases hi : i < xs.length
  · rw [List.getElem?_range hi] at h
    cases h
    refine ⟨xs[i], List.getElem?_eq_getElem hi, ?_⟩
    show PyData.tuple [.int (i : Int), xs.getD i .none] = _
    rw [List.getD_eq_getElem?_getD, List.getElem?_eq_getElem hi]
    rfl
  · rw [List.getElem?_eq_none (by rw [List.length_range]; omega)] at h
    cases h
theorem enD_len (xs : List PyData) : (enD xs).length = xs.length := by
  unfold enD
  rw [List.length_map, List.length_range]
theorem wi_enT {ta : TA} (h : Wa g c ta ds ms fun es ms1 => ∃ xs, es = [.p (.tuple xs)] ∧ I (enD xs) ms1) : Wi g c (iEnT g.K ta) ds ms I := fun gs as H σ L R q =>
  h gs as H σ L _ fun vs H1 es ms1 L1 le ⟨xs, e, k⟩ => by
    subst e
    obtain ⟨u, rfl, L2, hu⟩ := zip1 L1 le
    obtain ⟨a, us, rfl, qa, sa⟩ := Pd.sq hu
    refine ⟨a, us, rfl, qa, q _ H1 _ ms1 [(.ref a, .p (.tuple xs))] (L2.pushP (.tup qa sa)) (fun p hp => by rw [List.mem_singleton.mp hp]; rfl) (fun as2 H2 src i => ?_) k⟩
    obtain ⟨a2, us2, ea, ra, ta2⟩ := Pd.sq (src _ List.mem_cons_self)
    cases ea
    refine ⟨fun y hy => ?_, fun hi => ⟨us2, ra, by rw [ta2.length, hi, enD_len]⟩⟩
    obtain ⟨z, hz, rfl⟩ := enD_get hy
    obtain ⟨x1, f1, h1⟩ := ta2.get hz
    refine ⟨⟨us2, x1, ra, f1⟩, fun x H3 ⟨T, y1, ev, nT, eH, k1⟩ => ?_⟩
    subst ev eH
    have e1 := k1 us2 ra
    rw [f1] at e1
    cases e1
    exact ⟨keep_new nT, pd_new2 nT (.int _) h1⟩
/-! ### operators, calls -/
theorem wr_mulW {i j : Int} (hc : CMulW i j) (h : P (.p (.int (i * j))) ms) : Wr g c (rI CMulW fun i j => .int (i * j)) (.p (.int i)) (.p (.int j)) ms P := wr_I hc h
theorem wr_leD {r q : Rd} (lt : q.lt r) (h : P (.p (.bool false)) ms) : Wr g c (rGtRd g.K) (.p r.pd) (.p q.pd) ms P := fun gs as H σ ds u v L hu hv Q k => ⟨r, q, hu, hv, lt, k _ H _ ms (L.pushP (.bl false)) h⟩
theorem rep_flat (k : Nat) (i : Int) : (List.replicate k [V.int i]).flatten = (List.replicate k i).map V.int := by
  induction k with
  | zero => rfl
  | succ k ih => rw [List.replicate_succ, List.flatten_cons, ih, List.replicate_succ]; rfl
theorem wr_rep {i k : Int} (h1 : 1 ≤ k ∧ k ≤ 1000) (h : P (.p (intsD (List.replicate k.toNat i))) ms) : Wr g c (rRepP g.K) (.p (.tuple [.int i])) (.p (.int k)) ms P := fun gs as H σ ds u v L hu hv Q q => by
  obtain ⟨a, rfl, ha⟩ := Pd.toInts (ns := [i]) hu
  cases hv
  refine ⟨a, k, _, rfl, rfl, ha, (fun z => nomatch z), h1.1, h1.2, Nat.le_of_ble_eq_true rfl, fun e => ?_, fun p np => ?_⟩
  · subst e
    exact q _ H _ ms (L.pushP hu) h
  · have e2 : (List.replicate k.toNat ([i].map V.int)).flatten = (List.replicate k.toNat i).map V.int := rep_flat _ _
    rw [e2]
    exact q _ _ _ ms ((L.laid np).pushP (.tup (.of upd_same) (Pds.ofInts _))) h
theorem we_revP {te : TE} (h : We g c te ds ms fun x ms1 => ∃ y z, x = .p (.tuple [y, z]) ∧ P (.p (.tuple [z, y])) ms1) : We g c (tRevP g.K te) ds ms P := fun gs as H σ L Q q =>
  h gs as H σ L _ fun v H1 x ms1 L1 ⟨y, z, e, k⟩ => by
    subst e
    obtain ⟨a, vs, rfl, hq, hs⟩ := Pd.sq L1.top
    cases hs with
    | cons h1 hs =>
      cases hs with
      | cons h2 hs =>
        cases hs
        refine ⟨a, _, _, rfl, hq, fun p np => ?_⟩
        exact q _ _ _ ms1 ((L1.pop.laid np).pushP (pd_new2 np h2 h1)) k
theorem wc_sortTI {ns : List Int} (h : ∀ ns' : List Int, ns'.Perm ns → ns'.Pairwise (· ≤ ·) → P (.nl (ns'.map .int)) ms) : Wc g c (rSortTI g.K) [.p (intsD ns)] ms P := fun gs as H σ ds vs L le Q q => by
  obtain ⟨v, rfl, L1, hv⟩ := zip1 L le
  obtain ⟨a, rfl, ha⟩ := Pd.toInts hv
  refine ⟨a, ns, rfl, ha, fun ns' p pm srt np => ?_⟩
  obtain ⟨n0, n1, n2⟩ := L1.new np
  exact q _ _ (.nl (ns'.map .int)) ms ((L1.laid np).push ⟨p, _, rfl, upd_same, n0, n1, n2, Pds.ofInts _⟩) (h ns' pm srt)
/-- list(range(n)) -/
theorem rgV_rng (n : Nat) : rgV 0 n = (List.range n).map fun i : Nat => V.int (i : Int) := by
  unfold rgV
  rw [show ((n : Int) - 0).toNat = n by omega]
  exact List.map_congr_left fun i _ => by rw [Int.zero_add]
theorem we_listRg {te : TE} (h : We g c te ds ms fun d ms1 => ∃ n : Nat, d = .p (.int n) ∧ n ≤ 1000 ∧ P (.nl ((List.range n).map fun i : Nat => .int (i : Int))) ms1) : We g c (tLstRg (tRg1 te)) ds ms P := fun gs as H σ L Q q =>
  h gs as H σ L _ fun v H1 d ms1 L1 ⟨n, e, hn, k⟩ => by
    subst e
    have hv := L1.top
    cases hv
    refine ⟨n, rfl, .of_le (Int.le_refl 0) (by omega) (by omega) (by omega), fun p np => ?_⟩
    obtain ⟨n0, n1, n2⟩ := L1.pop.new np
    refine q _ _ (.nl _) ms1 ((L1.pop.laid np).push ⟨p, _, rfl, upd_same, n0, n1, n2, ?_⟩) k
    rw [rgV_rng]
    have e : ((List.range n).map fun i : Nat => V.int (i : Int)) = ((List.range n).map fun i : Nat => (i : Int)).map V.int := by rw [List.map_map]; rfl
    have e2 : ((List.range n).map fun i : Nat => PyData.int (i : Int)) = ((List.range n).map fun i : Nat => (i : Int)).map .int := by rw [List.map_map]; rfl
    rw [e, e2]
    exact Pds.ofInts _
/-! ### the set, sorted, a tuple: the readings -/
theorem rds_refs {K : PySem.W.Frag} {H : Hp} : ∀ {rs : List Rd} {vs : List V}, Pds K H (rs.map Rd.pd) vs → ∃ ks : List (Addr × Rd), vs = ks.map (fun p => V.ref p.1) ∧ ks.map (·.2) = rs ∧ ∀ p ∈ ks, Pd K H p.2.pd (.ref p.1)
  | [], _, h => by
    cases h
    exact ⟨[], rfl, rfl, fun p hp => absurd hp List.not_mem_nil⟩
  | r :: rs, _, h => by
    rw [List.map_cons] at h
    cases h with
    | cons h1 hs =>
      obtain ⟨ks, rfl, e2, h3⟩ := rds_refs hs
      obtain ⟨a, us, rfl, _, _⟩ := Pd.sq h1
      refine ⟨(a, r) :: ks, rfl, by rw [List.map_cons, e2], fun p hp => ?_⟩
      rcases List.mem_cons.mp hp with z | z
      · rw [z]
        exact h1
      · exact h3 p z
theorem pds_refs {K : PySem.W.Frag} {H : Hp} : ∀ {ks : List (Addr × Rd)}, (∀ p ∈ ks, Pd K H p.2.pd (.ref p.1)) → Pds K H ((ks.map (·.2)).map Rd.pd) (ks.map fun p => V.ref p.1)
  | [], _ => .nil
  | _ :: ks, h => .cons (h _ List.mem_cons_self) (pds_refs fun p hp => h p (List.mem_cons_of_mem _ hp))
/-- what reads as a sequence of readings: a list from outside or new, an own one, a tuple -/
def seqD (ms : List MO) : D → Option (List PyData)
  | .l xs => some xs
  | .nl xs => some xs
  | .p (.tuple xs) => some xs
  | .m k => match ms[k]? with
    | some (.l xs) => some xs
    | _ => none
  | _ => none
theorem seqD_at {gs : List (V × D)} {as : List Addr} {H : Hp} {σ : L2.St} {d : D} {u : V} {xs : List PyData} (L : Lo g c gs as H σ ds ms) (h : IsD g c as H d u) (e : seqD ms d = some xs) : ∃ a vs, u = .ref a ∧ (SqL g.K H a vs ∨ SqT g.K H a vs) ∧ Pds g.K H xs vs := by
  cases d with
  | l ys =>
    cases e
    obtain ⟨a, vs, rfl, h1, h2⟩ := lstD_sq (c := c) (x := .l xs) rfl h
    exact ⟨a, vs, rfl, .inl h1, h2⟩
  | nl ys =>
    cases e
    obtain ⟨a, vs, rfl, h1, h2⟩ := lstD_sq (c := c) (x := .nl xs) rfl h
    exact ⟨a, vs, rfl, .inl h1, h2⟩
  | p d =>
    cases d with
    | tuple ys =>
      cases e
      obtain ⟨a, vs, rfl, h1, h2⟩ := Pd.sq h
      exact ⟨a, vs, rfl, .inr h1, h2⟩
    | _ => cases e
  | m k =>
    obtain ⟨a, ha, rfl⟩ := h
    have e2 : (match ms[k]? with | some (.l xs) => some xs | _ => none) = some xs := e
    cases q : ms[k]? with
    | none =>
      rw [q] at e2
      cases e2
    | some m =>
      rw [q] at e2
      cases m with
      | d kvs => cases e2
      | l ys =>
        cases e2
        obtain ⟨vs, hq, hs⟩ := L.own k a _ ha q
        exact ⟨a, vs, rfl, .inl (.inl (.inl hq)), hs⟩
  | _ => cases e
/-- sorted(set(xs)): strictly ascending, of the same readings -/
theorem we_sortSet {te : TE} {w : World} (h : We g c te ds ms fun d ms1 => ∃ rs : List Rd, seqD ms1 d = some (rs.map Rd.pd) ∧ rs.length < 64 ∧ ∀ rs' : List Rd, Asc rs' → (∀ r, r ∈ rs' ↔ r ∈ rs) → P (.nl (rs'.map Rd.pd)) ms1) :
    We g c (tCB (rSortRd g.K w) (tCons (tCB (rSetRd g.K w) (tCons te tNil)) tNil)) ds ms P := fun gs as H σ L Q q =>
  h gs as H σ L _ fun v H1 d ms1 L1 ⟨rs, e, few, k⟩ => by
    obtain ⟨a, vs, rfl, hq, hs⟩ := seqD_at L1 L1.top e
    obtain ⟨ks, rfl, e2, hk⟩ := rds_refs hs
    refine ⟨a, ks, rfl, hq, hk, by rw [← e2, List.length_map] at few; exact few, fun b L nb l1 l2 nd => ?_⟩
    have y : Stay (fun _ => False) H1 (upd H1 b (setRO w b L)) := .new nb
    refine ⟨b, L, rfl, upd_same, fun p hp => Pd.mono y _ _ (hk p (l1 p hp)), fun L' p pm asc np => ?_⟩
    have L2 := L1.pop.laid (o := setRO w b L) nb
    obtain ⟨n0, n1, n2⟩ := L2.new np
    have y2 : Stay (fun _ => False) (upd H1 b (setRO w b L)) (upd (upd H1 b (setRO w b L)) p (.lst (L'.map fun p => V.ref p.1))) := .new np
    refine q _ _ (.nl ((L'.map (·.2)).map Rd.pd)) ms1 ((L2.laid np).push ⟨p, _, rfl, upd_same, n0, n1, n2, pds_refs fun r hr => Pd.mono y2 _ _ (Pd.mono y _ _ (hk r (l1 r (pm.mem_iff.mp hr))))⟩) (k _ asc fun r => ?_)
    rw [(pm.map (·.2)).mem_iff, ← e2]
    refine ⟨fun z => ?_, fun z => ?_⟩
    · obtain ⟨p0, hp0, rfl⟩ := List.mem_map.mp z
      exact List.mem_map.mpr ⟨p0, l1 p0 hp0, rfl⟩
    · obtain ⟨p0, hp0, rfl⟩ := List.mem_map.mp z
      exact l2 p0 hp0
abbrev rTupF (K : PySem.W.Frag) : List V → Hp → VK → Prop := fun xs H Q => ∃ p ys, xs = [.ref p] ∧ SqL K H p ys ∧ ∀ l o, o.dict = none → H l = none → Q (.ref l) (upd H l (.frz o (.tup ys)))
theorem wc_tupF {x : D} {rs : List Rd} (e : lstD x = some (rs.map Rd.pd)) (h : P (.rdsF rs) ms) : Wc g c (rTupF g.K) [x] ms P := fun gs as H σ ds vs L le Q q => by
  obtain ⟨v, rfl, L1, hv⟩ := zip1 L le
  obtain ⟨a, ws, rfl, hq, hs⟩ := lstD_sq e hv
  refine ⟨a, ws, rfl, hq, fun l o ho nl => ?_⟩
  have y : Stay (fun _ => False) H (upd H l (.frz o (.tup ws))) := .new nl
  exact q _ _ (.rdsF rs) ms ((L1.laid nl).push ⟨.tup (.inl (.inr ⟨o, upd_same⟩)) (Pds.mono y _ _ hs), l, o, ws, rfl, upd_same, ho⟩) h
/-- rs.index(r) -/
def tIdx (K : PySem.W.Frag) (to te : TE) : TE := fun σ H Q => to σ H fun x H1 => NoDict H1 x ∧ te σ H1 fun y H2 => rIdxRd K x [y] H2 Q
theorem we_idx {to : TE} {te : TE} (h : We g c to ds ms fun d ms1 => ∃ rs : List Rd, d = .rdsF rs ∧ We g c te ds ms1 fun x ms2 => ∃ (r : Rd) (j : Nat), x = .p r.pd ∧ rs[j]? = some r ∧ rs.Nodup ∧ P (.p (.int j)) ms2) : We g c (tIdx g.K to te) ds ms P := fun gs as H σ L Q q =>
  h gs as H σ L _ fun u H1 d ms1 L1 ⟨rs, e, h2⟩ => by
    subst e
    obtain ⟨hp, nd0⟩ := L1.top
    refine ⟨nd0, h2 _ as H1 σ L1 _ fun v H2 x ms2 L2 ⟨r, j, e2, hj, nd, k⟩ => ?_⟩
    subst e2
    obtain ⟨hp2, a, o, us, rfl, _⟩ := L2.pop.top
    exact ⟨a, v, r, rs, j, rfl, rfl, hp2, L2.top, hj, nd, q _ H2 _ ms2 (L2.pop.pop.pushP (.int _)) k⟩
end
section
variable {X : Cx}
theorem cr_tupF : CallR X (.type "tuple") (rTupF X.K) := by
  intro pins s σ H xs us Q I r h
  obtain ⟨p, ys, rfl, hq, q⟩ := h
  rw [Vals.ref1 r]
  obtain ⟨its, rv, pl, hz⟩ := I.list hq
  have hlen := rv.length
  refine call_tuple_list pl.isList (fun h' kp => ?_) (by simp only [List.size_toArray]; omega)
  have I1 : Inv X pins σ H { s with heap := h' } := I.kept (t' := s.toks) kp
  have new : (h'.push { cls := .type "tuple", data := .seq its.toArray }).get? h'.objs.size = some { cls := .type "tuple", data := .seq its.toArray } := Heap.get?_push_size _ rfl
  exact ⟨.ref h'.objs.size, _, I1.laid (t' := s.toks) (o := .frz { cls := .type "tuple", data := .seq its.toArray } (.tup ys)) (fun b o e => Heap.get?_push_of_some _ e) (Nat.le_refl _) ⟨new, hz, its, rv, IsTup.new _ _⟩, rfl, q _ _ rfl (I1.hok.fresh (Nat.le_refl _))⟩
theorem pe_idx {o e : Expr} {to te : TE} {apos cpos : Pos} (hu : X.A.units + 65 < cLine) (ho : PE X o to) (he : PE X e te) (hbase : attributeBase o "index" X.env (eval o X.env) = eval o X.env := by rfl)
    (hfew : ((backTo cpos (starEach [e] X.env)).all (fun x => !x.1) && (backToKw cpos (keywordEach [] X.env)).all (fun x => x.1.isSome) && decide ([e].length + ([] : List Keyword).length + (if ([] : List Keyword).isEmpty then 0 else 1) < 30)) = true := by rfl)
    (hline : (apos.endLine == cpos.line) = true := by rfl) (hs : starEach [e] X.env = (false, eval e X.env) :: starEach [] X.env := by rfl) (hp : (backTo cpos (starEach [] X.env)).any (·.1) = false := by rfl) :
    PE X (.Call (.Attribute o "index" apos) [e] [] cpos) (tIdx X.K to te) := by
  refine ⟨fun pins s σ H Q I h => wpAny_Call_method_late hbase hfew hline rfl (thn (ho.run pins s σ H _ I h) fun v s1 ⟨x, H1, I1, r1, nd, q1⟩ => ?_)⟩
  obtain ⟨a, ob, us, ex, ha, hob⟩ := id nd
  subst ex
  cases r1
  obtain ⟨g1, hz, its, rv, ⟨o2, go, hc, n, hd⟩⟩ := I1.hok a _ ha
  rw [g1] at go
  cases go
  refine ⟨"tuple", "tuple.index", PySem.F.plainAttrs_tuple, PySem.F.slot_tuple_index, PySem.F.type_tuple_index, ⟨_, g1, hc⟩, fun b e => ?_, ?_⟩
  · cases e
    exact ⟨ob, g1, hob⟩
  · have hA := (pa_cons he pa_nil hs).run cpos pins s1 σ H1 (fun ys H2 => rIdxRd X.K (.ref a) ys H2 Q) I1 q1
    rw [hs] at hA ⊢
    refine Calls.callWith_builtin (by show (false || (backTo cpos (starEach [] X.env)).any (·.1)) = false; rw [hp]; rfl) (Calls.evalArgs_plain (thn hA fun ws s2 ⟨vs, H2, I2, r2, q2⟩ => ?_))
    exact mt_tupIndexD hu pins s2 σ H2 (.ref a) vs (.ref a) ws Q I2 rfl r2 q2
end
end K19
/-! objects: making, methods -/
namespace K19
open PySem PySem.Spec PyProof.Rows L2
/-- a class that the callers know: its __init__'s promise -/
structure KnC (Pg : Program) (w : World) (g : Gk) (mg : Str → Option Value) (base : Heap) (x : Str) (C : Addr) (k : Nat) (ps : List Str) (sp : Sp) : Prop where
  ex : ∃ f fd, Mk g.K C f ∧ FnOk Pg w g.K mg base CX0 k f fd ps sp ∧ mg x = some (.ref C) ∧ Binds g.K fd ps []
/-- a method that the callers know -/
structure KnM (Pg : Program) (w : World) (g : Gk) (mg : Str → Option Value) (base : Heap) (C : Addr) (m : Str) (k : Nat) (ps : List Str) (sp : Sp) : Prop where
  ex : ∃ f fd, Meth g.K C m f ∧ FnOk Pg w g.K mg base CX0 k f fd ps sp ∧ Binds g.K fd ps []
section
variable {g : Gk}
theorem pe_mkC {X : Cx} {k : Nat} {x : Str} {C : Addr} {ps : List Str} {sp : Sp} {e : Expr} {es : List Expr} {t : TA} {p pos : Pos} (hK : X.K = g.K) (M : KnC X.prog X.w g X.mg X.base x C k ps sp) (hr : Room (k + 1) X.A) (hg : Gl X x) (ha : PA X (e :: es) t)
    (hdb : (x == ("__debug__" : Str)) = false := by decide) (he : starEach (e :: es) X.env = (false, eval e X.env) :: starEach es X.env := by rfl) (hpl : (backTo pos (starEach es X.env)).any (·.1) = false := by rfl) :
    PE X (.Call (.Name x p) (e :: es) [] pos) (tMake C sp [] E0 t) := by
  obtain ⟨f, fd, mk, F, hm, hb⟩ := M.ex
  rw [← hK] at mk F hb
  exact pe_make mk F hr hg hm hb .nil pass0 ha hdb he hpl
theorem pe_mtC {X : Cx} {k : Nat} {C : Addr} {m : Str} {ps : List Str} {sp : Sp} {o e : Expr} {es : List Expr} {ta : TE} {t : TA} {apos pos : Pos} {pl : Sem Bool} (hK : X.K = g.K) (c : Cls g.K C) (M : KnM X.prog X.w g X.mg X.base C m k ps sp) (hr : Room k X.A) (he : PE X o ta) (ha : PA X (e :: es) t)
    (hst : starEach (e :: es) X.env = (false, eval e X.env) :: starEach es X.env := by rfl) (hpl : (backTo pos (starEach es X.env)).any (·.1) = false := by rfl)
    (ht : eval (.Call (.Attribute o m apos) (e :: es) [] pos) X.env = (do
      let ov ← eval o X.env
      standAt apos.atName
      let (f, first) ← holding [ov] (getMethod ov m pl)
      callWith pos f first (backTo pos (starEach (e :: es) X.env)) (backToKw pos (keywordEach [] X.env))) := by rfl) :
    PE X (.Call (.Attribute o m apos) (e :: es) [] pos) (tMeth C m sp [] E0 ta t) := by
  obtain ⟨f, fd, hm, F, hb⟩ := M.ex
  rw [← hK] at hm F hb c
  exact pe_meth he c hm F hr hb .nil pass0 ha hst hpl ht
end
/-- Summary.__init__ -/
def spInitS (g : Gk) : Sp := fun vs H Q _ => ∃ x dx v1 v2 v3 v4 v5 v6 v7, vs = [.ref x, v1, v2, v3, v4, v5, v6, v7] ∧ H x = some (.ins g.CS dx []) ∧
  Q .non (upd H x (.ins g.CS dx [("begin", v1), ("end", v2), ("length", v3), ("added", v4), ("least", v5), ("most", v6), ("stands", v7)]))
/-- the program's right parts -/
def PrgOk (s t : Int) (rs : List Rd) : Prop := 1 ≤ s ∧ s ≤ 4 ∧ 1 ≤ t ∧ t ≤ 8 ∧ rs.length ≤ 24 ∧ (∀ r ∈ rs, r.ok s t) ∧ Asc rs
/-- Program.__init__ -/
def spInitP (g : Gk) : Sp := fun vs H Q _ => ∃ x dx rv s t rs, vs = [.ref x, .int s, .int t, rv] ∧ H x = some (.ins g.CP dx []) ∧ Pd g.K H (rds rs) rv ∧ PrgOk s t rs ∧
  ∀ H' rv', (∀ a o, a ≠ x → H a = some o → H' a = some o) → H' x = some (.ins g.CP dx [("sides", .int s), ("tables", .int t), ("readings", rv')]) → Pd g.K H' (rds rs) rv' → Q .non H'
/-- Program.keep -/
def spKeep (g : Gk) : Sp := fun vs H Q _ => ∃ x dx fs v1 v2 v3, vs = [.ref x, v1, v2, v3] ∧ H x = some (.ins g.CP dx fs) ∧ (fs = [] ∨ ∃ a b d, fs = ([("sides", a), ("tables", b), ("readings", d)] : List (Str × V))) ∧
  Q .non (upd H x (.ins g.CP dx [("sides", v1), ("tables", v2), ("readings", v3)]))
section
variable {g : Gk} {c : Cg} {ds : List (Option D)} {ms : List MO} {P : D → List MO → Prop}
theorem pd_oiV {K : PySem.W.Frag} {H : Hp} : ∀ {o : Option Int} {v : V}, Pd K H (oi o) v → v = oiV o
  | none, _, h => by cases h; rfl
  | some _, _, h => by cases h; rfl
theorem we_mkS {ta : TA} (h : Wa g c ta ds ms fun es ms1 => ∃ S : Sm, es = [.p (oi S.b), .p (oi S.e), .p (.int S.len), .p (intsD S.ad), .p (intsD S.le), .p (intsD S.mo), .p (intsD S.st)] ∧ P (.sm S) ms1) : We g c (tMake g.CS (spInitS g) [] E0 ta) ds ms P := fun gs as H σ L Q q =>
  h gs as H σ L _ fun vs H1 es ms1 L1 le ⟨S, e, k⟩ => by
    subst e
    obtain ⟨v1, v2, v3, v4, v5, v6, v7, rfl⟩ : ∃ v1 v2 v3 v4 v5 v6 v7, vs = [v1, v2, v3, v4, v5, v6, v7] := by
      match vs, le with
      | [v1, v2, v3, v4, v5, v6, v7], _ => exact ⟨v1, v2, v3, v4, v5, v6, v7, rfl⟩
    have h1 := pd_oiV L1.top
    have h2 := pd_oiV L1.pop.top
    have h3 := L1.pop.pop.top
    have h4 : Pd g.K H1 (intsD S.ad) v4 := L1.pop.pop.pop.top
    have h5 : Pd g.K H1 (intsD S.le) v5 := L1.pop.pop.pop.pop.top
    have h6 : Pd g.K H1 (intsD S.mo) v6 := L1.pop.pop.pop.pop.pop.top
    have h7 : Pd g.K H1 (intsD S.st) v7 := L1.pop.pop.pop.pop.pop.pop.top
    have L2 : Lo g c gs as H1 σ ds ms1 := L1.pop.pop.pop.pop.pop.pop.pop
    cases h3
    subst h1 h2
    intro x dx nx ndx ne
    have nx2 : upd H1 dx (.own x) x = none := by rw [upd_ne (Ne.symm ne)]; exact nx
    refine ⟨x, dx, _, _, _, _, _, _, _, rfl, upd_same, rfl, ?_⟩
    rw [upd_upd]
    have y : Stay (fun _ => False) H1 (upd (upd H1 dx (.own x)) x (.ins g.CS dx [("begin", oiV S.b), ("end", oiV S.e), ("length", .int S.len), ("added", v4), ("least", v5), ("most", v6), ("stands", v7)])) := fun a o e n => by
      rw [upd_ne (ne_of_none e nx), upd_ne (ne_of_none e ndx)]
      exact e
    exact q _ _ (.sm S) ms1 (((L2.laid ndx).laid nx2).push ⟨x, dx, v4, v5, v6, v7, rfl, upd_same, Pd.mono y _ _ h4, Pd.mono y _ _ h5, Pd.mono y _ _ h6, Pd.mono y _ _ h7⟩) k
theorem we_mkP {ta : TA} (h : Wa g c ta ds ms fun es ms1 => ∃ s t rs, es = [.p (.int s), .p (.int t), .p (rds rs)] ∧ PrgOk s t rs ∧ P (.prg s t rs false) ms1) : We g c (tMake g.CP (spInitP g) [] E0 ta) ds ms P := fun gs as H σ L Q q =>
  h gs as H σ L _ fun vs H1 es ms1 L1 le ⟨s, t, rs, e, ok, k⟩ => by
    subst e
    obtain ⟨v1, v2, v3, rfl⟩ : ∃ v1 v2 v3, vs = [v1, v2, v3] := by
      match vs, le with
      | [v1, v2, v3], _ => exact ⟨v1, v2, v3, rfl⟩
    have h1 := L1.top
    have h2 := L1.pop.top
    have h3 : Pd g.K H1 (rds rs) v3 := L1.pop.pop.top
    have L2 : Lo g c gs as H1 σ ds ms1 := L1.pop.pop.pop
    cases h1
    cases h2
    intro x dx nx ndx ne
    have nx2 : upd H1 dx (.own x) x = none := by rw [upd_ne (Ne.symm ne)]; exact nx
    have y : Stay (fun _ => False) H1 (upd (upd H1 dx (.own x)) x (.ins g.CP dx [])) := fun a o e n => by
      rw [upd_ne (ne_of_none e nx), upd_ne (ne_of_none e ndx)]
      exact e
    refine ⟨x, dx, v3, s, t, rs, rfl, upd_same, Pd.mono y _ _ h3, ok, fun H' rv' keep hx hr => ⟨rfl, ?_⟩⟩
    have same : ∀ a o, H1 a = some o → H' a = some o := fun a o e => keep a o (ne_of_none e nx) (y a o e fun _ z => z)
    exact q _ _ (.prg s t rs false) ms1 ((L2.same same).push ⟨x, dx, rv', rfl, hx, hr, fun z => nomatch z⟩) k
theorem we_meth {C : Addr} {m : Str} {w : DSp} {E : XK} {ta : TE} {t : TA} (h : We g c ta ds ms fun d ms1 => ∃ S, d = .sm S ∧ C = g.CS ∧ (∀ va vl vm vs : V, ([("begin", oiV S.b), ("end", oiV S.e), ("length", .int S.len), ("added", va), ("least", vl), ("most", vm), ("stands", vs)] : List (Str × V)).lookup m = none) ∧
    Wa g c t ds ms1 fun es ms2 => (es.all fun e => okA (argD ms2 e)) = true ∧ w (.sm S :: es.map (argD ms2)) fun d => okR d = true ∧ P d ms2) (wm : ∀ es (Q Q' : D → Prop), (∀ d, Q d → Q' d) → w es Q → w es Q') : We g c (tMeth C m (spD g w) [] E ta t) ds ms P := fun gs as H σ L Q q =>
  h gs as H σ L _ fun v H1 d ms1 L1 ⟨S, e, eC, hm, h2⟩ => by
    subst e eC
    obtain ⟨x, dx, va, vl, vm, vs, rfl, hx, _⟩ := L1.top
    refine ⟨x, dx, _, rfl, hx, hm va vl vm vs, h2 _ as H1 σ L1 _ fun us H2 es ms2 L2 le ⟨hok, k⟩ => ?_⟩
    rw [List.append_nil]
    have hv : IsD g c as H2 (.sm S) (.ref x) := L2.gh (.ref x, .sm S) (List.mem_append_right _ List.mem_cons_self)
    have L3 : Lo g c ((V.ref x :: us).zip (D.sm S :: es) ++ gs) as H2 σ ds ms2 := by
      refine (L2.push hv).weak fun p hp => ?_
      rw [List.zip_cons_cons, List.cons_append] at hp
      rcases List.mem_cons.mp hp with z | z
      · rw [z]
        exact List.mem_cons_self
      · rcases List.mem_append.mp z with z | z
        · exact List.mem_cons_of_mem _ (List.mem_append_left _ z)
        · exact List.mem_cons_of_mem _ (List.mem_append_right _ (List.mem_cons_of_mem _ z))
    refine call_core L3 (by rw [List.length_cons, List.length_cons, le]) (fun e he => ?_) k wm q
    rcases List.mem_cons.mp he with z | z
    · rw [z]
      rfl
    · exact List.all_eq_true.mp hok e z
end
end K19
/-! comprehensions over ints, small steps -/
namespace K19
open PySem PySem.Spec PyProof.Rows L2
section
variable {g : Gk} {c : Cg} {ds : List (Option D)} {ms : List MO} {P : D → List MO → Prop} {N : List (Option D) → List MO → Prop} {R : D → List MO → Prop}
theorem idx_u {k : Nat} {A : Around} (r : Room k A) : A.units + 65 < cLine := by
  have := r.un
  omega
theorem zip_ints (xs ys : List Int) : (((xs.map PyData.int).zip (ys.map PyData.int)).map fun p => PyData.tuple [p.1, p.2]) = (xs.zip ys).map fun p => .tuple [.int p.1, .int p.2] := by
  rw [List.zip_map, List.map_map]
  rfl
theorem zip3_ints (xs ys zs : List Int) : (((xs.map PyData.int).zip ((ys.map PyData.int).zip (zs.map PyData.int))).map fun p => PyData.tuple [p.1, p.2.1, p.2.2]) = (xs.zip (ys.zip zs)).map fun p => .tuple [.int p.1, .int p.2.1, .int p.2.2] := by
  rw [List.zip_map, List.zip_map, List.map_map]
  rfl
def z3 (F : Int → Int → Int → Int) (xs ys zs : List Int) : List Int := (xs.zip (ys.zip zs)).map fun p => F p.1 p.2.1 p.2.2
theorem zw_ints (F : Int → Int → Int) (xs ys : List Int) : ((xs.zip ys).map fun p => PyData.int (F p.1 p.2)) = (List.zipWith F xs ys).map .int := by
  rw [← List.map_uncurry_zip_eq_zipWith, List.map_map]
  rfl
theorem z3_ints (F : Int → Int → Int → Int) (xs ys zs : List Int) : ((xs.zip (ys.zip zs)).map fun p => PyData.int (F p.1 p.2.1 p.2.2)) = (z3 F xs ys zs).map .int := by
  unfold z3
  rw [List.map_map]
  rfl
theorem we_lcI {te : TE} {te2 : TE} {i : Nat} {own : List Nat} (h : We g c te ds ms fun d ms1 => ∃ l : List Int, d = .p (intsD l) ∧ l.length ≤ 1000 ∧ ([(i, PyData.none)].all fun p => own.contains p.1 && decide (p.1 < ds.length)) = true ∧ ∃ F : Int → Int,
    (∀ x ∈ l, We g c te2 (setD (wipeD ds own) [(i, .int x)]) ms1 fun d ms4 => d = .p (.int (F x)) ∧ ms4 = ms1) ∧ P (.nl ((l.map F).map .int)) ms1) : We g c (tLc (iTup g.K te) (gName i) tYes te2 own) ds ms P :=
  we_mapT (α := Int) (wi_tup (we_mono h fun d ms1 ⟨l, e, hl, ho, F, k, kp⟩ => ⟨l.map .int, e, l, .int, fun x => .int (F x), rfl, hl, fun x hx => ⟨[(i, .int x)], tgt_name, ho, k x hx⟩, by rw [List.map_map] at kp; exact kp⟩))
theorem we_lcZ {ta : TA} {te2 : TE} {i j : Nat} {own : List Nat} (h : Wa g c ta ds ms fun es ms1 => ∃ l1 l2 : List Int, es = [.p (intsD l1), .p (intsD l2)] ∧ l1.length = l2.length ∧ l1.length ≤ 1000 ∧ ([(i, PyData.none), (j, .none)].all fun p => own.contains p.1 && decide (p.1 < ds.length)) = true ∧ ∃ F : Int → Int → Int,
    (∀ x y, (x, y) ∈ l1.zip l2 → We g c te2 (setD (wipeD ds own) [(i, .int x), (j, .int y)]) ms1 fun d ms4 => d = .p (.int (F x y)) ∧ ms4 = ms1) ∧ P (.nl ((List.zipWith F l1 l2).map .int)) ms1) :
    We g c (tLc (RZ.iZipA g.K ta) (gTup g.K 2 (gCons (gName i) (gCons (gName j) gNil))) tYes te2 own) ds ms P :=
  we_mapT (α := Int × Int) (wi_zip2 fun gs as H σ L Q q => h gs as H σ L Q fun vs H' es ms1 L' le ⟨l1, l2, e, hl, hl2, ho, F, k, kp⟩ => q vs H' es ms1 L' le ⟨l1.map .int, l2.map .int, e, by rw [List.length_map, List.length_map, hl], l1.zip l2, fun p => .tuple [.int p.1, .int p.2], fun p => .int (F p.1 p.2), zip_ints l1 l2, by rw [List.length_zip]; omega,
    fun p hp => ⟨[(i, .int p.1), (j, .int p.2)], tgt_two, ho, k p.1 p.2 hp⟩, by rw [zw_ints]; exact kp⟩)
theorem we_lcZM {ta : TA} {te2 : TE} {i j : Nat} {own : List Nat} (h : Wa g c ta ds ms fun es ms1 => ∃ (l1 l2 : List Int) (d : D), es = [.p (intsD l1), d] ∧ lstD d = some (l2.map .int) ∧ l1.length = l2.length ∧ l1.length ≤ 1000 ∧ ([(i, PyData.none), (j, .none)].all fun p => own.contains p.1 && decide (p.1 < ds.length)) = true ∧ ∃ F : Int → Int → Int,
    (∀ x y, (x, y) ∈ l1.zip l2 → We g c te2 (setD (wipeD ds own) [(i, .int x), (j, .int y)]) ms1 fun d ms4 => d = .p (.int (F x y)) ∧ ms4 = ms1) ∧ P (.nl ((List.zipWith F l1 l2).map .int)) ms1) :
    We g c (tLc (iZipM g.K ta) (gTup g.K 2 (gCons (gName i) (gCons (gName j) gNil))) tYes te2 own) ds ms P :=
  we_mapT (α := Int × Int) (wi_zipM fun gs as H σ L Q q => h gs as H σ L Q fun vs H' es ms1 L' le ⟨l1, l2, d, e, ed, hl, hl2, ho, F, k, kp⟩ => q vs H' es ms1 L' le ⟨l1.map .int, d, l2.map .int, e, ed, by rw [List.length_map, List.length_map, hl], l1.zip l2, fun p => .tuple [.int p.1, .int p.2], fun p => .int (F p.1 p.2), zip_ints l1 l2, by rw [List.length_zip]; omega,
    fun p hp => ⟨[(i, .int p.1), (j, .int p.2)], tgt_two, ho, k p.1 p.2 hp⟩, by rw [zw_ints]; exact kp⟩)
theorem we_lcZ3 {ta : TA} {te2 : TE} {i j m : Nat} {own : List Nat} (h : Wa g c ta ds ms fun es ms1 => ∃ l1 l2 l3 : List Int, es = [.p (intsD l1), .p (intsD l2), .p (intsD l3)] ∧ l1.length = l2.length ∧ l2.length = l3.length ∧ l1.length ≤ 1000 ∧
    ([(i, PyData.none), (j, .none), (m, .none)].all fun p => own.contains p.1 && decide (p.1 < ds.length)) = true ∧ ∃ F : Int → Int → Int → Int,
    (∀ x y z, (x, y, z) ∈ l1.zip (l2.zip l3) → We g c te2 (setD (wipeD ds own) [(i, .int x), (j, .int y), (m, .int z)]) ms1 fun d ms4 => d = .p (.int (F x y z)) ∧ ms4 = ms1) ∧ P (.nl ((z3 F l1 l2 l3).map .int)) ms1) :
    We g c (tLc (iZip3 g.K ta) (gTup g.K 3 (gCons (gName i) (gCons (gName j) (gCons (gName m) gNil)))) tYes te2 own) ds ms P :=
  we_mapT (α := Int × Int × Int) (wi_zip3 fun gs as H σ L Q q => h gs as H σ L Q fun vs H' es ms1 L' le ⟨l1, l2, l3, e, hl, hl2, hl3, ho, F, k, kp⟩ => q vs H' es ms1 L' le ⟨l1.map .int, l2.map .int, l3.map .int, e, by rw [List.length_map, List.length_map, hl], by rw [List.length_map, List.length_map, hl2], l1.zip (l2.zip l3),
    fun p => .tuple [.int p.1, .int p.2.1, .int p.2.2], fun p => .int (F p.1 p.2.1 p.2.2), zip3_ints l1 l2 l3, by rw [List.length_zip]; omega, fun p hp => ⟨[(i, .int p.1), (j, .int p.2.1), (m, .int p.2.2)], tgt_three, ho, k p.1 p.2.1 p.2.2 hp⟩, by rw [z3_ints]; exact kp⟩)
theorem ex_mkS {b e : Option Int} {n : Int} {ad le mo st : List Int} {B : Sm → Prop} (h : B ⟨b, e, n, ad, le, mo, st⟩) : ∃ S : Sm, ([.p (oi b), .p (oi e), .p (.int n), .p (intsD ad), .p (intsD le), .p (intsD mo), .p (intsD st)] : List D) = [.p (oi S.b), .p (oi S.e), .p (.int S.len), .p (intsD S.ad), .p (intsD S.le), .p (intsD S.mo), .p (intsD S.st)] ∧ B S := ⟨⟨b, e, n, ad, le, mo, st⟩, rfl, h⟩
theorem wc_tupI {x : D} {l : List Int} (e : lstD x = some (l.map .int)) (h : P (.p (intsD l)) ms) : Wc g c (rTupQ g.K) [x] ms P := wc_tup e h
theorem wc_min {i j : Int} (h : P (.p (.int (min i j))) ms) : Wc g c (fun xs H Q => ∃ i j, xs = [.int i, .int j] ∧ Q (.int (if j < i then j else i)) H) [.p (.int i), .p (.int j)] ms P := wc_min2 (by
  have e : (if j < i then j else i) = min i j := by
    rw [Int.min_def]
    split <;> split <;> omega
  rw [e]
  exact h)
theorem wc_max {i j : Int} (h : P (.p (.int (max i j))) ms) : Wc g c (fun xs H Q => ∃ i j, xs = [.int i, .int j] ∧ Q (.int (if j > i then j else i)) H) [.p (.int i), .p (.int j)] ms P := wc_max2 (by
  have e : (if j > i then j else i) = max i j := by
    rw [Int.max_def]
    split <;> split <;> omega
  rw [e]
  exact h)
theorem eqv_oi (x y : Option Int) : scalD (oi x) (oi y) = true ∧ PyData.eqv (oi x) (oi y) = decide (x = y) := by
  cases x with
  | none =>
    cases y with
    | none => exact ⟨rfl, rfl⟩
    | some j => exact ⟨rfl, rfl⟩
  | some i =>
    cases y with
    | none => exact ⟨rfl, rfl⟩
    | some j =>
      refine ⟨rfl, ?_⟩
      show PyData.eqv (.int i) (.int j) = _
      rw [eqv_int]
      by_cases h : i = j
      · rw [h, decide_eq_true rfl, decide_eq_true rfl]
      · rw [decide_eq_false h, decide_eq_false fun z => h (Option.some.inj z)]
theorem wr_neO {x y : Option Int} (h : P (.p (.bool (!decide (x = y)))) ms) : Wr g c rNe (.p (oi x)) (.p (oi y)) ms P := wr_ne (eqv_oi x y).1 (by
  rw [(eqv_oi x y).2]
  exact h)
theorem wr_eqO {x y : Option Int} (h : P (.p (.bool (decide (x = y)))) ms) : Wr g c rEq (.p (oi x)) (.p (oi y)) ms P := wr_eq (eqv_oi x y).1 (by
  rw [(eqv_oi x y).2]
  exact h)
/-- a test's value first, the branches then -/
theorem ws_ifV {t : TT} {u w : TS} {v : Bool} (h : Wt g c t ds ms fun b ms1 => ms1 = ms ∧ b = v) (k : if v = true then Ws g c u ds ms N R else Ws g c w ds ms N R) : Ws g c (tIfS t u w) ds ms N R := ws_if fun gs as H σ L Q q => h gs as H σ L Q fun b H' ms' L' ⟨e1, e2⟩ => q b H' ms' L' (by
  subst e1 e2
  exact k)
/-- the right readings of a program at fields -/
theorem fld_step {K : PySem.W.Frag} {C x dx : Addr} {i j : Nat} {f : Str} {v : V} {fs : List (Str × V)} {E : Ends} {σ : L2.St} {H : Hp} (h1 : σ[i]? = some (some (.ref x))) (h2 : σ[j]? = some (some v)) (hx : H x = some (.ins C dx fs)) (cl : Cls K C) (na : NoAttr K C f) (hl : fs.length < 1000)
    (k : E.nx σ (upd H x (.ins C dx (putF f v fs)))) : sFld K (tVar i) (tVar j) f E σ H := ⟨v, h2, .ref x, h1, x, C, dx, fs, rfl, hx, cl, na, hl, k⟩
end
theorem seq_raw {g : Gk} {c : Cg} {ds : List (Option D)} {ms : List MO} {N : List (Option D) → List MO → Prop} {t u : TS} {E : Ends} {as : List Addr} {H : Hp} {σ : L2.St} (L : Lo g c [] as H σ ds ms) (h : Ws g c t ds ms N fun _ _ => False)
    (k : ∀ σ' H' as' ds' ms', Lo g c [] as' H' σ' ds' ms' → N ds' ms' → u E σ' H') : tSeq t u E σ H := h [] as H σ { E with nx := u E } L (fun p hp => absurd hp List.not_mem_nil) k fun _ _ _ _ _ _ _ _ z => z.elim
/-- a plain run of a body without data: no own lists, no ghosts -/
def Wb (g : Gk) (c : Cg) (ts : TS) (ds : List (Option D)) (R : D → Prop) : Prop :=
  ∀ (H : Hp) (σ : L2.St) (E : Ends), Lo g c [] [] H σ ds [] → (∀ (σ' : L2.St) (H' : Hp) (as' : List Addr), (∀ a o, c.H0 a = some o → ¬ c.has a → H' a = some o) → PoolOk c H' → (∀ a ∈ as', c.H0 a = none) → R (.p .none) → E.nx σ' H') →
    (∀ (v : V) (H' : Hp) (as' : List Addr) (d : D), (∀ a o, c.H0 a = some o → ¬ c.has a → H' a = some o) → PoolOk c H' → (∀ a ∈ as', c.H0 a = none) → IsD g c as' H' d v → okR d = true → R d → E.rt v H') → ts E σ H
theorem dokB {g : Gk} {Pg : Program} {w : World} {mg : Str → Option Value} {base : Heap} {x qual : Str} {st : Stmt} {f : Addr} {fd : FuncData} {Ns ps : List Str} {k : Nat} {sp : DSp} (F : FunD g.K x qual (defArgs st) (defBody st) (defScope st) [] [] f fd) (S : FnScope Ns ps (defScope st))
    (len : ∀ es Q, sp es Q → es.length = ps.length)
    (body : ∀ (cdv : Value) (A : Around) (outer : List Env) (s : Shared) (H : Hp) (E : XK), Room k (A.deeper (envOfC qual (defScope st) s.heap.objs.size f cdv)) →
      ∃ t, PSs (cxOf CX0 Pg w g.K mg base Ns qual (defScope st) f cdv A outer s H E).nox (defBody st) t ∧ ∀ (c : Cg) (es : List D) (Q : D → Prop), sp es Q → Wb g c t (es.map some ++ List.replicate (Ns.length - es.length) none) Q) :
    FnOk Pg w g.K mg base CX0 (k + 1) f fd ps (spD g sp) := by
  refine F.ok S (fun vs H Q E ⟨c, es, _, _, hl, _, h⟩ => by rw [hl]; exact len es _ h) fun cdv A outer s H vs Q E hr ⟨c, es, hH, hpo, hl, hds, h⟩ => ?_
  obtain ⟨t, hps, hw⟩ := body cdv A outer s H E hr
  refine ⟨t, hps.nox, ?_⟩
  have hle : es.length ≤ Ns.length := by
    rw [len es _ h, ← S.pre, List.length_take]
    exact Nat.min_le_right _ _
  have L : Lo g c [] [] H (_root_.L2.start Ns vs) (es.map some ++ List.replicate (Ns.length - es.length) none) [] := by
    refine ⟨fun a o e _ => by rw [← hH]; exact e, fun a ha => absurd ha List.not_mem_nil, List.nodup_nil, rfl, fun k a m e _ => by simp at e, hpo, ?_, fun i d e => ?_, fun p hp => absurd hp List.not_mem_nil⟩
    · unfold _root_.L2.start
      rw [List.length_append, List.length_append, List.length_map, List.length_map, List.length_replicate, List.length_replicate, hl]
    · by_cases hi : i < es.length
      · rw [List.getElem?_append_left (by rw [List.length_map]; exact hi), List.getElem?_map, List.getElem?_eq_getElem hi] at e
        cases e
        have hi2 : i < vs.length := by rw [hl]; exact hi
        refine ⟨vs[i], ?_, ?_⟩
        · unfold _root_.L2.start
          rw [List.getElem?_append_left (by rw [List.length_map]; exact hi2), List.getElem?_map, List.getElem?_eq_getElem hi2]
          rfl
        · refine hds (vs[i], es[i]) (List.mem_of_getElem? (i := i) ?_)
          rw [List.getElem?_zip_eq_some]
          exact ⟨List.getElem?_eq_getElem hi2, List.getElem?_eq_getElem hi⟩
      · rw [List.getElem?_append_right (by rw [List.length_map]; omega), List.getElem?_replicate] at e
        split at e <;> cases e
  refine hw c es _ h H _ _ L (fun σ' H' as' h1 h2 h3 k => k rfl .non H' as' h1 h2 h3 .non) fun v H' as' d h1 h2 h3 h4 o k => k o v H' as' h1 h2 h3 h4
end K19
namespace K19
open PySem PySem.Spec PyProof.Rows L2
local macro_rules | `(tactic| walk_at "st") => `(tactic| first
  | with_reducible refine ws_seq ?_ | with_reducible refine ws_ret ?_ | with_reducible refine ws_if ?_ | with_reducible refine ws_next ?_
  | with_reducible refine we_int ?_ | with_reducible refine we_bl ?_ | with_reducible refine we_non ?_ | with_reducible refine we_str ?_
  | ((with_reducible refine' we_var ?we ?_); (case we => exact rfl)) | with_reducible refine we_op ?_ | with_reducible refine we_un ?_ | with_reducible refine we_isp ?_ | with_reducible refine we_callE ?_ | with_reducible refine we_callF ?_ | with_reducible refine we_cb ?_ | with_reducible refine wa_cons ?_ | with_reducible refine wa_nil ?_
  | with_reducible refine we_tup ?_ | with_reducible refine we_slT ?_ | with_reducible refine wo_none ?_ | with_reducible refine wo_some ?_
  | with_reducible refine we_andV ?_ | with_reducible refine we_orV ?_ | with_reducible refine we_notV ?_ | with_reducible refine we_chain ?_ | with_reducible refine we_ifE ?_
  | with_reducible refine wt_test ?_ | with_reducible refine wt_B ?_ | with_reducible refine wt_and ?_ | with_reducible refine wt_or ?_ | with_reducible refine wt_not ?_
  | with_reducible refine wr_add ?_ | with_reducible refine wr_sub ?_ | with_reducible refine wr_lt ?_ | with_reducible refine wr_le ?_ | with_reducible refine wr_gt ?_ | with_reducible refine wr_ge ?_ | with_reducible refine wr_eqI ?_ | with_reducible refine wr_neI ?_
  | with_reducible refine wr_rd0 ?_ | with_reducible refine wr_rd1 ?_ | with_reducible refine wr_rd2 ?_ | ((with_reducible refine' wr_ixT ?we ?_); (case we => exact ⟨by decide, rfl⟩))
  | with_reducible refine wr_isN ?_ | with_reducible refine wr_notN ?_ | with_reducible refine wr_isB ?_ | with_reducible refine wr_notB ?_ | with_reducible refine wu_neg ?_
  | with_reducible refine we_sides ?_ | with_reducible refine we_tables ?_ | with_reducible refine we_readings ?_ | with_reducible refine we_begin ?_ | with_reducible refine we_end ?_ | with_reducible refine we_length ?_ | with_reducible refine we_added ?_ | with_reducible refine we_least ?_ | with_reducible refine we_most ?_ | with_reducible refine we_stands ?_
  | with_reducible refine wi_tup ?_ | with_reducible refine wi_rng1 ?_ | with_reducible refine ws_drop ?_
  | with_reducible refine ex_b ?_ | ((with_reducible refine' ex_isi ?wp ?_); (case wp => first | assumption | rfl)) | with_reducible refine ex_prg ?_ | with_reducible refine ex_sm ?_ | with_reducible refine ret_p ?_ | with_reducible refine ret_nl ?_ | with_reducible refine ret_prg ?_ | with_reducible refine ret_sm ?_ | with_reducible refine iteT ?_ | with_reducible refine iteF ?_
  | (with_reducible refine wc_allT ?_) | (with_reducible refine wc_sumT ?_) | (with_reducible refine wc_tup rfl ?_) | (with_reducible refine wc_lenT ?_)
  | (refine ⟨rfl, (_, _, _, _), rfl, (by first | trivial | assumption | decide | omega), rfl, ?_⟩; try dsimp only) | (refine ⟨rfl, (_, _, _), rfl, (by first | trivial | assumption | decide | omega), rfl, ?_⟩; try dsimp only) | (refine ⟨rfl, (_, _), rfl, (by first | trivial | assumption | decide | omega), rfl, ?_⟩; try dsimp only) | (refine ⟨rfl, _, rfl, (by first | trivial | assumption | decide | omega), rfl, ?_⟩; try dsimp only)
  | ((with_reducible refine' iteT' ?wp ?_); (case wp => rfl)) | ((with_reducible refine' iteF' ?wp ?_); (case wp => rfl))
  | (with_reducible refine ws_asg ?_) | ((with_reducible refine wg_name ⟨?wl, ?_⟩); (case wl => exact (Nat.le_of_ble_eq_true rfl))))
local macro_rules | `(tactic| walk_at "st") => `(tactic| first
  | with_reducible refine wc_tupI rfl ?_ | with_reducible refine wc_min ?_ | with_reducible refine wc_max ?_ | with_reducible refine wr_neO ?_ | with_reducible refine wr_eqO ?_
  | with_reducible refine we_mkS ?_ | with_reducible refine ex_mkS ?_ | with_reducible refine we_lcI ?_ | with_reducible refine we_lcZ ?_ | with_reducible refine we_lcZM ?_ | with_reducible refine we_lcZ3 ?_ | with_reducible refine we_revP ?_ | with_reducible refine we_idx ?_)
section
variable {Pg : Program} {w : World} {g : Gk} {mg : Str → Option Value} {base : Heap}
/-! ### the objects' defs -/
theorem ok_Summary_init {f : Addr} {fd : FuncData} (T : Tx g mg) (F : FT g "__init__" "Summary.__init__" s_Summary_init f fd) : FnOk Pg w g.K mg base CX0 1 f fd ["self", "begin", "end", "length", "added", "least", "most", "stands"] (spInitS g) := by
  refine F.ok sc_Summary_init (fun vs H Q E ⟨x, dx, v1, v2, v3, v4, v5, v6, v7, e, _⟩ => by rw [e]; rfl) fun cdv A outer s H vs Q E hr ⟨x, dx, v1, v2, v3, v4, v5, v6, v7, e, hx, q⟩ =>
    ⟨_, (show PSs (cxOf CX0 Pg w g.K mg base N_Summary_init "Summary.__init__" (defScope s_Summary_init) f cdv A outer s H E).nox (defBody s_Summary_init) _ from (pss_cons (ps_fld (pv 0) (pv 1) rfl)
    (pss_cons (ps_fld (pv 0) (pv 2) rfl)
    (pss_cons (ps_fld (pv 0) (pv 3) rfl)
    (pss_cons (ps_fld (pv 0) (pv 4) rfl)
    (pss_cons (ps_fld (pv 0) (pv 5) rfl)
    (pss_cons (ps_fld (pv 0) (pv 6) rfl)
    (pss_one (ps_fld (pv 0) (pv 7) rfl))))))))).nox, ?_⟩
  subst e
  refine fld_step (C := g.CS) rfl rfl hx g.clS (g.nS _ (by decide +kernel)) (Nat.le_of_ble_eq_true rfl) ?_
  refine fld_step (C := g.CS) rfl rfl upd_same g.clS (g.nS _ (by decide +kernel)) (Nat.le_of_ble_eq_true rfl) ?_
  refine fld_step (C := g.CS) rfl rfl upd_same g.clS (g.nS _ (by decide +kernel)) (Nat.le_of_ble_eq_true rfl) ?_
  refine fld_step (C := g.CS) rfl rfl upd_same g.clS (g.nS _ (by decide +kernel)) (Nat.le_of_ble_eq_true rfl) ?_
  refine fld_step (C := g.CS) rfl rfl upd_same g.clS (g.nS _ (by decide +kernel)) (Nat.le_of_ble_eq_true rfl) ?_
  refine fld_step (C := g.CS) rfl rfl upd_same g.clS (g.nS _ (by decide +kernel)) (Nat.le_of_ble_eq_true rfl) ?_
  refine fld_step (C := g.CS) rfl rfl upd_same g.clS (g.nS _ (by decide +kernel)) (Nat.le_of_ble_eq_true rfl) ?_
  rw [upd_upd, upd_upd, upd_upd, upd_upd, upd_upd, upd_upd]
  exact q
theorem ok_Program_keep {f : Addr} {fd : FuncData} (T : Tx g mg) (F : FT g "keep" "Program.keep" s_Program_keep f fd) : FnOk Pg w g.K mg base CX0 1 f fd ["self", "sides", "tables", "readings"] (spKeep g) := by
  refine F.ok sc_Program_keep (fun vs H Q E ⟨x, dx, fs, v1, v2, v3, e, _⟩ => by rw [e]; rfl) fun cdv A outer s H vs Q E hr ⟨x, dx, fs, v1, v2, v3, e, hx, hf, q⟩ =>
    ⟨_, (show PSs (cxOf CX0 Pg w g.K mg base N_Program_keep "Program.keep" (defScope s_Program_keep) f cdv A outer s H E).nox (defBody s_Program_keep) _ from (pss_cons (ps_fld (pv 0) (pv 1) rfl)
    (pss_cons (ps_fld (pv 0) (pv 2) rfl)
    (pss_one (ps_fld (pv 0) (pv 3) rfl))))).nox, ?_⟩
  subst e
  rcases hf with hf | ⟨a, b, d, hf⟩
  · subst hf
    refine fld_step (C := g.CP) rfl rfl hx g.clP (g.nP _ (by decide +kernel)) (Nat.le_of_ble_eq_true rfl) ?_
    refine fld_step (C := g.CP) rfl rfl upd_same g.clP (g.nP _ (by decide +kernel)) (Nat.le_of_ble_eq_true rfl) ?_
    refine fld_step (C := g.CP) rfl rfl upd_same g.clP (g.nP _ (by decide +kernel)) (Nat.le_of_ble_eq_true rfl) ?_
    rw [upd_upd, upd_upd]
    exact q
  · subst hf
    refine fld_step (C := g.CP) rfl rfl hx g.clP (g.nP _ (by decide +kernel)) (Nat.le_of_ble_eq_true rfl) ?_
    refine fld_step (C := g.CP) rfl rfl upd_same g.clP (g.nP _ (by decide +kernel)) (Nat.le_of_ble_eq_true rfl) ?_
    refine fld_step (C := g.CP) rfl rfl upd_same g.clP (g.nP _ (by decide +kernel)) (Nat.le_of_ble_eq_true rfl) ?_
    rw [upd_upd, upd_upd]
    exact q
/-- a summary's sides and tables -/
def Sm.wf (S : Sm) (n t : Nat) : Prop := S.ad.length = n ∧ S.le.length = n ∧ S.mo.length = n ∧ S.st.length = t ∧ n ≤ 1000 ∧ t ≤ 1000
/-- one walk behind another one -/
def Sm.beh (a b : Sm) : Option Sm :=
  if a.len = 0 then some b else if b.len = 0 then some a else if a.e ≠ b.b then none
  else some ⟨a.b, b.e, a.len + b.len, List.zipWith (· + ·) a.ad b.ad, z3 (fun x y z => min x (y - z)) a.le b.le a.ad, z3 (fun x y z => max x (y - z)) a.mo b.mo a.ad, List.zipWith (· + ·) a.st b.st⟩
def oSm : Option Sm → D
  | none => .p .none
  | some S => .sm S
theorem ok_oSm (o : Option Sm) : okR (oSm o) = true := by
  cases o <;> rfl
abbrev sp_behind : DSp := spE (fun a : Sm × Sm => [.sm a.1, .sm a.2]) (fun a => ∃ n t, a.1.wf n t ∧ a.2.wf n t) (fun a => oSm (a.1.beh a.2))
theorem ok_Summary_behind {f : Addr} {fd : FuncData} (T : Tx g mg) (F : FT g "behind" "Summary.behind" s_Summary_behind f fd) (C_Summary : KnC Pg w g mg base "Summary" g.CS 1 ["self", "begin", "end", "length", "added", "least", "most", "stands"] (spInitS g)) : FnOk Pg w g.K mg base CX0 3 f fd ["self", "other"] (spD g sp_behind) := by
  refine dok F sc_Summary_behind (fun es Q ⟨a, e, _⟩ => by rw [e]; rfl) fun cdv A outer s H E hr => ⟨_, (pss_cons (ps_if (pt_cmpR op_eq (pe_fld (pv 0) rfl) pe_int (nomark _))
    (pss_one (ps_ret (pv 1)))
    pss_nil)
    (pss_cons (ps_if (pt_cmpR op_eq (pe_fld (pv 1) rfl) pe_int (nomark _))
    (pss_one (ps_ret (pv 0)))
    pss_nil)
    (pss_cons (ps_if (pt_cmpR op_ne (pe_fld (pv 0) rfl) (pe_fld (pv 1) rfl) (nomark _))
    (pss_one (ps_ret pe_non))
    pss_nil)
    (pss_cons (ps_set (i := 2) sc_Summary_behind.nd rfl (.inl rfl) (pe_callTy call_tuple_of (by rfl) T.f_tuple (by decide +kernel) (pa_cons (pe_lc (own := [("one", 6), ("two", 7)]) (tt := tYes) (g := gTup g.K 2 (gCons (gName 6) (gCons (gName 7) gNil))) rfl sc_Summary_behind.nd (RZ.pi_zipA (by rfl) T.f_zip (pa_cons (pe_fld (pv 0) rfl) (pa_cons (pe_fld (pv 1) rfl) pa_nil))) (blkOk_by (by kernel_rfl)) (fun _ _ _ _ _ => (pg_tup (by rfl) (pgs_cons (pg_name (i := 6) sc_Summary_behind.nd rfl (.inl rfl)) (pgs_cons (pg_name (i := 7) sc_Summary_behind.nd rfl (.inl rfl)) pgs_nil)))) (fun _ _ _ _ _ => pts_nil) (fun _ _ _ _ _ => (pe_op op_add (pv 6) (pv 7)))) pa_nil)))
    (pss_cons (ps_set (i := 3) sc_Summary_behind.nd rfl (.inl rfl) (pe_callTy call_tuple_of (by rfl) T.f_tuple (by decide +kernel) (pa_cons (pe_lc (own := [("one", 6), ("two", 7), ("step", 8)]) (tt := tYes) (g := gTup g.K 3 (gCons (gName 6) (gCons (gName 7) (gCons (gName 8) gNil)))) rfl sc_Summary_behind.nd (pi_zip3 (by rfl) T.f_zip (pa_cons (pe_fld (pv 0) rfl) (pa_cons (pe_fld (pv 1) rfl) (pa_cons (pe_fld (pv 0) rfl) pa_nil)))) (blkOk_by (by kernel_rfl)) (fun _ _ _ _ _ => (pg_tup (by rfl) (pgs_cons (pg_name (i := 6) sc_Summary_behind.nd rfl (.inl rfl)) (pgs_cons (pg_name (i := 7) sc_Summary_behind.nd rfl (.inl rfl)) (pgs_cons (pg_name (i := 8) sc_Summary_behind.nd rfl (.inl rfl)) pgs_nil))))) (fun _ _ _ _ _ => pts_nil) (fun _ _ _ _ _ => (pe_callB (call_min2 rfl) (by rfl) T.f_min (by decide +kernel) (pa_cons (pv 6) (pa_cons (pe_op op_sub (pv 7) (pv 8)) pa_nil))))) pa_nil)))
    (pss_cons (ps_set (i := 4) sc_Summary_behind.nd rfl (.inl rfl) (pe_callTy call_tuple_of (by rfl) T.f_tuple (by decide +kernel) (pa_cons (pe_lc (own := [("one", 6), ("two", 7), ("step", 8)]) (tt := tYes) (g := gTup g.K 3 (gCons (gName 6) (gCons (gName 7) (gCons (gName 8) gNil)))) rfl sc_Summary_behind.nd (pi_zip3 (by rfl) T.f_zip (pa_cons (pe_fld (pv 0) rfl) (pa_cons (pe_fld (pv 1) rfl) (pa_cons (pe_fld (pv 0) rfl) pa_nil)))) (blkOk_by (by kernel_rfl)) (fun _ _ _ _ _ => (pg_tup (by rfl) (pgs_cons (pg_name (i := 6) sc_Summary_behind.nd rfl (.inl rfl)) (pgs_cons (pg_name (i := 7) sc_Summary_behind.nd rfl (.inl rfl)) (pgs_cons (pg_name (i := 8) sc_Summary_behind.nd rfl (.inl rfl)) pgs_nil))))) (fun _ _ _ _ _ => pts_nil) (fun _ _ _ _ _ => (pe_callB (call_max2 rfl) (by rfl) T.f_max (by decide +kernel) (pa_cons (pv 6) (pa_cons (pe_op op_sub (pv 7) (pv 8)) pa_nil))))) pa_nil)))
    (pss_cons (ps_set (i := 5) sc_Summary_behind.nd rfl (.inl rfl) (pe_callTy call_tuple_of (by rfl) T.f_tuple (by decide +kernel) (pa_cons (pe_lc (own := [("one", 6), ("two", 7)]) (tt := tYes) (g := gTup g.K 2 (gCons (gName 6) (gCons (gName 7) gNil))) rfl sc_Summary_behind.nd (RZ.pi_zipA (by rfl) T.f_zip (pa_cons (pe_fld (pv 0) rfl) (pa_cons (pe_fld (pv 1) rfl) pa_nil))) (blkOk_by (by kernel_rfl)) (fun _ _ _ _ _ => (pg_tup (by rfl) (pgs_cons (pg_name (i := 6) sc_Summary_behind.nd rfl (.inl rfl)) (pgs_cons (pg_name (i := 7) sc_Summary_behind.nd rfl (.inl rfl)) pgs_nil)))) (fun _ _ _ _ _ => pts_nil) (fun _ _ _ _ _ => (pe_op op_add (pv 6) (pv 7)))) pa_nil)))
    (pss_one (ps_ret (pe_mkC rfl C_Summary (hr.mono (by omega)) (by rfl) (pa_cons (pe_fld (pv 0) rfl) (pa_cons (pe_fld (pv 1) rfl) (pa_cons (pe_op op_add (pe_fld (pv 0) rfl) (pe_fld (pv 1) rfl)) (pa_cons (pv 2) (pa_cons (pv 3) (pa_cons (pv 4) (pa_cons (pv 5) pa_nil))))))))))))))))), fun c es Q ⟨⟨S, O⟩, e, hd, q⟩ => ?_⟩
  subst e
  try dsimp only [cxOf, Cx.nox, Cx.wish]
  refine ws_ds (ds' := [some (.sm S), some (.sm O), none, none, none, none, none, none, none]) rfl ?_
  dsimp only at hd
  obtain ⟨n, t, ⟨w1, w2, w3, w4, w5, w6⟩, u1, u2, u3, u4, _, _⟩ := hd
  have q : Q (oSm (S.beh O)) := q.2
  unfold Sm.beh at q
  repeat walk_at "st"
  refine ite_b (fun h => ?_) (fun h => ?_)
  · rw [if_pos (of_decide_eq_true h)] at q
    repeat walk_at "st"
    exact q
  rw [if_neg (of_decide_eq_false h)] at q
  repeat walk_at "st"
  refine ite_b (fun h => ?_) (fun h => ?_)
  · rw [if_pos (of_decide_eq_true h)] at q
    repeat walk_at "st"
    exact q
  rw [if_neg (of_decide_eq_false h)] at q
  repeat walk_at "st"
  refine ite_b (fun h => ?_) (fun h => ?_)
  · rw [if_pos (fun z => by rw [z] at h; simp at h)] at q
    repeat walk_at "st"
    exact q
  rw [if_neg (fun z => z (by simpa using h))] at q
  repeat walk_at "st"
  refine ⟨_, _, rfl, by rw [w1, u1], by omega, rfl, fun x y => x + y, fun x y _ => ?_, ?_⟩
  · repeat walk_at "st"
    exact ⟨rfl, rfl⟩
  repeat walk_at "st"
  refine ⟨_, _, _, rfl, by rw [w2, u2], by rw [u2, w1], by omega, rfl, fun x y z => min x (y - z), fun x y z _ => ?_, ?_⟩
  · repeat walk_at "st"
    exact ⟨rfl, rfl⟩
  repeat walk_at "st"
  refine ⟨_, _, _, rfl, by rw [w3, u3], by rw [u3, w1], by omega, rfl, fun x y z => max x (y - z), fun x y z _ => ?_, ?_⟩
  · repeat walk_at "st"
    exact ⟨rfl, rfl⟩
  repeat walk_at "st"
  refine ⟨_, _, rfl, by rw [w4, u4], by omega, rfl, fun x y => x + y, fun x y _ => ?_, ?_⟩
  · repeat walk_at "st"
    exact ⟨rfl, rfl⟩
  repeat walk_at "st"
  exact q
theorem lim_ex : ∃ n : Nat, (∀ i j : Int, i.natAbs < n → j.natAbs < n → CMulW i j) ∧ ∀ k, k ≤ 100000 → 2 ^ k ≤ n :=
  ⟨2 ^ 100000, fun i j h1 h2 => wide_mul (a := 100000) (b := 100000) h1 h2 (by decide) (by decide) (by decide), fun k hk => Nat.pow_le_pow_right (by decide) hk⟩
/-- what is multiplied stays below this -/
noncomputable def lim : Nat := Classical.choose lim_ex
theorem lim_mul {i j : Int} (h1 : i.natAbs < lim) (h2 : j.natAbs < lim) : CMulW i j := (Classical.choose_spec lim_ex).1 i j h1 h2
theorem lim_pow {k : Nat} (h : k ≤ 100000) : 2 ^ k ≤ lim := (Classical.choose_spec lim_ex).2 k h
/-- a walk made so many times -/
def Sm.aga (S : Sm) (m : Int) : Option Sm :=
  if 1 < m ∧ S.b ≠ S.e then none
  else some ⟨S.b, S.e, m * S.len, S.ad.map (m * ·), List.zipWith (fun x y => x + min 0 y) S.le (S.ad.map (-(m - 1) * ·)), List.zipWith (fun x y => x + max 0 y) S.mo (S.ad.map (-(m - 1) * ·)), S.st.map (m * ·)⟩
def Sm.low (S : Sm) : Prop := S.len.natAbs < lim ∧ (∀ z ∈ S.ad, z.natAbs < lim) ∧ ∀ z ∈ S.st, z.natAbs < lim
abbrev sp_again : DSp := spE (fun a : Sm × Int => [.sm a.1, .p (.int a.2)]) (fun a => (∃ n t, a.1.wf n t) ∧ a.1.low ∧ 1 ≤ a.2 ∧ a.2.natAbs < lim) (fun a => oSm (a.1.aga a.2))
theorem ok_Summary_again {f : Addr} {fd : FuncData} (T : Tx g mg) (F : FT g "again" "Summary.again" s_Summary_again f fd) (C_Summary : KnC Pg w g mg base "Summary" g.CS 1 ["self", "begin", "end", "length", "added", "least", "most", "stands"] (spInitS g)) : FnOk Pg w g.K mg base CX0 3 f fd ["self", "many"] (spD g sp_again) := by
  refine dok F sc_Summary_again (fun es Q ⟨a, e, _⟩ => by rw [e]; rfl) fun cdv A outer s H E hr => ⟨_, (pss_cons (ps_if (PW.pt (pw_and (pt_cmpR op_gt (pv 1) pe_int (nomark _)) (pw_and1 (pt_cmpR op_ne (pe_fld (pv 0) rfl) (pe_fld (pv 0) rfl) (nomark _)))))
    (pss_one (ps_ret pe_non))
    pss_nil)
    (pss_cons (ps_setLc (i := 2) (own := [("step", 7)]) (tt := tYes) rfl sc_Summary_again.nd rfl rfl (sw_true rfl rfl rfl (by kernel_rfl)) (pi_tup (pe_fld (pv 0) rfl)) (blkOk_by (by kernel_rfl)) (fun _ _ _ _ _ => (pg_name (i := 7) sc_Summary_again.nd rfl (.inl rfl))) (fun _ _ _ _ _ => pts_nil) (fun _ _ _ _ _ => (pe_op op_mulW (pe_un un_neg (pe_op op_sub (pv 1) pe_int)) (pv 7))))
    (pss_cons (ps_set (i := 3) sc_Summary_again.nd rfl (.inl rfl) (pe_callTy call_tuple_of (by rfl) T.f_tuple (by decide +kernel) (pa_cons (pe_lc (own := [("one", 8), ("more", 9)]) (tt := tYes) (g := gTup g.K 2 (gCons (gName 8) (gCons (gName 9) gNil))) rfl sc_Summary_again.nd (pi_zipM (by rfl) T.f_zip (pa_cons (pe_fld (pv 0) rfl) (pa_cons (pv 2) pa_nil))) (blkOk_by (by kernel_rfl)) (fun _ _ _ _ _ => (pg_tup (by rfl) (pgs_cons (pg_name (i := 8) sc_Summary_again.nd rfl (.inl rfl)) (pgs_cons (pg_name (i := 9) sc_Summary_again.nd rfl (.inl rfl)) pgs_nil)))) (fun _ _ _ _ _ => pts_nil) (fun _ _ _ _ _ => (pe_op op_add (pv 8) (pe_callB (call_min2 rfl) (by rfl) T.f_min (by decide +kernel) (pa_cons pe_int (pa_cons (pv 9) pa_nil)))))) pa_nil)))
    (pss_cons (ps_set (i := 4) sc_Summary_again.nd rfl (.inl rfl) (pe_callTy call_tuple_of (by rfl) T.f_tuple (by decide +kernel) (pa_cons (pe_lc (own := [("one", 8), ("more", 9)]) (tt := tYes) (g := gTup g.K 2 (gCons (gName 8) (gCons (gName 9) gNil))) rfl sc_Summary_again.nd (pi_zipM (by rfl) T.f_zip (pa_cons (pe_fld (pv 0) rfl) (pa_cons (pv 2) pa_nil))) (blkOk_by (by kernel_rfl)) (fun _ _ _ _ _ => (pg_tup (by rfl) (pgs_cons (pg_name (i := 8) sc_Summary_again.nd rfl (.inl rfl)) (pgs_cons (pg_name (i := 9) sc_Summary_again.nd rfl (.inl rfl)) pgs_nil)))) (fun _ _ _ _ _ => pts_nil) (fun _ _ _ _ _ => (pe_op op_add (pv 8) (pe_callB (call_max2 rfl) (by rfl) T.f_max (by decide +kernel) (pa_cons pe_int (pa_cons (pv 9) pa_nil)))))) pa_nil)))
    (pss_cons (ps_set (i := 5) sc_Summary_again.nd rfl (.inl rfl) (pe_callTy call_tuple_of (by rfl) T.f_tuple (by decide +kernel) (pa_cons (pe_lc (own := [("step", 7)]) (tt := tYes) rfl sc_Summary_again.nd (pi_tup (pe_fld (pv 0) rfl)) (blkOk_by (by kernel_rfl)) (fun _ _ _ _ _ => (pg_name (i := 7) sc_Summary_again.nd rfl (.inl rfl))) (fun _ _ _ _ _ => pts_nil) (fun _ _ _ _ _ => (pe_op op_mulW (pv 1) (pv 7)))) pa_nil)))
    (pss_cons (ps_set (i := 6) sc_Summary_again.nd rfl (.inl rfl) (pe_callTy call_tuple_of (by rfl) T.f_tuple (by decide +kernel) (pa_cons (pe_lc (own := [("number", 10)]) (tt := tYes) rfl sc_Summary_again.nd (pi_tup (pe_fld (pv 0) rfl)) (blkOk_by (by kernel_rfl)) (fun _ _ _ _ _ => (pg_name (i := 10) sc_Summary_again.nd rfl (.inl rfl))) (fun _ _ _ _ _ => pts_nil) (fun _ _ _ _ _ => (pe_op op_mulW (pv 1) (pv 10)))) pa_nil)))
    (pss_one (ps_ret (pe_mkC rfl C_Summary (hr.mono (by omega)) (by rfl) (pa_cons (pe_fld (pv 0) rfl) (pa_cons (pe_fld (pv 0) rfl) (pa_cons (pe_op op_mulW (pv 1) (pe_fld (pv 0) rfl)) (pa_cons (pv 5) (pa_cons (pv 3) (pa_cons (pv 4) (pa_cons (pv 6) pa_nil)))))))))))))))), fun c es Q ⟨⟨S, m⟩, e, hd, q⟩ => ?_⟩
  subst e
  try dsimp only [cxOf, Cx.nox, Cx.wish]
  refine ws_ds (ds' := [some (.sm S), some (.p (.int m)), none, none, none, none, none, none, none, none, none]) rfl ?_
  dsimp only at hd
  obtain ⟨⟨n, t, w1, w2, w3, w4, w5, w6⟩, ⟨l1, l2, l3⟩, m1, m2⟩ := hd
  have m3 : (-(m - 1)).natAbs < lim := by omega
  have q : Q (oSm (S.aga m)) := q.2
  unfold Sm.aga at q
  walk_at "st"
  refine ws_ifV (v := decide (1 < m ∧ S.b ≠ S.e)) ?_ ?_
  · repeat walk_at "st"
    refine ite_b (fun h => ?_) (fun h => ?_)
    · repeat walk_at "st"
      exact ⟨rfl, by rw [Bool.decide_and, h]; simp⟩
    · exact ⟨rfl, by rw [Bool.decide_and, h]; rfl⟩
  refine ite_b (fun h => ?_) (fun h => ?_)
  · rw [if_pos (of_decide_eq_true h)] at q
    repeat walk_at "st"
    exact q
  rw [if_neg (of_decide_eq_false h)] at q
  have bd : ∀ z ∈ S.ad, (z : Int).natAbs < lim := l2
  repeat walk_at "st"
  refine ⟨_, rfl, by omega, rfl, fun x => -(m - 1) * x, fun x hx => ?_, ?_⟩
  · repeat walk_at "st"
    refine wr_mulW (lim_mul m3 (l2 x hx)) ⟨rfl, rfl⟩
  repeat walk_at "st"
  refine ⟨_, _, _, rfl, rfl, by rw [List.length_map]; omega, by omega, rfl, fun x y => x + min 0 y, fun x y _ => ?_, ?_⟩
  · repeat walk_at "st"
    exact ⟨rfl, rfl⟩
  repeat walk_at "st"
  refine ⟨_, _, _, rfl, rfl, by rw [List.length_map]; omega, by omega, rfl, fun x y => x + max 0 y, fun x y _ => ?_, ?_⟩
  · repeat walk_at "st"
    exact ⟨rfl, rfl⟩
  repeat walk_at "st"
  refine ⟨_, rfl, by omega, rfl, fun x => m * x, fun x hx => ?_, ?_⟩
  · repeat walk_at "st"
    refine wr_mulW (lim_mul m2 (l2 x hx)) ⟨rfl, rfl⟩
  repeat walk_at "st"
  refine ⟨_, rfl, by omega, rfl, fun x => m * x, fun x hx => ?_, ?_⟩
  · repeat walk_at "st"
    refine wr_mulW (lim_mul m2 (l3 x hx)) ⟨rfl, rfl⟩
  repeat walk_at "st"
  refine wr_mulW (lim_mul m2 l1) ?_
  repeat walk_at "st"
  exact q
end
end K19
namespace K19
open PySem PySem.Spec PyProof.Rows L2
local macro_rules | `(tactic| walk_at "st") => `(tactic| first
  | with_reducible refine ws_seq ?_ | with_reducible refine ws_ret ?_ | with_reducible refine ws_if ?_ | with_reducible refine ws_next ?_
  | with_reducible refine we_int ?_ | with_reducible refine we_bl ?_ | with_reducible refine we_non ?_ | with_reducible refine we_str ?_
  | ((with_reducible refine' we_var ?we ?_); (case we => exact rfl)) | with_reducible refine we_op ?_ | with_reducible refine we_un ?_ | with_reducible refine we_isp ?_ | with_reducible refine we_callE ?_ | with_reducible refine we_callF ?_ | with_reducible refine we_cb ?_ | with_reducible refine wa_cons ?_ | with_reducible refine wa_nil ?_
  | with_reducible refine we_tup ?_ | with_reducible refine we_slT ?_ | with_reducible refine wo_none ?_ | with_reducible refine wo_some ?_
  | with_reducible refine we_andV ?_ | with_reducible refine we_orV ?_ | with_reducible refine we_notV ?_ | with_reducible refine we_chain ?_ | with_reducible refine we_ifE ?_
  | with_reducible refine wt_test ?_ | with_reducible refine wt_B ?_ | with_reducible refine wt_and ?_ | with_reducible refine wt_or ?_ | with_reducible refine wt_not ?_
  | with_reducible refine wr_add ?_ | with_reducible refine wr_sub ?_ | with_reducible refine wr_lt ?_ | with_reducible refine wr_le ?_ | with_reducible refine wr_gt ?_ | with_reducible refine wr_ge ?_ | with_reducible refine wr_eqI ?_ | with_reducible refine wr_neI ?_
  | with_reducible refine wr_rd0 ?_ | with_reducible refine wr_rd1 ?_ | with_reducible refine wr_rd2 ?_ | ((with_reducible refine' wr_ixT ?we ?_); (case we => exact ⟨by decide, rfl⟩))
  | with_reducible refine wr_isN ?_ | with_reducible refine wr_notN ?_ | with_reducible refine wr_isB ?_ | with_reducible refine wr_notB ?_ | with_reducible refine wu_neg ?_
  | with_reducible refine we_sides ?_ | with_reducible refine we_tables ?_ | with_reducible refine we_readings ?_ | with_reducible refine we_begin ?_ | with_reducible refine we_end ?_ | with_reducible refine we_length ?_ | with_reducible refine we_added ?_ | with_reducible refine we_least ?_ | with_reducible refine we_most ?_ | with_reducible refine we_stands ?_
  | with_reducible refine wi_tup ?_ | with_reducible refine wi_rng1 ?_ | with_reducible refine ws_drop ?_
  | with_reducible refine ex_b ?_ | ((with_reducible refine' ex_isi ?wp ?_); (case wp => first | assumption | rfl)) | with_reducible refine ex_prg ?_ | with_reducible refine ex_sm ?_ | with_reducible refine ret_p ?_ | with_reducible refine ret_nl ?_ | with_reducible refine ret_prg ?_ | with_reducible refine ret_sm ?_ | with_reducible refine iteT ?_ | with_reducible refine iteF ?_
  | (with_reducible refine wc_allT ?_) | (with_reducible refine wc_sumT ?_) | (with_reducible refine wc_tup rfl ?_) | (with_reducible refine wc_lenT ?_)
  | (refine ⟨rfl, (_, _, _, _), rfl, (by first | trivial | assumption | decide | omega), rfl, ?_⟩; try dsimp only) | (refine ⟨rfl, (_, _, _), rfl, (by first | trivial | assumption | decide | omega), rfl, ?_⟩; try dsimp only) | (refine ⟨rfl, (_, _), rfl, (by first | trivial | assumption | decide | omega), rfl, ?_⟩; try dsimp only) | (refine ⟨rfl, _, rfl, (by first | trivial | assumption | decide | omega), rfl, ?_⟩; try dsimp only)
  | ((with_reducible refine' iteT' ?wp ?_); (case wp => rfl)) | ((with_reducible refine' iteF' ?wp ?_); (case wp => rfl))
  | (with_reducible refine ws_asg ?_) | ((with_reducible refine wg_name ⟨?wl, ?_⟩); (case wl => exact (Nat.le_of_ble_eq_true rfl))))
local macro_rules | `(tactic| walk_at "st") => `(tactic| first
  | with_reducible refine wc_tupI rfl ?_ | with_reducible refine wc_min ?_ | with_reducible refine wc_max ?_ | with_reducible refine wr_neO ?_ | with_reducible refine wr_eqO ?_
  | with_reducible refine we_mkS ?_ | with_reducible refine ex_mkS ?_ | with_reducible refine we_lcI ?_ | with_reducible refine we_lcZ ?_ | with_reducible refine we_lcZM ?_ | with_reducible refine we_lcZ3 ?_ | with_reducible refine we_revP ?_ | with_reducible refine we_idx ?_)
section
variable {Pg : Program} {w : World} {g : Gk} {mg : Str → Option Value} {base : Heap}
mutual
/-- data stand where an instance is written -/
theorem pd_off {K : PySem.W.Frag} {H : Hp} {x C dx : Addr} {fs : List (Str × V)} {o : HO} (hx : H x = some (.ins C dx fs)) : ∀ (d : PyData) (v : V), Pd K H d v → Pd K (upd H x o) d v
  | .none, _, h => by cases h; exact .non
  | .bool _, _, h => by cases h; exact .bl _
  | .int _, _, h => by cases h; exact .int _
  | .str _, _, h => by cases h; exact .str _
  | .list _, _, h => by cases h
  | .dict _, _, h => by cases h
  | .tuple ds, _, h => by
    cases h with
    | @tup a vs _ h hs =>
      refine .tup ?_ (pds_off hx ds _ hs)
      have ne : ∀ {u : HO}, H a = some u → (∀ C dx fs, u ≠ .ins C dx fs) → upd H x o a = some u := fun {u} e n => by
        rw [upd_ne (fun z => by
          rw [z, hx] at e
          cases e
          exact n _ _ _ rfl)]
        exact e
      rcases h with (h | ⟨ob, h⟩) | h
      · exact .inl (.inl (ne h fun _ _ _ z => nomatch z))
      · exact .inl (.inr ⟨ob, ne h fun _ _ _ z => nomatch z⟩)
      · exact .inr h
theorem pds_off {K : PySem.W.Frag} {H : Hp} {x C dx : Addr} {fs : List (Str × V)} {o : HO} (hx : H x = some (.ins C dx fs)) : ∀ (ds : List PyData) (vs : List V), Pds K H ds vs → Pds K (upd H x o) ds vs
  | [], _, h => by cases h; exact .nil
  | d :: ds, _, h => by
    cases h with
    | cons h hs => exact .cons (pd_off hx d _ h) (pds_off hx ds _ hs)
end
theorem rds_at {rs : List Rd} {i : Nat} {r : Rd} (h : rs[i]? = some r) : (rs.map Rd.pd)[i]? = some r.pd := by
  rw [List.getElem?_map, h]
  rfl
theorem asc_at {rs : List Rd} (h : Asc rs) {i : Nat} {q r : Rd} (h1 : rs[i]? = some q) (h2 : rs[i + 1]? = some r) : q.lt r := by
  obtain ⟨i1, e1⟩ := List.getElem?_eq_some_iff.mp h1
  obtain ⟨i2, e2⟩ := List.getElem?_eq_some_iff.mp h2
  rw [← e1, ← e2]
  exact List.pairwise_iff_getElem.mp h i (i + 1) i1 i2 (Nat.lt_succ_self i)
theorem ok_Program_init {f : Addr} {fd : FuncData} (T : Tx g mg) (F : FT g "__init__" "Program.__init__" s_Program_init f fd) (C_is_within : Kn Pg w g mg base "is_within" 2 ["thing", "least", "most"] sp_is_within) (C_is_reading : Kn Pg w g mg base "is_reading" 4 ["sides", "tables", "thing"] sp_is_reading)
    (C_keep : KnM Pg w g mg base g.CP "keep" 1 ["self", "sides", "tables", "readings"] (spKeep g)) : FnOk Pg w g.K mg base CX0 5 f fd ["self", "sides", "tables", "readings"] (spInitP g) := by
  obtain ⟨t1, cMOST_SIDES⟩ := T.nSides
  obtain ⟨t2, cMOST_TABLES⟩ := T.nTables
  obtain ⟨t3, cMOST_READINGS⟩ := T.nReadings
  refine F.ok sc_Program_init (fun vs H Q E ⟨x, dx, rv, s, t, rs, e, _⟩ => by rw [e]; rfl) fun cdv A outer s H vs Q E hr ⟨x, dx, rv, ns, nt, rs, e, hx, hp, ⟨o1, o2, o3, o4, o5, o6, o7⟩, q⟩ =>
    ⟨_, (show PSs (cxOf CX0 Pg w g.K mg base N_Program_init "Program.__init__" (defScope s_Program_init) f cdv A outer s H E).nox (defBody s_Program_init) _ from (pss_cons (ps_if (pt_not (pt_val (pe_kn rfl C_is_within (hr.mono (by omega)) (by rfl) (pa_cons (pv 1) (pa_cons pe_int (pa_cons (pe_glob (v := .int 4) rfl cMOST_SIDES ⟨_, rfl⟩) pa_nil))))))
    (pss_one ps_never)
    pss_nil)
    (pss_cons (ps_if (pt_not (pt_val (pe_kn rfl C_is_within (hr.mono (by omega)) (by rfl) (pa_cons (pv 2) (pa_cons pe_int (pa_cons (pe_glob (v := .int 8) rfl cMOST_TABLES ⟨_, rfl⟩) pa_nil))))))
    (pss_one ps_never)
    pss_nil)
    (pss_cons (ps_if (PW.pt (pw_or (pt_not (pt_val (pe_callB call_isi (by rfl) T.f_isinstance (by decide +kernel) (pa_cons (pv 3) (pa_cons (pe_bltn (v := .ty "tuple") (by rfl) T.f_tuple (by decide +kernel) rfl) pa_nil))))) (pw_or1 (pt_cmpR op_gt (pe_callB call_len_seq (by rfl) T.f_len (by decide +kernel) (pa_cons (pv 3) pa_nil)) (pe_glob (v := .int 24) rfl cMOST_READINGS ⟨_, rfl⟩) (nomark _)))))
    (pss_one ps_never)
    pss_nil)
    (pss_cons (ps_for PassesOwn.never rfl (pi_enumT (by rfl) T.f_enumerate (pa_cons (pv 3) pa_nil)) (pg_tup (by rfl) (pgs_cons (pg_name (i := 4) sc_Program_init.nd rfl (.inl rfl)) (pgs_cons (pg_name (i := 5) sc_Program_init.nd rfl (.inl rfl)) pgs_nil)))
    (pss_one (ps_if (PW.pt (pw_or (pt_not (pt_val (pe_kn rfl C_is_reading (hr.mono (by omega)) (by rfl) (pa_cons (pv 1) (pa_cons (pv 2) (pa_cons (pv 5) pa_nil)))))) (pw_or1 (PW.pt (pw_and (pt_cmpR op_gt (pv 4) pe_int (nomark _)) (pw_and1 (pt_cmpR (op_leD hr.units) (pv 5) (pe_ix ix_tup (pv 3) (pe_op op_sub (pv 4) pe_int) (fun _ _ => rfl)) (nomark _))))))))
    (pss_one ps_never)
    pss_nil)))
    (pss_one (ps_expr (pe_mtC rfl g.clP C_keep (hr.mono (by omega)) (pv 0) (pa_cons (pv 1) (pa_cons (pv 2) (pa_cons (pv 3) pa_nil))))))))))).nox, ?_⟩
  subst e
  try dsimp only [cxOf, Cx.nox, Cx.wish]
  have L : Lo g ⟨none, H⟩ [] [] H (_root_.L2.start N_Program_init [.ref x, .int ns, .int nt, rv]) [some (.slf g.CP x), some (.p (.int ns)), some (.p (.int nt)), some (.p (rds rs)), none, none] [] := by
    refine ⟨fun a o e _ => e, fun a ha => absurd ha List.not_mem_nil, List.nodup_nil, rfl, fun k a m e _ => by simp at e, (fun pl cl e => nomatch e), rfl, fun i d e => ?_, fun p hp => absurd hp List.not_mem_nil⟩
    match i, e with
    | 0, e => cases e; exact ⟨_, rfl, rfl, dx, hx⟩
    | 1, e => cases e; exact ⟨_, rfl, .int _⟩
    | 2, e => cases e; exact ⟨_, rfl, .int _⟩
    | 3, e => cases e; exact ⟨_, rfl, hp⟩
    | 4, e => cases e
    | 5, e => cases e
    | i + 6, e => cases e
  refine seq_raw L (N := fun ds ms => ds = [some (.slf g.CP x), some (.p (.int ns)), some (.p (.int nt)), some (.p (rds rs)), none, none] ∧ ms = []) ?_ fun σ1 H1 as1 ds1 ms1 L ⟨e1, e2⟩ => ?_
  · repeat walk_at "st"
    rw [within_int, decide_eq_true o1, decide_eq_true o2]
    repeat walk_at "st"
    exact ⟨rfl, rfl⟩
  subst e1 e2
  refine seq_raw L (N := fun ds ms => ds = [some (.slf g.CP x), some (.p (.int ns)), some (.p (.int nt)), some (.p (rds rs)), none, none] ∧ ms = []) ?_ fun σ1 H1 as1 ds1 ms1 L ⟨e1, e2⟩ => ?_
  · repeat walk_at "st"
    rw [within_int, decide_eq_true o3, decide_eq_true o4]
    repeat walk_at "st"
    exact ⟨rfl, rfl⟩
  subst e1 e2
  refine seq_raw L (N := fun ds ms => ds = [some (.slf g.CP x), some (.p (.int ns)), some (.p (.int nt)), some (.p (rds rs)), none, none] ∧ ms = []) ?_ fun σ1 H1 as1 ds1 ms1 L ⟨e1, e2⟩ => ?_
  · repeat walk_at "st"
    refine wc_lenT (xs := rs.map Rd.pd) ?_
    rw [List.length_map]
    repeat walk_at "st"
    rw [decide_eq_false (show ¬ (24 : Int) < rs.length by omega)]
    repeat walk_at "st"
    exact ⟨rfl, rfl⟩
  subst e1 e2
  refine seq_raw L (N := fun ds ms => ms = [] ∧ ∃ a b, ds = [some (.slf g.CP x), some (.p (.int ns)), some (.p (.int nt)), some (.p (rds rs)), a, b]) ?_ fun σ1 H1 as1 ds1 ms1 L ⟨e2, a, b, e1⟩ => ?_
  · refine ws_for (wi_enT ?_)
    repeat walk_at "st"
    refine ⟨rs.map Rd.pd, rfl, fun i ds ms => ms = [] ∧ ∃ a b, ds = [some (.slf g.CP x), some (.p (.int ns)), some (.p (.int nt)), some (.p (rds rs)), a, b], ⟨rfl, none, none, rfl⟩, fun i y ds2 ms2 hy ⟨e2, a, b, e1⟩ => ?_, fun ds2 ms2 h => h⟩
    subst e1 e2
    obtain ⟨z, hz, rfl⟩ := enD_get hy
    rw [List.getElem?_map] at hz
    cases hr : rs[i]? with
    | none => rw [hr] at hz; cases hz
    | some r =>
      rw [hr] at hz
      cases hz
      refine wg_tup rfl (wgs_cons ⟨Nat.le_of_ble_eq_true rfl, wgs_cons ⟨Nat.le_of_ble_eq_true rfl, wgs_nil ?_⟩⟩)
      refine ws_ds (ds' := [some (.slf g.CP x), some (.p (.int ns)), some (.p (.int nt)), some (.p (rds rs)), some (.p (.int i)), some (.p r.pd)]) rfl ?_
      repeat walk_at "st"
      refine ⟨rfl, (_, _, _), rfl, ⟨o6 r (List.mem_of_getElem? hr), o2⟩, rfl, ?_⟩
      repeat walk_at "st"
      refine ite_b (fun h => ?_) (fun h => ?_)
      · have h := of_decide_eq_true h
        obtain ⟨j, rfl⟩ : ∃ j, i = j + 1 := ⟨i - 1, by omega⟩
        have hj : j < rs.length := by
          have := (List.getElem?_eq_some_iff.mp hr).1
          omega
        repeat walk_at "st"
        refine wr_ixT (xs := rs.map Rd.pd) (z := (rs[j]).pd) ⟨by omega, ?_⟩ ?_
        · rw [show ((((j + 1 : Nat) : Int)) - 1).toNat = j by omega]
          exact rds_at (List.getElem?_eq_getElem hj)
        refine wr_leD (asc_at o7 (List.getElem?_eq_getElem hj) hr) ?_
        repeat walk_at "st"
        exact ⟨rfl, _, _, rfl⟩
      · repeat walk_at "st"
        exact ⟨rfl, _, _, rfl⟩
  subst e1 e2
  obtain ⟨v0, s0, rfl, dx1, hx1⟩ := L.sl 0 _ rfl
  obtain ⟨v1, s1, i1⟩ := L.sl 1 _ rfl
  obtain ⟨v2, s2, i2⟩ := L.sl 2 _ rfl
  obtain ⟨v3, s3, i3⟩ := L.sl 3 _ rfl
  cases i1
  cases i2
  refine ⟨_, s0, x, dx1, [], rfl, hx1, rfl, _, s1, _, s2, _, s3, x, dx1, [], _, _, _, rfl, hx1, .inl rfl, q _ v3 (fun a o ne e => ?_) ?_ ?_⟩
  · rw [upd_ne ne]
    exact L.keep a o e (fun ⟨_, _, z, _⟩ => nomatch z)
  · have e1 : dx1 = dx := by
      have := L.keep x _ hx (fun ⟨_, _, z, _⟩ => nomatch z)
      rw [hx1] at this
      cases this
      rfl
    rw [upd_same, e1]
  · exact pd_off hx1 _ _ i3
/-- readings, a list or a tuple -/
def rdsL (tup : Bool) (rs : List Rd) : D := match tup with
  | true => .p (rds rs)
  | false => .l (rs.map Rd.pd)
theorem rdsL_seq (tup : Bool) (rs : List Rd) (ms : List MO) : seqD ms (rdsL tup rs) = some (rs.map Rd.pd) := by
  cases tup <;> rfl
abbrev sp_program_of : DSp := spF (fun a : Int × Int × List Rd × Bool => [.p (.int a.1), .p (.int a.2.1), rdsL a.2.2.2 a.2.2.1]) (fun a => a.2.2.1.length < 64) (fun a d => ∃ rs', d = .prg a.1 a.2.1 rs' true ∧ Asc rs' ∧ ∀ r, r ∈ rs' ↔ r ∈ a.2.2.1)
theorem ok_program_of {f : Addr} {fd : FuncData} (T : Tx g mg) (F : FT g "program_of" "program_of" s_program_of f fd) (C_Program : KnC Pg w g mg base "Program" g.CP 5 ["self", "sides", "tables", "readings"] (spInitP g)) (C_keep : KnM Pg w g mg base g.CP "keep" 1 ["self", "sides", "tables", "readings"] (spKeep g)) :
    FnOk Pg w g.K mg base CX0 7 f fd ["sides", "tables", "readings"] (spD g sp_program_of) := by
  refine dokB F sc_program_of (fun es Q ⟨a, e, _⟩ => by rw [e]; rfl) fun cdv A outer s H E hr => ⟨_, (pss_cons (ps_set (i := 3) sc_program_of.nd rfl (.inl rfl) (pe_mkC rfl C_Program (hr.mono (by omega)) (by rfl) (pa_cons pe_int (pa_cons pe_int (pa_cons (pe_tup pa_nil) pa_nil)))))
    (pss_cons (ps_expr (pe_mtC rfl g.clP C_keep (hr.mono (by omega)) (pv 3) (pa_cons (pv 0) (pa_cons (pv 1) (pa_cons (pe_callTy cr_tupF (by rfl) T.f_tuple (by decide +kernel) (pa_cons (pe_callB (cr_sortedS2 rfl hr.units) (by rfl) T.f_sorted (by decide +kernel) (pa_cons (pe_callTy (cr_setOfN rfl hr.units) (by rfl) T.f_set (by decide +kernel) (pa_cons (pv 2) pa_nil)) pa_nil)) pa_nil)) pa_nil)))))
    (pss_one (ps_ret (pv 3))))), fun c es Q ⟨⟨ns, nt, rs, tp⟩, e, hd, q⟩ => ?_⟩
  subst e
  try dsimp only [cxOf, Cx.nox, Cx.wish]
  have hd : rs.length < 64 := hd
  intro H σ E L hn hR
  have L : Lo g c [] [] H σ [some (.p (.int ns)), some (.p (.int nt)), some (rdsL tp rs), none] [] := L
  refine ⟨Nat.zero_le _, fun p np => ?_⟩
  intro x dx nx ndx ne
  have L1 := L.laid (o := .tup []) np
  have nx0 : c.H0 x = none := (L1.new nx).1
  have nxh : ¬ c.has x := (L1.new nx).2.2
  have hp0 : Pd g.K (upd (upd (upd H p (.tup [])) dx (.own x)) x (.ins g.CP dx [])) (rds []) (.ref p) := by
    have y : Stay (fun _ => False) (upd H p (.tup [])) (upd (upd (upd H p (.tup [])) dx (.own x)) x (.ins g.CP dx [])) := fun a o e n => by
      rw [upd_ne (ne_of_none e nx), upd_ne (ne_of_none e ndx)]
      exact e
    exact Pd.mono y _ _ (.tup (.of upd_same) .nil)
  refine ⟨x, dx, .ref p, 1, 1, [], rfl, upd_same, hp0, ⟨by decide, by decide, by decide, by decide, by decide, fun r hr => absurd hr List.not_mem_nil, List.Pairwise.nil⟩, fun H' rv' keep hx hr => ⟨rfl, ?_⟩⟩
  have same : ∀ a o, H a = some o → H' a = some o := fun a o e => by
    have e1 : (upd H p (.tup [])) a = some o := by
      rw [upd_ne (ne_of_none e np)]
      exact e
    refine keep a o (ne_of_none e1 nx) ?_
    rw [upd_ne (ne_of_none e1 nx), upd_ne (ne_of_none e1 ndx)]
    exact e1
  have L2 : Lo g c [] [] H' (σ.set 3 (some (.ref x))) [some (.p (.int ns)), some (.p (.int nt)), some (rdsL tp rs), some (.prg 1 1 [] false)] [] :=
    Lo.set ((L.same same).push (d := .prg 1 1 [] false) ⟨x, dx, rv', rfl, hx, hr, fun z => nomatch z⟩) (i := 3) (Nat.le_of_ble_eq_true rfl)
  obtain ⟨v0, s0, i0⟩ := L2.sl 0 _ rfl
  obtain ⟨v1, s1, i1⟩ := L2.sl 1 _ rfl
  obtain ⟨v3, s3, i3⟩ := L2.sl 3 _ rfl
  have e3 : v3 = .ref x := by
    have l3 : σ.length = 4 := L.sln
    rw [List.getElem?_set_self (by rw [l3]; decide)] at s3
    cases s3
    rfl
  subst e3
  cases i0
  cases i1
  refine ⟨_, s3, x, dx, _, rfl, hx, rfl, _, s0, _, s1, ?_⟩
  have hT : We g c (tCB (rTupF g.K) (tCons (tCB (rSortRd g.K w) (tCons (tCB (rSetRd g.K w) (tCons (tVar 2) tNil)) tNil)) tNil)) [some (.p (.int ns)), some (.p (.int nt)), some (rdsL tp rs), some (.prg 1 1 [] false)] [] (fun d ms => ∃ rs', d = .rdsF rs' ∧ Asc rs' ∧ ∀ r, r ∈ rs' ↔ r ∈ rs) := by
    refine we_cb (wa_cons (we_sortSet (we_var rfl ⟨rs, rdsL_seq tp rs _, hd, fun rs' asc mem => ?_⟩)))
    refine wa_nil (wc_tupF rfl ⟨rs', rfl, asc, mem⟩)
  refine hT [] [] H' _ L2 _ fun v H2 d ms' L3 ⟨rs', ed, asc, mem⟩ => ?_
  subst ed
  obtain ⟨pv, nd⟩ := L3.top
  obtain ⟨v4, s4, x4, dx4, rv4, e4, h4, _⟩ := L3.sl 3 _ rfl
  rw [s3] at s4
  cases s4
  cases e4
  refine ⟨x, dx4, _, _, _, v, rfl, h4, .inr ⟨_, _, _, rfl⟩, .ref x, s3, hR _ _ [] (.prg ns nt rs' true) (fun a o e n => ?_) (L3.pool.ext fun a ha o e => ?_) (fun a ha => absurd ha List.not_mem_nil) ⟨x, dx4, v, rfl, upd_same, pd_off h4 _ _ pv, fun _ => ?_⟩ rfl (q _ ⟨rs', rfl, asc, mem⟩).2⟩
  · rw [upd_ne (ne_of_none e nx0)]
    exact L3.keep a o e n
  · rw [upd_ne (show a ≠ x from fun z => nxh (z ▸ ha))]
    exact e
  · obtain ⟨a, o, us, ev, ha, ho⟩ := nd
    refine ⟨a, o, us, ev, ?_, ho⟩
    rw [upd_ne (fun z => by rw [z, h4] at ha; cases ha)]
    exact ha
end
end K19
/-! more steps: lists, membership, comprehensions over readings -/
namespace K19
open PySem PySem.Spec PyProof.Rows L2
section
variable {g : Gk} {c : Cg} {ds : List (Option D)} {ms : List MO} {P : D → List MO → Prop} {N : List (Option D) → List MO → Prop} {R : D → List MO → Prop}
/-- xs + ys of new lists -/
theorem wr_catL {xs ys : List PyData} (hl : xs.length + ys.length ≤ 1000) (h : P (.nl (xs ++ ys)) ms) : Wr g c rCat (.nl xs) (.nl ys) ms P := fun gs as H σ ds u v L h1 h2 Q q => by
  obtain ⟨a, vs, rfl, ha, _, _, _, hs⟩ := h1
  obtain ⟨b, ws, rfl, hb, _, _, _, ht⟩ := h2
  have l1 := hs.length
  have l2 := ht.length
  refine ⟨a, b, vs, ws, rfl, rfl, ha, hb, Nat.le_of_lt (small1000 (by omega)), fun p np => ?_⟩
  have y : Stay (fun _ => False) H (upd H p (.lst (vs ++ ws))) := .new np
  obtain ⟨n0, n1, n2⟩ := L.new np
  exact q _ _ (.nl (xs ++ ys)) ms ((L.laid np).push ⟨p, _, rfl, upd_same, n0, n1, n2, Pds.mono y _ _ (hs.append ht)⟩) h
/-- i not in (1, -1) -/
theorem wr_notPM {i : Int} (hi : i = 1 ∨ i = -1) (h : P (.p (.bool false)) ms) : Wr g c (rIn g.K true) (.p (.int i)) (.p (.tuple [.int 1, .int (-1)])) ms P := fun gs as H σ ds u v L h1 h2 Q q => by
  cases h1
  obtain ⟨a, rfl, ha⟩ := Pd.toInts (ns := [1, -1]) h2
  refine ⟨a, _, rfl, .inr ha, rfl, rfl, ?_⟩
  have e : inV (.int i) ([1, -1].map V.int) = true := by
    rcases hi with z | z <;> rw [z] <;> decide
  rw [e]
  exact q _ H _ ms (L.pushP (.bl false)) h
theorem cut_to (xs : List PyData) {p : Nat} (hp : p ≤ xs.length) : cutD xs none (some (p : Int)) = xs.take p := by
  have e1 : HT.sIx xs.length 0 none = 0 := rfl
  have e2 : HT.sIx xs.length xs.length (some (p : Int)) = p := by
    show (if (p : Int) < 0 then ((p : Int) + (xs.length : Int)).toNat else min (p : Int).toNat xs.length) = p
    rw [if_neg (by omega)]
    omega
  unfold cutD
  rw [e1, e2, List.drop_zero, Nat.sub_zero]
theorem cut_from (xs : List PyData) {p : Nat} (hp : p ≤ xs.length) : cutD xs (some (p : Int)) none = xs.drop p := by
  have e1 : HT.sIx xs.length xs.length none = xs.length := rfl
  have e2 : HT.sIx xs.length 0 (some (p : Int)) = p := by
    show (if (p : Int) < 0 then ((p : Int) + (xs.length : Int)).toNat else min (p : Int).toNat xs.length) = p
    rw [if_neg (by omega)]
    omega
  unfold cutD
  rw [e1, e2]
  exact List.take_of_length_le (by rw [List.length_drop]; exact Nat.le_refl _)
/-- a comprehension over readings: each to a reading -/
theorem we_lcR {te te2 : TE} {i j m : Nat} {own : List Nat} (h : We g c te ds ms fun d ms1 => ∃ rs : List Rd, d = .p (rds rs) ∧ rs.length ≤ 1000 ∧ ([(i, PyData.none), (j, .none), (m, .none)].all fun p => own.contains p.1 && decide (p.1 < ds.length)) = true ∧ ∃ F : Rd → Rd,
    (∀ r ∈ rs, We g c te2 (setD (wipeD ds own) [(i, .int r.x), (j, .int r.y), (m, intsD r.st)]) ms1 fun d ms4 => d = .p (F r).pd ∧ ms4 = ms1) ∧ P (.nl ((rs.map F).map Rd.pd)) ms1) : We g c (tLc (iTup g.K te) (gTup g.K 3 (gCons (gName i) (gCons (gName j) (gCons (gName m) gNil)))) tYes te2 own) ds ms P :=
  we_mapT (α := Rd) (wi_tup (we_mono h fun d ms1 ⟨rs, e, hl, ho, F, k, kp⟩ => ⟨rs.map Rd.pd, e, rs, Rd.pd, fun r => (F r).pd, rfl, hl, fun r hr => ⟨[(i, .int r.x), (j, .int r.y), (m, intsD r.st)], tgt_three, ho, k r hr⟩, by rw [List.map_map] at kp; exact kp⟩))
theorem ws_dm {ts : TS} {ds' : List (Option D)} {ms' : List MO} (e1 : ds = ds') (e2 : ms = ms') (h : Ws g c ts ds' ms' N R) : Ws g c ts ds ms N R := by
  rw [e1, e2]
  exact h
/-- a loop over readings -/
theorem ws_forR {te : TE} {tb : TS} {i j m n : Nat} (hn : n = 3) (h : We g c te ds ms fun d ms1 => ∃ rs : List Rd, d = .p (rds rs) ∧ ∃ Iv : Nat → List (Option D) → List MO → Prop, Iv 0 ds ms1 ∧
    (∀ (k : Nat) (r : Rd) ds2 ms2, rs[k]? = some r → Iv k ds2 ms2 → (i < ds2.length ∧ j < ds2.length ∧ m < ds2.length) ∧ Ws g c tb (((ds2.set i (some (.p (.int r.x)))).set j (some (.p (.int r.y)))).set m (some (.p (intsD r.st)))) ms2 (Iv (k + 1)) R) ∧ ∀ ds2 ms2, Iv rs.length ds2 ms2 → N ds2 ms2) :
    Ws g c (tFor (iTup g.K te) (gTup g.K n (gCons (gName i) (gCons (gName j) (gCons (gName m) gNil)))) tb) ds ms N R := by
  subst hn
  refine ws_for (wi_tup (we_mono h fun d ms1 ⟨rs, e, Iv, i0, turn, fin⟩ => ⟨rs.map Rd.pd, e, Iv, i0, fun k y ds2 ms2 hy iv => ?_, fun ds2 ms2 z => fin ds2 ms2 (by rw [List.length_map] at z; exact z)⟩))
  rw [List.getElem?_map] at hy
  cases hr : rs[k]? with
  | none =>
    rw [hr] at hy
    cases hy
  | some r =>
    rw [hr] at hy
    cases hy
    obtain ⟨⟨l1, l2, l3⟩, w⟩ := turn k r ds2 ms2 hr iv
    exact wg_tup (xs := [.int r.x, .int r.y, intsD r.st]) rfl (wgs_cons ⟨l1, wgs_cons ⟨by rw [List.length_set]; exact l2, wgs_cons ⟨by rw [List.length_set, List.length_set]; exact l3, wgs_nil w⟩⟩⟩)
theorem we_tupR {ta : TA} {r : Rd} (h : Wa g c ta ds ms fun es ms1 => es = [.p (.int r.x), .p (.int r.y), .p (intsD r.st)] ∧ P (.p r.pd) ms1) : We g c (tTup ta) ds ms P := we_tup fun gs as H σ L Q q => h gs as H σ L Q fun vs H' es ms' L' le ⟨e, k⟩ => q vs H' es ms' L' le ⟨[.int r.x, .int r.y, intsD r.st], e, Nat.le_of_ble_eq_true rfl, k⟩
end
theorem take_map_succ {α β : Type} (f : α → β) {l : List α} {i : Nat} {x : α} (h : l[i]? = some x) : (l.take (i + 1)).map f = (l.take i).map f ++ [f x] := by
  rw [List.take_succ, h, List.map_append]
  rfl
/-! ### the rules within a comprehension's block: the written part told by name -/
section
variable {X : Cx} {K : PySem.W.Frag}
theorem ix_tupG (hK : X.K = K) : IxR X (rIxT K) := by
  subst hK
  exact ix_tup
theorem ix_listG (hK : X.K = K) : IxR X (rIxL K) := by
  subst hK
  exact ix_list
theorem sl_tupG (hK : X.K = K) : SlR X (rSlA K) := by
  subst hK
  exact sl_tupA
theorem sl_listG (hK : X.K = K) : SlR X (rSlL K) := by
  subst hK
  exact sl_list
theorem op_catG (hK : X.K = K) : OpR X (binaryOp .Add) (rCatA K) := by
  subst hK
  exact op_catA
theorem pe_fldG {e : Expr} {f : Str} {pos : Pos} {ta : TE} (hK : X.K = K) (he : PE X e ta) (hb : attributeBase e f X.env (eval e X.env) = eval e X.env) : PE X (.Attribute e f pos) (tFld K ta f) := by
  subst hK
  exact pe_fld he hb
theorem call_tupG (hK : X.K = K) : CallR X (.type "tuple") (rTupQ K) := by
  subst hK
  exact call_tuple_of
theorem call_lenG (hK : X.K = K) : CallR X (.builtin "len") (rLenQ K) := by
  subst hK
  exact call_len_seq
theorem cr_sumG (hK : X.K = K) (hc : X.calm = true) : CallR X (.builtin "sum") (rSum K) := by
  subst hK
  exact cr_sum hc
theorem cr_allG (hK : X.K = K) (hc : X.calm = true) : CallR X (.builtin "all") (rAll K) := by
  subst hK
  exact cr_all hc
theorem pi_tupG {e tg : Expr} {te : TE} (hK : X.K = K) (he : PE X e te) : PI X tg e (iTup K te) := by
  subst hK
  exact pi_tup he
theorem pi_listG {e tg : Expr} {te : TE} (hK : X.K = K) (he : PE X e te) : PI X tg e (iList K te) := by
  subst hK
  exact pi_list he
theorem pe_idxG {o e : Expr} {to te : TE} {apos cpos : Pos} (hK : X.K = K) (hu : X.A.units + 65 < cLine) (ho : PE X o to) (he : PE X e te) (hbase : attributeBase o "index" X.env (eval o X.env) = eval o X.env := by rfl)
    (hfew : ((backTo cpos (starEach [e] X.env)).all (fun x => !x.1) && (backToKw cpos (keywordEach [] X.env)).all (fun x => x.1.isSome) && decide ([e].length + ([] : List Keyword).length + (if ([] : List Keyword).isEmpty then 0 else 1) < 30)) = true := by rfl)
    (hline : (apos.endLine == cpos.line) = true := by rfl) (hs : starEach [e] X.env = (false, eval e X.env) :: starEach [] X.env := by rfl) (hp : (backTo cpos (starEach [] X.env)).any (·.1) = false := by rfl) :
    PE X (.Call (.Attribute o "index" apos) [e] [] cpos) (tIdx K to te) := by
  subst hK
  exact pe_idx hu ho he hbase hfew hline hs hp
theorem pe_bmG {o e : Expr} {es : List Expr} {to : TE} {t : TA} {name : Str} {apos cpos : Pos} {T id : String} {r : V → List V → Hp → VK → Prop} (hK : X.K = K) (pa : PlainAttrs T) (slot : Slot T name id) (hty : typeOf (.builtin id) = pure (.type "method_descriptor")) (hm : MtR X id r) (ho : PE X o to) (ha : PA X (e :: es) t)
    (hbase : attributeBase o name X.env (eval o X.env) = eval o X.env := by rfl)
    (hfew : ((backTo cpos (starEach (e :: es) X.env)).all (fun x => !x.1) && (backToKw cpos (keywordEach [] X.env)).all (fun x => x.1.isSome) && decide ((e :: es).length + ([] : List Keyword).length + (if ([] : List Keyword).isEmpty then 0 else 1) < 30)) = true := by rfl)
    (hline : (apos.endLine == cpos.line) = true := by rfl) (hs : starEach (e :: es) X.env = (false, eval e X.env) :: starEach es X.env := by rfl) (hp : (backTo cpos (starEach es X.env)).any (·.1) = false := by rfl) :
    PE X (.Call (.Attribute o name apos) (e :: es) [] cpos) (tBM K T r to t) := by
  subst hK
  exact pe_bm pa slot hty hm ho ha hbase hfew hline hs hp
end
theorem sorted_unique : ∀ {xs ys : List Int}, xs.Perm ys → xs.Pairwise (· ≤ ·) → ys.Pairwise (· ≤ ·) → xs = ys
  | [], ys, h, _, _ => (List.perm_nil.mp h.symm).symm
  | x :: xs, [], h, _, _ => absurd h.length_eq (by simp)
  | x :: xs, y :: ys, h, hx, hy => by
    have hx2 := List.pairwise_cons.mp hx
    have hy2 := List.pairwise_cons.mp hy
    have e : x = y := by
      have a : y ≤ x := by
        rcases List.mem_cons.mp (h.mem_iff.mp List.mem_cons_self) with z | z
        · omega
        · exact hy2.1 x z
      have b : x ≤ y := by
        rcases List.mem_cons.mp (h.mem_iff.mpr List.mem_cons_self) with z | z
        · omega
        · exact hx2.1 y z
      omega
    subst e
    rw [sorted_unique h.cons_inv hx2.2 hy2.2]
theorem range_sorted (n : Nat) : ((List.range n).map fun i : Nat => (i : Int)).Pairwise (· ≤ ·) := by
  rw [List.pairwise_map]
  exact List.Pairwise.imp (fun h => by omega) List.pairwise_lt_range
theorem lay_ints : ∀ xs : List Int, PyData.canLayAll0 (xs.map .int) = true
  | [] => by simp [PyData.canLayAll0]
  | x :: xs => by simp [PyData.canLayAll0, PyData.canLay0, lay_ints xs]
theorem shaped_ints (xs : List Int) : SeqAt.shaped (.list (xs.map .int)) = true := by
  unfold SeqAt.shaped
  rw [Bool.and_eq_true]
  exact ⟨by simp [PyData.canLay0, lay_ints], by simp [PyData.depth, PySem.W.depth_ints]⟩
theorem shaped_intsT (xs : List Int) : SeqAt.shaped (intsD xs) = true := by
  unfold SeqAt.shaped intsD
  rw [Bool.and_eq_true]
  exact ⟨by simp [PyData.canLay0, lay_ints], by simp [PyData.depth, PySem.W.depth_ints]⟩
end K19
namespace K19
open PySem PySem.Spec PyProof.Rows L2
local macro_rules | `(tactic| walk_at "st") => `(tactic| first
  | with_reducible refine ws_seq ?_ | with_reducible refine ws_ret ?_ | with_reducible refine ws_if ?_ | with_reducible refine ws_next ?_
  | with_reducible refine we_int ?_ | with_reducible refine we_bl ?_ | with_reducible refine we_non ?_ | with_reducible refine we_str ?_
  | ((with_reducible refine' we_var ?we ?_); (case we => exact rfl)) | with_reducible refine we_op ?_ | with_reducible refine we_un ?_ | with_reducible refine we_isp ?_ | with_reducible refine we_callE ?_ | with_reducible refine we_callF ?_ | with_reducible refine we_cb ?_ | with_reducible refine wa_cons ?_ | with_reducible refine wa_nil ?_
  | with_reducible refine we_tup ?_ | with_reducible refine we_slT ?_ | with_reducible refine wo_none ?_ | with_reducible refine wo_some ?_
  | with_reducible refine we_andV ?_ | with_reducible refine we_orV ?_ | with_reducible refine we_notV ?_ | with_reducible refine we_chain ?_ | with_reducible refine we_ifE ?_
  | with_reducible refine wt_test ?_ | with_reducible refine wt_B ?_ | with_reducible refine wt_and ?_ | with_reducible refine wt_or ?_ | with_reducible refine wt_not ?_
  | with_reducible refine wr_add ?_ | with_reducible refine wr_sub ?_ | with_reducible refine wr_lt ?_ | with_reducible refine wr_le ?_ | with_reducible refine wr_gt ?_ | with_reducible refine wr_ge ?_ | with_reducible refine wr_eqI ?_ | with_reducible refine wr_neI ?_
  | with_reducible refine wr_rd0 ?_ | with_reducible refine wr_rd1 ?_ | with_reducible refine wr_rd2 ?_ | ((with_reducible refine' wr_ixT ?we ?_); (case we => exact ⟨by decide, rfl⟩))
  | with_reducible refine wr_isN ?_ | with_reducible refine wr_notN ?_ | with_reducible refine wr_isB ?_ | with_reducible refine wr_notB ?_ | with_reducible refine wu_neg ?_
  | with_reducible refine we_sides ?_ | with_reducible refine we_tables ?_ | with_reducible refine we_readings ?_ | with_reducible refine we_begin ?_ | with_reducible refine we_end ?_ | with_reducible refine we_length ?_ | with_reducible refine we_added ?_ | with_reducible refine we_least ?_ | with_reducible refine we_most ?_ | with_reducible refine we_stands ?_
  | with_reducible refine wi_tup ?_ | with_reducible refine wi_rng1 ?_ | with_reducible refine ws_drop ?_
  | with_reducible refine ex_b ?_ | ((with_reducible refine' ex_isi ?wp ?_); (case wp => first | assumption | rfl)) | with_reducible refine ex_prg ?_ | with_reducible refine ex_sm ?_ | with_reducible refine ret_p ?_ | with_reducible refine ret_nl ?_ | with_reducible refine ret_prg ?_ | with_reducible refine ret_sm ?_ | with_reducible refine iteT ?_ | with_reducible refine iteF ?_
  | (with_reducible refine wc_allT ?_) | (with_reducible refine wc_sumT ?_) | (with_reducible refine wc_tup rfl ?_) | (with_reducible refine wc_lenT ?_)
  | (refine ⟨rfl, (_, _, _, _), rfl, (by first | trivial | assumption | decide | omega), rfl, ?_⟩; try dsimp only) | (refine ⟨rfl, (_, _, _), rfl, (by first | trivial | assumption | decide | omega), rfl, ?_⟩; try dsimp only) | (refine ⟨rfl, (_, _), rfl, (by first | trivial | assumption | decide | omega), rfl, ?_⟩; try dsimp only) | (refine ⟨rfl, _, rfl, (by first | trivial | assumption | decide | omega), rfl, ?_⟩; try dsimp only)
  | ((with_reducible refine' iteT' ?wp ?_); (case wp => rfl)) | ((with_reducible refine' iteF' ?wp ?_); (case wp => rfl))
  | (with_reducible refine ws_asg ?_) | ((with_reducible refine wg_name ⟨?wl, ?_⟩); (case wl => exact (Nat.le_of_ble_eq_true rfl))))
local macro_rules | `(tactic| walk_at "st") => `(tactic| first
  | with_reducible refine wc_tupI rfl ?_ | with_reducible refine wc_min ?_ | with_reducible refine wc_max ?_ | with_reducible refine wr_neO ?_ | with_reducible refine wr_eqO ?_
  | with_reducible refine we_mkS ?_ | with_reducible refine ex_mkS ?_ | with_reducible refine we_lcI ?_ | with_reducible refine we_lcZ ?_ | with_reducible refine we_lcZM ?_ | with_reducible refine we_lcZ3 ?_ | with_reducible refine we_revP ?_ | with_reducible refine we_idx ?_)
local macro_rules | `(tactic| walk_at "st") => `(tactic| first
  | with_reducible refine ws_append ?_ | with_reducible refine we_lcR ?_ | with_reducible refine wc_sortTI ?_ | with_reducible refine we_listRg ?_ | ((with_reducible refine' ws_asgN (wn_nil ⟨?wl, ?_⟩)); (case wl => exact (Nat.le_of_ble_eq_true rfl))))
section
variable {Pg : Program} {w : World} {g : Gk} {mg : Str → Option Value} {base : Heap}
/-- 0 .. n - 1 -/
def upTo (n : Nat) : List Int := (List.range n).map fun i : Nat => (i : Int)
abbrev sp_are_all : DSp := spE (fun a : List Int × Nat => [.p (intsD a.1), .p (.int a.2)]) (fun a => a.1.Perm (upTo a.2) ∧ a.2 ≤ 1000) (fun _ => .p (.bool true))
theorem ok_are_all {f : Addr} {fd : FuncData} (T : Tx g mg) (F : FT g "are_all" "are_all" s_are_all f fd) (C_are_integers : Kn Pg w g mg base "are_integers" 2 ["thing", "many"] sp_are_integers) : FnOk Pg w g.K mg base CX0 3 f fd ["thing", "many"] (spD g sp_are_all) := by
  refine dok F sc_are_all (fun es Q ⟨a, e, _⟩ => by rw [e]; rfl) fun cdv A outer s H E hr => ⟨_, (pss_one (ps_ret (pe_and (pe_kn rfl C_are_integers (hr.mono (by omega)) (by rfl) (pa_cons (pv 0) (pa_cons (pv 1) pa_nil))) (pe_one (pe_cmpR (op_eqD hr.units) (pe_callB cr_sortedTI (by rfl) T.f_sorted (by decide +kernel) (pa_cons (pv 0) pa_nil)) (pe_listRg rfl (by rfl) T.f_list (prg_1 (by rfl) T.f_range (pv 1))) (nomark _)))))), fun c es Q ⟨⟨l, n⟩, e, hd, q⟩ => ?_⟩
  subst e
  try dsimp only [cxOf, Cx.nox, Cx.wish]
  refine ws_ds (ds' := [some (.p (intsD l)), some (.p (.int n))]) rfl ?_
  obtain ⟨pm, hn⟩ : l.Perm (upTo n) ∧ n ≤ 1000 := hd
  have q : Q (.p (.bool true)) := q.2
  have hl : l.length = n := by rw [pm.length_eq, upTo, List.length_map, List.length_range]
  repeat walk_at "st"
  refine ⟨rfl, (l, (n : Int)), rfl, by dsimp only; omega, rfl, ?_⟩
  dsimp only
  rw [decide_eq_true (show (l.length : Int) = n by omega)]
  refine ⟨_, rfl, ?_⟩
  refine iteT ?_
  repeat walk_at "st"
  intro ns' pm2 srt
  repeat walk_at "st"
  refine ⟨n, rfl, hn, ?_⟩
  have e : ns' = upTo n := sorted_unique (pm2.trans pm) srt (range_sorted n)
  subst e
  have e2 : ((List.range n).map fun i : Nat => PyData.int (i : Int)) = (upTo n).map .int := by rw [upTo, List.map_map]; rfl
  rw [e2]
  refine wr_eqL rfl rfl (shaped_ints _) (shaped_ints _) ?_
  rw [PyData.eqv, eqvAll_ints, decide_eq_true rfl]
  exact ⟨rfl, q⟩
/-- a program as three things and a flag -/
abbrev Pr := Int × Int × List Rd × Bool
abbrev Pr.d (p : Pr) : D := .prg p.1 p.2.1 p.2.2.1 p.2.2.2
/-- the readings ascending, of those -/
def OfRds (s t : Int) (rs : List Rd) (d : D) : Prop := ∃ rs', d = .prg s t rs' true ∧ Asc rs' ∧ ∀ r, r ∈ rs' ↔ r ∈ rs
theorem ofRds_ok {s t : Int} {rs : List Rd} {d : D} (h : OfRds s t rs d) : okR d = true := by
  obtain ⟨rs', e, _⟩ := h
  rw [e]
  rfl
abbrev nameR (names : List Int) (r : Rd) : Rd := ⟨names.getD r.x.toNat 0, names.getD r.y.toNat 0, r.st⟩
abbrev sp_renamed : DSp := spF (fun a : Pr × List Int => [Pr.d a.1, .p (intsD a.2)]) (fun a => a.2.Perm (upTo a.1.2.1.toNat) ∧ 0 ≤ a.1.2.1 ∧ a.1.2.1 ≤ 1000 ∧ a.1.2.2.1.length < 64 ∧ ∀ r ∈ a.1.2.2.1, 0 ≤ r.x ∧ r.x < a.1.2.1 ∧ 0 ≤ r.y ∧ r.y < a.1.2.1)
  (fun a d => OfRds a.1.1 a.1.2.1 (a.1.2.2.1.map (nameR a.2)) d)
theorem ints_at {l : List Int} {i : Int} (h0 : 0 ≤ i) (h1 : i < l.length) : 0 ≤ i ∧ (l.map PyData.int)[i.toNat]? = some (.int (l.getD i.toNat 0)) := by
  refine ⟨h0, ?_⟩
  have h : i.toNat < l.length := by omega
  rw [List.getElem?_map, List.getElem?_eq_getElem h, List.getD_eq_getElem?_getD, List.getElem?_eq_getElem h]
  rfl
theorem ok_renamed {f : Addr} {fd : FuncData} (T : Tx g mg) (F : FT g "renamed" "renamed" s_renamed f fd) (C_are_all : Kn Pg w g mg base "are_all" 3 ["thing", "many"] sp_are_all) (C_program_of : Kn Pg w g mg base "program_of" 7 ["sides", "tables", "readings"] sp_program_of) :
    FnOk Pg w g.K mg base CX0 8 f fd ["program", "names"] (spD g sp_renamed) := by
  refine dok F sc_renamed (fun es Q ⟨a, e, _⟩ => by rw [e]; rfl) fun cdv A outer s H E hr => ⟨_, (pss_cons (ps_if (pt_not (pt_val (pe_kn rfl C_are_all (hr.mono (by omega)) (by rfl) (pa_cons (pv 1) (pa_cons (pe_fld (pv 0) rfl) pa_nil)))))
    (pss_one ps_never)
    pss_nil)
    (pss_cons (ps_setLc (i := 2) (own := [("reader", 3), ("read", 4), ("step", 5)]) (tt := tYes) (g := gTup g.K 3 (gCons (gName 3) (gCons (gName 4) (gCons (gName 5) gNil)))) rfl sc_renamed.nd rfl rfl (sw_true rfl rfl rfl (by kernel_rfl)) (pi_tup (pe_fld (pv 0) rfl)) (blkOk_by (by kernel_rfl)) (fun _ _ _ _ _ => (pg_tup (by rfl) (pgs_cons (pg_name (i := 3) sc_renamed.nd rfl (.inl rfl)) (pgs_cons (pg_name (i := 4) sc_renamed.nd rfl (.inl rfl)) (pgs_cons (pg_name (i := 5) sc_renamed.nd rfl (.inl rfl)) pgs_nil))))) (fun _ _ _ _ _ => pts_nil) (fun _ _ _ _ _ => (pe_tup (pa_cons (pe_ix (ix_tupG (K := g.K) rfl) (pv 1) (pv 3) (fun _ _ => rfl)) (pa_cons (pe_ix (ix_tupG (K := g.K) rfl) (pv 1) (pv 4) (fun _ _ => rfl)) (pa_cons (pv 5) pa_nil))))))
    (pss_one (ps_ret (pe_kn rfl C_program_of (hr.mono (by omega)) (by rfl) (pa_cons (pe_fld (pv 0) rfl) (pa_cons (pe_fld (pv 0) rfl) (pa_cons (pv 2) pa_nil)))))))), fun c es Q ⟨⟨⟨ps, pt, pr, nd⟩, l⟩, e, hd, q⟩ => ?_⟩
  subst e
  try dsimp only [cxOf, Cx.nox, Cx.wish]
  refine ws_ds (ds' := [some (.prg ps pt pr nd), some (.p (intsD l)), none, none, none, none]) rfl ?_
  dsimp only at hd
  obtain ⟨pm, t0, t1, few, hb⟩ := hd
  have hl : (l.length : Int) = pt := by
    rw [pm.length_eq, upTo, List.length_map, List.length_range]
    omega
  repeat walk_at "st"
  refine ⟨rfl, (l, pt.toNat), by rw [show ((pt.toNat : Nat) : Int) = pt by omega]; rfl, ⟨pm, by dsimp only; omega⟩, rfl, ?_⟩
  repeat walk_at "st"
  refine ⟨pr, rfl, by omega, rfl, nameR l, fun r hr => ?_, ?_⟩
  · obtain ⟨x0, x1, y0, y1⟩ := hb r hr
    refine we_tupR (r := nameR l r) ?_
    repeat walk_at "st"
    refine wr_ixT (ints_at x0 (by omega)) ?_
    repeat walk_at "st"
    refine wr_ixT (ints_at y0 (by omega)) ?_
    repeat walk_at "st"
    exact ⟨rfl, rfl, rfl⟩
  repeat walk_at "st"
  refine ⟨rfl, (ps, pt, pr.map (nameR l), false), rfl, by rw [List.length_map]; exact few, fun d hd => ?_⟩
  dsimp only at hd
  have z := q d hd
  obtain ⟨rs', e, _⟩ := hd
  subst e
  exact ⟨rfl, rfl, z.2⟩
abbrev backR (r : Rd) : Rd := ⟨r.y, r.x, r.st.map (-·)⟩
abbrev sp_backward : DSp := spF (fun a : Pr => [Pr.d a]) (fun a => a.2.2.1.length < 64 ∧ ∀ r ∈ a.2.2.1, r.st.length ≤ 1000) (fun a d => OfRds a.1 a.2.1 (a.2.2.1.map backR) d)
theorem ok_backward {f : Addr} {fd : FuncData} (T : Tx g mg) (F : FT g "backward" "backward" s_backward f fd) (C_program_of : Kn Pg w g mg base "program_of" 7 ["sides", "tables", "readings"] sp_program_of) : FnOk Pg w g.K mg base CX0 8 f fd ["program"] (spD g sp_backward) := by
  refine dok F sc_backward (fun es Q ⟨a, e, _⟩ => by rw [e]; rfl) fun cdv A outer s H E hr => ⟨_, (pss_cons (ps_setLc (i := 1) (own := [("reader", 2), ("read", 3), ("step", 4)]) (tt := tYes) (g := gTup g.K 3 (gCons (gName 2) (gCons (gName 3) (gCons (gName 4) gNil)))) rfl sc_backward.nd rfl rfl (sw_true rfl rfl rfl (by kernel_rfl)) (pi_tup (pe_fld (pv 0) rfl)) (blkOk_by (by kernel_rfl)) (fun _ _ _ _ _ => (pg_tup (by rfl) (pgs_cons (pg_name (i := 2) sc_backward.nd rfl (.inl rfl)) (pgs_cons (pg_name (i := 3) sc_backward.nd rfl (.inl rfl)) (pgs_cons (pg_name (i := 4) sc_backward.nd rfl (.inl rfl)) pgs_nil))))) (fun _ _ _ _ _ => pts_nil) (fun _ _ _ _ _ => (pe_tup (pa_cons (pv 3) (pa_cons (pv 2) (pa_cons (pe_callTy (call_tupG (K := g.K) rfl) (by rfl) T.f_tuple (by decide +kernel) (pa_cons (pe_lc (own := [("part", 5)]) (tt := tYes) rfl sc_backward.nd (pi_tupG (K := g.K) rfl (pv 4)) (blkOk_by (by kernel_rfl)) (fun _ _ _ _ _ => (pg_name (i := 5) sc_backward.nd rfl (.inl rfl))) (fun _ _ _ _ _ => pts_nil) (fun _ _ _ _ _ => (pe_un un_neg (pv 5)))) pa_nil)) pa_nil))))))
    (pss_one (ps_ret (pe_kn rfl C_program_of (hr.mono (by omega)) (by rfl) (pa_cons (pe_fld (pv 0) rfl) (pa_cons (pe_fld (pv 0) rfl) (pa_cons (pv 1) pa_nil))))))), fun c es Q ⟨⟨ps, pt, pr, nd⟩, e, hd, q⟩ => ?_⟩
  subst e
  try dsimp only [cxOf, Cx.nox, Cx.wish]
  refine ws_ds (ds' := [some (.prg ps pt pr nd), none, none, none, none, none]) rfl ?_
  dsimp only at hd
  obtain ⟨few, hb⟩ := hd
  repeat walk_at "st"
  refine ⟨pr, rfl, by omega, rfl, backR, fun r hr => ?_, ?_⟩
  · refine we_tupR (r := backR r) ?_
    repeat walk_at "st"
    refine ⟨r.st, rfl, hb r hr, rfl, fun x => -x, fun x _ => ?_, ?_⟩
    · repeat walk_at "st"
      exact ⟨rfl, rfl⟩
    repeat walk_at "st"
    exact ⟨rfl, rfl, rfl⟩
  repeat walk_at "st"
  refine ⟨rfl, (ps, pt, pr.map backR, false), rfl, by rw [List.length_map]; exact few, fun d hd => ?_⟩
  dsimp only at hd
  have z := q d hd
  obtain ⟨rs', e, _⟩ := hd
  subst e
  exact ⟨rfl, rfl, z.2⟩
abbrev longR (m : Int) (r : Rd) : Rd := ⟨r.x, r.y, r.st.map (m * ·)⟩
abbrev sp_stretched : DSp := spF (fun a : Pr × Int => [Pr.d a.1, .p (.int a.2)]) (fun a => a.1.2.2.1.length < 64 ∧ (∀ r ∈ a.1.2.2.1, r.st.length ≤ 1000) ∧ 1 ≤ a.2 ∧ a.2 ≤ 1000000000000) (fun a d => OfRds a.1.1 a.1.2.1 (a.1.2.2.1.map (longR a.2)) d)
theorem ok_stretched {f : Addr} {fd : FuncData} (T : Tx g mg) (F : FT g "stretched" "stretched" s_stretched f fd) (C_check_number : Kn Pg w g mg base "check_number" 3 ["thing", "least", "most"] sp_check_number) (C_program_of : Kn Pg w g mg base "program_of" 7 ["sides", "tables", "readings"] sp_program_of) :
    FnOk Pg w g.K mg base CX0 8 f fd ["program", "times"] (spD g sp_stretched) := by
  obtain ⟨t1, cMOST_TIMES⟩ := T.nTimes
  refine dok F sc_stretched (fun es Q ⟨a, e, _⟩ => by rw [e]; rfl) fun cdv A outer s H E hr => ⟨_, (pss_cons (ps_expr (pe_kn rfl C_check_number (hr.mono (by omega)) (by rfl) (pa_cons (pv 1) (pa_cons pe_int (pa_cons (pe_glob (v := .int 1000000000000) rfl cMOST_TIMES ⟨_, rfl⟩) pa_nil)))))
    (pss_cons (ps_set (i := 2) sc_stretched.nd rfl (.inl rfl) (pe_lst pa_nil))
    (pss_cons (ps_for PassesOwn.never rfl (pi_tup (pe_fld (pv 0) rfl)) (pg_tup (by rfl) (pgs_cons (pg_name (i := 3) sc_stretched.nd rfl (.inl rfl)) (pgs_cons (pg_name (i := 4) sc_stretched.nd rfl (.inl rfl)) (pgs_cons (pg_name (i := 5) sc_stretched.nd rfl (.inl rfl)) pgs_nil))))
    (pss_one (ps_expr (pe_bm PySem.F.plainAttrs_list PySem.F.slot_list_append PySem.F.type_list_append mt_append (pv 2) (pa_cons (pe_tup (pa_cons (pv 3) (pa_cons (pv 4) (pa_cons (pe_callTy call_tuple_of (by rfl) T.f_tuple (by decide +kernel) (pa_cons (pe_lc (own := [("part", 6)]) (tt := tYes) rfl sc_stretched.nd (pi_tup (pv 5)) (blkOk_by (by kernel_rfl)) (fun _ _ _ _ _ => (pg_name (i := 6) sc_stretched.nd rfl (.inl rfl))) (fun _ _ _ _ _ => pts_nil) (fun _ _ _ _ _ => (pe_op op_mul (pv 1) (pv 6)))) pa_nil)) pa_nil)))) pa_nil)))))
    (pss_one (ps_ret (pe_kn rfl C_program_of (hr.mono (by omega)) (by rfl) (pa_cons (pe_fld (pv 0) rfl) (pa_cons (pe_fld (pv 0) rfl) (pa_cons (pv 2) pa_nil))))))))), fun c es Q ⟨⟨⟨ps, pt, pr, nd⟩, m⟩, e, hd, q⟩ => ?_⟩
  subst e
  try dsimp only [cxOf, Cx.nox, Cx.wish]
  refine ws_ds (ds' := [some (.prg ps pt pr nd), some (.p (.int m)), none, none, none, none, none]) rfl ?_
  dsimp only at hd
  obtain ⟨few, hb, m1, m2⟩ := hd
  repeat walk_at "st"
  refine ws_dm (ds' := [some (.prg ps pt pr nd), some (.p (.int m)), some (.m 0), none, none, none, none]) (ms' := [.l []]) rfl rfl ?_
  refine ws_forR rfl ?_
  repeat walk_at "st"
  refine ⟨pr, rfl, fun k ds ms => ms = [.l ((pr.take k).map fun r => (longR m r).pd)] ∧ ∃ a b d e, ds = [some (.prg ps pt pr nd), some (.p (.int m)), some (.m 0), a, b, d, e], ⟨rfl, _, _, _, _, rfl⟩, fun k r ds2 ms2 hr ⟨em, a, b, d, e, ed⟩ => ⟨?_, ?_⟩, fun ds2 ms2 ⟨em, a, b, d, e, ed⟩ => ?_⟩
  · subst ed
    exact ⟨Nat.le_of_ble_eq_true rfl, Nat.le_of_ble_eq_true rfl, Nat.le_of_ble_eq_true rfl⟩
  · subst em ed
    refine ws_ds (ds' := [some (.prg ps pt pr nd), some (.p (.int m)), some (.m 0), some (.p (.int r.x)), some (.p (.int r.y)), some (.p (intsD r.st)), e]) rfl ?_
    refine ws_append ⟨0, _, rfl, rfl, we_tupR (r := longR m r) ?_⟩
    repeat walk_at "st"
    refine ⟨r.st, rfl, hb r (List.mem_of_getElem? hr), rfl, fun x => m * x, fun x _ => ?_, ?_⟩
    · repeat walk_at "st"
      exact wr_mulL (by omega) ⟨rfl, rfl⟩
    repeat walk_at "st"
    refine ⟨rfl, _, _, rfl, rfl, ?_, ?_, _, _, _, _, rfl⟩
    · rw [List.length_map, List.length_take]
      omega
    · rw [take_map_succ _ hr]
      rfl
  · subst em ed
    rw [List.take_length]
    repeat walk_at "st"
    refine ⟨rfl, (ps, pt, pr.map (longR m), false), ?_, by rw [List.length_map]; exact few, fun d hd => ?_⟩
    · show _ = [D.p (.int ps), .p (.int pt), .l ((pr.map (longR m)).map Rd.pd)]
      rw [List.map_map]
      rfl
    dsimp only at hd
    have z := q d hd
    obtain ⟨rs', e, _⟩ := hd
    subst e
    exact ⟨rfl, rfl, z.2⟩
end
end K19
namespace K19
open PySem PySem.Spec PyProof.Rows L2
local macro_rules | `(tactic| walk_at "st") => `(tactic| first
  | with_reducible refine ws_seq ?_ | with_reducible refine ws_ret ?_ | with_reducible refine ws_if ?_ | with_reducible refine ws_next ?_
  | with_reducible refine we_int ?_ | with_reducible refine we_bl ?_ | with_reducible refine we_non ?_ | with_reducible refine we_str ?_
  | ((with_reducible refine' we_var ?we ?_); (case we => exact rfl)) | with_reducible refine we_op ?_ | with_reducible refine we_un ?_ | with_reducible refine we_isp ?_ | with_reducible refine we_callE ?_ | with_reducible refine we_callF ?_ | with_reducible refine we_cb ?_ | with_reducible refine wa_cons ?_ | with_reducible refine wa_nil ?_
  | with_reducible refine we_tup ?_ | with_reducible refine we_slT ?_ | with_reducible refine wo_none ?_ | with_reducible refine wo_some ?_
  | with_reducible refine we_andV ?_ | with_reducible refine we_orV ?_ | with_reducible refine we_notV ?_ | with_reducible refine we_chain ?_ | with_reducible refine we_ifE ?_
  | with_reducible refine wt_test ?_ | with_reducible refine wt_B ?_ | with_reducible refine wt_and ?_ | with_reducible refine wt_or ?_ | with_reducible refine wt_not ?_
  | with_reducible refine wr_add ?_ | with_reducible refine wr_sub ?_ | with_reducible refine wr_lt ?_ | with_reducible refine wr_le ?_ | with_reducible refine wr_gt ?_ | with_reducible refine wr_ge ?_ | with_reducible refine wr_eqI ?_ | with_reducible refine wr_neI ?_
  | with_reducible refine wr_rd0 ?_ | with_reducible refine wr_rd1 ?_ | with_reducible refine wr_rd2 ?_ | ((with_reducible refine' wr_ixT ?we ?_); (case we => exact ⟨by decide, rfl⟩))
  | with_reducible refine wr_isN ?_ | with_reducible refine wr_notN ?_ | with_reducible refine wr_isB ?_ | with_reducible refine wr_notB ?_ | with_reducible refine wu_neg ?_
  | with_reducible refine we_sides ?_ | with_reducible refine we_tables ?_ | with_reducible refine we_readings ?_ | with_reducible refine we_begin ?_ | with_reducible refine we_end ?_ | with_reducible refine we_length ?_ | with_reducible refine we_added ?_ | with_reducible refine we_least ?_ | with_reducible refine we_most ?_ | with_reducible refine we_stands ?_
  | with_reducible refine wi_tup ?_ | with_reducible refine wi_rng1 ?_ | with_reducible refine ws_drop ?_
  | with_reducible refine ex_b ?_ | ((with_reducible refine' ex_isi ?wp ?_); (case wp => first | assumption | rfl)) | with_reducible refine ex_prg ?_ | with_reducible refine ex_sm ?_ | with_reducible refine ret_p ?_ | with_reducible refine ret_nl ?_ | with_reducible refine ret_prg ?_ | with_reducible refine ret_sm ?_ | with_reducible refine iteT ?_ | with_reducible refine iteF ?_
  | (with_reducible refine wc_allT ?_) | (with_reducible refine wc_sumT ?_) | (with_reducible refine wc_tup rfl ?_) | (with_reducible refine wc_lenT ?_)
  | (refine ⟨rfl, (_, _, _, _), rfl, (by first | trivial | assumption | decide | omega), rfl, ?_⟩; try dsimp only) | (refine ⟨rfl, (_, _, _), rfl, (by first | trivial | assumption | decide | omega), rfl, ?_⟩; try dsimp only) | (refine ⟨rfl, (_, _), rfl, (by first | trivial | assumption | decide | omega), rfl, ?_⟩; try dsimp only) | (refine ⟨rfl, _, rfl, (by first | trivial | assumption | decide | omega), rfl, ?_⟩; try dsimp only)
  | ((with_reducible refine' iteT' ?wp ?_); (case wp => rfl)) | ((with_reducible refine' iteF' ?wp ?_); (case wp => rfl))
  | (with_reducible refine ws_asg ?_) | ((with_reducible refine wg_name ⟨?wl, ?_⟩); (case wl => exact (Nat.le_of_ble_eq_true rfl))))
local macro_rules | `(tactic| walk_at "st") => `(tactic| first
  | with_reducible refine wc_tupI rfl ?_ | with_reducible refine wc_min ?_ | with_reducible refine wc_max ?_ | with_reducible refine wr_neO ?_ | with_reducible refine wr_eqO ?_
  | with_reducible refine we_mkS ?_ | with_reducible refine ex_mkS ?_ | with_reducible refine we_lcZ ?_ | with_reducible refine we_lcZM ?_ | with_reducible refine we_lcZ3 ?_ | with_reducible refine we_revP ?_ | with_reducible refine we_idx ?_)
local macro_rules | `(tactic| walk_at "st") => `(tactic| first
  | with_reducible refine ws_append ?_ | with_reducible refine we_lcR ?_ | with_reducible refine wc_sortTI ?_ | with_reducible refine we_listRg ?_ | ((with_reducible refine' ws_asgN (wn_nil ⟨?wl, ?_⟩)); (case wl => exact (Nat.le_of_ble_eq_true rfl))))
section
variable {Pg : Program} {w : World} {g : Gk} {mg : Str → Option Value} {base : Heap}
abbrev upR (t : Int) (r : Rd) : Rd := ⟨r.x + t, r.y + t, r.st⟩
abbrev sp_beside : DSp := spF (fun a : Pr × Pr => [Pr.d a.1, Pr.d a.2]) (fun a => a.1.1 = a.2.1 ∧ a.1.2.2.1.length + a.2.2.2.1.length < 64) (fun a d => OfRds a.1.1 (a.1.2.1 + a.2.2.1) (a.1.2.2.1 ++ a.2.2.2.1.map (upR a.1.2.1)) d)
theorem ok_beside {f : Addr} {fd : FuncData} (T : Tx g mg) (F : FT g "beside" "beside" s_beside f fd) (C_program_of : Kn Pg w g mg base "program_of" 7 ["sides", "tables", "readings"] sp_program_of) : FnOk Pg w g.K mg base CX0 8 f fd ["one", "other"] (spD g sp_beside) := by
  refine dok F sc_beside (fun es Q ⟨a, e, _⟩ => by rw [e]; rfl) fun cdv A outer s H E hr => ⟨_, (pss_cons (ps_if (pt_cmpR op_ne (pe_fld (pv 0) rfl) (pe_fld (pv 1) rfl) (nomark _))
    (pss_one ps_never)
    pss_nil)
    (pss_cons (ps_setLc (i := 2) (own := [("reader", 3), ("read", 4), ("step", 5)]) (tt := tYes) (g := gTup g.K 3 (gCons (gName 3) (gCons (gName 4) (gCons (gName 5) gNil)))) rfl sc_beside.nd rfl rfl (sw_true rfl rfl rfl (by kernel_rfl)) (pi_tup (pe_fld (pv 1) rfl)) (blkOk_by (by kernel_rfl)) (fun _ _ _ _ _ => (pg_tup (by rfl) (pgs_cons (pg_name (i := 3) sc_beside.nd rfl (.inl rfl)) (pgs_cons (pg_name (i := 4) sc_beside.nd rfl (.inl rfl)) (pgs_cons (pg_name (i := 5) sc_beside.nd rfl (.inl rfl)) pgs_nil))))) (fun _ _ _ _ _ => pts_nil) (fun _ _ _ _ _ => (pe_tup (pa_cons (pe_op op_add (pv 3) (pe_fldG (K := g.K) rfl (pv 0) rfl)) (pa_cons (pe_op op_add (pv 4) (pe_fldG (K := g.K) rfl (pv 0) rfl)) (pa_cons (pv 5) pa_nil))))))
    (pss_one (ps_ret (pe_kn rfl C_program_of (hr.mono (by omega)) (by rfl) (pa_cons (pe_fld (pv 0) rfl) (pa_cons (pe_op op_add (pe_fld (pv 0) rfl) (pe_fld (pv 1) rfl)) (pa_cons (pe_op op_cat (pe_callTy call_list_of (by rfl) T.f_list (by decide +kernel) (pa_cons (pe_fld (pv 0) rfl) pa_nil)) (pv 2)) pa_nil)))))))), fun c es Q ⟨⟨⟨ps, pt, pr, nd⟩, os, ot, or, nd2⟩, e, hd, q⟩ => ?_⟩
  subst e
  try dsimp only [cxOf, Cx.nox, Cx.wish]
  refine ws_ds (ds' := [some (.prg ps pt pr nd), some (.prg os ot or nd2), none, none, none, none]) rfl ?_
  dsimp only at hd
  obtain ⟨es, few⟩ := hd
  subst es
  repeat walk_at "st"
  rw [decide_eq_true rfl]
  repeat walk_at "st"
  refine ⟨or, rfl, by omega, rfl, upR pt, fun r hr => ?_, ?_⟩
  · refine we_tupR (r := upR pt r) ?_
    repeat walk_at "st"
    exact ⟨rfl, rfl, rfl⟩
  repeat walk_at "st"
  refine wc_lstT (xs := pr.map Rd.pd) ?_
  repeat walk_at "st"
  refine wr_catL (by rw [List.length_map, List.length_map, List.length_map]; omega) ?_
  repeat walk_at "st"
  refine ⟨rfl, (ps, pt + ot, pr ++ or.map (upR pt), false), ?_, by rw [List.length_append, List.length_map]; exact few, fun d hd => ?_⟩
  · show _ = [D.p (.int ps), .p (.int (pt + ot)), .l ((pr ++ or.map (upR pt)).map Rd.pd)]
    rw [List.map_append]
    rfl
  dsimp only at hd
  have z := q d hd
  obtain ⟨rs', e, _⟩ := hd
  subst e
  exact ⟨rfl, rfl, z.2⟩
abbrev sp_also : DSp := spF (fun a : Pr × Rd => [Pr.d a.1, .p a.2.pd]) (fun a => a.1.2.2.1.length < 63 ∧ a.2.ok a.1.1 a.1.2.1 ∧ a.1.1 ≤ 4) (fun a d => OfRds a.1.1 a.1.2.1 (a.1.2.2.1 ++ [a.2]) d)
theorem ok_also {f : Addr} {fd : FuncData} (T : Tx g mg) (F : FT g "also" "also" s_also f fd) (C_check_reading : Kn Pg w g mg base "check_reading" 5 ["program", "thing"] sp_check_reading) (C_program_of : Kn Pg w g mg base "program_of" 7 ["sides", "tables", "readings"] sp_program_of) :
    FnOk Pg w g.K mg base CX0 8 f fd ["program", "reading"] (spD g sp_also) := by
  refine dok F sc_also (fun es Q ⟨a, e, _⟩ => by rw [e]; rfl) fun cdv A outer s H E hr => ⟨_, (pss_cons (ps_expr (pe_kn rfl C_check_reading (hr.mono (by omega)) (by rfl) (pa_cons (pv 0) (pa_cons (pv 1) pa_nil))))
    (pss_one (ps_ret (pe_kn rfl C_program_of (hr.mono (by omega)) (by rfl) (pa_cons (pe_fld (pv 0) rfl) (pa_cons (pe_fld (pv 0) rfl) (pa_cons (pe_op op_catA (pe_fld (pv 0) rfl) (pe_tup (pa_cons (pv 1) pa_nil))) pa_nil))))))), fun c es Q ⟨⟨⟨ps, pt, pr, nd⟩, r⟩, e, hd, q⟩ => ?_⟩
  subst e
  try dsimp only [cxOf, Cx.nox, Cx.wish]
  refine ws_ds (ds' := [some (.prg ps pt pr nd), some (.p r.pd)]) rfl ?_
  dsimp only at hd
  obtain ⟨few, ok, s4⟩ := hd
  repeat walk_at "st"
  refine ⟨rfl, ((ps, pt, pr, nd), r), rfl, ⟨ok, s4⟩, rfl, ?_⟩
  repeat walk_at "st"
  refine ⟨[r.pd], rfl, Nat.le_of_ble_eq_true rfl, ?_⟩
  refine wr_catT (xs := pr.map Rd.pd) (by rw [List.length_map]; simp only [List.length_singleton]; omega) ?_
  repeat walk_at "st"
  refine ⟨rfl, (ps, pt, pr ++ [r], true), ?_, by rw [List.length_append, List.length_singleton]; omega, fun d hd => ?_⟩
  · show _ = [D.p (.int ps), .p (.int pt), .p (rds (pr ++ [r]))]
    unfold rds
    rw [List.map_append]
    rfl
  dsimp only at hd
  have z := q d hd
  obtain ⟨rs', e, _⟩ := hd
  subst e
  exact ⟨rfl, rfl, z.2⟩
def dotL (row st : List Int) : Int := (List.zipWith (· * ·) row st).sum
abbrev sp_dot : DSp := spE (fun a : List Int × List Int => [.p (intsD a.1), .p (intsD a.2)]) (fun a => a.1.length = a.2.length ∧ a.1.length ≤ 1000 ∧ ∀ z ∈ a.1, -3 ≤ z ∧ z ≤ 3) (fun a => .p (.int (dotL a.1 a.2)))
theorem ok_dot {f : Addr} {fd : FuncData} (T : Tx g mg) (F : FT g "dot" "dot" s_dot f fd) : FnOk Pg w g.K mg base CX0 1 f fd ["row", "step"] (spD g sp_dot) := by
  refine dok F sc_dot (fun es Q ⟨a, e, _⟩ => by rw [e]; rfl) fun cdv A outer s H E hr => ⟨_, (pss_one (ps_ret (pe_callB (cr_sum rfl) (by rfl) T.f_sum (by decide +kernel) (pa_cons (pe_lc (own := [("one", 2), ("other", 3)]) (tt := tYes) (g := gTup g.K 2 (gCons (gName 2) (gCons (gName 3) gNil))) rfl sc_dot.nd (RZ.pi_zipA (by rfl) T.f_zip (pa_cons (pv 0) (pa_cons (pv 1) pa_nil))) (blkOk_by (by kernel_rfl)) (fun _ _ _ _ _ => (pg_tup (by rfl) (pgs_cons (pg_name (i := 2) sc_dot.nd rfl (.inl rfl)) (pgs_cons (pg_name (i := 3) sc_dot.nd rfl (.inl rfl)) pgs_nil)))) (fun _ _ _ _ _ => pts_nil) (fun _ _ _ _ _ => (pe_op op_mul (pv 2) (pv 3)))) pa_nil)))), fun c es Q ⟨⟨l1, l2⟩, e, hd, q⟩ => ?_⟩
  subst e
  try dsimp only [cxOf, Cx.nox, Cx.wish]
  refine ws_ds (ds' := [some (.p (intsD l1)), some (.p (intsD l2)), none, none]) rfl ?_
  dsimp only at hd
  obtain ⟨h1, h2, h3⟩ := hd
  repeat walk_at "st"
  refine ⟨l1, l2, rfl, h1, h2, rfl, fun x y => x * y, fun x y hxy => ?_, ?_⟩
  · have b := h3 x (List.of_mem_zip hxy).1
    repeat walk_at "st"
    exact wr_mulL (by omega) ⟨rfl, rfl⟩
  repeat walk_at "st"
  rw [List.map_id']
  exact q.2
/-- a matrix, row by row -/
def minor (p : Nat) (row : List Int) : List Int := row.take p ++ row.drop (p + 1)
def detM : Nat → List (List Int) → Int
  | 0, _ => 1
  | _ + 1, [] => 1
  | n + 1, r :: rs => ((List.range r.length).map fun p => r.getD p 0 * detM n (rs.map (minor p)) * (if p % 2 = 0 then 1 else -1)).sum
/-- square, its numbers small -/
def Sq (m : List (List Int)) : Prop := ∀ r ∈ m, r.length = m.length ∧ ∀ z ∈ r, -3 ≤ z ∧ z ≤ 3
theorem Sq.minor {r : List Int} {rs : List (List Int)} (h : Sq (r :: rs)) {p : Nat} (hp : p < r.length) : Sq (rs.map (K19.minor p)) := by
  intro q hq
  obtain ⟨s, hs, rfl⟩ := List.mem_map.mp hq
  obtain ⟨l1, b⟩ := h s (List.mem_cons_of_mem _ hs)
  have l2 := (h r List.mem_cons_self).1
  rw [List.length_cons] at l1 l2
  refine ⟨?_, fun z hz => ?_⟩
  · rw [K19.minor, List.length_append, List.length_take, List.length_drop, List.length_map]
    omega
  · rcases List.mem_append.mp hz with y | y
    · exact b z (List.mem_of_mem_take y)
    · exact b z (List.mem_of_mem_drop y)
abbrev matD (m : List (List Int)) : List PyData := m.map intsD
abbrev sp_detL (N : Nat) : DSp := spE (fun m : List (List Int) => [.l (matD m)]) (fun m => m.length ≤ N ∧ Sq m ∧ N ≤ 4) (fun m => .p (.int (detM m.length m)))
abbrev sp_detT : DSp := spE (fun m : List (List Int) => [.p (.tuple (matD m))]) (fun m => m.length ≤ 4 ∧ Sq m) (fun m => .p (.int (detM m.length m)))
/-- the part of the sum up to a place -/
def detTo (n : Nat) (r : List Int) (rs : List (List Int)) (k : Nat) : Int := ((List.range k).map fun p => r.getD p 0 * detM n (rs.map (minor p)) * (if p % 2 = 0 then 1 else -1)).sum
theorem detTo_succ (n : Nat) (r : List Int) (rs : List (List Int)) (k : Nat) : detTo n r rs (k + 1) = detTo n r rs k + r.getD k 0 * detM n (rs.map (minor k)) * (if k % 2 = 0 then 1 else -1) := by
  unfold detTo
  rw [List.range_succ, List.map_append, List.sum_append]
  simp
theorem ok_detL {f : Addr} {fd : FuncData} (T : Tx g mg) (F : FT g "determinant" "determinant" s_determinant f fd) (up : ∀ k sp, FnOk Pg w g.K mg base CX0 k f fd ["matrix"] (spD g sp) → Kn Pg w g mg base "determinant" k ["matrix"] sp) : ∀ N : Nat, FnOk Pg w g.K mg base CX0 (N + 1) f fd ["matrix"] (spD g (sp_detL N)) := by
  intro N
  induction N with
  | zero =>
    refine dok F sc_determinant (fun es Q ⟨a, e, _⟩ => by rw [e]; rfl) fun cdv A outer s H E hr => ⟨_,
      (pss_cons (ps_if (pt_cmpR op_eq (pe_callB call_len_seq (by rfl) T.f_len (by decide +kernel) (pa_cons (pv 0) pa_nil)) pe_int (nomark _)) (pss_one (ps_ret pe_int)) pss_nil) (pss_cons ps_never (pss_cons ps_never (pss_one ps_never)))), fun c es Q ⟨m, e, hd, q⟩ => ?_⟩
    subst e
    try dsimp only [cxOf, Cx.nox, Cx.wish]
    refine ws_ds (ds' := [some (.l (matD m)), none, none, none, none, none]) rfl ?_
    dsimp only at hd
    have e : m = [] := List.eq_nil_of_length_eq_zero (by omega)
    subst e
    repeat walk_at "st"
    refine wc_lenL rfl ?_
    repeat walk_at "st"
    exact q.2
  | succ N ih =>
    have C_determinant := up _ _ ih
    refine dok F sc_determinant (fun es Q ⟨a, e, _⟩ => by rw [e]; rfl) fun cdv A outer s H E hr => ⟨_, (pss_cons (ps_if (pt_cmpR op_eq (pe_callB call_len_seq (by rfl) T.f_len (by decide +kernel) (pa_cons (pv 0) pa_nil)) pe_int (nomark _))
    (pss_one (ps_ret pe_int))
    pss_nil)
    (pss_cons (ps_set (i := 1) sc_determinant.nd rfl (.inl rfl) pe_int)
    (pss_cons (ps_for PassesOwn.never rfl (pi_enumT (by rfl) T.f_enumerate (pa_cons (pe_ix ix_list (pv 0) pe_int (fun _ _ => rfl)) pa_nil)) (pg_tup (by rfl) (pgs_cons (pg_name (i := 2) sc_determinant.nd rfl (.inr rfl)) (pgs_cons (pg_name (i := 3) sc_determinant.nd rfl (.inl rfl)) pgs_nil)))
    (pss_cons (ps_setLc (i := 4) (own := [("row", 5)]) (tt := tYes) rfl sc_determinant.nd rfl rfl (sw_true rfl rfl rfl (by kernel_rfl)) (pi_list (pe_slice sl_list (pv 0) (po_some pe_int) po_none)) (blkOk_by (by kernel_rfl)) (fun _ _ _ _ _ => (pg_name (i := 5) sc_determinant.nd rfl (.inl rfl))) (fun _ _ _ _ _ => pts_nil) (fun _ _ _ _ _ => (pe_op (op_catG (K := g.K) rfl) (pe_slice (sl_tupG (K := g.K) rfl) (pv 5) po_none (po_some (pv 2))) (pe_slice (sl_tupG (K := g.K) rfl) (pv 5) (po_some (pe_op op_add (pv 2) pe_int)) po_none))))
    (pss_one (ps_aug (i := 1) sc_determinant.nd rfl (.inl rfl) (pe_op op_mul (pe_op op_mul (pv 3) (pe_kn rfl C_determinant (hr.mono (by omega)) (by rfl) (pa_cons (pv 4) pa_nil))) (pe_ifExp (pt_cmpR op_eq (pe_op op_mod (pv 2) pe_int) pe_int (nomark _)) pe_int (pe_un un_neg pe_int))) ip_add))))
    (pss_one (ps_ret (pv 1)))))), fun c es Q ⟨m, e, hd, q⟩ => ?_⟩
    subst e
    try dsimp only [cxOf, Cx.nox, Cx.wish]
    refine ws_ds (ds' := [some (.l (matD m)), none, none, none, none, none]) rfl ?_
    dsimp only at hd
    obtain ⟨hN, sq, h4⟩ := hd
    have q : Q (.p (.int (detM m.length m))) := q.2
    cases m with
    | nil =>
      repeat walk_at "st"
      refine wc_lenL rfl ?_
      repeat walk_at "st"
      exact q
    | cons r rs =>
      have lr : r.length = rs.length + 1 := (sq r List.mem_cons_self).1
      repeat walk_at "st"
      refine wc_lenL rfl ?_
      repeat walk_at "st"
      refine ws_ds (ds' := [some (.l (matD (r :: rs))), some (.p (.int 0)), none, none, none, none]) rfl ?_
      refine ws_for (wi_enT ?_)
      repeat walk_at "st"
      refine wr_ixL rfl (i := 0) (z := intsD r) ⟨by decide, rfl⟩ ?_
      repeat walk_at "st"
      refine ⟨r.map .int, rfl, fun k ds ms => ms = [] ∧ ∃ a b d, ds = [some (.l (matD (r :: rs))), some (.p (.int (detTo rs.length r rs k))), a, b, d, none], ⟨rfl, _, _, _, rfl⟩, fun k y ds2 ms2 hy ⟨em, a, b, d, ed⟩ => ?_, fun ds2 ms2 ⟨em, a, b, d, ed⟩ => ?_⟩
      · subst em ed
        obtain ⟨z, hz, rfl⟩ := enD_get hy
        rw [List.getElem?_map] at hz
        cases hr2 : r[k]? with
        | none => rw [hr2] at hz; cases hz
        | some x =>
          rw [hr2] at hz
          cases hz
          have hk : k < r.length := (List.getElem?_eq_some_iff.mp hr2).1
          have hx := (sq r List.mem_cons_self).2 x (List.mem_of_getElem? hr2)
          refine wg_tup rfl (wgs_cons ⟨Nat.le_of_ble_eq_true rfl, wgs_cons ⟨Nat.le_of_ble_eq_true rfl, wgs_nil ?_⟩⟩)
          refine ws_ds (ds' := [some (.l (matD (r :: rs))), some (.p (.int (detTo rs.length r rs k))), some (.p (.int k)), some (.p (.int x)), d, none]) rfl ?_
          have one : (0 : Int) ≤ 1 := by decide
          refine ws_seq (ws_asg (we_mapT (α := List Int) (wi_list (we_slL ?_))))
          repeat walk_at "st"
          refine ⟨1, rfl, ?_⟩
          repeat walk_at "st"
          have cut1 : cutD (matD (r :: rs)) (some 1) none = matD rs := cut_from (matD (r :: rs)) (p := 1) (by rw [List.length_map, List.length_cons]; omega)
          refine ⟨matD (r :: rs), rfl, matD rs, by rw [cut1]; rfl, rs, intsD, fun q => intsD (minor k q), rfl, by rw [List.length_cons] at hN; omega, fun q hq => ⟨_, tgt_name, rfl, ?_⟩, ?_⟩
          · have lq : q.length = rs.length + 1 := (sq q (List.mem_cons_of_mem _ hq)).1
            repeat walk_at "st"
            refine ⟨_, rfl, q.map .int, rfl, ?_⟩
            rw [cut_to _ (by rw [List.length_map]; omega)]
            repeat walk_at "st"
            refine ⟨_, rfl, ?_⟩
            repeat walk_at "st"
            refine ⟨q.map .int, rfl, ?_⟩
            rw [show ((k : Int) + 1) = (((k + 1 : Nat)) : Int) by omega, cut_from _ (by rw [List.length_map]; omega)]
            refine wr_catT (by rw [List.length_take, List.length_drop, List.length_map]; rw [List.length_cons] at hN; omega) ⟨?_, rfl⟩
            rw [← List.map_take, ← List.map_drop, ← List.map_append]
            rfl
          repeat walk_at "st"
          refine ws_ds (ds' := [some (.l (matD (r :: rs))), some (.p (.int (detTo rs.length r rs k))), some (.p (.int k)), some (.p (.int x)), some (.nl (matD (rs.map (minor k)))), none]) (by unfold matD; rw [List.map_map]; rfl) ?_
          refine ws_aug ⟨_, rfl, Nat.le_of_ble_eq_true rfl, ?_⟩
          repeat walk_at "st"
          refine ⟨rfl, rs.map (minor k), rfl, ⟨by rw [List.length_map]; rw [List.length_cons] at hN; omega, sq.minor hk, by omega⟩, rfl, ?_⟩
          rw [List.length_map]
          refine wr_mulL (by omega) ?_
          repeat walk_at "st"
          refine wr_mod (by decide) ?_
          repeat walk_at "st"
          have step := detTo_succ rs.length r rs k
          have ex : r.getD k 0 = x := by rw [List.getD_eq_getElem?_getD, hr2]; rfl
          rw [ex] at step
          refine ite_b (fun h => ?_) (fun h => ?_)
          · have h := of_decide_eq_true h
            rw [if_pos (show k % 2 = 0 by omega)] at step
            repeat walk_at "st"
            refine wr_mulR (by decide) ⟨_, rfl, rfl, some (.p (.int k)), some (.p (.int x)), some (.nl (matD (rs.map (minor k)))), ?_⟩
            rw [step]
            rfl
          · have h := of_decide_eq_false h
            rw [if_neg (show ¬ k % 2 = 0 by omega)] at step
            repeat walk_at "st"
            refine wr_mulR (by decide) ⟨_, rfl, rfl, some (.p (.int k)), some (.p (.int x)), some (.nl (matD (rs.map (minor k)))), ?_⟩
            rw [step]
            rfl
      · subst em ed
        rw [enD_len, List.length_map]
        repeat walk_at "st"
        exact q
theorem ok_detT {f : Addr} {fd : FuncData} (T : Tx g mg) (F : FT g "determinant" "determinant" s_determinant f fd) (C_determinant : Kn Pg w g mg base "determinant" 4 ["matrix"] (sp_detL 3)) : FnOk Pg w g.K mg base CX0 5 f fd ["matrix"] (spD g sp_detT) := by
  refine dok F sc_determinant (fun es Q ⟨a, e, _⟩ => by rw [e]; rfl) fun cdv A outer s H E hr => ⟨_, (pss_cons (ps_if (pt_cmpR op_eq (pe_callB call_len_seq (by rfl) T.f_len (by decide +kernel) (pa_cons (pv 0) pa_nil)) pe_int (nomark _))
    (pss_one (ps_ret pe_int))
    pss_nil)
    (pss_cons (ps_set (i := 1) sc_determinant.nd rfl (.inl rfl) pe_int)
    (pss_cons (ps_for PassesOwn.never rfl (pi_enumT (by rfl) T.f_enumerate (pa_cons (pe_ix ix_tup (pv 0) pe_int (fun _ _ => rfl)) pa_nil)) (pg_tup (by rfl) (pgs_cons (pg_name (i := 2) sc_determinant.nd rfl (.inr rfl)) (pgs_cons (pg_name (i := 3) sc_determinant.nd rfl (.inl rfl)) pgs_nil)))
    (pss_cons (ps_setLc (i := 4) (own := [("row", 5)]) (tt := tYes) rfl sc_determinant.nd rfl rfl (sw_true rfl rfl rfl (by kernel_rfl)) (pi_tup (pe_slice sl_tupA (pv 0) (po_some pe_int) po_none)) (blkOk_by (by kernel_rfl)) (fun _ _ _ _ _ => (pg_name (i := 5) sc_determinant.nd rfl (.inl rfl))) (fun _ _ _ _ _ => pts_nil) (fun _ _ _ _ _ => (pe_op (op_catG (K := g.K) rfl) (pe_slice (sl_tupG (K := g.K) rfl) (pv 5) po_none (po_some (pv 2))) (pe_slice (sl_tupG (K := g.K) rfl) (pv 5) (po_some (pe_op op_add (pv 2) pe_int)) po_none))))
    (pss_one (ps_aug (i := 1) sc_determinant.nd rfl (.inl rfl) (pe_op op_mul (pe_op op_mul (pv 3) (pe_kn rfl C_determinant (hr.mono (by omega)) (by rfl) (pa_cons (pv 4) pa_nil))) (pe_ifExp (pt_cmpR op_eq (pe_op op_mod (pv 2) pe_int) pe_int (nomark _)) pe_int (pe_un un_neg pe_int))) ip_add))))
    (pss_one (ps_ret (pv 1)))))), fun c es Q ⟨m, e, hd, q⟩ => ?_⟩
  subst e
  try dsimp only [cxOf, Cx.nox, Cx.wish]
  refine ws_ds (ds' := [some (.p (.tuple (matD m))), none, none, none, none, none]) rfl ?_
  dsimp only at hd
  obtain ⟨hN, sq⟩ := hd
  have q : Q (.p (.int (detM m.length m))) := q.2
  cases m with
  | nil =>
    repeat walk_at "st"
    exact q
  | cons r rs =>
    have lr : r.length = rs.length + 1 := (sq r List.mem_cons_self).1
    repeat walk_at "st"
    refine ws_ds (ds' := [some (.p (.tuple (matD (r :: rs)))), some (.p (.int 0)), none, none, none, none]) rfl ?_
    refine ws_for (wi_enT ?_)
    repeat walk_at "st"
    refine ⟨r.map .int, rfl, fun k ds ms => ms = [] ∧ ∃ a b d, ds = [some (.p (.tuple (matD (r :: rs)))), some (.p (.int (detTo rs.length r rs k))), a, b, d, none], ⟨rfl, _, _, _, rfl⟩, fun k y ds2 ms2 hy ⟨em, a, b, d, ed⟩ => ?_, fun ds2 ms2 ⟨em, a, b, d, ed⟩ => ?_⟩
    · subst em ed
      obtain ⟨z, hz, rfl⟩ := enD_get hy
      rw [List.getElem?_map] at hz
      cases hr2 : r[k]? with
      | none => rw [hr2] at hz; cases hz
      | some x =>
        rw [hr2] at hz
        cases hz
        have hk : k < r.length := (List.getElem?_eq_some_iff.mp hr2).1
        have hx := (sq r List.mem_cons_self).2 x (List.mem_of_getElem? hr2)
        refine wg_tup rfl (wgs_cons ⟨Nat.le_of_ble_eq_true rfl, wgs_cons ⟨Nat.le_of_ble_eq_true rfl, wgs_nil ?_⟩⟩)
        refine ws_ds (ds' := [some (.p (.tuple (matD (r :: rs)))), some (.p (.int (detTo rs.length r rs k))), some (.p (.int k)), some (.p (.int x)), d, none]) rfl ?_
        have one : (0 : Int) ≤ 1 := by decide
        refine ws_seq (ws_asg (we_mapT (α := List Int) (wi_tup (we_slT ?_))))
        repeat walk_at "st"
        refine ⟨1, rfl, ?_⟩
        repeat walk_at "st"
        have cut1 : cutD (matD (r :: rs)) (some 1) none = matD rs := cut_from (matD (r :: rs)) (p := 1) (by rw [List.length_map, List.length_cons]; omega)
        refine ⟨matD (r :: rs), rfl, matD rs, by rw [cut1], rs, intsD, fun q => intsD (minor k q), rfl, by rw [List.length_cons] at hN; omega, fun q hq => ⟨_, tgt_name, rfl, ?_⟩, ?_⟩
        · have lq : q.length = rs.length + 1 := (sq q (List.mem_cons_of_mem _ hq)).1
          repeat walk_at "st"
          refine ⟨_, rfl, q.map .int, rfl, ?_⟩
          rw [cut_to _ (by rw [List.length_map]; omega)]
          repeat walk_at "st"
          refine ⟨_, rfl, ?_⟩
          repeat walk_at "st"
          refine ⟨q.map .int, rfl, ?_⟩
          rw [show ((k : Int) + 1) = (((k + 1 : Nat)) : Int) by omega, cut_from _ (by rw [List.length_map]; omega)]
          refine wr_catT (by rw [List.length_take, List.length_drop, List.length_map]; rw [List.length_cons] at hN; omega) ⟨?_, rfl⟩
          rw [← List.map_take, ← List.map_drop, ← List.map_append]
          rfl
        repeat walk_at "st"
        refine ws_ds (ds' := [some (.p (.tuple (matD (r :: rs)))), some (.p (.int (detTo rs.length r rs k))), some (.p (.int k)), some (.p (.int x)), some (.nl (matD (rs.map (minor k)))), none]) (by unfold matD; rw [List.map_map]; rfl) ?_
        refine ws_aug ⟨_, rfl, Nat.le_of_ble_eq_true rfl, ?_⟩
        repeat walk_at "st"
        refine ⟨rfl, rs.map (minor k), rfl, ⟨by rw [List.length_map]; rw [List.length_cons] at hN; omega, sq.minor hk, by decide⟩, rfl, ?_⟩
        rw [List.length_map]
        refine wr_mulL (by omega) ?_
        repeat walk_at "st"
        refine wr_mod (by decide) ?_
        repeat walk_at "st"
        have step := detTo_succ rs.length r rs k
        have ex : r.getD k 0 = x := by rw [List.getD_eq_getElem?_getD, hr2]; rfl
        rw [ex] at step
        refine ite_b (fun h => ?_) (fun h => ?_)
        · have h := of_decide_eq_true h
          rw [if_pos (show k % 2 = 0 by omega)] at step
          repeat walk_at "st"
          refine wr_mulR (by decide) ⟨_, rfl, rfl, some (.p (.int k)), some (.p (.int x)), some (.nl (matD (rs.map (minor k)))), ?_⟩
          rw [step]
          rfl
        · have h := of_decide_eq_false h
          rw [if_neg (show ¬ k % 2 = 0 by omega)] at step
          repeat walk_at "st"
          refine wr_mulR (by decide) ⟨_, rfl, rfl, some (.p (.int k)), some (.p (.int x)), some (.nl (matD (rs.map (minor k)))), ?_⟩
          rw [step]
          rfl
    · subst em ed
      rw [enD_len, List.length_map]
      repeat walk_at "st"
      exact q
abbrev ledR (m : List (List Int)) (r : Rd) : Rd := ⟨r.x, r.y, m.map fun row => dotL row r.st⟩
abbrev sp_turned : DSp := spF (fun a : Pr × List (List Int) => [Pr.d a.1, .p (.tuple (matD a.2))]) (fun a => a.1.2.2.1.length < 64 ∧ (∀ r ∈ a.1.2.2.1, (r.st.length : Int) = a.1.1) ∧ a.1.1 ≤ 4 ∧ (a.2.length : Int) = a.1.1 ∧ Sq a.2 ∧ (detM a.2.length a.2 = 1 ∨ detM a.2.length a.2 = -1)) (fun a d => OfRds a.1.1 a.1.2.1 (a.1.2.2.1.map (ledR a.2)) d)
theorem ok_turned {f : Addr} {fd : FuncData} (T : Tx g mg) (F : FT g "turned" "turned" s_turned f fd) (C_are_integers : Kn Pg w g mg base "are_integers" 2 ["thing", "many"] sp_are_integers) (C_determinant : Kn Pg w g mg base "determinant" 5 ["matrix"] sp_detT)
    (C_dot : Kn Pg w g mg base "dot" 1 ["row", "step"] sp_dot) (C_program_of : Kn Pg w g mg base "program_of" 7 ["sides", "tables", "readings"] sp_program_of) : FnOk Pg w g.K mg base CX0 8 f fd ["program", "matrix"] (spD g sp_turned) := by
  refine dok F sc_turned (fun es Q ⟨a, e, _⟩ => by rw [e]; rfl) fun cdv A outer s H E hr => ⟨_, (pss_cons (ps_set (i := 2) sc_turned.nd rfl (.inr rfl) (pe_fld (pv 0) rfl))
    (pss_cons (ps_if (PW.pt (pw_or (pt_not (pt_val (pe_callB call_isi (by rfl) T.f_isinstance (by decide +kernel) (pa_cons (pv 1) (pa_cons (pe_bltn (v := .ty "tuple") (by rfl) T.f_tuple (by decide +kernel) rfl) pa_nil))))) (pw_or (pt_cmpR op_ne (pe_callB call_len_seq (by rfl) T.f_len (by decide +kernel) (pa_cons (pv 1) pa_nil)) (pv 2) (nomark _)) (pw_or1 (pt_not (pt_val (pe_callB (cr_all rfl) (by rfl) T.f_all (by decide +kernel) (pa_cons (pe_lc (own := [("row", 7)]) (tt := tYes) rfl sc_turned.nd (pi_tup (pv 1)) (blkOk_by (by kernel_rfl)) (fun _ _ _ _ _ => (pg_name (i := 7) sc_turned.nd rfl (.inl rfl))) (fun _ _ _ _ _ => pts_nil) (fun _ _ _ _ _ => (pe_kn rfl C_are_integers (hr.mono (by omega)) (by rfl) (pa_cons (pv 7) (pa_cons (pv 2) pa_nil))))) pa_nil))))))))
    (pss_one ps_never)
    pss_nil)
    (pss_cons (ps_if (pt_cmpR op_notIn_seq (pe_kn rfl C_determinant (hr.mono (by omega)) (by rfl) (pa_cons (pv 1) pa_nil)) (pe_tup (pa_cons pe_int (pa_cons (pe_un un_neg pe_int) pa_nil))) (by rfl))
    (pss_one ps_never)
    pss_nil)
    (pss_cons (ps_set (i := 3) sc_turned.nd rfl (.inl rfl) (pe_lst pa_nil))
    (pss_cons (ps_for PassesOwn.never rfl (pi_tup (pe_fld (pv 0) rfl)) (pg_tup (by rfl) (pgs_cons (pg_name (i := 4) sc_turned.nd rfl (.inl rfl)) (pgs_cons (pg_name (i := 5) sc_turned.nd rfl (.inl rfl)) (pgs_cons (pg_name (i := 6) sc_turned.nd rfl (.inr rfl)) pgs_nil))))
    (pss_one (ps_expr (pe_bm PySem.F.plainAttrs_list PySem.F.slot_list_append PySem.F.type_list_append mt_append (pv 3) (pa_cons (pe_tup (pa_cons (pv 4) (pa_cons (pv 5) (pa_cons (pe_callTy call_tuple_of (by rfl) T.f_tuple (by decide +kernel) (pa_cons (pe_lc (own := [("row", 7)]) (tt := tYes) rfl sc_turned.nd (pi_tup (pv 1)) (blkOk_by (by kernel_rfl)) (fun _ _ _ _ _ => (pg_name (i := 7) sc_turned.nd rfl (.inl rfl))) (fun _ _ _ _ _ => pts_nil) (fun _ _ _ _ _ => (pe_kn rfl C_dot (hr.mono (by omega)) (by rfl) (pa_cons (pv 7) (pa_cons (pv 6) pa_nil))))) pa_nil)) pa_nil)))) pa_nil)))))
    (pss_one (ps_ret (pe_kn rfl C_program_of (hr.mono (by omega)) (by rfl) (pa_cons (pv 2) (pa_cons (pe_fld (pv 0) rfl) (pa_cons (pv 3) pa_nil))))))))))), fun c es Q ⟨⟨⟨ps, pt, pr, nd⟩, m⟩, e, hd, q⟩ => ?_⟩
  subst e
  try dsimp only [cxOf, Cx.nox, Cx.wish]
  refine ws_ds (ds' := [some (.prg ps pt pr nd), some (.p (.tuple (matD m))), none, none, none, none, none, none]) rfl ?_
  dsimp only at hd
  obtain ⟨few, hb, s4, ml, sq, det⟩ := hd
  repeat walk_at "st"
  rw [List.length_map, decide_eq_true ml]
  repeat walk_at "st"
  refine we_mapT (α := List Int) ?_
  repeat walk_at "st"
  refine ⟨_, rfl, m, intsD, fun _ => .bool true, rfl, by omega, fun row hrow => ⟨_, tgt_name, rfl, ?_⟩, ?_⟩
  · repeat walk_at "st"
    refine ⟨rfl, (row, ps), rfl, by dsimp only; have := (sq row hrow).1; omega, rfl, ?_⟩
    dsimp only
    rw [decide_eq_true (show (row.length : Int) = ps by have := (sq row hrow).1; omega)]
    exact ⟨rfl, rfl⟩
  repeat walk_at "st"
  rw [show m.all (fun _ => true) = true by simp]
  repeat walk_at "st"
  refine ⟨rfl, m, rfl, ⟨by omega, sq⟩, rfl, ?_⟩
  repeat walk_at "st"
  refine ⟨[.int 1, .int (-1)], rfl, by decide, ?_⟩
  refine wr_notPM det ?_
  repeat walk_at "st"
  refine ws_dm (ds' := [some (.prg ps pt pr nd), some (.p (.tuple (matD m))), some (.p (.int ps)), some (.m 0), none, none, none, none]) (ms' := [.l []]) rfl rfl ?_
  refine ws_forR rfl ?_
  repeat walk_at "st"
  refine ⟨pr, rfl, fun k ds ms => ms = [.l ((pr.take k).map fun r => (ledR m r).pd)] ∧ ∃ a b d e, ds = [some (.prg ps pt pr nd), some (.p (.tuple (matD m))), some (.p (.int ps)), some (.m 0), a, b, d, e], ⟨rfl, _, _, _, _, rfl⟩, fun k r ds2 ms2 hr ⟨em, a, b, d, e, ed⟩ => ⟨?_, ?_⟩, fun ds2 ms2 ⟨em, a, b, d, e, ed⟩ => ?_⟩
  · subst ed
    exact ⟨Nat.le_of_ble_eq_true rfl, Nat.le_of_ble_eq_true rfl, Nat.le_of_ble_eq_true rfl⟩
  · subst em ed
    have hst := hb r (List.mem_of_getElem? hr)
    refine ws_ds (ds' := [some (.prg ps pt pr nd), some (.p (.tuple (matD m))), some (.p (.int ps)), some (.m 0), some (.p (.int r.x)), some (.p (.int r.y)), some (.p (intsD r.st)), e]) rfl ?_
    refine ws_append ⟨0, _, rfl, rfl, we_tupR (r := ledR m r) ?_⟩
    repeat walk_at "st"
    refine we_mapT (α := List Int) ?_
    repeat walk_at "st"
    refine ⟨_, rfl, m, intsD, fun row => .int (dotL row r.st), rfl, by omega, fun row hrow => ⟨_, tgt_name, rfl, ?_⟩, ?_⟩
    · have hl := (sq row hrow).1
      repeat walk_at "st"
      refine ⟨rfl, (row, r.st), rfl, ⟨by dsimp only; omega, by dsimp only; omega, (sq row hrow).2⟩, rfl, rfl, rfl⟩
    repeat walk_at "st"
    refine ⟨by show _ = [D.p (.int r.x), .p (.int r.y), .p (.tuple ((m.map fun row => dotL row r.st).map .int))]; rw [List.map_map]; rfl, _, _, rfl, rfl, ?_, ?_, _, _, _, _, rfl⟩
    · rw [List.length_map, List.length_take]
      omega
    · rw [take_map_succ _ hr]
      rfl
  · subst em ed
    rw [List.take_length]
    repeat walk_at "st"
    refine ⟨rfl, (ps, pt, pr.map (ledR m), false), ?_, by rw [List.length_map]; exact few, fun d hd => ?_⟩
    · show _ = [D.p (.int ps), .p (.int pt), .l ((pr.map (ledR m)).map Rd.pd)]
      rw [List.map_map]
      rfl
    dsimp only at hd
    have z := q d hd
    obtain ⟨rs', e, _⟩ := hd
    subst e
    exact ⟨rfl, rfl, z.2⟩
end
end K19
namespace K19
open PySem PySem.Spec PyProof.Rows L2
local macro_rules | `(tactic| walk_at "st") => `(tactic| first
  | with_reducible refine ws_seq ?_ | with_reducible refine ws_ret ?_ | with_reducible refine ws_if ?_ | with_reducible refine ws_next ?_
  | with_reducible refine we_int ?_ | with_reducible refine we_bl ?_ | with_reducible refine we_non ?_ | with_reducible refine we_str ?_
  | ((with_reducible refine' we_var ?we ?_); (case we => exact rfl)) | with_reducible refine we_op ?_ | with_reducible refine we_un ?_ | with_reducible refine we_isp ?_ | with_reducible refine we_callE ?_ | with_reducible refine we_callF ?_ | with_reducible refine we_cb ?_ | with_reducible refine wa_cons ?_ | with_reducible refine wa_nil ?_
  | with_reducible refine we_tup ?_ | with_reducible refine we_slT ?_ | with_reducible refine wo_none ?_ | with_reducible refine wo_some ?_
  | with_reducible refine we_andV ?_ | with_reducible refine we_orV ?_ | with_reducible refine we_notV ?_ | with_reducible refine we_chain ?_ | with_reducible refine we_ifE ?_
  | with_reducible refine wt_test ?_ | with_reducible refine wt_B ?_ | with_reducible refine wt_and ?_ | with_reducible refine wt_or ?_ | with_reducible refine wt_not ?_
  | with_reducible refine wr_add ?_ | with_reducible refine wr_sub ?_ | with_reducible refine wr_lt ?_ | with_reducible refine wr_le ?_ | with_reducible refine wr_gt ?_ | with_reducible refine wr_ge ?_ | with_reducible refine wr_eqI ?_ | with_reducible refine wr_neI ?_
  | with_reducible refine wr_rd0 ?_ | with_reducible refine wr_rd1 ?_ | with_reducible refine wr_rd2 ?_ | ((with_reducible refine' wr_ixT ?we ?_); (case we => exact ⟨by decide, rfl⟩))
  | with_reducible refine wr_isN ?_ | with_reducible refine wr_notN ?_ | with_reducible refine wr_isB ?_ | with_reducible refine wr_notB ?_ | with_reducible refine wu_neg ?_
  | with_reducible refine we_sides ?_ | with_reducible refine we_tables ?_ | with_reducible refine we_readings ?_ | with_reducible refine we_begin ?_ | with_reducible refine we_end ?_ | with_reducible refine we_length ?_ | with_reducible refine we_added ?_ | with_reducible refine we_least ?_ | with_reducible refine we_most ?_ | with_reducible refine we_stands ?_
  | with_reducible refine wi_tup ?_ | with_reducible refine wi_rng1 ?_ | with_reducible refine ws_drop ?_
  | with_reducible refine ex_b ?_ | ((with_reducible refine' ex_isi ?wp ?_); (case wp => first | assumption | rfl)) | with_reducible refine ex_prg ?_ | with_reducible refine ex_sm ?_ | with_reducible refine ret_p ?_ | with_reducible refine ret_nl ?_ | with_reducible refine ret_prg ?_ | with_reducible refine ret_sm ?_ | with_reducible refine iteT ?_ | with_reducible refine iteF ?_
  | (with_reducible refine wc_allT ?_) | (with_reducible refine wc_sumT ?_) | (with_reducible refine wc_tup rfl ?_) | (with_reducible refine wc_lenT ?_)
  | (refine ⟨rfl, (_, _, _, _), rfl, (by first | trivial | assumption | decide | omega), rfl, ?_⟩; try dsimp only) | (refine ⟨rfl, (_, _, _), rfl, (by first | trivial | assumption | decide | omega), rfl, ?_⟩; try dsimp only) | (refine ⟨rfl, (_, _), rfl, (by first | trivial | assumption | decide | omega), rfl, ?_⟩; try dsimp only) | (refine ⟨rfl, _, rfl, (by first | trivial | assumption | decide | omega), rfl, ?_⟩; try dsimp only)
  | ((with_reducible refine' iteT' ?wp ?_); (case wp => rfl)) | ((with_reducible refine' iteF' ?wp ?_); (case wp => rfl))
  | (with_reducible refine ws_asg ?_) | ((with_reducible refine wg_name ⟨?wl, ?_⟩); (case wl => exact (Nat.le_of_ble_eq_true rfl))))
local macro_rules | `(tactic| walk_at "st") => `(tactic| first
  | with_reducible refine wc_tupI rfl ?_ | with_reducible refine wc_min ?_ | with_reducible refine wc_max ?_ | with_reducible refine wr_neO ?_ | with_reducible refine wr_eqO ?_
  | with_reducible refine we_mkS ?_ | with_reducible refine ex_mkS ?_ | with_reducible refine we_lcI ?_ | with_reducible refine we_lcZ ?_ | with_reducible refine we_lcZM ?_ | with_reducible refine we_lcZ3 ?_ | with_reducible refine we_revP ?_ | with_reducible refine we_idx ?_)
local macro_rules | `(tactic| walk_at "st") => `(tactic| first
  | with_reducible refine ws_append ?_ | with_reducible refine we_lcR ?_ | with_reducible refine wc_sortTI ?_ | with_reducible refine we_listRg ?_ | ((with_reducible refine' ws_asgN (wn_nil ⟨?wl, ?_⟩)); (case wl => exact (Nat.le_of_ble_eq_true rfl))))
section
variable {Pg : Program} {w : World} {g : Gk} {mg : Str → Option Value} {base : Heap}
/-! ### logs -/
inductive Lg where
  | nil
  | num (n : Int) (r : Lg)
  | rnd (m : Int) (i r : Lg)
def Lg.ds : Lg → List PyData
  | .nil => []
  | .num n r => .int n :: r.ds
  | .rnd m i r => .tuple [.str "times", .int m, .tuple i.ds] :: r.ds
abbrev Lg.pd (l : Lg) : PyData := .tuple l.ds
def Lg.tl : Nat → Lg → Lg
  | 0, l => l
  | _ + 1, .nil => .nil
  | k + 1, .num _ r => r.tl k
  | k + 1, .rnd _ _ r => r.tl k
theorem Lg.at_ : ∀ (l : Lg) (k : Nat) (y : PyData), l.ds[k]? = some y → (∃ n, y = .int n ∧ l.tl k = .num n (l.tl (k + 1))) ∨ (∃ m i, y = .tuple [.str "times", .int m, .tuple i.ds] ∧ l.tl k = .rnd m i (l.tl (k + 1)))
  | .nil, k, y, h => by simp [Lg.ds] at h
  | .num n r, 0, y, h => by
    simp only [Lg.ds, List.getElem?_cons_zero, Option.some.injEq] at h
    exact .inl ⟨n, h.symm, rfl⟩
  | .rnd m i r, 0, y, h => by
    simp only [Lg.ds, List.getElem?_cons_zero, Option.some.injEq] at h
    exact .inr ⟨m, i, h.symm, rfl⟩
  | .num n r, k + 1, y, h => by
    simp only [Lg.ds, List.getElem?_cons_succ] at h
    exact Lg.at_ r k y h
  | .rnd m i r, k + 1, y, h => by
    simp only [Lg.ds, List.getElem?_cons_succ] at h
    exact Lg.at_ r k y h
theorem Lg.tl_end : ∀ l : Lg, l.tl l.ds.length = .nil
  | .nil => rfl
  | .num n r => Lg.tl_end r
  | .rnd m i r => Lg.tl_end r
def Lg.dep : Lg → Nat
  | .nil => 0
  | .num _ r => r.dep
  | .rnd _ i r => max (i.dep + 1) r.dep
/-- the empty walk; a reading's; a log's -/
def Sm.zero (n t : Nat) : Sm := ⟨none, none, 0, List.replicate n 0, List.replicate n 0, List.replicate n 0, List.replicate t 0⟩
def Sm.one (t : Nat) (r : Rd) : Sm := ⟨some r.x, some r.y, 1, r.st, r.st.map fun z => min 0 (-z), r.st.map fun z => max 0 (-z), (upTo t).map fun i => if i = r.y then 1 else 0⟩
def sumL (rs : List Rd) (n t : Nat) : Lg → Sm → Option Sm
  | .nil, f => some f
  | .num k r, f => match rs[k.toNat]? with
    | none => none
    | some q => (f.beh (Sm.one t q)).bind (sumL rs n t r)
  | .rnd m i r, f => ((sumL rs n t i (Sm.zero n t)).bind fun S => S.aga m).bind fun S => (f.beh S).bind (sumL rs n t r)
abbrev sumA (rs : List Rd) (n t : Nat) (l : Lg) : Option Sm := sumL rs n t l (Sm.zero n t)
/-- numbers of readings, rounds that are some, sizes -/
def Lg.fine (rs : List Rd) (n t : Nat) : Lg → Prop
  | .nil => True
  | .num k r => 0 ≤ k ∧ k < rs.length ∧ r.fine rs n t
  | .rnd m i r => 1 ≤ m ∧ m.natAbs < lim ∧ (∀ S, sumA rs n t i = some S → S.low) ∧ i.fine rs n t ∧ i ≠ .nil ∧ r.fine rs n t
/-- a program's measure -/
def PrW (p : Pr) : Prop := 1 ≤ p.1 ∧ p.1 ≤ 1000 ∧ 1 ≤ p.2.1 ∧ p.2.1 ≤ 1000 ∧ (∀ r ∈ p.2.2.1, (r.st.length : Int) = p.1) ∧ p.2.2.1.length ≤ 1000
abbrev sp_still : DSp := spE (fun p : Pr => [Pr.d p]) PrW (fun p => .sm (Sm.zero p.1.toNat p.2.1.toNat))
theorem ok_still {f : Addr} {fd : FuncData} (T : Tx g mg) (F : FT g "still" "still" s_still f fd) (C_Summary : KnC Pg w g mg base "Summary" g.CS 1 ["self", "begin", "end", "length", "added", "least", "most", "stands"] (spInitS g)) : FnOk Pg w g.K mg base CX0 3 f fd ["program"] (spD g sp_still) := by
  refine dok F sc_still (fun es Q ⟨a, e, _⟩ => by rw [e]; rfl) fun cdv A outer s H E hr => ⟨_, (pss_cons (ps_set (i := 1) sc_still.nd rfl (.inl rfl) (pe_op op_repK (pe_tup (pa_cons pe_int pa_nil)) (pe_fld (pv 0) rfl)))
    (pss_one (ps_ret (pe_mkC rfl C_Summary (hr.mono (by omega)) (by rfl) (pa_cons pe_non (pa_cons pe_non (pa_cons pe_int (pa_cons (pv 1) (pa_cons (pv 1) (pa_cons (pv 1) (pa_cons (pe_op op_repK (pe_tup (pa_cons pe_int pa_nil)) (pe_fld (pv 0) rfl)) pa_nil))))))))))), fun c es Q ⟨⟨ps, pt, pr, nd⟩, e, hd, q⟩ => ?_⟩
  subst e
  try dsimp only [cxOf, Cx.nox, Cx.wish]
  refine ws_ds (ds' := [some (.prg ps pt pr nd), none]) rfl ?_
  obtain ⟨h1, h2, h3, h4, _, _⟩ := hd
  dsimp only at h1 h2 h3 h4
  repeat walk_at "st"
  refine ⟨[.int 0], rfl, by decide, ?_⟩
  repeat walk_at "st"
  refine wr_rep ⟨h1, h2⟩ ?_
  repeat walk_at "st"
  refine ⟨[.int 0], rfl, by decide, ?_⟩
  repeat walk_at "st"
  refine wr_rep ⟨h3, h4⟩ ?_
  repeat walk_at "st"
  exact ⟨Sm.zero ps.toNat pt.toNat, rfl, q⟩
theorem upTo_at {n i : Nat} {d : Int} (h : i < n) : (upTo n).getD i d = i := by
  unfold upTo
  rw [List.getD_eq_getElem?_getD, List.getElem?_map, List.getElem?_range h]
  rfl
theorem rngD_upTo (n : Nat) : rngD 0 n = (upTo n).map .int := by
  unfold rngD upTo
  rw [List.map_map]
  exact List.map_congr_left fun i _ => by
    show PyData.int (0 + (i : Int)) = .int (i : Int)
    rw [Int.zero_add]
abbrev sp_one_reading : DSp := spE (fun a : Pr × Int => [Pr.d a.1, .p (.int a.2)]) (fun a => PrW a.1 ∧ 0 ≤ a.2 ∧ a.2 < a.1.2.2.1.length) (fun a => oSm ((a.1.2.2.1[a.2.toNat]?).map (Sm.one a.1.2.1.toNat)))
theorem ok_one_reading {f : Addr} {fd : FuncData} (T : Tx g mg) (F : FT g "one_reading" "one_reading" s_one_reading f fd) (C_Summary : KnC Pg w g mg base "Summary" g.CS 1 ["self", "begin", "end", "length", "added", "least", "most", "stands"] (spInitS g)) : FnOk Pg w g.K mg base CX0 3 f fd ["program", "number"] (spD g sp_one_reading) := by
  refine dok F sc_one_reading (fun es Q ⟨a, e, _⟩ => by rw [e]; rfl) fun cdv A outer s H E hr => ⟨_, (pss_cons (ps_asg (pe_ix ix_tup (pe_fld (pv 0) rfl) (pv 1) (fun _ _ => rfl)) (pg_tup (by rfl) (pgs_cons (pg_name (i := 2) sc_one_reading.nd rfl (.inl rfl)) (pgs_cons (pg_name (i := 3) sc_one_reading.nd rfl (.inr rfl)) (pgs_cons (pg_name (i := 4) sc_one_reading.nd rfl (.inl rfl)) pgs_nil)))))
    (pss_cons (ps_set (i := 5) sc_one_reading.nd rfl (.inl rfl) (pe_callTy call_tuple_of (by rfl) T.f_tuple (by decide +kernel) (pa_cons (pe_lc (own := [("part", 8)]) (tt := tYes) rfl sc_one_reading.nd (pi_tup (pv 4)) (blkOk_by (by kernel_rfl)) (fun _ _ _ _ _ => (pg_name (i := 8) sc_one_reading.nd rfl (.inl rfl))) (fun _ _ _ _ _ => pts_nil) (fun _ _ _ _ _ => (pe_callB (call_min2 rfl) (by rfl) T.f_min (by decide +kernel) (pa_cons pe_int (pa_cons (pe_un un_neg (pv 8)) pa_nil))))) pa_nil)))
    (pss_cons (ps_set (i := 6) sc_one_reading.nd rfl (.inl rfl) (pe_callTy call_tuple_of (by rfl) T.f_tuple (by decide +kernel) (pa_cons (pe_lc (own := [("part", 8)]) (tt := tYes) rfl sc_one_reading.nd (pi_tup (pv 4)) (blkOk_by (by kernel_rfl)) (fun _ _ _ _ _ => (pg_name (i := 8) sc_one_reading.nd rfl (.inl rfl))) (fun _ _ _ _ _ => pts_nil) (fun _ _ _ _ _ => (pe_callB (call_max2 rfl) (by rfl) T.f_max (by decide +kernel) (pa_cons pe_int (pa_cons (pe_un un_neg (pv 8)) pa_nil))))) pa_nil)))
    (pss_cons (ps_set (i := 7) sc_one_reading.nd rfl (.inl rfl) (pe_callTy call_tuple_of (by rfl) T.f_tuple (by decide +kernel) (pa_cons (pe_lc (own := [("table", 9)]) (tt := tYes) rfl sc_one_reading.nd (pi_range1 (by rfl) T.f_range (pa_cons (pe_fld (pv 0) rfl) pa_nil)) (blkOk_by (by kernel_rfl)) (fun _ _ _ _ _ => (pg_name (i := 9) sc_one_reading.nd rfl (.inl rfl))) (fun _ _ _ _ _ => pts_nil) (fun _ _ _ _ _ => (pe_callTy call_int1 (by rfl) T.f_int (by decide +kernel) (pa_cons (pe_cmpR op_eq (pv 9) (pv 3) (nomark _)) pa_nil)))) pa_nil)))
    (pss_one (ps_ret (pe_mkC rfl C_Summary (hr.mono (by omega)) (by rfl) (pa_cons (pv 2) (pa_cons (pv 3) (pa_cons pe_int (pa_cons (pv 4) (pa_cons (pv 5) (pa_cons (pv 6) (pa_cons (pv 7) pa_nil)))))))))))))), fun c es Q ⟨⟨⟨ps, pt, pr, nd⟩, n⟩, e, hd, q⟩ => ?_⟩
  subst e
  try dsimp only [cxOf, Cx.nox, Cx.wish]
  refine ws_ds (ds' := [some (.prg ps pt pr nd), some (.p (.int n)), none, none, none, none, none, none, none, none]) rfl ?_
  dsimp only at hd
  obtain ⟨⟨h1, h2, h3, h4, h5, h6⟩, n0, n1⟩ := hd
  dsimp only at h1 h2 h3 h4 h5 h6
  have hn : n.toNat < pr.length := by omega
  obtain ⟨r, hr⟩ : ∃ r, pr[n.toNat]? = some r := ⟨_, List.getElem?_eq_getElem hn⟩
  have q : Q (oSm ((pr[n.toNat]?).map (Sm.one pt.toNat))) := q.2
  rw [hr] at q
  have q : Q (.sm (Sm.one pt.toNat r)) := q
  have hst := h5 r (List.mem_of_getElem? hr)
  repeat walk_at "st"
  refine wr_ixT (xs := pr.map Rd.pd) (z := r.pd) ⟨n0, rds_at hr⟩ ?_
  refine wg_tup (xs := [.int r.x, .int r.y, intsD r.st]) rfl (wgs_cons ⟨Nat.le_of_ble_eq_true rfl, wgs_cons ⟨Nat.le_of_ble_eq_true rfl, wgs_cons ⟨Nat.le_of_ble_eq_true rfl, wgs_nil ?_⟩⟩⟩)
  refine ws_ds (ds' := [some (.prg ps pt pr nd), some (.p (.int n)), some (.p (.int r.x)), some (.p (.int r.y)), some (.p (intsD r.st)), none, none, none, none, none]) rfl ?_
  repeat walk_at "st"
  refine ⟨_, rfl, by omega, rfl, fun z => min 0 (-z), fun z _ => ?_, ?_⟩
  · repeat walk_at "st"
    exact ⟨rfl, rfl⟩
  repeat walk_at "st"
  refine ⟨_, rfl, by omega, rfl, fun z => max 0 (-z), fun z _ => ?_, ?_⟩
  · repeat walk_at "st"
    exact ⟨rfl, rfl⟩
  repeat walk_at "st"
  refine we_mapT (α := Int) ?_
  repeat walk_at "st"
  refine ⟨pt, rfl, h4, by omega, upTo pt.toNat, .int, fun i => .int (if i = r.y then 1 else 0), rngD_upTo _, by rw [upTo, List.length_map, List.length_range]; omega, fun i _ => ⟨_, tgt_name, rfl, ?_⟩, ?_⟩
  · repeat walk_at "st"
    refine wc_intB ⟨?_, rfl⟩
    by_cases h : i = r.y
    · rw [decide_eq_true h]
      dsimp only
      rw [if_pos h]
      rfl
    · rw [decide_eq_false h]
      dsimp only
      rw [if_neg h]
      rfl
  repeat walk_at "st"
  refine ⟨Sm.one pt.toNat r, ?_, rfl, q⟩
  unfold Sm.one
  dsimp only
  rw [show intsD ((upTo pt.toNat).map fun i => if i = r.y then 1 else 0) = .tuple ((upTo pt.toNat).map fun i => .int (if i = r.y then 1 else 0)) by unfold intsD; rw [List.map_map]; rfl]
  rfl
theorem Sm.zero_wf {n t : Nat} (hn : n ≤ 1000) (ht : t ≤ 1000) : (Sm.zero n t).wf n t := ⟨List.length_replicate .., List.length_replicate .., List.length_replicate .., List.length_replicate .., hn, ht⟩
theorem Sm.one_wf {n t : Nat} {r : Rd} (hr : r.st.length = n) (hn : n ≤ 1000) (ht : t ≤ 1000) : (Sm.one t r).wf n t := ⟨hr, by rw [Sm.one, List.length_map, hr], by rw [Sm.one, List.length_map, hr], by rw [Sm.one, List.length_map, upTo, List.length_map, List.length_range], hn, ht⟩
theorem z3_len (F : Int → Int → Int → Int) (xs ys zs : List Int) : (z3 F xs ys zs).length = min xs.length (min ys.length zs.length) := by
  rw [z3, List.length_map, List.length_zip, List.length_zip]
theorem Sm.beh_wf {a b S : Sm} {n t : Nat} (ha : a.wf n t) (hb : b.wf n t) (h : a.beh b = some S) : S.wf n t := by
  obtain ⟨a1, a2, a3, a4, hn, ht⟩ := ha
  obtain ⟨b1, b2, b3, b4, _, _⟩ := hb
  unfold Sm.beh at h
  split at h
  · cases h
    exact ⟨b1, b2, b3, b4, hn, ht⟩
  · split at h
    · cases h
      exact ⟨a1, a2, a3, a4, hn, ht⟩
    · split at h
      · cases h
      · cases h
        refine ⟨?_, ?_, ?_, ?_, hn, ht⟩
        · rw [List.length_zipWith, a1, b1, Nat.min_self]
        · rw [z3_len, a2, b2, a1, Nat.min_self, Nat.min_self]
        · rw [z3_len, a3, b3, a1, Nat.min_self, Nat.min_self]
        · rw [List.length_zipWith, a4, b4, Nat.min_self]
theorem Sm.aga_wf {a S : Sm} {m : Int} {n t : Nat} (ha : a.wf n t) (h : a.aga m = some S) : S.wf n t := by
  obtain ⟨a1, a2, a3, a4, hn, ht⟩ := ha
  unfold Sm.aga at h
  split at h
  · cases h
  · cases h
    refine ⟨?_, ?_, ?_, ?_, hn, ht⟩
    · rw [List.length_map, a1]
    · rw [List.length_zipWith, List.length_map, a2, a1, Nat.min_self]
    · rw [List.length_zipWith, List.length_map, a3, a1, Nat.min_self]
    · rw [List.length_map, a4]
theorem sumL_wf {rs : List Rd} {n t : Nat} (hr : ∀ r ∈ rs, r.st.length = n) (hn : n ≤ 1000) (ht : t ≤ 1000) : ∀ (l : Lg) (f S : Sm), f.wf n t → sumL rs n t l f = some S → S.wf n t
  | .nil, f, S, hf, h => by
    cases h
    exact hf
  | .num k r, f, S, hf, h => by
    rw [sumL] at h
    cases e : rs[k.toNat]? with
    | none =>
      rw [e] at h
      cases h
    | some q =>
      rw [e] at h
      cases e2 : f.beh (Sm.one t q) with
      | none =>
        simp only [e2] at h
        cases h
      | some f2 =>
        simp only [e2] at h
        exact sumL_wf hr hn ht r f2 S (Sm.beh_wf hf (Sm.one_wf (hr q (List.mem_of_getElem? e)) hn ht) e2) h
  | .rnd m i r, f, S, hf, h => by
    rw [sumL] at h
    cases e1 : sumL rs n t i (Sm.zero n t) with
    | none =>
      rw [e1] at h
      cases h
    | some S1 =>
      rw [e1] at h
      cases e2 : S1.aga m with
      | none =>
        simp only [Option.bind_some, e2] at h
        cases h
      | some S2 =>
        cases e3 : f.beh S2 with
        | none =>
          simp only [Option.bind_some, e2, e3] at h
          cases h
        | some f2 =>
          simp only [Option.bind_some, e2, e3] at h
          exact sumL_wf hr hn ht r f2 S (Sm.beh_wf hf (Sm.aga_wf (sumL_wf hr hn ht i _ S1 (Sm.zero_wf hn ht) e1) e2) e3) h
abbrev LgOk (p : Pr) (l : Lg) : Prop := PrW p ∧ l.fine p.2.2.1 p.1.toNat p.2.1.toNat
abbrev sumP (p : Pr) (l : Lg) : Option Sm := sumA p.2.2.1 p.1.toNat p.2.1.toNat l
abbrev sp_summary (d : Nat) : DSp := spE (fun a : Pr × Lg => [Pr.d a.1, .p a.2.pd]) (fun a => LgOk a.1 a.2 ∧ a.2.dep ≤ d ∧ (sumP a.1 a.2).isSome = true) (fun a => oSm (sumP a.1 a.2))
theorem Lg.fine_tl {rs : List Rd} {n t : Nat} : ∀ (k : Nat) (l : Lg), l.fine rs n t → (l.tl k).fine rs n t
  | 0, l, h => h
  | k + 1, .nil, h => h
  | k + 1, .num _ r, h => Lg.fine_tl k r h.2.2
  | k + 1, .rnd _ _ r, h => Lg.fine_tl k r h.2.2.2.2.2
theorem Lg.dep_tl : ∀ (k : Nat) (l : Lg), (l.tl k).dep ≤ l.dep
  | 0, l => Nat.le_refl _
  | k + 1, .nil => Nat.le_refl _
  | k + 1, .num _ r => Lg.dep_tl k r
  | k + 1, .rnd _ i r => Nat.le_trans (Lg.dep_tl k r) (Nat.le_max_right ..)
theorem we_methE {c : Cg} {ds : List (Option D)} {ms : List MO} {P : D → List MO → Prop} {α : Type} {enc : α → List D} {pre : α → Prop} {f : α → D} {m : Str} {E : XK} {ta : TE} {t : TA} (h : We g c ta ds ms fun d ms1 => ∃ S, d = .sm S ∧
    (∀ va vl vm vs : V, ([("begin", oiV S.b), ("end", oiV S.e), ("length", .int S.len), ("added", va), ("least", vl), ("most", vm), ("stands", vs)] : List (Str × V)).lookup m = none) ∧
    Wa g c t ds ms1 fun es ms2 => (es.all fun e => okA (argD ms2 e)) = true ∧ ∃ a, .sm S :: es.map (argD ms2) = enc a ∧ pre a ∧ okR (f a) = true ∧ P (f a) ms2) : We g c (tMeth g.CS m (spD g (spE enc pre f)) [] E ta t) ds ms P :=
  we_meth (we_mono h fun d ms1 ⟨S, e, hm, k⟩ => ⟨S, e, rfl, hm, fun gs as H σ L Q q => k gs as H σ L Q fun vs H' es ms2 L' le ⟨ok, a, h1, h2, h3, h4⟩ => q vs H' es ms2 L' le ⟨ok, a, h1, h2, h3, h3, h4⟩⟩) fun es Q Q' k ⟨a, h1, h2, h3, h4⟩ => ⟨a, h1, h2, h3, k _ h4⟩
theorem isSome_num {rs : List Rd} {n t : Nat} {k : Int} {r : Lg} {f S : Sm} (h : sumL rs n t (.num k r) f = some S) : ∃ q f2, rs[k.toNat]? = some q ∧ f.beh (Sm.one t q) = some f2 ∧ sumL rs n t r f2 = some S := by
  rw [sumL] at h
  cases e : rs[k.toNat]? with
  | none =>
    rw [e] at h
    cases h
  | some q =>
    rw [e] at h
    cases e2 : f.beh (Sm.one t q) with
    | none =>
      simp only [e2] at h
      cases h
    | some f2 =>
      simp only [e2] at h
      exact ⟨q, f2, rfl, e2, h⟩
theorem isSome_rnd {rs : List Rd} {n t : Nat} {m : Int} {i r : Lg} {f S : Sm} (h : sumL rs n t (.rnd m i r) f = some S) : ∃ S1 S2 f2, sumA rs n t i = some S1 ∧ S1.aga m = some S2 ∧ f.beh S2 = some f2 ∧ sumL rs n t r f2 = some S := by
  rw [sumL] at h
  cases e1 : sumL rs n t i (Sm.zero n t) with
  | none =>
    rw [e1] at h
    cases h
  | some S1 =>
    rw [e1] at h
    cases e2 : S1.aga m with
    | none =>
      simp only [Option.bind_some, e2] at h
      cases h
    | some S2 =>
      cases e3 : f.beh S2 with
      | none =>
        simp only [Option.bind_some, e2, e3] at h
        cases h
      | some f2 =>
        simp only [Option.bind_some, e2, e3] at h
        exact ⟨S1, S2, f2, e1, e2, e3, h⟩
theorem ok_summary {f : Addr} {fd : FuncData} (T : Tx g mg) (F : FT g "summary" "summary" s_summary f fd) (up : ∀ k sp, FnOk Pg w g.K mg base CX0 k f fd ["program", "log"] (spD g sp) → Kn Pg w g mg base "summary" k ["program", "log"] sp) (C_is_integer : Kn Pg w g mg base "is_integer" 1 ["thing"] sp_is_integer)
    (C_still : Kn Pg w g mg base "still" 3 ["program"] sp_still) (C_one_reading : Kn Pg w g mg base "one_reading" 3 ["program", "number"] sp_one_reading) (C_behind : KnM Pg w g mg base g.CS "behind" 3 ["self", "other"] (spD g sp_behind)) (C_again : KnM Pg w g mg base g.CS "again" 3 ["self", "many"] (spD g sp_again)) :
    ∀ d : Nat, FnOk Pg w g.K mg base CX0 (d + 4) f fd ["program", "log"] (spD g (sp_summary d)) := by
  intro d
  induction d with
  | zero =>
    refine dok F sc_summary (fun es Q ⟨a, e, _⟩ => by rw [e]; rfl) fun cdv A outer s H E hr => ⟨_, (pss_cons (ps_set (i := 2) sc_summary.nd rfl (.inl rfl) (pe_kn rfl C_still (hr.mono (by omega)) (by rfl) (pa_cons (pv 0) pa_nil)))
    (pss_cons (ps_for PassesOwn.never rfl (pi_tup (pv 1)) (pg_name (i := 3) sc_summary.nd rfl (.inl rfl))
    (pss_cons (ps_if (pt_val (pe_kn rfl C_is_integer (hr.mono (by omega)) (by rfl) (pa_cons (pv 3) pa_nil)))
    (pss_one (ps_set (i := 4) sc_summary.nd rfl (.inl rfl) (pe_kn rfl C_one_reading (hr.mono (by omega)) (by rfl) (pa_cons (pv 0) (pa_cons (pv 3) pa_nil)))))
    (pss_cons ps_never
    (pss_one ps_never)))
    (pss_cons (ps_set (i := 2) sc_summary.nd rfl (.inl rfl) (pe_ifExp (pt_cmpR op_isN (pv 4) pe_non (nomark _)) pe_non (pe_mtC rfl g.clS C_behind (hr.mono (by omega)) (pv 2) (pa_cons (pv 4) pa_nil))))
    (pss_one (ps_if (pt_cmpR op_isN (pv 2) pe_non (nomark _))
    (pss_one (ps_ret pe_non))
    pss_nil)))))
    (pss_one (ps_ret (pv 2))))), fun c es Q ⟨⟨⟨ps, pt, pr, nd⟩, l⟩, e, hd, q⟩ => ?_⟩
    subst e
    try dsimp only [cxOf, Cx.nox, Cx.wish]
    refine ws_ds (ds' := [some (.prg ps pt pr nd), some (.p l.pd), none, none, none, none]) rfl ?_
    dsimp only at hd
    obtain ⟨⟨pw, fine⟩, dep, some_⟩ := hd
    dsimp only at fine
    obtain ⟨S, hS⟩ := Option.isSome_iff_exists.mp some_
    have hS : sumL pr ps.toNat pt.toNat l (Sm.zero ps.toNat pt.toNat) = some S := hS
    have q : Q (oSm (sumL pr ps.toNat pt.toNat l (Sm.zero ps.toNat pt.toNat))) := q.2
    rw [hS] at q
    obtain ⟨h1, h2, h3, h4, h5, h6⟩ := id pw
    dsimp only at h1 h2 h3 h4 h5 h6
    have n1 : ps.toNat ≤ 1000 := by omega
    have n2 : pt.toNat ≤ 1000 := by omega
    have h5' : ∀ r ∈ pr, r.st.length = ps.toNat := fun r hr => by have := h5 r hr; omega
    repeat walk_at "st"
    refine ws_ds (ds' := [some (.prg ps pt pr nd), some (.p l.pd), some (.sm (Sm.zero ps.toNat pt.toNat)), none, none, none]) rfl ?_
    refine ws_for ?_
    repeat walk_at "st"
    refine ⟨l.ds, rfl, fun k ds ms => ms = [] ∧ ∃ f a b, ds = [some (.prg ps pt pr nd), some (.p l.pd), some (.sm f), a, b, none] ∧ f.wf ps.toNat pt.toNat ∧ sumL pr ps.toNat pt.toNat (l.tl k) f = some S, ⟨rfl, _, _, _, rfl, Sm.zero_wf n1 n2, hS⟩, fun k y ds2 ms2 hy ⟨em, f, a, b, ed, wf, hs⟩ => ?_, fun ds2 ms2 ⟨em, f, a, b, ed, wf, hs⟩ => ?_⟩
    · subst em ed
      have fk := l.fine_tl (rs := pr) (n := ps.toNat) (t := pt.toNat) k fine
      rcases l.at_ k y hy with ⟨n, rfl, et⟩ | ⟨m, i, rfl, et⟩
      · rw [et] at hs fk
        obtain ⟨r, f2, e1, e2, e3⟩ := isSome_num hs
        refine wg_name ⟨Nat.le_of_ble_eq_true rfl, ?_⟩
        refine ws_ds (ds' := [some (.prg ps pt pr nd), some (.p l.pd), some (.sm f), some (.p (.int n)), b, none]) rfl ?_
        repeat walk_at "st"
        refine ⟨rfl, ((ps, pt, pr, nd), n), rfl, ⟨pw, fk.1, fk.2.1⟩, ok_oSm _, ?_⟩
        dsimp only
        rw [e1]
        refine wg_name ⟨Nat.le_of_ble_eq_true rfl, ?_⟩
        refine ws_ds (ds' := [some (.prg ps pt pr nd), some (.p l.pd), some (.sm f), some (.p (.int n)), some (.sm (Sm.one pt.toNat r)), none]) rfl ?_
        repeat walk_at "st"
        refine we_methE ?_
        repeat walk_at "st"
        refine ⟨fun _ _ _ _ => rfl, ?_⟩
        repeat walk_at "st"
        refine ⟨rfl, (f, Sm.one pt.toNat r), rfl, ⟨_, _, wf, Sm.one_wf (h5' r (List.mem_of_getElem? e1)) n1 n2⟩, ok_oSm _, ?_⟩
        dsimp only
        rw [e2]
        refine wg_name ⟨Nat.le_of_ble_eq_true rfl, ?_⟩
        refine ws_ds (ds' := [some (.prg ps pt pr nd), some (.p l.pd), some (.sm f2), some (.p (.int n)), some (.sm (Sm.one pt.toNat r)), none]) rfl ?_
        repeat walk_at "st"
        exact ⟨rfl, f2, _, _, rfl, Sm.beh_wf wf (Sm.one_wf (h5' r (List.mem_of_getElem? e1)) n1 n2) e2, e3⟩
      · have dk := l.dep_tl k
        rw [et, Lg.dep] at dk
        exact absurd dep (by omega)
    · subst em ed
      rw [l.tl_end] at hs
      cases hs
      repeat walk_at "st"
      exact q
  | succ d ih =>
    have C_summary := up _ _ ih
    refine dok F sc_summary (fun es Q ⟨a, e, _⟩ => by rw [e]; rfl) fun cdv A outer s H E hr => ⟨_, (pss_cons (ps_set (i := 2) sc_summary.nd rfl (.inl rfl) (pe_kn rfl C_still (hr.mono (by omega)) (by rfl) (pa_cons (pv 0) pa_nil)))
    (pss_cons (ps_for PassesOwn.never rfl (pi_tup (pv 1)) (pg_name (i := 3) sc_summary.nd rfl (.inl rfl))
    (pss_cons (ps_if (pt_val (pe_kn rfl C_is_integer (hr.mono (by omega)) (by rfl) (pa_cons (pv 3) pa_nil)))
    (pss_one (ps_set (i := 4) sc_summary.nd rfl (.inl rfl) (pe_kn rfl C_one_reading (hr.mono (by omega)) (by rfl) (pa_cons (pv 0) (pa_cons (pv 3) pa_nil)))))
    (pss_cons (ps_set (i := 5) sc_summary.nd rfl (.inl rfl) (pe_kn rfl C_summary (hr.mono (by omega)) (by rfl) (pa_cons (pv 0) (pa_cons (pe_ix ix_tup (pv 3) pe_int (fun _ _ => rfl)) pa_nil))))
    (pss_one (ps_set (i := 4) sc_summary.nd rfl (.inl rfl) (pe_ifExp (pt_cmpR op_isN (pv 5) pe_non (nomark _)) pe_non (pe_mtC rfl g.clS C_again (hr.mono (by omega)) (pv 5) (pa_cons (pe_ix ix_tup (pv 3) pe_int (fun _ _ => rfl)) pa_nil)))))))
    (pss_cons (ps_set (i := 2) sc_summary.nd rfl (.inl rfl) (pe_ifExp (pt_cmpR op_isN (pv 4) pe_non (nomark _)) pe_non (pe_mtC rfl g.clS C_behind (hr.mono (by omega)) (pv 2) (pa_cons (pv 4) pa_nil))))
    (pss_one (ps_if (pt_cmpR op_isN (pv 2) pe_non (nomark _))
    (pss_one (ps_ret pe_non))
    pss_nil)))))
    (pss_one (ps_ret (pv 2))))), fun c es Q ⟨⟨⟨ps, pt, pr, nd⟩, l⟩, e, hd, q⟩ => ?_⟩
    subst e
    try dsimp only [cxOf, Cx.nox, Cx.wish]
    refine ws_ds (ds' := [some (.prg ps pt pr nd), some (.p l.pd), none, none, none, none]) rfl ?_
    dsimp only at hd
    obtain ⟨⟨pw, fine⟩, dep, some_⟩ := hd
    dsimp only at fine
    obtain ⟨S, hS⟩ := Option.isSome_iff_exists.mp some_
    have hS : sumL pr ps.toNat pt.toNat l (Sm.zero ps.toNat pt.toNat) = some S := hS
    have q : Q (oSm (sumL pr ps.toNat pt.toNat l (Sm.zero ps.toNat pt.toNat))) := q.2
    rw [hS] at q
    obtain ⟨h1, h2, h3, h4, h5, h6⟩ := id pw
    dsimp only at h1 h2 h3 h4 h5 h6
    have n1 : ps.toNat ≤ 1000 := by omega
    have n2 : pt.toNat ≤ 1000 := by omega
    have h5' : ∀ r ∈ pr, r.st.length = ps.toNat := fun r hr => by have := h5 r hr; omega
    repeat walk_at "st"
    refine ws_ds (ds' := [some (.prg ps pt pr nd), some (.p l.pd), some (.sm (Sm.zero ps.toNat pt.toNat)), none, none, none]) rfl ?_
    refine ws_for ?_
    repeat walk_at "st"
    refine ⟨l.ds, rfl, fun k ds ms => ms = [] ∧ ∃ f a b e, ds = [some (.prg ps pt pr nd), some (.p l.pd), some (.sm f), a, b, e] ∧ f.wf ps.toNat pt.toNat ∧ sumL pr ps.toNat pt.toNat (l.tl k) f = some S, ⟨rfl, _, _, _, _, rfl, Sm.zero_wf n1 n2, hS⟩, fun k y ds2 ms2 hy ⟨em, f, a, b, e, ed, wf, hs⟩ => ?_, fun ds2 ms2 ⟨em, f, a, b, e, ed, wf, hs⟩ => ?_⟩
    · subst em ed
      have fk := l.fine_tl (rs := pr) (n := ps.toNat) (t := pt.toNat) k fine
      rcases l.at_ k y hy with ⟨n, rfl, et⟩ | ⟨m, i, rfl, et⟩
      · rw [et] at hs fk
        obtain ⟨r, f2, e1, e2, e3⟩ := isSome_num hs
        refine wg_name ⟨Nat.le_of_ble_eq_true rfl, ?_⟩
        refine ws_ds (ds' := [some (.prg ps pt pr nd), some (.p l.pd), some (.sm f), some (.p (.int n)), b, e]) rfl ?_
        repeat walk_at "st"
        refine ⟨rfl, ((ps, pt, pr, nd), n), rfl, ⟨pw, fk.1, fk.2.1⟩, ok_oSm _, ?_⟩
        dsimp only
        rw [e1]
        refine wg_name ⟨Nat.le_of_ble_eq_true rfl, ?_⟩
        refine ws_ds (ds' := [some (.prg ps pt pr nd), some (.p l.pd), some (.sm f), some (.p (.int n)), some (.sm (Sm.one pt.toNat r)), e]) rfl ?_
        repeat walk_at "st"
        refine we_methE ?_
        repeat walk_at "st"
        refine ⟨fun _ _ _ _ => rfl, ?_⟩
        repeat walk_at "st"
        refine ⟨rfl, (f, Sm.one pt.toNat r), rfl, ⟨_, _, wf, Sm.one_wf (h5' r (List.mem_of_getElem? e1)) n1 n2⟩, ok_oSm _, ?_⟩
        dsimp only
        rw [e2]
        refine wg_name ⟨Nat.le_of_ble_eq_true rfl, ?_⟩
        refine ws_ds (ds' := [some (.prg ps pt pr nd), some (.p l.pd), some (.sm f2), some (.p (.int n)), some (.sm (Sm.one pt.toNat r)), e]) rfl ?_
        repeat walk_at "st"
        exact ⟨rfl, f2, _, _, _, rfl, Sm.beh_wf wf (Sm.one_wf (h5' r (List.mem_of_getElem? e1)) n1 n2) e2, e3⟩
      · have dk := l.dep_tl k
        rw [et, Lg.dep] at dk
        rw [et] at hs fk
        obtain ⟨S1, S2, f2, e1, e2, e3, e4⟩ := isSome_rnd hs
        obtain ⟨m1, m2, low, fi, ne, fr⟩ := fk
        have wf1 := sumL_wf h5' n1 n2 i _ S1 (Sm.zero_wf n1 n2) e1
        have wf2 := Sm.aga_wf wf1 e2
        refine wg_name ⟨Nat.le_of_ble_eq_true rfl, ?_⟩
        refine ws_ds (ds' := [some (.prg ps pt pr nd), some (.p l.pd), some (.sm f), some (.p (.tuple [.str "times", .int m, .tuple i.ds])), b, e]) rfl ?_
        repeat walk_at "st"
        refine ⟨rfl, ((ps, pt, pr, nd), i), rfl, ⟨⟨pw, fi⟩, by show i.dep ≤ d; omega, by rw [sumP, e1]; rfl⟩, ok_oSm _, ?_⟩
        dsimp only
        rw [show sumP (ps, pt, pr, nd) i = some S1 from e1]
        refine wg_name ⟨Nat.le_of_ble_eq_true rfl, ?_⟩
        refine ws_ds (ds' := [some (.prg ps pt pr nd), some (.p l.pd), some (.sm f), some (.p (.tuple [.str "times", .int m, .tuple i.ds])), b, some (.sm S1)]) rfl ?_
        repeat walk_at "st"
        refine we_methE ?_
        repeat walk_at "st"
        refine ⟨fun _ _ _ _ => rfl, ?_⟩
        repeat walk_at "st"
        refine ⟨rfl, (S1, m), rfl, ⟨⟨_, _, wf1⟩, low S1 e1, m1, m2⟩, ok_oSm _, ?_⟩
        dsimp only
        rw [e2]
        refine wg_name ⟨Nat.le_of_ble_eq_true rfl, ?_⟩
        refine ws_ds (ds' := [some (.prg ps pt pr nd), some (.p l.pd), some (.sm f), some (.p (.tuple [.str "times", .int m, .tuple i.ds])), some (.sm S2), some (.sm S1)]) rfl ?_
        repeat walk_at "st"
        refine we_methE ?_
        repeat walk_at "st"
        refine ⟨fun _ _ _ _ => rfl, ?_⟩
        repeat walk_at "st"
        refine ⟨rfl, (f, S2), rfl, ⟨_, _, wf, wf2⟩, ok_oSm _, ?_⟩
        dsimp only
        rw [e3]
        refine wg_name ⟨Nat.le_of_ble_eq_true rfl, ?_⟩
        refine ws_ds (ds' := [some (.prg ps pt pr nd), some (.p l.pd), some (.sm f2), some (.p (.tuple [.str "times", .int m, .tuple i.ds])), some (.sm S2), some (.sm S1)]) rfl ?_
        repeat walk_at "st"
        exact ⟨rfl, f2, _, _, _, rfl, Sm.beh_wf wf wf2 e3, e4⟩
    · subst em ed
      rw [l.tl_end] at hs
      cases hs
      repeat walk_at "st"
      exact q
end
end K19
namespace K19
open PySem PySem.Spec PyProof.Rows L2
local macro_rules | `(tactic| walk_at "st") => `(tactic| first
  | with_reducible refine ws_seq ?_ | with_reducible refine ws_ret ?_ | with_reducible refine ws_if ?_ | with_reducible refine ws_next ?_
  | with_reducible refine we_int ?_ | with_reducible refine we_bl ?_ | with_reducible refine we_non ?_ | with_reducible refine we_str ?_
  | ((with_reducible refine' we_var ?we ?_); (case we => exact rfl)) | with_reducible refine we_op ?_ | with_reducible refine we_un ?_ | with_reducible refine we_isp ?_ | with_reducible refine we_callE ?_ | with_reducible refine we_callF ?_ | with_reducible refine we_cb ?_ | with_reducible refine wa_cons ?_ | with_reducible refine wa_nil ?_
  | with_reducible refine we_tup ?_ | with_reducible refine we_slT ?_ | with_reducible refine wo_none ?_ | with_reducible refine wo_some ?_
  | with_reducible refine we_andV ?_ | with_reducible refine we_orV ?_ | with_reducible refine we_notV ?_ | with_reducible refine we_chain ?_ | with_reducible refine we_ifE ?_
  | with_reducible refine wt_test ?_ | with_reducible refine wt_B ?_ | with_reducible refine wt_and ?_ | with_reducible refine wt_or ?_ | with_reducible refine wt_not ?_
  | with_reducible refine wr_add ?_ | with_reducible refine wr_sub ?_ | with_reducible refine wr_lt ?_ | with_reducible refine wr_le ?_ | with_reducible refine wr_gt ?_ | with_reducible refine wr_ge ?_ | with_reducible refine wr_eqI ?_ | with_reducible refine wr_neI ?_
  | with_reducible refine wr_rd0 ?_ | with_reducible refine wr_rd1 ?_ | with_reducible refine wr_rd2 ?_ | ((with_reducible refine' wr_ixT ?we ?_); (case we => exact ⟨by decide, rfl⟩))
  | with_reducible refine wr_isN ?_ | with_reducible refine wr_notN ?_ | with_reducible refine wr_isB ?_ | with_reducible refine wr_notB ?_ | with_reducible refine wu_neg ?_
  | with_reducible refine we_sides ?_ | with_reducible refine we_tables ?_ | with_reducible refine we_readings ?_ | with_reducible refine we_begin ?_ | with_reducible refine we_end ?_ | with_reducible refine we_length ?_ | with_reducible refine we_added ?_ | with_reducible refine we_least ?_ | with_reducible refine we_most ?_ | with_reducible refine we_stands ?_
  | with_reducible refine wi_tup ?_ | with_reducible refine wi_rng1 ?_ | with_reducible refine ws_drop ?_
  | with_reducible refine ex_b ?_ | ((with_reducible refine' ex_isi ?wp ?_); (case wp => first | assumption | rfl)) | with_reducible refine ex_prg ?_ | with_reducible refine ex_sm ?_ | with_reducible refine ret_p ?_ | with_reducible refine ret_nl ?_ | with_reducible refine ret_prg ?_ | with_reducible refine ret_sm ?_ | with_reducible refine iteT ?_ | with_reducible refine iteF ?_
  | (with_reducible refine wc_allT ?_) | (with_reducible refine wc_sumT ?_) | (with_reducible refine wc_tup rfl ?_) | (with_reducible refine wc_lenT ?_)
  | (refine ⟨rfl, (_, _, _, _), rfl, (by first | trivial | assumption | decide | omega), rfl, ?_⟩; try dsimp only) | (refine ⟨rfl, (_, _, _), rfl, (by first | trivial | assumption | decide | omega), rfl, ?_⟩; try dsimp only) | (refine ⟨rfl, (_, _), rfl, (by first | trivial | assumption | decide | omega), rfl, ?_⟩; try dsimp only) | (refine ⟨rfl, _, rfl, (by first | trivial | assumption | decide | omega), rfl, ?_⟩; try dsimp only)
  | ((with_reducible refine' iteT' ?wp ?_); (case wp => rfl)) | ((with_reducible refine' iteF' ?wp ?_); (case wp => rfl))
  | (with_reducible refine ws_asg ?_) | ((with_reducible refine wg_name ⟨?wl, ?_⟩); (case wl => exact (Nat.le_of_ble_eq_true rfl))))
local macro_rules | `(tactic| walk_at "st") => `(tactic| first
  | with_reducible refine wc_tupI rfl ?_ | with_reducible refine wc_min ?_ | with_reducible refine wc_max ?_ | with_reducible refine wr_neO ?_ | with_reducible refine wr_eqO ?_
  | with_reducible refine we_mkS ?_ | with_reducible refine ex_mkS ?_ | with_reducible refine we_lcZ ?_ | with_reducible refine we_lcZM ?_ | with_reducible refine we_lcZ3 ?_ | with_reducible refine we_revP ?_ | with_reducible refine we_idx ?_)
local macro_rules | `(tactic| walk_at "st") => `(tactic| first
  | with_reducible refine ws_append ?_ | with_reducible refine we_lcR ?_ | with_reducible refine wc_sortTI ?_ | with_reducible refine we_listRg ?_ | ((with_reducible refine' ws_asgN (wn_nil ⟨?wl, ?_⟩)); (case wl => exact (Nat.le_of_ble_eq_true rfl))))
section
variable {Pg : Program} {w : World} {g : Gk} {mg : Str → Option Value} {base : Heap}
theorem ds_pos : ∀ {i : Lg}, i ≠ .nil → 0 < i.ds.length
  | .nil, h => absurd rfl h
  | .num _ _, _ => Nat.succ_pos _
  | .rnd _ _ _, _ => Nat.succ_pos _
abbrev rdD (m : Int) (i : Lg) : PyData := .tuple [.str "times", .int m, .tuple i.ds]
abbrev sp_is_rounds : DSp := spE (fun a : Int × Lg => [.p (rdD a.1 a.2)]) (fun a => 1 ≤ a.1 ∧ a.2 ≠ .nil) (fun _ => .p (.bool true))
theorem ok_is_rounds {f : Addr} {fd : FuncData} (T : Tx g mg) (F : FT g "is_rounds" "is_rounds" s_is_rounds f fd) (C_is_triple : Kn Pg w g mg base "is_triple" 1 ["thing"] sp_is_triple) (C_is_integer : Kn Pg w g mg base "is_integer" 1 ["thing"] sp_is_integer) : FnOk Pg w g.K mg base CX0 2 f fd ["thing"] (spD g sp_is_rounds) := by
  refine dok F sc_is_rounds (fun es Q ⟨a, e, _⟩ => by rw [e]; rfl) fun cdv A outer s H E hr => ⟨_, (pss_cons (ps_if (PW.pt (pw_or (pt_not (pt_val (pe_kn rfl C_is_triple (hr.mono (by omega)) (by rfl) (pa_cons (pv 0) pa_nil)))) (pw_or (pt_not (pt_val (pe_callB call_isi (by rfl) T.f_isinstance (by decide +kernel) (pa_cons (pe_ix ix_tup (pv 0) pe_int (fun _ _ => rfl)) (pa_cons (pe_bltn (v := .ty "str") (by rfl) T.f_str (by decide +kernel) rfl) pa_nil))))) (pw_or1 (pt_cmpR op_ne (pe_ix ix_tup (pv 0) pe_int (fun _ _ => rfl)) pe_str (nomark _))))))
    (pss_one (ps_ret pe_bl))
    pss_nil)
    (pss_one (ps_ret (pe_and (pe_kn rfl C_is_integer (hr.mono (by omega)) (by rfl) (pa_cons (pe_ix ix_tup (pv 0) pe_int (fun _ _ => rfl)) pa_nil)) (pe_and (pe_cmpR op_ge (pe_ix ix_tup (pv 0) pe_int (fun _ _ => rfl)) pe_int (nomark _)) (pe_and (pe_callB call_isi (by rfl) T.f_isinstance (by decide +kernel) (pa_cons (pe_ix ix_tup (pv 0) pe_int (fun _ _ => rfl)) (pa_cons (pe_bltn (v := .ty "tuple") (by rfl) T.f_tuple (by decide +kernel) rfl) pa_nil))) (pe_one (pe_cmpR op_gt (pe_callB call_len_seq (by rfl) T.f_len (by decide +kernel) (pa_cons (pe_ix ix_tup (pv 0) pe_int (fun _ _ => rfl)) pa_nil)) pe_int (nomark _))))))))), fun c es Q ⟨⟨m, i⟩, e, hd, q⟩ => ?_⟩
  subst e
  try dsimp only [cxOf, Cx.nox, Cx.wish]
  refine ws_ds (ds' := [some (.p (rdD m i))]) rfl ?_
  obtain ⟨m1, ne⟩ := hd
  dsimp only at m1 ne
  have q : Q (.p (.bool true)) := q.2
  repeat walk_at "st"
  refine wr_ne rfl ?_
  rw [show PyData.eqv (.str "times") (.str "times") = true by simp [PyData.eqv]]
  repeat walk_at "st"
  rw [decide_eq_true m1]
  repeat walk_at "st"
  rw [decide_eq_true (show (0 : Int) < i.ds.length by have := ds_pos ne; omega)]
  exact q
abbrev sp_is_built (d : Nat) : DSp := spE (fun a : Pr × Lg × Int => [Pr.d a.1, .p a.2.1.pd, .p (.int a.2.2)]) (fun a => LgOk a.1 a.2.1 ∧ a.2.1.dep ≤ d ∧ (d : Int) ≤ a.2.2) (fun _ => .p (.bool true))
theorem ok_is_built {f : Addr} {fd : FuncData} (T : Tx g mg) (F : FT g "is_built" "is_built" s_is_built f fd) (up : ∀ k sp, FnOk Pg w g.K mg base CX0 k f fd ["program", "thing", "depth"] (spD g sp) → Kn Pg w g mg base "is_built" k ["program", "thing", "depth"] sp) (C_is_within : Kn Pg w g mg base "is_within" 2 ["thing", "least", "most"] sp_is_within)
    (C_is_rounds : Kn Pg w g mg base "is_rounds" 2 ["thing"] sp_is_rounds) : ∀ d : Nat, FnOk Pg w g.K mg base CX0 (d + 3) f fd ["program", "thing", "depth"] (spD g (sp_is_built d)) := by
  intro d
  induction d with
  | zero =>
    refine dok F sc_is_built (fun es Q ⟨a, e, _⟩ => by rw [e]; rfl) fun cdv A outer s H E hr => ⟨_, (pss_cons (ps_if (pt_not (pt_val (pe_callB call_isi (by rfl) T.f_isinstance (by decide +kernel) (pa_cons (pv 1) (pa_cons (pe_bltn (v := .ty "tuple") (by rfl) T.f_tuple (by decide +kernel) rfl) pa_nil)))))
    (pss_one (ps_ret pe_bl))
    pss_nil)
    (pss_cons (ps_for PassesOwn.never rfl (pi_tup (pv 1)) (pg_name (i := 3) sc_is_built.nd rfl (.inl rfl))
    (pss_one (ps_if (pt_not (pt_val (pe_kn rfl C_is_within (hr.mono (by omega)) (by rfl) (pa_cons (pv 3) (pa_cons pe_int (pa_cons (pe_op op_sub (pe_callB call_len_seq (by rfl) T.f_len (by decide +kernel) (pa_cons (pe_fld (pv 0) rfl) pa_nil)) pe_int) pa_nil))))))
    (pss_one ps_never)
    pss_nil)))
    (pss_one (ps_ret pe_bl)))), fun c es Q ⟨⟨⟨ps, pt, pr, nd⟩, l, n⟩, e, hd, q⟩ => ?_⟩
    subst e
    try dsimp only [cxOf, Cx.nox, Cx.wish]
    refine ws_ds (ds' := [some (.prg ps pt pr nd), some (.p l.pd), some (.p (.int n)), none]) rfl ?_
    dsimp only at hd
    obtain ⟨⟨pw, fine⟩, dep, hn⟩ := hd
    dsimp only at fine
    have q : Q (.p (.bool true)) := q.2
    repeat walk_at "st"
    refine ws_for ?_
    repeat walk_at "st"
    refine ⟨l.ds, rfl, fun k ds ms => ms = [] ∧ ∃ a, ds = [some (.prg ps pt pr nd), some (.p l.pd), some (.p (.int n)), a], ⟨rfl, _, rfl⟩, fun k y ds2 ms2 hy ⟨em, a, ed⟩ => ?_, fun ds2 ms2 ⟨em, a, ed⟩ => ?_⟩
    · subst em ed
      have fk := l.fine_tl (rs := pr) (n := ps.toNat) (t := pt.toNat) k fine
      rcases l.at_ k y hy with ⟨z, rfl, et⟩ | ⟨m, i, rfl, et⟩
      · rw [et] at fk
        refine wg_name ⟨Nat.le_of_ble_eq_true rfl, ?_⟩
        refine ws_ds (ds' := [some (.prg ps pt pr nd), some (.p l.pd), some (.p (.int n)), some (.p (.int z))]) rfl ?_
        repeat walk_at "st"
        refine wc_lenT (xs := pr.map Rd.pd) ?_
        rw [List.length_map]
        repeat walk_at "st"
        rw [within_int, decide_eq_true fk.1, decide_eq_true (show z ≤ (pr.length : Int) - 1 by have := fk.2.1; omega)]
        repeat walk_at "st"
        exact ⟨rfl, _, rfl⟩
      · have dk := l.dep_tl k
        rw [et, Lg.dep] at dk
        exact absurd dep (by omega)
    · subst em ed
      repeat walk_at "st"
      exact q
  | succ d ih =>
    have C_is_built := up _ _ ih
    refine dok F sc_is_built (fun es Q ⟨a, e, _⟩ => by rw [e]; rfl) fun cdv A outer s H E hr => ⟨_, (pss_cons (ps_if (pt_not (pt_val (pe_callB call_isi (by rfl) T.f_isinstance (by decide +kernel) (pa_cons (pv 1) (pa_cons (pe_bltn (v := .ty "tuple") (by rfl) T.f_tuple (by decide +kernel) rfl) pa_nil)))))
    (pss_one (ps_ret pe_bl))
    pss_nil)
    (pss_cons (ps_for PassesOwn.never rfl (pi_tup (pv 1)) (pg_name (i := 3) sc_is_built.nd rfl (.inl rfl))
    (pss_one (ps_if (pt_not (pt_val (pe_kn rfl C_is_within (hr.mono (by omega)) (by rfl) (pa_cons (pv 3) (pa_cons pe_int (pa_cons (pe_op op_sub (pe_callB call_len_seq (by rfl) T.f_len (by decide +kernel) (pa_cons (pe_fld (pv 0) rfl) pa_nil)) pe_int) pa_nil))))))
    (pss_one (ps_if (PW.pt (pw_or (pt_cmpR op_eq (pv 2) pe_int (nomark _)) (pw_or (pt_not (pt_val (pe_kn rfl C_is_rounds (hr.mono (by omega)) (by rfl) (pa_cons (pv 3) pa_nil)))) (pw_or1 (pt_not (pt_val (pe_kn rfl C_is_built (hr.mono (by omega)) (by rfl) (pa_cons (pv 0) (pa_cons (pe_ix ix_tup (pv 3) pe_int (fun _ _ => rfl)) (pa_cons (pe_op op_sub (pv 2) pe_int) pa_nil))))))))))
    (pss_one (ps_ret pe_bl))
    pss_nil))
    pss_nil)))
    (pss_one (ps_ret pe_bl)))), fun c es Q ⟨⟨⟨ps, pt, pr, nd⟩, l, n⟩, e, hd, q⟩ => ?_⟩
    subst e
    try dsimp only [cxOf, Cx.nox, Cx.wish]
    refine ws_ds (ds' := [some (.prg ps pt pr nd), some (.p l.pd), some (.p (.int n)), none]) rfl ?_
    dsimp only at hd
    obtain ⟨⟨pw, fine⟩, dep, hn⟩ := hd
    dsimp only at fine
    have q : Q (.p (.bool true)) := q.2
    repeat walk_at "st"
    refine ws_for ?_
    repeat walk_at "st"
    refine ⟨l.ds, rfl, fun k ds ms => ms = [] ∧ ∃ a, ds = [some (.prg ps pt pr nd), some (.p l.pd), some (.p (.int n)), a], ⟨rfl, _, rfl⟩, fun k y ds2 ms2 hy ⟨em, a, ed⟩ => ?_, fun ds2 ms2 ⟨em, a, ed⟩ => ?_⟩
    · subst em ed
      have fk := l.fine_tl (rs := pr) (n := ps.toNat) (t := pt.toNat) k fine
      rcases l.at_ k y hy with ⟨z, rfl, et⟩ | ⟨m, i, rfl, et⟩
      · rw [et] at fk
        refine wg_name ⟨Nat.le_of_ble_eq_true rfl, ?_⟩
        refine ws_ds (ds' := [some (.prg ps pt pr nd), some (.p l.pd), some (.p (.int n)), some (.p (.int z))]) rfl ?_
        repeat walk_at "st"
        refine wc_lenT (xs := pr.map Rd.pd) ?_
        rw [List.length_map]
        repeat walk_at "st"
        rw [within_int, decide_eq_true fk.1, decide_eq_true (show z ≤ (pr.length : Int) - 1 by have := fk.2.1; omega)]
        repeat walk_at "st"
        exact ⟨rfl, _, rfl⟩
      · have dk := l.dep_tl k
        rw [et, Lg.dep] at dk
        rw [et] at fk
        obtain ⟨m1, m2, low, fi, ne, fr⟩ := fk
        refine wg_name ⟨Nat.le_of_ble_eq_true rfl, ?_⟩
        refine ws_ds (ds' := [some (.prg ps pt pr nd), some (.p l.pd), some (.p (.int n)), some (.p (rdD m i))]) rfl ?_
        repeat walk_at "st"
        refine wc_lenT (xs := pr.map Rd.pd) ?_
        rw [List.length_map]
        repeat walk_at "st"
        rw [decide_eq_false (show ¬ n = 0 by omega)]
        repeat walk_at "st"
        refine ⟨rfl, ((ps, pt, pr, nd), i, n - 1), rfl, ⟨⟨pw, fi⟩, by show i.dep ≤ d; omega, by show (d : Int) ≤ n - 1; omega⟩, rfl, ?_⟩
        repeat walk_at "st"
        exact ⟨rfl, _, rfl⟩
    · subst em ed
      repeat walk_at "st"
      exact q
/-- what is asked of a log: built right, a walk -/
abbrev GoodL (p : Pr) (l : Lg) : Prop := LgOk p l ∧ l.dep ≤ 4 ∧ (sumP p l).isSome = true
abbrev sp_is_log : DSp := spE (fun a : Pr × Lg => [Pr.d a.1, .p a.2.pd]) (fun a => GoodL a.1 a.2) (fun _ => .p (.bool true))
theorem ok_is_log {f : Addr} {fd : FuncData} (T : Tx g mg) (F : FT g "is_log" "is_log" s_is_log f fd) (C_is_built : Kn Pg w g mg base "is_built" 7 ["program", "thing", "depth"] (sp_is_built 4)) (C_summary : Kn Pg w g mg base "summary" 8 ["program", "log"] (sp_summary 4)) : FnOk Pg w g.K mg base CX0 9 f fd ["program", "thing"] (spD g sp_is_log) := by
  obtain ⟨tN, cMOST_NESTED⟩ := T.nNested
  refine dok F sc_is_log (fun es Q ⟨a, e, _⟩ => by rw [e]; rfl) fun cdv A outer s H E hr => ⟨_, (pss_one (ps_ret (pe_and (pe_kn rfl C_is_built (hr.mono (by omega)) (by rfl) (pa_cons (pv 0) (pa_cons (pv 1) (pa_cons (pe_glob (v := .int 30) rfl cMOST_NESTED ⟨_, rfl⟩) pa_nil)))) (pe_one (pe_cmpR op_notN (pe_kn rfl C_summary (hr.mono (by omega)) (by rfl) (pa_cons (pv 0) (pa_cons (pv 1) pa_nil))) pe_non (nomark _)))))), fun c es Q ⟨⟨p, l⟩, e, hd, q⟩ => ?_⟩
  subst e
  try dsimp only [cxOf, Cx.nox, Cx.wish]
  refine ws_ds (ds' := [some (Pr.d p), some (.p l.pd)]) rfl ?_
  obtain ⟨ok, dep, som⟩ := hd
  dsimp only at ok dep som
  obtain ⟨S, hS⟩ := Option.isSome_iff_exists.mp som
  have q : Q (.p (.bool true)) := q.2
  repeat walk_at "st"
  refine ⟨rfl, (p, l, 30), rfl, ⟨ok, dep, by show ((4 : Nat) : Int) ≤ 30; decide⟩, rfl, ?_⟩
  refine ⟨_, rfl, ?_⟩
  refine iteT ?_
  repeat walk_at "st"
  refine ⟨rfl, (p, l), rfl, ⟨ok, dep, som⟩, ok_oSm _, ?_⟩
  dsimp only
  rw [hS]
  repeat walk_at "st"
  exact q
abbrev sp_check_log : DSp := spE (fun a : Pr × Lg => [Pr.d a.1, .p a.2.pd]) (fun a => GoodL a.1 a.2) (fun a => oSm (sumP a.1 a.2))
theorem ok_check_log {f : Addr} {fd : FuncData} (T : Tx g mg) (F : FT g "check_log" "check_log" s_check_log f fd) (C_is_log : Kn Pg w g mg base "is_log" 9 ["program", "thing"] sp_is_log) (C_summary : Kn Pg w g mg base "summary" 8 ["program", "log"] (sp_summary 4)) : FnOk Pg w g.K mg base CX0 10 f fd ["program", "thing"] (spD g sp_check_log) := by
  refine dok F sc_check_log (fun es Q ⟨a, e, _⟩ => by rw [e]; rfl) fun cdv A outer s H E hr => ⟨_, (pss_cons (ps_if (pt_not (pt_val (pe_kn rfl C_is_log (hr.mono (by omega)) (by rfl) (pa_cons (pv 0) (pa_cons (pv 1) pa_nil)))))
    (pss_one ps_never)
    pss_nil)
    (pss_one (ps_ret (pe_kn rfl C_summary (hr.mono (by omega)) (by rfl) (pa_cons (pv 0) (pa_cons (pv 1) pa_nil)))))), fun c es Q ⟨⟨p, l⟩, e, hd, q⟩ => ?_⟩
  subst e
  try dsimp only [cxOf, Cx.nox, Cx.wish]
  refine ws_ds (ds' := [some (Pr.d p), some (.p l.pd)]) rfl ?_
  repeat walk_at "st"
  refine ⟨rfl, (p, l), rfl, hd, ok_oSm _, ?_⟩
  dsimp only
  have q : Q (oSm (sumP p l)) := q.2
  obtain ⟨S, hS⟩ := Option.isSome_iff_exists.mp hd.2.2
  dsimp only at hS
  rw [hS] at q ⊢
  exact ⟨rfl, q⟩
/-- what is told of a log -/
def tell (F : Sm → PyData) (o : Option Sm) : PyData := match o with
  | none => .none
  | some S => F S
abbrev spT (F : Sm → PyData) : DSp := spE (fun a : Pr × Lg => [Pr.d a.1, .p a.2.pd]) (fun a => GoodL a.1 a.2) (fun a => .p (tell F (sumP a.1 a.2)))
theorem ok_length {f : Addr} {fd : FuncData} (T : Tx g mg) (F : FT g "length" "length" s_length f fd) (C_check_log : Kn Pg w g mg base "check_log" 10 ["program", "thing"] sp_check_log) : FnOk Pg w g.K mg base CX0 11 f fd ["program", "log"] (spD g (spT fun S => .int S.len)) := by
  refine dok F sc_length (fun es Q ⟨a, e, _⟩ => by rw [e]; rfl) fun cdv A outer s H E hr => ⟨_, (pss_one (ps_ret (pe_fld (pe_kn rfl C_check_log (hr.mono (by omega)) (by rfl) (pa_cons (pv 0) (pa_cons (pv 1) pa_nil))) rfl))), fun c es Q ⟨⟨p, l⟩, e, hd, q⟩ => ?_⟩
  subst e
  try dsimp only [cxOf, Cx.nox, Cx.wish]
  refine ws_ds (ds' := [some (Pr.d p), some (.p l.pd)]) rfl ?_
  have q : Q (.p (tell (fun S => .int S.len) (sumP p l))) := q.2
  obtain ⟨S, hS⟩ := Option.isSome_iff_exists.mp hd.2.2
  dsimp only at hS
  rw [hS] at q
  repeat walk_at "st"
  refine ⟨rfl, (p, l), rfl, hd, ok_oSm _, ?_⟩
  dsimp only
  rw [hS]
  exact ⟨S, rfl, rfl, q⟩
theorem ok_added {f : Addr} {fd : FuncData} (T : Tx g mg) (F : FT g "added" "added" s_added f fd) (C_check_log : Kn Pg w g mg base "check_log" 10 ["program", "thing"] sp_check_log) : FnOk Pg w g.K mg base CX0 11 f fd ["program", "log"] (spD g (spT fun S => intsD S.ad)) := by
  refine dok F sc_added (fun es Q ⟨a, e, _⟩ => by rw [e]; rfl) fun cdv A outer s H E hr => ⟨_, (pss_one (ps_ret (pe_fld (pe_kn rfl C_check_log (hr.mono (by omega)) (by rfl) (pa_cons (pv 0) (pa_cons (pv 1) pa_nil))) rfl))), fun c es Q ⟨⟨p, l⟩, e, hd, q⟩ => ?_⟩
  subst e
  try dsimp only [cxOf, Cx.nox, Cx.wish]
  refine ws_ds (ds' := [some (Pr.d p), some (.p l.pd)]) rfl ?_
  have q : Q (.p (tell (fun S => intsD S.ad) (sumP p l))) := q.2
  obtain ⟨S, hS⟩ := Option.isSome_iff_exists.mp hd.2.2
  dsimp only at hS
  rw [hS] at q
  repeat walk_at "st"
  refine ⟨rfl, (p, l), rfl, hd, ok_oSm _, ?_⟩
  dsimp only
  rw [hS]
  exact ⟨S, rfl, rfl, q⟩
theorem ok_reach {f : Addr} {fd : FuncData} (T : Tx g mg) (F : FT g "reach" "reach" s_reach f fd) (C_check_log : Kn Pg w g mg base "check_log" 10 ["program", "thing"] sp_check_log) : FnOk Pg w g.K mg base CX0 11 f fd ["program", "log"] (spD g (spT fun S => .tuple [intsD S.le, intsD S.mo])) := by
  refine dok F sc_reach (fun es Q ⟨a, e, _⟩ => by rw [e]; rfl) fun cdv A outer s H E hr => ⟨_, (pss_cons (ps_set (i := 2) sc_reach.nd rfl (.inl rfl) (pe_kn rfl C_check_log (hr.mono (by omega)) (by rfl) (pa_cons (pv 0) (pa_cons (pv 1) pa_nil))))
    (pss_one (ps_ret (pe_tup (pa_cons (pe_fld (pv 2) rfl) (pa_cons (pe_fld (pv 2) rfl) pa_nil)))))), fun c es Q ⟨⟨p, l⟩, e, hd, q⟩ => ?_⟩
  subst e
  try dsimp only [cxOf, Cx.nox, Cx.wish]
  refine ws_ds (ds' := [some (Pr.d p), some (.p l.pd), none]) rfl ?_
  have q : Q (.p (tell (fun S => .tuple [intsD S.le, intsD S.mo]) (sumP p l))) := q.2
  obtain ⟨S, hS⟩ := Option.isSome_iff_exists.mp hd.2.2
  dsimp only at hS
  rw [hS] at q
  repeat walk_at "st"
  refine ⟨rfl, (p, l), rfl, hd, ok_oSm _, ?_⟩
  dsimp only
  rw [hS]
  refine wg_name ⟨Nat.le_of_ble_eq_true rfl, ?_⟩
  refine ws_ds (ds' := [some (Pr.d p), some (.p l.pd), some (.sm S)]) rfl ?_
  repeat walk_at "st"
  refine ⟨[intsD S.le, intsD S.mo], rfl, Nat.le_of_ble_eq_true rfl, rfl, q⟩
theorem ok_ends_of {f : Addr} {fd : FuncData} (T : Tx g mg) (F : FT g "ends_of" "ends_of" s_ends_of f fd) (C_check_log : Kn Pg w g mg base "check_log" 10 ["program", "thing"] sp_check_log) : FnOk Pg w g.K mg base CX0 11 f fd ["program", "log"] (spD g (spT fun S => if 0 < S.len then .tuple [oi S.b, oi S.e] else .none)) := by
  refine dok F sc_ends_of (fun es Q ⟨a, e, _⟩ => by rw [e]; rfl) fun cdv A outer s H E hr => ⟨_, (pss_cons (ps_set (i := 2) sc_ends_of.nd rfl (.inl rfl) (pe_kn rfl C_check_log (hr.mono (by omega)) (by rfl) (pa_cons (pv 0) (pa_cons (pv 1) pa_nil))))
    (pss_one (ps_ret (pe_ifExp (pt_cmpR op_gt (pe_fld (pv 2) rfl) pe_int (nomark _)) (pe_tup (pa_cons (pe_fld (pv 2) rfl) (pa_cons (pe_fld (pv 2) rfl) pa_nil))) pe_non)))), fun c es Q ⟨⟨p, l⟩, e, hd, q⟩ => ?_⟩
  subst e
  try dsimp only [cxOf, Cx.nox, Cx.wish]
  refine ws_ds (ds' := [some (Pr.d p), some (.p l.pd), none]) rfl ?_
  have q : Q (.p (tell (fun S => if 0 < S.len then .tuple [oi S.b, oi S.e] else .none) (sumP p l))) := q.2
  obtain ⟨S, hS⟩ := Option.isSome_iff_exists.mp hd.2.2
  dsimp only at hS
  rw [hS] at q
  have q : Q (.p (if 0 < S.len then .tuple [oi S.b, oi S.e] else .none)) := q
  repeat walk_at "st"
  refine ⟨rfl, (p, l), rfl, hd, ok_oSm _, ?_⟩
  dsimp only
  rw [hS]
  refine wg_name ⟨Nat.le_of_ble_eq_true rfl, ?_⟩
  refine ws_ds (ds' := [some (Pr.d p), some (.p l.pd), some (.sm S)]) rfl ?_
  repeat walk_at "st"
  refine ite_b (fun h => ?_) (fun h => ?_)
  · rw [if_pos (of_decide_eq_true h)] at q
    repeat walk_at "st"
    exact ⟨[oi S.b, oi S.e], rfl, Nat.le_of_ble_eq_true rfl, rfl, q⟩
  · rw [if_neg (of_decide_eq_false h)] at q
    repeat walk_at "st"
    exact q
/-- how often a walk stands in a table -/
def Sm.at_ (S : Sm) (i : Int) : Int := S.st.getD i.toNat 0 + if S.b = some i then 1 else 0
abbrev sp_stands_in : DSp := spE (fun a : Sm × Int => [.sm a.1, .p (.int a.2)]) (fun a => 0 ≤ a.2 ∧ a.2 < a.1.st.length) (fun a => .p (.int (a.1.at_ a.2)))
theorem ok_stands_in {f : Addr} {fd : FuncData} (T : Tx g mg) (F : FT g "stands_in" "stands_in" s_stands_in f fd) : FnOk Pg w g.K mg base CX0 1 f fd ["found", "table"] (spD g sp_stands_in) := by
  refine dok F sc_stands_in (fun es Q ⟨a, e, _⟩ => by rw [e]; rfl) fun cdv A outer s H E hr => ⟨_, (pss_one (ps_ret (pe_op op_add (pe_ix ix_tup (pe_fld (pv 0) rfl) (pv 1) (fun _ _ => rfl)) (pe_callTy call_int1 (by rfl) T.f_int (by decide +kernel) (pa_cons (pe_cmpR op_eq (pe_fld (pv 0) rfl) (pv 1) (nomark _)) pa_nil))))), fun c es Q ⟨⟨S, i⟩, e, hd, q⟩ => ?_⟩
  subst e
  try dsimp only [cxOf, Cx.nox, Cx.wish]
  refine ws_ds (ds' := [some (.sm S), some (.p (.int i))]) rfl ?_
  obtain ⟨i0, i1⟩ := hd
  dsimp only at i0 i1
  have q : Q (.p (.int (S.at_ i))) := q.2
  repeat walk_at "st"
  refine wr_ixT (ints_at i0 i1) ?_
  repeat walk_at "st"
  refine wr_eqO (y := some i) ?_
  repeat walk_at "st"
  refine wc_intB ?_
  repeat walk_at "st"
  unfold Sm.at_ at q
  by_cases h : S.b = some i
  · rw [if_pos h] at q
    rw [decide_eq_true h]
    exact q
  · rw [if_neg h] at q
    rw [decide_eq_false h]
    exact q
abbrev sp_visits : DSp := spE (fun a : Pr × Lg × Int => [Pr.d a.1, .p a.2.1.pd, .p (.int a.2.2)]) (fun a => GoodL a.1 a.2.1 ∧ 0 ≤ a.2.2 ∧ a.2.2 < a.1.2.1) (fun a => .p (tell (fun S => .int (S.at_ a.2.2)) (sumP a.1 a.2.1)))
theorem ok_visits {f : Addr} {fd : FuncData} (T : Tx g mg) (F : FT g "visits" "visits" s_visits f fd) (C_check_log : Kn Pg w g mg base "check_log" 10 ["program", "thing"] sp_check_log) (C_check_table : Kn Pg w g mg base "check_table" 3 ["program", "thing"] sp_check_table) (C_stands_in : Kn Pg w g mg base "stands_in" 1 ["found", "table"] sp_stands_in) :
    FnOk Pg w g.K mg base CX0 11 f fd ["program", "log", "table"] (spD g sp_visits) := by
  refine dok F sc_visits (fun es Q ⟨a, e, _⟩ => by rw [e]; rfl) fun cdv A outer s H E hr => ⟨_, (pss_cons (ps_set (i := 3) sc_visits.nd rfl (.inl rfl) (pe_kn rfl C_check_log (hr.mono (by omega)) (by rfl) (pa_cons (pv 0) (pa_cons (pv 1) pa_nil))))
    (pss_cons (ps_expr (pe_kn rfl C_check_table (hr.mono (by omega)) (by rfl) (pa_cons (pv 0) (pa_cons (pv 2) pa_nil))))
    (pss_one (ps_ret (pe_kn rfl C_stands_in (hr.mono (by omega)) (by rfl) (pa_cons (pv 3) (pa_cons (pv 2) pa_nil))))))), fun c es Q ⟨⟨⟨ps, pt, pr, nd⟩, l, i⟩, e, hd, q⟩ => ?_⟩
  subst e
  try dsimp only [cxOf, Cx.nox, Cx.wish]
  refine ws_ds (ds' := [some (.prg ps pt pr nd), some (.p l.pd), some (.p (.int i)), none]) rfl ?_
  dsimp only at hd
  obtain ⟨gd, i0, i1⟩ := hd
  obtain ⟨⟨pw, fine⟩, dep, som⟩ := id gd
  obtain ⟨h1, h2, h3, h4, h5, h6⟩ := id pw
  dsimp only at h1 h2 h3 h4 h5 h6
  have q : Q (.p (tell (fun S => .int (S.at_ i)) (sumP (ps, pt, pr, nd) l))) := q.2
  obtain ⟨S, hS⟩ := Option.isSome_iff_exists.mp som
  have wf : S.wf ps.toNat pt.toNat := sumL_wf (fun r hr => by have := h5 r hr; omega) (by omega) (by omega) l _ S (Sm.zero_wf (by omega) (by omega)) hS
  rw [hS] at q
  repeat walk_at "st"
  refine ⟨rfl, ((ps, pt, pr, nd), l), rfl, gd, ok_oSm _, ?_⟩
  dsimp only
  rw [hS]
  refine wg_name ⟨Nat.le_of_ble_eq_true rfl, ?_⟩
  refine ws_ds (ds' := [some (.prg ps pt pr nd), some (.p l.pd), some (.p (.int i)), some (.sm S)]) rfl ?_
  repeat walk_at "st"
  refine ⟨rfl, ((ps, pt, pr, nd), i), rfl, ⟨i0, i1⟩, rfl, ?_⟩
  repeat walk_at "st"
  refine ⟨rfl, (S, i), rfl, ⟨i0, by dsimp only; rw [wf.2.2.2.1]; omega⟩, rfl, ?_⟩
  exact ⟨rfl, q⟩
end
end K19
namespace K19
open PySem PySem.Spec PyProof.Rows L2
local macro_rules | `(tactic| walk_at "st") => `(tactic| first
  | with_reducible refine ws_seq ?_ | with_reducible refine ws_ret ?_ | with_reducible refine ws_if ?_ | with_reducible refine ws_next ?_
  | with_reducible refine we_int ?_ | with_reducible refine we_bl ?_ | with_reducible refine we_non ?_ | with_reducible refine we_str ?_
  | ((with_reducible refine' we_var ?we ?_); (case we => exact rfl)) | with_reducible refine we_op ?_ | with_reducible refine we_un ?_ | with_reducible refine we_isp ?_ | with_reducible refine we_callE ?_ | with_reducible refine we_callF ?_ | with_reducible refine we_cb ?_ | with_reducible refine wa_cons ?_ | with_reducible refine wa_nil ?_
  | with_reducible refine we_tup ?_ | with_reducible refine we_slT ?_ | with_reducible refine wo_none ?_ | with_reducible refine wo_some ?_
  | with_reducible refine we_andV ?_ | with_reducible refine we_orV ?_ | with_reducible refine we_notV ?_ | with_reducible refine we_chain ?_ | with_reducible refine we_ifE ?_
  | with_reducible refine wt_test ?_ | with_reducible refine wt_B ?_ | with_reducible refine wt_and ?_ | with_reducible refine wt_or ?_ | with_reducible refine wt_not ?_
  | with_reducible refine wr_add ?_ | with_reducible refine wr_sub ?_ | with_reducible refine wr_lt ?_ | with_reducible refine wr_le ?_ | with_reducible refine wr_gt ?_ | with_reducible refine wr_ge ?_ | with_reducible refine wr_eqI ?_ | with_reducible refine wr_neI ?_
  | with_reducible refine wr_rd0 ?_ | with_reducible refine wr_rd1 ?_ | with_reducible refine wr_rd2 ?_ | ((with_reducible refine' wr_ixT ?we ?_); (case we => exact ⟨by decide, rfl⟩))
  | with_reducible refine wr_isN ?_ | with_reducible refine wr_notN ?_ | with_reducible refine wr_isB ?_ | with_reducible refine wr_notB ?_ | with_reducible refine wu_neg ?_
  | with_reducible refine we_sides ?_ | with_reducible refine we_tables ?_ | with_reducible refine we_readings ?_ | with_reducible refine we_begin ?_ | with_reducible refine we_end ?_ | with_reducible refine we_length ?_ | with_reducible refine we_added ?_ | with_reducible refine we_least ?_ | with_reducible refine we_most ?_ | with_reducible refine we_stands ?_
  | with_reducible refine wi_tup ?_ | with_reducible refine wi_rng1 ?_ | with_reducible refine ws_drop ?_
  | with_reducible refine ex_b ?_ | ((with_reducible refine' ex_isi ?wp ?_); (case wp => first | assumption | rfl)) | with_reducible refine ex_prg ?_ | with_reducible refine ex_sm ?_ | with_reducible refine ret_p ?_ | with_reducible refine ret_nl ?_ | with_reducible refine ret_prg ?_ | with_reducible refine ret_sm ?_ | with_reducible refine iteT ?_ | with_reducible refine iteF ?_
  | (with_reducible refine wc_allT ?_) | (with_reducible refine wc_sumT ?_) | (with_reducible refine wc_tup rfl ?_) | (with_reducible refine wc_lenT ?_)
  | (refine ⟨rfl, (_, _, _, _), rfl, (by first | trivial | assumption | decide | omega), rfl, ?_⟩; try dsimp only) | (refine ⟨rfl, (_, _, _), rfl, (by first | trivial | assumption | decide | omega), rfl, ?_⟩; try dsimp only) | (refine ⟨rfl, (_, _), rfl, (by first | trivial | assumption | decide | omega), rfl, ?_⟩; try dsimp only) | (refine ⟨rfl, _, rfl, (by first | trivial | assumption | decide | omega), rfl, ?_⟩; try dsimp only)
  | ((with_reducible refine' iteT' ?wp ?_); (case wp => rfl)) | ((with_reducible refine' iteF' ?wp ?_); (case wp => rfl))
  | (with_reducible refine ws_asg ?_) | ((with_reducible refine wg_name ⟨?wl, ?_⟩); (case wl => exact (Nat.le_of_ble_eq_true rfl))))
local macro_rules | `(tactic| walk_at "st") => `(tactic| first
  | with_reducible refine wc_tupI rfl ?_ | with_reducible refine wc_min ?_ | with_reducible refine wc_max ?_ | with_reducible refine wr_neO ?_ | with_reducible refine wr_eqO ?_
  | with_reducible refine we_mkS ?_ | with_reducible refine ex_mkS ?_ | with_reducible refine we_lcZ ?_ | with_reducible refine we_lcZM ?_ | with_reducible refine we_lcZ3 ?_ | with_reducible refine we_revP ?_ | with_reducible refine we_idx ?_)
local macro_rules | `(tactic| walk_at "st") => `(tactic| first
  | with_reducible refine ws_append ?_ | with_reducible refine we_lcR ?_ | with_reducible refine wc_sortTI ?_ | with_reducible refine we_listRg ?_ | ((with_reducible refine' ws_asgN (wn_nil ⟨?wl, ?_⟩)); (case wl => exact (Nat.le_of_ble_eq_true rfl))))
section
variable {Pg : Program} {w : World} {g : Gk} {mg : Str → Option Value} {base : Heap}
/-! ### the law's small helpers -/
abbrev Pt := Int × Int × List Rd
abbrev Pt.pd (p : Pt) : PyData := .tuple [.int p.1, .int p.2.1, rds p.2.2]
abbrev sp_law_program : DSp := spE (fun p : Pt => [.p p.pd]) (fun p => PrgOk p.1 p.2.1 p.2.2) (fun p => .prg p.1 p.2.1 p.2.2 false)
theorem ok_law_program {f : Addr} {fd : FuncData} (T : Tx g mg) (F : FT g "_law_program" "_law_program" s_law_program f fd) (C_Program : KnC Pg w g mg base "Program" g.CP 5 ["self", "sides", "tables", "readings"] (spInitP g)) : FnOk Pg w g.K mg base CX0 7 f fd ["_law_parts"] (spD g sp_law_program) := by
  refine dok F sc_law_program (fun es Q ⟨a, e, _⟩ => by rw [e]; rfl) fun cdv A outer s H E hr => ⟨_, (pss_one (ps_ret (pe_mkC rfl C_Program (hr.mono (by omega)) (by rfl) (pa_cons (pe_ix ix_tup (pv 0) pe_int (fun _ _ => rfl)) (pa_cons (pe_ix ix_tup (pv 0) pe_int (fun _ _ => rfl)) (pa_cons (pe_ix ix_tup (pv 0) pe_int (fun _ _ => rfl)) pa_nil)))))), fun c es Q ⟨⟨ps, pt, pr⟩, e, hd, q⟩ => ?_⟩
  subst e
  try dsimp only [cxOf, Cx.nox, Cx.wish]
  refine ws_ds (ds' := [some (.p (Pt.pd (ps, pt, pr)))]) rfl ?_
  refine ws_ret (we_mkP ?_)
  repeat walk_at "st"
  exact ⟨ps, pt, pr, rfl, hd, rfl, q.2⟩
/-- the numbers of the readings of a table -/
def fromL (rs : List Rd) (i : Int) (n : Nat) : List Int := ((List.range n).filter fun k => decide ((rs.getD k ⟨0, 0, []⟩).x = i)).map fun k : Nat => (k : Int)
theorem fromL_succ (rs : List Rd) (i : Int) (n : Nat) : fromL rs i (n + 1) = fromL rs i n ++ if (rs.getD n ⟨0, 0, []⟩).x = i then [(n : Int)] else [] := by
  unfold fromL
  rw [List.range_succ, List.filter_append, List.map_append]
  congr 1
  by_cases h : (rs.getD n ⟨0, 0, []⟩).x = i
  · rw [if_pos h]
    simp only [List.filter_cons, List.filter_nil, decide_eq_true h, if_true]
    rfl
  · rw [if_neg h]
    simp only [List.filter_cons, List.filter_nil, decide_eq_false h, Bool.false_eq_true, if_false]
    rfl
abbrev sp_law_from : DSp := spE (fun a : Pt × Int => [.p a.1.pd, .p (.int a.2)]) (fun a => a.1.2.2.length ≤ 1000) (fun a => .nl ((fromL a.1.2.2 a.2 a.1.2.2.length).map .int))
theorem ok_law_from {f : Addr} {fd : FuncData} (T : Tx g mg) (F : FT g "_law_from" "_law_from" s_law_from f fd) : FnOk Pg w g.K mg base CX0 1 f fd ["_law_parts", "_law_table"] (spD g sp_law_from) := by
  refine dok F sc_law_from (fun es Q ⟨a, e, _⟩ => by rw [e]; rfl) fun cdv A outer s H E hr => ⟨_, (pss_one (ps_ret (pe_lc (own := [("_law_k", 2)]) rfl sc_law_from.nd (pi_range1 (by rfl) T.f_range (pa_cons (pe_callB call_len_seq (by rfl) T.f_len (by decide +kernel) (pa_cons (pe_ix ix_tup (pv 0) pe_int (fun _ _ => rfl)) pa_nil)) pa_nil)) (blkOk_by (by kernel_rfl)) (fun _ _ _ _ _ => (pg_name (i := 2) sc_law_from.nd rfl (.inl rfl))) (fun _ _ _ _ _ => pts_one (pt_cmpR op_eq (pe_ix (ix_tupG (K := g.K) rfl) (pe_ix (ix_tupG (K := g.K) rfl) (pe_ix (ix_tupG (K := g.K) rfl) (pv 0) pe_int (fun _ _ => rfl)) (pv 2) (fun _ _ => rfl)) pe_int (fun _ _ => rfl)) (pv 1) (nomark _))) (fun _ _ _ _ _ => (pv 2))))), fun c es Q ⟨⟨⟨ps, pt, pr⟩, i⟩, e, hd, q⟩ => ?_⟩
  subst e
  try dsimp only [cxOf, Cx.nox, Cx.wish]
  refine ws_ds (ds' := [some (.p (Pt.pd (ps, pt, pr))), some (.p (.int i)), none]) rfl ?_
  have hd : pr.length ≤ 1000 := hd
  have q : Q (.nl ((fromL pr i pr.length).map .int)) := q.2
  refine ws_ret (we_lc (wi_rng1 ?_))
  repeat walk_at "st"
  refine wc_lenT (xs := pr.map Rd.pd) ?_
  rw [List.length_map]
  repeat walk_at "st"
  refine ⟨_, rfl, by omega, by omega, by rw [rngD_len]; omega, fun k acc ms => acc = (fromL pr i k).map .int ∧ ms = [], ⟨rfl, rfl⟩, fun k y acc ms2 hy ⟨ea, em⟩ => ?_, fun acc ms2 ⟨ea, em⟩ => ?_⟩
  · subst ea em
    obtain ⟨hk, rfl⟩ := rngD_get hy
    have hk : k < pr.length := by omega
    refine ⟨_, tgt_name, rfl, ?_⟩
    repeat walk_at "st"
    refine wr_ixT (xs := pr.map Rd.pd) (z := (pr[k]).pd) ⟨by omega, ?_⟩ ?_
    · rw [show ((0 : Int) + (k : Int)).toNat = k by omega]
      exact rds_at (List.getElem?_eq_getElem hk)
    repeat walk_at "st"
    have eg : pr.getD k ⟨0, 0, []⟩ = pr[k] := by rw [List.getD_eq_getElem?_getD, List.getElem?_eq_getElem hk]; rfl
    refine ite_b (fun h => ?_) (fun h => ?_)
    · repeat walk_at "st"
      refine ⟨.int (0 + (k : Int)), rfl, ?_, rfl⟩
      rw [fromL_succ, eg, if_pos (of_decide_eq_true h), List.map_append, Int.zero_add]
      rfl
    · refine ⟨?_, rfl⟩
      rw [fromL_succ, eg, if_neg (of_decide_eq_false h), List.append_nil]
  · subst ea em
    rw [rngD_len] at *
    refine ⟨rfl, ?_⟩
    have e : ((pr.length : Nat) : Int).toNat = pr.length := by omega
    rw [e]
    exact q
/-- a log with other numbers -/
def Lg.mv (f : Int → Int) : Lg → Lg
  | .nil => .nil
  | .num n r => .num (f n) (r.mv f)
  | .rnd m i r => .rnd m (i.mv f) (r.mv f)
/-- all numbers lie within -/
def Lg.inn (n : Nat) : Lg → Prop
  | .nil => True
  | .num k r => 0 ≤ k ∧ k < n ∧ r.inn n
  | .rnd _ i r => i.inn n ∧ r.inn n
theorem Lg.inn_tl {n : Nat} : ∀ (k : Nat) (l : Lg), l.inn n → (l.tl k).inn n
  | 0, l, h => h
  | k + 1, .nil, h => h
  | k + 1, .num _ r, h => Lg.inn_tl k r h.2.2
  | k + 1, .rnd _ _ r, h => Lg.inn_tl k r h.2
theorem Lg.mv_tl (f : Int → Int) : ∀ (k : Nat) (l : Lg), (l.mv f).tl k = (l.tl k).mv f
  | 0, l => rfl
  | k + 1, .nil => rfl
  | k + 1, .num _ r => Lg.mv_tl f k r
  | k + 1, .rnd _ _ r => Lg.mv_tl f k r
theorem Lg.take_num {l : Lg} {k : Nat} {n : Int} (h : l.tl k = .num n (l.tl (k + 1))) : l.ds.take (k + 1) = l.ds.take k ++ [.int n] := by
  have : ∀ (l : Lg) (k : Nat), l.tl k = .num n (l.tl (k + 1)) → l.ds.take (k + 1) = l.ds.take k ++ [.int n] := by
    intro l
    induction l with
    | nil =>
      intro k h
      cases k <;> cases h
    | num a r ih =>
      intro k h
      cases k with
      | zero =>
        cases h
        rfl
      | succ k =>
        rw [Lg.ds, List.take_succ_cons, List.take_succ_cons, ih k h]
        rfl
    | rnd m i r _ ih =>
      intro k h
      cases k with
      | zero => cases h
      | succ k =>
        rw [Lg.ds, List.take_succ_cons, List.take_succ_cons, ih k h]
        rfl
  exact this l k h
theorem Lg.take_rnd {l : Lg} {k : Nat} {m : Int} {i : Lg} (h : l.tl k = .rnd m i (l.tl (k + 1))) : l.ds.take (k + 1) = l.ds.take k ++ [rdD m i] := by
  have : ∀ (l : Lg) (k : Nat), l.tl k = .rnd m i (l.tl (k + 1)) → l.ds.take (k + 1) = l.ds.take k ++ [rdD m i] := by
    intro l
    induction l with
    | nil =>
      intro k h
      cases k <;> cases h
    | num a r ih =>
      intro k h
      cases k with
      | zero => cases h
      | succ k =>
        rw [Lg.ds, List.take_succ_cons, List.take_succ_cons, ih k h]
        rfl
    | rnd m i r _ ih =>
      intro k h
      cases k with
      | zero =>
        cases h
        rfl
      | succ k =>
        rw [Lg.ds, List.take_succ_cons, List.take_succ_cons, ih k h]
        rfl
  exact this l k h
theorem Lg.mv_len (f : Int → Int) : ∀ l : Lg, (l.mv f).ds.length = l.ds.length
  | .nil => rfl
  | .num _ r => by rw [Lg.mv, Lg.ds, Lg.ds, List.length_cons, List.length_cons, Lg.mv_len f r]
  | .rnd _ _ r => by rw [Lg.mv, Lg.ds, Lg.ds, List.length_cons, List.length_cons, Lg.mv_len f r]
/-- few items at each place -/
def Lg.few : Lg → Prop
  | .nil => True
  | .num _ r => r.few
  | .rnd _ i r => i.ds.length ≤ 100 ∧ i.few ∧ r.few
theorem Lg.few_tl : ∀ (k : Nat) (l : Lg), l.few → (l.tl k).few
  | 0, l, h => h
  | k + 1, .nil, h => h
  | k + 1, .num _ r, h => Lg.few_tl k r h
  | k + 1, .rnd _ _ r, h => Lg.few_tl k r h.2.2
abbrev byL (ns : List Int) (k : Int) : Int := ns.getD k.toNat 0
abbrev sp_law_moved (d : Nat) : DSp := spE (fun a : Lg × List Int => [.p a.1.pd, .l (a.2.map .int)]) (fun a => a.1.inn a.2.length ∧ a.1.dep ≤ d ∧ a.1.few ∧ a.1.ds.length ≤ 100) (fun a => .p (a.1.mv (byL a.2)).pd)
theorem ok_law_moved {f : Addr} {fd : FuncData} (T : Tx g mg) (F : FT g "_law_moved" "_law_moved" s_law_moved f fd) (up : ∀ k sp, FnOk Pg w g.K mg base CX0 k f fd ["_law_log", "_law_numbers_here"] (spD g sp) → Kn Pg w g mg base "_law_moved" k ["_law_log", "_law_numbers_here"] sp) : ∀ d : Nat, FnOk Pg w g.K mg base CX0 (d + 1) f fd ["_law_log", "_law_numbers_here"] (spD g (sp_law_moved d)) := by
  intro d
  induction d with
  | zero =>
    refine dok F sc_law_moved (fun es Q ⟨a, e, _⟩ => by rw [e]; rfl) fun cdv A outer s H E hr => ⟨_, (pss_cons (ps_set (i := 2) sc_law_moved.nd rfl (.inl rfl) (pe_lst pa_nil))
    (pss_cons (ps_for PassesOwn.never rfl (pi_tup (pv 0)) (pg_name (i := 3) sc_law_moved.nd rfl (.inl rfl))
    (pss_one (ps_if (pt_val (pe_callB call_isi (by rfl) T.f_isinstance (by decide +kernel) (pa_cons (pv 3) (pa_cons (pe_bltn (v := .ty "tuple") (by rfl) T.f_tuple (by decide +kernel) rfl) pa_nil))))
    (pss_one ps_never)
    (pss_one (ps_expr (pe_bm PySem.F.plainAttrs_list PySem.F.slot_list_append PySem.F.type_list_append mt_append (pv 2) (pa_cons (pe_ix ix_list (pv 1) (pv 3) (fun _ _ => rfl)) pa_nil)))))))
    (pss_one (ps_ret (pe_callTy call_tuple_of (by rfl) T.f_tuple (by decide +kernel) (pa_cons (pv 2) pa_nil)))))), fun c es Q ⟨⟨l, ns⟩, e, hd, q⟩ => ?_⟩
    subst e
    try dsimp only [cxOf, Cx.nox, Cx.wish]
    refine ws_ds (ds' := [some (.p l.pd), some (.l (ns.map .int)), none, none]) rfl ?_
    dsimp only at hd
    obtain ⟨inn, dep, few, len⟩ := hd
    have q : Q (.p (l.mv (byL ns)).pd) := q.2
    repeat walk_at "st"
    refine ws_dm (ds' := [some (.p l.pd), some (.l (ns.map .int)), some (.m 0), none]) (ms' := [.l []]) rfl rfl ?_
    refine ws_for ?_
    repeat walk_at "st"
    refine ⟨l.ds, rfl, fun k ds ms => ms = [.l ((l.mv (byL ns)).ds.take k)] ∧ ∃ a, ds = [some (.p l.pd), some (.l (ns.map .int)), some (.m 0), a], ⟨rfl, _, rfl⟩, fun k y ds2 ms2 hy ⟨em, a, ed⟩ => ?_, fun ds2 ms2 ⟨em, a, ed⟩ => ?_⟩
    · subst em ed
      have ik := l.inn_tl k inn
      have fk := l.few_tl k few
      have hk : k < l.ds.length := (List.getElem?_eq_some_iff.mp hy).1
      have tk := l.mv_tl (byL ns) k
      have tk2 := l.mv_tl (byL ns) (k + 1)
      rcases l.at_ k y hy with ⟨z, rfl, et⟩ | ⟨m, i, rfl, et⟩
      · rw [et] at ik tk
        rw [Lg.mv, ← tk2] at tk
        refine wg_name ⟨Nat.le_of_ble_eq_true rfl, ?_⟩
        refine ws_ds (ds' := [some (.p l.pd), some (.l (ns.map .int)), some (.m 0), some (.p (.int z))]) rfl ?_
        repeat walk_at "st"
        refine ⟨0, _, rfl, rfl, ?_⟩
        repeat walk_at "st"
        refine wr_ixL rfl (ints_at ik.1 ik.2.1) ⟨_, _, rfl, rfl, ?_, ?_, _, rfl⟩
        · rw [List.length_take, Lg.mv_len]
          omega
        · rw [Lg.take_num tk]
          rfl
      · have dk := l.dep_tl k
        rw [et, Lg.dep] at dk
        exact absurd dep (by omega)
    · subst em ed
      repeat walk_at "st"
      refine wc_tupM rfl ?_
      rw [← Lg.mv_len (byL ns) l, List.take_length]
      exact ⟨rfl, q⟩
  | succ d ih =>
    have C_law_moved := up _ _ ih
    refine dok F sc_law_moved (fun es Q ⟨a, e, _⟩ => by rw [e]; rfl) fun cdv A outer s H E hr => ⟨_, (pss_cons (ps_set (i := 2) sc_law_moved.nd rfl (.inl rfl) (pe_lst pa_nil))
    (pss_cons (ps_for PassesOwn.never rfl (pi_tup (pv 0)) (pg_name (i := 3) sc_law_moved.nd rfl (.inl rfl))
    (pss_one (ps_if (pt_val (pe_callB call_isi (by rfl) T.f_isinstance (by decide +kernel) (pa_cons (pv 3) (pa_cons (pe_bltn (v := .ty "tuple") (by rfl) T.f_tuple (by decide +kernel) rfl) pa_nil))))
    (pss_one (ps_expr (pe_bm PySem.F.plainAttrs_list PySem.F.slot_list_append PySem.F.type_list_append mt_append (pv 2) (pa_cons (pe_tup (pa_cons (pe_ix ix_tup (pv 3) pe_int (fun _ _ => rfl)) (pa_cons (pe_ix ix_tup (pv 3) pe_int (fun _ _ => rfl)) (pa_cons (pe_kn rfl C_law_moved (hr.mono (by omega)) (by rfl) (pa_cons (pe_ix ix_tup (pv 3) pe_int (fun _ _ => rfl)) (pa_cons (pv 1) pa_nil))) pa_nil)))) pa_nil))))
    (pss_one (ps_expr (pe_bm PySem.F.plainAttrs_list PySem.F.slot_list_append PySem.F.type_list_append mt_append (pv 2) (pa_cons (pe_ix ix_list (pv 1) (pv 3) (fun _ _ => rfl)) pa_nil)))))))
    (pss_one (ps_ret (pe_callTy call_tuple_of (by rfl) T.f_tuple (by decide +kernel) (pa_cons (pv 2) pa_nil)))))), fun c es Q ⟨⟨l, ns⟩, e, hd, q⟩ => ?_⟩
    subst e
    try dsimp only [cxOf, Cx.nox, Cx.wish]
    refine ws_ds (ds' := [some (.p l.pd), some (.l (ns.map .int)), none, none]) rfl ?_
    dsimp only at hd
    obtain ⟨inn, dep, few, len⟩ := hd
    have q : Q (.p (l.mv (byL ns)).pd) := q.2
    repeat walk_at "st"
    refine ws_dm (ds' := [some (.p l.pd), some (.l (ns.map .int)), some (.m 0), none]) (ms' := [.l []]) rfl rfl ?_
    refine ws_for ?_
    repeat walk_at "st"
    refine ⟨l.ds, rfl, fun k ds ms => ms = [.l ((l.mv (byL ns)).ds.take k)] ∧ ∃ a, ds = [some (.p l.pd), some (.l (ns.map .int)), some (.m 0), a], ⟨rfl, _, rfl⟩, fun k y ds2 ms2 hy ⟨em, a, ed⟩ => ?_, fun ds2 ms2 ⟨em, a, ed⟩ => ?_⟩
    · subst em ed
      have ik := l.inn_tl k inn
      have fk := l.few_tl k few
      have hk : k < l.ds.length := (List.getElem?_eq_some_iff.mp hy).1
      have tk := l.mv_tl (byL ns) k
      have tk2 := l.mv_tl (byL ns) (k + 1)
      rcases l.at_ k y hy with ⟨z, rfl, et⟩ | ⟨m, i, rfl, et⟩
      · rw [et] at ik tk
        rw [Lg.mv, ← tk2] at tk
        refine wg_name ⟨Nat.le_of_ble_eq_true rfl, ?_⟩
        refine ws_ds (ds' := [some (.p l.pd), some (.l (ns.map .int)), some (.m 0), some (.p (.int z))]) rfl ?_
        repeat walk_at "st"
        refine ⟨0, _, rfl, rfl, ?_⟩
        repeat walk_at "st"
        refine wr_ixL rfl (ints_at ik.1 ik.2.1) ⟨_, _, rfl, rfl, ?_, ?_, _, rfl⟩
        · rw [List.length_take, Lg.mv_len]
          omega
        · rw [Lg.take_num tk]
          rfl
      · rw [et] at ik tk fk
        rw [Lg.mv, ← tk2] at tk
        have dk := l.dep_tl k
        rw [et, Lg.dep] at dk
        refine wg_name ⟨Nat.le_of_ble_eq_true rfl, ?_⟩
        refine ws_ds (ds' := [some (.p l.pd), some (.l (ns.map .int)), some (.m 0), some (.p (rdD m i))]) rfl ?_
        repeat walk_at "st"
        refine ⟨0, _, rfl, rfl, ?_⟩
        repeat walk_at "st"
        refine ⟨rfl, (i, ns), rfl, ⟨ik.1, by show i.dep ≤ d; omega, fk.2.1, fk.1⟩, rfl, ?_⟩
        dsimp only
        repeat walk_at "st"
        refine ⟨[.str "times", .int m, (i.mv (byL ns)).pd], rfl, Nat.le_of_ble_eq_true rfl, _, _, rfl, rfl, ?_, ?_, _, rfl⟩
        · rw [List.length_take, Lg.mv_len]
          omega
        · rw [Lg.take_rnd tk]
          rfl
    · subst em ed
      repeat walk_at "st"
      refine wc_tupM rfl ?_
      rw [← Lg.mv_len (byL ns) l, List.take_length]
      exact ⟨rfl, q⟩
/-- one log behind another one; a log from behind -/
def Lg.app : Lg → Lg → Lg
  | .nil, b => b
  | .num n r, b => .num n (r.app b)
  | .rnd m i r, b => .rnd m i (r.app b)
def Lg.bk : Lg → Lg
  | .nil => .nil
  | .num n r => r.bk.app (.num n .nil)
  | .rnd m i r => r.bk.app (.rnd m i.bk .nil)
/-- each rounds' log from behind, in the old order -/
def Lg.ib : Lg → Lg
  | .nil => .nil
  | .num n r => .num n r.ib
  | .rnd m i r => .rnd m i.bk r.ib
theorem Lg.app_ds : ∀ a b : Lg, (a.app b).ds = a.ds ++ b.ds
  | .nil, b => rfl
  | .num n r, b => by rw [Lg.app, Lg.ds, Lg.ds, Lg.app_ds r b]; rfl
  | .rnd m i r, b => by rw [Lg.app, Lg.ds, Lg.ds, Lg.app_ds r b]; rfl
theorem Lg.bk_ds : ∀ l : Lg, l.bk.ds = l.ib.ds.reverse
  | .nil => rfl
  | .num n r => by
    rw [Lg.bk, Lg.app_ds, Lg.bk_ds r]
    exact (List.reverse_cons (a := PyData.int n) (as := r.ib.ds)).symm
  | .rnd m i r => by
    rw [Lg.bk, Lg.app_ds, Lg.bk_ds r]
    exact (List.reverse_cons (a := rdD m i.bk) (as := r.ib.ds)).symm
theorem Lg.ib_len : ∀ l : Lg, l.ib.ds.length = l.ds.length
  | .nil => rfl
  | .num _ r => by rw [Lg.ib, Lg.ds, Lg.ds, List.length_cons, List.length_cons, Lg.ib_len r]
  | .rnd _ _ r => by rw [Lg.ib, Lg.ds, Lg.ds, List.length_cons, List.length_cons, Lg.ib_len r]
theorem Lg.ib_tl : ∀ (k : Nat) (l : Lg), l.ib.tl k = (l.tl k).ib
  | 0, l => rfl
  | k + 1, .nil => rfl
  | k + 1, .num _ r => Lg.ib_tl k r
  | k + 1, .rnd _ _ r => Lg.ib_tl k r
abbrev sp_law_from_behind (d : Nat) : DSp := spE (fun a : Lg => [.p a.pd]) (fun a => a.dep ≤ d ∧ a.few ∧ a.ds.length ≤ 100) (fun a => .p a.bk.pd)
theorem ok_law_from_behind {f : Addr} {fd : FuncData} (T : Tx g mg) (F : FT g "_law_from_behind" "_law_from_behind" s_law_from_behind f fd) (up : ∀ k sp, FnOk Pg w g.K mg base CX0 k f fd ["_law_log"] (spD g sp) → Kn Pg w g mg base "_law_from_behind" k ["_law_log"] sp) : ∀ d : Nat, FnOk Pg w g.K mg base CX0 (d + 1) f fd ["_law_log"] (spD g (sp_law_from_behind d)) := by
  intro d
  induction d with
  | zero =>
    refine dok F sc_law_from_behind (fun es Q ⟨a, e, _⟩ => by rw [e]; rfl) fun cdv A outer s H E hr => ⟨_, (pss_cons (ps_set (i := 1) sc_law_from_behind.nd rfl (.inl rfl) (pe_lst pa_nil))
    (pss_cons (ps_for PassesOwn.never rfl (pi_tup (pv 0)) (pg_name (i := 2) sc_law_from_behind.nd rfl (.inl rfl))
    (pss_one (ps_if (pt_val (pe_callB call_isi (by rfl) T.f_isinstance (by decide +kernel) (pa_cons (pv 2) (pa_cons (pe_bltn (v := .ty "tuple") (by rfl) T.f_tuple (by decide +kernel) rfl) pa_nil))))
    (pss_one ps_never)
    (pss_one (ps_expr (pe_bm PySem.F.plainAttrs_list PySem.F.slot_list_append PySem.F.type_list_append mt_append (pv 1) (pa_cons (pv 2) pa_nil)))))))
    (pss_one (ps_ret (pe_callTy call_tuple_of (by rfl) T.f_tuple (by decide +kernel) (pa_cons (pe_revL (pv 1)) pa_nil)))))), fun c es Q ⟨l, e, hd, q⟩ => ?_⟩
    subst e
    try dsimp only [cxOf, Cx.nox, Cx.wish]
    refine ws_ds (ds' := [some (.p l.pd), none, none]) rfl ?_
    dsimp only at hd
    obtain ⟨dep, few, len⟩ := hd
    have q : Q (.p l.bk.pd) := q.2
    repeat walk_at "st"
    refine ws_dm (ds' := [some (.p l.pd), some (.m 0), none]) (ms' := [.l []]) rfl rfl ?_
    refine ws_for ?_
    repeat walk_at "st"
    refine ⟨l.ds, rfl, fun k ds ms => ms = [.l (l.ib.ds.take k)] ∧ ∃ a, ds = [some (.p l.pd), some (.m 0), a], ⟨rfl, _, rfl⟩, fun k y ds2 ms2 hy ⟨em, a, ed⟩ => ?_, fun ds2 ms2 ⟨em, a, ed⟩ => ?_⟩
    · subst em ed
      have fk := l.few_tl k few
      have hk : k < l.ds.length := (List.getElem?_eq_some_iff.mp hy).1
      have tk := l.ib_tl k
      have tk2 := l.ib_tl (k + 1)
      rcases l.at_ k y hy with ⟨z, rfl, et⟩ | ⟨m, i, rfl, et⟩
      · rw [et, Lg.ib, ← tk2] at tk
        refine wg_name ⟨Nat.le_of_ble_eq_true rfl, ?_⟩
        refine ws_ds (ds' := [some (.p l.pd), some (.m 0), some (.p (.int z))]) rfl ?_
        repeat walk_at "st"
        refine ⟨0, _, rfl, rfl, ?_⟩
        repeat walk_at "st"
        refine ⟨_, _, rfl, rfl, ?_, ?_, _, rfl⟩
        · rw [List.length_take, Lg.ib_len]
          omega
        · rw [Lg.take_num tk]
          rfl
      · have dk := l.dep_tl k
        rw [et, Lg.dep] at dk
        exact absurd dep (by omega)
    · subst em ed
      repeat walk_at "st"
      refine we_revM ?_
      repeat walk_at "st"
      refine ⟨0, _, rfl, rfl, ?_⟩
      rw [← Lg.ib_len l, List.take_length, ← Lg.bk_ds]
      repeat walk_at "st"
      exact q
  | succ d ih =>
    have C_law_from_behind := up _ _ ih
    refine dok F sc_law_from_behind (fun es Q ⟨a, e, _⟩ => by rw [e]; rfl) fun cdv A outer s H E hr => ⟨_, (pss_cons (ps_set (i := 1) sc_law_from_behind.nd rfl (.inl rfl) (pe_lst pa_nil))
    (pss_cons (ps_for PassesOwn.never rfl (pi_tup (pv 0)) (pg_name (i := 2) sc_law_from_behind.nd rfl (.inl rfl))
    (pss_one (ps_if (pt_val (pe_callB call_isi (by rfl) T.f_isinstance (by decide +kernel) (pa_cons (pv 2) (pa_cons (pe_bltn (v := .ty "tuple") (by rfl) T.f_tuple (by decide +kernel) rfl) pa_nil))))
    (pss_one (ps_expr (pe_bm PySem.F.plainAttrs_list PySem.F.slot_list_append PySem.F.type_list_append mt_append (pv 1) (pa_cons (pe_tup (pa_cons (pe_ix ix_tup (pv 2) pe_int (fun _ _ => rfl)) (pa_cons (pe_ix ix_tup (pv 2) pe_int (fun _ _ => rfl)) (pa_cons (pe_kn rfl C_law_from_behind (hr.mono (by omega)) (by rfl) (pa_cons (pe_ix ix_tup (pv 2) pe_int (fun _ _ => rfl)) pa_nil)) pa_nil)))) pa_nil))))
    (pss_one (ps_expr (pe_bm PySem.F.plainAttrs_list PySem.F.slot_list_append PySem.F.type_list_append mt_append (pv 1) (pa_cons (pv 2) pa_nil)))))))
    (pss_one (ps_ret (pe_callTy call_tuple_of (by rfl) T.f_tuple (by decide +kernel) (pa_cons (pe_revL (pv 1)) pa_nil)))))), fun c es Q ⟨l, e, hd, q⟩ => ?_⟩
    subst e
    try dsimp only [cxOf, Cx.nox, Cx.wish]
    refine ws_ds (ds' := [some (.p l.pd), none, none]) rfl ?_
    dsimp only at hd
    obtain ⟨dep, few, len⟩ := hd
    have q : Q (.p l.bk.pd) := q.2
    repeat walk_at "st"
    refine ws_dm (ds' := [some (.p l.pd), some (.m 0), none]) (ms' := [.l []]) rfl rfl ?_
    refine ws_for ?_
    repeat walk_at "st"
    refine ⟨l.ds, rfl, fun k ds ms => ms = [.l (l.ib.ds.take k)] ∧ ∃ a, ds = [some (.p l.pd), some (.m 0), a], ⟨rfl, _, rfl⟩, fun k y ds2 ms2 hy ⟨em, a, ed⟩ => ?_, fun ds2 ms2 ⟨em, a, ed⟩ => ?_⟩
    · subst em ed
      have fk := l.few_tl k few
      have hk : k < l.ds.length := (List.getElem?_eq_some_iff.mp hy).1
      have tk := l.ib_tl k
      have tk2 := l.ib_tl (k + 1)
      rcases l.at_ k y hy with ⟨z, rfl, et⟩ | ⟨m, i, rfl, et⟩
      · rw [et, Lg.ib, ← tk2] at tk
        refine wg_name ⟨Nat.le_of_ble_eq_true rfl, ?_⟩
        refine ws_ds (ds' := [some (.p l.pd), some (.m 0), some (.p (.int z))]) rfl ?_
        repeat walk_at "st"
        refine ⟨0, _, rfl, rfl, ?_⟩
        repeat walk_at "st"
        refine ⟨_, _, rfl, rfl, ?_, ?_, _, rfl⟩
        · rw [List.length_take, Lg.ib_len]
          omega
        · rw [Lg.take_num tk]
          rfl
      · rw [et, Lg.ib, ← tk2] at tk
        rw [et] at fk
        have dk := l.dep_tl k
        rw [et, Lg.dep] at dk
        refine wg_name ⟨Nat.le_of_ble_eq_true rfl, ?_⟩
        refine ws_ds (ds' := [some (.p l.pd), some (.m 0), some (.p (rdD m i))]) rfl ?_
        repeat walk_at "st"
        refine ⟨0, _, rfl, rfl, ?_⟩
        repeat walk_at "st"
        refine ⟨rfl, i, rfl, ⟨by omega, fk.2.1, fk.1⟩, rfl, ?_⟩
        repeat walk_at "st"
        refine ⟨[.str "times", .int m, i.bk.pd], rfl, Nat.le_of_ble_eq_true rfl, _, _, rfl, rfl, ?_, ?_, _, rfl⟩
        · rw [List.length_take, Lg.ib_len]
          omega
        · rw [Lg.take_rnd tk]
          rfl
    · subst em ed
      repeat walk_at "st"
      refine we_revM ?_
      repeat walk_at "st"
      refine ⟨0, _, rfl, rfl, ?_⟩
      rw [← Lg.ib_len l, List.take_length, ← Lg.bk_ds]
      repeat walk_at "st"
      exact q
/-- the new numbers of readings -/
def NumsOf (mv rs' : List Rd) (ns : List Int) : Prop := ns.length = mv.length ∧ ∀ (k : Nat) (r : Rd), mv[k]? = some r → ∃ j : Nat, ns[k]? = some (j : Int) ∧ rs'[j]? = some r
abbrev sp_law_numbers : DSp := spF (fun a : Pt × (Int × Int × List Rd) × List Rd => [.p a.1.pd, .prg a.2.1.1 a.2.1.2.1 a.2.1.2.2 true, .l (a.2.2.map Rd.pd)]) (fun a => a.1.2.2.length = a.2.2.length ∧ a.2.2.length ≤ 1000 ∧ a.2.1.2.2.Nodup ∧ ∀ r ∈ a.2.2, r ∈ a.2.1.2.2)
  (fun a d => ∃ ns : List Int, d = .nl (ns.map .int) ∧ NumsOf a.2.2 a.2.1.2.2 ns)
theorem ok_law_numbers {f : Addr} {fd : FuncData} (T : Tx g mg) (F : FT g "_law_numbers" "_law_numbers" s_law_numbers f fd) : FnOk Pg w g.K mg base CX0 1 f fd ["_law_parts", "_law_other", "_law_moved_here"] (spD g sp_law_numbers) := by
  refine dok F sc_law_numbers (fun es Q ⟨a, e, _⟩ => by rw [e]; rfl) fun cdv A outer s H E hr => ⟨_, (pss_one (ps_ret (pe_lc (own := [("_law_k", 3)]) (tt := tYes) rfl sc_law_numbers.nd (pi_range1 (by rfl) T.f_range (pa_cons (pe_callB call_len_seq (by rfl) T.f_len (by decide +kernel) (pa_cons (pe_ix ix_tup (pv 0) pe_int (fun _ _ => rfl)) pa_nil)) pa_nil)) (blkOk_by (by kernel_rfl)) (fun _ _ _ _ _ => (pg_name (i := 3) sc_law_numbers.nd rfl (.inl rfl))) (fun _ _ _ _ _ => pts_nil) (fun _ _ _ _ _ => (pe_idxG (K := g.K) rfl (idx_u hr) (pe_fldG (K := g.K) rfl (pv 1) rfl) (pe_ix (ix_listG (K := g.K) rfl) (pv 2) (pv 3) (fun _ _ => rfl))))))), fun c es Q ⟨⟨⟨ps, pt, pr⟩, ⟨os, ot, or⟩, mv⟩, e, hd, q⟩ => ?_⟩
  subst e
  try dsimp only [cxOf, Cx.nox, Cx.wish]
  refine ws_ds (ds' := [some (.p (Pt.pd (ps, pt, pr))), some (.prg os ot or true), some (.l (mv.map Rd.pd)), none]) rfl ?_
  dsimp only at hd q
  obtain ⟨hl, few, nd, mem⟩ := hd
  refine ws_ret (we_lc (wi_rng1 ?_))
  repeat walk_at "st"
  refine wc_lenT (xs := pr.map Rd.pd) ?_
  rw [List.length_map, hl]
  repeat walk_at "st"
  refine ⟨_, rfl, by omega, by omega, by rw [rngD_len]; omega, fun k acc ms => ms = [] ∧ ∃ ns : List Int, acc = ns.map .int ∧ ns.length = k ∧ ∀ (m : Nat) (r : Rd), m < k → mv[m]? = some r → ∃ j : Nat, ns[m]? = some (j : Int) ∧ or[j]? = some r, ⟨rfl, [], rfl, rfl, fun m r hm => absurd hm (Nat.not_lt_zero _)⟩, fun k y acc ms2 hy ⟨em, ns, ea, hn, hx⟩ => ?_, fun acc ms2 ⟨em, ns, ea, hn, hx⟩ => ?_⟩
  · subst ea em
    obtain ⟨hk, rfl⟩ := rngD_get hy
    have hk : k < mv.length := by omega
    have hm : mv[k]? = some mv[k] := List.getElem?_eq_getElem hk
    obtain ⟨j, hj⟩ := List.mem_iff_getElem?.mp (mem mv[k] (List.getElem_mem hk))
    refine ⟨_, tgt_name, rfl, ?_⟩
    refine fun gs2 as2 H2 σ2 L2 Q2 q2 => q2 true H2 [] L2 ?_
    refine we_idx (we_readingsF ?_)
    repeat walk_at "st"
    refine ⟨os, ot, or, rfl, or, rfl, ?_⟩
    repeat walk_at "st"
    refine wr_ixL (xs := mv.map Rd.pd) (z := (mv[k]).pd) rfl ⟨by omega, ?_⟩ ?_
    · rw [show ((0 : Int) + (k : Int)).toNat = k by omega]
      exact rds_at hm
    refine ⟨mv[k], j, rfl, hj, nd, _, rfl, rfl, ns ++ [(j : Int)], by rw [List.map_append]; rfl, by rw [List.length_append, hn]; rfl, fun m r hmk hmr => ?_⟩
    by_cases hmk2 : m < k
    · obtain ⟨j2, h1, h2⟩ := hx m r hmk2 hmr
      refine ⟨j2, ?_, h2⟩
      rw [List.getElem?_append_left (by omega)]
      exact h1
    · have e : m = k := by omega
      subst e
      rw [hm] at hmr
      cases hmr
      refine ⟨j, ?_, hj⟩
      rw [List.getElem?_append_right (by omega), hn, Nat.sub_self]
      rfl
  · subst ea em
    have z := (q (.nl (ns.map .int)) ⟨ns, rfl, by rw [hn, rngD_len]; omega, fun k r hk => hx k r (by rw [rngD_len]; have := (List.getElem?_eq_some_iff.mp hk).1; omega) hk⟩).2
    exact ⟨rfl, z⟩
/-- length, sum, reach -/
abbrev tellsD (o : Option Sm) : List PyData := [tell (fun S => .int S.len) o, tell (fun S => intsD S.ad) o, tell (fun S => .tuple [intsD S.le, intsD S.mo]) o]
abbrev sp_law_tells : DSp := spE (fun a : Pr × Lg => [Pr.d a.1, .p a.2.pd]) (fun a => GoodL a.1 a.2) (fun a => .nl (tellsD (sumP a.1 a.2)))
theorem ok_law_tells {f : Addr} {fd : FuncData} (T : Tx g mg) (F : FT g "_law_tells" "_law_tells" s_law_tells f fd) (C_length : Kn Pg w g mg base "length" 11 ["program", "log"] (spT fun S => .int S.len)) (C_added : Kn Pg w g mg base "added" 11 ["program", "log"] (spT fun S => intsD S.ad))
    (C_reach : Kn Pg w g mg base "reach" 11 ["program", "log"] (spT fun S => .tuple [intsD S.le, intsD S.mo])) : FnOk Pg w g.K mg base CX0 12 f fd ["_law_program_here", "_law_log"] (spD g sp_law_tells) := by
  refine dok F sc_law_tells (fun es Q ⟨a, e, _⟩ => by rw [e]; rfl) fun cdv A outer s H E hr => ⟨_, (pss_one (ps_ret (pe_lst (pa_cons (pe_kn rfl C_length (hr.mono (by omega)) (by rfl) (pa_cons (pv 0) (pa_cons (pv 1) pa_nil))) (pa_cons (pe_kn rfl C_added (hr.mono (by omega)) (by rfl) (pa_cons (pv 0) (pa_cons (pv 1) pa_nil))) (pa_cons (pe_kn rfl C_reach (hr.mono (by omega)) (by rfl) (pa_cons (pv 0) (pa_cons (pv 1) pa_nil))) pa_nil)))))), fun c es Q ⟨⟨p, l⟩, e, hd, q⟩ => ?_⟩
  subst e
  try dsimp only [cxOf, Cx.nox, Cx.wish]
  refine ws_ds (ds' := [some (Pr.d p), some (.p l.pd)]) rfl ?_
  refine ws_ret (we_lst ?_)
  repeat walk_at "st"
  exact ⟨tellsD (sumP p l), rfl, Nat.le_of_ble_eq_true rfl, rfl, q.2⟩
end
end K19
namespace K19
open PySem PySem.Spec PyProof.Rows L2
local macro_rules | `(tactic| walk_at "st") => `(tactic| first
  | with_reducible refine ws_seq ?_ | with_reducible refine ws_ret ?_ | with_reducible refine ws_if ?_ | with_reducible refine ws_next ?_
  | with_reducible refine we_int ?_ | with_reducible refine we_bl ?_ | with_reducible refine we_non ?_ | with_reducible refine we_str ?_
  | ((with_reducible refine' we_var ?we ?_); (case we => exact rfl)) | with_reducible refine we_op ?_ | with_reducible refine we_un ?_ | with_reducible refine we_isp ?_ | with_reducible refine we_callE ?_ | with_reducible refine we_callF ?_ | with_reducible refine we_cb ?_ | with_reducible refine wa_cons ?_ | with_reducible refine wa_nil ?_
  | with_reducible refine we_tup ?_ | with_reducible refine we_slT ?_ | with_reducible refine wo_none ?_ | with_reducible refine wo_some ?_
  | with_reducible refine we_andV ?_ | with_reducible refine we_orV ?_ | with_reducible refine we_notV ?_ | with_reducible refine we_chain ?_ | with_reducible refine we_ifE ?_
  | with_reducible refine wt_test ?_ | with_reducible refine wt_B ?_ | with_reducible refine wt_and ?_ | with_reducible refine wt_or ?_ | with_reducible refine wt_not ?_
  | with_reducible refine wr_add ?_ | with_reducible refine wr_sub ?_ | with_reducible refine wr_lt ?_ | with_reducible refine wr_le ?_ | with_reducible refine wr_gt ?_ | with_reducible refine wr_ge ?_ | with_reducible refine wr_eqI ?_ | with_reducible refine wr_neI ?_
  | with_reducible refine wr_rd0 ?_ | with_reducible refine wr_rd1 ?_ | with_reducible refine wr_rd2 ?_ | ((with_reducible refine' wr_ixT ?we ?_); (case we => exact ⟨by decide, rfl⟩))
  | with_reducible refine wr_isN ?_ | with_reducible refine wr_notN ?_ | with_reducible refine wr_isB ?_ | with_reducible refine wr_notB ?_ | with_reducible refine wu_neg ?_
  | with_reducible refine we_sides ?_ | with_reducible refine we_tables ?_ | with_reducible refine we_readings ?_ | with_reducible refine we_begin ?_ | with_reducible refine we_end ?_ | with_reducible refine we_length ?_ | with_reducible refine we_added ?_ | with_reducible refine we_least ?_ | with_reducible refine we_most ?_ | with_reducible refine we_stands ?_
  | with_reducible refine wi_tup ?_ | with_reducible refine wi_rng1 ?_ | with_reducible refine ws_drop ?_
  | with_reducible refine ex_b ?_ | ((with_reducible refine' ex_isi ?wp ?_); (case wp => first | assumption | rfl)) | with_reducible refine ex_prg ?_ | with_reducible refine ex_sm ?_ | with_reducible refine ret_p ?_ | with_reducible refine ret_nl ?_ | with_reducible refine ret_prg ?_ | with_reducible refine ret_sm ?_ | with_reducible refine iteT ?_ | with_reducible refine iteF ?_
  | (with_reducible refine wc_allT ?_) | (with_reducible refine wc_sumT ?_) | (with_reducible refine wc_tup rfl ?_) | (with_reducible refine wc_lenT ?_)
  | (refine ⟨rfl, (_, _, _, _), rfl, (by first | trivial | assumption | decide | omega), rfl, ?_⟩; try dsimp only) | (refine ⟨rfl, (_, _, _), rfl, (by first | trivial | assumption | decide | omega), rfl, ?_⟩; try dsimp only) | (refine ⟨rfl, (_, _), rfl, (by first | trivial | assumption | decide | omega), rfl, ?_⟩; try dsimp only) | (refine ⟨rfl, _, rfl, (by first | trivial | assumption | decide | omega), rfl, ?_⟩; try dsimp only)
  | ((with_reducible refine' iteT' ?wp ?_); (case wp => rfl)) | ((with_reducible refine' iteF' ?wp ?_); (case wp => rfl))
  | (with_reducible refine ws_asg ?_) | ((with_reducible refine wg_name ⟨?wl, ?_⟩); (case wl => exact (Nat.le_of_ble_eq_true rfl))))
local macro_rules | `(tactic| walk_at "st") => `(tactic| first
  | with_reducible refine wc_tupI rfl ?_ | with_reducible refine wc_min ?_ | with_reducible refine wc_max ?_ | with_reducible refine wr_neO ?_ | with_reducible refine wr_eqO ?_
  | with_reducible refine we_mkS ?_ | with_reducible refine ex_mkS ?_ | with_reducible refine we_lcZ ?_ | with_reducible refine we_lcZM ?_ | with_reducible refine we_lcZ3 ?_ | with_reducible refine we_revP ?_ | with_reducible refine we_idx ?_)
local macro_rules | `(tactic| walk_at "st") => `(tactic| first
  | with_reducible refine ws_append ?_ | with_reducible refine we_lcR ?_ | with_reducible refine wc_sortTI ?_ | with_reducible refine we_listRg ?_ | ((with_reducible refine' ws_asgN (wn_nil ⟨?wl, ?_⟩)); (case wl => exact (Nat.le_of_ble_eq_true rfl))))
section
variable {Pg : Program} {w : World} {g : Gk} {mg : Str → Option Value} {base : Heap}
/-! ### draws -/
theorem val_ixl {K : PySem.W.Frag} {ta tb : TE} {σ : L2.St} {H : Hp} {a : Addr} {xs : List V} {i : Nat} {z : V} (ha : Val ta σ H (.ref a)) (hb : Val tb σ H (.int i)) (hx : H a = some (.lst xs)) (hz : xs[i]? = some z) : Val (tOp (rIxL K) ta tb) σ H z :=
  val_op ha hb fun Q q => ⟨a, xs, i, z, rfl, rfl, .inl (.inl hx), atI_nat hz, q⟩
theorem val_i0 {ta tb : TE} {σ : L2.St} {H : Hp} {f : Int → Int → V} {i j : Int} (ha : Val ta σ H (.int i)) (hb : Val tb σ H (.int j)) : Val (tOp (rI0 f) ta tb) σ H (f i j) := val_op ha hb fun Q q => ⟨i, j, rfl, rfl, q⟩
theorem val_iC {ta tb : TE} {σ : L2.St} {H : Hp} {C : Int → Int → Prop} {f : Int → Int → V} {i j : Int} (ha : Val ta σ H (.int i)) (hb : Val tb σ H (.int j)) (hc : C i j) : Val (tOp (rI C f) ta tb) σ H (f i j) := val_op ha hb fun Q q => ⟨i, j, rfl, rfl, hc, q⟩
theorem val_int {ta : TE} {σ : L2.St} {H : Hp} {i : Int} (ha : Val ta σ H (.int i)) : Val (tCB rInt1 (tCons ta tNil)) σ H (.int i) := fun Q q => ha _ (.inl ⟨i, rfl, q⟩)
theorem st_setI {to ti te : TE} {D : Ends} {σ : L2.St} {H : Hp} {a : Addr} {xs : List V} {i : Nat} {v : V} (hv : Val te σ H v) (ho : Val to σ H (.ref a)) (hi : Val ti σ H (.int i)) (hx : H a = some (.lst xs)) (hl : i < xs.length) (q : D.nx σ (upd H a (.lst (xs.set i v)))) : tAsg te (gSub to ti rSetL) D σ H :=
  hv _ (ho _ (hi _ ⟨a, xs, i, i, rfl, rfl, hx, by unfold ixN; rw [if_pos (by omega), if_pos (by omega)]; rfl, q⟩))
theorem ans_i0 {ta tb : TE} {σ : L2.St} {H : Hp} {f : Int → Int → V} {i j : Int} {b : Bool} (ha : Val ta σ H (.int i)) (hb : Val tb σ H (.int j)) (hd : f i j = .bl b) : Ans (tTest (tOp (rI0 f) ta tb)) σ H b := ans_cmp ha hb fun Q q => ⟨i, j, rfl, rfl, by rw [hd]; exact q⟩
theorem val_len {K : PySem.W.Frag} {ta : TE} {σ : L2.St} {H : Hp} {a : Addr} {xs : List V} (ha : Val ta σ H (.ref a)) (hx : H a = some (.lst xs)) : Val (tCB (rLenQ K) (tCons ta tNil)) σ H (.int xs.length) := fun Q q => ha _ ⟨a, xs, rfl, .inl (.inl (.inl hx)), q⟩
abbrev sp_law_draw : DSp := spF (fun m : Int => [.pool, .p (.int m)]) (fun m => 0 < m ∧ m ≤ 1000000) (fun m d => ∃ i, d = .p (.int i) ∧ 0 ≤ i ∧ i < m)
theorem ok_law_draw {f : Addr} {fd : FuncData} (T : Tx g mg) (F : FT g "_law_draw" "_law_draw" s_law_draw f fd) : FnOk Pg w g.K mg base CX0 1 f fd ["_law_pool_here", "_law_many"] (spD g sp_law_draw) := by
  refine dokB F sc_law_draw (fun es Q ⟨a, e, _⟩ => by rw [e]; rfl) fun cdv A outer s H E hr => ⟨_, (pss_cons (ps_asg (pe_op op_add (pe_ix ix_list (pv 0) pe_int (fun _ _ => rfl)) pe_int) (pg_sub (pv 0) pe_int set_list))
    (pss_cons (ps_set (i := 2) sc_law_draw.nd rfl (.inl rfl) (pe_ix ix_list (pv 0) pe_int (fun _ _ => rfl)))
    (pss_cons (ps_if (pt_cmpR op_gt (pe_callB call_len_seq (by rfl) T.f_len (by decide +kernel) (pa_cons (pv 2) pa_nil)) pe_int (nomark _))
    (pss_cons (ps_set (i := 3) sc_law_draw.nd rfl (.inl rfl) (pe_op op_mod (pe_callTy call_int1 (by rfl) T.f_int (by decide +kernel) (pa_cons (pe_ix ix_list (pv 2) pe_int (fun _ _ => rfl)) pa_nil)) (pv 1)))
    (pss_cons (ps_asg (pe_op op_fdiv (pe_callTy call_int1 (by rfl) T.f_int (by decide +kernel) (pa_cons (pe_ix ix_list (pv 2) pe_int (fun _ _ => rfl)) pa_nil)) (pv 1)) (pg_sub (pv 2) pe_int set_list))
    (pss_cons (ps_if (pt_cmpR op_eq (pe_ix ix_list (pv 2) pe_int (fun _ _ => rfl)) pe_int (nomark _))
    (pss_one (ps_expr (pe_bm PySem.F.plainAttrs_list PySem.F.slot_list_pop PySem.F.type_list_pop mt_popAt (pv 2) (pa_cons pe_int pa_nil))))
    pss_nil)
    (pss_one (ps_ret (pv 3))))))
    pss_nil)
    (pss_cons (ps_set (i := 4) sc_law_draw.nd rfl (.inl rfl) (pe_op op_mod (pe_callTy call_int1 (by rfl) T.f_int (by decide +kernel) (pa_cons (pe_op op_mul (pe_op op_add (pe_ix ix_list (pv 0) pe_int (fun _ _ => rfl)) (pe_op op_mul pe_int (pe_ix ix_list (pv 0) pe_int (fun _ _ => rfl)))) pe_int) pa_nil)) pe_int))
    (pss_cons (ps_set (i := 4) sc_law_draw.nd rfl (.inl rfl) (pe_op op_mod (pe_callTy call_int1 (by rfl) T.f_int (by decide +kernel) (pa_cons (pe_op op_mul (pv 4) (pe_op op_add (pe_op op_fdiv (pv 4) pe_int) pe_int)) pa_nil)) pe_int))
    (pss_cons (ps_set (i := 4) sc_law_draw.nd rfl (.inl rfl) (pe_op op_mod (pe_callTy call_int1 (by rfl) T.f_int (by decide +kernel) (pa_cons (pe_op op_mul (pv 4) (pe_op op_add (pe_op op_fdiv (pv 4) pe_int) pe_int)) pa_nil)) pe_int))
    (pss_one (ps_ret (pe_op op_mod (pe_callTy call_int1 (by rfl) T.f_int (by decide +kernel) (pa_cons (pe_op op_fdiv (pv 4) pe_int) pa_nil)) (pv 1)))))))))), fun c es Q ⟨m, e, hd, q⟩ => ?_⟩
  subst e
  try dsimp only [cxOf, Cx.nox, Cx.wish]
  obtain ⟨m0, m1⟩ := hd
  intro H σ E L hn hR
  have L : Lo g c [] [] H σ [some .pool, some (.p (.int m)), none, none, none] [] := L
  obtain ⟨v0, s0, pl, cl, po, e0⟩ := L.sl 0 _ rfl
  subst e0
  obtain ⟨v1, s1, i1⟩ := L.sl 1 _ rfl
  cases i1
  obtain ⟨ne, p0, c0, s, n, cs, hp, hc, len, pos⟩ := L.pool pl cl po
  have sln : σ.length = 5 := L.sln
  -- what is known at each end
  have fin : ∀ (H' : Hp) (i : Int) (n' : Int) (cs' : List Int), (∀ a, a ≠ pl → a ≠ cl → H' a = H a) → H' pl = some (.lst [.int s, .int n', .ref cl]) → H' cl = some (.lst (cs'.map V.int)) → cs'.length ≤ 63 → (∀ z ∈ cs', 0 ≤ z) → 0 ≤ i → i < m → E.rt (.int i) H' := fun H' i n' cs' k1 k2 k3 k4 k5 k6 k7 => by
    refine hR _ H' [] (.p (.int i)) (fun a o e nh => ?_) (fun pl2 cl2 e2 => ?_) (fun a ha => absurd ha List.not_mem_nil) (.int i) rfl (q _ ⟨i, rfl, k6, k7⟩).2
    · rw [k1 a (fun z => nh ⟨pl, cl, po, .inl z⟩) (fun z => nh ⟨pl, cl, po, .inr z⟩)]
      exact L.keep a o e nh
    · rw [po] at e2
      cases e2
      exact ⟨ne, p0, c0, s, n', cs', k2, k3, k4, k5⟩
  refine st_seq (st_setI (val_i0 (val_ixl (i := 1) (val_var s0) val_c hp rfl) val_c) (val_var s0) (i := 1) val_c hp (Nat.le_of_ble_eq_true rfl) ?_)
  have hp1 : upd H pl (.lst ([V.int s, .int n, .ref cl].set 1 (.int (n + 1)))) pl = some (.lst [.int s, .int (n + 1), .ref cl]) := upd_same
  have hc1 : upd H pl (.lst ([V.int s, .int n, .ref cl].set 1 (.int (n + 1)))) cl = some (.lst (cs.map V.int)) := by rw [upd_ne (Ne.symm ne)]; exact hc
  have oth : ∀ a, a ≠ pl → a ≠ cl → upd H pl (.lst ([V.int s, .int n, .ref cl].set 1 (.int (n + 1)))) a = H a := fun a n1 _ => upd_ne n1
  generalize upd H pl (.lst ([V.int s, .int n, .ref cl].set 1 (.int (n + 1)))) = H1 at hp1 hc1 oth
  refine st_seq (st_set (val_ixl (i := 2) (val_var s0) val_c hp1 rfl) ?_)
  have g0 : (σ.set 2 (some (V.ref cl)))[0]? = some (some (.ref pl)) := by rw [List.getElem?_set_ne (by decide)]; exact s0
  have g1 : (σ.set 2 (some (V.ref cl)))[1]? = some (some (.int m)) := by rw [List.getElem?_set_ne (by decide)]; exact s1
  have g2 : (σ.set 2 (some (V.ref cl)))[2]? = some (some (.ref cl)) := List.getElem?_set_self (by omega)
  have gl : (σ.set 2 (some (V.ref cl))).length = 5 := by rw [List.length_set]; exact sln
  generalize σ.set 2 (some (V.ref cl)) = σ2 at g0 g1 g2 gl
  cases cs with
  | cons z cs =>
    have z0 : 0 ≤ z := pos z List.mem_cons_self
    refine st_seq (st_yes (ans_i0 (val_len (val_var g2) hc1) val_c (by rw [List.length_map, List.length_cons, decide_eq_true (by omega)])) ?_)
    refine st_seq (st_set (val_iC (val_int (val_ixl (i := 0) (val_var g2) val_c hc1 rfl)) (val_var g1) m0) ?_)
    have k0 : (σ2.set 3 (some (V.int (z % m))))[0]? = some (some (.ref pl)) := by rw [List.getElem?_set_ne (by decide)]; exact g0
    have k1 : (σ2.set 3 (some (V.int (z % m))))[1]? = some (some (.int m)) := by rw [List.getElem?_set_ne (by decide)]; exact g1
    have k2 : (σ2.set 3 (some (V.int (z % m))))[2]? = some (some (.ref cl)) := by rw [List.getElem?_set_ne (by decide)]; exact g2
    have k3 : (σ2.set 3 (some (V.int (z % m))))[3]? = some (some (.int (z % m))) := List.getElem?_set_self (by omega)
    generalize σ2.set 3 (some (V.int (z % m))) = σ3 at k0 k1 k2 k3
    refine st_seq (st_setI (val_iC (val_int (val_ixl (i := 0) (val_var k2) val_c hc1 rfl)) (val_var k1) ⟨m0, by omega⟩) (val_var k2) (i := 0) val_c hc1 (by rw [List.length_map]; exact Nat.succ_pos _) ?_)
    have hc2 : upd H1 cl (.lst (((z :: cs).map V.int).set 0 (.int (z / m)))) cl = some (.lst (((z / m) :: cs).map V.int)) := upd_same
    have hp2 : upd H1 cl (.lst (((z :: cs).map V.int).set 0 (.int (z / m)))) pl = some (.lst [.int s, .int (n + 1), .ref cl]) := by rw [upd_ne ne]; exact hp1
    have oth2 : ∀ a, a ≠ pl → a ≠ cl → upd H1 cl (.lst (((z :: cs).map V.int).set 0 (.int (z / m)))) a = H a := fun a n1 n2 => by rw [upd_ne n2]; exact oth a n1 n2
    generalize upd H1 cl (.lst (((z :: cs).map V.int).set 0 (.int (z / m)))) = H2 at hc2 hp2 oth2
    have r0 := Int.emod_nonneg z (show m ≠ 0 by omega)
    have r1 := Int.emod_lt_of_pos z m0
    have d0 : 0 ≤ z / m := Int.ediv_nonneg z0 (by omega)
    have ps : ∀ y ∈ cs, 0 ≤ y := fun y hy => pos y (List.mem_cons_of_mem _ hy)
    rw [List.length_cons] at len
    by_cases hz : z / m = 0
    · refine st_seq (st_yes (ans_eq (val_ixl (i := 0) (val_var k2) val_c hc2 rfl) val_c rfl (by rw [hz]; rfl)) ?_)
      refine ⟨.ref cl, k2, .inl ⟨rfl, _, .inl (.inl hc2)⟩, cl, _, 0, 0, .int (z / m), rfl, rfl, hc2, by decide, by decide, ?_, rfl, ?_⟩
      · refine (ixN_seq (n := ((z / m :: cs).map V.int).length) ?_).1
        unfold ixN
        rw [if_pos (by decide), if_pos (by rw [List.length_map, List.length_cons]; omega)]
        rfl
      refine st_ret (val_var k3) (fin _ _ (n + 1) cs (fun a n1 n2 => ?_) ?_ upd_same (by omega) ps r0 r1)
      · rw [upd_ne n2]
        exact oth2 a n1 n2
      · rw [upd_ne ne]
        exact hp2
    · refine st_seq (st_no (ans_eq (val_ixl (i := 0) (val_var k2) val_c hc2 rfl) val_c rfl (by rw [dec_int]; exact decide_eq_false hz)) ?_)
      refine st_next (st_ret (val_var k3) (fin _ _ (n + 1) ((z / m) :: cs) oth2 hp2 hc2 (by rw [List.length_cons]; omega) (fun y hy => ?_) r0 r1))
      rcases List.mem_cons.mp hy with e | e
      · rw [e]
        exact d0
      · exact ps y e
  | nil =>
    refine st_seq (st_no (ans_i0 (val_len (val_var g2) hc1) val_c (by rw [List.length_map, decide_eq_false (by simp)])) ?_)
    refine st_next ?_
    dsimp only
    have mm : ∀ x : Int, 0 ≤ x % 2147483647 ∧ x % 2147483647 < 2147483647 := fun x => ⟨Int.emod_nonneg x (by decide), Int.emod_lt_of_pos x (by decide)⟩
    refine st_seq (st_set (val_iC (val_int (val_iC (val_i0 (val_ixl (i := 0) (val_var g0) val_c hp1 rfl) (val_iC val_c (val_ixl (i := 1) (val_var g0) val_c hp1 rfl) (.inl (by decide)))) val_c (.inr (by decide)))) val_c (by decide)) ?_)
    have b1 := mm ((s + 7919 * (n + 1)) * 48271)
    generalize (s + 7919 * (n + 1)) * 48271 % 2147483647 = a1 at b1 ⊢
    have k0 : (σ2.set 4 (some (V.int a1)))[0]? = some (some (.ref pl)) := by rw [List.getElem?_set_ne (by decide)]; exact g0
    have k1 : (σ2.set 4 (some (V.int a1)))[1]? = some (some (.int m)) := by rw [List.getElem?_set_ne (by decide)]; exact g1
    have k4 : (σ2.set 4 (some (V.int a1)))[4]? = some (some (.int a1)) := List.getElem?_set_self (by omega)
    have kl : (σ2.set 4 (some (V.int a1))).length = 5 := by rw [List.length_set]; exact gl
    generalize σ2.set 4 (some (V.int a1)) = σ3 at k0 k1 k4 kl ⊢
    dsimp only
    refine st_seq (st_set (val_iC (val_int (val_iC (val_var k4) (val_i0 (val_iC (val_var k4) val_c ⟨by decide, by decide⟩) val_c) (.inl (by omega)))) val_c (by decide)) ?_)
    have b2 := mm (a1 * (a1 / 1009 + 69621))
    generalize a1 * (a1 / 1009 + 69621) % 2147483647 = a2 at b2 ⊢
    have j1 : (σ3.set 4 (some (V.int a2)))[1]? = some (some (.int m)) := by rw [List.getElem?_set_ne (by decide)]; exact k1
    have j4 : (σ3.set 4 (some (V.int a2)))[4]? = some (some (.int a2)) := List.getElem?_set_self (by omega)
    have jl : (σ3.set 4 (some (V.int a2))).length = 5 := by rw [List.length_set]; exact kl
    generalize σ3.set 4 (some (V.int a2)) = σ4 at j1 j4 jl ⊢
    dsimp only
    refine st_seq (st_set (val_iC (val_int (val_iC (val_var j4) (val_i0 (val_iC (val_var j4) val_c ⟨by decide, by decide⟩) val_c) (.inl (by omega)))) val_c (by decide)) ?_)
    generalize a2 * (a2 / 2003 + 40692) % 2147483399 = a3
    have i1 : (σ4.set 4 (some (V.int a3)))[1]? = some (some (.int m)) := by rw [List.getElem?_set_ne (by decide)]; exact j1
    have i4 : (σ4.set 4 (some (V.int a3)))[4]? = some (some (.int a3)) := List.getElem?_set_self (by omega)
    generalize σ4.set 4 (some (V.int a3)) = σ5 at i1 i4 ⊢
    dsimp only
    refine st_ret (v := .int (a3 / 16 % m)) (val_iC (i := a3 / 16) (j := m) (val_int (val_iC (i := a3) (j := 16) (val_var i4) val_c ⟨by decide, by decide⟩)) (val_var i1) m0) ?_
    exact fin _ _ (n + 1) [] oth hp1 hc1 (by decide) (fun z hz => absurd hz List.not_mem_nil) (Int.emod_nonneg _ (by omega)) (Int.emod_lt_of_pos _ m0)
end
end K19
namespace K19
open PySem PySem.Spec PyProof.Rows L2
local macro_rules | `(tactic| walk_at "st") => `(tactic| first
  | with_reducible refine ws_seq ?_ | with_reducible refine ws_ret ?_ | with_reducible refine ws_if ?_ | with_reducible refine ws_next ?_
  | with_reducible refine we_int ?_ | with_reducible refine we_bl ?_ | with_reducible refine we_non ?_ | with_reducible refine we_str ?_
  | ((with_reducible refine' we_var ?we ?_); (case we => exact rfl)) | with_reducible refine we_op ?_ | with_reducible refine we_un ?_ | with_reducible refine we_isp ?_ | with_reducible refine we_callE ?_ | with_reducible refine we_callF ?_ | with_reducible refine we_cb ?_ | with_reducible refine wa_cons ?_ | with_reducible refine wa_nil ?_
  | with_reducible refine we_tup ?_ | with_reducible refine we_slT ?_ | with_reducible refine wo_none ?_ | with_reducible refine wo_some ?_
  | with_reducible refine we_andV ?_ | with_reducible refine we_orV ?_ | with_reducible refine we_notV ?_ | with_reducible refine we_chain ?_ | with_reducible refine we_ifE ?_
  | with_reducible refine wt_test ?_ | with_reducible refine wt_B ?_ | with_reducible refine wt_and ?_ | with_reducible refine wt_or ?_ | with_reducible refine wt_not ?_
  | with_reducible refine wr_add ?_ | with_reducible refine wr_sub ?_ | with_reducible refine wr_lt ?_ | with_reducible refine wr_le ?_ | with_reducible refine wr_gt ?_ | with_reducible refine wr_ge ?_ | with_reducible refine wr_eqI ?_ | with_reducible refine wr_neI ?_
  | with_reducible refine wr_rd0 ?_ | with_reducible refine wr_rd1 ?_ | with_reducible refine wr_rd2 ?_ | ((with_reducible refine' wr_ixT ?we ?_); (case we => exact ⟨by decide, rfl⟩))
  | with_reducible refine wr_isN ?_ | with_reducible refine wr_notN ?_ | with_reducible refine wr_isB ?_ | with_reducible refine wr_notB ?_ | with_reducible refine wu_neg ?_
  | with_reducible refine we_sides ?_ | with_reducible refine we_tables ?_ | with_reducible refine we_readings ?_ | with_reducible refine we_begin ?_ | with_reducible refine we_end ?_ | with_reducible refine we_length ?_ | with_reducible refine we_added ?_ | with_reducible refine we_least ?_ | with_reducible refine we_most ?_ | with_reducible refine we_stands ?_
  | with_reducible refine wi_tup ?_ | with_reducible refine wi_rng1 ?_ | with_reducible refine ws_drop ?_
  | with_reducible refine ex_b ?_ | ((with_reducible refine' ex_isi ?wp ?_); (case wp => first | assumption | rfl)) | with_reducible refine ex_prg ?_ | with_reducible refine ex_sm ?_ | with_reducible refine ret_p ?_ | with_reducible refine ret_nl ?_ | with_reducible refine ret_prg ?_ | with_reducible refine ret_sm ?_ | with_reducible refine iteT ?_ | with_reducible refine iteF ?_
  | (with_reducible refine wc_allT ?_) | (with_reducible refine wc_sumT ?_) | (with_reducible refine wc_tup rfl ?_) | (with_reducible refine wc_lenT ?_)
  | (refine ⟨rfl, (_, _, _, _), rfl, (by first | trivial | assumption | decide | omega), rfl, ?_⟩; try dsimp only) | (refine ⟨rfl, (_, _, _), rfl, (by first | trivial | assumption | decide | omega), rfl, ?_⟩; try dsimp only) | (refine ⟨rfl, (_, _), rfl, (by first | trivial | assumption | decide | omega), rfl, ?_⟩; try dsimp only) | (refine ⟨rfl, _, rfl, (by first | trivial | assumption | decide | omega), rfl, ?_⟩; try dsimp only)
  | ((with_reducible refine' iteT' ?wp ?_); (case wp => rfl)) | ((with_reducible refine' iteF' ?wp ?_); (case wp => rfl))
  | (with_reducible refine ws_asg ?_) | ((with_reducible refine wg_name ⟨?wl, ?_⟩); (case wl => exact (Nat.le_of_ble_eq_true rfl))))
local macro_rules | `(tactic| walk_at "st") => `(tactic| first
  | with_reducible refine wc_tupI rfl ?_ | with_reducible refine wc_min ?_ | with_reducible refine wc_max ?_ | with_reducible refine wr_neO ?_ | with_reducible refine wr_eqO ?_
  | with_reducible refine we_mkS ?_ | with_reducible refine ex_mkS ?_ | with_reducible refine we_lcZ ?_ | with_reducible refine we_lcZM ?_ | with_reducible refine we_lcZ3 ?_ | with_reducible refine we_revP ?_ | with_reducible refine we_idx ?_)
local macro_rules | `(tactic| walk_at "st") => `(tactic| first
  | with_reducible refine ws_append ?_ | with_reducible refine we_lcR ?_ | with_reducible refine wc_sortTI ?_ | with_reducible refine we_listRg ?_ | ((with_reducible refine' ws_asgN (wn_nil ⟨?wl, ?_⟩)); (case wl => exact (Nat.le_of_ble_eq_true rfl))))
section
variable {Pg : Program} {w : World} {g : Gk} {mg : Str → Option Value} {base : Heap}
/-! ### drawn things -/
abbrev sp_law_some : DSp := spF (fun xs : List PyData => [.pool, .l xs]) (fun xs => 0 < xs.length ∧ xs.length ≤ 1000) (fun xs d => ∃ x ∈ xs, d = .p x)
theorem ok_law_some {f : Addr} {fd : FuncData} (T : Tx g mg) (F : FT g "_law_some" "_law_some" s_law_some f fd) (C_law_draw : Kn Pg w g mg base "_law_draw" 1 ["_law_pool_here", "_law_many"] sp_law_draw) : FnOk Pg w g.K mg base CX0 2 f fd ["_law_pool_here", "_law_things"] (spD g sp_law_some) := by
  refine dok F sc_law_some (fun es Q ⟨a, e, _⟩ => by rw [e]; rfl) fun cdv A outer s H E hr => ⟨_, (pss_one (ps_ret (pe_ix ix_list (pv 1) (pe_kn rfl C_law_draw (hr.mono (by omega)) (by rfl) (pa_cons (pv 0) (pa_cons (pe_callB call_len_seq (by rfl) T.f_len (by decide +kernel) (pa_cons (pv 1) pa_nil)) pa_nil))) (fun _ _ => rfl)))), fun c es Q ⟨xs, e, hd, q⟩ => ?_⟩
  subst e
  try dsimp only [cxOf, Cx.nox, Cx.wish]
  refine ws_ds (ds' := [some .pool, some (.l xs)]) rfl ?_
  obtain ⟨h0, h1⟩ := hd
  repeat walk_at "st"
  refine wc_lenL rfl ?_
  repeat walk_at "st"
  refine ⟨rfl, (xs.length : Int), rfl, ⟨by omega, by omega⟩, fun d ⟨i, ed, i0, i1⟩ => ?_⟩
  subst ed
  refine ⟨rfl, ?_⟩
  obtain ⟨z, hz⟩ := ix_nat (n := xs.length) i0 i1 rfl
  refine wr_ixL rfl ⟨i0, hz⟩ ?_
  exact ⟨rfl, (q _ ⟨z, List.mem_of_getElem? hz, rfl⟩).2⟩
theorem perm_erase {α : Type} : ∀ {l : List α} {i : Nat} {z : α}, l[i]? = some z → (z :: l.eraseIdx i).Perm l
  | [], i, z, h => by simp at h
  | x :: l, 0, z, h => by
    rw [List.getElem?_cons_zero] at h
    cases h
    exact .refl _
  | x :: l, i + 1, z, h => by
    rw [List.getElem?_cons_succ] at h
    rw [List.eraseIdx_cons_succ]
    exact (List.Perm.swap x z _).trans ((perm_erase h).cons x)
abbrev sp_law_mixed : DSp := spF (fun xs : List PyData => [.pool, .l xs]) (fun xs => xs.length ≤ 1000) (fun xs d => ∃ ys : List PyData, d = .nl ys ∧ ys.Perm xs)
theorem ok_law_mixed {f : Addr} {fd : FuncData} (T : Tx g mg) (F : FT g "_law_mixed" "_law_mixed" s_law_mixed f fd) (C_law_draw : Kn Pg w g mg base "_law_draw" 1 ["_law_pool_here", "_law_many"] sp_law_draw) : FnOk Pg w g.K mg base CX0 2 f fd ["_law_pool_here", "_law_things"] (spD g sp_law_mixed) := by
  refine dok F sc_law_mixed (fun es Q ⟨a, e, _⟩ => by rw [e]; rfl) fun cdv A outer s H E hr => ⟨_, (pss_cons (ps_set (i := 2) sc_law_mixed.nd rfl (.inr rfl) (pe_callTy call_list_of (by rfl) T.f_list (by decide +kernel) (pa_cons (pv 1) pa_nil)))
    (pss_one (ps_ret (pe_lc (own := [("_law_k", 3)]) (tt := tYes) rfl sc_law_mixed.nd (pi_range1 (by rfl) T.f_range (pa_cons (pe_callB call_len_seq (by rfl) T.f_len (by decide +kernel) (pa_cons (pv 1) pa_nil)) pa_nil)) (blkOk_by (by kernel_rfl)) (fun _ _ _ _ _ => (pg_name (i := 3) sc_law_mixed.nd rfl (.inl rfl))) (fun _ _ _ _ _ => pts_nil) (fun _ _ _ _ _ => (pe_bmG (K := g.K) rfl PySem.F.plainAttrs_list PySem.F.slot_list_pop PySem.F.type_list_pop mt_popAt (pv 2) (pa_cons (pe_kn rfl C_law_draw (hr.mono (by omega)) (by rfl) (pa_cons (pv 0) (pa_cons (pe_callB (call_lenG (K := g.K) rfl) (by rfl) T.f_len (by decide +kernel) (pa_cons (pv 2) pa_nil)) pa_nil))) pa_nil))))))), fun c es Q ⟨xs, e, hd, q⟩ => ?_⟩
  subst e
  try dsimp only [cxOf, Cx.nox, Cx.wish]
  refine ws_ds (ds' := [some .pool, some (.l xs), none, none]) rfl ?_
  have hd : xs.length ≤ 1000 := hd
  refine ws_seq (ws_asgN (wn_list ?_))
  repeat walk_at "st"
  refine ⟨xs, rfl, Nat.le_of_ble_eq_true rfl, ?_⟩
  refine ws_dm (ds' := [some .pool, some (.l xs), some (.m 0), none]) (ms' := [.l xs]) rfl rfl ?_
  refine ws_ret (we_lc (wi_rng1 ?_))
  repeat walk_at "st"
  refine wc_lenL rfl ?_
  repeat walk_at "st"
  refine ⟨_, rfl, by omega, by omega, by rw [rngD_len]; omega, fun k acc ms => ∃ rest, ms = [.l rest] ∧ (acc ++ rest).Perm xs ∧ acc.length = k, ⟨xs, rfl, .refl _, rfl⟩, fun k y acc ms2 hy ⟨rest, em, pm, hl⟩ => ?_, fun acc ms2 ⟨rest, em, pm, hl⟩ => ?_⟩
  · subst em
    obtain ⟨hk, rfl⟩ := rngD_get hy
    have hk : k < xs.length := by omega
    have hl2 := pm.length_eq
    rw [List.length_append] at hl2
    refine ⟨_, tgt_name, rfl, ?_⟩
    refine fun gs2 as2 H2 σ2 L2 Q2 q2 => q2 true H2 _ L2 ?_
    refine we_popM ⟨0, _, rfl, rfl, ?_⟩
    repeat walk_at "st"
    refine wc_lenM rfl ?_
    repeat walk_at "st"
    refine ⟨rfl, (rest.length : Int), rfl, ⟨by omega, by omega⟩, fun d ⟨i, ed, i0, i1⟩ => ?_⟩
    subst ed
    obtain ⟨z, hz⟩ := ix_nat (n := rest.length) i0 i1 rfl
    refine ⟨rfl, i, rest, z, rfl, rfl, i0, by omega, hz, z, rfl, rest.eraseIdx i.toNat, rfl, ?_, by rw [List.length_append, hl]; rfl⟩
    rw [List.append_assoc]
    exact ((perm_erase hz).append_left acc).trans pm
  · subst em
    rw [rngD_len] at hl
    have hl2 := pm.length_eq
    rw [List.length_append] at hl2
    have e : rest = [] := List.eq_nil_of_length_eq_zero (by omega)
    subst e
    rw [List.append_nil] at pm
    exact ⟨rfl, (q _ ⟨acc, rfl, pm⟩).2⟩
abbrev StepOk (n : Int) (st : List Int) : Prop := (st.length : Int) = n ∧ ∀ z ∈ st, -1000000000000 ≤ z ∧ z ≤ 1000000000000
abbrev sp_law_step : DSp := spF (fun n : Int => [.pool, .p (.int n)]) (fun n => 1 ≤ n ∧ n ≤ 4) (fun n d => ∃ st : List Int, d = .p (intsD st) ∧ StepOk n st)
theorem ok_law_step {f : Addr} {fd : FuncData} (T : Tx g mg) (F : FT g "_law_step" "_law_step" s_law_step f fd) (C_law_draw : Kn Pg w g mg base "_law_draw" 1 ["_law_pool_here", "_law_many"] sp_law_draw) (C_law_some : Kn Pg w g mg base "_law_some" 2 ["_law_pool_here", "_law_things"] sp_law_some) :
    FnOk Pg w g.K mg base CX0 3 f fd ["_law_pool_here", "_law_sides"] (spD g sp_law_step) := by
  refine dok F sc_law_step (fun es Q ⟨a, e, _⟩ => by rw [e]; rfl) fun cdv A outer s H E hr => ⟨_, (pss_cons (ps_set (i := 2) sc_law_step.nd rfl (.inl rfl) (pe_kn rfl C_law_draw (hr.mono (by omega)) (by rfl) (pa_cons (pv 0) (pa_cons pe_int pa_nil))))
    (pss_cons (ps_if (pt_cmpR op_eq (pv 2) pe_int (nomark _))
    (pss_one (ps_ret (pe_op op_repK (pe_tup (pa_cons pe_int pa_nil)) (pv 1))))
    pss_nil)
    (pss_cons (ps_if (pt_cmpR op_eq (pv 2) pe_int (nomark _))
    (pss_one (ps_ret (pe_callTy call_tuple_of (by rfl) T.f_tuple (by decide +kernel) (pa_cons (pe_lc (own := [("_law_k", 3)]) (tt := tYes) rfl sc_law_step.nd (pi_range1 (by rfl) T.f_range (pa_cons (pv 1) pa_nil)) (blkOk_by (by kernel_rfl)) (fun _ _ _ _ _ => (pg_name (i := 3) sc_law_step.nd rfl (.inl rfl))) (fun _ _ _ _ _ => pts_nil) (fun _ _ _ _ _ => (pe_kn rfl C_law_some (hr.mono (by omega)) (by rfl) (pa_cons (pv 0) (pa_cons (pe_lst (pa_cons (pe_un un_neg (pe_op op_pow pe_int pe_int)) (pa_cons (pe_op op_pow pe_int pe_int) (pa_cons (pe_op op_sub pe_int (pe_op op_pow pe_int pe_int)) (pa_cons pe_int (pa_cons pe_int pa_nil)))))) pa_nil))))) pa_nil))))
    pss_nil)
    (pss_one (ps_ret (pe_callTy call_tuple_of (by rfl) T.f_tuple (by decide +kernel) (pa_cons (pe_lc (own := [("_law_k", 3)]) (tt := tYes) rfl sc_law_step.nd (pi_range1 (by rfl) T.f_range (pa_cons (pv 1) pa_nil)) (blkOk_by (by kernel_rfl)) (fun _ _ _ _ _ => (pg_name (i := 3) sc_law_step.nd rfl (.inl rfl))) (fun _ _ _ _ _ => pts_nil) (fun _ _ _ _ _ => (pe_op op_sub (pe_kn rfl C_law_draw (hr.mono (by omega)) (by rfl) (pa_cons (pv 0) (pa_cons pe_int pa_nil))) pe_int))) pa_nil))))))), fun c es Q ⟨n, e, hd, q⟩ => ?_⟩
  subst e
  try dsimp only [cxOf, Cx.nox, Cx.wish]
  refine ws_ds (ds' := [some .pool, some (.p (.int n)), none, none]) rfl ?_
  obtain ⟨n0, n1⟩ := hd
  repeat walk_at "st"
  refine ⟨rfl, 6, rfl, ⟨by decide, by decide⟩, fun d ⟨i, ed, i0, i1⟩ => ?_⟩
  subst ed
  refine ⟨rfl, ?_⟩
  repeat walk_at "st"
  refine ite_b (fun h => ?_) (fun h => ?_)
  · repeat walk_at "st"
    refine ⟨[.int 0], rfl, by decide, ?_⟩
    repeat walk_at "st"
    refine wr_rep ⟨n0, by omega⟩ ⟨rfl, (q _ ⟨_, rfl, by rw [List.length_replicate]; omega, fun z hz => ?_⟩).2⟩
    rw [List.eq_of_mem_replicate hz]
    decide
  repeat walk_at "st"
  refine ite_b (fun h => ?_) (fun h => ?_)
  · repeat walk_at "st"
    refine we_lc (wi_rng1 ?_)
    repeat walk_at "st"
    refine ⟨_, rfl, by omega, by omega, by rw [rngD_len]; omega, fun k acc ms => ms = [] ∧ ∃ l : List Int, acc = l.map .int ∧ l.length = k ∧ ∀ z ∈ l, -1000000000000 ≤ z ∧ z ≤ 1000000000000, ⟨rfl, [], rfl, rfl, fun z hz => absurd hz List.not_mem_nil⟩, fun k y acc ms2 hy ⟨em, l, ea, hl, hb⟩ => ?_, fun acc ms2 ⟨em, l, ea, hl, hb⟩ => ?_⟩
    · subst em ea
      obtain ⟨hk, rfl⟩ := rngD_get hy
      refine ⟨_, tgt_name, rfl, ?_⟩
      refine fun gs2 as2 H2 σ2 L2 Q2 q2 => q2 true H2 _ L2 ?_
      repeat walk_at "st"
      refine we_lst ?_
      repeat walk_at "st"
      refine wr_pow ⟨by decide, by decide, by decide⟩ ?_
      repeat walk_at "st"
      refine wr_pow ⟨by decide, by decide, by decide⟩ ?_
      repeat walk_at "st"
      refine wr_pow ⟨by decide, by decide, by decide⟩ ?_
      repeat walk_at "st"
      refine ⟨[.int (-(10 ^ (12 : Int).toNat)), .int (10 ^ (12 : Int).toNat), .int (7 - 10 ^ (11 : Int).toNat), .int 0, .int 1], rfl, Nat.le_of_ble_eq_true rfl, ?_⟩
      repeat walk_at "st"
      refine ⟨rfl, _, rfl, ⟨Nat.le_of_ble_eq_true rfl, Nat.le_of_ble_eq_true rfl⟩, fun d ⟨x, hx, ed⟩ => ?_⟩
      subst ed
      refine ⟨rfl, x, rfl, rfl, ?_⟩
      obtain ⟨z, rfl, hz⟩ : ∃ z : Int, x = .int z ∧ -1000000000000 ≤ z ∧ z ≤ 1000000000000 := by
        simp only [List.mem_cons, List.not_mem_nil, or_false] at hx
        rcases hx with e | e | e | e | e <;> exact ⟨_, e, by decide +kernel, by decide +kernel⟩
      refine ⟨l ++ [z], by rw [List.map_append]; rfl, by rw [List.length_append, hl]; rfl, fun y hy => ?_⟩
      rcases List.mem_append.mp hy with e | e
      · exact hb y e
      · rw [List.mem_singleton.mp e]
        exact hz
    · subst em ea
      rw [rngD_len] at hl
      repeat walk_at "st"
      exact (q _ ⟨l, rfl, by omega, hb⟩).2
  · repeat walk_at "st"
    refine we_lc (wi_rng1 ?_)
    repeat walk_at "st"
    refine ⟨_, rfl, by omega, by omega, by rw [rngD_len]; omega, fun k acc ms => ms = [] ∧ ∃ l : List Int, acc = l.map .int ∧ l.length = k ∧ ∀ z ∈ l, -1000000000000 ≤ z ∧ z ≤ 1000000000000, ⟨rfl, [], rfl, rfl, fun z hz => absurd hz List.not_mem_nil⟩, fun k y acc ms2 hy ⟨em, l, ea, hl, hb⟩ => ?_, fun acc ms2 ⟨em, l, ea, hl, hb⟩ => ?_⟩
    · subst em ea
      obtain ⟨hk, rfl⟩ := rngD_get hy
      refine ⟨_, tgt_name, rfl, ?_⟩
      refine fun gs2 as2 H2 σ2 L2 Q2 q2 => q2 true H2 _ L2 ?_
      repeat walk_at "st"
      refine ⟨rfl, 5, rfl, ⟨by decide, by decide⟩, fun d ⟨j, ed, j0, j1⟩ => ?_⟩
      subst ed
      refine ⟨rfl, ?_⟩
      repeat walk_at "st"
      refine ⟨_, rfl, rfl, l ++ [j - 2], by rw [List.map_append]; rfl, by rw [List.length_append, hl]; rfl, fun y hy => ?_⟩
      rcases List.mem_append.mp hy with e | e
      · exact hb y e
      · rw [List.mem_singleton.mp e]
        omega
    · subst em ea
      rw [rngD_len] at hl
      repeat walk_at "st"
      exact (q _ ⟨l, rfl, by omega, hb⟩).2
theorem asc_nodup {rs : List Rd} (h : Asc rs) : rs.Nodup := h.imp fun {a b} h e => by
  subst e
  exact rd_irrefl _ h
/-- each table reads the next one -/
def Tied (t : Int) (rs : List Rd) : Prop := ∀ i : Int, 0 ≤ i → i < t → ∃ r ∈ rs, r.x = i ∧ r.y = (i + 1) % t
/-- the readings' tuple as it is read -/
theorem we_rdsP {c : Cg} {ds : List (Option D)} {ms : List MO} {P : D → List MO → Prop} {te : TE} (h : We g c te ds ms fun d ms1 => ∃ rs, d = .rdsF rs ∧ P (.p (rds rs)) ms1) : We g c te ds ms P := fun gs as H σ L Q q => h gs as H σ L Q fun v H' d ms' L' ⟨rs, e, k⟩ => q v H' (.p (rds rs)) ms' (by
  subst e
  exact L'.pop.push L'.top.1) k
abbrev sp_law_ringed : DSp := spF (fun _ : Unit => [.pool]) (fun _ => True) (fun _ d => ∃ p : Pt, d = .p p.pd ∧ PrgOk p.1 p.2.1 p.2.2 ∧ Tied p.2.1 p.2.2)
theorem ok_law_ringed {f : Addr} {fd : FuncData} (T : Tx g mg) (F : FT g "_law_ringed" "_law_ringed" s_law_ringed f fd) (C_law_draw : Kn Pg w g mg base "_law_draw" 1 ["_law_pool_here", "_law_many"] sp_law_draw) (C_law_some : Kn Pg w g mg base "_law_some" 2 ["_law_pool_here", "_law_things"] sp_law_some)
    (C_law_step : Kn Pg w g mg base "_law_step" 3 ["_law_pool_here", "_law_sides"] sp_law_step) : FnOk Pg w g.K mg base CX0 4 f fd ["_law_pool_here"] (spD g sp_law_ringed) := by
  refine dok F sc_law_ringed (fun es Q ⟨a, e, _⟩ => by rw [e]; rfl) fun cdv A outer s H E hr => ⟨_, (pss_cons (ps_set (i := 1) sc_law_ringed.nd rfl (.inr rfl) (pe_op op_add pe_int (pe_kn rfl C_law_draw (hr.mono (by omega)) (by rfl) (pa_cons (pv 0) (pa_cons pe_int pa_nil)))))
    (pss_cons (ps_set (i := 2) sc_law_ringed.nd rfl (.inr rfl) (pe_op op_add pe_int (pe_kn rfl C_law_some (hr.mono (by omega)) (by rfl) (pa_cons (pv 0) (pa_cons (pe_lst (pa_cons pe_int (pa_cons pe_int (pa_cons pe_int (pa_cons pe_int (pa_cons pe_int (pa_cons pe_int pa_nil))))))) pa_nil)))))
    (pss_cons (ps_setLc (i := 3) (own := [("_law_k", 4)]) (tt := tYes) rfl sc_law_ringed.nd rfl rfl (sw_true rfl rfl rfl (by kernel_rfl)) (pi_range1 (by rfl) T.f_range (pa_cons (pv 2) pa_nil)) (blkOk_by (by kernel_rfl)) (fun _ _ _ _ _ => (pg_name (i := 4) sc_law_ringed.nd rfl (.inl rfl))) (fun _ _ _ _ _ => pts_nil) (fun _ _ _ _ _ => (pe_tup (pa_cons (pv 4) (pa_cons (pe_op op_mod (pe_callTy call_int1 (by rfl) T.f_int (by decide +kernel) (pa_cons (pe_op op_add (pv 4) pe_int) pa_nil)) (pv 2)) (pa_cons (pe_kn rfl C_law_step (hr.mono (by omega)) (by rfl) (pa_cons (pv 0) (pa_cons (pv 1) pa_nil))) pa_nil))))))
    (pss_cons (ps_for PassesOwn.never rfl (pi_range1 (by rfl) T.f_range (pa_cons (pe_kn rfl C_law_some (hr.mono (by omega)) (by rfl) (pa_cons (pv 0) (pa_cons (pe_lst (pa_cons pe_int (pa_cons pe_int (pa_cons pe_int (pa_cons pe_int (pa_cons pe_int (pa_cons pe_int pa_nil))))))) pa_nil))) pa_nil)) (pg_name (i := 4) sc_law_ringed.nd rfl (.inl rfl))
    (pss_one (ps_expr (pe_bm PySem.F.plainAttrs_list PySem.F.slot_list_append PySem.F.type_list_append mt_append (pv 3) (pa_cons (pe_tup (pa_cons (pe_kn rfl C_law_draw (hr.mono (by omega)) (by rfl) (pa_cons (pv 0) (pa_cons (pv 2) pa_nil))) (pa_cons (pe_kn rfl C_law_draw (hr.mono (by omega)) (by rfl) (pa_cons (pv 0) (pa_cons (pv 2) pa_nil))) (pa_cons (pe_kn rfl C_law_step (hr.mono (by omega)) (by rfl) (pa_cons (pv 0) (pa_cons (pv 1) pa_nil))) pa_nil)))) pa_nil)))))
    (pss_one (ps_ret (pe_tup (pa_cons (pv 1) (pa_cons (pv 2) (pa_cons (pe_callTy cr_tupF (by rfl) T.f_tuple (by decide +kernel) (pa_cons (pe_callB (cr_sortedS2 rfl hr.units) (by rfl) T.f_sorted (by decide +kernel) (pa_cons (pe_callTy (cr_setOfN rfl hr.units) (by rfl) T.f_set (by decide +kernel) (pa_cons (pv 3) pa_nil)) pa_nil)) pa_nil)) pa_nil)))))))))), fun c es Q ⟨_, e, hd, q⟩ => ?_⟩
  subst e
  try dsimp only [cxOf, Cx.nox, Cx.wish]
  refine ws_ds (ds' := [some .pool, none, none, none, none]) rfl ?_
  repeat walk_at "st"
  refine ⟨rfl, 4, rfl, ⟨by decide, by decide⟩, fun d ⟨i, ed, i0, i1⟩ => ?_⟩
  subst ed
  refine ⟨rfl, ?_⟩
  repeat walk_at "st"
  refine we_lst ?_
  repeat walk_at "st"
  refine ⟨[.int 0, .int 1, .int 1, .int 2, .int 3, .int 7], rfl, Nat.le_of_ble_eq_true rfl, ?_⟩
  repeat walk_at "st"
  refine ⟨rfl, _, rfl, ⟨Nat.le_of_ble_eq_true rfl, Nat.le_of_ble_eq_true rfl⟩, fun d ⟨x, hx, ed⟩ => ?_⟩
  subst ed
  refine ⟨rfl, ?_⟩
  obtain ⟨z, rfl, z0, z1⟩ : ∃ z : Int, x = .int z ∧ 0 ≤ z ∧ z ≤ 7 := by
    simp only [List.mem_cons, List.not_mem_nil, or_false] at hx
    rcases hx with e | e | e | e | e | e <;> exact ⟨_, e, by decide, by decide⟩
  refine wr_add (wg_name ⟨Nat.le_of_ble_eq_true rfl, ?_⟩)
  -- the ring
  refine ws_dm (ds' := [some .pool, some (.p (.int (1 + i))), some (.p (.int (1 + z))), none, none]) (ms' := []) rfl rfl ?_
  refine ws_seq (ws_asgN (wn_lc (wi_rng1 ?_)))
  repeat walk_at "st"
  generalize hs : 1 + i = ns at *
  generalize ht : 1 + z = nt at *
  have s1 : 1 ≤ ns ∧ ns ≤ 4 := by omega
  have t1 : 1 ≤ nt ∧ nt ≤ 8 := by omega
  refine ⟨_, rfl, by omega, by omega, by rw [rngD_len]; omega, fun k acc ms => ms = [] ∧ ∃ rs : List Rd, acc = rs.map Rd.pd ∧ rs.length = k ∧ (∀ r ∈ rs, r.ok ns nt) ∧ ∀ j : Int, 0 ≤ j → j < k → ∃ r ∈ rs, r.x = j ∧ r.y = (j + 1) % nt, ⟨rfl, [], rfl, rfl, fun z hz => absurd hz List.not_mem_nil, fun j h1 h2 => by omega⟩, fun k y acc ms2 hy ⟨em, rs, ea, hl, ho, hr⟩ => ?_, fun acc ms2 ⟨em, rs, ea, hl, ho, hr⟩ => ?_⟩
  · subst em ea
    obtain ⟨hk, rfl⟩ := rngD_get hy
    refine ⟨_, tgt_name, rfl, ?_⟩
    refine fun gs2 as2 H2 σ2 L2 Q2 q2 => q2 true H2 _ L2 ?_
    refine we_mono (P' := fun d ms4 => ms4 = [] ∧ ∃ st, d = .p (Rd.pd ⟨k, (k + 1) % nt, st⟩) ∧ StepOk ns st) (we_tup ?_) fun d ms4 ⟨em, st, ed, so⟩ => ?_
    · repeat walk_at "st"
      refine wc_int1 ?_
      repeat walk_at "st"
      refine wr_mod (by omega) ?_
      repeat walk_at "st"
      refine ⟨rfl, ns, rfl, s1, fun d ⟨st, ed, so⟩ => ?_⟩
      subst ed
      refine ⟨rfl, ?_⟩
      repeat walk_at "st"
      exact ⟨[.int (0 + (k : Int)), .int ((0 + (k : Int) + 1) % nt), intsD st], rfl, Nat.le_of_ble_eq_true rfl, rfl, st, by rw [Int.zero_add]; rfl, so⟩
    · subst em ed
      refine ⟨_, rfl, rfl, rs ++ [⟨k, (k + 1) % nt, st⟩], by rw [List.map_append]; rfl, by rw [List.length_append, hl]; rfl, fun r hr2 => ?_, fun j j0 j1 => ?_⟩
      · rcases List.mem_append.mp hr2 with e | e
        · exact ho r e
        · rw [List.mem_singleton.mp e]
          have m0 := Int.emod_nonneg ((k : Int) + 1) (show nt ≠ 0 by omega)
          have m1 := Int.emod_lt_of_pos ((k : Int) + 1) (show 0 < nt by omega)
          exact ⟨by show (0 : Int) ≤ k; omega, by show (k : Int) < nt; omega, m0, m1, so.1, so.2⟩
      · by_cases hj : j < k
        · obtain ⟨r, h1, h2⟩ := hr j j0 hj
          exact ⟨r, List.mem_append_left _ h1, h2⟩
        · have e : j = k := by omega
          subst e
          exact ⟨_, List.mem_append_right _ (List.mem_singleton.mpr rfl), rfl, rfl⟩
  subst em ea
  rw [rngD_len] at hl
  refine ⟨Nat.le_of_ble_eq_true rfl, ?_⟩
  refine ws_dm (ds' := [some .pool, some (.p (.int ns)), some (.p (.int nt)), some (.m 0), none]) (ms' := [.l (rs.map Rd.pd)]) rfl rfl ?_
  -- some more
  refine ws_seq (ws_for (wi_rng1 ?_))
  repeat walk_at "st"
  refine we_lst ?_
  repeat walk_at "st"
  refine ⟨[.int 0, .int 1, .int 2, .int 3, .int 5, .int 12], rfl, Nat.le_of_ble_eq_true rfl, ?_⟩
  repeat walk_at "st"
  refine ⟨rfl, _, rfl, ⟨Nat.le_of_ble_eq_true rfl, Nat.le_of_ble_eq_true rfl⟩, fun d ⟨x, hx, ed⟩ => ?_⟩
  subst ed
  refine ⟨rfl, ?_⟩
  obtain ⟨y, rfl, y0, y1⟩ : ∃ z : Int, x = .int z ∧ 0 ≤ z ∧ z ≤ 12 := by
    simp only [List.mem_cons, List.not_mem_nil, or_false] at hx
    rcases hx with e | e | e | e | e | e <;> exact ⟨_, e, by decide, by decide⟩
  repeat walk_at "st"
  refine ⟨y, rfl, by omega, y0, fun k ds ms => ∃ rs2 : List Rd, ms = [.l (rs2.map Rd.pd)] ∧ (∃ a, ds = [some .pool, some (.p (.int ns)), some (.p (.int nt)), some (.m 0), a]) ∧ rs2.length = nt.toNat + k ∧ (∀ r ∈ rs2, r.ok ns nt) ∧ ∀ r ∈ rs, r ∈ rs2, ⟨rs, rfl, ⟨_, rfl⟩, hl, ho, fun r h => h⟩, fun k v ds2 ms2 hv ⟨rs2, em, ⟨a, ed⟩, l2, o2, in2⟩ => ?_, fun ds2 ms2 ⟨rs2, em, ⟨a, ed⟩, l2, o2, in2⟩ => ?_⟩
  · subst em ed
    obtain ⟨hk, rfl⟩ := rngD_get hv
    refine wg_name ⟨Nat.le_of_ble_eq_true rfl, ?_⟩
    refine ws_ds (ds' := [some .pool, some (.p (.int ns)), some (.p (.int nt)), some (.m 0), some (.p (.int (0 + (k : Int))))]) rfl ?_
    refine ws_append ⟨0, _, rfl, rfl, ?_⟩
    refine we_tup ?_
    repeat walk_at "st"
    refine ⟨rfl, nt, rfl, ⟨by omega, by omega⟩, fun d ⟨u, ed, u0, u1⟩ => ?_⟩
    subst ed
    refine ⟨rfl, ?_⟩
    repeat walk_at "st"
    refine ⟨rfl, nt, rfl, ⟨by omega, by omega⟩, fun d ⟨v, ed, v0, v1⟩ => ?_⟩
    subst ed
    refine ⟨rfl, ?_⟩
    repeat walk_at "st"
    refine ⟨rfl, ns, rfl, s1, fun d ⟨st, ed, so⟩ => ?_⟩
    subst ed
    refine ⟨rfl, ?_⟩
    repeat walk_at "st"
    refine ⟨[.int u, .int v, intsD st], rfl, Nat.le_of_ble_eq_true rfl, _, _, rfl, rfl, ?_, rs2 ++ [⟨u, v, st⟩], ?_, ⟨_, rfl⟩, ?_, fun r hr => ?_, fun r hr => List.mem_append_left _ (in2 r hr)⟩
    · rw [List.length_map]
      omega
    · rw [List.map_append]
      rfl
    · rw [List.length_append, List.length_singleton]
      omega
    · rcases List.mem_append.mp hr with e | e
      · exact o2 r e
      · rw [List.mem_singleton.mp e]
        exact ⟨u0, u1, v0, v1, so.1, so.2⟩
  subst em ed
  rw [rngD_len] at l2
  refine ws_ret (we_tup ?_)
  refine wa_cons (we_var rfl (wa_cons (we_var rfl (wa_cons (we_rdsP ?_)))))
  refine we_cb (wa_cons (we_sortSet (we_var rfl ⟨rs2, rfl, by omega, fun rs3 asc mem => ?_⟩)))
  refine wa_nil (wc_tupF rfl ⟨rs3, rfl, wa_nil ⟨[.int ns, .int nt, rds rs3], rfl, Nat.le_of_ble_eq_true rfl, rfl, ?_⟩⟩)
  have few : rs3.length ≤ rs2.length := List.Nodup.length_le_of_subset (asc_nodup asc) fun r hr => (mem r).mp hr
  have few : rs3.length ≤ 24 := by omega
  exact (q _ ⟨(ns, nt, rs3), rfl, ⟨s1.1, s1.2, t1.1, t1.2, few, fun r hr => o2 r ((mem r).mp hr), asc⟩, fun j j0 j1 => by
    have j1 : j < nt := j1
    obtain ⟨r, h1, h2⟩ := hr j j0 (by rw [rngD_len]; omega)
    exact ⟨r, (mem r).mpr (in2 r h1), h2⟩⟩).2
end
end K19
/-! the mathematics of logs: runs, bounds, walks -/
namespace K19
open PySem PySem.Spec PyProof.Rows L2
/-- what a log comes to, by what its numbers stand for -/
inductive Run (lk : Int → Option Rd) (n t : Nat) : Lg → Sm → Sm → Prop
  | nil (f : Sm) : Run lk n t .nil f f
  | num {k : Int} {r : Lg} {q : Rd} {f f2 S : Sm} : 0 ≤ k → lk k = some q → f.beh (Sm.one t q) = some f2 → Run lk n t r f2 S → Run lk n t (.num k r) f S
  | rnd {m : Int} {i r : Lg} {f S1 S2 f2 S : Sm} : 1 ≤ m → i ≠ .nil → 0 < S1.len → Run lk n t i (Sm.zero n t) S1 → S1.aga m = some S2 → f.beh S2 = some f2 → Run lk n t r f2 S → Run lk n t (.rnd m i r) f S
abbrev look (rs : List Rd) : Int → Option Rd := fun k => rs[k.toNat]?
theorem Run.sumL {rs : List Rd} {n t : Nat} {l : Lg} {f S : Sm} (h : Run (look rs) n t l f S) : K19.sumL rs n t l f = some S := by
  induction h with
  | nil f => rfl
  | num k0 hk hb _ ih =>
    rw [K19.sumL]
    simp only [show _ = some _ from hk]
    rw [hb]
    exact ih
  | rnd m1 ne ps _ ha hb _ ih1 ih2 =>
    rw [K19.sumL, ih1, Option.bind_some, ha, Option.bind_some, hb]
    exact ih2
def Sm.cat (a b : Sm) : Sm := ⟨a.b, b.e, a.len + b.len, List.zipWith (· + ·) a.ad b.ad, z3 (fun x y z => min x (y - z)) a.le b.le a.ad, z3 (fun x y z => max x (y - z)) a.mo b.mo a.ad, List.zipWith (· + ·) a.st b.st⟩
def Sm.rep (S : Sm) (m : Int) : Sm := ⟨S.b, S.e, m * S.len, S.ad.map (m * ·), List.zipWith (fun x y => x + min 0 y) S.le (S.ad.map (-(m - 1) * ·)), List.zipWith (fun x y => x + max 0 y) S.mo (S.ad.map (-(m - 1) * ·)), S.st.map (m * ·)⟩
theorem beh_0 {a b : Sm} (h : a.len = 0) : a.beh b = some b := by rw [Sm.beh, if_pos h]
theorem beh_1 {a b : Sm} (h : a.len ≠ 0) (h2 : b.len = 0) : a.beh b = some a := by rw [Sm.beh, if_neg h, if_pos h2]
theorem beh_2 {a b : Sm} (h : a.len ≠ 0) (h2 : b.len ≠ 0) (h3 : a.e = b.b) : a.beh b = some (a.cat b) := by rw [Sm.beh, if_neg h, if_neg h2, if_neg (not_not_intro h3)]; rfl
theorem beh_cases {a b c : Sm} (h : a.beh b = some c) : (a.len = 0 ∧ c = b) ∨ (a.len ≠ 0 ∧ b.len = 0 ∧ c = a) ∨ (a.len ≠ 0 ∧ b.len ≠ 0 ∧ a.e = b.b ∧ c = a.cat b) := by
  by_cases h1 : a.len = 0
  · rw [beh_0 h1] at h
    cases h
    exact .inl ⟨h1, rfl⟩
  by_cases h2 : b.len = 0
  · rw [beh_1 h1 h2] at h
    cases h
    exact .inr (.inl ⟨h1, h2, rfl⟩)
  by_cases h3 : a.e = b.b
  · rw [beh_2 h1 h2 h3] at h
    cases h
    exact .inr (.inr ⟨h1, h2, h3, rfl⟩)
  · rw [Sm.beh, if_neg h1, if_neg h2, if_pos h3] at h
    cases h
theorem aga_1 {a : Sm} {m : Int} (h : 1 < m → a.b = a.e) : a.aga m = some (a.rep m) := by
  rw [Sm.aga, if_neg (fun ⟨z1, z2⟩ => z2 (h z1))]
  rfl
theorem aga_cases {a c : Sm} {m : Int} (h : a.aga m = some c) : (1 < m → a.b = a.e) ∧ c = a.rep m := by
  by_cases h1 : 1 < m ∧ a.b ≠ a.e
  · rw [Sm.aga, if_pos h1] at h
    cases h
  · have h2 : 1 < m → a.b = a.e := fun z => Classical.not_not.mp fun y => h1 ⟨z, y⟩
    rw [aga_1 h2] at h
    cases h
    exact ⟨h2, rfl⟩
/-! ### a log's runs in two programs -/
structure Sim (R : Sm → Sm → Prop) (n t n' t' : Nat) : Prop where
  z : R (Sm.zero n t) (Sm.zero n' t')
  ln : ∀ {a a'}, R a a' → a'.len = a.len
  eq : ∀ {a b a' b'}, R a a' → R b b' → a.e = b.b → a'.e = b'.b
  cat : ∀ {a b a' b'}, R a a' → R b b' → R (a.cat b) (a'.cat b')
  rep : ∀ {a a' m}, 1 ≤ m → R a a' → R (a.rep m) (a'.rep m)
theorem Sim.beh {R : Sm → Sm → Prop} {n t n' t' : Nat} (s : Sim R n t n' t') {a b c a' b' : Sm} (ha : R a a') (hb : R b b') (h : a.beh b = some c) : ∃ c', a'.beh b' = some c' ∧ R c c' := by
  have la := s.ln ha
  have lb := s.ln hb
  rcases beh_cases h with ⟨h1, rfl⟩ | ⟨h1, h2, rfl⟩ | ⟨h1, h2, h3, rfl⟩
  · exact ⟨b', beh_0 (by rw [la]; exact h1), hb⟩
  · exact ⟨a', beh_1 (by rw [la]; exact h1) (by rw [lb]; exact h2), ha⟩
  · exact ⟨_, beh_2 (by rw [la]; exact h1) (by rw [lb]; exact h2) (s.eq ha hb h3), s.cat ha hb⟩
theorem Sim.aga {R : Sm → Sm → Prop} {n t n' t' : Nat} (s : Sim R n t n' t') {a c a' : Sm} {m : Int} (m1 : 1 ≤ m) (ha : R a a') (h : a.aga m = some c) : ∃ c', a'.aga m = some c' ∧ R c c' := by
  obtain ⟨h1, rfl⟩ := aga_cases h
  exact ⟨_, aga_1 fun z => (s.eq ha ha (h1 z).symm).symm, s.rep m1 ha⟩
theorem Lg.mv_ne {g : Int → Int} : ∀ {l : Lg}, l ≠ .nil → l.mv g ≠ .nil
  | .nil, h, _ => h rfl
  | .num _ _, _, h => by cases h
  | .rnd _ _ _, _, h => by cases h
theorem Run.sim {lk lk' : Int → Option Rd} {n t n' t' : Nat} {g : Int → Int} {R : Sm → Sm → Prop} (s : Sim R n t n' t') (one : ∀ k q, 0 ≤ k → lk k = some q → 0 ≤ g k ∧ ∃ q', lk' (g k) = some q' ∧ R (Sm.one t q) (Sm.one t' q'))
    {l : Lg} {f S : Sm} (h : Run lk n t l f S) : ∀ f', R f f' → ∃ S', Run lk' n' t' (l.mv g) f' S' ∧ R S S' := by
  induction h with
  | nil f => exact fun f' hf => ⟨f', .nil f', hf⟩
  | num k0 hk hb _ ih =>
    intro f' hf
    obtain ⟨g0, q', e1, r1⟩ := one _ _ k0 hk
    obtain ⟨c', e2, r2⟩ := s.beh hf r1 hb
    obtain ⟨S', e3, r3⟩ := ih c' r2
    exact ⟨S', .num g0 e1 e2 e3, r3⟩
  | rnd m1 ne ps _ ha hb _ ih1 ih2 =>
    intro f' hf
    obtain ⟨T1, e1, r1⟩ := ih1 _ s.z
    obtain ⟨T2, e2, r2⟩ := s.aga m1 r1 ha
    obtain ⟨c', e3, r3⟩ := s.beh hf r2 hb
    obtain ⟨S', e4, r4⟩ := ih2 c' r3
    exact ⟨S', .rnd m1 (Lg.mv_ne ne) (by rw [s.ln r1]; exact ps) e1 e2 e3 e4, r4⟩
/-! ### bounds -/
def Lg.wt : Lg → Int
  | .nil => 0
  | .num _ r => 1 + r.wt
  | .rnd m i r => m * i.wt + r.wt
structure Bd (B : Int) (S : Sm) : Prop where
  len : 0 ≤ S.len
  ad : ∀ z ∈ S.ad, -(B * S.len) ≤ z ∧ z ≤ B * S.len
  st : ∀ z ∈ S.st, -S.len ≤ z ∧ z ≤ S.len
theorem mem_zw {α : Type} {f : α → α → α} : ∀ {xs ys : List α} {z : α}, z ∈ List.zipWith f xs ys → ∃ x ∈ xs, ∃ y ∈ ys, z = f x y
  | [], _, _, h => by simp at h
  | _ :: _, [], _, h => by simp at h
  | x :: xs, y :: ys, z, h => by
    rw [List.zipWith_cons_cons] at h
    rcases List.mem_cons.mp h with e | e
    · exact ⟨x, List.mem_cons_self, y, List.mem_cons_self, e⟩
    · obtain ⟨x', hx, y', hy, e'⟩ := mem_zw e
      exact ⟨x', List.mem_cons_of_mem _ hx, y', List.mem_cons_of_mem _ hy, e'⟩
theorem Bd.zero (B : Int) (n t : Nat) : Bd B (Sm.zero n t) := ⟨Int.le_refl 0, fun z hz => by
  rw [List.eq_of_mem_replicate hz]
  exact ⟨by simp [Sm.zero], by simp [Sm.zero]⟩, fun z hz => by
  rw [List.eq_of_mem_replicate hz]
  exact ⟨by simp [Sm.zero], by simp [Sm.zero]⟩⟩
theorem Bd.one {B : Int} {t : Nat} {q : Rd} (h : ∀ z ∈ q.st, -B ≤ z ∧ z ≤ B) : Bd B (Sm.one t q) := ⟨show (0 : Int) ≤ 1 by decide, fun z hz => by
  have := h z hz
  show -(B * 1) ≤ z ∧ z ≤ B * 1
  omega, fun z hz => by
  obtain ⟨i, _, rfl⟩ := List.mem_map.mp hz
  show -1 ≤ _ ∧ _ ≤ 1
  split <;> omega⟩
theorem Bd.cat {B : Int} {a b : Sm} (ha : Bd B a) (hb : Bd B b) : Bd B (a.cat b) := ⟨Int.add_nonneg ha.len hb.len, fun z hz => by
  obtain ⟨x, hx, y, hy, rfl⟩ := mem_zw hz
  have h1 := ha.ad x hx
  have h2 := hb.ad y hy
  show -(B * (a.len + b.len)) ≤ x + y ∧ x + y ≤ B * (a.len + b.len)
  rw [Int.mul_add]
  omega, fun z hz => by
  obtain ⟨x, hx, y, hy, rfl⟩ := mem_zw hz
  have h1 := ha.st x hx
  have h2 := hb.st y hy
  show -(a.len + b.len) ≤ x + y ∧ x + y ≤ a.len + b.len
  omega⟩
theorem mul_bd {m x c : Int} (hm : 0 ≤ m) (h : -c ≤ x ∧ x ≤ c) : -(m * c) ≤ m * x ∧ m * x ≤ m * c := by
  have h1 := Int.mul_le_mul_of_nonneg_left h.1 hm
  have h2 := Int.mul_le_mul_of_nonneg_left h.2 hm
  rw [Int.mul_neg] at h1
  exact ⟨h1, h2⟩
theorem Bd.rep {B : Int} {a : Sm} {m : Int} (ha : Bd B a) (hm : 1 ≤ m) : Bd B (a.rep m) := ⟨Int.mul_nonneg (by omega) ha.len, fun z hz => by
  obtain ⟨x, hx, rfl⟩ := List.mem_map.mp hz
  show -(B * (m * a.len)) ≤ m * x ∧ m * x ≤ B * (m * a.len)
  rw [Int.mul_left_comm]
  exact mul_bd (by omega) (ha.ad x hx), fun z hz => by
  obtain ⟨x, hx, rfl⟩ := List.mem_map.mp hz
  exact mul_bd (by omega) (ha.st x hx)⟩
theorem Bd.beh {B : Int} {a b c : Sm} (ha : Bd B a) (hb : Bd B b) (h : a.beh b = some c) : Bd B c ∧ c.len = a.len + b.len := by
  rcases beh_cases h with ⟨h1, rfl⟩ | ⟨h1, h2, rfl⟩ | ⟨h1, h2, h3, rfl⟩
  · exact ⟨hb, by omega⟩
  · exact ⟨ha, by omega⟩
  · exact ⟨ha.cat hb, rfl⟩
theorem Run.bound {B : Int} {lk : Int → Option Rd} {n t : Nat} (hs : ∀ k q, lk k = some q → ∀ z ∈ q.st, -B ≤ z ∧ z ≤ B) {l : Lg} {f S : Sm} (h : Run lk n t l f S) : Bd B f → Bd B S ∧ S.len = f.len + l.wt ∧ 0 ≤ l.wt := by
  induction h with
  | nil f => exact fun b => ⟨b, by rw [Lg.wt]; omega, Int.le_refl 0⟩
  | num k0 hk hb _ ih =>
    intro bf
    obtain ⟨b2, l2⟩ := bf.beh (.one (hs _ _ hk)) hb
    obtain ⟨b3, l3, w⟩ := ih b2
    refine ⟨b3, ?_, ?_⟩
    · rw [l3, l2, Lg.wt]
      show _ + 1 + _ = _
      omega
    · rw [Lg.wt]
      omega
  | @rnd m i r f S1 S2 f2 S m1 ne ps _ ha hb _ ih1 ih2 =>
    intro bf
    obtain ⟨b1, l1, w1⟩ := ih1 (.zero B n t)
    obtain ⟨_, rfl⟩ := aga_cases ha
    obtain ⟨b2, l2⟩ := bf.beh (b1.rep m1) hb
    obtain ⟨b3, l3, w3⟩ := ih2 b2
    refine ⟨b3, ?_, ?_⟩
    · rw [l3, l2, Lg.wt]
      show _ + _ * _ + _ = _
      rw [l1]
      show _ + _ * (0 + _) + _ = _
      rw [Int.zero_add, Int.add_assoc]
    · rw [Lg.wt]
      have := Int.mul_nonneg (show 0 ≤ m by omega) w1
      omega
end K19
/-! dicts with int keys -/
namespace K19
open PySem PySem.Spec PyProof.Rows L2
/-- what stands under a key -/
def lookD (kvs : List (Int × PyData)) (n : Int) : Option PyData := (kvs.find? fun q => decide (q.1 = n)).map (·.2)
abbrev keyed (kvs : List (Int × PyData)) (ws : List V) : List (Key × V) := (kvs.map fun q => (Sum.inl q.1 : Key)).zip ws
theorem keyed_val {K : PySem.W.Frag} {H : Hp} (n : Int) : ∀ {kvs : List (Int × PyData)} {ws : List V}, ws.length = kvs.length → Pds K H (kvs.map (·.2)) ws → (∀ x, lookD kvs n = some x → ∃ v, valV (keyed kvs ws) (Sum.inl n) = some v ∧ Pd K H x v) ∧ (lookD kvs n = none → valV (keyed kvs ws) (Sum.inl n) = none)
  | [], _, _, _ => ⟨fun x h => (by cases h), fun _ => rfl⟩
  | q :: kvs, [], h, _ => by cases h
  | q :: kvs, w :: ws, hl, h => by
    rw [List.map_cons] at h
    cases h with
    | cons h1 hs =>
      have ih := keyed_val (K := K) (H := H) n (kvs := kvs) (ws := ws) (Nat.succ.inj hl) hs
      have ez : keyed (q :: kvs) (w :: ws) = ((Sum.inl q.1 : Key), w) :: keyed kvs ws := rfl
      rw [ez]
      by_cases e : q.1 = n
      · have e1 : lookD (q :: kvs) n = some q.2 := by
          unfold lookD
          rw [List.find?_cons_of_pos (by rw [decide_eq_true e])]
          rfl
        rw [valV_pos (by rw [e]), e1]
        exact ⟨fun x hx => ⟨w, rfl, (by cases hx; exact h1)⟩, fun z => (by cases z)⟩
      · have e1 : lookD (q :: kvs) n = lookD kvs n := by
          unfold lookD
          rw [List.find?_cons_of_neg (by rw [decide_eq_false e]; exact Bool.false_ne_true)]
        rw [valV_neg (fun z => e (Sum.inl.inj z)), e1]
        exact ih
theorem keyed_put {kvs : List (Int × PyData)} {ws : List V} {n : Int} {x : PyData} {v : V} (hl : ws.length = kvs.length) (h : valV (keyed kvs ws) (Sum.inl n) = none) : putK (keyed kvs ws) (Sum.inl n) v = keyed (kvs ++ [(n, x)]) (ws ++ [v]) := by
  have e0 : ((keyed kvs ws).find? fun kv => decide (kv.1 = (Sum.inl n : Key))) = none := by
    unfold valV at h
    cases q : (keyed kvs ws).find? fun kv => decide (kv.1 = (Sum.inl n : Key)) with
    | none => rfl
    | some z =>
      rw [q] at h
      cases h
  have e1 : ((keyed kvs ws).any fun kv => decide (kv.1 = (Sum.inl n : Key))) = false := by
    rw [List.find?_eq_none] at e0
    rw [List.any_eq_false]
    exact fun z hz => e0 z hz
  unfold putK
  rw [if_neg (by rw [e1]; exact Bool.false_ne_true)]
  unfold keyed
  rw [List.map_append, List.zip_append (by rw [List.length_map, hl])]
  rfl
section
variable {g : Gk} {c : Cg} {ds : List (Option D)} {ms : List MO} {P : D → List MO → Prop} {N : List (Option D) → List MO → Prop} {R : D → List MO → Prop}
theorem own_d {gs : List (V × D)} {as : List Addr} {H : Hp} {σ : L2.St} {i k : Nat} {kvs : List (Int × PyData)} (L : Lo g c gs as H σ ds ms) (h1 : ds[i]? = some (some (.m k))) (h2 : ms[k]? = some (.d kvs)) :
    ∃ a ws, σ[i]? = some (some (.ref a)) ∧ as[k]? = some a ∧ ws.length = kvs.length ∧ H a = some (.dK (keyed kvs ws)) ∧ Pds g.K H (kvs.map (·.2)) ws := by
  obtain ⟨v, e1, a, ha, ev⟩ := L.sl i _ h1
  subst ev
  obtain ⟨ws, hl, hx, hs⟩ := L.own k a _ ha h2
  exact ⟨a, ws, e1, ha, hl, hx, hs⟩
theorem sl_int {gs : List (V × D)} {as : List Addr} {H : Hp} {σ : L2.St} {i : Nat} {n : Int} (L : Lo g c gs as H σ ds ms) (h : ds[i]? = some (some (.p (.int n)))) : σ[i]? = some (some (.int n)) := by
  obtain ⟨v, e1, e2⟩ := L.sl i _ h
  cases e2
  exact e1
/-- d[k] -/
theorem we_dgetM {i j : Nat} (h : ∃ k n kvs x, ds[i]? = some (some (.m k)) ∧ ds[j]? = some (some (.p (.int n))) ∧ ms[k]? = some (.d kvs) ∧ lookD kvs n = some x ∧ P (.p x) ms) : We g c (tDGet (tVar i) (tVar j)) ds ms P := fun gs as H σ L Q q => by
  obtain ⟨k, n, kvs, x, h1, h2, h3, h4, h5⟩ := h
  obtain ⟨a, ws, e1, ha, hl, hx, hs⟩ := own_d L h1 h3
  obtain ⟨v, ev, hv⟩ := (keyed_val n hl hs).1 x h4
  refine ⟨_, e1, _, sl_int L h2, a, v, rfl, ?_, q v H _ ms (L.pushP hv) h5⟩
  rw [← ev]
  exact DGet.k (k := Sum.inl n) hx
/-- d.get(k), the key there -/
theorem we_dget1M {i j : Nat} (h : ∃ k n kvs x, ds[i]? = some (some (.m k)) ∧ ds[j]? = some (some (.p (.int n))) ∧ ms[k]? = some (.d kvs) ∧ lookD kvs n = some x ∧ P (.p x) ms) : We g c (tDGet1 (tVar i) (tVar j)) ds ms P := fun gs as H σ L Q q => by
  obtain ⟨k, n, kvs, x, h1, h2, h3, h4, h5⟩ := h
  obtain ⟨a, ws, e1, ha, hl, hx, hs⟩ := own_d L h1 h3
  obtain ⟨v, ev, hv⟩ := (keyed_val n hl hs).1 x h4
  refine ⟨_, e1, a, rfl, .inl ⟨_, .inl hx⟩, _, sl_int L h2, some v, ?_, q v H _ ms (L.pushP hv) h5⟩
  rw [← ev]
  exact DGet.k (k := Sum.inl n) hx
/-- k not in d -/
theorem we_dninM {i j : Nat} (h : ∃ k n kvs, ds[i]? = some (some (.m k)) ∧ ds[j]? = some (some (.p (.int n))) ∧ ms[k]? = some (.d kvs) ∧ P (.p (.bool (lookD kvs n).isNone)) ms) : We g c (tDNotIn (tVar j) (tVar i)) ds ms P := fun gs as H σ L Q q => by
  obtain ⟨k, n, kvs, h1, h2, h3, h5⟩ := h
  obtain ⟨a, ws, e1, ha, hl, hx, hs⟩ := own_d L h1 h3
  refine ⟨_, sl_int L h2, _, e1, a, valV (keyed kvs ws) (Sum.inl n), rfl, DGet.k (k := Sum.inl n) hx, ?_⟩
  have e : (!(valV (keyed kvs ws) (Sum.inl n)).isSome) = (lookD kvs n).isNone := by
    cases z : lookD kvs n with
    | none =>
      rw [(keyed_val n hl hs).2 z]
      rfl
    | some x =>
      obtain ⟨v, ev, _⟩ := (keyed_val n hl hs).1 x z
      rw [ev]
      rfl
  rw [e]
  exact q _ H _ ms (L.pushP (.bl _)) h5
/-- d[k] = e, a new key -/
theorem ws_dputM {i j : Nat} {tv : TE} (h : We g c tv ds ms fun d ms1 => ∃ x k n kvs, d = .p x ∧ ds[i]? = some (some (.m k)) ∧ ds[j]? = some (some (.p (.int n))) ∧ ms1[k]? = some (.d kvs) ∧ kvs.length ≤ 1000 ∧ lookD kvs n = none ∧ N ds (ms1.set k (.d (kvs ++ [(n, x)])))) :
    Ws g c (sDPut (tVar i) (tVar j) tv) ds ms N R := fun gs as H σ E L nn q r =>
  h gs as H σ L _ fun v H1 d ms1 L1 ⟨x, k, n, kvs, ed, h1, h2, h3, h4, h5, h6⟩ => by
    subst ed
    obtain ⟨a, ws, e1, ha, hl, hx, hs⟩ := own_d L1 h1 h3
    refine ⟨_, e1, _, sl_int L1 h2, a, _, rfl, DPut.k (k := Sum.inl n) hx ?_, ?_⟩
    · refine small1000 ?_
      rw [List.length_zip, List.length_map]
      omega
    · rw [keyed_put (x := x) hl ((keyed_val n hl hs).2 h5)]
      refine q σ _ as ds _ (L1.pop.write ha (o := .dK (keyed (kvs ++ [(n, x)]) (ws ++ [v]))) (m := .d (kvs ++ [(n, x)])) ⟨ws ++ [v], ?_, upd_same, ?_⟩) h6
      · rw [List.length_append, List.length_append, hl]
        rfl
      · have y : Stay (fun b => b = a) H1 (upd H1 a (.dK (keyed (kvs ++ [(n, x)]) (ws ++ [v])))) := fun b w e nn => by
          by_cases hb : b = a
          · subst hb
            rw [hx] at e
            cases e
            exact absurd rfl (nn rfl)
          · rw [upd_ne hb]
            exact e
        rw [List.map_append]
        exact (Pds.mono y _ _ hs).append (.one (Pd.mono y _ _ L1.top))
/-- {k: e} -/
theorem ws_asgDisp {i j : Nat} {tv : TE} (h : ∃ n, ds[j]? = some (some (.p (.int n))) ∧ We g c tv ds (ms ++ [.d []]) fun d ms1 => ∃ x, d = .p x ∧ ms1 = ms ++ [.d []] ∧ i < ds.length ∧ N (ds.set i (some (.m ms.length))) (ms ++ [.d [(n, x)]])) :
    Ws g c (tAsg (tDisp [(tVar j, tv)]) (gName i)) ds ms N R := fun gs as H σ E L nn q r => by
  obtain ⟨n, h1, h⟩ := h
  intro p np
  have L0 := L.own1 np (o := .dK []) (m := .d []) ⟨[], rfl, upd_same, .nil⟩
  refine ⟨_, sl_int L h1, h _ _ _ σ L0 _ fun v H1 d ms1 L1 ⟨x, ed, em, hi, k⟩ => ?_⟩
  subst ed em
  have hp : (as ++ [p])[ms.length]? = some p := by rw [← L.ln, List.getElem?_append_right (Nat.le_refl _), Nat.sub_self]; rfl
  obtain ⟨ws, hl, hx, _⟩ := L1.own ms.length p _ hp (by rw [List.getElem?_append_right (Nat.le_refl _), Nat.sub_self]; rfl)
  have ew : ws = [] := List.eq_nil_of_length_eq_zero hl
  subst ew
  refine ⟨hx, [(Sum.inl n, v)], rfl, Nat.le_of_ble_eq_true rfl, ?_⟩
  have y : Stay (fun b => b = p) H1 (upd H1 p (.dK [(Sum.inl n, v)])) := fun b w e nn => by
    by_cases hb : b = p
    · subst hb
      rw [show H1 b = some (.dK []) from hx] at e
      cases e
      exact absurd rfl (nn rfl)
    · rw [upd_ne hb]
      exact e
  have W := L1.pop.write hp (o := .dK [(Sum.inl n, v)]) (m := .d [(n, x)]) ⟨[v], rfl, upd_same, .one (Pd.mono y _ _ L1.top)⟩
  have e : (ms ++ [MO.d []]).set ms.length (.d [(n, x)]) = ms ++ [.d [(n, x)]] := by
    rw [List.set_append_right _ _ (Nat.le_refl _), Nat.sub_self]
    rfl
  rw [e] at W
  exact q _ _ _ _ _ (W.set hi) k
end
end K19
/-! walks of logs; the search for a way back -/
namespace K19
open PySem PySem.Spec PyProof.Rows L2
/-- a log that leads from a table to another one -/
inductive Wk (lk : Int → Option Rd) : Lg → Int → Int → Prop
  | nil (a : Int) : Wk lk .nil a a
  | num {k : Int} {r : Lg} {q : Rd} {b : Int} : 0 ≤ k → lk k = some q → Wk lk r q.y b → Wk lk (.num k r) q.x b
  | rnd {m : Int} {i r : Lg} {a c b : Int} : 1 ≤ m → i ≠ .nil → Wk lk i a c → (1 < m → c = a) → Wk lk r c b → Wk lk (.rnd m i r) a b
theorem Wk.app {lk : Int → Option Rd} {l r : Lg} {a b c : Int} (h : Wk lk l a b) (h2 : Wk lk r b c) : Wk lk (l.app r) a c := by
  induction h with
  | nil a => exact h2
  | num k0 hk _ ih => exact .num k0 hk (ih h2)
  | rnd m1 ne w1 cl _ ih1 ih2 => exact .rnd m1 ne w1 cl (ih2 h2)
theorem Wk.one {lk : Int → Option Rd} {k : Int} {q : Rd} (h0 : 0 ≤ k) (h : lk k = some q) : Wk lk (.num k .nil) q.x q.y := .num h0 h (.nil _)
def Lg.ofL : List Int → Lg
  | [] => .nil
  | n :: ns => .num n (Lg.ofL ns)
theorem Lg.ofL_ds : ∀ ns : List Int, (Lg.ofL ns).ds = ns.map .int
  | [] => rfl
  | n :: ns => by rw [Lg.ofL, Lg.ds, Lg.ofL_ds ns]; rfl
theorem Lg.ofL_app : ∀ (ns : List Int) (n : Int), Lg.ofL (ns ++ [n]) = (Lg.ofL ns).app (.num n .nil)
  | [], n => rfl
  | m :: ns, n => by rw [List.cons_append, Lg.ofL, Lg.ofL_app ns n]; rfl
/-! ### the search -/
abbrev keysOf (kv : List (Int × List Int)) : List Int := kv.map (·.1)
abbrev dictOf (kv : List (Int × List Int)) : List (Int × PyData) := kv.map fun q => (q.1, intsD q.2)
theorem look_some {kv : List (Int × List Int)} {n : Int} {x : PyData} (h : lookD (dictOf kv) n = some x) : ∃ p, (n, p) ∈ kv ∧ x = intsD p := by
  induction kv with
  | nil => cases h
  | cons q kv ih =>
    unfold lookD at h
    by_cases e : q.1 = n
    · rw [show dictOf (q :: kv) = (q.1, intsD q.2) :: dictOf kv from rfl, List.find?_cons_of_pos (by rw [decide_eq_true e])] at h
      cases h
      subst e
      exact ⟨q.2, List.mem_cons_self, rfl⟩
    · rw [show dictOf (q :: kv) = (q.1, intsD q.2) :: dictOf kv from rfl, List.find?_cons_of_neg (by rw [decide_eq_false e]; exact Bool.false_ne_true)] at h
      obtain ⟨p, h1, h2⟩ := ih h
      exact ⟨p, List.mem_cons_of_mem _ h1, h2⟩
theorem look_key {kv : List (Int × List Int)} {n : Int} (h : n ∈ keysOf kv) : ∃ p, lookD (dictOf kv) n = some (intsD p) ∧ (n, p) ∈ kv := by
  cases e : lookD (dictOf kv) n with
  | some x =>
    obtain ⟨p, h1, h2⟩ := look_some e
    exact ⟨p, by rw [h2], h1⟩
  | none =>
    exfalso
    unfold lookD at e
    rw [Option.map_eq_none_iff, List.find?_eq_none] at e
    obtain ⟨q, hq, rfl⟩ := List.mem_map.mp h
    exact e (q.1, intsD q.2) (List.mem_map.mpr ⟨q, hq, rfl⟩) (decide_eq_true rfl)
theorem look_none {kv : List (Int × List Int)} {n : Int} (h : lookD (dictOf kv) n = none) : n ∉ keysOf kv := fun z => by
  obtain ⟨p, e, _⟩ := look_key z
  rw [h] at e
  cases e
/-- what is known -/
structure Bk (T : Int) (rs : List Rd) (b : Int) (kv : List (Int × List Int)) : Prop where
  nd : (keysOf kv).Nodup
  rng : ∀ q ∈ kv, 0 ≤ q.1 ∧ q.1 < T
  wk : ∀ q ∈ kv, Wk (look rs) (Lg.ofL q.2) b q.1 ∧ q.2.length < kv.length
theorem Bk.start {T : Int} {rs : List Rd} {b : Int} (h0 : 0 ≤ b) (h1 : b < T) : Bk T rs b [(b, [])] := ⟨List.nodup_cons.mpr ⟨List.not_mem_nil, List.nodup_nil⟩, fun q hq => by
  rw [List.mem_singleton.mp hq]
  exact ⟨h0, h1⟩, fun q hq => by
  rw [List.mem_singleton.mp hq]
  exact ⟨.nil b, Nat.zero_lt_one⟩⟩
theorem Bk.put {T : Int} {rs : List Rd} {b : Int} {kv : List (Int × List Int)} (B : Bk T rs b kv) {p : List Int} {n : Int} {r : Rd} (h0 : 0 ≤ n) (hr : look rs n = some r) (hp : (r.x, p) ∈ kv) (hy : 0 ≤ r.y ∧ r.y < T) (nk : r.y ∉ keysOf kv) : Bk T rs b (kv ++ [(r.y, p ++ [n])]) := by
  refine ⟨?_, fun q hq => ?_, fun q hq => ?_⟩
  · unfold keysOf
    rw [List.map_append, List.nodup_append]
    refine ⟨B.nd, List.nodup_cons.mpr ⟨List.not_mem_nil, List.nodup_nil⟩, fun x hx y hy e => nk ?_⟩
    rw [List.mem_singleton.mp (show y ∈ [r.y] from hy)] at e
    rw [← e]
    exact hx
  · rcases List.mem_append.mp hq with z | z
    · exact B.rng q z
    · rw [List.mem_singleton.mp z]
      exact hy
  · rw [List.length_append, List.length_singleton]
    rcases List.mem_append.mp hq with z | z
    · exact ⟨(B.wk q z).1, Nat.lt_succ_of_lt (B.wk q z).2⟩
    · rw [List.mem_singleton.mp z]
      obtain ⟨w, l⟩ := B.wk _ hp
      refine ⟨?_, ?_⟩
      · rw [Lg.ofL_app]
        exact w.app (.one h0 hr)
      · rw [List.length_append, List.length_singleton]
        exact Nat.succ_lt_succ l
theorem Bk.few {T : Int} {rs : List Rd} {b : Int} {kv : List (Int × List Int)} (B : Bk T rs b kv) (h : T ≤ 8) : kv.length ≤ 8 := by
  have h1 : (keysOf kv).length ≤ (upTo 8).length := List.Nodup.length_le_of_subset B.nd fun x hx => by
    obtain ⟨q, hq, rfl⟩ := List.mem_map.mp hx
    have := B.rng q hq
    exact List.mem_map.mpr ⟨q.1.toNat, List.mem_range.mpr (by omega), by omega⟩
  unfold keysOf at h1
  rw [List.length_map] at h1
  exact h1
/-- all that a table reads is known -/
def Closed (rs : List Rd) (ks : List Int) (k : Int) : Prop := ∀ r ∈ rs, r.x = k → r.y ∈ ks
theorem Closed.mono {rs : List Rd} {ks ks' : List Int} {k : Int} (h : Closed rs ks k) (s : ∀ x ∈ ks, x ∈ ks') : Closed rs ks' k := fun r hr e => s _ (h r hr e)
/-- within a turn: what was known at its begin, what is left of the layer, what comes next -/
structure Turn (rs : List Rd) (ks0 ks left later : List Int) : Prop where
  sub : ∀ k ∈ ks0, k ∈ ks
  new : ∀ k ∈ ks, k ∈ ks0 ∨ k ∈ later
  old : ∀ k ∈ ks0, k ∈ left ∨ Closed rs ks k
/-- ahead of a turn -/
def Ring (T : Int) (b : Int) (t : Nat) (ks : List Int) : Prop := ∀ j : Nat, j ≤ t → (b + j) % T ∈ ks
theorem Ring.next {T b : Int} {rs : List Rd} {t : Nat} {ks0 ks later : List Int} (td : Tied T rs) (hT : 0 < T) (h : Ring T b t ks0) (u : Turn rs ks0 ks [] later) : Ring T b (t + 1) ks := fun j hj => by
  by_cases e : j ≤ t
  · exact u.sub _ (h j e)
  · have e : j = t + 1 := by omega
    subst e
    have m0 := Int.emod_nonneg (b + (t : Int)) (show T ≠ 0 by omega)
    have m1 := Int.emod_lt_of_pos (b + (t : Int)) hT
    obtain ⟨r, h1, h2, h3⟩ := td _ m0 m1
    rcases u.old _ (h t (Nat.le_refl t)) with z | z
    · exact absurd z List.not_mem_nil
    · have := z r h1 h2
      rw [h3, Int.emod_add_emod] at this
      rw [show b + ((t + 1 : Nat) : Int) = b + (t : Int) + 1 by omega]
      exact this
theorem Ring.all {T b e : Int} {ks : List Int} (hT : 0 < T) (h : Ring T b T.toNat ks) (h0 : 0 ≤ e) (h1 : e < T) : e ∈ ks := by
  have m0 := Int.emod_nonneg (e - b) (show T ≠ 0 by omega)
  have m1 := Int.emod_lt_of_pos (e - b) hT
  have := h ((e - b) % T).toNat (by omega)
  rw [show ((((e - b) % T).toNat : Nat) : Int) = (e - b) % T by omega, Int.add_emod_emod, show b + (e - b) = e by omega, Int.emod_eq_of_lt h0 h1] at this
  exact this
end K19
namespace K19
open PySem PySem.Spec PyProof.Rows L2
local macro_rules | `(tactic| walk_at "st") => `(tactic| first
  | with_reducible refine ws_seq ?_ | with_reducible refine ws_ret ?_ | with_reducible refine ws_if ?_ | with_reducible refine ws_next ?_
  | with_reducible refine we_int ?_ | with_reducible refine we_bl ?_ | with_reducible refine we_non ?_ | with_reducible refine we_str ?_
  | ((with_reducible refine' we_var ?we ?_); (case we => exact rfl)) | with_reducible refine we_op ?_ | with_reducible refine we_un ?_ | with_reducible refine we_isp ?_ | with_reducible refine we_callE ?_ | with_reducible refine we_callF ?_ | with_reducible refine we_cb ?_ | with_reducible refine wa_cons ?_ | with_reducible refine wa_nil ?_
  | with_reducible refine we_tup ?_ | with_reducible refine we_slT ?_ | with_reducible refine wo_none ?_ | with_reducible refine wo_some ?_
  | with_reducible refine we_andV ?_ | with_reducible refine we_orV ?_ | with_reducible refine we_notV ?_ | with_reducible refine we_chain ?_ | with_reducible refine we_ifE ?_
  | with_reducible refine wt_test ?_ | with_reducible refine wt_B ?_ | with_reducible refine wt_and ?_ | with_reducible refine wt_or ?_ | with_reducible refine wt_not ?_
  | with_reducible refine wr_add ?_ | with_reducible refine wr_sub ?_ | with_reducible refine wr_lt ?_ | with_reducible refine wr_le ?_ | with_reducible refine wr_gt ?_ | with_reducible refine wr_ge ?_ | with_reducible refine wr_eqI ?_ | with_reducible refine wr_neI ?_
  | with_reducible refine wr_rd0 ?_ | with_reducible refine wr_rd1 ?_ | with_reducible refine wr_rd2 ?_ | ((with_reducible refine' wr_ixT ?we ?_); (case we => exact ⟨by decide, rfl⟩))
  | with_reducible refine wr_isN ?_ | with_reducible refine wr_notN ?_ | with_reducible refine wr_isB ?_ | with_reducible refine wr_notB ?_ | with_reducible refine wu_neg ?_
  | with_reducible refine we_sides ?_ | with_reducible refine we_tables ?_ | with_reducible refine we_readings ?_ | with_reducible refine we_begin ?_ | with_reducible refine we_end ?_ | with_reducible refine we_length ?_ | with_reducible refine we_added ?_ | with_reducible refine we_least ?_ | with_reducible refine we_most ?_ | with_reducible refine we_stands ?_
  | with_reducible refine wi_tup ?_ | with_reducible refine wi_rng1 ?_ | with_reducible refine ws_drop ?_
  | with_reducible refine ex_b ?_ | ((with_reducible refine' ex_isi ?wp ?_); (case wp => first | assumption | rfl)) | with_reducible refine ex_prg ?_ | with_reducible refine ex_sm ?_ | with_reducible refine ret_p ?_ | with_reducible refine ret_nl ?_ | with_reducible refine ret_prg ?_ | with_reducible refine ret_sm ?_ | with_reducible refine iteT ?_ | with_reducible refine iteF ?_
  | (with_reducible refine wc_allT ?_) | (with_reducible refine wc_sumT ?_) | (with_reducible refine wc_tup rfl ?_) | (with_reducible refine wc_lenT ?_)
  | (refine ⟨rfl, (_, _, _, _), rfl, (by first | trivial | assumption | decide | omega), rfl, ?_⟩; try dsimp only) | (refine ⟨rfl, (_, _, _), rfl, (by first | trivial | assumption | decide | omega), rfl, ?_⟩; try dsimp only) | (refine ⟨rfl, (_, _), rfl, (by first | trivial | assumption | decide | omega), rfl, ?_⟩; try dsimp only) | (refine ⟨rfl, _, rfl, (by first | trivial | assumption | decide | omega), rfl, ?_⟩; try dsimp only)
  | ((with_reducible refine' iteT' ?wp ?_); (case wp => rfl)) | ((with_reducible refine' iteF' ?wp ?_); (case wp => rfl))
  | (with_reducible refine ws_asg ?_) | ((with_reducible refine wg_name ⟨?wl, ?_⟩); (case wl => exact (Nat.le_of_ble_eq_true rfl))))
local macro_rules | `(tactic| walk_at "st") => `(tactic| first
  | with_reducible refine wc_tupI rfl ?_ | with_reducible refine wc_min ?_ | with_reducible refine wc_max ?_ | with_reducible refine wr_neO ?_ | with_reducible refine wr_eqO ?_
  | with_reducible refine we_mkS ?_ | with_reducible refine ex_mkS ?_ | with_reducible refine we_lcZ ?_ | with_reducible refine we_lcZM ?_ | with_reducible refine we_lcZ3 ?_ | with_reducible refine we_revP ?_ | with_reducible refine we_idx ?_)
local macro_rules | `(tactic| walk_at "st") => `(tactic| first
  | with_reducible refine ws_append ?_ | with_reducible refine we_lcR ?_ | with_reducible refine wc_sortTI ?_ | with_reducible refine we_listRg ?_ | ((with_reducible refine' ws_asgN (wn_nil ⟨?wl, ?_⟩)); (case wl => exact (Nat.le_of_ble_eq_true rfl))))
section
variable {Pg : Program} {w : World} {g : Gk} {mg : Str → Option Value} {base : Heap}
/-! ### the way back -/
theorem mem_fromL {rs : List Rd} {i n : Int} (h : n ∈ fromL rs i rs.length) : 0 ≤ n ∧ ∃ r, look rs n = some r ∧ r.x = i := by
  unfold fromL at h
  obtain ⟨k, hk, rfl⟩ := List.mem_map.mp h
  obtain ⟨h1, h2⟩ := List.mem_filter.mp hk
  have h1 := List.mem_range.mp h1
  have e : (rs.getD k ⟨0, 0, []⟩) = rs[k] := by rw [List.getD_eq_getElem?_getD, List.getElem?_eq_getElem h1]; rfl
  refine ⟨by omega, rs[k], List.getElem?_eq_getElem h1, ?_⟩
  rw [← e]
  exact of_decide_eq_true h2
theorem fromL_of {rs : List Rd} {r : Rd} (h : r ∈ rs) : ∃ n, n ∈ fromL rs r.x rs.length ∧ look rs n = some r := by
  obtain ⟨k, hk, e⟩ := List.getElem_of_mem h
  refine ⟨(k : Int), ?_, by rw [look, Int.toNat_natCast, List.getElem?_eq_getElem hk, e]⟩
  unfold fromL
  refine List.mem_map.mpr ⟨k, List.mem_filter.mpr ⟨List.mem_range.mpr hk, decide_eq_true ?_⟩, rfl⟩
  rw [List.getD_eq_getElem?_getD, List.getElem?_eq_getElem hk, e]
  rfl
theorem fromL_len (rs : List Rd) (i : Int) : (fromL rs i rs.length).length ≤ rs.length := by
  unfold fromL
  rw [List.length_map]
  exact Nat.le_trans (List.length_filter_le _ _) (by rw [List.length_range]; exact Nat.le_refl _)
structure Bs (T : Int) (rs : List Rd) (b : Int) (ks0 left later : List Int) (kv : List (Int × List Int)) : Prop where
  bk : Bk T rs b kv
  tn : Turn rs ks0 (keysOf kv) left later
  inn : ∀ k ∈ later, k ∈ keysOf kv
  len : later.length ≤ kv.length
theorem Bs.put {T : Int} {rs : List Rd} {b : Int} {ks0 left later : List Int} {kv : List (Int × List Int)} (B : Bs T rs b ks0 left later kv) {p : List Int} {n : Int} {r : Rd} (h0 : 0 ≤ n) (hr : look rs n = some r) (hp : (r.x, p) ∈ kv) (hy : 0 ≤ r.y ∧ r.y < T) (nk : r.y ∉ keysOf kv) : Bs T rs b ks0 left (later ++ [r.y]) (kv ++ [(r.y, p ++ [n])]) := by
  have ek : keysOf (kv ++ [(r.y, p ++ [n])]) = keysOf kv ++ [r.y] := by unfold keysOf; rw [List.map_append]; rfl
  refine ⟨B.bk.put h0 hr hp hy nk, ⟨fun k hk => ?_, fun k hk => ?_, fun k hk => ?_⟩, fun k hk => ?_, ?_⟩
  · rw [ek]
    exact List.mem_append_left _ (B.tn.sub k hk)
  · rw [ek] at hk
    rcases List.mem_append.mp hk with z | z
    · rcases B.tn.new k z with u | u
      · exact .inl u
      · exact .inr (List.mem_append_left _ u)
    · exact .inr (List.mem_append_right _ z)
  · rcases B.tn.old k hk with z | z
    · exact .inl z
    · exact .inr (z.mono fun x hx => by rw [ek]; exact List.mem_append_left _ hx)
  · rw [ek]
    rcases List.mem_append.mp hk with z | z
    · exact List.mem_append_left _ (B.inn k z)
    · exact List.mem_append_right _ z
  · rw [List.length_append, List.length_append]
    have := B.len
    simp only [List.length_singleton]
    omega
theorem Bs.done {T : Int} {rs : List Rd} {b h : Int} {ks0 left later : List Int} {kv : List (Int × List Int)} (B : Bs T rs b ks0 (h :: left) later kv) (c : Closed rs (keysOf kv) h) : Bs T rs b ks0 left later kv := by
  refine ⟨B.bk, ⟨B.tn.sub, B.tn.new, fun k hk => ?_⟩, B.inn, B.len⟩
  rcases B.tn.old k hk with z | z
  · rcases List.mem_cons.mp z with e | e
    · rw [e]
      exact .inr c
    · exact .inl e
  · exact .inr z
abbrev sp_law_back : DSp := spF (fun a : Pt × Int × Int => [.p a.1.pd, .p (.int a.2.1), .p (.int a.2.2)]) (fun a => PrgOk a.1.1 a.1.2.1 a.1.2.2 ∧ Tied a.1.2.1 a.1.2.2 ∧ (0 ≤ a.2.1 ∧ a.2.1 < a.1.2.1) ∧ 0 ≤ a.2.2 ∧ a.2.2 < a.1.2.1)
  (fun a d => ∃ p : List Int, d = .p (intsD p) ∧ p.length ≤ 8 ∧ Wk (look a.1.2.2) (Lg.ofL p) a.2.1 a.2.2)
theorem ok_law_back {f : Addr} {fd : FuncData} (T : Tx g mg) (F : FT g "_law_back" "_law_back" s_law_back f fd) (C_law_from : Kn Pg w g mg base "_law_from" 1 ["_law_parts", "_law_table"] sp_law_from) : FnOk Pg w g.K mg base CX0 2 f fd ["_law_parts", "_law_begin", "_law_end"] (spD g sp_law_back) := by
  refine dok F sc_law_back (fun es Q ⟨a, e, _⟩ => by rw [e]; rfl) fun cdv A outer s H E hr => ⟨_, (pss_cons (ps_set (i := 3) sc_law_back.nd rfl (.inl rfl) (pe_disp (pps_cons (pv 1) (pe_tup pa_nil) pps_nil) rfl rfl (fun z => nomatch z) (Nat.le_of_ble_eq_true rfl)))
    (pss_cons (ps_set (i := 4) sc_law_back.nd rfl (.inl rfl) (pe_lst (pa_cons (pv 1) pa_nil)))
    (pss_cons (ps_for PassesOwn.never rfl (pi_range1 (by rfl) T.f_range (pa_cons (pe_ix ix_tup (pv 0) pe_int (fun _ _ => rfl)) pa_nil)) (pg_name (i := 5) sc_law_back.nd rfl (.inl rfl))
    (pss_cons (ps_set (i := 6) sc_law_back.nd rfl (.inl rfl) (pe_lst pa_nil))
    (pss_cons (ps_for PassesOwn.never rfl (pi_list (pv 4)) (pg_name (i := 7) sc_law_back.nd rfl (.inl rfl))
    (pss_one (ps_for PassesOwn.never rfl (pi_list (pe_kn rfl C_law_from (hr.mono (by omega)) (by rfl) (pa_cons (pv 0) (pa_cons (pv 7) pa_nil)))) (pg_name (i := 8) sc_law_back.nd rfl (.inl rfl))
    (pss_cons (ps_set (i := 9) sc_law_back.nd rfl (.inl rfl) (pe_ix ix_tup (pe_ix ix_tup (pe_ix ix_tup (pv 0) pe_int (fun _ _ => rfl)) (pv 8) (fun _ _ => rfl)) pe_int (fun _ _ => rfl)))
    (pss_one (ps_if (pt_cmp (pc_dnotin (hu_of hr) (pv 9) (pv 3)))
    (pss_cons (ps_dput (hu_of hr) (pv 3) (pv 9) (pe_op op_catA (pe_dget (hu_of hr) (pv 3) (pv 7) (fun _ _ => rfl)) (pe_tup (pa_cons (pv 8) pa_nil))) rfl)
    (pss_one (ps_expr (pe_bm PySem.F.plainAttrs_list PySem.F.slot_list_append PySem.F.type_list_append mt_append (pv 6) (pa_cons (pv 9) pa_nil)))))
    pss_nil))))))
    (pss_one (ps_set (i := 4) sc_law_back.nd rfl (.inl rfl) (pv 6))))))
    (pss_one (ps_ret (pe_dget1 (hu_of hr) (pv 3) (pv 2) ⟨rfl, rfl, rfl, rfl⟩)))))), fun c es Q ⟨⟨⟨ps, pt, pr⟩, b, e⟩, ee, hd, q⟩ => ?_⟩
  subst ee
  try dsimp only [cxOf, Cx.nox, Cx.wish]
  refine ws_ds (ds' := [some (.p (Pt.pd (ps, pt, pr))), some (.p (.int b)), some (.p (.int e)), none, none, none, none, none, none, none]) rfl ?_
  dsimp only at hd q
  obtain ⟨⟨s0, s4, t0, t8, len, ok, asc⟩, td, ⟨b0, b1⟩, e0, e1⟩ := hd
  refine ws_seq (ws_asgDisp ⟨b, rfl, ?_⟩)
  refine we_tup ?_
  repeat walk_at "st"
  refine ⟨[], rfl, Nat.zero_le _, _, rfl, rfl, Nat.le_of_ble_eq_true rfl, ?_⟩
  refine ws_dm (ds' := [some (.p (Pt.pd (ps, pt, pr))), some (.p (.int b)), some (.p (.int e)), some (.m 0), none, none, none, none, none, none]) (ms' := [.d (dictOf [(b, [])])]) rfl rfl ?_
  refine ws_seq (ws_asg (we_lst ?_))
  repeat walk_at "st"
  refine ⟨[.int b], rfl, Nat.le_of_ble_eq_true rfl, wg_name ⟨Nat.le_of_ble_eq_true rfl, ?_⟩⟩
  refine ws_dm (ds' := [some (.p (Pt.pd (ps, pt, pr))), some (.p (.int b)), some (.p (.int e)), some (.m 0), some (.nl (([b] : List Int).map .int)), none, none, none, none, none]) (ms' := [.d (dictOf [(b, [])])]) rfl rfl ?_
  refine ws_seq (ws_for (wi_rng1 ?_))
  repeat walk_at "st"
  refine ⟨pt, rfl, by omega, by omega, fun t ds ms => ∃ (kv : List (Int × List Int)) (layer : List Int), ds = [some (.p (Pt.pd (ps, pt, pr))), some (.p (.int b)), some (.p (.int e)), some (.m 0), some (.nl (layer.map .int)), none, none, none, none, none] ∧ ms = [.d (dictOf kv)] ∧ Bk pt pr b kv ∧ Ring pt b t (keysOf kv) ∧
    (∀ k ∈ keysOf kv, k ∈ layer ∨ Closed pr (keysOf kv) k) ∧ (∀ k ∈ layer, k ∈ keysOf kv) ∧ layer.length ≤ kv.length, ?_, fun t y ds2 ms2 hy ⟨kv, layer, ed, em, B, R, cl, inn, ll⟩ => ?_, fun ds2 ms2 ⟨kv, layer, ed, em, B, R, cl, inn, ll⟩ => ?_⟩
  · refine ⟨[(b, [])], [b], rfl, rfl, .start b0 b1, fun j hj => ?_, fun k hk => .inl hk, fun k hk => hk, Nat.le_refl _⟩
    have e : j = 0 := by omega
    subst e
    rw [show b + ((0 : Nat) : Int) = b by omega, Int.emod_eq_of_lt b0 b1]
    exact List.mem_singleton.mpr rfl
  · subst ed em
    obtain ⟨ht, rfl⟩ := rngD_get hy
    refine wg_name ⟨Nat.le_of_ble_eq_true rfl, ws_freeze ?_⟩
    refine ws_seq (ws_asgN (wn_nil ⟨Nat.le_of_ble_eq_true rfl, ?_⟩))
    refine ws_dm (ds' := [some (.p (Pt.pd (ps, pt, pr))), some (.p (.int b)), some (.p (.int e)), some (.m 0), some (.nl (layer.map .int)), some (.p (.int (0 + (t : Int)))), some (.m 1), none, none, none]) (ms' := [.d (dictOf kv), .l []]) rfl rfl ?_
    refine ws_seq (ws_for (wi_list (we_var rfl ⟨layer.map .int, rfl, fun i ds ms => ∃ (kv2 : List (Int × List Int)) (later : List Int) (a7 a8 a9 : Option D), ds = [some (.p (Pt.pd (ps, pt, pr))), some (.p (.int b)), some (.p (.int e)), some (.m 0), some (.nl (layer.map .int)), some (.p (.int (0 + (t : Int)))), some (.m 1), a7, a8, a9] ∧
      ms = [.d (dictOf kv2), .l (later.map .int)] ∧ Bs pt pr b (keysOf kv) (layer.drop i) later kv2, ⟨kv, [], none, none, none, rfl, rfl, B, ⟨fun k hk => hk, fun k hk => .inl hk, cl⟩, fun k hk => absurd hk List.not_mem_nil, Nat.zero_le _⟩, fun i y ds2 ms2 hy2 ⟨kv2, later, a7, a8, a9, ed, em, S⟩ => ?_, fun ds2 ms2 ⟨kv2, later, a7, a8, a9, ed, em, S⟩ => ?_⟩)))
    · subst ed em
      rw [List.getElem?_map] at hy2
      cases hh : layer[i]? with
      | none =>
        rw [hh] at hy2
        cases hy2
      | some h =>
        rw [hh] at hy2
        cases hy2
        have hin := inn h (List.mem_of_getElem? hh)
        refine wg_name ⟨Nat.le_of_ble_eq_true rfl, ?_⟩
        refine ws_ds (ds' := [some (.p (Pt.pd (ps, pt, pr))), some (.p (.int b)), some (.p (.int e)), some (.m 0), some (.nl (layer.map .int)), some (.p (.int (0 + (t : Int)))), some (.m 1), some (.p (.int h)), a8, a9]) rfl ?_
        refine ws_for (wi_list ?_)
        repeat walk_at "st"
        refine ⟨rfl, ((ps, pt, pr), h), rfl, by show pr.length ≤ 1000; omega, rfl, ?_⟩
        refine ⟨_, rfl, fun j ds ms => ∃ (kv3 : List (Int × List Int)) (later : List Int) (a8 a9 : Option D), ds = [some (.p (Pt.pd (ps, pt, pr))), some (.p (.int b)), some (.p (.int e)), some (.m 0), some (.nl (layer.map .int)), some (.p (.int (0 + (t : Int)))), some (.m 1), some (.p (.int h)), a8, a9] ∧
          ms = [.d (dictOf kv3), .l (later.map .int)] ∧ Bs pt pr b (keysOf kv) (layer.drop i) later kv3 ∧ ∀ n ∈ (fromL pr h pr.length).take j, ∀ r, look pr n = some r → r.y ∈ keysOf kv3, ⟨kv2, later, a8, a9, rfl, rfl, S, fun n hn => by rw [List.take_zero] at hn; exact absurd hn List.not_mem_nil⟩, fun j y ds2 ms2 hy3 ⟨kv3, later, a8, a9, ed, em, S, dn⟩ => ?_, fun ds2 ms2 ⟨kv3, later, a8, a9, ed, em, S, dn⟩ => ?_⟩
        · subst ed em
          rw [List.getElem?_map] at hy3
          cases hn : (fromL pr h pr.length)[j]? with
          | none =>
            rw [hn] at hy3
            cases hy3
          | some n =>
            rw [hn] at hy3
            cases hy3
            obtain ⟨n0, r, hr2, rx⟩ := mem_fromL (List.mem_of_getElem? hn)
            have rok := ok r (List.mem_of_getElem? hr2)
            have tk : ∀ m ∈ (fromL pr h pr.length).take (j + 1), m ∈ (fromL pr h pr.length).take j ∨ m = n := fun m hm => by
              rw [List.take_succ, hn] at hm
              rcases List.mem_append.mp hm with z | z
              · exact .inl z
              · exact .inr (List.mem_singleton.mp z)
            refine wg_name ⟨Nat.le_of_ble_eq_true rfl, ?_⟩
            refine ws_ds (ds' := [some (.p (Pt.pd (ps, pt, pr))), some (.p (.int b)), some (.p (.int e)), some (.m 0), some (.nl (layer.map .int)), some (.p (.int (0 + (t : Int)))), some (.m 1), some (.p (.int h)), some (.p (.int n)), a9]) rfl ?_
            repeat walk_at "st"
            refine wr_ixT (xs := pr.map Rd.pd) (z := r.pd) ⟨n0, rds_at hr2⟩ ?_
            repeat walk_at "st"
            refine we_dninM ⟨0, r.y, _, rfl, rfl, rfl, ?_⟩
            repeat walk_at "st"
            refine ite_b (fun hk => ?_) (fun hk => ?_)
            · refine ws_ds (ds' := [some (.p (Pt.pd (ps, pt, pr))), some (.p (.int b)), some (.p (.int e)), some (.m 0), some (.nl (layer.map .int)), some (.p (.int (0 + (t : Int)))), some (.m 1), some (.p (.int h)), some (.p (.int n)), some (.p (.int r.y))]) rfl ?_
              have hk := Option.isNone_iff_eq_none.mp hk
              obtain ⟨p, lp, mp⟩ := look_key (S.tn.sub h hin)
              have S2 := S.put (p := p) n0 hr2 (by rw [rx]; exact mp) ⟨rok.2.2.1, rok.2.2.2.1⟩ (look_none hk)
              have k8 := S2.bk.few t8
              have l8 : later.length ≤ kv3.length := S.len
              have p8 : p.length < kv3.length := (S.bk.wk _ mp).2
              rw [List.length_append, List.length_singleton] at k8
              refine ws_seq (ws_dputM ?_)
              refine we_op (we_dgetM ⟨0, h, _, _, rfl, rfl, rfl, lp, ?_⟩)
              refine we_tup ?_
              repeat walk_at "st"
              refine ⟨[.int n], rfl, Nat.le_of_ble_eq_true rfl, ?_⟩
              refine wr_catT (xs := p.map .int) (by rw [List.length_map, List.length_singleton]; omega) ?_
              refine ⟨_, 0, r.y, dictOf kv3, rfl, rfl, rfl, rfl, by rw [List.length_map]; omega, hk, ?_⟩
              refine ws_dm (ds' := [some (.p (Pt.pd (ps, pt, pr))), some (.p (.int b)), some (.p (.int e)), some (.m 0), some (.nl (layer.map .int)), some (.p (.int (0 + (t : Int)))), some (.m 1), some (.p (.int h)), some (.p (.int n)), some (.p (.int r.y))])
                (ms' := [.d (dictOf (kv3 ++ [(r.y, p ++ [n])])), .l (later.map .int)]) rfl (by unfold dictOf; rw [List.map_append]; show [MO.d _, _] = _; rw [show ([PyData.int n] : List PyData) = ([n] : List Int).map .int from rfl, ← List.map_append]; rfl) ?_
              refine ws_append ⟨1, _, rfl, rfl, ?_⟩
              repeat walk_at "st"
              refine ⟨_, _, rfl, rfl, by rw [List.length_map]; omega, kv3 ++ [(r.y, p ++ [n])], later ++ [r.y], _, _, rfl, by rw [List.map_append]; rfl, S2, fun m hm r2 hr3 => ?_⟩
              unfold keysOf
              rw [List.map_append]
              rcases tk m hm with z | z
              · exact List.mem_append_left _ (dn m z r2 hr3)
              · subst z
                rw [hr2] at hr3
                cases hr3
                exact List.mem_append_right _ (List.mem_singleton.mpr rfl)
            · refine ws_next ⟨kv3, later, _, _, rfl, rfl, S, fun m hm r2 hr3 => ?_⟩
              rcases tk m hm with z | z
              · exact dn m z r2 hr3
              · subst z
                rw [hr2] at hr3
                cases hr3
                cases hx : lookD (dictOf kv3) r.y with
                | none =>
                  rw [hx] at hk
                  cases hk
                | some x =>
                  obtain ⟨p, hp, _⟩ := look_some hx
                  exact List.mem_map.mpr ⟨_, hp, rfl⟩
        · subst ed em
          rw [List.length_map, List.take_length] at dn
          refine ⟨kv3, later, _, _, _, rfl, rfl, Bs.done (h := h) ?_ fun r hr2 hx => ?_⟩
          · rw [show h :: layer.drop (i + 1) = layer.drop i from ?_]
            · exact S
            · rw [List.drop_eq_getElem_cons (List.getElem?_eq_some_iff.mp hh).1, (List.getElem?_eq_some_iff.mp hh).2]
          · obtain ⟨n, h1, h2⟩ := fromL_of hr2
            rw [hx] at h1
            exact dn n h1 r h2
    · subst ed em
      rw [List.length_map, List.drop_length] at S
      refine ws_asg (we_var rfl (wg_name ⟨Nat.le_of_ble_eq_true rfl, ?_⟩))
      refine ⟨[.d (dictOf kv2)], later.map .int, [some (.p (Pt.pd (ps, pt, pr))), some (.p (.int b)), some (.p (.int e)), some (.m 0), some (.nl (later.map .int)), none, none, none, none, none], rfl, rfl, fun i d hi => ?_, kv2, later, rfl, rfl, S.bk, R.next td (by omega) S.tn, fun k hk => ?_, S.inn, S.len⟩
      · match i, hi with
        | 0, hi => cases hi; exact .inl ⟨rfl, rfl⟩
        | 1, hi => cases hi; exact .inl ⟨rfl, rfl⟩
        | 2, hi => cases hi; exact .inl ⟨rfl, rfl⟩
        | 3, hi => cases hi; exact .inr (.inl ⟨0, Nat.zero_lt_one, rfl, rfl⟩)
        | 4, hi => cases hi; exact .inr (.inr ⟨rfl, rfl⟩)
        | 5, hi => cases hi
        | 6, hi => cases hi
        | 7, hi => cases hi
        | 8, hi => cases hi
        | 9, hi => cases hi
        | n + 10, hi => simp at hi
      · rcases S.tn.new k hk with z | z
        · rcases S.tn.old k z with u | u
          · exact absurd u List.not_mem_nil
          · exact .inr u
        · exact .inl z
  · subst ed em
    rw [rngD_len] at R
    obtain ⟨p, lp, mp⟩ := look_key (R.all (by omega) e0 e1)
    have k8 := B.few t8
    have w := B.wk _ mp
    refine ws_ret (we_dget1M ⟨0, e, _, _, rfl, rfl, rfl, lp, rfl, (q _ ⟨p, rfl, ?_, w.1⟩).2⟩)
    have := w.2
    show p.length ≤ 8
    have : p.length < kv.length := w.2
    omega
end
end K19
namespace K19
open PySem PySem.Spec PyProof.Rows L2
local macro_rules | `(tactic| walk_at "st") => `(tactic| first
  | with_reducible refine ws_seq ?_ | with_reducible refine ws_ret ?_ | with_reducible refine ws_if ?_ | with_reducible refine ws_next ?_
  | with_reducible refine we_int ?_ | with_reducible refine we_bl ?_ | with_reducible refine we_non ?_ | with_reducible refine we_str ?_
  | ((with_reducible refine' we_var ?we ?_); (case we => exact rfl)) | with_reducible refine we_op ?_ | with_reducible refine we_un ?_ | with_reducible refine we_isp ?_ | with_reducible refine we_callE ?_ | with_reducible refine we_callF ?_ | with_reducible refine we_cb ?_ | with_reducible refine wa_cons ?_ | with_reducible refine wa_nil ?_
  | with_reducible refine we_tup ?_ | with_reducible refine we_slT ?_ | with_reducible refine wo_none ?_ | with_reducible refine wo_some ?_
  | with_reducible refine we_andV ?_ | with_reducible refine we_orV ?_ | with_reducible refine we_notV ?_ | with_reducible refine we_chain ?_ | with_reducible refine we_ifE ?_
  | with_reducible refine wt_test ?_ | with_reducible refine wt_B ?_ | with_reducible refine wt_and ?_ | with_reducible refine wt_or ?_ | with_reducible refine wt_not ?_
  | with_reducible refine wr_add ?_ | with_reducible refine wr_sub ?_ | with_reducible refine wr_lt ?_ | with_reducible refine wr_le ?_ | with_reducible refine wr_gt ?_ | with_reducible refine wr_ge ?_ | with_reducible refine wr_eqI ?_ | with_reducible refine wr_neI ?_
  | with_reducible refine wr_rd0 ?_ | with_reducible refine wr_rd1 ?_ | with_reducible refine wr_rd2 ?_ | ((with_reducible refine' wr_ixT ?we ?_); (case we => exact ⟨by decide, rfl⟩))
  | with_reducible refine wr_isN ?_ | with_reducible refine wr_notN ?_ | with_reducible refine wr_isB ?_ | with_reducible refine wr_notB ?_ | with_reducible refine wu_neg ?_
  | with_reducible refine we_sides ?_ | with_reducible refine we_tables ?_ | with_reducible refine we_readings ?_ | with_reducible refine we_begin ?_ | with_reducible refine we_end ?_ | with_reducible refine we_length ?_ | with_reducible refine we_added ?_ | with_reducible refine we_least ?_ | with_reducible refine we_most ?_ | with_reducible refine we_stands ?_
  | with_reducible refine wi_tup ?_ | with_reducible refine wi_rng1 ?_ | with_reducible refine ws_drop ?_
  | with_reducible refine ex_b ?_ | ((with_reducible refine' ex_isi ?wp ?_); (case wp => first | assumption | rfl)) | with_reducible refine ex_prg ?_ | with_reducible refine ex_sm ?_ | with_reducible refine ret_p ?_ | with_reducible refine ret_nl ?_ | with_reducible refine ret_prg ?_ | with_reducible refine ret_sm ?_ | with_reducible refine iteT ?_ | with_reducible refine iteF ?_
  | (with_reducible refine wc_allT ?_) | (with_reducible refine wc_sumT ?_) | (with_reducible refine wc_tup rfl ?_) | (with_reducible refine wc_lenT ?_)
  | (refine ⟨rfl, (_, _, _, _), rfl, (by first | trivial | assumption | decide | omega), rfl, ?_⟩; try dsimp only) | (refine ⟨rfl, (_, _, _), rfl, (by first | trivial | assumption | decide | omega), rfl, ?_⟩; try dsimp only) | (refine ⟨rfl, (_, _), rfl, (by first | trivial | assumption | decide | omega), rfl, ?_⟩; try dsimp only) | (refine ⟨rfl, _, rfl, (by first | trivial | assumption | decide | omega), rfl, ?_⟩; try dsimp only)
  | ((with_reducible refine' iteT' ?wp ?_); (case wp => rfl)) | ((with_reducible refine' iteF' ?wp ?_); (case wp => rfl))
  | (with_reducible refine ws_asg ?_) | ((with_reducible refine wg_name ⟨?wl, ?_⟩); (case wl => exact (Nat.le_of_ble_eq_true rfl))))
local macro_rules | `(tactic| walk_at "st") => `(tactic| first
  | with_reducible refine wc_tupI rfl ?_ | with_reducible refine wc_min ?_ | with_reducible refine wc_max ?_ | with_reducible refine wr_neO ?_ | with_reducible refine wr_eqO ?_
  | with_reducible refine we_mkS ?_ | with_reducible refine ex_mkS ?_ | with_reducible refine we_lcZ ?_ | with_reducible refine we_lcZM ?_ | with_reducible refine we_lcZ3 ?_ | with_reducible refine we_revP ?_ | with_reducible refine we_idx ?_)
local macro_rules | `(tactic| walk_at "st") => `(tactic| first
  | with_reducible refine ws_append ?_ | with_reducible refine we_lcR ?_ | with_reducible refine wc_sortTI ?_ | with_reducible refine we_listRg ?_ | ((with_reducible refine' ws_asgN (wn_nil ⟨?wl, ?_⟩)); (case wl => exact (Nat.le_of_ble_eq_true rfl))))
section
variable {Pg : Program} {w : World} {g : Gk} {mg : Str → Option Value} {base : Heap}
/-! ### drawn logs -/
def Mw : Nat → Int
  | 0 => 1
  | d + 1 => 10 ^ 64 * (3 * Mw d + 8)
theorem Mw_pos : ∀ d, 1 ≤ Mw d
  | 0 => Int.le_refl 1
  | d + 1 => by
    have := Mw_pos d
    have h := Int.mul_le_mul (show (1 : Int) ≤ 10 ^ 64 by decide +kernel) (show (1 : Int) ≤ 3 * Mw d + 8 by omega) (by decide) (by decide +kernel)
    rw [Mw]
    exact h
theorem Wk.wt_pos {lk : Int → Option Rd} {l : Lg} {a b : Int} (h : Wk lk l a b) : 0 ≤ l.wt := by
  induction h with
  | nil a => exact Int.le_refl 0
  | num k0 hk _ ih =>
    rw [Lg.wt]
    omega
  | @rnd m i r a c b m1 ne w1 cl _ ih1 ih2 =>
    rw [Lg.wt]
    have := Int.mul_nonneg (show 0 ≤ m by omega) ih1
    omega
theorem Lg.app_wt : ∀ a b : Lg, (a.app b).wt = a.wt + b.wt
  | .nil, b => by rw [Lg.app, Lg.wt]; omega
  | .num n r, b => by rw [Lg.app, Lg.wt, Lg.wt, Lg.app_wt r b]; omega
  | .rnd m i r, b => by rw [Lg.app, Lg.wt, Lg.wt, Lg.app_wt r b]; omega
theorem Lg.app_dep {d : Nat} : ∀ {a b : Lg}, a.dep ≤ d → b.dep ≤ d → (a.app b).dep ≤ d
  | .nil, b, _, h => h
  | .num n r, b, h1, h2 => Lg.app_dep (a := r) h1 h2
  | .rnd m i r, b, h1, h2 => by
    rw [Lg.dep] at h1
    rw [Lg.app, Lg.dep]
    have := Lg.app_dep (a := r) (b := b) (d := d) (by omega) h2
    omega
theorem Lg.app_few : ∀ {a b : Lg}, a.few → b.few → (a.app b).few
  | .nil, b, _, h => h
  | .num n r, b, h1, h2 => Lg.app_few (a := r) h1 h2
  | .rnd m i r, b, h1, h2 => ⟨h1.1, h1.2.1, Lg.app_few h1.2.2 h2⟩
theorem Lg.app_ne : ∀ {a b : Lg}, a ≠ .nil → a.app b ≠ .nil
  | .nil, b, h, _ => h rfl
  | .num n r, b, _, h => by cases h
  | .rnd m i r, b, _, h => by cases h
theorem Lg.ofL_wt : ∀ ns : List Int, (Lg.ofL ns).wt = ns.length
  | [] => rfl
  | n :: ns => by
    rw [Lg.ofL, Lg.wt, Lg.ofL_wt ns, List.length_cons]
    omega
theorem Lg.ofL_dep : ∀ ns : List Int, (Lg.ofL ns).dep = 0
  | [] => rfl
  | n :: ns => Lg.ofL_dep ns
theorem Lg.ofL_few : ∀ ns : List Int, (Lg.ofL ns).few
  | [] => trivial
  | n :: ns => Lg.ofL_few ns
theorem Lg.ne_of_len {l : Lg} (h : 0 < l.ds.length) : l ≠ .nil := fun e => by
  subst e
  exact absurd h (Nat.lt_irrefl 0)
/-- k items of a drawn log -/
structure Part (d : Nat) (t : Int) (rs : List Rd) (k : Nat) (l : Lg) (a e : Int) : Prop where
  wk : Wk (look rs) l a e
  len : l.ds.length = k
  dep : l.dep ≤ d
  few : l.few
  wt : l.wt ≤ k * Mw d
  rng : 0 ≤ e ∧ e < t
theorem Part.num {d : Nat} {t : Int} {rs : List Rd} {k : Nat} {l : Lg} {a n : Int} {r : Rd} (h : Part d t rs k l a r.x) (n0 : 0 ≤ n) (hr : look rs n = some r) (hy : 0 ≤ r.y ∧ r.y < t) : Part d t rs (k + 1) (l.app (.num n .nil)) a r.y := by
  refine ⟨h.wk.app (.one n0 hr), ?_, Lg.app_dep h.dep (Nat.zero_le _), Lg.app_few h.few trivial, ?_, hy⟩
  · rw [Lg.app_ds, List.length_append, h.len]
    rfl
  · have h1 := h.wt
    have h2 := Mw_pos d
    rw [Lg.app_wt, Lg.wt, Lg.wt, Int.natCast_add, Int.add_mul]
    simp only [Int.natCast_one, Int.one_mul]
    omega
theorem Part.rnd {d : Nat} {t : Int} {rs : List Rd} {k : Nat} {l i : Lg} {a b c m : Int} (h : Part (d + 1) t rs k l a b) (m1 : 1 ≤ m) (m2 : m ≤ 10 ^ 64) (ne : i ≠ .nil) (wi : Wk (look rs) i b c) (cl : 1 < m → c = b) (dp : i.dep ≤ d) (fw : i.few) (len : i.ds.length ≤ 100) (wt : i.wt ≤ 3 * Mw d + 8) (hc : 0 ≤ c ∧ c < t) :
    Part (d + 1) t rs (k + 1) (l.app (.rnd m i .nil)) a c := by
  refine ⟨h.wk.app (.rnd m1 ne wi cl (.nil c)), ?_, Lg.app_dep h.dep ?_, Lg.app_few h.few ⟨len, fw, trivial⟩, ?_, hc⟩
  · rw [Lg.app_ds, List.length_append, h.len]
    rfl
  · rw [Lg.dep, Lg.dep]
    omega
  · have h1 := h.wt
    have h2 := Mw_pos d
    have h3 : m * i.wt ≤ 10 ^ 64 * (3 * Mw d + 8) := Int.mul_le_mul m2 wt wi.wt_pos (by decide +kernel)
    rw [Lg.app_wt, Lg.wt, Lg.wt, Int.natCast_add, Int.add_mul]
    simp only [Int.natCast_one, Int.one_mul]
    rw [show Mw (d + 1) = 10 ^ 64 * (3 * Mw d + 8) from rfl] at h1 ⊢
    omega
structure Drawn (d : Nat) (p : Pt) (l : Lg) (a e : Int) : Prop where
  wk : Wk (look p.2.2) l a e
  ne : l ≠ .nil
  len : l.ds.length ≤ 3
  dep : l.dep ≤ d
  few : l.few
  wt : l.wt ≤ 3 * Mw d
  rng : 0 ≤ e ∧ e < p.2.1
theorem Part.drawn {d : Nat} {p : Pt} {k : Nat} {l : Lg} {a e : Int} (h : Part d p.2.1 p.2.2 k l a e) (k1 : 1 ≤ k) (k3 : k ≤ 3) : Drawn d p l a e := ⟨h.wk, Lg.ne_of_len (by rw [h.len]; omega), by rw [h.len]; exact k3, h.dep, h.few, by
  have h2 := Int.mul_le_mul_of_nonneg_right (show (k : Int) ≤ 3 by omega) (show 0 ≤ Mw d by have := Mw_pos d; omega)
  have := h.wt
  omega, h.rng⟩
abbrev sp_law_drawn_log (d : Nat) : DSp := spF (fun a : Pt × Int => [.pool, .p a.1.pd, .p (.int a.2), .p (.int (d : Int)), .p (.bool true)]) (fun a => PrgOk a.1.1 a.1.2.1 a.1.2.2 ∧ Tied a.1.2.1 a.1.2.2 ∧ 0 ≤ a.2 ∧ a.2 < a.1.2.1)
  (fun a dd => ∃ l e, dd = .p (.tuple [l.pd, .int e]) ∧ Drawn d a.1 l a.2 e)
theorem from_pos {t i : Int} {rs : List Rd} (td : Tied t rs) (h0 : 0 ≤ i) (h1 : i < t) : 0 < (fromL rs i rs.length).length := by
  obtain ⟨r, hr, hx, _⟩ := td i h0 h1
  obtain ⟨n, hn, _⟩ := fromL_of hr
  rw [hx] at hn
  exact List.length_pos_of_mem hn
theorem ok_law_drawn_log {f : Addr} {fd : FuncData} (T : Tx g mg) (F : FT g "_law_drawn_log" "_law_drawn_log" s_law_drawn_log f fd) (up : ∀ k sp, FnOk Pg w g.K mg base CX0 k f fd ["_law_pool_here", "_law_parts", "_law_table", "_law_deep", "_law_great"] (spD g sp) → Kn Pg w g mg base "_law_drawn_log" k ["_law_pool_here", "_law_parts", "_law_table", "_law_deep", "_law_great"] sp)
    (C_law_draw : Kn Pg w g mg base "_law_draw" 1 ["_law_pool_here", "_law_many"] sp_law_draw) (C_law_some : Kn Pg w g mg base "_law_some" 2 ["_law_pool_here", "_law_things"] sp_law_some) (C_law_from : Kn Pg w g mg base "_law_from" 1 ["_law_parts", "_law_table"] sp_law_from) (C_law_back : Kn Pg w g mg base "_law_back" 2 ["_law_parts", "_law_begin", "_law_end"] sp_law_back) :
    ∀ d : Nat, FnOk Pg w g.K mg base CX0 (d + 3) f fd ["_law_pool_here", "_law_parts", "_law_table", "_law_deep", "_law_great"] (spD g (sp_law_drawn_log d)) := by
  intro d
  induction d with
  | zero =>
    refine dok F sc_law_drawn_log (fun es Q ⟨a, e, _⟩ => by rw [e]; rfl) fun cdv A outer s H E hr => ⟨_, (pss_cons (ps_set (i := 5) sc_law_drawn_log.nd rfl (.inl rfl) (pe_lst pa_nil))
    (pss_cons (ps_set (i := 6) sc_law_drawn_log.nd rfl (.inl rfl) (pv 2))
    (pss_cons (ps_for PassesOwn.never rfl (pi_range1 (by rfl) T.f_range (pa_cons (pe_op op_add pe_int (pe_kn rfl C_law_draw (hr.mono (by omega)) (by rfl) (pa_cons (pv 0) (pa_cons pe_int pa_nil)))) pa_nil)) (pg_name (i := 7) sc_law_drawn_log.nd rfl (.inl rfl))
    (pss_one (ps_if (PW.pt (pw_and (pt_cmpR op_gt (pv 3) pe_int (nomark _)) (pw_and1 (pt_cmpR op_eq (pe_kn rfl C_law_draw (hr.mono (by omega)) (by rfl) (pa_cons (pv 0) (pa_cons pe_int pa_nil))) pe_int (nomark _)))))
    (pss_cons ps_never
    (pss_cons (ps_set (i := 10) sc_law_drawn_log.nd rfl (.inl rfl) (pe_kn rfl C_law_some (hr.mono (by omega)) (by rfl) (pa_cons (pv 0) (pa_cons (pe_lst (pa_cons pe_int (pa_cons pe_int (pa_cons pe_int (pa_cons pe_int pa_nil))))) pa_nil))))
    (pss_cons (ps_if (PW.pt (pw_and (pt_val (pv 4)) (pw_and1 (pt_cmpR op_eq (pe_kn rfl C_law_draw (hr.mono (by omega)) (by rfl) (pa_cons (pv 0) (pa_cons pe_int pa_nil))) pe_int (nomark _)))))
    (pss_one (ps_set (i := 10) sc_law_drawn_log.nd rfl (.inl rfl) (pe_kn rfl C_law_some (hr.mono (by omega)) (by rfl) (pa_cons (pv 0) (pa_cons (pe_lst (pa_cons (pe_op op_pow pe_int pe_int) (pa_cons (pe_op op_sub (pe_op op_pow pe_int pe_int) pe_int) (pa_cons pe_int (pa_cons (pe_op op_pow pe_int pe_int) (pa_cons (pe_op op_pow pe_int pe_int) pa_nil)))))) pa_nil)))))
    pss_nil)
    (pss_cons (ps_if (pt_cmpR op_gt (pv 10) pe_int (nomark _))
    (pss_cons (ps_set (i := 8) sc_law_drawn_log.nd rfl (.inl rfl) (pe_op op_catA (pv 8) (pe_kn rfl C_law_back (hr.mono (by omega)) (by rfl) (pa_cons (pv 1) (pa_cons (pv 9) (pa_cons (pv 6) pa_nil))))))
    (pss_one (ps_set (i := 9) sc_law_drawn_log.nd rfl (.inl rfl) (pv 6))))
    pss_nil)
    (pss_cons (ps_expr (pe_bm PySem.F.plainAttrs_list PySem.F.slot_list_append PySem.F.type_list_append mt_append (pv 5) (pa_cons (pe_tup (pa_cons pe_str (pa_cons (pv 10) (pa_cons (pv 8) pa_nil)))) pa_nil)))
    (pss_one (ps_set (i := 6) sc_law_drawn_log.nd rfl (.inl rfl) (pv 9))))))))
    (pss_cons (ps_set (i := 11) sc_law_drawn_log.nd rfl (.inl rfl) (pe_kn rfl C_law_some (hr.mono (by omega)) (by rfl) (pa_cons (pv 0) (pa_cons (pe_kn rfl C_law_from (hr.mono (by omega)) (by rfl) (pa_cons (pv 1) (pa_cons (pv 6) pa_nil))) pa_nil))))
    (pss_cons (ps_expr (pe_bm PySem.F.plainAttrs_list PySem.F.slot_list_append PySem.F.type_list_append mt_append (pv 5) (pa_cons (pv 11) pa_nil)))
    (pss_one (ps_set (i := 6) sc_law_drawn_log.nd rfl (.inl rfl) (pe_ix ix_tup (pe_ix ix_tup (pe_ix ix_tup (pv 1) pe_int (fun _ _ => rfl)) (pv 11) (fun _ _ => rfl)) pe_int (fun _ _ => rfl)))))))))
    (pss_one (ps_ret (pe_tup (pa_cons (pe_callTy call_tuple_of (by rfl) T.f_tuple (by decide +kernel) (pa_cons (pv 5) pa_nil)) (pa_cons (pv 6) pa_nil)))))))), fun c es Q ⟨⟨⟨ps, pt, pr⟩, tb⟩, ee, hd, q⟩ => ?_⟩
    subst ee
    try dsimp only [cxOf, Cx.nox, Cx.wish]
    refine ws_ds (ds' := [some .pool, some (.p (Pt.pd (ps, pt, pr))), some (.p (.int tb)), some (.p (.int ((0 : Nat) : Int))), some (.p (.bool true)), none, none, none, none, none, none, none]) rfl ?_
    dsimp only at hd q
    obtain ⟨⟨s0, s4, t0, t8, len, ok, asc⟩, td, b0, b1⟩ := hd
    refine ws_seq (ws_asgN (wn_nil ⟨Nat.le_of_ble_eq_true rfl, ?_⟩))
    refine ws_seq (ws_asg (we_var rfl (wg_name ⟨Nat.le_of_ble_eq_true rfl, ?_⟩)))
    refine ws_dm (ds' := [some .pool, some (.p (Pt.pd (ps, pt, pr))), some (.p (.int tb)), some (.p (.int ((0 : Nat) : Int))), some (.p (.bool true)), some (.m 0), some (.p (.int tb)), none, none, none, none, none]) (ms' := [.l []]) rfl rfl ?_
    refine ws_seq (ws_for (wi_rng1 ?_))
    repeat walk_at "st"
    refine ⟨rfl, 3, rfl, ⟨by decide, by decide⟩, fun d ⟨n, ed, n0, n1⟩ => ?_⟩
    subst ed
    refine ⟨rfl, ?_⟩
    repeat walk_at "st"
    refine ⟨_, rfl, by omega, by omega, fun k ds ms => ∃ (l : Lg) (e : Int) (a7 a8 a9 a10 a11 : Option D), ds = [some .pool, some (.p (Pt.pd (ps, pt, pr))), some (.p (.int tb)), some (.p (.int ((0 : Nat) : Int))), some (.p (.bool true)), some (.m 0), some (.p (.int e)), a7, a8, a9, a10, a11] ∧ ms = [.l l.ds] ∧ Part (0) pt pr k l tb e, ⟨.nil, tb, _, _, _, _, _, rfl, rfl, ⟨.nil _, rfl, Nat.zero_le _, trivial, by rw [Lg.wt]; omega, b0, b1⟩⟩, fun k y ds2 ms2 hy ⟨l, e, a7, a8, a9, a10, a11, ed, em, pa⟩ => ?_, fun ds2 ms2 ⟨l, e, a7, a8, a9, a10, a11, ed, em, pa⟩ => ?_⟩
    · subst ed em
      obtain ⟨hk, rfl⟩ := rngD_get hy
      have hl := pa.len
      refine wg_name ⟨Nat.le_of_ble_eq_true rfl, ?_⟩
      refine ws_ds (ds' := [some .pool, some (.p (Pt.pd (ps, pt, pr))), some (.p (.int tb)), some (.p (.int ((0 : Nat) : Int))), some (.p (.bool true)), some (.m 0), some (.p (.int e)), some (.p (.int (0 + (k : Int)))), a8, a9, a10, a11]) rfl ?_
      repeat walk_at "st"
      refine ⟨rfl, ((ps, pt, pr), e), rfl, by show pr.length ≤ 1000; omega, rfl, ?_⟩
      dsimp only
      repeat walk_at "st"
      refine ⟨rfl, (fromL pr e pr.length).map .int, rfl, ⟨by rw [List.length_map]; exact from_pos td pa.rng.1 pa.rng.2, by rw [List.length_map]; have := fromL_len pr e; omega⟩, fun d ⟨x, hx, ed⟩ => ?_⟩
      subst ed
      obtain ⟨m, hm, rfl⟩ := List.mem_map.mp hx
      obtain ⟨m0, r, hr2, rx⟩ := mem_fromL hm
      have rok := ok r (List.mem_of_getElem? hr2)
      refine ⟨rfl, wg_name ⟨Nat.le_of_ble_eq_true rfl, ?_⟩⟩
      refine ws_ds (ds' := [some .pool, some (.p (Pt.pd (ps, pt, pr))), some (.p (.int tb)), some (.p (.int ((0 : Nat) : Int))), some (.p (.bool true)), some (.m 0), some (.p (.int e)), some (.p (.int (0 + (k : Int)))), a8, a9, a10, some (.p (.int m))]) rfl ?_
      refine ws_seq (ws_append ⟨0, _, rfl, rfl, ?_⟩)
      repeat walk_at "st"
      refine ⟨_, l.ds, rfl, rfl, by omega, ?_⟩
      refine ws_dm (ds' := [some .pool, some (.p (Pt.pd (ps, pt, pr))), some (.p (.int tb)), some (.p (.int ((0 : Nat) : Int))), some (.p (.bool true)), some (.m 0), some (.p (.int e)), some (.p (.int (0 + (k : Int)))), a8, a9, a10, some (.p (.int m))]) (ms' := [.l (l.app (.num m .nil)).ds]) rfl (by rw [Lg.app_ds]; rfl) ?_
      repeat walk_at "st"
      refine wr_ixT (xs := pr.map Rd.pd) (z := r.pd) ⟨m0, rds_at hr2⟩ ?_
      repeat walk_at "st"
      subst rx
      exact ⟨_, _, _, _, _, _, _, rfl, rfl, pa.num m0 hr2 ⟨rok.2.2.1, rok.2.2.2.1⟩⟩
    · subst ed em
      have hl := pa.len
      rw [rngD_len] at hl pa
      repeat walk_at "st"
      refine wc_tupM rfl ?_
      repeat walk_at "st"
      exact ⟨[l.pd, .int e], rfl, Nat.le_of_ble_eq_true rfl, rfl, (q _ ⟨l, e, rfl, pa.drawn (p := (ps, pt, pr)) (by omega) (by omega)⟩).2⟩
  | succ d ih =>
    have C_law_drawn_log := up _ _ ih
    refine dok F sc_law_drawn_log (fun es Q ⟨a, e, _⟩ => by rw [e]; rfl) fun cdv A outer s H E hr => ⟨_, (pss_cons (ps_set (i := 5) sc_law_drawn_log.nd rfl (.inl rfl) (pe_lst pa_nil))
    (pss_cons (ps_set (i := 6) sc_law_drawn_log.nd rfl (.inl rfl) (pv 2))
    (pss_cons (ps_for PassesOwn.never rfl (pi_range1 (by rfl) T.f_range (pa_cons (pe_op op_add pe_int (pe_kn rfl C_law_draw (hr.mono (by omega)) (by rfl) (pa_cons (pv 0) (pa_cons pe_int pa_nil)))) pa_nil)) (pg_name (i := 7) sc_law_drawn_log.nd rfl (.inl rfl))
    (pss_one (ps_if (PW.pt (pw_and (pt_cmpR op_gt (pv 3) pe_int (nomark _)) (pw_and1 (pt_cmpR op_eq (pe_kn rfl C_law_draw (hr.mono (by omega)) (by rfl) (pa_cons (pv 0) (pa_cons pe_int pa_nil))) pe_int (nomark _)))))
    (pss_cons (ps_asg (pe_kn rfl C_law_drawn_log (hr.mono (by omega)) (by rfl) (pa_cons (pv 0) (pa_cons (pv 1) (pa_cons (pv 6) (pa_cons (pe_op op_sub (pv 3) pe_int) (pa_cons (pv 4) pa_nil)))))) (pg_tup (by rfl) (pgs_cons (pg_name (i := 8) sc_law_drawn_log.nd rfl (.inl rfl)) (pgs_cons (pg_name (i := 9) sc_law_drawn_log.nd rfl (.inl rfl)) pgs_nil))))
    (pss_cons (ps_set (i := 10) sc_law_drawn_log.nd rfl (.inl rfl) (pe_kn rfl C_law_some (hr.mono (by omega)) (by rfl) (pa_cons (pv 0) (pa_cons (pe_lst (pa_cons pe_int (pa_cons pe_int (pa_cons pe_int (pa_cons pe_int pa_nil))))) pa_nil))))
    (pss_cons (ps_if (PW.pt (pw_and (pt_val (pv 4)) (pw_and1 (pt_cmpR op_eq (pe_kn rfl C_law_draw (hr.mono (by omega)) (by rfl) (pa_cons (pv 0) (pa_cons pe_int pa_nil))) pe_int (nomark _)))))
    (pss_one (ps_set (i := 10) sc_law_drawn_log.nd rfl (.inl rfl) (pe_kn rfl C_law_some (hr.mono (by omega)) (by rfl) (pa_cons (pv 0) (pa_cons (pe_lst (pa_cons (pe_op op_pow pe_int pe_int) (pa_cons (pe_op op_sub (pe_op op_pow pe_int pe_int) pe_int) (pa_cons pe_int (pa_cons (pe_op op_pow pe_int pe_int) (pa_cons (pe_op op_pow pe_int pe_int) pa_nil)))))) pa_nil)))))
    pss_nil)
    (pss_cons (ps_if (pt_cmpR op_gt (pv 10) pe_int (nomark _))
    (pss_cons (ps_set (i := 8) sc_law_drawn_log.nd rfl (.inl rfl) (pe_op op_catA (pv 8) (pe_kn rfl C_law_back (hr.mono (by omega)) (by rfl) (pa_cons (pv 1) (pa_cons (pv 9) (pa_cons (pv 6) pa_nil))))))
    (pss_one (ps_set (i := 9) sc_law_drawn_log.nd rfl (.inl rfl) (pv 6))))
    pss_nil)
    (pss_cons (ps_expr (pe_bm PySem.F.plainAttrs_list PySem.F.slot_list_append PySem.F.type_list_append mt_append (pv 5) (pa_cons (pe_tup (pa_cons pe_str (pa_cons (pv 10) (pa_cons (pv 8) pa_nil)))) pa_nil)))
    (pss_one (ps_set (i := 6) sc_law_drawn_log.nd rfl (.inl rfl) (pv 9))))))))
    (pss_cons (ps_set (i := 11) sc_law_drawn_log.nd rfl (.inl rfl) (pe_kn rfl C_law_some (hr.mono (by omega)) (by rfl) (pa_cons (pv 0) (pa_cons (pe_kn rfl C_law_from (hr.mono (by omega)) (by rfl) (pa_cons (pv 1) (pa_cons (pv 6) pa_nil))) pa_nil))))
    (pss_cons (ps_expr (pe_bm PySem.F.plainAttrs_list PySem.F.slot_list_append PySem.F.type_list_append mt_append (pv 5) (pa_cons (pv 11) pa_nil)))
    (pss_one (ps_set (i := 6) sc_law_drawn_log.nd rfl (.inl rfl) (pe_ix ix_tup (pe_ix ix_tup (pe_ix ix_tup (pv 1) pe_int (fun _ _ => rfl)) (pv 11) (fun _ _ => rfl)) pe_int (fun _ _ => rfl)))))))))
    (pss_one (ps_ret (pe_tup (pa_cons (pe_callTy call_tuple_of (by rfl) T.f_tuple (by decide +kernel) (pa_cons (pv 5) pa_nil)) (pa_cons (pv 6) pa_nil)))))))), fun c es Q ⟨⟨⟨ps, pt, pr⟩, tb⟩, ee, hd, q⟩ => ?_⟩
    subst ee
    try dsimp only [cxOf, Cx.nox, Cx.wish]
    refine ws_ds (ds' := [some .pool, some (.p (Pt.pd (ps, pt, pr))), some (.p (.int tb)), some (.p (.int ((d + 1 : Nat) : Int))), some (.p (.bool true)), none, none, none, none, none, none, none]) rfl ?_
    dsimp only at hd q
    obtain ⟨⟨s0, s4, t0, t8, len, ok, asc⟩, td, b0, b1⟩ := hd
    refine ws_seq (ws_asgN (wn_nil ⟨Nat.le_of_ble_eq_true rfl, ?_⟩))
    refine ws_seq (ws_asg (we_var rfl (wg_name ⟨Nat.le_of_ble_eq_true rfl, ?_⟩)))
    refine ws_dm (ds' := [some .pool, some (.p (Pt.pd (ps, pt, pr))), some (.p (.int tb)), some (.p (.int ((d + 1 : Nat) : Int))), some (.p (.bool true)), some (.m 0), some (.p (.int tb)), none, none, none, none, none]) (ms' := [.l []]) rfl rfl ?_
    refine ws_seq (ws_for (wi_rng1 ?_))
    repeat walk_at "st"
    refine ⟨rfl, 3, rfl, ⟨by decide, by decide⟩, fun d2 ⟨n, ed, n0, n1⟩ => ?_⟩
    subst ed
    refine ⟨rfl, ?_⟩
    repeat walk_at "st"
    refine ⟨_, rfl, by omega, by omega, fun k ds ms => ∃ (l : Lg) (e : Int) (a7 a8 a9 a10 a11 : Option D), ds = [some .pool, some (.p (Pt.pd (ps, pt, pr))), some (.p (.int tb)), some (.p (.int ((d + 1 : Nat) : Int))), some (.p (.bool true)), some (.m 0), some (.p (.int e)), a7, a8, a9, a10, a11] ∧ ms = [.l l.ds] ∧ Part (d + 1) pt pr k l tb e, ⟨.nil, tb, _, _, _, _, _, rfl, rfl, ⟨.nil _, rfl, Nat.zero_le _, trivial, by rw [Lg.wt]; omega, b0, b1⟩⟩, fun k y ds2 ms2 hy ⟨l, e, a7, a8, a9, a10, a11, ed, em, pa⟩ => ?_, fun ds2 ms2 ⟨l, e, a7, a8, a9, a10, a11, ed, em, pa⟩ => ?_⟩
    · subst ed em
      obtain ⟨hk, rfl⟩ := rngD_get hy
      have hl := pa.len
      refine wg_name ⟨Nat.le_of_ble_eq_true rfl, ?_⟩
      refine ws_ds (ds' := [some .pool, some (.p (Pt.pd (ps, pt, pr))), some (.p (.int tb)), some (.p (.int ((d + 1 : Nat) : Int))), some (.p (.bool true)), some (.m 0), some (.p (.int e)), some (.p (.int (0 + (k : Int)))), a8, a9, a10, a11]) rfl ?_
      repeat walk_at "st"
      rw [decide_eq_true (show (0 : Int) < ((d + 1 : Nat) : Int) by omega)]
      repeat walk_at "st"
      refine ⟨rfl, 2, rfl, ⟨by decide, by decide⟩, fun d2 ⟨z, ed, z0, z1⟩ => ?_⟩
      subst ed
      refine ⟨rfl, ?_⟩
      repeat walk_at "st"
      refine ite_b (fun hz => ?_) (fun hz => ?_)
      · repeat walk_at "st"
        refine ⟨rfl, ((ps, pt, pr), e), by rw [show ((d + 1 : Nat) : Int) - 1 = (d : Int) by omega]; rfl, ⟨⟨s0, s4, t0, t8, len, ok, asc⟩, td, pa.rng⟩, fun d2 ⟨i, c2, ed, dr⟩ => ?_⟩
        subst ed
        refine ⟨rfl, wg_tup (xs := [i.pd, .int c2]) rfl (wgs_cons ⟨Nat.le_of_ble_eq_true rfl, wgs_cons ⟨Nat.le_of_ble_eq_true rfl, wgs_nil ?_⟩⟩)⟩
        refine ws_ds (ds' := [some .pool, some (.p (Pt.pd (ps, pt, pr))), some (.p (.int tb)), some (.p (.int ((d + 1 : Nat) : Int))), some (.p (.bool true)), some (.m 0), some (.p (.int e)), some (.p (.int (0 + (k : Int)))), some (.p i.pd), some (.p (.int c2)), a10, a11]) rfl ?_
        have i3 := dr.len
        -- how many
        refine ws_seq (ws_asg ?_)
        repeat walk_at "st"
        refine we_lst ?_
        repeat walk_at "st"
        refine ⟨[.int 1, .int 2, .int 2, .int 3], rfl, Nat.le_of_ble_eq_true rfl, ?_⟩
        repeat walk_at "st"
        refine ⟨rfl, _, rfl, ⟨Nat.le_of_ble_eq_true rfl, Nat.le_of_ble_eq_true rfl⟩, fun d2 ⟨x, hx, ed⟩ => ?_⟩
        subst ed
        refine ⟨rfl, wg_name ⟨Nat.le_of_ble_eq_true rfl, ?_⟩⟩
        obtain ⟨m, rfl, m1, m2⟩ : ∃ z : Int, x = .int z ∧ 1 ≤ z ∧ z ≤ 10 ^ 64 := by
          simp only [List.mem_cons, List.not_mem_nil, or_false] at hx
          rcases hx with e | e | e | e <;> exact ⟨_, e, by decide +kernel, by decide +kernel⟩
        refine ws_ds (ds' := [some .pool, some (.p (Pt.pd (ps, pt, pr))), some (.p (.int tb)), some (.p (.int ((d + 1 : Nat) : Int))), some (.p (.bool true)), some (.m 0), some (.p (.int e)), some (.p (.int (0 + (k : Int)))), some (.p i.pd), some (.p (.int c2)), some (.p (.int m)), a11]) rfl ?_
        refine ws_seq (ws_mono (N' := fun ds1 ms1 => ∃ m : Int, 1 ≤ m ∧ m ≤ 10 ^ 64 ∧ ds1 = [some .pool, some (.p (Pt.pd (ps, pt, pr))), some (.p (.int tb)), some (.p (.int ((d + 1 : Nat) : Int))), some (.p (.bool true)), some (.m 0), some (.p (.int e)), some (.p (.int (0 + (k : Int)))), some (.p i.pd), some (.p (.int c2)), some (.p (.int m)), a11] ∧ ms1 = [.l l.ds]) ?_ (fun ds1 ms1 ⟨m, m1, m2, ed, em⟩ => ?_) fun _ _ h => h)
        · repeat walk_at "st"
          refine ⟨rfl, 2, rfl, ⟨by decide, by decide⟩, fun d2 ⟨z, ed, z0, z1⟩ => ?_⟩
          subst ed
          refine ⟨rfl, ?_⟩
          repeat walk_at "st"
          refine ite_b (fun hz2 => ?_) (fun hz2 => ?_)
          · repeat walk_at "st"
            refine we_lst ?_
            repeat walk_at "st"
            refine wr_pow ⟨by decide, by decide, by decide⟩ ?_
            repeat walk_at "st"
            refine wr_pow ⟨by decide, by decide, by decide⟩ ?_
            repeat walk_at "st"
            refine wr_pow ⟨by decide, by decide, by decide⟩ ?_
            repeat walk_at "st"
            refine wr_pow ⟨by decide, by decide, by decide⟩ ?_
            repeat walk_at "st"
            refine ⟨[.int (10 ^ (60 : Int).toNat), .int (10 ^ (60 : Int).toNat - 1), .int 7, .int (10 ^ (12 : Int).toNat), .int (10 ^ (64 : Int).toNat)], rfl, Nat.le_of_ble_eq_true rfl, ?_⟩
            repeat walk_at "st"
            refine ⟨rfl, _, rfl, ⟨Nat.le_of_ble_eq_true rfl, Nat.le_of_ble_eq_true rfl⟩, fun d2 ⟨x, hx, ed⟩ => ?_⟩
            subst ed
            refine ⟨rfl, wg_name ⟨Nat.le_of_ble_eq_true rfl, ?_⟩⟩
            obtain ⟨m, rfl, m1, m2⟩ : ∃ z : Int, x = .int z ∧ 1 ≤ z ∧ z ≤ 10 ^ 64 := by
              simp only [List.mem_cons, List.not_mem_nil, or_false] at hx
              rcases hx with e | e | e | e | e <;> exact ⟨_, e, by decide +kernel, by decide +kernel⟩
            exact ⟨m, m1, m2, rfl, rfl⟩
          · repeat walk_at "st"
            exact ⟨m, m1, m2, rfl, rfl⟩
        subst ed em
        -- the way back
        refine ws_seq (ws_mono (N' := fun ds1 ms1 => ∃ (i2 : Lg) (c3 : Int), ds1 = [some .pool, some (.p (Pt.pd (ps, pt, pr))), some (.p (.int tb)), some (.p (.int ((d + 1 : Nat) : Int))), some (.p (.bool true)), some (.m 0), some (.p (.int e)), some (.p (.int (0 + (k : Int)))), some (.p i2.pd), some (.p (.int c3)), some (.p (.int m)), a11] ∧ ms1 = [.l l.ds] ∧
          i2 ≠ .nil ∧ Wk (look pr) i2 e c3 ∧ (1 < m → c3 = e) ∧ i2.dep ≤ d ∧ i2.few ∧ i2.ds.length ≤ 100 ∧ i2.wt ≤ 3 * Mw d + 8 ∧ 0 ≤ c3 ∧ c3 < pt) ?_ (fun ds1 ms1 ⟨i2, c3, ed, em, ne, wi, cl, dp, fw, ln, wt, rg⟩ => ?_) fun _ _ h => h)
        · repeat walk_at "st"
          refine ite_b (fun hm => ?_) (fun hm => ?_)
          · refine ws_seq (ws_asg (we_op ?_))
            repeat walk_at "st"
            refine ⟨rfl, ((ps, pt, pr), c2, e), rfl, ⟨⟨s0, s4, t0, t8, len, ok, asc⟩, td, dr.rng, pa.rng⟩, fun d2 ⟨p, ed, pl, pw⟩ => ?_⟩
            subst ed
            refine ⟨rfl, wr_catT (xs := i.ds) (ys := p.map .int) (by rw [List.length_map]; omega) (wg_name ⟨Nat.le_of_ble_eq_true rfl, ?_⟩)⟩
            repeat walk_at "st"
            refine ⟨i.app (Lg.ofL p), e, by rw [show (i.app (Lg.ofL p)).pd = .tuple (i.ds ++ p.map .int) from congrArg PyData.tuple (by rw [Lg.app_ds, Lg.ofL_ds])]; rfl, rfl, Lg.app_ne dr.ne, dr.wk.app pw, fun _ => rfl, Lg.app_dep dr.dep (by rw [Lg.ofL_dep]; exact Nat.zero_le _), Lg.app_few dr.few (Lg.ofL_few p), ?_, ?_, pa.rng⟩
            · rw [Lg.app_ds, Lg.ofL_ds, List.length_append, List.length_map]
              omega
            · rw [Lg.app_wt, Lg.ofL_wt]
              have := dr.wt
              omega
          · have hm := of_decide_eq_false hm
            have := dr.wt
            refine ws_next ⟨i, c2, rfl, rfl, dr.ne, dr.wk, fun z => absurd z hm, dr.dep, dr.few, by omega, by omega, dr.rng⟩
        subst ed em
        refine ws_seq (ws_append ⟨0, _, rfl, rfl, we_tup ?_⟩)
        repeat walk_at "st"
        refine ⟨[.str "times", .int m, i2.pd], rfl, Nat.le_of_ble_eq_true rfl, _, l.ds, rfl, rfl, by omega, ?_⟩
        refine ws_dm (ds' := [some .pool, some (.p (Pt.pd (ps, pt, pr))), some (.p (.int tb)), some (.p (.int ((d + 1 : Nat) : Int))), some (.p (.bool true)), some (.m 0), some (.p (.int e)), some (.p (.int (0 + (k : Int)))), some (.p i2.pd), some (.p (.int c3)), some (.p (.int m)), a11]) (ms' := [.l (l.app (.rnd m i2 .nil)).ds]) rfl (by rw [Lg.app_ds]; rfl) ?_
        repeat walk_at "st"
        exact ⟨_, _, _, _, _, _, _, rfl, rfl, pa.rnd m1 m2 ne wi cl dp fw ln wt rg⟩
      · repeat walk_at "st"
        refine ⟨rfl, ((ps, pt, pr), e), rfl, by show pr.length ≤ 1000; omega, rfl, ?_⟩
        dsimp only
        repeat walk_at "st"
        refine ⟨rfl, (fromL pr e pr.length).map .int, rfl, ⟨by rw [List.length_map]; exact from_pos td pa.rng.1 pa.rng.2, by rw [List.length_map]; have := fromL_len pr e; omega⟩, fun d2 ⟨x, hx, ed⟩ => ?_⟩
        subst ed
        obtain ⟨m, hm, rfl⟩ := List.mem_map.mp hx
        obtain ⟨m0, r, hr2, rx⟩ := mem_fromL hm
        have rok := ok r (List.mem_of_getElem? hr2)
        refine ⟨rfl, wg_name ⟨Nat.le_of_ble_eq_true rfl, ?_⟩⟩
        refine ws_ds (ds' := [some .pool, some (.p (Pt.pd (ps, pt, pr))), some (.p (.int tb)), some (.p (.int ((d + 1 : Nat) : Int))), some (.p (.bool true)), some (.m 0), some (.p (.int e)), some (.p (.int (0 + (k : Int)))), a8, a9, a10, some (.p (.int m))]) rfl ?_
        refine ws_seq (ws_append ⟨0, _, rfl, rfl, ?_⟩)
        repeat walk_at "st"
        refine ⟨_, l.ds, rfl, rfl, by omega, ?_⟩
        refine ws_dm (ds' := [some .pool, some (.p (Pt.pd (ps, pt, pr))), some (.p (.int tb)), some (.p (.int ((d + 1 : Nat) : Int))), some (.p (.bool true)), some (.m 0), some (.p (.int e)), some (.p (.int (0 + (k : Int)))), a8, a9, a10, some (.p (.int m))]) (ms' := [.l (l.app (.num m .nil)).ds]) rfl (by rw [Lg.app_ds]; rfl) ?_
        repeat walk_at "st"
        refine wr_ixT (xs := pr.map Rd.pd) (z := r.pd) ⟨m0, rds_at hr2⟩ ?_
        repeat walk_at "st"
        subst rx
        exact ⟨_, _, _, _, _, _, _, rfl, rfl, pa.num m0 hr2 ⟨rok.2.2.1, rok.2.2.2.1⟩⟩
    · subst ed em
      have hl := pa.len
      rw [rngD_len] at hl pa
      repeat walk_at "st"
      refine wc_tupM rfl ?_
      repeat walk_at "st"
      exact ⟨[l.pd, .int e], rfl, Nat.le_of_ble_eq_true rfl, rfl, (q _ ⟨l, e, rfl, pa.drawn (p := (ps, pt, pr)) (by omega) (by omega)⟩).2⟩
end
end K19
namespace K19
open PySem PySem.Spec PyProof.Rows L2
local macro_rules | `(tactic| walk_at "st") => `(tactic| first
  | with_reducible refine ws_seq ?_ | with_reducible refine ws_ret ?_ | with_reducible refine ws_if ?_ | with_reducible refine ws_next ?_
  | with_reducible refine we_int ?_ | with_reducible refine we_bl ?_ | with_reducible refine we_non ?_ | with_reducible refine we_str ?_
  | ((with_reducible refine' we_var ?we ?_); (case we => exact rfl)) | with_reducible refine we_op ?_ | with_reducible refine we_un ?_ | with_reducible refine we_isp ?_ | with_reducible refine we_callE ?_ | with_reducible refine we_callF ?_ | with_reducible refine we_cb ?_ | with_reducible refine wa_cons ?_ | with_reducible refine wa_nil ?_
  | with_reducible refine we_tup ?_ | with_reducible refine we_slT ?_ | with_reducible refine wo_none ?_ | with_reducible refine wo_some ?_
  | with_reducible refine we_andV ?_ | with_reducible refine we_orV ?_ | with_reducible refine we_notV ?_ | with_reducible refine we_chain ?_ | with_reducible refine we_ifE ?_
  | with_reducible refine wt_test ?_ | with_reducible refine wt_B ?_ | with_reducible refine wt_and ?_ | with_reducible refine wt_or ?_ | with_reducible refine wt_not ?_
  | with_reducible refine wr_add ?_ | with_reducible refine wr_sub ?_ | with_reducible refine wr_lt ?_ | with_reducible refine wr_le ?_ | with_reducible refine wr_gt ?_ | with_reducible refine wr_ge ?_ | with_reducible refine wr_eqI ?_ | with_reducible refine wr_neI ?_
  | with_reducible refine wr_rd0 ?_ | with_reducible refine wr_rd1 ?_ | with_reducible refine wr_rd2 ?_ | ((with_reducible refine' wr_ixT ?we ?_); (case we => exact ⟨by decide, rfl⟩))
  | with_reducible refine wr_isN ?_ | with_reducible refine wr_notN ?_ | with_reducible refine wr_isB ?_ | with_reducible refine wr_notB ?_ | with_reducible refine wu_neg ?_
  | with_reducible refine we_sides ?_ | with_reducible refine we_tables ?_ | with_reducible refine we_readings ?_ | with_reducible refine we_begin ?_ | with_reducible refine we_end ?_ | with_reducible refine we_length ?_ | with_reducible refine we_added ?_ | with_reducible refine we_least ?_ | with_reducible refine we_most ?_ | with_reducible refine we_stands ?_
  | with_reducible refine wi_tup ?_ | with_reducible refine wi_rng1 ?_ | with_reducible refine ws_drop ?_
  | with_reducible refine ex_b ?_ | ((with_reducible refine' ex_isi ?wp ?_); (case wp => first | assumption | rfl)) | with_reducible refine ex_prg ?_ | with_reducible refine ex_sm ?_ | with_reducible refine ret_p ?_ | with_reducible refine ret_nl ?_ | with_reducible refine ret_prg ?_ | with_reducible refine ret_sm ?_ | with_reducible refine iteT ?_ | with_reducible refine iteF ?_
  | (with_reducible refine wc_allT ?_) | (with_reducible refine wc_sumT ?_) | (with_reducible refine wc_tup rfl ?_) | (with_reducible refine wc_lenT ?_)
  | (refine ⟨rfl, (_, _, _, _), rfl, (by first | trivial | assumption | decide | omega), rfl, ?_⟩; try dsimp only) | (refine ⟨rfl, (_, _, _), rfl, (by first | trivial | assumption | decide | omega), rfl, ?_⟩; try dsimp only) | (refine ⟨rfl, (_, _), rfl, (by first | trivial | assumption | decide | omega), rfl, ?_⟩; try dsimp only) | (refine ⟨rfl, _, rfl, (by first | trivial | assumption | decide | omega), rfl, ?_⟩; try dsimp only)
  | ((with_reducible refine' iteT' ?wp ?_); (case wp => rfl)) | ((with_reducible refine' iteF' ?wp ?_); (case wp => rfl))
  | (with_reducible refine ws_asg ?_) | ((with_reducible refine wg_name ⟨?wl, ?_⟩); (case wl => exact (Nat.le_of_ble_eq_true rfl))))
local macro_rules | `(tactic| walk_at "st") => `(tactic| first
  | with_reducible refine wc_tupI rfl ?_ | with_reducible refine wc_min ?_ | with_reducible refine wc_max ?_ | with_reducible refine wr_neO ?_ | with_reducible refine wr_eqO ?_
  | with_reducible refine we_mkS ?_ | with_reducible refine ex_mkS ?_ | with_reducible refine we_lcZ ?_ | with_reducible refine we_lcZM ?_ | with_reducible refine we_lcZ3 ?_ | with_reducible refine we_revP ?_ | with_reducible refine we_idx ?_)
local macro_rules | `(tactic| walk_at "st") => `(tactic| first
  | with_reducible refine ws_append ?_ | with_reducible refine we_lcR ?_ | with_reducible refine wc_sortTI ?_ | with_reducible refine we_listRg ?_ | ((with_reducible refine' ws_asgN (wn_nil ⟨?wl, ?_⟩)); (case wl => exact (Nat.le_of_ble_eq_true rfl))))
section
variable {Pg : Program} {w : World} {g : Gk} {mg : Str → Option Value} {base : Heap}
/-! ### the pool -/
def cutI (ns : List Int) (lo hi : Option Int) : List Int := (ns.drop (HT.sIx ns.length 0 lo)).take (HT.sIx ns.length ns.length hi - HT.sIx ns.length 0 lo)
theorem cutD_ints (ns : List Int) (lo hi : Option Int) : cutD (ns.map .int) lo hi = (cutI ns lo hi).map .int := by
  unfold cutD cutI
  rw [List.length_map, List.map_take, List.map_drop]
theorem cutV_ints (ns : List Int) (lo hi : Option Int) : cutV (ns.map V.int) lo hi = (cutI ns lo hi).map V.int := by
  have h := Pds.cut (K := []) (H := fun _ => none) (Pds.ofInts ns) lo hi
  rw [cutD_ints] at h
  exact Pds.toInts h
theorem cutI_len (ns : List Int) (lo hi : Option Int) : (cutI ns lo hi).length ≤ ns.length := by
  unfold cutI
  rw [List.length_take, List.length_drop]
  omega
theorem SqL.grow {K : PySem.W.Frag} {H H' : Hp} {a : Addr} {vs : List V} (h : SqL K H a vs) (k : ∀ b o, H b = some o → H' b = some o) : SqL K H' a vs := by
  have y : Stay (fun _ => False) H H' := fun b o e _ => k b o e
  exact y.sqL (fun z => z) h
theorem we_slA {c : Cg} {ds : List (Option D)} {ms : List MO} {P : D → List MO → Prop} {i : Nat} {k : Int} (h : ∃ (a : Addr) (ns : List Int), ds[i]? = some (some (.ad a)) ∧ SqL g.K c.H0 a (ns.map V.int) ∧ c.po = none ∧ P (.nl ((cutI ns none (some k)).map .int)) ms) : We g c (tSl (rSlL g.K) (tVar i) tNoPart (tPart (tC (.int k)))) ds ms P := fun gs as H σ L Q q => by
  obtain ⟨a, ns, h1, hS, hp, h⟩ := h
  obtain ⟨v, e1, e2⟩ := L.sl i _ h1
  cases e2
  have hS2 : SqL g.K H a (ns.map V.int) := SqL.grow hS fun b o e => L.keep b o e fun ⟨_, _, z, _⟩ => by rw [hp] at z; cases z
  refine ⟨_, e1, k, rfl, a, _, rfl, hS2, fun p np => ?_⟩
  obtain ⟨n0, n1, n2⟩ := L.new np
  rw [cutV_ints]
  exact q _ _ (.nl _) ms ((L.laid np).push ⟨p, _, rfl, upd_same, n0, n1, n2, Pds.ofInts _⟩) h
theorem wc_lenA {c : Cg} {ms : List MO} {P : D → List MO → Prop} {a : Addr} {ns : List Int} (hS : SqL g.K c.H0 a (ns.map V.int)) (hp : c.po = none) (h : P (.p (.int ns.length)) ms) : Wc g c (rLenQ g.K) [.ad a] ms P := fun gs as H σ ds vs L le Q q => by
  obtain ⟨v, rfl, L1, hv⟩ := zip1 L le
  cases hv
  have hS2 : SqL g.K H a (ns.map V.int) := SqL.grow hS fun b o e => L1.keep b o e fun ⟨_, _, z, _⟩ => by rw [hp] at z; cases z
  refine ⟨a, _, rfl, .inl hS2, ?_⟩
  rw [List.length_map]
  exact q _ H _ ms (L1.pushP (.int _)) h
theorem pool_end {H H1 : Hp} {σ : L2.St} {ds : List (Option D)} {as : List Addr} {E : Ends} {ta : TA} (L : Lo g ⟨none, H⟩ [] as H1 σ ds []) (h : Wa g ⟨none, H⟩ ta ds [] fun es ms => ∃ (s : Int) (cs : List Int), es = [.p (.int s), .p (.int 0), .nl (cs.map .int)] ∧ cs.length ≤ 63 ∧ (∀ z ∈ cs, 0 ≤ z))
    (q : ∀ (pl cl : Addr) (H' : Hp) (s : Int) (cs : List Int), (∀ b o, H b = some o → H' b = some o) → H pl = none → H cl = none → pl ≠ cl → H' pl = some (.lst [.int s, .int 0, .ref cl]) → H' cl = some (.lst (cs.map V.int)) → cs.length ≤ 63 → (∀ z ∈ cs, 0 ≤ z) → E.rt (.ref pl) H') : tRet (tLst ta) E σ H1 := by
  refine h [] as H1 σ L _ fun vs H2 es ms2 L2 le ⟨s, cs, ee, hl, pos⟩ => ?_
  subst ee
  match vs, le, L2 with
  | [v1, v2, v3], _, L2 =>
    have h1 : IsD g ⟨none, H⟩ as H2 (.p (.int s)) v1 := L2.top
    have h2 : IsD g ⟨none, H⟩ as H2 (.p (.int 0)) v2 := L2.pop.top
    have h3 : IsD g ⟨none, H⟩ as H2 (.nl (cs.map .int)) v3 := L2.pop.pop.top
    cases h1
    cases h2
    obtain ⟨cl, us, rfl, hc, n0, _, _, hs⟩ := h3
    have eu := Pds.toInts hs
    subst eu
    refine ⟨Nat.le_of_lt (small1000 (Nat.le_of_ble_eq_true rfl)), fun pl np => ?_⟩
    have ne : pl ≠ cl := fun z => by
      rw [z, hc] at np
      cases np
    refine q pl cl _ s cs (fun b o e => ?_) (L2.new np).1 n0 ne upd_same ?_ hl pos
    · have e2 := L2.keep b o e fun ⟨_, _, z, _⟩ => nomatch z
      rw [upd_ne (ne_of_none e2 np)]
      exact e2
    · rw [upd_ne (Ne.symm ne)]
      exact hc
abbrev spPool (g : Gk) : Sp := fun vs H Q _ => ∃ (a : Addr) (ns : List Int), vs = [.ref a] ∧ SqL g.K H a (ns.map V.int) ∧ ns.length ≤ 63 ∧
  ∀ (pl cl : Addr) (H' : Hp) (s : Int) (cs : List Int), (∀ b o, H b = some o → H' b = some o) → H pl = none → H cl = none → pl ≠ cl → H' pl = some (.lst [.int s, .int 0, .ref cl]) → H' cl = some (.lst (cs.map V.int)) → cs.length ≤ 63 → (∀ z ∈ cs, 0 ≤ z) → Q (.ref pl) H'
theorem ok_law_pool {f : Addr} {fd : FuncData} (T : Tx g mg) (F : FT g "_law_pool" "_law_pool" s_law_pool f fd) : FnOk Pg w g.K mg base CX0 1 f fd ["_law_script"] (spPool g) := by
  refine F.ok sc_law_pool (fun vs H Q E ⟨a, ns, e, _⟩ => by rw [e]; rfl) fun cdv A outer s H vs Q E hr ⟨a, ns, e, hS, hl, q⟩ => ?_
  refine ⟨_, PSs.nox ((pss_cons (ps_set (i := 1) sc_law_pool.nd rfl (.inl rfl) (pe_op op_add (pe_op op_add (pe_op op_mod (pe_callTy call_int1 (by rfl) T.f_int (by decide +kernel) (pa_cons (pe_callB (cr_sum rfl) (by rfl) T.f_sum (by decide +kernel) (pa_cons (pe_slice sl_list (pv 0) po_none (po_some pe_int)) pa_nil)) pa_nil)) pe_int) (pe_callB call_len_seq (by rfl) T.f_len (by decide +kernel) (pa_cons (pv 0) pa_nil))) pe_int))
    (pss_cons (ps_for PassesOwn.never rfl (pi_list (pe_slice sl_list (pv 0) po_none (po_some pe_int))) (pg_name (i := 2) sc_law_pool.nd rfl (.inl rfl))
    (pss_one (ps_set (i := 1) sc_law_pool.nd rfl (.inl rfl) (pe_op op_mod (pe_callTy call_int1 (by rfl) T.f_int (by decide +kernel) (pa_cons (pe_op op_add (pe_op op_add (pe_op op_mul (pv 1) pe_int) (pe_op op_mod (pe_callTy call_int1 (by rfl) T.f_int (by decide +kernel) (pa_cons (pv 2) pa_nil)) pe_int)) pe_int) pa_nil)) pe_int))))
    (pss_one (ps_ret (pe_lst (pa_cons (pv 1) (pa_cons pe_int (pa_cons (pe_lc (own := [("_law_cell", 2)]) rfl sc_law_pool.nd (pi_list (pe_slice sl_list (pv 0) po_none (po_some pe_int))) (blkOk_by (by kernel_rfl)) (fun _ _ _ _ _ => (pg_name (i := 2) sc_law_pool.nd rfl (.inl rfl))) (fun _ _ _ _ _ => pts_one (pt_cmpR op_ge (pe_callB call_abs (by rfl) T.f_abs (by decide +kernel) (pa_cons (pv 2) pa_nil)) (pe_op op_pow pe_int pe_int) (nomark _))) (fun _ _ _ _ _ => (pe_callB call_abs (by rfl) T.f_abs (by decide +kernel) (pa_cons (pv 2) pa_nil)))) pa_nil))))))))), ?_⟩
  subst e
  try dsimp only [cxOf, Cx.nox, Cx.wish]
  have L : Lo g ⟨none, H⟩ [] [] H (_root_.L2.start N_law_pool [V.ref a]) [some (.ad a), none, none] [] := ⟨fun b o e _ => e, fun b hb => absurd hb List.not_mem_nil, List.nodup_nil, rfl, fun k b m e _ => by simp at e, (fun pl cl e => nomatch e), rfl, fun i d e => (by
    match i, e with
    | 0, e => cases e; exact ⟨_, rfl, rfl⟩
    | 1, e => cases e
    | 2, e => cases e
    | n + 3, e => simp at e), fun p hp => absurd hp List.not_mem_nil⟩
  generalize _root_.L2.start N_law_pool [V.ref a] = σ at L
  refine seq_raw L (N := fun ds ms => ms = [] ∧ ∃ s : Int, ds = [some (.ad a), some (.p (.int s)), none]) ?_ fun σ1 H1 as1 ds1 ms1 L ⟨em, sd, ed⟩ => ?_
  · repeat walk_at "st"
    refine we_slA ⟨a, ns, rfl, hS, rfl, ?_⟩
    repeat walk_at "st"
    refine wc_int1 ?_
    repeat walk_at "st"
    refine wr_mod (by decide) ?_
    repeat walk_at "st"
    refine wc_lenA hS rfl ?_
    repeat walk_at "st"
    exact ⟨rfl, _, rfl⟩
  subst em ed
  refine seq_raw L (N := fun ds ms => ms = [] ∧ ∃ (s : Int) (a2 : Option D), ds = [some (.ad a), some (.p (.int s)), a2]) ?_ fun σ1 H1 as1 ds1 ms1 L ⟨em, sd, a2, ed⟩ => ?_
  · refine ws_for (wi_list (we_slA ⟨a, ns, rfl, hS, rfl, _, rfl, fun k ds ms => ms = [] ∧ ∃ (s : Int) (a2 : Option D), ds = [some (.ad a), some (.p (.int s)), a2], ⟨rfl, _, _, rfl⟩, fun k y ds2 ms2 hy ⟨em, s, a2, ed⟩ => ?_, fun ds2 ms2 h => h⟩))
    subst em ed
    rw [List.getElem?_map] at hy
    cases hz : (cutI ns none (some 63))[k]? with
    | none =>
      rw [hz] at hy
      cases hy
    | some z =>
      rw [hz] at hy
      cases hy
      refine wg_name ⟨Nat.le_of_ble_eq_true rfl, ?_⟩
      refine ws_ds (ds' := [some (.ad a), some (.p (.int s)), some (.p (.int z))]) rfl ?_
      repeat walk_at "st"
      refine wr_mulR (by decide) ?_
      repeat walk_at "st"
      refine wc_int1 ?_
      repeat walk_at "st"
      refine wr_mod (by decide) ?_
      repeat walk_at "st"
      refine wc_int1 ?_
      repeat walk_at "st"
      refine wr_mod (by decide) ?_
      repeat walk_at "st"
      exact ⟨rfl, _, _, rfl⟩
  subst em ed
  refine pool_end L (wa_cons (we_var rfl (wa_cons (we_int (wa_cons (we_lc (wi_list (we_slA ⟨a, ns, rfl, hS, rfl, _, rfl, ?_⟩)))))))) q
  refine ⟨by rw [List.length_map]; have := cutI_len ns none (some 63); omega, fun k acc ms => ms = [] ∧ ∃ cs : List Int, acc = cs.map .int ∧ cs.length ≤ k ∧ ∀ z ∈ cs, 0 ≤ z, ⟨rfl, [], rfl, Nat.le_refl _, fun z hz => absurd hz List.not_mem_nil⟩, fun k y acc ms2 hy ⟨em, cs, ea, hl2, pos⟩ => ?_, fun acc ms2 ⟨em, cs, ea, hl2, pos⟩ => ?_⟩
  · subst em ea
    rw [List.getElem?_map] at hy
    cases hz : (cutI ns none (some 63))[k]? with
    | none =>
      rw [hz] at hy
      cases hy
    | some z =>
      rw [hz] at hy
      cases hy
      refine ⟨_, tgt_name, rfl, ?_⟩
      repeat walk_at "st"
      refine wc_abs ?_
      repeat walk_at "st"
      refine wr_pow ⟨by decide, by decide, by decide⟩ ?_
      repeat walk_at "st"
      refine ite_b (fun h => ?_) (fun h => ?_)
      · repeat walk_at "st"
        refine wc_abs ⟨_, rfl, rfl, cs ++ [if z < 0 then -z else z], by rw [List.map_append]; rfl, ?_, fun y hy => ?_⟩
        · rw [List.length_append, List.length_singleton]
          omega
        · rcases List.mem_append.mp hy with e | e
          · exact pos y e
          · rw [List.mem_singleton.mp e]
            split <;> omega
      · exact ⟨rfl, cs, rfl, by omega, pos⟩
  · subst em ea
    have := cutI_len ns none (some 63)
    rw [List.length_map] at hl2
    exact wa_nil ⟨_, cs, rfl, by omega, pos⟩
end
end K19
/-! the mathematics of logs: walks run, what is told is fine, other programs -/
namespace K19
open PySem PySem.Spec PyProof.Rows L2
/-! ### walks run -/
theorem beh_end {f o : Sm} {a : Option Int} (h0 : 0 ≤ f.len) (hf : f.len ≠ 0 → f.e = a) (ho : 0 < o.len) (hb : o.b = a) : ∃ c, f.beh o = some c ∧ 0 < c.len ∧ c.e = o.e ∧ (f.len ≠ 0 → c.b = f.b) ∧ (f.len = 0 → c.b = a) := by
  by_cases h : f.len = 0
  · exact ⟨o, beh_0 h, ho, rfl, fun z => absurd h z, fun _ => hb⟩
  · refine ⟨_, beh_2 h (by omega) (by rw [hf h, hb]), ?_, rfl, fun _ => rfl, fun z => absurd z h⟩
    show 0 < f.len + o.len
    omega
theorem Wk.run {lk : Int → Option Rd} {n t : Nat} {l : Lg} {a b : Int} (h : Wk lk l a b) : ∀ f : Sm, 0 ≤ f.len → (f.len ≠ 0 → f.e = some a) →
    ∃ S, Run lk n t l f S ∧ 0 ≤ S.len ∧ (S.len ≠ 0 → S.e = some b) ∧ (f.len ≠ 0 → S.len ≠ 0 ∧ S.b = f.b) ∧ (f.len = 0 → l ≠ .nil → S.len ≠ 0 ∧ S.b = some a) := by
  induction h with
  | nil a => exact fun f h0 hf => ⟨f, .nil f, h0, hf, fun z => ⟨z, rfl⟩, fun _ z => absurd rfl z⟩
  | @num k r q b k0 hk _ ih =>
    intro f h0 hf
    obtain ⟨c, e1, e2, e3, e4, e5⟩ := beh_end (o := Sm.one t q) (a := some q.x) h0 hf (show (0 : Int) < 1 by decide) rfl
    obtain ⟨S, r1, r2, r3, r4, _⟩ := ih c (by omega) fun _ => e3
    obtain ⟨r5, r6⟩ := r4 (by omega)
    exact ⟨S, .num k0 hk e1 r1, r2, r3, fun z => ⟨r5, by rw [r6, e4 z]⟩, fun z _ => ⟨r5, by rw [r6, e5 z]⟩⟩
  | @rnd m i r a c b m1 ne w1 cl _ ih1 ih2 =>
    intro f h0 hf
    obtain ⟨S1, s1, s2, s3, _, s5⟩ := ih1 (Sm.zero n t) (Int.le_refl 0) fun z => absurd rfl z
    obtain ⟨s6, s7⟩ := s5 rfl ne
    have s3 := s3 s6
    have ha : S1.aga m = some (S1.rep m) := aga_1 fun z => by rw [s7, s3, cl z]
    have hl : 0 < (S1.rep m).len := Int.mul_pos (by omega) (by omega)
    obtain ⟨c2, e1, e2, e3, e4, e5⟩ := beh_end (o := S1.rep m) (a := some a) h0 hf hl s7
    obtain ⟨S, r1, r2, r3, r4, _⟩ := ih2 c2 (by omega) fun _ => by rw [e3]; exact s3
    obtain ⟨r5, r6⟩ := r4 (by omega)
    exact ⟨S, .rnd m1 ne (by omega) s1 ha e1 r1, r2, r3, fun z => ⟨r5, by rw [r6, e4 z]⟩, fun z _ => ⟨r5, by rw [r6, e5 z]⟩⟩
theorem Wk.all {lk : Int → Option Rd} {n t : Nat} {l : Lg} {a b : Int} (h : Wk lk l a b) (ne : l ≠ .nil) : ∃ S, Run lk n t l (Sm.zero n t) S ∧ 0 < S.len ∧ S.b = some a ∧ S.e = some b := by
  obtain ⟨S, r1, r2, r3, _, r5⟩ := h.run (n := n) (t := t) (Sm.zero n t) (Int.le_refl 0) fun z => absurd rfl z
  obtain ⟨r6, r7⟩ := r5 rfl ne
  exact ⟨S, r1, by omega, r7, r3 r6⟩
theorem Wk.inn {rs : List Rd} {l : Lg} {a b : Int} (h : Wk (look rs) l a b) : l.inn rs.length := by
  induction h with
  | nil a => trivial
  | @num k r q b k0 hk _ ih =>
    have := (List.getElem?_eq_some_iff.mp (show rs[k.toNat]? = some q from hk)).1
    exact ⟨k0, by omega, ih⟩
  | rnd m1 ne w1 cl _ ih1 ih2 => exact ⟨ih1, ih2⟩
/-! ### sizes -/
def wMax : Int := 10 ^ 300
def sMax : Int := 10 ^ 30
set_option exponentiation.threshold 1000 in
theorem max_lim : sMax * wMax < (lim : Int) := by
  have h1 : sMax * wMax = ((10 ^ 330 : Nat) : Int) := by decide +kernel
  rw [h1]
  exact Int.ofNat_lt.mpr (Nat.lt_of_lt_of_le (show 10 ^ 330 < 2 ^ 2000 by decide +kernel) (lim_pow (by decide)))
theorem max_w : wMax ≤ sMax * wMax := by decide +kernel
theorem low_of {z : Int} (h : -(sMax * wMax) ≤ z ∧ z ≤ sMax * wMax) : z.natAbs < lim := by
  have := max_lim
  omega
theorem Run.wt_pos {lk : Int → Option Rd} {n t : Nat} {l : Lg} {f S : Sm} (h : Run lk n t l f S) : 0 ≤ l.wt := by
  induction h with
  | nil f => exact Int.le_refl 0
  | num k0 hk hb _ ih =>
    rw [Lg.wt]
    omega
  | @rnd m i r f S1 S2 f2 S m1 ne ps _ ha hb _ ih1 ih2 =>
    rw [Lg.wt]
    have := Int.mul_nonneg (show 0 ≤ m by omega) ih1
    omega
theorem Run.fine {rs : List Rd} {n t : Nat} (hs : ∀ r ∈ rs, ∀ z ∈ r.st, -sMax ≤ z ∧ z ≤ sMax) {l : Lg} {f S : Sm} (h : Run (look rs) n t l f S) : l.wt ≤ wMax → l.fine rs n t := by
  induction h with
  | nil f => exact fun _ => trivial
  | @num k r q f f2 S k0 hk hb hr ih =>
    intro w
    rw [Lg.wt] at w
    have := (List.getElem?_eq_some_iff.mp (show rs[k.toNat]? = some q from hk)).1
    exact ⟨k0, by omega, ih (by omega)⟩
  | @rnd m i r f S1 S2 f2 S m1 ne ps hi ha hb hr ih1 ih2 =>
    intro w
    rw [Lg.wt] at w
    have w1 := hi.wt_pos
    have w2 := hr.wt_pos
    obtain ⟨b1, l1, _⟩ := hi.bound (B := sMax) (fun k q hk => hs q (List.mem_of_getElem? hk)) (.zero _ _ _)
    have l1 : S1.len = 0 + i.wt := l1
    have h1 : i.wt ≤ m * i.wt := by
      have := Int.mul_le_mul_of_nonneg_right m1 w1
      omega
    have h2 : m ≤ m * i.wt := by
      have := Int.mul_le_mul_of_nonneg_left (show 1 ≤ i.wt by omega) (show 0 ≤ m by omega)
      omega
    have mw := max_w
    refine ⟨m1, low_of (by omega), fun S' hS' => ?_, ih1 (by omega), ne, ih2 (by omega)⟩
    have e : S' = S1 := by
      rw [sumA, hi.sumL] at hS'
      cases hS'
      rfl
    subst e
    have h3 : sMax * S'.len ≤ sMax * wMax := Int.mul_le_mul_of_nonneg_left (by omega) (by decide +kernel)
    refine ⟨low_of (by omega), fun z hz => low_of ?_, fun z hz => low_of ?_⟩
    · have := b1.ad z hz
      omega
    · have := b1.st z hz
      omega
theorem good_of {p : Pr} {l : Lg} {S : Sm} (pw : PrW p) (hs : ∀ r ∈ p.2.2.1, ∀ z ∈ r.st, -sMax ≤ z ∧ z ≤ sMax) (h : Run (look p.2.2.1) p.1.toNat p.2.1.toNat l (Sm.zero p.1.toNat p.2.1.toNat) S) (dp : l.dep ≤ 4) (wt : l.wt ≤ wMax) : GoodL p l ∧ sumP p l = some S := by
  have e : sumP p l = some S := h.sumL
  exact ⟨⟨⟨pw, h.fine hs wt⟩, dp, by rw [e]; rfl⟩, e⟩
/-! ### a log's numbers -/
theorem nums_look {rs rs' : List Rd} {ns : List Int} {φ : Rd → Rd} (h : NumsOf (rs.map φ) rs' ns) {k : Int} {q : Rd} (hk : look rs k = some q) : 0 ≤ byL ns k ∧ look rs' (byL ns k) = some (φ q) := by
  obtain ⟨j, h1, h2⟩ := h.2 k.toNat (φ q) (by rw [List.getElem?_map, show rs[k.toNat]? = some q from hk]; rfl)
  have e : byL ns k = (j : Int) := by
    unfold byL
    rw [List.getD_eq_getElem?_getD, h1]
    rfl
  rw [e]
  exact ⟨by omega, by rw [look, Int.toNat_natCast]; exact h2⟩
theorem Lg.mv_wt (g : Int → Int) : ∀ l : Lg, (l.mv g).wt = l.wt
  | .nil => rfl
  | .num n r => by rw [Lg.mv, Lg.wt, Lg.wt, Lg.mv_wt g r]
  | .rnd m i r => by rw [Lg.mv, Lg.wt, Lg.wt, Lg.mv_wt g r, Lg.mv_wt g i]
theorem Lg.mv_dep (g : Int → Int) : ∀ l : Lg, (l.mv g).dep = l.dep
  | .nil => rfl
  | .num n r => by rw [Lg.mv, Lg.dep, Lg.dep, Lg.mv_dep g r]
  | .rnd m i r => by rw [Lg.mv, Lg.dep, Lg.dep, Lg.mv_dep g r, Lg.mv_dep g i]
theorem Lg.mv_few (g : Int → Int) : ∀ l : Lg, l.few → (l.mv g).few
  | .nil, h => h
  | .num n r, h => Lg.mv_few g r h
  | .rnd m i r, h => ⟨by rw [Lg.mv_len]; exact h.1, Lg.mv_few g i h.2.1, Lg.mv_few g r h.2.2⟩
theorem Lg.bk_wt : ∀ l : Lg, l.bk.wt = l.wt
  | .nil => rfl
  | .num n r => by rw [Lg.bk, Lg.app_wt, Lg.bk_wt r, Lg.wt, Lg.wt, Lg.wt]; omega
  | .rnd m i r => by rw [Lg.bk, Lg.app_wt, Lg.bk_wt r, Lg.wt, Lg.wt, Lg.wt, Lg.bk_wt i]; omega
theorem Lg.bk_dep {d : Nat} : ∀ {l : Lg}, l.dep ≤ d → l.bk.dep ≤ d
  | .nil, h => h
  | .num n r, h => Lg.app_dep (Lg.bk_dep (l := r) h) (Nat.zero_le _)
  | .rnd m i r, h => by
    rw [Lg.dep] at h
    have h1 : i.dep + 1 ≤ d := by omega
    obtain ⟨d, rfl⟩ : ∃ d', d = d' + 1 := ⟨d - 1, by omega⟩
    have hi := Lg.bk_dep (l := i) (d := d) (by omega)
    refine Lg.app_dep (Lg.bk_dep (l := r) (by omega)) ?_
    rw [Lg.dep, Lg.dep]
    omega
/-! ### sums in other programs -/
theorem zw_map (f : Int → Int) (F : Int → Int → Int) (h : ∀ x y, F (f x) (f y) = f (F x y)) : ∀ xs ys : List Int, List.zipWith F (xs.map f) (ys.map f) = (List.zipWith F xs ys).map f
  | [], _ => by simp
  | _ :: _, [] => by simp
  | x :: xs, y :: ys => by
    rw [List.map_cons, List.map_cons, List.zipWith_cons_cons, List.zipWith_cons_cons, List.map_cons, h, zw_map f F h xs ys]
theorem z3_nil1 (F : Int → Int → Int → Int) (ys zs : List Int) : z3 F [] ys zs = [] := rfl
theorem z3_nil2 (F : Int → Int → Int → Int) (xs zs : List Int) : z3 F xs [] zs = [] := by
  unfold z3
  rw [List.zip_nil_left, List.zip_nil_right]
  rfl
theorem z3_nil3 (F : Int → Int → Int → Int) (xs ys : List Int) : z3 F xs ys [] = [] := by
  unfold z3
  rw [List.zip_nil_right, List.zip_nil_right]
  rfl
theorem z3_cons (F : Int → Int → Int → Int) (x y z : Int) (xs ys zs : List Int) : z3 F (x :: xs) (y :: ys) (z :: zs) = F x y z :: z3 F xs ys zs := rfl
theorem z3_map (f : Int → Int) (F : Int → Int → Int → Int) (h : ∀ x y z, F (f x) (f y) (f z) = f (F x y z)) : ∀ xs ys zs : List Int, z3 F (xs.map f) (ys.map f) (zs.map f) = (z3 F xs ys zs).map f
  | [], _, _ => by simp [z3_nil1]
  | _ :: _, [], _ => by simp [z3_nil2]
  | _ :: _, _ :: _, [] => by simp [z3_nil3]
  | x :: xs, y :: ys, z :: zs => by
    rw [List.map_cons, List.map_cons, List.map_cons, z3_cons, z3_cons, List.map_cons, h, z3_map f F h xs ys zs]
/-- all the same, the tables k further on -/
structure RSh (k : Int) (S S' : Sm) : Prop where
  b : S'.b = S.b.map (· + k)
  e : S'.e = S.e.map (· + k)
  len : S'.len = S.len
  ad : S'.ad = S.ad
  le : S'.le = S.le
  mo : S'.mo = S.mo
theorem sim_sh (k : Int) (n t t' : Nat) : Sim (RSh k) n t n t' where
  z := ⟨rfl, rfl, rfl, rfl, rfl, rfl⟩
  ln h := h.len
  eq ha hb e := by rw [ha.e, hb.b, e]
  cat ha hb := ⟨ha.b, hb.e, by rw [Sm.cat, Sm.cat, ha.len, hb.len], by rw [Sm.cat, Sm.cat, ha.ad, hb.ad], by rw [Sm.cat, Sm.cat, ha.le, hb.le, ha.ad], by rw [Sm.cat, Sm.cat, ha.mo, hb.mo, ha.ad]⟩
  rep m1 ha := ⟨ha.b, ha.e, by rw [Sm.rep, Sm.rep, ha.len], by rw [Sm.rep, Sm.rep, ha.ad], by rw [Sm.rep, Sm.rep, ha.le, ha.ad], by rw [Sm.rep, Sm.rep, ha.mo, ha.ad]⟩
theorem one_sh (k : Int) (t t' : Nat) (q : Rd) : RSh k (Sm.one t q) (Sm.one t' (upR k q)) := ⟨rfl, rfl, rfl, rfl, rfl, rfl⟩
/-- so many times as long -/
structure RLong (m : Int) (S S' : Sm) : Prop where
  b : S'.b = S.b
  e : S'.e = S.e
  len : S'.len = S.len
  ad : S'.ad = S.ad.map (m * ·)
  le : S'.le = S.le.map (m * ·)
  mo : S'.mo = S.mo.map (m * ·)
theorem mul_min {m x y : Int} (h : 0 ≤ m) : min (m * x) (m * y) = m * min x y := by
  rw [Int.min_def, Int.min_def]
  by_cases hxy : x ≤ y
  · rw [if_pos hxy, if_pos (Int.mul_le_mul_of_nonneg_left hxy h)]
  · rw [if_neg hxy]
    have h2 : m * y ≤ m * x := Int.mul_le_mul_of_nonneg_left (by omega) h
    split <;> omega
theorem mul_max {m x y : Int} (h : 0 ≤ m) : max (m * x) (m * y) = m * max x y := by
  rw [Int.max_def, Int.max_def]
  by_cases hxy : x ≤ y
  · rw [if_pos hxy, if_pos (Int.mul_le_mul_of_nonneg_left hxy h)]
  · rw [if_neg hxy]
    have h2 : m * y ≤ m * x := Int.mul_le_mul_of_nonneg_left (by omega) h
    split <;> omega
theorem map_rep0 {f : Int → Int} (h : f 0 = 0) (n : Nat) : (List.replicate n (0 : Int)).map f = List.replicate n 0 := by
  rw [List.map_replicate, h]
theorem far_map (m c : Int) (xs : List Int) : (xs.map (m * ·)).map (-(c - 1) * ·) = (xs.map (-(c - 1) * ·)).map (m * ·) := by
  rw [List.map_map, List.map_map]
  exact List.map_congr_left fun x _ => Int.mul_left_comm ..
theorem sim_long {m : Int} (hm : 0 ≤ m) (n t : Nat) : Sim (RLong m) n t n t where
  z := ⟨rfl, rfl, rfl, (map_rep0 (Int.mul_zero m) n).symm, (map_rep0 (Int.mul_zero m) n).symm, (map_rep0 (Int.mul_zero m) n).symm⟩
  ln h := h.len
  eq ha hb e := by rw [ha.e, hb.b, e]
  cat {a b a' b'} ha hb := by
    refine ⟨ha.b, hb.e, by rw [Sm.cat, Sm.cat, ha.len, hb.len], ?_, ?_, ?_⟩
    · show List.zipWith (· + ·) a'.ad b'.ad = (List.zipWith (· + ·) a.ad b.ad).map (m * ·)
      rw [ha.ad, hb.ad]
      exact zw_map _ _ (fun x y => (Int.mul_add m x y).symm) _ _
    · show z3 (fun x y z => min x (y - z)) a'.le b'.le a'.ad = (z3 (fun x y z => min x (y - z)) a.le b.le a.ad).map (m * ·)
      rw [ha.le, hb.le, ha.ad]
      exact z3_map (m * ·) (fun x y z => min x (y - z)) (fun x y z => by rw [← Int.mul_sub, mul_min hm]) _ _ _
    · show z3 (fun x y z => max x (y - z)) a'.mo b'.mo a'.ad = (z3 (fun x y z => max x (y - z)) a.mo b.mo a.ad).map (m * ·)
      rw [ha.mo, hb.mo, ha.ad]
      exact z3_map (m * ·) (fun x y z => max x (y - z)) (fun x y z => by rw [← Int.mul_sub, mul_max hm]) _ _ _
  rep {a a' c} m1 ha := by
    refine ⟨ha.b, ha.e, by rw [Sm.rep, Sm.rep, ha.len], ?_, ?_, ?_⟩
    · show a'.ad.map (c * ·) = (a.ad.map (c * ·)).map (m * ·)
      rw [ha.ad, List.map_map, List.map_map]
      exact List.map_congr_left fun x _ => Int.mul_left_comm ..
    · show List.zipWith (fun x y => x + min 0 y) a'.le (a'.ad.map (-(c - 1) * ·)) = (List.zipWith (fun x y => x + min 0 y) a.le (a.ad.map (-(c - 1) * ·))).map (m * ·)
      rw [ha.le, ha.ad, far_map]
      refine zw_map (m * ·) (fun x y => x + min 0 y) (fun x y => ?_) _ _
      have := mul_min (x := 0) (y := y) hm
      rw [Int.mul_zero] at this
      show m * x + min 0 (m * y) = m * (x + min 0 y)
      rw [this, Int.mul_add]
    · show List.zipWith (fun x y => x + max 0 y) a'.mo (a'.ad.map (-(c - 1) * ·)) = (List.zipWith (fun x y => x + max 0 y) a.mo (a.ad.map (-(c - 1) * ·))).map (m * ·)
      rw [ha.mo, ha.ad, far_map]
      refine zw_map (m * ·) (fun x y => x + max 0 y) (fun x y => ?_) _ _
      have := mul_max (x := 0) (y := y) hm
      rw [Int.mul_zero] at this
      show m * x + max 0 (m * y) = m * (x + max 0 y)
      rw [this, Int.mul_add]
theorem one_long {m : Int} (hm : 0 ≤ m) (t : Nat) (q : Rd) : RLong m (Sm.one t q) (Sm.one t (longR m q)) := by
  refine ⟨rfl, rfl, rfl, rfl, ?_, ?_⟩
  · show (q.st.map (m * ·)).map (fun z => min 0 (-z)) = (q.st.map fun z => min 0 (-z)).map (m * ·)
    rw [List.map_map, List.map_map]
    refine List.map_congr_left fun x _ => ?_
    have := mul_min (x := 0) (y := -x) hm
    rw [Int.mul_zero, Int.mul_neg] at this
    exact this
  · show (q.st.map (m * ·)).map (fun z => max 0 (-z)) = (q.st.map fun z => max 0 (-z)).map (m * ·)
    rw [List.map_map, List.map_map]
    refine List.map_congr_left fun x _ => ?_
    have := mul_max (x := 0) (y := -x) hm
    rw [Int.mul_zero, Int.mul_neg] at this
    exact this
end K19
/-! renamed, led by a matrix, from behind -/
namespace K19
open PySem PySem.Spec PyProof.Rows L2
/-! ### renamed -/
structure PNm (nm : Int → Int) (t : Nat) : Prop where
  rng : ∀ i : Int, 0 ≤ i → i < t → 0 ≤ nm i ∧ nm i < t
  inj : ∀ i j : Int, 0 ≤ i → i < t → 0 ≤ j → j < t → nm i = nm j → i = j
theorem perm_nm {names : List Int} {t : Nat} (h : names.Perm (upTo t)) : PNm (fun x => names.getD x.toNat 0) t := by
  have hl : names.length = t := by rw [h.length_eq, upTo, List.length_map, List.length_range]
  have nd : names.Nodup := h.nodup_iff.mpr (List.nodup_iff_pairwise_ne.mpr (by
    unfold upTo
    rw [List.pairwise_map]
    exact List.Pairwise.imp (fun {a b} hab e => by omega) List.pairwise_lt_range))
  have gt : ∀ i : Int, 0 ≤ i → i < t → ∃ hi : i.toNat < names.length, names.getD i.toNat 0 = names[i.toNat] := fun i h0 h1 => by
    have hi : i.toNat < names.length := by omega
    exact ⟨hi, by rw [List.getD_eq_getElem?_getD, List.getElem?_eq_getElem hi]; rfl⟩
  refine ⟨fun i h0 h1 => ?_, fun i j h0 h1 h2 h3 e => ?_⟩
  · obtain ⟨hi, e⟩ := gt i h0 h1
    have hm := h.mem_iff.mp (List.getElem_mem hi)
    unfold upTo at hm
    obtain ⟨k, hk, ek⟩ := List.mem_map.mp hm
    have := List.mem_range.mp hk
    show 0 ≤ names.getD i.toNat 0 ∧ names.getD i.toNat 0 < t
    rw [e, ← ek]
    omega
  · obtain ⟨hi, e1⟩ := gt i h0 h1
    obtain ⟨hj, e2⟩ := gt j h2 h3
    have e : names.getD i.toNat 0 = names.getD j.toNat 0 := e
    rw [e1, e2] at e
    have := (List.getElem_inj nd).mp e
    omega
structure RNm (nm : Int → Int) (t : Nat) (S S' : Sm) : Prop where
  b : S'.b = S.b.map nm
  e : S'.e = S.e.map nm
  br : ∀ x, S.b = some x → 0 ≤ x ∧ x < t
  er : ∀ x, S.e = some x → 0 ≤ x ∧ x < t
  len : S'.len = S.len
  ad : S'.ad = S.ad
  le : S'.le = S.le
  mo : S'.mo = S.mo
  l1 : S.st.length = t
  l2 : S'.st.length = t
  st : ∀ i : Int, 0 ≤ i → i < t → S'.st.getD (nm i).toNat 0 = S.st.getD i.toNat 0
theorem getD_at {xs : List Int} {i : Nat} (h : i < xs.length) : xs.getD i 0 = xs[i] := by
  rw [List.getD_eq_getElem?_getD, List.getElem?_eq_getElem h]
  rfl
theorem getD_zw {xs ys : List Int} {i : Nat} (h1 : i < xs.length) (h2 : i < ys.length) : (List.zipWith (· + ·) xs ys).getD i 0 = xs.getD i 0 + ys.getD i 0 := by
  rw [getD_at (by rw [List.length_zipWith]; omega), getD_at h1, getD_at h2, List.getElem_zipWith]
theorem getD_mul {m : Int} {xs : List Int} {i : Nat} (h1 : i < xs.length) : (xs.map (m * ·)).getD i 0 = m * xs.getD i 0 := by
  rw [getD_at (by rw [List.length_map]; omega), getD_at h1, List.getElem_map]
theorem getD_rep (n i : Nat) : (List.replicate n (0 : Int)).getD i 0 = 0 := by
  rw [List.getD_eq_getElem?_getD, List.getElem?_replicate]
  split <;> rfl
theorem sim_nm {nm : Int → Int} {t : Nat} (N : PNm nm t) (n : Nat) : Sim (RNm nm t) n t n t where
  z := ⟨rfl, rfl, (fun x h => nomatch h), (fun x h => nomatch h), rfl, rfl, rfl, rfl, List.length_replicate .., List.length_replicate .., fun i _ _ => by
    show (List.replicate t (0 : Int)).getD _ 0 = (List.replicate t (0 : Int)).getD _ 0
    rw [getD_rep, getD_rep]⟩
  ln h := h.len
  eq ha hb e := by rw [ha.e, hb.b, e]
  cat ha hb := by
    refine ⟨ha.b, hb.e, ha.br, hb.er, by rw [Sm.cat, Sm.cat, ha.len, hb.len], by rw [Sm.cat, Sm.cat, ha.ad, hb.ad], by rw [Sm.cat, Sm.cat, ha.le, hb.le, ha.ad], by rw [Sm.cat, Sm.cat, ha.mo, hb.mo, ha.ad], ?_, ?_, fun i h0 h1 => ?_⟩
    · rw [Sm.cat, List.length_zipWith, ha.l1, hb.l1, Nat.min_self]
    · rw [Sm.cat, List.length_zipWith, ha.l2, hb.l2, Nat.min_self]
    · obtain ⟨n0, n1⟩ := N.rng i h0 h1
      rw [Sm.cat, Sm.cat, getD_zw (by rw [ha.l2]; omega) (by rw [hb.l2]; omega), getD_zw (by rw [ha.l1]; omega) (by rw [hb.l1]; omega), ha.st i h0 h1, hb.st i h0 h1]
  rep m1 ha := by
    refine ⟨ha.b, ha.e, ha.br, ha.er, by rw [Sm.rep, Sm.rep, ha.len], by rw [Sm.rep, Sm.rep, ha.ad], by rw [Sm.rep, Sm.rep, ha.le, ha.ad], by rw [Sm.rep, Sm.rep, ha.mo, ha.ad], ?_, ?_, fun i h0 h1 => ?_⟩
    · rw [Sm.rep, List.length_map, ha.l1]
    · rw [Sm.rep, List.length_map, ha.l2]
    · obtain ⟨n0, n1⟩ := N.rng i h0 h1
      rw [Sm.rep, Sm.rep, getD_mul (by rw [ha.l2]; omega), getD_mul (by rw [ha.l1]; omega), ha.st i h0 h1]
theorem one_at {t : Nat} {q : Rd} {i : Int} (h0 : 0 ≤ i) (h1 : i < t) : (Sm.one t q).st.getD i.toNat 0 = if i = q.y then 1 else 0 := by
  have hi : i.toNat < (upTo t).length := by rw [upTo, List.length_map, List.length_range]; omega
  rw [Sm.one, getD_at (by rw [List.length_map]; exact hi), List.getElem_map]
  have e : (upTo t)[i.toNat] = i := by
    have e1 : (upTo t)[i.toNat]? = some i := by
      unfold upTo
      rw [List.getElem?_map, List.getElem?_range (by omega), Option.map_some]
      congr 1
      omega
    rw [List.getElem?_eq_getElem hi] at e1
    exact Option.some.inj e1
  rw [e]
theorem one_nm {nm : Int → Int} {t : Nat} (N : PNm nm t) {q : Rd} (hx : 0 ≤ q.x ∧ q.x < t) (hy : 0 ≤ q.y ∧ q.y < t) : RNm nm t (Sm.one t q) (Sm.one t ⟨nm q.x, nm q.y, q.st⟩) := by
  have ll : (upTo t).length = t := by rw [upTo, List.length_map, List.length_range]
  refine ⟨rfl, rfl, fun x h => by cases h; exact hx, fun x h => by cases h; exact hy, rfl, rfl, rfl, rfl, by rw [Sm.one, List.length_map, ll], by rw [Sm.one, List.length_map, ll], fun i h0 h1 => ?_⟩
  obtain ⟨n0, n1⟩ := N.rng i h0 h1
  rw [one_at n0 n1, one_at h0 h1]
  by_cases h : i = q.y
  · rw [if_pos h, if_pos (by rw [h])]
  · rw [if_neg h, if_neg fun z => h (N.inj i q.y h0 h1 hy.1 hy.2 z)]
theorem at_nm {nm : Int → Int} {t : Nat} (N : PNm nm t) {S S' : Sm} (h : RNm nm t S S') {i : Int} (h0 : 0 ≤ i) (h1 : i < t) : S'.at_ (nm i) = S.at_ i := by
  unfold Sm.at_
  rw [h.st i h0 h1, h.b]
  congr 1
  cases hb : S.b with
  | none => rfl
  | some x =>
    have hx := h.br x hb
    rw [Option.map_some]
    by_cases e : x = i
    · subst e
      rw [if_pos rfl, if_pos rfl]
    · rw [if_neg fun z => e (Option.some.inj z), if_neg fun z => e (N.inj x i hx.1 hx.2 h0 h1 (Option.some.inj z))]
/-! ### led by a matrix -/
theorem dot_cons (a b : Int) (xs ys : List Int) : dotL (a :: xs) (b :: ys) = a * b + dotL xs ys := by
  unfold dotL
  rw [List.zipWith_cons_cons, List.sum_cons]
theorem dot_nil (ys : List Int) : dotL [] ys = 0 := rfl
theorem dot_nil2 : ∀ xs : List Int, dotL xs [] = 0
  | [] => rfl
  | _ :: _ => rfl
theorem dot_add : ∀ (row xs ys : List Int), xs.length = ys.length → dotL row (List.zipWith (· + ·) xs ys) = dotL row xs + dotL row ys
  | [], xs, ys, _ => by rw [dot_nil, dot_nil, dot_nil]; rfl
  | r :: row, [], [], _ => by rw [List.zipWith_nil_left, dot_nil2]; rfl
  | r :: row, [], y :: ys, h => by cases h
  | r :: row, x :: xs, [], h => by cases h
  | r :: row, x :: xs, y :: ys, h => by
    rw [List.zipWith_cons_cons, dot_cons, dot_cons, dot_cons, dot_add row xs ys (Nat.succ.inj h), Int.mul_add]
    omega
theorem dot_mul (m : Int) : ∀ (row xs : List Int), dotL row (xs.map (m * ·)) = m * dotL row xs
  | [], xs => by rw [dot_nil, dot_nil, Int.mul_zero]
  | r :: row, [] => by rw [List.map_nil, dot_nil2, Int.mul_zero]
  | r :: row, x :: xs => by
    rw [List.map_cons, dot_cons, dot_cons, dot_mul m row xs, Int.mul_add, Int.mul_left_comm]
theorem dot_zero (n : Nat) : ∀ row : List Int, dotL row (List.replicate n 0) = 0 := fun row => by
  have h := dot_mul 0 row (List.replicate n 0)
  rw [Int.zero_mul, map_rep0 (Int.zero_mul 0)] at h
  exact h
structure RLed (M : List (List Int)) (n : Nat) (S S' : Sm) : Prop where
  b : S'.b = S.b
  e : S'.e = S.e
  len : S'.len = S.len
  al : S.ad.length = n
  ad : S'.ad = M.map fun row => dotL row S.ad
theorem zw_maps {α : Type} (f g : α → Int) : ∀ M : List α, List.zipWith (· + ·) (M.map f) (M.map g) = M.map fun r => f r + g r
  | [] => rfl
  | r :: M => by rw [List.map_cons, List.map_cons, List.zipWith_cons_cons, zw_maps f g M, List.map_cons]
theorem sim_led {M : List (List Int)} {n : Nat} (hM : M.length = n) (t : Nat) : Sim (RLed M n) n t n t where
  z := ⟨rfl, rfl, rfl, List.length_replicate .., by
    show List.replicate n 0 = M.map fun row => dotL row (List.replicate n 0)
    rw [List.map_congr_left (g := fun _ => (0 : Int)) fun r _ => dot_zero n r, List.map_const', hM]⟩
  ln h := h.len
  eq ha hb e := by rw [ha.e, hb.b, e]
  cat ha hb := by
    refine ⟨ha.b, hb.e, by rw [Sm.cat, Sm.cat, ha.len, hb.len], by rw [Sm.cat, List.length_zipWith, ha.al, hb.al, Nat.min_self], ?_⟩
    rw [Sm.cat, Sm.cat, ha.ad, hb.ad, zw_maps]
    exact List.map_congr_left fun r _ => (dot_add r _ _ (by rw [ha.al, hb.al])).symm
  rep m1 ha := by
    refine ⟨ha.b, ha.e, by rw [Sm.rep, Sm.rep, ha.len], by rw [Sm.rep, List.length_map, ha.al], ?_⟩
    rw [Sm.rep, Sm.rep, ha.ad, List.map_map]
    exact List.map_congr_left fun r _ => (dot_mul _ r _).symm
theorem one_led {M : List (List Int)} {n : Nat} (t : Nat) {q : Rd} (h : q.st.length = n) : RLed M n (Sm.one t q) (Sm.one t (ledR M q)) := ⟨rfl, rfl, rfl, h, rfl⟩
/-! ### from behind -/
structure Rv (n t : Nat) (S S' : Sm) : Prop where
  b : S'.b = S.e
  e : S'.e = S.b
  len : S'.len = S.len
  ad : S'.ad = S.ad.map (-·)
  le : S'.le = List.zipWith (· + ·) S.le S.ad
  mo : S'.mo = List.zipWith (· + ·) S.mo S.ad
  pos : 0 ≤ S.len
  z : S.len = 0 → S = Sm.zero n t
def rvf (S : Sm) : Sm := ⟨S.e, S.b, S.len, S.ad.map (-·), List.zipWith (· + ·) S.le S.ad, List.zipWith (· + ·) S.mo S.ad, S.st⟩
theorem rv_f {n t : Nat} {S : Sm} (h0 : 0 ≤ S.len) (hz : S.len = 0 → S = Sm.zero n t) : Rv n t S (rvf S) := ⟨rfl, rfl, rfl, rfl, rfl, rfl, h0, hz⟩
theorem zw_neg : ∀ xs ys : List Int, List.zipWith (· + ·) (xs.map (-·)) (ys.map (-·)) = (List.zipWith (· + ·) ys xs).map (-·)
  | [], ys => by cases ys <;> rfl
  | _ :: _, [] => rfl
  | x :: xs, y :: ys => by
    rw [List.map_cons, List.map_cons, List.zipWith_cons_cons, List.zipWith_cons_cons, List.map_cons, zw_neg xs ys]
    congr 1
    omega
theorem z3_rev_min : ∀ al ad bl bd : List Int, z3 (fun x y z => min x (y - z)) (List.zipWith (· + ·) bl bd) (List.zipWith (· + ·) al ad) (bd.map (-·)) = List.zipWith (· + ·) (z3 (fun x y z => min x (y - z)) al bl ad) (List.zipWith (· + ·) ad bd)
  | [], ad, bl, bd => by simp [z3_nil1, z3_nil2]
  | _ :: _, [], bl, bd => by simp [z3_nil2, z3_nil3]
  | _ :: _, _ :: _, [], bd => by simp [z3_nil1, z3_nil2]
  | _ :: _, _ :: _, _ :: _, [] => by simp [z3_nil1]
  | a :: al, d :: ad, b :: bl, c :: bd => by
    rw [List.zipWith_cons_cons, List.zipWith_cons_cons, List.map_cons, z3_cons, z3_cons, List.zipWith_cons_cons, List.zipWith_cons_cons, z3_rev_min al ad bl bd]
    congr 1
    rw [Int.min_def, Int.min_def]
    split <;> split <;> omega
theorem z3_rev_max : ∀ al ad bl bd : List Int, z3 (fun x y z => max x (y - z)) (List.zipWith (· + ·) bl bd) (List.zipWith (· + ·) al ad) (bd.map (-·)) = List.zipWith (· + ·) (z3 (fun x y z => max x (y - z)) al bl ad) (List.zipWith (· + ·) ad bd)
  | [], ad, bl, bd => by simp [z3_nil1, z3_nil2]
  | _ :: _, [], bl, bd => by simp [z3_nil2, z3_nil3]
  | _ :: _, _ :: _, [], bd => by simp [z3_nil1, z3_nil2]
  | _ :: _, _ :: _, _ :: _, [] => by simp [z3_nil1]
  | a :: al, d :: ad, b :: bl, c :: bd => by
    rw [List.zipWith_cons_cons, List.zipWith_cons_cons, List.map_cons, z3_cons, z3_cons, List.zipWith_cons_cons, List.zipWith_cons_cons, z3_rev_max al ad bl bd]
    congr 1
    rw [Int.max_def, Int.max_def]
    split <;> split <;> omega
theorem Rv.cat {n t : Nat} {a b a' b' : Sm} (ha : Rv n t a a') (hb : Rv n t b b') (h : 0 < a.len + b.len) : Rv n t (a.cat b) (b'.cat a') := by
  refine ⟨hb.b, ha.e, ?_, ?_, ?_, ?_, Int.le_of_lt h, fun z => absurd z (Int.ne_of_gt h)⟩
  · rw [Sm.cat, Sm.cat, ha.len, hb.len]
    exact Int.add_comm ..
  · rw [Sm.cat, Sm.cat, ha.ad, hb.ad]
    exact zw_neg _ _
  · rw [Sm.cat, Sm.cat, ha.le, hb.le, hb.ad]
    exact z3_rev_min _ _ _ _
  · rw [Sm.cat, Sm.cat, ha.mo, hb.mo, hb.ad]
    exact z3_rev_max _ _ _ _
theorem Rv.beh {n t : Nat} {a b c a' b' : Sm} (ha : Rv n t a a') (hb : Rv n t b b') (h : a.beh b = some c) : ∃ c', b'.beh a' = some c' ∧ Rv n t c c' := by
  have la := ha.len
  have lb := hb.len
  have pa := ha.pos
  have pb := hb.pos
  rcases beh_cases h with ⟨h1, rfl⟩ | ⟨h1, h2, rfl⟩ | ⟨h1, h2, h3, rfl⟩
  · by_cases h2 : c.len = 0
    · have e : c = a := by rw [hb.z h2, ha.z h1]
      subst e
      exact ⟨a', beh_0 (by omega), ha⟩
    · exact ⟨b', beh_1 (by omega) (by omega), hb⟩
  · exact ⟨a', beh_0 (by omega), ha⟩
  · exact ⟨_, beh_2 (by omega) (by omega) (by rw [hb.e, ha.b, h3]), ha.cat hb (by omega)⟩
theorem Rv.rep {n t : Nat} {a a' : Sm} {m : Int} (m1 : 1 ≤ m) (ps : 0 < a.len) (ha : Rv n t a a') : Rv n t (a.rep m) (a'.rep m) := by
  have hl : 0 < (a.rep m).len := Int.mul_pos (by omega) ps
  have key : ∀ (G : Int → Int → Int), (∀ x y : Int, G (x + y) (-(m - 1) * -y) = G x (-(m - 1) * y) + m * y) → ∀ xs ys : List Int, List.zipWith G (List.zipWith (· + ·) xs ys) ((ys.map (-·)).map (-(m - 1) * ·)) = List.zipWith (· + ·) (List.zipWith G xs (ys.map (-(m - 1) * ·))) (ys.map (m * ·)) := by
    intro G hG xs
    induction xs with
    | nil => intro ys; cases ys <;> rfl
    | cons x xs ih =>
      intro ys
      cases ys with
      | nil => rfl
      | cons y ys =>
        rw [List.zipWith_cons_cons, List.map_cons, List.map_cons, List.zipWith_cons_cons, List.map_cons, List.zipWith_cons_cons, List.map_cons, List.zipWith_cons_cons, ih ys, hG]
  refine ⟨ha.b, ha.e, by rw [Sm.rep, Sm.rep, ha.len], ?_, ?_, ?_, Int.le_of_lt hl, fun z => absurd z (Int.ne_of_gt hl)⟩
  · show a'.ad.map (m * ·) = (a.ad.map (m * ·)).map (-·)
    rw [ha.ad, List.map_map, List.map_map]
    exact List.map_congr_left fun x _ => Int.mul_neg ..
  · rw [Sm.rep, Sm.rep, ha.le, ha.ad]
    refine key (fun x y => x + min 0 y) (fun x y => ?_) _ _
    show x + y + min 0 (-(m - 1) * -y) = x + min 0 (-(m - 1) * y) + m * y
    have e1 : -(m - 1) * -y = (m - 1) * y := by rw [Int.neg_mul_neg]
    have e2 : -(m - 1) * y = -((m - 1) * y) := Int.neg_mul ..
    have e3 : m * y = (m - 1) * y + y := by rw [Int.sub_mul]; omega
    rw [e1, e2, e3]
    generalize (m - 1) * y = u
    rw [Int.min_def, Int.min_def]
    split <;> split <;> omega
  · rw [Sm.rep, Sm.rep, ha.mo, ha.ad]
    refine key (fun x y => x + max 0 y) (fun x y => ?_) _ _
    show x + y + max 0 (-(m - 1) * -y) = x + max 0 (-(m - 1) * y) + m * y
    have e1 : -(m - 1) * -y = (m - 1) * y := by rw [Int.neg_mul_neg]
    have e2 : -(m - 1) * y = -((m - 1) * y) := Int.neg_mul ..
    have e3 : m * y = (m - 1) * y + y := by rw [Int.sub_mul]; omega
    rw [e1, e2, e3]
    generalize (m - 1) * y = u
    rw [Int.max_def, Int.max_def]
    split <;> split <;> omega
theorem one_rv (n t : Nat) (q : Rd) : Rv n t (Sm.one t q) (Sm.one t (backR q)) := by
  refine ⟨rfl, rfl, rfl, rfl, ?_, ?_, (show (0 : Int) ≤ 1 by decide), fun z => absurd (show (1 : Int) = 0 from z) (by decide)⟩
  · show (q.st.map (-·)).map (fun z => min 0 (-z)) = List.zipWith (· + ·) (q.st.map fun z => min 0 (-z)) q.st
    induction q.st with
    | nil => rfl
    | cons x xs ih =>
      rw [List.map_cons, List.map_cons, List.map_cons, List.zipWith_cons_cons, ih]
      congr 1
      rw [Int.min_def, Int.min_def]
      split <;> split <;> omega
  · show (q.st.map (-·)).map (fun z => max 0 (-z)) = List.zipWith (· + ·) (q.st.map fun z => max 0 (-z)) q.st
    induction q.st with
    | nil => rfl
    | cons x xs ih =>
      rw [List.map_cons, List.map_cons, List.map_cons, List.zipWith_cons_cons, ih]
      congr 1
      rw [Int.max_def, Int.max_def]
      split <;> split <;> omega
/-! one behind another behind another -/
theorem zw_assoc : ∀ xs ys zs : List Int, List.zipWith (· + ·) xs (List.zipWith (· + ·) ys zs) = List.zipWith (· + ·) (List.zipWith (· + ·) xs ys) zs
  | [], ys, zs => by simp
  | _ :: _, [], zs => by simp
  | _ :: _, _ :: _, [] => by simp
  | x :: xs, y :: ys, z :: zs => by
    rw [List.zipWith_cons_cons, List.zipWith_cons_cons, List.zipWith_cons_cons, List.zipWith_cons_cons, zw_assoc xs ys zs, Int.add_assoc]
theorem z3_assoc_min : ∀ al bl cl bd ad : List Int, z3 (fun x y z => min x (y - z)) al (z3 (fun x y z => min x (y - z)) bl cl bd) ad = z3 (fun x y z => min x (y - z)) (z3 (fun x y z => min x (y - z)) al bl ad) cl (List.zipWith (· + ·) ad bd)
  | [], bl, cl, bd, ad => by simp [z3_nil1]
  | _ :: _, [], cl, bd, ad => by simp [z3_nil1, z3_nil2]
  | _ :: _, _ :: _, [], bd, ad => by simp [z3_nil2]
  | _ :: _, _ :: _, _ :: _, [], ad => by simp [z3_nil2, z3_nil3]
  | _ :: _, _ :: _, _ :: _, _ :: _, [] => by simp [z3_nil1, z3_nil3]
  | a :: al, b :: bl, c :: cl, d :: bd, e :: ad => by
    rw [z3_cons, z3_cons, z3_cons, List.zipWith_cons_cons, z3_cons, z3_assoc_min al bl cl bd ad]
    congr 1
    rw [Int.min_def, Int.min_def, Int.min_def, Int.min_def]
    split <;> split <;> split <;> (try split) <;> omega
theorem z3_assoc_max : ∀ al bl cl bd ad : List Int, z3 (fun x y z => max x (y - z)) al (z3 (fun x y z => max x (y - z)) bl cl bd) ad = z3 (fun x y z => max x (y - z)) (z3 (fun x y z => max x (y - z)) al bl ad) cl (List.zipWith (· + ·) ad bd)
  | [], bl, cl, bd, ad => by simp [z3_nil1]
  | _ :: _, [], cl, bd, ad => by simp [z3_nil1, z3_nil2]
  | _ :: _, _ :: _, [], bd, ad => by simp [z3_nil2]
  | _ :: _, _ :: _, _ :: _, [], ad => by simp [z3_nil2, z3_nil3]
  | _ :: _, _ :: _, _ :: _, _ :: _, [] => by simp [z3_nil1, z3_nil3]
  | a :: al, b :: bl, c :: cl, d :: bd, e :: ad => by
    rw [z3_cons, z3_cons, z3_cons, List.zipWith_cons_cons, z3_cons, z3_assoc_max al bl cl bd ad]
    congr 1
    rw [Int.max_def, Int.max_def, Int.max_def, Int.max_def]
    split <;> split <;> split <;> (try split) <;> omega
theorem cat_assoc (a b c : Sm) : a.cat (b.cat c) = (a.cat b).cat c := by
  unfold Sm.cat
  dsimp only
  rw [zw_assoc, zw_assoc, z3_assoc_min, z3_assoc_max, Int.add_assoc]
theorem beh_assoc {a b c d e : Sm} (ha : 0 ≤ a.len) (hb : 0 ≤ b.len) (hc : 0 ≤ c.len) (h1 : b.beh c = some d) (h2 : a.beh d = some e) : ∃ x, a.beh b = some x ∧ x.beh c = some e := by
  by_cases a0 : a.len = 0
  · rw [beh_0 a0] at h2
    cases h2
    exact ⟨b, beh_0 a0, h1⟩
  rcases beh_cases h1 with ⟨b0, rfl⟩ | ⟨b1, c0, rfl⟩ | ⟨b1, c1, bc, rfl⟩
  · exact ⟨a, beh_1 a0 b0, h2⟩
  · refine ⟨e, h2, ?_⟩
    rcases beh_cases h2 with ⟨z, _⟩ | ⟨_, z, _⟩ | ⟨_, _, _, rfl⟩
    · exact absurd z a0
    · exact absurd z b1
    · exact beh_1 (by show a.len + d.len ≠ 0; omega) c0
  · have l : (b.cat c).len = b.len + c.len := rfl
    rcases beh_cases h2 with ⟨z, _⟩ | ⟨_, z, _⟩ | ⟨_, _, z, rfl⟩
    · exact absurd z a0
    · exact absurd z (by omega)
    · refine ⟨a.cat b, beh_2 a0 b1 z, ?_⟩
      rw [beh_2 (a := a.cat b) (show a.len + b.len ≠ 0 by omega) c1 (show b.e = c.b from bc), cat_assoc]
theorem beh_pos {a b c : Sm} (ha : 0 ≤ a.len) (hb : 0 ≤ b.len) (h : a.beh b = some c) : 0 ≤ c.len ∧ c.len = a.len + b.len := by
  rcases beh_cases h with ⟨h1, rfl⟩ | ⟨h1, h2, rfl⟩ | ⟨h1, h2, h3, rfl⟩
  · omega
  · omega
  · have l : (a.cat b).len = a.len + b.len := rfl
    omega
theorem Run.app {lk : Int → Option Rd} {n t : Nat} {l r : Lg} {f S U : Sm} (h : Run lk n t l f S) (h2 : Run lk n t r S U) : Run lk n t (l.app r) f U := by
  induction h with
  | nil f => exact h2
  | num k0 hk hb _ ih => exact .num k0 hk hb (ih h2)
  | rnd m1 ne ps hi ha hb _ _ ih2 => exact .rnd m1 ne ps hi ha hb (ih2 h2)
theorem Lg.app_ne2 : ∀ {a b : Lg}, b ≠ .nil → a.app b ≠ .nil
  | .nil, b, h => h
  | .num n r, b, _ => fun h => by cases h
  | .rnd m i r, b, _ => fun h => by cases h
theorem Lg.bk_ne : ∀ {l : Lg}, l ≠ .nil → l.bk ≠ .nil
  | .nil, h => absurd rfl h
  | .num n r, _ => Lg.app_ne2 fun h => by cases h
  | .rnd m i r, _ => Lg.app_ne2 fun h => by cases h
theorem rv_zero (n t : Nat) : Rv n t (Sm.zero n t) (Sm.zero n t) := by
  have e : ∀ n : Nat, List.replicate n (0 : Int) = List.zipWith (· + ·) (List.replicate n 0) (List.replicate n 0) := fun n => by
    rw [List.zipWith_replicate, Nat.min_self]
    rfl
  exact ⟨rfl, rfl, rfl, (map_rep0 (f := (-·)) rfl n).symm, e n, e n, Int.le_refl 0, fun _ => rfl⟩
/-- an item more, from behind -/
theorem rev_step {n t : Nat} {f o o' f2 T : Sm} (f0 : 0 ≤ f.len) (fz : f.len = 0 → f = Sm.zero n t) (ho : Rv n t o o') (T0 : 0 ≤ T.len) (hb : f.beh o = some f2) {S : Sm} (k : ∀ f', Rv n t f2 f' → ∃ S', T.beh f' = some S' ∧ Rv n t S S') :
    ∃ U, T.beh o' = some U ∧ 0 ≤ U.len ∧ ∀ f', Rv n t f f' → ∃ S', U.beh f' = some S' ∧ Rv n t S S' := by
  have o0 : 0 ≤ o'.len := by rw [ho.len]; exact ho.pos
  have one : ∀ f', Rv n t f f' → ∃ U S', T.beh o' = some U ∧ U.beh f' = some S' ∧ Rv n t S S' := fun f' hf => by
    obtain ⟨c', e1, r1⟩ := hf.beh ho hb
    obtain ⟨S', e2, r2⟩ := k c' r1
    obtain ⟨U, e3, e4⟩ := beh_assoc T0 o0 (by rw [hf.len]; exact hf.pos) e1 e2
    exact ⟨U, S', e3, e4, r2⟩
  obtain ⟨U, _, e1, _⟩ := one _ (rv_f f0 fz)
  refine ⟨U, e1, (beh_pos T0 o0 e1).1, fun f' hf => ?_⟩
  obtain ⟨U2, S', e2, e3, r⟩ := one f' hf
  rw [e1] at e2
  cases e2
  exact ⟨S', e3, r⟩
theorem beh_z {n t : Nat} {f o c : Sm} (f0 : 0 ≤ f.len) (ho : 0 < o.len) (h : f.beh o = some c) : 0 < c.len := by
  have := (beh_pos f0 (Int.le_of_lt ho) h).2
  omega
theorem Run.rev {lk lk' : Int → Option Rd} {n t : Nat} {g : Int → Int} (one : ∀ k q, 0 ≤ k → lk k = some q → 0 ≤ g k ∧ lk' (g k) = some (backR q)) {l : Lg} {f S : Sm} (h : Run lk n t l f S) : 0 ≤ f.len → (f.len = 0 → f = Sm.zero n t) →
    ∃ T, Run lk' n t (l.mv g).bk (Sm.zero n t) T ∧ 0 ≤ T.len ∧ ∀ f', Rv n t f f' → ∃ S', T.beh f' = some S' ∧ Rv n t S S' := by
  induction h with
  | nil f => exact fun f0 fz => ⟨_, .nil _, Int.le_refl 0, fun f' hf => ⟨f', beh_0 rfl, hf⟩⟩
  | @num k r q f f2 S k0 hk hb hr ih =>
    intro f0 fz
    obtain ⟨g0, hk'⟩ := one k q k0 hk
    have l2 : 0 < f2.len := beh_z (n := n) (t := t) f0 (show (0 : Int) < 1 by decide) hb
    obtain ⟨T, r1, T0, k1⟩ := ih (Int.le_of_lt l2) fun z => absurd z (Int.ne_of_gt l2)
    obtain ⟨U, e1, U0, k2⟩ := rev_step f0 fz (one_rv n t q) T0 hb k1
    exact ⟨U, r1.app (.num g0 hk' e1 (.nil U)), U0, k2⟩
  | @rnd m i r f S1 S2 f2 S m1 ne ps hi ha hb hr ih1 ih2 =>
    intro f0 fz
    obtain ⟨T1, s1, _, k1⟩ := ih1 (Int.le_refl 0) fun _ => rfl
    obtain ⟨S', e0, v0⟩ := k1 _ (rv_zero n t)
    have l1 := v0.len
    have eT : S' = T1 := by
      rcases beh_cases e0 with ⟨_, z⟩ | ⟨_, _, z⟩ | ⟨_, z, _⟩
      · rw [z] at l1
        have : (0 : Int) = S1.len := l1
        omega
      · exact z
      · exact absurd rfl z
    subst eT
    obtain ⟨hbe, rfl⟩ := aga_cases ha
    have ha' : S'.aga m = some (S'.rep m) := aga_1 fun z => by rw [v0.b, v0.e, hbe z]
    have hl : 0 < (S1.rep m).len := Int.mul_pos (by omega) ps
    have l2 : 0 < f2.len := beh_z (n := n) (t := t) f0 hl hb
    obtain ⟨T, r1, T0, k2⟩ := ih2 (Int.le_of_lt l2) fun z => absurd z (Int.ne_of_gt l2)
    obtain ⟨U, e1, U0, k3⟩ := rev_step f0 fz (v0.rep m1 ps) T0 hb k2
    exact ⟨U, r1.app (.rnd m1 (Lg.bk_ne (Lg.mv_ne ne)) (by rw [l1]; exact ps) s1 ha' e1 (.nil U)), U0, k3⟩
theorem Run.back {lk lk' : Int → Option Rd} {n t : Nat} {g : Int → Int} (one : ∀ k q, 0 ≤ k → lk k = some q → 0 ≤ g k ∧ lk' (g k) = some (backR q)) {l : Lg} {S : Sm} (h : Run lk n t l (Sm.zero n t) S) (hS : 0 < S.len) : ∃ S', Run lk' n t (l.mv g).bk (Sm.zero n t) S' ∧ Rv n t S S' := by
  obtain ⟨T, r1, _, k⟩ := h.rev one (Int.le_refl 0) fun _ => rfl
  obtain ⟨S', e0, v0⟩ := k _ (rv_zero n t)
  have l1 := v0.len
  rcases beh_cases e0 with ⟨_, z⟩ | ⟨_, _, z⟩ | ⟨_, z, _⟩
  · rw [z] at l1
    have : (0 : Int) = S.len := l1
    omega
  · exact ⟨T, r1, z ▸ v0⟩
  · exact absurd rfl z
end K19
/-! a drawn log in its own program and in another one -/
namespace K19
open PySem PySem.Spec PyProof.Rows L2
/-- a drawn case -/
structure Cse (p : Pt) (l : Lg) (a e : Int) : Prop where
  ok : PrgOk p.1 p.2.1 p.2.2
  wk : Wk (look p.2.2) l a e
  ne : l ≠ .nil
  len : l.ds.length ≤ 3
  dep : l.dep ≤ 3
  few : l.few
  wt : l.wt ≤ wMax
  a0 : 0 ≤ a ∧ a < p.2.1
  e0 : 0 ≤ e ∧ e < p.2.1
theorem Mw_mono {d : Nat} (h : d ≤ 3) : 3 * Mw d ≤ wMax := by
  have h0 : 3 * Mw 0 ≤ wMax := by decide +kernel
  have h1 : 3 * Mw 1 ≤ wMax := by decide +kernel
  have h2 : 3 * Mw 2 ≤ wMax := by decide +kernel
  have h3 : 3 * Mw 3 ≤ wMax := by decide +kernel
  match d, h with
  | 0, _ => exact h0
  | 1, _ => exact h1
  | 2, _ => exact h2
  | 3, _ => exact h3
  | n + 4, h => exact absurd h (by omega)
theorem Drawn.cse {d : Nat} {p : Pt} {l : Lg} {a e : Int} (h : Drawn d p l a e) (hd : d ≤ 3) (ok : PrgOk p.1 p.2.1 p.2.2) (ha : 0 ≤ a ∧ a < p.2.1) : Cse p l a e := ⟨ok, h.wk, h.ne, h.len, Nat.le_trans h.dep hd, h.few, Int.le_trans h.wt (Mw_mono hd), ha, h.rng⟩
theorem Cse.run {p : Pt} {l : Lg} {a e : Int} (C : Cse p l a e) : ∃ S, Run (look p.2.2) p.1.toNat p.2.1.toNat l (Sm.zero p.1.toNat p.2.1.toNat) S ∧ 0 < S.len ∧ S.b = some a ∧ S.e = some e := C.wk.all C.ne
theorem prgOk_w {s t : Int} {rs : List Rd} (h : PrgOk s t rs) (nd : Bool) : PrW (s, t, rs, nd) := by
  obtain ⟨s0, s4, t0, t8, len, ok, asc⟩ := h
  exact ⟨s0, by show s ≤ 1000; omega, t0, by show t ≤ 1000; omega, fun r hr => (ok r hr).2.2.2.2.1, by show rs.length ≤ 1000; omega⟩
theorem prgOk_b {s t : Int} {rs : List Rd} (h : PrgOk s t rs) : ∀ r ∈ rs, ∀ z ∈ r.st, -1000000000000 ≤ z ∧ z ≤ 1000000000000 := fun r hr => (h.2.2.2.2.2.1 r hr).2.2.2.2.2
theorem small_s {z : Int} (h : -1000000000000 ≤ z ∧ z ≤ 1000000000000) : -sMax ≤ z ∧ z ≤ sMax := by
  have : (1000000000000 : Int) ≤ sMax := by decide +kernel
  omega
theorem Cse.good {p : Pt} {l : Lg} {a e : Int} (C : Cse p l a e) (nd : Bool) {S : Sm} (h : Run (look p.2.2) p.1.toNat p.2.1.toNat l (Sm.zero p.1.toNat p.2.1.toNat) S) : GoodL (p.1, p.2.1, p.2.2, nd) l ∧ sumP (p.1, p.2.1, p.2.2, nd) l = some S :=
  good_of (p := (p.1, p.2.1, p.2.2, nd)) (prgOk_w C.ok nd) (fun r hr z hz => small_s (prgOk_b C.ok r hr z hz)) h (Nat.le_trans C.dep (by decide)) C.wt
/-- the readings of a program that is made of others -/
theorem made_w {s t : Int} {rs0 rs' : List Rd} (asc : Asc rs') (mem : ∀ r, r ∈ rs' ↔ r ∈ rs0) (hs : 1 ≤ s ∧ s ≤ 1000) (ht : 1 ≤ t ∧ t ≤ 1000) (st : ∀ r ∈ rs0, (r.st.length : Int) = s) (len : rs0.length ≤ 1000) (nd : Bool) : PrW (s, t, rs', nd) :=
  ⟨hs.1, hs.2, ht.1, ht.2, fun r hr => st r ((mem r).mp hr), Nat.le_trans (List.Nodup.length_le_of_subset (asc_nodup asc) fun r hr => (mem r).mp hr) len⟩
theorem Cse.other {p : Pt} {l : Lg} {a e : Int} (C : Cse p l a e) {R : Sm → Sm → Prop} {s' t' : Int} {rs' : List Rd} {nd : Bool} {g : Int → Int} {φ : Rd → Rd} {S : Sm} (s : Sim R p.1.toNat p.2.1.toNat s'.toNat t'.toNat) (one : ∀ q ∈ p.2.2, R (Sm.one p.2.1.toNat q) (Sm.one t'.toNat (φ q)))
    (nums : ∀ k q, 0 ≤ k → look p.2.2 k = some q → 0 ≤ g k ∧ look rs' (g k) = some (φ q)) (pw : PrW (s', t', rs', nd)) (bd : ∀ r ∈ rs', ∀ z ∈ r.st, -sMax ≤ z ∧ z ≤ sMax) (h : Run (look p.2.2) p.1.toNat p.2.1.toNat l (Sm.zero p.1.toNat p.2.1.toNat) S) :
    ∃ S', GoodL (s', t', rs', nd) (l.mv g) ∧ sumP (s', t', rs', nd) (l.mv g) = some S' ∧ R S S' := by
  obtain ⟨S', r1, r2⟩ := h.sim (lk' := look rs') (g := g) s (fun k q k0 hk => by
    obtain ⟨g0, e⟩ := nums k q k0 hk
    exact ⟨g0, φ q, e, one q (List.mem_of_getElem? hk)⟩) _ s.z
  obtain ⟨gd, es⟩ := good_of (p := (s', t', rs', nd)) pw bd r1 (by rw [Lg.mv_dep]; exact Nat.le_trans C.dep (by decide)) (by rw [Lg.mv_wt]; exact C.wt)
  exact ⟨S', gd, es, r2⟩
theorem Cse.behind {p : Pt} {l : Lg} {a e : Int} (C : Cse p l a e) {rs' : List Rd} {nd : Bool} {g : Int → Int} {S : Sm} (nums : ∀ k q, 0 ≤ k → look p.2.2 k = some q → 0 ≤ g k ∧ look rs' (g k) = some (backR q)) (pw : PrW (p.1, p.2.1, rs', nd)) (bd : ∀ r ∈ rs', ∀ z ∈ r.st, -sMax ≤ z ∧ z ≤ sMax)
    (h : Run (look p.2.2) p.1.toNat p.2.1.toNat l (Sm.zero p.1.toNat p.2.1.toNat) S) (hS : 0 < S.len) : ∃ S', GoodL (p.1, p.2.1, rs', nd) (l.mv g).bk ∧ sumP (p.1, p.2.1, rs', nd) (l.mv g).bk = some S' ∧ Rv p.1.toNat p.2.1.toNat S S' := by
  obtain ⟨S', r1, r2⟩ := h.back (lk' := look rs') (g := g) nums hS
  obtain ⟨gd, es⟩ := good_of (p := (p.1, p.2.1, rs', nd)) pw bd r1 (Lg.bk_dep (by rw [Lg.mv_dep]; exact Nat.le_trans C.dep (by decide))) (by rw [Lg.bk_wt, Lg.mv_wt]; exact C.wt)
  exact ⟨S', gd, es, r2⟩
/-- the parts of what is told are as long as there are sides -/
theorem Cse.wf {p : Pt} {l : Lg} {a e : Int} (C : Cse p l a e) {S : Sm} (h : Run (look p.2.2) p.1.toNat p.2.1.toNat l (Sm.zero p.1.toNat p.2.1.toNat) S) : S.wf p.1.toNat p.2.1.toNat := by
  obtain ⟨s0, s4, t0, t8, len, ok, asc⟩ := C.ok
  exact sumL_wf (fun r hr => by have := (ok r hr).2.2.2.2.1; omega) (by omega) (by omega) l _ S (Sm.zero_wf (by omega) (by omega)) h.sumL
/-! ### data that are what they are -/
mutual
theorem eqv_self : ∀ d : PyData, PyData.canLay0 d = true → PyData.eqv d d = true
  | .none, _ => by simp [PyData.eqv]
  | .bool b, _ => by simp [PyData.eqv]
  | .int i, _ => by simp [PyData.eqv]
  | .str x, _ => by simp [PyData.eqv]
  | .list xs, h => by
    simp only [PyData.eqv]
    exact eqvAll_self xs (by simpa [PyData.canLay0] using h)
  | .tuple xs, h => by
    simp only [PyData.eqv]
    exact eqvAll_self xs (by simpa [PyData.canLay0] using h)
  | .dict kvs, h => by simp [PyData.canLay0] at h
theorem eqvAll_self : ∀ xs : List PyData, PyData.canLayAll0 xs = true → PyData.eqvAll xs xs = true
  | [], _ => by simp [PyData.eqvAll]
  | x :: xs, h => by
    simp only [PyData.canLayAll0, Bool.and_eq_true] at h
    simp only [PyData.eqvAll, Bool.and_eq_true]
    exact ⟨eqv_self x h.1, eqvAll_self xs h.2⟩
end
theorem shaped_lay {d : PyData} (h : SeqAt.shaped d = true) : PyData.canLay0 d = true := by
  unfold SeqAt.shaped at h
  rw [Bool.and_eq_true] at h
  exact h.1
theorem tells_shaped (S : Sm) : SeqAt.shaped (.list (tellsD (some S))) = true := by
  unfold SeqAt.shaped
  rw [Bool.and_eq_true]
  refine ⟨?_, ?_⟩
  · simp [tellsD, tell, intsD, PyData.canLay0, PyData.canLayAll0, lay_ints]
  · simp [tellsD, tell, intsD, PyData.depth, PyData.depthAll, PySem.W.depth_ints]
theorem pair_shaped (a b : Int) : SeqAt.shaped (.tuple [.int a, .int b]) = true := by
  unfold SeqAt.shaped
  rw [Bool.and_eq_true]
  exact ⟨by simp [PyData.canLay0, PyData.canLayAll0], by simp [PyData.depth, PyData.depthAll]⟩
theorem two_shaped (xs ys : List Int) : SeqAt.shaped (.tuple [intsD xs, intsD ys]) = true := by
  unfold SeqAt.shaped
  rw [Bool.and_eq_true]
  exact ⟨by simp [intsD, PyData.canLay0, PyData.canLayAll0, lay_ints], by simp [intsD, PyData.depth, PyData.depthAll, PySem.W.depth_ints]⟩
/-- what is told the same -/
theorem tells_same {S S' : Sm} {n t : Nat} (h1 : S'.len = S.len) (h2 : S'.ad = S.ad) (h3 : S'.le = S.le) (h4 : S'.mo = S.mo) (_ : S.wf n t) : SeqAt.shaped (.list (tellsD (some S'))) = true ∧ SeqAt.shaped (.list (tellsD (some S))) = true ∧ PyData.eqv (.list (tellsD (some S'))) (.list (tellsD (some S))) = true := by
  refine ⟨tells_shaped S', tells_shaped S, ?_⟩
  have e : tellsD (some S') = tellsD (some S) := by
    unfold tellsD tell
    dsimp only
    rw [h1, h2, h3, h4]
  rw [e]
  exact eqv_self _ (shaped_lay (tells_shaped S))
end K19
namespace K19
open PySem PySem.Spec PyProof.Rows L2
local macro_rules | `(tactic| walk_at "st") => `(tactic| first
  | with_reducible refine ws_seq ?_ | with_reducible refine ws_ret ?_ | with_reducible refine ws_if ?_ | with_reducible refine ws_next ?_
  | with_reducible refine we_int ?_ | with_reducible refine we_bl ?_ | with_reducible refine we_non ?_ | with_reducible refine we_str ?_
  | ((with_reducible refine' we_var ?we ?_); (case we => exact rfl)) | with_reducible refine we_op ?_ | with_reducible refine we_un ?_ | with_reducible refine we_isp ?_ | with_reducible refine we_callE ?_ | with_reducible refine we_callF ?_ | with_reducible refine we_cb ?_ | with_reducible refine wa_cons ?_ | with_reducible refine wa_nil ?_
  | with_reducible refine we_tup ?_ | with_reducible refine we_slT ?_ | with_reducible refine wo_none ?_ | with_reducible refine wo_some ?_
  | with_reducible refine we_andV ?_ | with_reducible refine we_orV ?_ | with_reducible refine we_notV ?_ | with_reducible refine we_chain ?_ | with_reducible refine we_ifE ?_
  | with_reducible refine wt_test ?_ | with_reducible refine wt_B ?_ | with_reducible refine wt_and ?_ | with_reducible refine wt_or ?_ | with_reducible refine wt_not ?_
  | with_reducible refine wr_add ?_ | with_reducible refine wr_sub ?_ | with_reducible refine wr_lt ?_ | with_reducible refine wr_le ?_ | with_reducible refine wr_gt ?_ | with_reducible refine wr_ge ?_ | with_reducible refine wr_eqI ?_ | with_reducible refine wr_neI ?_
  | with_reducible refine wr_rd0 ?_ | with_reducible refine wr_rd1 ?_ | with_reducible refine wr_rd2 ?_ | ((with_reducible refine' wr_ixT ?we ?_); (case we => exact ⟨by decide, rfl⟩))
  | with_reducible refine wr_isN ?_ | with_reducible refine wr_notN ?_ | with_reducible refine wr_isB ?_ | with_reducible refine wr_notB ?_ | with_reducible refine wu_neg ?_
  | with_reducible refine we_sides ?_ | with_reducible refine we_tables ?_ | with_reducible refine we_readings ?_ | with_reducible refine we_begin ?_ | with_reducible refine we_end ?_ | with_reducible refine we_length ?_ | with_reducible refine we_added ?_ | with_reducible refine we_least ?_ | with_reducible refine we_most ?_ | with_reducible refine we_stands ?_
  | with_reducible refine wi_tup ?_ | with_reducible refine wi_rng1 ?_ | with_reducible refine ws_drop ?_
  | with_reducible refine ex_b ?_ | ((with_reducible refine' ex_isi ?wp ?_); (case wp => first | assumption | rfl)) | with_reducible refine ex_prg ?_ | with_reducible refine ex_sm ?_ | with_reducible refine ret_p ?_ | with_reducible refine ret_nl ?_ | with_reducible refine ret_prg ?_ | with_reducible refine ret_sm ?_ | with_reducible refine iteT ?_ | with_reducible refine iteF ?_
  | (with_reducible refine wc_allT ?_) | (with_reducible refine wc_sumT ?_) | (with_reducible refine wc_tup rfl ?_) | (with_reducible refine wc_lenT ?_)
  | (refine ⟨rfl, (_, _, _, _), rfl, (by first | trivial | assumption | decide | omega), rfl, ?_⟩; try dsimp only) | (refine ⟨rfl, (_, _, _), rfl, (by first | trivial | assumption | decide | omega), rfl, ?_⟩; try dsimp only) | (refine ⟨rfl, (_, _), rfl, (by first | trivial | assumption | decide | omega), rfl, ?_⟩; try dsimp only) | (refine ⟨rfl, _, rfl, (by first | trivial | assumption | decide | omega), rfl, ?_⟩; try dsimp only)
  | ((with_reducible refine' iteT' ?wp ?_); (case wp => rfl)) | ((with_reducible refine' iteF' ?wp ?_); (case wp => rfl))
  | (with_reducible refine ws_asg ?_) | ((with_reducible refine wg_name ⟨?wl, ?_⟩); (case wl => exact (Nat.le_of_ble_eq_true rfl))))
local macro_rules | `(tactic| walk_at "st") => `(tactic| first
  | with_reducible refine wc_tupI rfl ?_ | with_reducible refine wc_min ?_ | with_reducible refine wc_max ?_ | with_reducible refine wr_neO ?_ | with_reducible refine wr_eqO ?_
  | with_reducible refine we_mkS ?_ | with_reducible refine ex_mkS ?_ | with_reducible refine we_lcZ ?_ | with_reducible refine we_lcZM ?_ | with_reducible refine we_lcZ3 ?_ | with_reducible refine we_revP ?_ | with_reducible refine we_idx ?_)
local macro_rules | `(tactic| walk_at "st") => `(tactic| first
  | with_reducible refine ws_append ?_ | with_reducible refine we_lcR ?_ | with_reducible refine wc_sortTI ?_ | with_reducible refine we_listRg ?_ | ((with_reducible refine' ws_asgN (wn_nil ⟨?wl, ?_⟩)); (case wl => exact (Nat.le_of_ble_eq_true rfl))))
section
variable {Pg : Program} {w : World} {g : Gk} {mg : Str → Option Value} {base : Heap}
/-! ### renamed -/
abbrev Cx4 := Pt × Lg × Int × Int
abbrev Cx4.ok (x : Cx4) : Prop := Cse x.1 x.2.1 x.2.2.1 x.2.2.2
abbrev Cx4.prg (x : Cx4) : D := .prg x.1.1 x.1.2.1 x.1.2.2 false
abbrev sp_law_renamed_right : DSp := spE (fun x : Cx4 => [.pool, .p x.1.pd, x.prg, .p x.2.1.pd]) Cx4.ok (fun _ => .p (.bool true))
theorem map_nm {nd : Bool} {names : List Int} {r : Rd} {s t : Int} (hn : names.length = t.toNat) (h : r.ok s t) : ((0 ≤ r.x ∧ (names.map PyData.int)[r.x.toNat]? = some (.int (names.getD r.x.toNat 0))) ∧ (0 ≤ r.y ∧ (names.map PyData.int)[r.y.toNat]? = some (.int (names.getD r.y.toNat 0)))) :=
  ⟨ints_at h.1 (by have := h.2.1; have := h.1; omega), ints_at h.2.2.1 (by have := h.2.2.2.1; have := h.2.2.1; omega)⟩
theorem ok_law_renamed_right {f : Addr} {fd : FuncData} (T : Tx g mg) (F : FT g "_law_renamed_right" "_law_renamed_right" s_law_renamed_right f fd) (C_law_mixed : Kn Pg w g mg base "_law_mixed" 2 ["_law_pool_here", "_law_things"] sp_law_mixed) (C_renamed : Kn Pg w g mg base "renamed" 8 ["program", "names"] sp_renamed)
    (C_law_moved : Kn Pg w g mg base "_law_moved" 4 ["_law_log", "_law_numbers_here"] (sp_law_moved 3)) (C_law_numbers : Kn Pg w g mg base "_law_numbers" 1 ["_law_parts", "_law_other", "_law_moved_here"] sp_law_numbers) (C_is_log : Kn Pg w g mg base "is_log" 9 ["program", "thing"] sp_is_log)
    (C_law_tells : Kn Pg w g mg base "_law_tells" 12 ["_law_program_here", "_law_log"] sp_law_tells) (C_visits : Kn Pg w g mg base "visits" 11 ["program", "log", "table"] sp_visits) (C_ends_of : Kn Pg w g mg base "ends_of" 11 ["program", "log"] (spT fun S => if 0 < S.len then .tuple [oi S.b, oi S.e] else .none)) :
    FnOk Pg w g.K mg base CX0 13 f fd ["_law_pool_here", "_law_parts", "_law_program_here", "_law_log"] (spD g sp_law_renamed_right) := by
  refine dok F sc_law_renamed_right (fun es Q ⟨a, e, _⟩ => by rw [e]; rfl) fun cdv A outer s H E hr => ⟨_, (pss_cons (ps_set (i := 4) sc_law_renamed_right.nd rfl (.inr rfl) (pe_callTy call_tuple_of (by rfl) T.f_tuple (by decide +kernel) (pa_cons (pe_kn rfl C_law_mixed (hr.mono (by omega)) (by rfl) (pa_cons (pv 0) (pa_cons (pe_listRg rfl (by rfl) T.f_list (prg_1 (by rfl) T.f_range (pe_ix ix_tup (pv 1) pe_int (fun _ _ => rfl)))) pa_nil))) pa_nil)))
    (pss_cons (ps_set (i := 5) sc_law_renamed_right.nd rfl (.inl rfl) (pe_kn rfl C_renamed (hr.mono (by omega)) (by rfl) (pa_cons (pv 2) (pa_cons (pv 4) pa_nil))))
    (pss_cons (ps_setLc (i := 6) (own := [("_law_one", 10)]) (tt := tYes) rfl sc_law_renamed_right.nd rfl rfl (sw_true rfl rfl rfl (by kernel_rfl)) (pi_tup (pe_ix ix_tup (pv 1) pe_int (fun _ _ => rfl))) (blkOk_by (by kernel_rfl)) (fun _ _ _ _ _ => (pg_name (i := 10) sc_law_renamed_right.nd rfl (.inl rfl))) (fun _ _ _ _ _ => pts_nil) (fun _ _ _ _ _ => (pe_tup (pa_cons (pe_ix (ix_tupG (K := g.K) rfl) (pv 4) (pe_ix (ix_tupG (K := g.K) rfl) (pv 10) pe_int (fun _ _ => rfl)) (fun _ _ => rfl)) (pa_cons (pe_ix (ix_tupG (K := g.K) rfl) (pv 4) (pe_ix (ix_tupG (K := g.K) rfl) (pv 10) pe_int (fun _ _ => rfl)) (fun _ _ => rfl)) (pa_cons (pe_ix (ix_tupG (K := g.K) rfl) (pv 10) pe_int (fun _ _ => rfl)) pa_nil))))))
    (pss_cons (ps_set (i := 7) sc_law_renamed_right.nd rfl (.inl rfl) (pe_kn rfl C_law_moved (hr.mono (by omega)) (by rfl) (pa_cons (pv 3) (pa_cons (pe_kn rfl C_law_numbers (hr.mono (by omega)) (by rfl) (pa_cons (pv 1) (pa_cons (pv 5) (pa_cons (pv 6) pa_nil)))) pa_nil))))
    (pss_cons (ps_if (PW.pt (pw_or (pt_cmpR op_isnot_bl (pe_kn rfl C_is_log (hr.mono (by omega)) (by rfl) (pa_cons (pv 5) (pa_cons (pv 7) pa_nil))) pe_bl (nomark _)) (pw_or1 (pt_cmpR (op_neD hr.units) (pe_kn rfl C_law_tells (hr.mono (by omega)) (by rfl) (pa_cons (pv 5) (pa_cons (pv 7) pa_nil))) (pe_kn rfl C_law_tells (hr.mono (by omega)) (by rfl) (pa_cons (pv 2) (pa_cons (pv 3) pa_nil))) (nomark _)))))
    (pss_one (ps_ret pe_bl))
    pss_nil)
    (pss_cons (ps_for PassesOwn.never rfl (pi_range1 (by rfl) T.f_range (pa_cons (pe_ix ix_tup (pv 1) pe_int (fun _ _ => rfl)) pa_nil)) (pg_name (i := 8) sc_law_renamed_right.nd rfl (.inl rfl))
    (pss_one (ps_if (pt_cmpR op_ne (pe_kn rfl C_visits (hr.mono (by omega)) (by rfl) (pa_cons (pv 5) (pa_cons (pv 7) (pa_cons (pe_ix ix_tup (pv 4) (pv 8) (fun _ _ => rfl)) pa_nil)))) (pe_kn rfl C_visits (hr.mono (by omega)) (by rfl) (pa_cons (pv 2) (pa_cons (pv 3) (pa_cons (pv 8) pa_nil)))) (nomark _))
    (pss_one (ps_ret pe_bl))
    pss_nil)))
    (pss_cons (ps_set (i := 9) sc_law_renamed_right.nd rfl (.inl rfl) (pe_kn rfl C_ends_of (hr.mono (by omega)) (by rfl) (pa_cons (pv 2) (pa_cons (pv 3) pa_nil))))
    (pss_one (ps_ret (pe_cmpR (op_eqD hr.units) (pe_kn rfl C_ends_of (hr.mono (by omega)) (by rfl) (pa_cons (pv 5) (pa_cons (pv 7) pa_nil))) (pe_tup (pa_cons (pe_ix ix_tup (pv 4) (pe_ix ix_tup (pv 9) pe_int (fun _ _ => rfl)) (fun _ _ => rfl)) (pa_cons (pe_ix ix_tup (pv 4) (pe_ix ix_tup (pv 9) pe_int (fun _ _ => rfl)) (fun _ _ => rfl)) pa_nil))) (nomark _))))))))))), fun c es Q ⟨⟨⟨ps, pt, pr⟩, l, a, e⟩, ee, hd, q⟩ => ?_⟩
  subst ee
  try dsimp only [cxOf, Cx.nox, Cx.wish]
  refine ws_ds (ds' := [some .pool, some (.p (Pt.pd (ps, pt, pr))), some (.prg ps pt pr false), some (.p l.pd), none, none, none, none, none, none, none]) rfl ?_
  have C : Cse (ps, pt, pr) l a e := hd
  have q : Q (.p (.bool true)) := q.2
  clear hd
  obtain ⟨s0, s4, t0, t8, len, ok, asc⟩ := id C.ok
  dsimp only at s0 s4 t0 t8 len ok asc
  obtain ⟨S, hS, hl, hb, he⟩ := C.run
  have g1 := C.good false hS
  -- the names
  refine ws_seq (ws_asg ?_)
  repeat walk_at "st"
  refine ⟨pt.toNat, by rw [show ((pt.toNat : Nat) : Int) = pt by omega], by omega, ?_⟩
  repeat walk_at "st"
  refine ⟨rfl, _, rfl, by rw [List.length_map, List.length_range]; omega, fun d ⟨ys, ed, pm⟩ => ?_⟩
  subst ed
  obtain ⟨names, en, pn⟩ := preimage PyData.int (L := upTo pt.toNat) (vs := ys) (by unfold upTo; rw [List.map_map]; exact pm)
  subst en
  refine ⟨rfl, ?_⟩
  refine wa_nil (wc_tupI rfl (wg_name ⟨Nat.le_of_ble_eq_true rfl, ?_⟩))
  have nl : names.length = pt.toNat := by rw [pn.length_eq, upTo, List.length_map, List.length_range]
  -- the other program
  refine ws_seq (ws_asg ?_)
  repeat walk_at "st"
  refine ⟨rfl, ((ps, pt, pr, false), names), rfl, ⟨pn, by show 0 ≤ pt; omega, by show pt ≤ 1000; omega, by show pr.length < 64; omega, fun r hr => ⟨(ok r hr).1, (ok r hr).2.1, (ok r hr).2.2.1, (ok r hr).2.2.2.1⟩⟩, fun d hd => ?_⟩
  obtain ⟨rs', ed, asc', mem⟩ := hd
  dsimp only at ed mem
  subst ed
  refine ⟨rfl, wg_name ⟨Nat.le_of_ble_eq_true rfl, ?_⟩⟩
  refine ws_ds (ds' := [some .pool, some (.p (Pt.pd (ps, pt, pr))), some (.prg ps pt pr false), some (.p l.pd), some (.p (intsD names)), some (.prg ps pt rs' true), none, none, none, none, none]) rfl ?_
  -- the readings there
  refine ws_seq (ws_asg (we_mapT (α := Rd) (wi_tup ?_)))
  repeat walk_at "st"
  refine ⟨pr.map Rd.pd, rfl, pr, Rd.pd, fun r => (nameR names r).pd, rfl, by omega, fun r hr => ⟨[(10, r.pd)], tgt_name, rfl, ?_⟩, ?_⟩
  · refine we_tupR (r := nameR names r) ?_
    have mn := map_nm (nd := false) nl (ok r hr)
    repeat walk_at "st"
    refine wr_ixT mn.1 ?_
    repeat walk_at "st"
    refine wr_ixT mn.2 ?_
    repeat walk_at "st"
    exact ⟨rfl, rfl, rfl⟩
  rw [show (pr.map fun r => (nameR names r).pd) = (pr.map (nameR names)).map Rd.pd by rw [List.map_map]; rfl]
  refine wg_name ⟨Nat.le_of_ble_eq_true rfl, ?_⟩
  -- the log there
  refine ws_seq (ws_asg ?_)
  repeat walk_at "st"
  refine ⟨rfl, ((ps, pt, pr), (ps, pt, rs'), pr.map (nameR names)), rfl, ⟨by show pr.length = (pr.map (nameR names)).length; rw [List.length_map], by show (pr.map (nameR names)).length ≤ 1000; rw [List.length_map]; omega, asc_nodup asc', fun r hr => (mem r).mpr hr⟩, fun d ⟨ns, ed, nums⟩ => ?_⟩
  subst ed
  refine ⟨rfl, ?_⟩
  repeat walk_at "st"
  have nsl : ns.length = pr.length := by rw [nums.1, List.length_map]
  refine ⟨rfl, (l, ns), rfl, ⟨by show l.inn ns.length; rw [nsl]; exact C.wk.inn, C.dep, C.few, by show l.ds.length ≤ 100; have := C.len; omega⟩, rfl, wg_name ⟨Nat.le_of_ble_eq_true rfl, ?_⟩⟩
  dsimp only
  have N := perm_nm pn
  have b12 := prgOk_b C.ok
  obtain ⟨S', g2, e2, R⟩ := C.other (R := RNm (fun x => names.getD x.toNat 0) pt.toNat) (s' := ps) (t' := pt) (rs' := rs') (nd := true) (g := byL ns) (φ := nameR names) (sim_nm N _) (fun r hr => one_nm N ⟨(ok r hr).1, by have := (ok r hr).2.1; omega⟩ ⟨(ok r hr).2.2.1, by have := (ok r hr).2.2.2.1; omega⟩) (fun k r k0 hk => nums_look nums hk)
    (made_w asc' mem ⟨s0, by omega⟩ ⟨t0, by omega⟩ (fun r hr => by
      obtain ⟨r0, h0, rfl⟩ := List.mem_map.mp hr
      exact (ok r0 h0).2.2.2.2.1) (by rw [List.length_map]; omega) true) (fun r hr z hz => by
      obtain ⟨r0, h0, rfl⟩ := List.mem_map.mp ((mem r).mp hr)
      exact small_s (b12 r0 h0 z hz)) hS
  obtain ⟨g1, e1⟩ := g1
  have tq := tells_same (by rw [R.len]) (by rw [R.ad]) (by rw [R.le]) (by rw [R.mo]) (C.wf hS)
  refine ws_ds (ds' := [some .pool, some (.p (Pt.pd (ps, pt, pr))), some (.prg ps pt pr false), some (.p l.pd), some (.p (intsD names)), some (.prg ps pt rs' true), some (.nl ((pr.map (nameR names)).map Rd.pd)), some (.p (l.mv (byL ns)).pd), none, none, none]) rfl ?_
  repeat walk_at "st"
  refine ⟨rfl, ((ps, pt, rs', true), l.mv (byL ns)), rfl, g2, rfl, ?_⟩
  repeat walk_at "st"
  refine ⟨rfl, ((ps, pt, rs', true), l.mv (byL ns)), rfl, g2, rfl, ?_⟩
  repeat walk_at "st"
  rw [e2, show sumP (ps, pt, pr, false) l = some S from e1]
  refine wr_neL rfl rfl tq.1 tq.2.1 ?_
  rw [tq.2.2]
  repeat walk_at "st"
  -- how often in each table
  refine ws_for (wi_rng1 ?_)
  repeat walk_at "st"
  refine ⟨pt, rfl, by omega, by omega, fun k ds ms => ms = [] ∧ ∃ a8 : Option D, ds = [some .pool, some (.p (Pt.pd (ps, pt, pr))), some (.prg ps pt pr false), some (.p l.pd), some (.p (intsD names)), some (.prg ps pt rs' true), some (.nl ((pr.map (nameR names)).map Rd.pd)), some (.p (l.mv (byL ns)).pd), a8, none, none], ⟨rfl, _, rfl⟩, fun k y ds2 ms2 hy ⟨em, a8, ed⟩ => ?_, fun ds2 ms2 ⟨em, a8, ed⟩ => ?_⟩
  · subst em ed
    obtain ⟨hk, rfl⟩ := rngD_get hy
    refine wg_name ⟨Nat.le_of_ble_eq_true rfl, ?_⟩
    refine ws_ds (ds' := [some .pool, some (.p (Pt.pd (ps, pt, pr))), some (.prg ps pt pr false), some (.p l.pd), some (.p (intsD names)), some (.prg ps pt rs' true), some (.nl ((pr.map (nameR names)).map Rd.pd)), some (.p (l.mv (byL ns)).pd), some (.p (.int (0 + (k : Int)))), none, none]) rfl ?_
    have k0 : 0 ≤ 0 + (k : Int) := by omega
    have k1 : 0 + (k : Int) < pt := by omega
    generalize 0 + (k : Int) = j at k0 k1
    have nj := N.rng j k0 (by omega)
    have aj := at_nm N R (i := j) k0 (by omega)
    repeat walk_at "st"
    refine wr_ixT (ints_at (l := names) k0 (by omega)) ?_
    repeat walk_at "st"
    refine ⟨rfl, ((ps, pt, rs', true), l.mv (byL ns), names.getD j.toNat 0), rfl, ⟨g2, nj.1, by show names.getD j.toNat 0 < pt; omega⟩, rfl, ?_⟩
    repeat walk_at "st"
    rw [e2, show sumP (ps, pt, pr, false) l = some S from e1]
    dsimp only [tell]
    rw [aj]
    refine wr_neI ?_
    rw [decide_eq_true rfl]
    repeat walk_at "st"
    exact ⟨rfl, _, rfl⟩
  · subst em ed
    have n1 := N.rng a C.a0.1 (by have := C.a0.2; dsimp only at this; omega)
    refine ws_seq (ws_asg (we_callE (wa_cons (we_var rfl (wa_cons (we_var rfl (wa_nil ?_)))))))
    refine ⟨rfl, ((ps, pt, pr, false), l), rfl, g1, rfl, ?_⟩
    dsimp only
    rw [show sumP (ps, pt, pr, false) l = some S from e1]
    dsimp only [tell]
    rw [if_pos hl, hb, he]
    refine wg_name ⟨Nat.le_of_ble_eq_true rfl, ?_⟩
    refine ws_ds (ds' := [some .pool, some (.p (Pt.pd (ps, pt, pr))), some (.prg ps pt pr false), some (.p l.pd), some (.p (intsD names)), some (.prg ps pt rs' true), some (.nl ((pr.map (nameR names)).map Rd.pd)), some (.p (l.mv (byL ns)).pd), a8, some (.p (.tuple [.int a, .int e])), none]) rfl ?_
    refine ws_ret (we_op ?_)
    repeat walk_at "st"
    refine ⟨rfl, ((ps, pt, rs', true), l.mv (byL ns)), rfl, g2, rfl, ?_⟩
    dsimp only
    rw [e2]
    dsimp only [tell]
    rw [if_pos (by rw [R.len]; exact hl), R.b, R.e, hb, he]
    repeat walk_at "st"
    refine wr_ixT (ints_at (l := names) C.a0.1 (by have := C.a0.2; dsimp only at this; omega)) ?_
    repeat walk_at "st"
    refine wr_ixT (ints_at (l := names) C.e0.1 (by have := C.e0.2; dsimp only at this; omega)) ?_
    repeat walk_at "st"
    refine ⟨[.int (names.getD a.toNat 0), .int (names.getD e.toNat 0)], rfl, Nat.le_of_ble_eq_true rfl, ?_⟩
    refine wr_eqD (pair_shaped _ _) (pair_shaped _ _) ?_
    rw [show PyData.eqv (.tuple [oi (Option.map (fun x => names.getD x.toNat 0) (some a)), oi (Option.map (fun x => names.getD x.toNat 0) (some e))]) (.tuple [.int (names.getD a.toNat 0), .int (names.getD e.toNat 0)]) = true from eqv_self _ (shaped_lay (pair_shaped _ _))]
    exact ⟨rfl, q⟩
end
end K19
namespace K19
open PySem PySem.Spec PyProof.Rows L2
local macro_rules | `(tactic| walk_at "st") => `(tactic| first
  | with_reducible refine ws_seq ?_ | with_reducible refine ws_ret ?_ | with_reducible refine ws_if ?_ | with_reducible refine ws_next ?_
  | with_reducible refine we_int ?_ | with_reducible refine we_bl ?_ | with_reducible refine we_non ?_ | with_reducible refine we_str ?_
  | ((with_reducible refine' we_var ?we ?_); (case we => exact rfl)) | with_reducible refine we_op ?_ | with_reducible refine we_un ?_ | with_reducible refine we_isp ?_ | with_reducible refine we_callE ?_ | with_reducible refine we_callF ?_ | with_reducible refine we_cb ?_ | with_reducible refine wa_cons ?_ | with_reducible refine wa_nil ?_
  | with_reducible refine we_tup ?_ | with_reducible refine we_slT ?_ | with_reducible refine wo_none ?_ | with_reducible refine wo_some ?_
  | with_reducible refine we_andV ?_ | with_reducible refine we_orV ?_ | with_reducible refine we_notV ?_ | with_reducible refine we_chain ?_ | with_reducible refine we_ifE ?_
  | with_reducible refine wt_test ?_ | with_reducible refine wt_B ?_ | with_reducible refine wt_and ?_ | with_reducible refine wt_or ?_ | with_reducible refine wt_not ?_
  | with_reducible refine wr_add ?_ | with_reducible refine wr_sub ?_ | with_reducible refine wr_lt ?_ | with_reducible refine wr_le ?_ | with_reducible refine wr_gt ?_ | with_reducible refine wr_ge ?_ | with_reducible refine wr_eqI ?_ | with_reducible refine wr_neI ?_
  | with_reducible refine wr_rd0 ?_ | with_reducible refine wr_rd1 ?_ | with_reducible refine wr_rd2 ?_ | ((with_reducible refine' wr_ixT ?we ?_); (case we => exact ⟨by decide, rfl⟩))
  | with_reducible refine wr_isN ?_ | with_reducible refine wr_notN ?_ | with_reducible refine wr_isB ?_ | with_reducible refine wr_notB ?_ | with_reducible refine wu_neg ?_
  | with_reducible refine we_sides ?_ | with_reducible refine we_tables ?_ | with_reducible refine we_readings ?_ | with_reducible refine we_begin ?_ | with_reducible refine we_end ?_ | with_reducible refine we_length ?_ | with_reducible refine we_added ?_ | with_reducible refine we_least ?_ | with_reducible refine we_most ?_ | with_reducible refine we_stands ?_
  | with_reducible refine wi_tup ?_ | with_reducible refine wi_rng1 ?_ | with_reducible refine ws_drop ?_
  | with_reducible refine ex_b ?_ | ((with_reducible refine' ex_isi ?wp ?_); (case wp => first | assumption | rfl)) | with_reducible refine ex_prg ?_ | with_reducible refine ex_sm ?_ | with_reducible refine ret_p ?_ | with_reducible refine ret_nl ?_ | with_reducible refine ret_prg ?_ | with_reducible refine ret_sm ?_ | with_reducible refine iteT ?_ | with_reducible refine iteF ?_
  | (with_reducible refine wc_allT ?_) | (with_reducible refine wc_sumT ?_) | (with_reducible refine wc_tup rfl ?_) | (with_reducible refine wc_lenT ?_)
  | (refine ⟨rfl, (_, _, _, _), rfl, (by first | trivial | assumption | decide | omega), rfl, ?_⟩; try dsimp only) | (refine ⟨rfl, (_, _, _), rfl, (by first | trivial | assumption | decide | omega), rfl, ?_⟩; try dsimp only) | (refine ⟨rfl, (_, _), rfl, (by first | trivial | assumption | decide | omega), rfl, ?_⟩; try dsimp only) | (refine ⟨rfl, _, rfl, (by first | trivial | assumption | decide | omega), rfl, ?_⟩; try dsimp only)
  | ((with_reducible refine' iteT' ?wp ?_); (case wp => rfl)) | ((with_reducible refine' iteF' ?wp ?_); (case wp => rfl))
  | (with_reducible refine ws_asg ?_) | ((with_reducible refine wg_name ⟨?wl, ?_⟩); (case wl => exact (Nat.le_of_ble_eq_true rfl))))
local macro_rules | `(tactic| walk_at "st") => `(tactic| first
  | with_reducible refine wc_tupI rfl ?_ | with_reducible refine wc_min ?_ | with_reducible refine wc_max ?_ | with_reducible refine wr_neO ?_ | with_reducible refine wr_eqO ?_
  | with_reducible refine we_mkS ?_ | with_reducible refine ex_mkS ?_ | with_reducible refine we_lcZ ?_ | with_reducible refine we_lcZM ?_ | with_reducible refine we_lcZ3 ?_ | with_reducible refine we_revP ?_ | with_reducible refine we_idx ?_)
local macro_rules | `(tactic| walk_at "st") => `(tactic| first
  | with_reducible refine ws_append ?_ | with_reducible refine we_lcR ?_ | with_reducible refine wc_sortTI ?_ | with_reducible refine we_listRg ?_ | ((with_reducible refine' ws_asgN (wn_nil ⟨?wl, ?_⟩)); (case wl => exact (Nat.le_of_ble_eq_true rfl))))
section
variable {Pg : Program} {w : World} {g : Gk} {mg : Str → Option Value} {base : Heap}
/-! ### turned about -/
abbrev sp_law_backward_right : DSp := spE (fun x : Cx4 => [.p x.1.pd, x.prg, .p x.2.1.pd]) Cx4.ok (fun _ => .p (.bool true))
theorem ok_law_backward_right {f : Addr} {fd : FuncData} (T : Tx g mg) (F : FT g "_law_backward_right" "_law_backward_right" s_law_backward_right f fd) (C_backward : Kn Pg w g mg base "backward" 8 ["program"] sp_backward)
    (C_law_moved : Kn Pg w g mg base "_law_moved" 4 ["_law_log", "_law_numbers_here"] (sp_law_moved 3)) (C_law_from_behind : Kn Pg w g mg base "_law_from_behind" 4 ["_law_log"] (sp_law_from_behind 3)) (C_law_numbers : Kn Pg w g mg base "_law_numbers" 1 ["_law_parts", "_law_other", "_law_moved_here"] sp_law_numbers) (C_is_log : Kn Pg w g mg base "is_log" 9 ["program", "thing"] sp_is_log)
    (C_length : Kn Pg w g mg base "length" 11 ["program", "log"] (spT fun S => .int S.len)) (C_added : Kn Pg w g mg base "added" 11 ["program", "log"] (spT fun S => intsD S.ad))
    (C_reach : Kn Pg w g mg base "reach" 11 ["program", "log"] (spT fun S => .tuple [intsD S.le, intsD S.mo])) (C_ends_of : Kn Pg w g mg base "ends_of" 11 ["program", "log"] (spT fun S => if 0 < S.len then .tuple [oi S.b, oi S.e] else .none)) :
    FnOk Pg w g.K mg base CX0 13 f fd ["_law_parts", "_law_program_here", "_law_log"] (spD g sp_law_backward_right) := by
  refine dok F sc_law_backward_right (fun es Q ⟨a, e, _⟩ => by rw [e]; rfl) fun cdv A outer s H E hr => ⟨_, (pss_cons (ps_set (i := 3) sc_law_backward_right.nd rfl (.inl rfl) (pe_kn rfl C_backward (hr.mono (by omega)) (by rfl) (pa_cons (pv 1) pa_nil)))
    (pss_cons (ps_setLc (i := 4) (own := [("_law_one", 11)]) (tt := tYes) rfl sc_law_backward_right.nd rfl rfl (sw_true rfl rfl rfl (by kernel_rfl)) (pi_tup (pe_ix ix_tup (pv 0) pe_int (fun _ _ => rfl))) (blkOk_by (by kernel_rfl)) (fun _ _ _ _ _ => (pg_name (i := 11) sc_law_backward_right.nd rfl (.inl rfl))) (fun _ _ _ _ _ => pts_nil) (fun _ _ _ _ _ => (pe_tup (pa_cons (pe_ix (ix_tupG (K := g.K) rfl) (pv 11) pe_int (fun _ _ => rfl)) (pa_cons (pe_ix (ix_tupG (K := g.K) rfl) (pv 11) pe_int (fun _ _ => rfl)) (pa_cons (pe_callTy (call_tupG (K := g.K) rfl) (by rfl) T.f_tuple (by decide +kernel) (pa_cons (pe_lc (own := [("_law_item", 12)]) (tt := tYes) rfl sc_law_backward_right.nd (pi_tupG (K := g.K) rfl (pe_ix (ix_tupG (K := g.K) rfl) (pv 11) pe_int (fun _ _ => rfl))) (blkOk_by (by kernel_rfl)) (fun _ _ _ _ _ => (pg_name (i := 12) sc_law_backward_right.nd rfl (.inl rfl))) (fun _ _ _ _ _ => pts_nil) (fun _ _ _ _ _ => (pe_op op_sub pe_int (pv 12)))) pa_nil)) pa_nil))))))
    (pss_cons (ps_set (i := 5) sc_law_backward_right.nd rfl (.inl rfl) (pe_kn rfl C_law_from_behind (hr.mono (by omega)) (by rfl) (pa_cons (pe_kn rfl C_law_moved (hr.mono (by omega)) (by rfl) (pa_cons (pv 2) (pa_cons (pe_kn rfl C_law_numbers (hr.mono (by omega)) (by rfl) (pa_cons (pv 0) (pa_cons (pv 3) (pa_cons (pv 4) pa_nil)))) pa_nil))) pa_nil)))
    (pss_cons (ps_set (i := 6) sc_law_backward_right.nd rfl (.inl rfl) (pe_kn rfl C_added (hr.mono (by omega)) (by rfl) (pa_cons (pv 1) (pa_cons (pv 2) pa_nil))))
    (pss_cons (ps_asg (pe_kn rfl C_reach (hr.mono (by omega)) (by rfl) (pa_cons (pv 1) (pa_cons (pv 2) pa_nil))) (pg_tup (by rfl) (pgs_cons (pg_name (i := 7) sc_law_backward_right.nd rfl (.inl rfl)) (pgs_cons (pg_name (i := 8) sc_law_backward_right.nd rfl (.inl rfl)) pgs_nil))))
    (pss_cons (ps_set (i := 9) sc_law_backward_right.nd rfl (.inl rfl) (pe_callTy call_tuple_of (by rfl) T.f_tuple (by decide +kernel) (pa_cons (pe_lc (own := [("_law_item", 12), ("_law_part", 13)]) (tt := tYes) (g := gTup g.K 2 (gCons (gName 12) (gCons (gName 13) gNil))) rfl sc_law_backward_right.nd (RZ.pi_zipA (by rfl) T.f_zip (pa_cons (pv 7) (pa_cons (pv 6) pa_nil))) (blkOk_by (by kernel_rfl)) (fun _ _ _ _ _ => (pg_tup (by rfl) (pgs_cons (pg_name (i := 12) sc_law_backward_right.nd rfl (.inl rfl)) (pgs_cons (pg_name (i := 13) sc_law_backward_right.nd rfl (.inl rfl)) pgs_nil)))) (fun _ _ _ _ _ => pts_nil) (fun _ _ _ _ _ => (pe_op op_add (pv 12) (pv 13)))) pa_nil)))
    (pss_cons (ps_set (i := 10) sc_law_backward_right.nd rfl (.inl rfl) (pe_callTy call_tuple_of (by rfl) T.f_tuple (by decide +kernel) (pa_cons (pe_lc (own := [("_law_item", 12), ("_law_part", 13)]) (tt := tYes) (g := gTup g.K 2 (gCons (gName 12) (gCons (gName 13) gNil))) rfl sc_law_backward_right.nd (RZ.pi_zipA (by rfl) T.f_zip (pa_cons (pv 8) (pa_cons (pv 6) pa_nil))) (blkOk_by (by kernel_rfl)) (fun _ _ _ _ _ => (pg_tup (by rfl) (pgs_cons (pg_name (i := 12) sc_law_backward_right.nd rfl (.inl rfl)) (pgs_cons (pg_name (i := 13) sc_law_backward_right.nd rfl (.inl rfl)) pgs_nil)))) (fun _ _ _ _ _ => pts_nil) (fun _ _ _ _ _ => (pe_op op_add (pv 12) (pv 13)))) pa_nil)))
    (pss_cons (ps_if (PW.pt (pw_or (pt_cmpR op_isnot_bl (pe_kn rfl C_is_log (hr.mono (by omega)) (by rfl) (pa_cons (pv 3) (pa_cons (pv 5) pa_nil))) pe_bl (nomark _)) (pw_or1 (pt_cmpR (op_neD hr.units) (pe_kn rfl C_added (hr.mono (by omega)) (by rfl) (pa_cons (pv 3) (pa_cons (pv 5) pa_nil))) (pe_callTy call_tuple_of (by rfl) T.f_tuple (by decide +kernel) (pa_cons (pe_lc (own := [("_law_item", 12)]) (tt := tYes) rfl sc_law_backward_right.nd (pi_tup (pv 6)) (blkOk_by (by kernel_rfl)) (fun _ _ _ _ _ => (pg_name (i := 12) sc_law_backward_right.nd rfl (.inl rfl))) (fun _ _ _ _ _ => pts_nil) (fun _ _ _ _ _ => (pe_op op_sub pe_int (pv 12)))) pa_nil)) (nomark _)))))
    (pss_one (ps_ret pe_bl))
    pss_nil)
    (pss_cons (ps_if (PW.pt (pw_or (pt_cmpR (op_neD hr.units) (pe_kn rfl C_reach (hr.mono (by omega)) (by rfl) (pa_cons (pv 3) (pa_cons (pv 5) pa_nil))) (pe_tup (pa_cons (pv 9) (pa_cons (pv 10) pa_nil))) (nomark _)) (pw_or1 (pt_cmpR op_ne (pe_kn rfl C_length (hr.mono (by omega)) (by rfl) (pa_cons (pv 3) (pa_cons (pv 5) pa_nil))) (pe_kn rfl C_length (hr.mono (by omega)) (by rfl) (pa_cons (pv 1) (pa_cons (pv 2) pa_nil))) (nomark _)))))
    (pss_one (ps_ret pe_bl))
    pss_nil)
    (pss_one (ps_ret (pe_cmpR (op_eqD hr.units) (pe_kn rfl C_ends_of (hr.mono (by omega)) (by rfl) (pa_cons (pv 3) (pa_cons (pv 5) pa_nil))) (pe_revT (pe_kn rfl C_ends_of (hr.mono (by omega)) (by rfl) (pa_cons (pv 1) (pa_cons (pv 2) pa_nil)))) (nomark _))))))))))))), fun c es Q ⟨⟨⟨ps, pt, pr⟩, l, a, e⟩, ee, hd, q⟩ => ?_⟩
  subst ee
  try dsimp only [cxOf, Cx.nox, Cx.wish]
  refine ws_ds (ds' := [some (.p (Pt.pd (ps, pt, pr))), some (.prg ps pt pr false), some (.p l.pd), none, none, none, none, none, none, none, none, none, none, none]) rfl ?_
  have C : Cse (ps, pt, pr) l a e := hd
  have q : Q (.p (.bool true)) := q.2
  clear hd
  obtain ⟨s0, s4, t0, t8, len, ok, asc⟩ := id C.ok
  dsimp only at s0 s4 t0 t8 len ok asc
  obtain ⟨S, hS, hl, hb, he⟩ := C.run
  obtain ⟨g1, e1⟩ := C.good false hS
  have e1 : sumP (ps, pt, pr, false) l = some S := e1
  have g1 : GoodL (ps, pt, pr, false) l := g1
  have wf := C.wf hS
  have stl : ∀ r ∈ pr, r.st.length ≤ 1000 := fun r hr => by have := (ok r hr).2.2.2.2.1; omega
  -- the other program
  refine ws_seq (ws_asg (we_callF (wa_cons (we_var rfl (wa_nil ?_)))))
  refine ⟨rfl, (ps, pt, pr, false), rfl, ⟨by show pr.length < 64; omega, stl⟩, fun d hd => ?_⟩
  obtain ⟨rs', ed, asc', mem⟩ := hd
  dsimp only at ed mem
  subst ed
  refine ⟨rfl, wg_name ⟨Nat.le_of_ble_eq_true rfl, ?_⟩⟩
  refine ws_ds (ds' := [some (.p (Pt.pd (ps, pt, pr))), some (.prg ps pt pr false), some (.p l.pd), some (.prg ps pt rs' true), none, none, none, none, none, none, none, none, none, none]) rfl ?_
  -- the readings there
  refine ws_seq (ws_asg (we_mapT (α := Rd) (wi_tup ?_)))
  repeat walk_at "st"
  refine ⟨pr.map Rd.pd, rfl, pr, Rd.pd, fun r => (backR r).pd, rfl, by omega, fun r hr => ⟨[(11, r.pd)], tgt_name, rfl, ?_⟩, ?_⟩
  · refine we_tupR (r := backR r) ?_
    repeat walk_at "st"
    refine we_lcI ?_
    repeat walk_at "st"
    refine ⟨r.st, rfl, stl r hr, rfl, fun z => -z, fun z hz => ?_, ?_⟩
    · repeat walk_at "st"
      exact ⟨by rw [Int.zero_sub], rfl⟩
    · repeat walk_at "st"
      exact ⟨rfl, rfl, rfl⟩
  rw [show (pr.map fun r => (backR r).pd) = (pr.map backR).map Rd.pd by rw [List.map_map]; rfl]
  refine wg_name ⟨Nat.le_of_ble_eq_true rfl, ?_⟩
  -- the log there
  refine ws_seq (ws_asg (we_callE (wa_cons (we_callE (wa_cons (we_var rfl (wa_cons (we_callF (wa_cons (we_var rfl (wa_cons (we_var rfl (wa_cons (we_var rfl (wa_nil ?_)))))))))))))))
  refine ⟨rfl, ((ps, pt, pr), (ps, pt, rs'), pr.map backR), rfl, ⟨by show pr.length = (pr.map backR).length; rw [List.length_map], by show (pr.map backR).length ≤ 1000; rw [List.length_map]; omega, asc_nodup asc', fun r hr => (mem r).mpr hr⟩, fun d ⟨ns, ed, nums⟩ => ?_⟩
  subst ed
  refine ⟨rfl, wa_nil ?_⟩
  have nsl : ns.length = pr.length := by rw [nums.1, List.length_map]
  refine ⟨rfl, (l, ns), rfl, ⟨by show l.inn ns.length; rw [nsl]; exact C.wk.inn, C.dep, C.few, by show l.ds.length ≤ 100; have := C.len; omega⟩, rfl, wa_nil ?_⟩
  dsimp only
  refine ⟨rfl, l.mv (byL ns), rfl, ⟨by rw [Lg.mv_dep]; exact C.dep, Lg.mv_few _ l C.few, by rw [Lg.mv_len]; have := C.len; omega⟩, rfl, wg_name ⟨Nat.le_of_ble_eq_true rfl, ?_⟩⟩
  have b12 := prgOk_b C.ok
  obtain ⟨S', g2, e2, R⟩ := C.behind (rs' := rs') (nd := true) (g := byL ns) (fun k r k0 hk => nums_look nums hk)
    (made_w asc' mem ⟨s0, by show ps ≤ 1000; omega⟩ ⟨t0, by show pt ≤ 1000; omega⟩ (fun r hr => by
      obtain ⟨r0, h0, rfl⟩ := List.mem_map.mp hr
      show ((r0.st.map (-·)).length : Int) = ps
      rw [List.length_map]
      exact (ok r0 h0).2.2.2.2.1) (by rw [List.length_map]; omega) true) (fun r hr z hz => by
      obtain ⟨r0, h0, rfl⟩ := List.mem_map.mp ((mem r).mp hr)
      obtain ⟨z0, hz0, rfl⟩ := List.mem_map.mp hz
      have := b12 r0 h0 z0 hz0
      exact small_s (by omega)) hS hl
  have e2 : sumP (ps, pt, rs', true) (l.mv (byL ns)).bk = some S' := e2
  have g2 : GoodL (ps, pt, rs', true) (l.mv (byL ns)).bk := g2
  refine ws_ds (ds' := [some (.p (Pt.pd (ps, pt, pr))), some (.prg ps pt pr false), some (.p l.pd), some (.prg ps pt rs' true), some (.nl ((pr.map backR).map Rd.pd)), some (.p (l.mv (byL ns)).bk.pd), none, none, none, none, none, none, none, none]) rfl ?_
  -- what is told here
  refine ws_seq (ws_asg (we_callE (wa_cons (we_var rfl (wa_cons (we_var rfl (wa_nil ?_)))))))
  refine ⟨rfl, ((ps, pt, pr, false), l), rfl, g1, rfl, ?_⟩
  dsimp only
  rw [e1]
  refine wg_name ⟨Nat.le_of_ble_eq_true rfl, ?_⟩
  refine ws_seq (ws_asg (we_callE (wa_cons (we_var rfl (wa_cons (we_var rfl (wa_nil ?_)))))))
  refine ⟨rfl, ((ps, pt, pr, false), l), rfl, g1, rfl, ?_⟩
  dsimp only
  rw [e1]
  dsimp only [tell]
  refine wg_tup (xs := [intsD S.le, intsD S.mo]) rfl (wgs_cons ⟨Nat.le_of_ble_eq_true rfl, wgs_cons ⟨Nat.le_of_ble_eq_true rfl, wgs_nil ?_⟩⟩)
  refine ws_ds (ds' := [some (.p (Pt.pd (ps, pt, pr))), some (.prg ps pt pr false), some (.p l.pd), some (.prg ps pt rs' true), some (.nl ((pr.map backR).map Rd.pd)), some (.p (l.mv (byL ns)).bk.pd), some (.p (intsD S.ad)), some (.p (intsD S.le)), some (.p (intsD S.mo)), none, none, none, none, none]) rfl ?_
  have n1000 : S.ad.length ≤ 1000 := by rw [wf.1]; omega
  repeat walk_at "st"
  refine ⟨S.le, S.ad, rfl, by rw [wf.1, wf.2.1], by rw [wf.2.1]; show ps.toNat ≤ 1000; omega, rfl, fun x y => x + y, fun x y hxy => ?_, ?_⟩
  · repeat walk_at "st"
    exact ⟨rfl, rfl⟩
  refine wa_nil (wc_tupI rfl (wg_name ⟨Nat.le_of_ble_eq_true rfl, ?_⟩))
  refine ws_seq (ws_asg (we_cb (wa_cons (we_lcZ ?_))))
  repeat walk_at "st"
  refine ⟨S.mo, S.ad, rfl, by rw [wf.1, wf.2.2.1], by rw [wf.2.2.1]; show ps.toNat ≤ 1000; omega, rfl, fun x y => x + y, fun x y hxy => ?_, ?_⟩
  · repeat walk_at "st"
    exact ⟨rfl, rfl⟩
  refine wa_nil (wc_tupI rfl (wg_name ⟨Nat.le_of_ble_eq_true rfl, ?_⟩))
  refine ws_ds (ds' := [some (.p (Pt.pd (ps, pt, pr))), some (.prg ps pt pr false), some (.p l.pd), some (.prg ps pt rs' true), some (.nl ((pr.map backR).map Rd.pd)), some (.p (l.mv (byL ns)).bk.pd), some (.p (intsD S.ad)), some (.p (intsD S.le)), some (.p (intsD S.mo)), some (.p (intsD (List.zipWith (fun x y => x + y) S.le S.ad))), some (.p (intsD (List.zipWith (fun x y => x + y) S.mo S.ad))), none, none, none]) rfl ?_
  -- is it a log, the sum
  repeat walk_at "st"
  rw [e2]
  dsimp only [tell]
  rw [R.ad]
  refine we_lcI ?_
  repeat walk_at "st"
  refine ⟨S.ad, rfl, n1000, rfl, fun x => -x, fun x _ => ?_, ?_⟩
  · repeat walk_at "st"
    exact ⟨by rw [Int.zero_sub], rfl⟩
  refine wa_nil (wc_tupI rfl ?_)
  refine wr_neD (shaped_intsT _) (shaped_intsT _) ?_
  rw [eqv_self _ (shaped_lay (shaped_intsT (S.ad.map fun x => -x)))]
  repeat walk_at "st"
  refine ⟨[intsD (List.zipWith (fun x y => x + y) S.le S.ad), intsD (List.zipWith (fun x y => x + y) S.mo S.ad)], rfl, Nat.le_of_ble_eq_true rfl, ?_⟩
  rw [e2]
  dsimp only [tell]
  rw [R.le, R.mo]
  refine wr_neD (two_shaped _ _) (two_shaped _ _) ?_
  rw [eqv_self _ (shaped_lay (two_shaped _ _))]
  repeat walk_at "st"
  refine ⟨rfl, ((ps, pt, pr, false), l), rfl, g1, rfl, ?_⟩
  dsimp only
  rw [e1, e2]
  dsimp only [tell]
  rw [R.len]
  refine wr_neI ?_
  rw [decide_eq_true rfl]
  repeat walk_at "st"
  refine ⟨rfl, ((ps, pt, pr, false), l), rfl, g1, rfl, ?_⟩
  dsimp only
  rw [e1]
  dsimp only [tell]
  rw [if_pos hl, hb, he]
  refine ⟨_, _, rfl, ?_⟩
  rw [e2]
  dsimp only [tell]
  rw [if_pos (by rw [R.len]; exact hl), R.b, R.e, hb, he]
  refine wr_eqD (pair_shaped _ _) (pair_shaped _ _) ?_
  rw [show PyData.eqv (.tuple [oi (some e), oi (some a)]) (.tuple [oi (some e), oi (some a)]) = true from eqv_self _ (shaped_lay (pair_shaped _ _))]
  exact ⟨rfl, q⟩
end
end K19
namespace K19
open PySem PySem.Spec PyProof.Rows L2
local macro_rules | `(tactic| walk_at "st") => `(tactic| first
  | with_reducible refine ws_seq ?_ | with_reducible refine ws_ret ?_ | with_reducible refine ws_if ?_ | with_reducible refine ws_next ?_
  | with_reducible refine we_int ?_ | with_reducible refine we_bl ?_ | with_reducible refine we_non ?_ | with_reducible refine we_str ?_
  | ((with_reducible refine' we_var ?we ?_); (case we => exact rfl)) | with_reducible refine we_op ?_ | with_reducible refine we_un ?_ | with_reducible refine we_isp ?_ | with_reducible refine we_callE ?_ | with_reducible refine we_callF ?_ | with_reducible refine we_cb ?_ | with_reducible refine wa_cons ?_ | with_reducible refine wa_nil ?_
  | with_reducible refine we_tup ?_ | with_reducible refine we_slT ?_ | with_reducible refine wo_none ?_ | with_reducible refine wo_some ?_
  | with_reducible refine we_andV ?_ | with_reducible refine we_orV ?_ | with_reducible refine we_notV ?_ | with_reducible refine we_chain ?_ | with_reducible refine we_ifE ?_
  | with_reducible refine wt_test ?_ | with_reducible refine wt_B ?_ | with_reducible refine wt_and ?_ | with_reducible refine wt_or ?_ | with_reducible refine wt_not ?_
  | with_reducible refine wr_add ?_ | with_reducible refine wr_sub ?_ | with_reducible refine wr_lt ?_ | with_reducible refine wr_le ?_ | with_reducible refine wr_gt ?_ | with_reducible refine wr_ge ?_ | with_reducible refine wr_eqI ?_ | with_reducible refine wr_neI ?_
  | with_reducible refine wr_rd0 ?_ | with_reducible refine wr_rd1 ?_ | with_reducible refine wr_rd2 ?_ | ((with_reducible refine' wr_ixT ?we ?_); (case we => exact ⟨by decide, rfl⟩))
  | with_reducible refine wr_isN ?_ | with_reducible refine wr_notN ?_ | with_reducible refine wr_isB ?_ | with_reducible refine wr_notB ?_ | with_reducible refine wu_neg ?_
  | with_reducible refine we_sides ?_ | with_reducible refine we_tables ?_ | with_reducible refine we_readings ?_ | with_reducible refine we_begin ?_ | with_reducible refine we_end ?_ | with_reducible refine we_length ?_ | with_reducible refine we_added ?_ | with_reducible refine we_least ?_ | with_reducible refine we_most ?_ | with_reducible refine we_stands ?_
  | with_reducible refine wi_tup ?_ | with_reducible refine wi_rng1 ?_ | with_reducible refine ws_drop ?_
  | with_reducible refine ex_b ?_ | ((with_reducible refine' ex_isi ?wp ?_); (case wp => first | assumption | rfl)) | with_reducible refine ex_prg ?_ | with_reducible refine ex_sm ?_ | with_reducible refine ret_p ?_ | with_reducible refine ret_nl ?_ | with_reducible refine ret_prg ?_ | with_reducible refine ret_sm ?_ | with_reducible refine iteT ?_ | with_reducible refine iteF ?_
  | (with_reducible refine wc_allT ?_) | (with_reducible refine wc_sumT ?_) | (with_reducible refine wc_tup rfl ?_) | (with_reducible refine wc_lenT ?_)
  | (refine ⟨rfl, (_, _, _, _), rfl, (by first | trivial | assumption | decide | omega), rfl, ?_⟩; try dsimp only) | (refine ⟨rfl, (_, _, _), rfl, (by first | trivial | assumption | decide | omega), rfl, ?_⟩; try dsimp only) | (refine ⟨rfl, (_, _), rfl, (by first | trivial | assumption | decide | omega), rfl, ?_⟩; try dsimp only) | (refine ⟨rfl, _, rfl, (by first | trivial | assumption | decide | omega), rfl, ?_⟩; try dsimp only)
  | ((with_reducible refine' iteT' ?wp ?_); (case wp => rfl)) | ((with_reducible refine' iteF' ?wp ?_); (case wp => rfl))
  | (with_reducible refine ws_asg ?_) | ((with_reducible refine wg_name ⟨?wl, ?_⟩); (case wl => exact (Nat.le_of_ble_eq_true rfl))))
local macro_rules | `(tactic| walk_at "st") => `(tactic| first
  | with_reducible refine wc_tupI rfl ?_ | with_reducible refine wc_min ?_ | with_reducible refine wc_max ?_ | with_reducible refine wr_neO ?_ | with_reducible refine wr_eqO ?_
  | with_reducible refine we_mkS ?_ | with_reducible refine ex_mkS ?_ | with_reducible refine we_lcZ ?_ | with_reducible refine we_lcZM ?_ | with_reducible refine we_lcZ3 ?_ | with_reducible refine we_revP ?_ | with_reducible refine we_idx ?_)
local macro_rules | `(tactic| walk_at "st") => `(tactic| first
  | with_reducible refine ws_append ?_ | with_reducible refine we_lcR ?_ | with_reducible refine wc_sortTI ?_ | with_reducible refine we_listRg ?_ | ((with_reducible refine' ws_asgN (wn_nil ⟨?wl, ?_⟩)); (case wl => exact (Nat.le_of_ble_eq_true rfl))))
section
variable {Pg : Program} {w : World} {g : Gk} {mg : Str → Option Value} {base : Heap}
/-! ### beside another program -/
theorem Lg.mv_id : ∀ l : Lg, l.mv (fun k => k) = l
  | .nil => rfl
  | .num n r => by rw [Lg.mv, Lg.mv_id r]
  | .rnd m i r => by rw [Lg.mv, Lg.mv_id i, Lg.mv_id r]
theorem upR_0 (q : Rd) : upR 0 q = q := by
  cases q
  simp [upR]
theorem asc_up {rs : List Rd} (k : Int) (h : Asc rs) : Asc (rs.map (upR k)) := by
  unfold Asc
  rw [List.pairwise_map]
  refine List.Pairwise.imp (fun {a b} hab => ?_) h
  rcases hab with h1 | ⟨h1, h2 | ⟨h2, h3⟩⟩
  · exact .inl (by show a.x + k < b.x + k; omega)
  · exact .inr ⟨by show a.x + k = b.x + k; omega, .inl (by show a.y + k < b.y + k; omega)⟩
  · exact .inr ⟨by show a.x + k = b.x + k; omega, .inr ⟨by show a.y + k = b.y + k; omega, h3⟩⟩
theorem asc_first {rs : List Rd} {r : Rd} {k : Int} (h : Asc rs) (hk : 1 ≤ k) (hx : r.x = 0) (pos : ∀ q ∈ rs, 0 ≤ q.x) : Asc (r :: rs.map (upR k)) := by
  refine List.pairwise_cons.mpr ⟨fun q hq => ?_, asc_up k h⟩
  obtain ⟨q0, h0, rfl⟩ := List.mem_map.mp hq
  have := pos q0 h0
  exact .inl (by show r.x < q0.x + k; omega)
abbrev sp_law_beside_right : DSp := spE (fun x : Cx4 => [.pool, .p x.1.pd, x.prg, .p x.2.1.pd]) Cx4.ok (fun _ => .p (.bool true))
theorem ok_law_beside_right {f : Addr} {fd : FuncData} (T : Tx g mg) (F : FT g "_law_beside_right" "_law_beside_right" s_law_beside_right f fd) (C_law_draw : Kn Pg w g mg base "_law_draw" 1 ["_law_pool_here", "_law_many"] sp_law_draw) (C_Program : KnC Pg w g mg base "Program" g.CP 5 ["self", "sides", "tables", "readings"] (spInitP g))
    (C_law_moved : Kn Pg w g mg base "_law_moved" 4 ["_law_log", "_law_numbers_here"] (sp_law_moved 3)) (C_law_tells : Kn Pg w g mg base "_law_tells" 12 ["_law_program_here", "_law_log"] sp_law_tells) (C_beside : Kn Pg w g mg base "beside" 8 ["one", "other"] sp_beside) (C_also : Kn Pg w g mg base "also" 8 ["program", "reading"] sp_also) :
    FnOk Pg w g.K mg base CX0 13 f fd ["_law_pool_here", "_law_parts", "_law_program_here", "_law_log"] (spD g sp_law_beside_right) := by
  refine dok F sc_law_beside_right (fun es Q ⟨a, e, _⟩ => by rw [e]; rfl) fun cdv A outer s H E hr => ⟨_, (pss_cons (ps_set (i := 4) sc_law_beside_right.nd rfl (.inl rfl) (pe_mkC rfl C_Program (hr.mono (by omega)) (by rfl) (pa_cons (pe_ix ix_tup (pv 1) pe_int (fun _ _ => rfl)) (pa_cons (pe_op op_add pe_int (pe_kn rfl C_law_draw (hr.mono (by omega)) (by rfl) (pa_cons (pv 0) (pa_cons pe_int pa_nil)))) (pa_cons (pe_tup pa_nil) pa_nil)))))
    (pss_cons (ps_if (pt_cmpR (op_neD hr.units) (pe_kn rfl C_law_tells (hr.mono (by omega)) (by rfl) (pa_cons (pe_kn rfl C_beside (hr.mono (by omega)) (by rfl) (pa_cons (pv 2) (pa_cons (pv 4) pa_nil))) (pa_cons (pv 3) pa_nil))) (pe_kn rfl C_law_tells (hr.mono (by omega)) (by rfl) (pa_cons (pv 2) (pa_cons (pv 3) pa_nil))) (nomark _))
    (pss_one (ps_ret pe_bl))
    pss_nil)
    (pss_cons (ps_set (i := 5) sc_law_beside_right.nd rfl (.inl rfl) (pe_kn rfl C_also (hr.mono (by omega)) (by rfl) (pa_cons (pv 4) (pa_cons (pe_tup (pa_cons pe_int (pa_cons pe_int (pa_cons (pe_op op_repK (pe_tup (pa_cons pe_int pa_nil)) (pe_ix ix_tup (pv 1) pe_int (fun _ _ => rfl))) pa_nil)))) pa_nil))))
    (pss_cons (ps_set (i := 6) sc_law_beside_right.nd rfl (.inl rfl) (pe_kn rfl C_law_moved (hr.mono (by omega)) (by rfl) (pa_cons (pv 3) (pa_cons (pe_lc (own := [("_law_k", 7)]) (tt := tYes) rfl sc_law_beside_right.nd (pi_range1 (by rfl) T.f_range (pa_cons (pe_callB call_len_seq (by rfl) T.f_len (by decide +kernel) (pa_cons (pe_ix ix_tup (pv 1) pe_int (fun _ _ => rfl)) pa_nil)) pa_nil)) (blkOk_by (by kernel_rfl)) (fun _ _ _ _ _ => (pg_name (i := 7) sc_law_beside_right.nd rfl (.inl rfl))) (fun _ _ _ _ _ => pts_nil) (fun _ _ _ _ _ => (pe_op op_add (pv 7) pe_int))) pa_nil))))
    (pss_one (ps_ret (pe_cmpR (op_eqD hr.units) (pe_kn rfl C_law_tells (hr.mono (by omega)) (by rfl) (pa_cons (pe_kn rfl C_beside (hr.mono (by omega)) (by rfl) (pa_cons (pv 5) (pa_cons (pv 2) pa_nil))) (pa_cons (pv 6) pa_nil))) (pe_kn rfl C_law_tells (hr.mono (by omega)) (by rfl) (pa_cons (pv 2) (pa_cons (pv 3) pa_nil))) (nomark _)))))))), fun c es Q ⟨⟨⟨ps, pt, pr⟩, l, a, e⟩, ee, hd, q⟩ => ?_⟩
  subst ee
  try dsimp only [cxOf, Cx.nox, Cx.wish]
  refine ws_ds (ds' := [some .pool, some (.p (Pt.pd (ps, pt, pr))), some (.prg ps pt pr false), some (.p l.pd), none, none, none, none]) rfl ?_
  have C : Cse (ps, pt, pr) l a e := hd
  have hq : Q (.p (.bool true)) := q.2
  clear hd
  obtain ⟨s0, s4, t0, t8, len, ok, asc⟩ := id C.ok
  dsimp only at s0 s4 t0 t8 len ok asc
  obtain ⟨S, hS, hl, hb, he⟩ := C.run
  obtain ⟨g1, e1⟩ := C.good false hS
  have e1 : sumP (ps, pt, pr, false) l = some S := e1
  have g1 : GoodL (ps, pt, pr, false) l := g1
  have wf := C.wf hS
  have b12 := prgOk_b C.ok
  -- another program, without readings
  refine ws_seq (ws_asg (we_mkP ?_))
  repeat walk_at "st"
  refine ⟨rfl, 8, rfl, ⟨by decide, by decide⟩, fun d ⟨i, ed, i0, i1⟩ => ?_⟩
  subst ed
  refine ⟨rfl, ?_⟩
  repeat walk_at "st"
  refine ⟨[], rfl, Nat.zero_le _, ?_⟩
  repeat walk_at "st"
  generalize hk : 1 + i = kk
  have k1 : 1 ≤ kk := by omega
  have k8 : kk ≤ 8 := by omega
  refine ⟨ps, kk, [], rfl, ⟨s0, s4, k1, k8, Nat.zero_le _, fun r hr => absurd hr List.not_mem_nil, List.Pairwise.nil⟩, wg_name ⟨Nat.le_of_ble_eq_true rfl, ?_⟩⟩
  refine ws_ds (ds' := [some .pool, some (.p (Pt.pd (ps, pt, pr))), some (.prg ps pt pr false), some (.p l.pd), some (.prg ps kk [] false), none, none, none]) rfl ?_
  -- the program beside it
  refine ws_seq (ws_if (wt_test (we_op (we_callE (wa_cons (we_callF (wa_cons (we_var rfl (wa_cons (we_var rfl (wa_nil ?_)))))))))))
  refine ⟨rfl, ((ps, pt, pr, false), ps, kk, [], false), rfl, ⟨rfl, by show pr.length + 0 < 64; omega⟩, fun d hd => ?_⟩
  obtain ⟨rs1, ed, asc1, mem1⟩ := hd
  dsimp only at ed mem1
  have er1 : rs1 = pr := asc_unique asc1 asc fun r => by
    rw [mem1, List.map_nil, List.append_nil]
  subst er1 ed
  refine ⟨rfl, ?_⟩
  obtain ⟨S1, g2, e2, R1⟩ := C.other (R := RSh 0) (s' := ps) (t' := pt + kk) (rs' := rs1) (nd := true) (g := fun k => k) (φ := upR 0) (sim_sh 0 _ _ _) (fun r hr => one_sh 0 _ _ r) (fun k r k0 hk => ⟨k0, by rw [upR_0]; exact hk⟩)
    ⟨s0, by show ps ≤ 1000; omega, by show 1 ≤ pt + kk; omega, by show pt + kk ≤ 1000; omega, fun r hr => (ok r hr).2.2.2.2.1, by show rs1.length ≤ 1000; omega⟩ (fun r hr z hz => small_s (b12 r hr z hz)) hS
  rw [Lg.mv_id] at g2 e2
  refine wa_cons (we_var rfl (wa_nil ⟨rfl, ((ps, pt + kk, rs1, true), l), rfl, g2, rfl, ?_⟩))
  dsimp only
  rw [e2]
  refine we_callE (wa_cons (we_var rfl (wa_cons (we_var rfl (wa_nil ⟨rfl, ((ps, pt, rs1, false), l), rfl, g1, rfl, ?_⟩)))))
  dsimp only
  rw [e1]
  have tq := tells_same R1.len R1.ad R1.le R1.mo wf
  refine wr_neL rfl rfl tq.1 tq.2.1 ⟨_, rfl, ?_⟩
  rw [tq.2.2]
  repeat walk_at "st"
  refine ⟨[.int 1], rfl, Nat.le_of_ble_eq_true rfl, ?_⟩
  repeat walk_at "st"
  refine wr_rep ⟨s0, by show ps ≤ 1000; omega⟩ ?_
  repeat walk_at "st"
  refine ⟨[.int 0, .int 0, intsD (List.replicate ps.toNat 1)], rfl, Nat.le_of_ble_eq_true rfl, ?_⟩
  repeat walk_at "st"
  generalize hr1 : (⟨0, 0, List.replicate ps.toNat 1⟩ : Rd) = one
  have o1 : one.ok ps kk := by
    subst hr1
    refine ⟨Int.le_refl 0, by show 0 < kk; omega, Int.le_refl 0, by show 0 < kk; omega, ?_, fun z hz => ?_⟩
    · show ((List.replicate ps.toNat (1 : Int)).length : Int) = ps
      rw [List.length_replicate]
      omega
    · rw [List.eq_of_mem_replicate hz]
      decide
  have o0 : one.x = 0 := by subst hr1; rfl
  refine ⟨rfl, ((ps, kk, [], false), one), by subst hr1; rfl, ⟨by show 0 < 63; decide, o1, s4⟩, fun d hd => ?_⟩
  obtain ⟨rs2, ed, asc2, mem2⟩ := hd
  dsimp only at ed mem2
  have er2 : rs2 = [one] := asc_unique asc2 (List.pairwise_singleton _ _) fun r => by
    rw [mem2, List.nil_append]
  subst er2 ed
  refine ⟨rfl, wg_name ⟨Nat.le_of_ble_eq_true rfl, ?_⟩⟩
  refine ws_ds (ds' := [some .pool, some (.p (Pt.pd (ps, pt, rs1))), some (.prg ps pt rs1 false), some (.p l.pd), some (.prg ps kk [] false), some (.prg ps kk [one] true), none, none]) rfl ?_
  -- the log there
  refine ws_seq (ws_asg (we_callE (wa_cons (we_var rfl (wa_cons (we_mapT (α := Int) (wi_rng1 ?_)))))))
  repeat walk_at "st"
  refine wc_lenT (xs := rs1.map Rd.pd) ?_
  rw [List.length_map]
  repeat walk_at "st"
  refine ⟨_, rfl, by omega, by omega, upTo rs1.length, .int, fun x => .int (x + 1), rngD_upTo _, by rw [upTo, List.length_map, List.length_range]; omega, fun x _ => ⟨_, tgt_name, rfl, ?_⟩, ?_⟩
  · repeat walk_at "st"
    exact ⟨rfl, rfl⟩
  rw [show ((upTo rs1.length).map fun x => PyData.int (x + 1)) = ((upTo rs1.length).map (· + 1)).map .int by rw [List.map_map]; rfl]
  have ul : ((upTo rs1.length).map (· + 1)).length = rs1.length := by rw [List.length_map, upTo, List.length_map, List.length_range]
  refine wa_nil ⟨rfl, (l, (upTo rs1.length).map (· + 1)), rfl, ⟨by show l.inn ((upTo rs1.length).map (· + 1)).length; rw [ul]; exact C.wk.inn, C.dep, C.few, by show l.ds.length ≤ 100; have := C.len; omega⟩, rfl, wg_name ⟨Nat.le_of_ble_eq_true rfl, ?_⟩⟩
  dsimp only
  generalize hn : (upTo rs1.length).map (· + 1) = ns
  refine ws_ds (ds' := [some .pool, some (.p (Pt.pd (ps, pt, rs1))), some (.prg ps pt rs1 false), some (.p l.pd), some (.prg ps kk [] false), some (.prg ps kk [one] true), some (.p (l.mv (byL ns)).pd), none]) rfl ?_
  refine ws_ret (we_op (we_callE (wa_cons (we_callF (wa_cons (we_var rfl (wa_cons (we_var rfl (wa_nil ?_)))))))))
  refine ⟨rfl, ((ps, kk, [one], true), ps, pt, rs1, false), rfl, ⟨rfl, by show 1 + rs1.length < 64; omega⟩, fun d hd => ?_⟩
  obtain ⟨rs3, ed, asc3, mem3⟩ := hd
  dsimp only at ed mem3
  have er3 : rs3 = one :: rs1.map (upR kk) := asc_unique asc3 (asc_first asc k1 o0 fun q hq => (ok q hq).1) fun r => by
    rw [mem3]
    rfl
  subst er3 ed
  refine ⟨rfl, ?_⟩
  have nums : ∀ k q, 0 ≤ k → look rs1 k = some q → 0 ≤ byL ns k ∧ look (one :: rs1.map (upR kk)) (byL ns k) = some (upR kk q) := fun k q k0 hk => by
    have hl1 := (List.getElem?_eq_some_iff.mp (show rs1[k.toNat]? = some q from hk)).1
    have e : byL ns k = k + 1 := by
      unfold byL
      rw [← hn, List.getD_eq_getElem?_getD, List.getElem?_map, upTo, List.getElem?_map, List.getElem?_range hl1]
      show ((k.toNat : Nat) : Int) + 1 = k + 1
      omega
    rw [e]
    refine ⟨by omega, ?_⟩
    rw [look, show (k + 1).toNat = k.toNat + 1 by omega, List.getElem?_cons_succ, List.getElem?_map, show rs1[k.toNat]? = some q from hk]
    rfl
  obtain ⟨S2, g3, e3, R2⟩ := C.other (R := RSh kk) (s' := ps) (t' := kk + pt) (rs' := one :: rs1.map (upR kk)) (nd := true) (g := byL ns) (φ := upR kk) (sim_sh kk _ _ _) (fun r hr => one_sh kk _ _ r) nums
    ⟨s0, by show ps ≤ 1000; omega, by show 1 ≤ kk + pt; omega, by show kk + pt ≤ 1000; omega, fun r hr => by
      rcases List.mem_cons.mp hr with z | z
      · rw [z]
        exact o1.2.2.2.2.1
      · obtain ⟨r0, h0, rfl⟩ := List.mem_map.mp z
        exact (ok r0 h0).2.2.2.2.1, by show (one :: rs1.map (upR kk)).length ≤ 1000; rw [List.length_cons, List.length_map]; omega⟩ (fun r hr z hz => by
      rcases List.mem_cons.mp hr with y | y
      · rw [y] at hz
        exact small_s (o1.2.2.2.2.2 z hz)
      · obtain ⟨r0, h0, rfl⟩ := List.mem_map.mp y
        exact small_s (b12 r0 h0 z hz)) hS
  refine wa_cons (we_var rfl (wa_nil ⟨rfl, ((ps, kk + pt, one :: rs1.map (upR kk), true), l.mv (byL ns)), rfl, g3, rfl, ?_⟩))
  dsimp only
  rw [e3]
  refine we_callE (wa_cons (we_var rfl (wa_cons (we_var rfl (wa_nil ⟨rfl, ((ps, pt, rs1, false), l), rfl, g1, rfl, ?_⟩)))))
  dsimp only
  rw [e1]
  have tq2 := tells_same R2.len R2.ad R2.le R2.mo wf
  refine wr_eqL rfl rfl tq2.1 tq2.2.1 ?_
  rw [tq2.2.2]
  exact ⟨rfl, hq⟩
end
end K19
/-! a new frame within a def; rows: a list of lists of ints -/
namespace K19
open PySem PySem.Spec PyProof.Rows L2
section
variable {g : Gk} {c : Cg} {ds : List (Option D)} {ms : List MO} {P : D → List MO → Prop} {N : List (Option D) → List MO → Prop} {R : D → List MO → Prop}
theorem PoolOk.refr {H : Hp} (p : PoolOk c H) : PoolOk ⟨c.po, H⟩ H := fun pl cl e => by
  obtain ⟨h0, h1, h2, z⟩ := p pl cl e
  obtain ⟨s, n, cs, q1, q2, q3⟩ := id z
  exact ⟨h0, (by show H pl ≠ none; rw [q1]; exact fun z => nomatch z), (by show H cl ≠ none; rw [q2]; exact fun z => nomatch z), z⟩
theorem PoolOk.back {H H0 H' : Hp} (p : PoolOk c H) (q : PoolOk ⟨c.po, H0⟩ H') : PoolOk c H' := fun pl cl e => by
  obtain ⟨h0, h1, h2, _⟩ := p pl cl e
  obtain ⟨_, _, _, z⟩ := q pl cl e
  exact ⟨h0, h1, h2, z⟩
/-- what stands, but the pool: stays -/
theorem stay_of {H H' : Hp} (p : PoolOk c H) (y : ∀ b o, H b = some o → ¬ c.has b → H' b = some o) : Stay c.has H H' := fun a o e nn => by
  by_cases hh : c.has a
  · by_cases hm : muO o = true
    · exact absurd hh (nn hm)
    · exfalso
      obtain ⟨pl, cl, e1, e2⟩ := hh
      obtain ⟨_, _, _, s, n, cs, q1, q2, _⟩ := p pl cl e1
      rcases e2 with z | z
      · rw [z, q1] at e
        cases e
        exact hm rfl
      · rw [z, q2] at e
        cases e
        exact hm rfl
  · exact y a o e hh
/-- a new frame: all that stands is from outside -/
theorem Lo.reframe {gs : List (V × D)} {as : List Addr} {H : Hp} {σ : L2.St} {ds2 : List (Option D)} (L : Lo g c gs as H σ ds ms) (hl : ds2.length = ds.length) (hd : ∀ (i : Nat) d, ds2[i]? = some (some d) → ∃ d0, ds[i]? = some (some d0) ∧ okA (argD ms d0) = true ∧ d = argD ms d0) :
    Lo g ⟨c.po, H⟩ [] [] H σ ds2 [] := by
  refine ⟨fun a o e _ => e, fun a ha => absurd ha List.not_mem_nil, List.nodup_nil, rfl, fun k a m e _ => by simp at e, L.pool.refr, by rw [L.sln, hl], fun i d e => ?_, fun p hp => absurd hp List.not_mem_nil⟩
  obtain ⟨d0, e0, ok, ed⟩ := hd i d e
  obtain ⟨v, e1, e2⟩ := L.sl i d0 e0
  rw [ed]
  exact ⟨v, e1, arg_is L e2 ok⟩
/-- some slots forgotten -/
theorem Lo.forget {gs : List (V × D)} {as : List Addr} {H : Hp} {σ : L2.St} {ds2 : List (Option D)} (L : Lo g c gs as H σ ds ms) (hl : ds2.length = ds.length) (hd : ∀ (i : Nat) d, ds2[i]? = some (some d) → ds[i]? = some (some d)) : Lo g c gs as H σ ds2 ms :=
  ⟨L.keep, L.fr, L.nd, L.ln, L.own, L.pool, by rw [L.sln, hl], fun i d e => L.sl i d (hd i d e), L.gh⟩
/-- the rest of a def in a new frame -/
theorem reframe_run {u : TS} {gs : List (V × D)} {as : List Addr} {H : Hp} {σ : L2.St} {E : Ends} {ds2 : List (Option D)} (L : Lo g c gs as H σ ds ms) (L2 : Lo g ⟨c.po, H⟩ [] [] H σ ds2 []) (h : Ws g ⟨c.po, H⟩ u ds2 [] (fun _ _ => False) fun d _ => ∃ b, d = .p (.bool b) ∧ R (.p (.bool b)) ms)
    (r : ∀ v H' as' d σ' ds' ms', Lo g c ((v, d) :: gs) as' H' σ' ds' ms' → R d ms' → E.rt v H') : u E σ H := by
  refine h [] [] H σ E L2 (fun p hp => absurd hp List.not_mem_nil) (fun _ _ _ _ _ _ z => z.elim) fun v H' as' d σ' ds' ms' L' ⟨b, ed, k⟩ => ?_
  subst ed
  have hv := L'.top
  cases hv
  exact r _ H' as (.p (.bool b)) σ ds ms ((L.ext (stay_of L.pool fun a o e n => L'.keep a o e n) (L.pool.back L'.pool)).push (.bl b)) k
/-! ### rows -/
theorem tYes_in {σ : L2.St} {H : Hp} {A B : Hp → Prop} (h : A H) : tYes σ H (fun b H3 => if b = true then A H3 else B H3) := by
  show (if true = true then A H else B H)
  rw [if_pos rfl]
  exact h
/-- rows from outside -/
structure RowsIn (c : Cg) (a : Addr) (rs : List Addr) (M : List (List Int)) : Prop where
  st : c.H0 a = some (.lst (rs.map V.ref))
  na : ¬ c.has a
  ln : rs.length = M.length
  row : ∀ (i : Nat) (r : Addr) (row : List Int), rs[i]? = some r → M[i]? = some row → c.H0 r = some (.lst (row.map V.int)) ∧ ¬ c.has r
theorem we_lcRows {i k : Nat} {te : TE} {own : List Nat} (h : ∃ (a : Addr) (rs : List Addr) (M : List (List Int)), ds[i]? = some (some (.ad a)) ∧ RowsIn c a rs M ∧ M.length ≤ 1000 ∧ (own.contains k && decide (k < ds.length)) = true ∧ ∃ F : List Int → PyData,
    (∀ row ∈ M, We g c te ((wipeD ds own).set k (some (.l (row.map .int)))) ms fun d ms' => d = .p (F row) ∧ ms' = ms) ∧ P (.nl (M.map F)) ms) : We g c (tLc (iList g.K (tVar i)) (gName k) tYes te own) ds ms P := fun gs as H σ L Q q => by
  obtain ⟨a, rs, M, hi, RI, hl, ho, F, turn, fin⟩ := h
  rw [Bool.and_eq_true, decide_eq_true_eq, List.contains_iff_mem] at ho
  obtain ⟨v, e1, e2⟩ := L.sl i _ hi
  cases e2
  have atH : ∀ {as : List Addr} {H : Hp} {σ : L2.St} {gs : List (V × D)}, Lo g c gs as H σ ds ms → H a = some (.lst (rs.map V.ref)) := fun L => L.keep a _ RI.st RI.na
  refine ⟨_, e1, a, rfl, ⟨_, .inl (.inl (atH L))⟩, ?_⟩
  intro p np
  obtain ⟨n0, n1, n2⟩ := L.new np
  have hval : ∀ (i : Nat) d, ds[i]? = some (some d) → ∃ v, σ[i]? = some (some v) := fun i d e => by
    obtain ⟨v, e1, _⟩ := L.sl i d e
    exact ⟨v, e1⟩
  have hsl : ∀ (i : Nat) d v, ds[i]? = some (some d) → σ[i]? = some (some v) → lsty d = true → v ≠ .ref p := fun i d v e1 e2 hd z => by
    obtain ⟨w, ew, hw⟩ := L.sl i d e1
    rw [e2] at ew
    cases ew
    obtain ⟨a, ea, hn⟩ := lsty_at hd hw
    rw [z] at ea
    cases ea
    exact hn np
  have hgl : ∀ r ∈ gs, lsty r.2 = true → r.1 ≠ .ref p := fun r hr hd z => by
    obtain ⟨a, ea, hn⟩ := lsty_at hd (L.gh r hr)
    rw [z] at ea
    cases ea
    exact hn np
  refine ⟨fun i m H2 => m = M.length - i ∧ i ≤ M.length ∧ ∃ vs, Lo g c gs as H2 σ ds ms ∧ H2 p = some (.lst vs) ∧ Pds g.K H2 ((M.take i).map F) vs, ⟨M.length, by simp, Nat.zero_le _, [], L.laid np, upd_same, by rw [List.take_zero]; exact .nil⟩, ?_⟩
  rintro j m H2 ⟨rfl, hj, vs, L2, hp, hacc⟩
  have hr := atH L2
  by_cases hlt : j < M.length
  · have hjr : j < rs.length := by rw [RI.ln]; exact hlt
    have eM : M[j]? = some M[j] := List.getElem?_eq_getElem hlt
    have er : rs[j]? = some rs[j] := List.getElem?_eq_getElem hjr
    have em : (rs.map V.ref)[j]? = some (.ref rs[j]) := by rw [List.getElem?_map, er]; rfl
    refine .inr ⟨⟨_, _, .inl (.inl hr), em⟩, fun H' => ∃ vs, Lo g c gs as H' σ ds ms ∧ H' p = some (.lst vs) ∧ Pds g.K H' ((M.take (j + 1)).map F) vs, fun H' ⟨vs', z⟩ => ⟨M.length - (j + 1), by omega, rfl, hlt, vs', z⟩, fun x H3 ⟨eH, f⟩ => ?_⟩
    subst eH
    have e3 := f _ (.inl (.inl hr))
    rw [em] at e3
    cases e3
    obtain ⟨hr0, nr⟩ := RI.row j _ _ er eM
    have hx : IsD g c as H3 (.l ((M[j]).map .int)) (.ref rs[j]) := ⟨rs[j], _, rfl, .inl (L2.keep _ _ hr0 nr), (fun z => by
      rw [L2.fr _ z] at hr0
      cases hr0), nr, Pds.ofInts _⟩
    have M3 := L2.slots
    have L3 : Lo g c (slotG σ ds ++ gs) as H3 ((_root_.L2.wipe σ own).set k (some (.ref rs[j]))) ((wipeD ds own).set k (some (.l ((M[j]).map .int)))) ms := ((M3.wipe own).push (hx)).set (by rw [wipeD_len]; exact ho.2)
    refine ⟨wipe_set (σ := σ) (vs := own) (ps := [(k, .ref rs[j])]) fun y hy => by rw [List.mem_singleton.mp hy]; exact ho.1, ?_⟩
    refine tYes_in ?_
    dsimp only
    have hq3 : IsD g c as H3 (.nl ((M.take j).map F)) (.ref p) := ⟨p, vs, rfl, hp, n0, n1, n2, hacc⟩
    refine turn M[j] (List.getElem_mem hlt) _ as H3 _ (L3.push hq3) _ fun yv H5 d5 ms5 L5 ⟨ed, em5⟩ => ?_
    subst ed em5
    obtain ⟨a5, vs5, ea, hp5, _, _, _, hacc5⟩ := L5.pop.top
    cases ea
    have hz : Pd g.K H5 (F M[j]) yv := L5.top
    refine ⟨vs5, hp5, small1000 (by rw [hacc5.length, List.length_map, List.length_take]; omega), vs5 ++ [yv], ?_, upd_same, ?_⟩
    · exact (L5.pop.pop.unslot L.sln hval).grow hp5 n0 n1 n2 hsl hgl
    · have y5 : Stay (fun b => b = p) H5 (upd H5 p (.lst (vs5 ++ [yv]))) := fun b w e nn => by
        by_cases hb : b = p
        · subst hb
          rw [hp5] at e
          cases e
          exact absurd rfl (nn rfl)
        · rw [upd_ne hb]
          exact e
      rw [take_map_succ F eM]
      exact (Pds.mono y5 _ _ hacc5).append (.one (Pd.mono y5 _ _ hz))
  · have e : j = M.length := by omega
    subst e
    refine .inl ⟨⟨_, .inl (.inl hr), by rw [List.length_map, RI.ln]; exact Nat.le_refl _⟩, q (.ref p) H2 (.nl (M.map F)) ms (L2.push ⟨p, vs, rfl, hp, n0, n1, n2, ?_⟩) fin⟩
    rw [List.take_length] at hacc
    exact hacc
/-- rows that are made here, over a heap H -/
structure RowsAt (c : Cg) (H H2 : Hp) (a : Addr) (rs : List Addr) (M : List (List Int)) : Prop where
  grow : ∀ b o, H b = some o → ¬ c.has b → H2 b = some o
  pool : PoolOk c H2
  a0 : H a = none
  na : ¬ c.has a
  at_ : H2 a = some (.lst (rs.map V.ref))
  ln : rs.length = M.length
  nd : rs.Nodup
  row : ∀ (i : Nat) (r : Addr) (row : List Int), rs[i]? = some r → M[i]? = some row → H r = none ∧ ¬ c.has r ∧ r ≠ a ∧ H2 r = some (.lst (row.map V.int))
theorem RowsAt.same {H H2 H3 : Hp} {a : Addr} {rs : List Addr} {M : List (List Int)} (h : RowsAt c H H2 a rs M) (y : ∀ b o, H2 b = some o → ¬ c.has b → H3 b = some o) (p : PoolOk c H3) : RowsAt c H H3 a rs M :=
  ⟨fun b o e n => y b o (h.grow b o e n) n, p, h.a0, h.na, y a _ h.at_ h.na, h.ln, h.nd, fun i r row e1 e2 => by
    obtain ⟨h1, h2, h3, h4⟩ := h.row i r row e1 e2
    exact ⟨h1, h2, h3, y r _ h4 h2⟩⟩
theorem RowsAt.set {H H2 : Hp} {a r0 : Addr} {rs : List Addr} {M : List (List Int)} {row0 new : List Int} (h : RowsAt c H H2 a rs M) (e1 : rs[0]? = some r0) (e2 : M[0]? = some row0) : RowsAt c H (upd H2 r0 (.lst (new.map V.int))) a rs (M.set 0 new) := by
  obtain ⟨h1, h2, h3, h4⟩ := h.row 0 r0 row0 e1 e2
  have lM : 0 < M.length := (List.getElem?_eq_some_iff.mp e2).1
  refine ⟨fun b o e n => ?_, h.pool.ext fun b hb o e => ?_, h.a0, h.na, ?_, by rw [List.length_set]; exact h.ln, h.nd, fun i r row e3 e4 => ?_⟩
  · rw [upd_ne (fun z => by rw [z, h1] at e; cases e)]
    exact h.grow b o e n
  · rw [upd_ne (show b ≠ r0 from fun z => h2 (z ▸ hb))]
    exact e
  · rw [upd_ne (Ne.symm h3)]
    exact h.at_
  · by_cases hi : i = 0
    · subst hi
      rw [e1] at e3
      cases e3
      rw [List.getElem?_set_self lM] at e4
      cases e4
      exact ⟨h1, h2, h3, upd_same⟩
    · rw [List.getElem?_set_ne (Ne.symm hi)] at e4
      obtain ⟨k1, k2, k3, k4⟩ := h.row i r row e3 e4
      refine ⟨k1, k2, k3, ?_⟩
      rw [upd_ne (fun z => ?_)]
      · exact k4
      · subst z
        exact hi (nd_ix h.nd e3 e1)
theorem RowsAt.inn {H H2 : Hp} {a : Addr} {rs : List Addr} {M : List (List Int)} (h : RowsAt c H H2 a rs M) : RowsIn ⟨c.po, H2⟩ a rs M := ⟨h.at_, h.na, h.ln, fun i r row e1 e2 => by
  obtain ⟨h1, h2, h3, h4⟩ := h.row i r row e1 e2
  exact ⟨h4, h2⟩⟩
theorem RowsAt.lo {gs : List (V × D)} {as : List Addr} {H H2 : Hp} {σ : L2.St} {a : Addr} {rs : List Addr} {M : List (List Int)} (h : RowsAt c H H2 a rs M) (L : Lo g c gs as H σ ds ms) : Lo g c gs as H2 σ ds ms := L.ext (stay_of L.pool h.grow) h.pool
/-- rows made by two comprehensions -/
theorem rows_made {gs : List (V × D)} {as : List Addr} {H : Hp} {σ : L2.St} {n : Nat} {k : Nat} {te0 te : TE} {own : List Nat} {Q : VK} {dsr : List (Option D)} (row : Nat → List Int) (hn : n ≤ 1000) (hk : k ∈ own ∧ k < dsr.length) (L : Lo g c gs as H σ ds []) (hl : dsr.length = ds.length)
    (hd : ∀ (i : Nat) d, dsr[i]? = some (some d) → ∃ d0, ds[i]? = some (some d0) ∧ okA (argD [] d0) = true ∧ d = argD [] d0) (h0 : We g c te0 ds [] fun d ms' => d = .p (.int n) ∧ ms' = [])
    (hin : ∀ (c' : Cg) (i : Nat), i < n → We g c' te ((wipeD dsr own).set k (some (.p (.int (0 + (i : Int)))))) [] fun d ms' => d = .nl ((row i).map .int) ∧ ms' = [])
    (q : ∀ H1 a rs H2, Lo g c gs as H1 σ ds [] → RowsAt c H1 H2 a rs ((List.range n).map row) → Q (.ref a) H2) : tLc (iRng1 (tCons te0 tNil)) (gName k) tYes te own σ H Q := by
  refine h0 gs as H σ L _ fun v H1 d ms1 L0 ⟨ed, em⟩ => ?_
  subst ed em
  have hv := L0.top
  cases hv
  have L1 := L0.pop
  refine ⟨(n : Int), rfl, by omega, by omega, ?_⟩
  rw [Int.toNat_natCast]
  intro p np
  obtain ⟨_, n1, n2⟩ := L1.new np
  have start : RowsAt c H1 (upd H1 p (.lst [])) p [] (((List.range n).map row).take 0) := by
    rw [List.take_zero]
    refine ⟨fun b o e _ => ?_, L1.pool.ext fun b hb o e => ?_, np, n2, upd_same, rfl, List.nodup_nil, fun i r row e _ => by simp at e⟩
    · rw [upd_ne (ne_of_none e np)]
      exact e
    · rw [upd_ne (show b ≠ p from fun z => n2 (z ▸ hb))]
      exact e
  have rl : ((List.range n).map row).length = n := by rw [List.length_map, List.length_range]
  refine ⟨fun i m H2 => m = n - i ∧ i ≤ n ∧ ∃ rs, RowsAt c H1 H2 p rs (((List.range n).map row).take i), ⟨n, by simp, Nat.zero_le _, [], start⟩, ?_⟩
  rintro i m H2 ⟨rfl, hi, rs, RA⟩
  have lrs : rs.length = i := by
    have := RA.ln
    rw [List.length_take, rl] at this
    omega
  by_cases hlt : i < n
  · refine .inr ⟨hlt, fun H' => ∃ rs, RowsAt c H1 H' p rs (((List.range n).map row).take (i + 1)), fun H' ⟨rs', z⟩ => ⟨n - (i + 1), by omega, rfl, hlt, rs', z⟩, fun x H3 ⟨eH, ex⟩ => ?_⟩
    subst eH ex
    have L2 := (RA.lo L1).reframe hl hd
    have L3 : Lo g ⟨c.po, H3⟩ [] [] H3 ((_root_.L2.wipe σ own).set k (some (.int (0 + (i : Int))))) ((wipeD dsr own).set k (some (.p (.int (0 + (i : Int)))))) [] := ((L2.wipe own).pushP (.int _)).set (by rw [wipeD_len]; exact hk.2)
    refine ⟨wipe_set (σ := σ) (vs := own) (ps := [(k, .int (0 + (i : Int)))]) fun y hy => by rw [List.mem_singleton.mp hy]; exact hk.1, ?_⟩
    refine tYes_in ?_
    dsimp only
    refine hin ⟨c.po, H3⟩ i hlt [] [] H3 _ L3 _ fun yv H4 d4 ms4 L4 ⟨ed, em⟩ => ?_
    subst ed em
    obtain ⟨r, vs, rfl, hr, r0, _, nr, hs⟩ := L4.top
    have ev := Pds.toInts hs
    subst ev
    have r0 : H3 r = none := r0
    have nr : ¬ c.has r := nr
    have RA4 := RA.same (H3 := H4) (fun b o e nb => L4.keep b o e nb) (RA.pool.back L4.pool)
    have rp : r ≠ p := fun z => by
      rw [z, RA.at_] at r0
      cases r0
    have r1 : H1 r = none := by
      cases z : H1 r with
      | none => rfl
      | some o =>
        rw [RA.grow r o z nr] at r0
        cases r0
    refine ⟨_, RA4.at_, small1000 (by rw [List.length_map]; omega), rs ++ [r], ?_⟩
    have et : ((List.range n).map row).take (i + 1) = ((List.range n).map row).take i ++ [row i] := by
      rw [List.take_succ, List.getElem?_map, List.getElem?_range hlt]
      rfl
    rw [et]
    refine ⟨fun b o e nb => ?_, RA4.pool.ext fun b hb o e => ?_, np, n2, by rw [upd_same, List.map_append]; rfl, ?_, ?_, fun j r' row' e1 e2 => ?_⟩
    · rw [upd_ne (ne_of_none e np)]
      exact RA4.grow b o e nb
    · rw [upd_ne (show b ≠ p from fun z => n2 (z ▸ hb))]
      exact e
    · rw [List.length_append, List.length_append, RA.ln]
      rfl
    · rw [List.nodup_append]
      refine ⟨RA.nd, List.nodup_cons.mpr ⟨List.not_mem_nil, List.nodup_nil⟩, fun x hx y hy e => ?_⟩
      rw [List.mem_singleton.mp hy] at e
      subst e
      obtain ⟨j, hj, ej⟩ := List.getElem_of_mem hx
      have hj2 : j < (((List.range n).map row).take i).length := by rw [← RA.ln]; exact hj
      obtain ⟨_, _, _, z⟩ := RA.row j x _ (by rw [List.getElem?_eq_getElem hj, ej]) (List.getElem?_eq_getElem hj2)
      rw [z] at r0
      cases r0
    · by_cases hji : j < i
      · rw [List.getElem?_append_left (by rw [lrs]; exact hji)] at e1
        rw [List.getElem?_append_left (by rw [← RA.ln, lrs]; exact hji)] at e2
        obtain ⟨k1, k2, k3, k4⟩ := RA4.row j r' row' e1 e2
        refine ⟨k1, k2, k3, ?_⟩
        rw [upd_ne k3]
        exact k4
      · rw [List.getElem?_append_right (by rw [lrs]; omega), lrs] at e1
        rw [List.getElem?_append_right (by rw [← RA.ln, lrs]; omega), ← RA.ln, lrs] at e2
        have ej : j - i = 0 := by
          have := (List.getElem?_eq_some_iff.mp e1).1
          simp only [List.length_singleton] at this
          omega
        rw [ej] at e1 e2
        cases e1
        cases e2
        refine ⟨r1, nr, rp, ?_⟩
        rw [upd_ne rp]
        exact hr
  · have e : i = n := by omega
    subst e
    rw [List.take_of_length_le (by rw [rl]; exact Nat.le_refl _)] at RA
    exact .inl ⟨Nat.le_refl _, q H1 p rs H2 L1 RA⟩
end
end K19
namespace K19
open PySem PySem.Spec PyProof.Rows L2
local macro_rules | `(tactic| walk_at "st") => `(tactic| first
  | with_reducible refine ws_seq ?_ | with_reducible refine ws_ret ?_ | with_reducible refine ws_if ?_ | with_reducible refine ws_next ?_
  | with_reducible refine we_int ?_ | with_reducible refine we_bl ?_ | with_reducible refine we_non ?_ | with_reducible refine we_str ?_
  | ((with_reducible refine' we_var ?we ?_); (case we => exact rfl)) | with_reducible refine we_op ?_ | with_reducible refine we_un ?_ | with_reducible refine we_isp ?_ | with_reducible refine we_callE ?_ | with_reducible refine we_callF ?_ | with_reducible refine we_cb ?_ | with_reducible refine wa_cons ?_ | with_reducible refine wa_nil ?_
  | with_reducible refine we_tup ?_ | with_reducible refine we_slT ?_ | with_reducible refine wo_none ?_ | with_reducible refine wo_some ?_
  | with_reducible refine we_andV ?_ | with_reducible refine we_orV ?_ | with_reducible refine we_notV ?_ | with_reducible refine we_chain ?_ | with_reducible refine we_ifE ?_
  | with_reducible refine wt_test ?_ | with_reducible refine wt_B ?_ | with_reducible refine wt_and ?_ | with_reducible refine wt_or ?_ | with_reducible refine wt_not ?_
  | with_reducible refine wr_add ?_ | with_reducible refine wr_sub ?_ | with_reducible refine wr_lt ?_ | with_reducible refine wr_le ?_ | with_reducible refine wr_gt ?_ | with_reducible refine wr_ge ?_ | with_reducible refine wr_eqI ?_ | with_reducible refine wr_neI ?_
  | with_reducible refine wr_rd0 ?_ | with_reducible refine wr_rd1 ?_ | with_reducible refine wr_rd2 ?_ | ((with_reducible refine' wr_ixT ?we ?_); (case we => exact ⟨by decide, rfl⟩))
  | with_reducible refine wr_isN ?_ | with_reducible refine wr_notN ?_ | with_reducible refine wr_isB ?_ | with_reducible refine wr_notB ?_ | with_reducible refine wu_neg ?_
  | with_reducible refine we_sides ?_ | with_reducible refine we_tables ?_ | with_reducible refine we_readings ?_ | with_reducible refine we_begin ?_ | with_reducible refine we_end ?_ | with_reducible refine we_length ?_ | with_reducible refine we_added ?_ | with_reducible refine we_least ?_ | with_reducible refine we_most ?_ | with_reducible refine we_stands ?_
  | with_reducible refine wi_tup ?_ | with_reducible refine wi_rng1 ?_ | with_reducible refine ws_drop ?_
  | with_reducible refine ex_b ?_ | ((with_reducible refine' ex_isi ?wp ?_); (case wp => first | assumption | rfl)) | with_reducible refine ex_prg ?_ | with_reducible refine ex_sm ?_ | with_reducible refine ret_p ?_ | with_reducible refine ret_nl ?_ | with_reducible refine ret_prg ?_ | with_reducible refine ret_sm ?_ | with_reducible refine iteT ?_ | with_reducible refine iteF ?_
  | (with_reducible refine wc_allT ?_) | (with_reducible refine wc_sumT ?_) | (with_reducible refine wc_tup rfl ?_) | (with_reducible refine wc_lenT ?_)
  | (refine ⟨rfl, (_, _, _, _), rfl, (by first | trivial | assumption | decide | omega), rfl, ?_⟩; try dsimp only) | (refine ⟨rfl, (_, _, _), rfl, (by first | trivial | assumption | decide | omega), rfl, ?_⟩; try dsimp only) | (refine ⟨rfl, (_, _), rfl, (by first | trivial | assumption | decide | omega), rfl, ?_⟩; try dsimp only) | (refine ⟨rfl, _, rfl, (by first | trivial | assumption | decide | omega), rfl, ?_⟩; try dsimp only)
  | ((with_reducible refine' iteT' ?wp ?_); (case wp => rfl)) | ((with_reducible refine' iteF' ?wp ?_); (case wp => rfl))
  | (with_reducible refine ws_asg ?_) | ((with_reducible refine wg_name ⟨?wl, ?_⟩); (case wl => exact (Nat.le_of_ble_eq_true rfl))))
local macro_rules | `(tactic| walk_at "st") => `(tactic| first
  | with_reducible refine wc_tupI rfl ?_ | with_reducible refine wc_min ?_ | with_reducible refine wc_max ?_ | with_reducible refine wr_neO ?_ | with_reducible refine wr_eqO ?_
  | with_reducible refine we_mkS ?_ | with_reducible refine ex_mkS ?_ | with_reducible refine we_lcZ ?_ | with_reducible refine we_lcZM ?_ | with_reducible refine we_lcZ3 ?_ | with_reducible refine we_revP ?_ | with_reducible refine we_idx ?_)
local macro_rules | `(tactic| walk_at "st") => `(tactic| first
  | with_reducible refine ws_append ?_ | with_reducible refine we_lcR ?_ | with_reducible refine wc_sortTI ?_ | with_reducible refine we_listRg ?_ | ((with_reducible refine' ws_asgN (wn_nil ⟨?wl, ?_⟩)); (case wl => exact (Nat.le_of_ble_eq_true rfl))))
section
variable {Pg : Program} {w : World} {g : Gk} {mg : Str → Option Value} {base : Heap}
/-! ### stretched, led by a matrix -/
/-- the matrix: its first side's sign turned, three times the last one added -/
def rowOf (n i : Nat) : List Int := (upTo n).map fun j => if (0 + (i : Int)) = j then 1 else 0
def matM (n : Nat) : List (List Int) := (((List.range n).map (rowOf n)).set 0 ((rowOf n 0).set 0 (-1))).set 0 (((rowOf n 0).set 0 (-1)).set (n - 1) (if 1 < (n : Int) then 3 else -1))
theorem matM_ok {n : Nat} (h1 : 1 ≤ n) (h4 : n ≤ 4) : (matM n).length = n ∧ Sq (matM n) ∧ (detM (matM n).length (matM n) = 1 ∨ detM (matM n).length (matM n) = -1) := by
  have sq : ∀ m : List (List Int), (m.all fun r => decide (r.length = m.length) && r.all fun z => decide (-3 ≤ z) && decide (z ≤ 3)) = true → Sq m := fun m h r hr => by
    have := List.all_eq_true.mp h r hr
    rw [Bool.and_eq_true, decide_eq_true_eq] at this
    refine ⟨this.1, fun z hz => ?_⟩
    have := List.all_eq_true.mp this.2 z hz
    rw [Bool.and_eq_true, decide_eq_true_eq, decide_eq_true_eq] at this
    exact this
  match n, h1, h4 with
  | 1, _, _ => exact ⟨by decide +kernel, sq _ (by decide +kernel), .inr (by decide +kernel)⟩
  | 2, _, _ => exact ⟨by decide +kernel, sq _ (by decide +kernel), .inr (by decide +kernel)⟩
  | 3, _, _ => exact ⟨by decide +kernel, sq _ (by decide +kernel), .inr (by decide +kernel)⟩
  | 4, _, _ => exact ⟨by decide +kernel, sq _ (by decide +kernel), .inr (by decide +kernel)⟩
  | n + 5, _, h => exact absurd h (by omega)
theorem seq_asg {te : TE} {i : Nat} {u : TS} {E : Ends} {σ : L2.St} {H : Hp} (h : te σ H fun x H1 => u E (σ.set i (some x)) H1) : tSeq (tAsg te (gName i)) u E σ H := h
theorem seq_asgT {te : TE} {tg : TG} {u : TS} {E : Ends} {σ : L2.St} {H : Hp} (h : te σ H fun x H1 => tg x σ H1 fun σ' H' => u E σ' H') : tSeq (tAsg te tg) u E σ H := h
/-- rows[0][j] = v -/
theorem set_rows {c : Cg} {H H2 : Hp} {a r0 : Addr} {rs : List Addr} {M : List (List Int)} {row0 : List Int} {σ : L2.St} {ti : TE} {j : Nat} {v : Int} {k : Nat} {Q : L2.St → Hp → Prop} (RA : RowsAt c H H2 a rs M) (sk : σ[k]? = some (some (.ref a))) (e1 : rs[0]? = some r0) (e2 : M[0]? = some row0) (hj : j < row0.length)
    (hi : ∀ H3, RowsAt c H H3 a rs M → ∀ Q2 : VK, (∀ H4, RowsAt c H H4 a rs M → Q2 (.int (j : Int)) H4) → ti σ H3 Q2) (q : ∀ H5, RowsAt c H H5 a rs (M.set 0 (row0.set j v)) → Q σ H5) : gSub (tOp (rIxL g.K) (tVar k) (tC (.int 0))) ti rSetL (.int v) σ H2 Q := by
  refine ⟨_, sk, a, _, 0, .ref r0, rfl, rfl, .inl (.inl RA.at_), atI_nat (j := 0) (by rw [List.getElem?_map, e1]; rfl), ?_⟩
  refine hi H2 RA _ fun H4 RA4 => ?_
  obtain ⟨_, _, _, z⟩ := RA4.row 0 r0 row0 e1 e2
  refine ⟨r0, _, (j : Int), j, rfl, rfl, z, ?_, ?_⟩
  · unfold ixN
    rw [if_pos (by omega), if_pos (by rw [List.length_map]; omega), Int.toNat_natCast]
  · rw [show (row0.map V.int).set j (.int v) = (row0.set j v).map V.int by rw [List.map_set]]
    exact q _ (RA4.set e1 e2)
theorem dot_sum {row st : List Int} {n : Nat} (h1 : row.length = n) (h2 : st.length = n) : ((upTo n).map fun k => row.getD k.toNat 0 * st.getD k.toNat 0).sum = dotL row st := by
  unfold dotL
  congr 1
  refine List.ext_getElem? fun i => ?_
  by_cases hi : i < n
  · rw [List.getElem?_map, upTo, List.getElem?_map, List.getElem?_range hi, List.getElem?_zipWith, List.getElem?_eq_getElem (by omega), List.getElem?_eq_getElem (by omega)]
    show some (row.getD ((i : Nat) : Int).toNat 0 * st.getD ((i : Nat) : Int).toNat 0) = some (row[i] * st[i])
    rw [Int.toNat_natCast, getD_at (by omega), getD_at (by omega)]
  · rw [List.getElem?_eq_none (by rw [List.length_map, upTo, List.length_map, List.length_range]; omega), List.getElem?_eq_none (by rw [List.length_zipWith]; omega)]
theorem dot_bd {B : Int} (hB : 0 ≤ B) : ∀ (row st : List Int), (∀ z ∈ row, -3 ≤ z ∧ z ≤ 3) → (∀ z ∈ st, -B ≤ z ∧ z ≤ B) → -(3 * B * row.length) ≤ dotL row st ∧ dotL row st ≤ 3 * B * row.length
  | [], st, _, _ => by
    rw [dot_nil]
    simp
  | r :: row, [], _, _ => by
    rw [dot_nil2]
    have : 0 ≤ 3 * B * ((r :: row).length : Int) := Int.mul_nonneg (by omega) (by omega)
    omega
  | r :: row, x :: st, h1, h2 => by
    have ih := dot_bd hB row st (fun z hz => h1 z (List.mem_cons_of_mem _ hz)) fun z hz => h2 z (List.mem_cons_of_mem _ hz)
    have hr := h1 r List.mem_cons_self
    have hx := h2 x List.mem_cons_self
    have e : 3 * B * ((r :: row).length : Int) = 3 * B * (row.length : Int) + 3 * B := by
      rw [List.length_cons, Int.natCast_add, Int.mul_add]
      simp
    have hm : -(3 * B) ≤ r * x ∧ r * x ≤ 3 * B := by
      have ha : r * x = -3 * x ∨ r * x = -2 * x ∨ r * x = -1 * x ∨ r * x = 0 * x ∨ r * x = 1 * x ∨ r * x = 2 * x ∨ r * x = 3 * x := by
        have : r = -3 ∨ r = -2 ∨ r = -1 ∨ r = 0 ∨ r = 1 ∨ r = 2 ∨ r = 3 := by omega
        rcases this with h | h | h | h | h | h | h <;> rw [h] <;> simp
      rcases ha with h | h | h | h | h | h | h <;> omega
    rw [dot_cons, e]
    omega
abbrev sp_law_led_right : DSp := spE (fun x : Cx4 => [.pool, .p x.1.pd, x.prg, .p x.2.1.pd]) Cx4.ok (fun _ => .p (.bool true))
theorem ok_law_led_right {f : Addr} {fd : FuncData} (T : Tx g mg) (F : FT g "_law_led_right" "_law_led_right" s_law_led_right f fd) (C_law_draw : Kn Pg w g mg base "_law_draw" 1 ["_law_pool_here", "_law_many"] sp_law_draw) (C_stretched : Kn Pg w g mg base "stretched" 8 ["program", "times"] sp_stretched)
    (C_law_moved : Kn Pg w g mg base "_law_moved" 4 ["_law_log", "_law_numbers_here"] (sp_law_moved 3)) (C_law_numbers : Kn Pg w g mg base "_law_numbers" 1 ["_law_parts", "_law_other", "_law_moved_here"] sp_law_numbers) (C_is_log : Kn Pg w g mg base "is_log" 9 ["program", "thing"] sp_is_log)
    (C_added : Kn Pg w g mg base "added" 11 ["program", "log"] (spT fun S => intsD S.ad)) (C_reach : Kn Pg w g mg base "reach" 11 ["program", "log"] (spT fun S => .tuple [intsD S.le, intsD S.mo])) (C_turned : Kn Pg w g mg base "turned" 8 ["program", "matrix"] sp_turned) :
    FnOk Pg w g.K mg base CX0 13 f fd ["_law_pool_here", "_law_parts", "_law_program_here", "_law_log"] (spD g sp_law_led_right) := by
  refine dok F sc_law_led_right (fun es Q ⟨a, e, _⟩ => by rw [e]; rfl) fun cdv A outer s H E hr => ⟨_, (pss_cons (ps_set (i := 4) sc_law_led_right.nd rfl (.inr rfl) (pe_op op_add pe_int (pe_kn rfl C_law_draw (hr.mono (by omega)) (by rfl) (pa_cons (pv 0) (pa_cons pe_int pa_nil)))))
    (pss_cons (ps_set (i := 5) sc_law_led_right.nd rfl (.inl rfl) (pe_kn rfl C_stretched (hr.mono (by omega)) (by rfl) (pa_cons (pv 2) (pa_cons (pv 4) pa_nil))))
    (pss_cons (ps_setLc (i := 6) (own := [("_law_one", 13)]) (tt := tYes) rfl sc_law_led_right.nd rfl rfl (sw_true rfl rfl rfl (by kernel_rfl)) (pi_tup (pe_ix ix_tup (pv 1) pe_int (fun _ _ => rfl))) (blkOk_by (by kernel_rfl)) (fun _ _ _ _ _ => (pg_name (i := 13) sc_law_led_right.nd rfl (.inl rfl))) (fun _ _ _ _ _ => pts_nil) (fun _ _ _ _ _ => (pe_tup (pa_cons (pe_ix (ix_tupG (K := g.K) rfl) (pv 13) pe_int (fun _ _ => rfl)) (pa_cons (pe_ix (ix_tupG (K := g.K) rfl) (pv 13) pe_int (fun _ _ => rfl)) (pa_cons (pe_callTy (call_tupG (K := g.K) rfl) (by rfl) T.f_tuple (by decide +kernel) (pa_cons (pe_lc (own := [("_law_item", 16)]) (tt := tYes) rfl sc_law_led_right.nd (pi_tupG (K := g.K) rfl (pe_ix (ix_tupG (K := g.K) rfl) (pv 13) pe_int (fun _ _ => rfl))) (blkOk_by (by kernel_rfl)) (fun _ _ _ _ _ => (pg_name (i := 16) sc_law_led_right.nd rfl (.inl rfl))) (fun _ _ _ _ _ => pts_nil) (fun _ _ _ _ _ => (pe_op op_mul (pv 4) (pv 16)))) pa_nil)) pa_nil))))))
    (pss_cons (ps_set (i := 7) sc_law_led_right.nd rfl (.inl rfl) (pe_kn rfl C_law_moved (hr.mono (by omega)) (by rfl) (pa_cons (pv 3) (pa_cons (pe_kn rfl C_law_numbers (hr.mono (by omega)) (by rfl) (pa_cons (pv 1) (pa_cons (pv 5) (pa_cons (pv 6) pa_nil)))) pa_nil))))
    (pss_cons (ps_asg (pe_kn rfl C_reach (hr.mono (by omega)) (by rfl) (pa_cons (pv 2) (pa_cons (pv 3) pa_nil))) (pg_tup (by rfl) (pgs_cons (pg_name (i := 8) sc_law_led_right.nd rfl (.inl rfl)) (pgs_cons (pg_name (i := 9) sc_law_led_right.nd rfl (.inl rfl)) pgs_nil))))
    (pss_cons (ps_if (pt_cmpR (op_neD hr.units) (pe_kn rfl C_added (hr.mono (by omega)) (by rfl) (pa_cons (pv 5) (pa_cons (pv 7) pa_nil))) (pe_callTy call_tuple_of (by rfl) T.f_tuple (by decide +kernel) (pa_cons (pe_lc (own := [("_law_item", 16)]) (tt := tYes) rfl sc_law_led_right.nd (pi_tup (pe_kn rfl C_added (hr.mono (by omega)) (by rfl) (pa_cons (pv 2) (pa_cons (pv 3) pa_nil)))) (blkOk_by (by kernel_rfl)) (fun _ _ _ _ _ => (pg_name (i := 16) sc_law_led_right.nd rfl (.inl rfl))) (fun _ _ _ _ _ => pts_nil) (fun _ _ _ _ _ => (pe_op op_mul (pv 4) (pv 16)))) pa_nil)) (nomark _))
    (pss_one (ps_ret pe_bl))
    pss_nil)
    (pss_cons (ps_if (pt_cmpR (op_neD hr.units) (pe_kn rfl C_reach (hr.mono (by omega)) (by rfl) (pa_cons (pv 5) (pa_cons (pv 7) pa_nil))) (pe_tup (pa_cons (pe_callTy call_tuple_of (by rfl) T.f_tuple (by decide +kernel) (pa_cons (pe_lc (own := [("_law_item", 16)]) (tt := tYes) rfl sc_law_led_right.nd (pi_tup (pv 8)) (blkOk_by (by kernel_rfl)) (fun _ _ _ _ _ => (pg_name (i := 16) sc_law_led_right.nd rfl (.inl rfl))) (fun _ _ _ _ _ => pts_nil) (fun _ _ _ _ _ => (pe_op op_mul (pv 4) (pv 16)))) pa_nil)) (pa_cons (pe_callTy call_tuple_of (by rfl) T.f_tuple (by decide +kernel) (pa_cons (pe_lc (own := [("_law_item", 16)]) (tt := tYes) rfl sc_law_led_right.nd (pi_tup (pv 9)) (blkOk_by (by kernel_rfl)) (fun _ _ _ _ _ => (pg_name (i := 16) sc_law_led_right.nd rfl (.inl rfl))) (fun _ _ _ _ _ => pts_nil) (fun _ _ _ _ _ => (pe_op op_mul (pv 4) (pv 16)))) pa_nil)) pa_nil))) (nomark _))
    (pss_one (ps_ret pe_bl))
    pss_nil)
    (pss_cons (ps_setLc (i := 10) (own := [("_law_k", 17)]) (tt := tYes) rfl sc_law_led_right.nd rfl rfl (sw_true rfl rfl rfl (by kernel_rfl)) (pi_range1 (by rfl) T.f_range (pa_cons (pe_ix ix_tup (pv 1) pe_int (fun _ _ => rfl)) pa_nil)) (blkOk_by (by kernel_rfl)) (fun _ _ _ _ _ => (pg_name (i := 17) sc_law_led_right.nd rfl (.inr rfl))) (fun _ _ _ _ _ => pts_nil) (fun _ _ _ _ _ => (pe_lc (own := [("_law_j", 18)]) (tt := tYes) rfl sc_law_led_right.nd (pi_range1 (by rfl) T.f_range (pa_cons (pe_ix (ix_tupG (K := g.K) rfl) (pv 1) pe_int (fun _ _ => rfl)) pa_nil)) (blkOk_by (by kernel_rfl)) (fun _ _ _ _ _ => (pg_name (i := 18) sc_law_led_right.nd rfl (.inl rfl))) (fun _ _ _ _ _ => pts_nil) (fun _ _ _ _ _ => (pe_callTy call_int1 (by rfl) T.f_int (by decide +kernel) (pa_cons (pe_cmpR op_eq (pv 17) (pv 18) (nomark _)) pa_nil))))))
    (pss_cons (ps_asg (pe_un un_neg pe_int) (pg_sub (pe_ix ix_list (pv 10) pe_int (fun _ _ => rfl)) pe_int set_list))
    (pss_cons (ps_asg (pe_ix ix_list (pe_lst (pa_cons (pe_un un_neg pe_int) (pa_cons pe_int pa_nil))) (pe_callTy call_int1 (by rfl) T.f_int (by decide +kernel) (pa_cons (pe_cmpR op_gt (pe_ix ix_tup (pv 1) pe_int (fun _ _ => rfl)) pe_int (nomark _)) pa_nil)) (fun _ _ => rfl)) (pg_sub (pe_ix ix_list (pv 10) pe_int (fun _ _ => rfl)) (pe_op op_sub (pe_ix ix_tup (pv 1) pe_int (fun _ _ => rfl)) pe_int) set_list))
    (pss_cons (ps_set (i := 11) sc_law_led_right.nd rfl (.inl rfl) (pe_callTy call_tuple_of (by rfl) T.f_tuple (by decide +kernel) (pa_cons (pe_lc (own := [("_law_row", 19)]) (tt := tYes) rfl sc_law_led_right.nd (pi_list (pv 10)) (blkOk_by (by kernel_rfl)) (fun _ _ _ _ _ => (pg_name (i := 19) sc_law_led_right.nd rfl (.inl rfl))) (fun _ _ _ _ _ => pts_nil) (fun _ _ _ _ _ => (pe_callTy (call_tupG (K := g.K) rfl) (by rfl) T.f_tuple (by decide +kernel) (pa_cons (pv 19) pa_nil)))) pa_nil)))
    (pss_cons (ps_set (i := 12) sc_law_led_right.nd rfl (.inl rfl) (pe_kn rfl C_turned (hr.mono (by omega)) (by rfl) (pa_cons (pv 2) (pa_cons (pv 11) pa_nil))))
    (pss_cons (ps_set (i := 6) sc_law_led_right.nd rfl (.inl rfl) (pe_lst pa_nil))
    (pss_cons (ps_for PassesOwn.never rfl (pi_tup (pe_ix ix_tup (pv 1) pe_int (fun _ _ => rfl))) (pg_name (i := 13) sc_law_led_right.nd rfl (.inr rfl))
    (pss_one (ps_expr (pe_bm PySem.F.plainAttrs_list PySem.F.slot_list_append PySem.F.type_list_append mt_append (pv 6) (pa_cons (pe_tup (pa_cons (pe_ix ix_tup (pv 13) pe_int (fun _ _ => rfl)) (pa_cons (pe_ix ix_tup (pv 13) pe_int (fun _ _ => rfl)) (pa_cons (pe_callTy call_tuple_of (by rfl) T.f_tuple (by decide +kernel) (pa_cons (pe_lc (own := [("_law_row", 19)]) (tt := tYes) rfl sc_law_led_right.nd (pi_list (pv 10)) (blkOk_by (by kernel_rfl)) (fun _ _ _ _ _ => (pg_name (i := 19) sc_law_led_right.nd rfl (.inr rfl))) (fun _ _ _ _ _ => pts_nil) (fun _ _ _ _ _ => (pe_callB (cr_sumG (K := g.K) rfl rfl) (by rfl) T.f_sum (by decide +kernel) (pa_cons (pe_lc (own := [("_law_k", 17)]) (tt := tYes) rfl sc_law_led_right.nd (pi_range1 (by rfl) T.f_range (pa_cons (pe_ix (ix_tupG (K := g.K) rfl) (pv 1) pe_int (fun _ _ => rfl)) pa_nil)) (blkOk_by (by kernel_rfl)) (fun _ _ _ _ _ => (pg_name (i := 17) sc_law_led_right.nd rfl (.inl rfl))) (fun _ _ _ _ _ => pts_nil) (fun _ _ _ _ _ => (pe_op op_mul (pe_ix (ix_listG (K := g.K) rfl) (pv 19) (pv 17) (fun _ _ => rfl)) (pe_ix (ix_tupG (K := g.K) rfl) (pe_ix (ix_tupG (K := g.K) rfl) (pv 13) pe_int (fun _ _ => rfl)) (pv 17) (fun _ _ => rfl))))) pa_nil)))) pa_nil)) pa_nil)))) pa_nil)))))
    (pss_cons (ps_set (i := 7) sc_law_led_right.nd rfl (.inl rfl) (pe_kn rfl C_law_moved (hr.mono (by omega)) (by rfl) (pa_cons (pv 3) (pa_cons (pe_kn rfl C_law_numbers (hr.mono (by omega)) (by rfl) (pa_cons (pv 1) (pa_cons (pv 12) (pa_cons (pv 6) pa_nil)))) pa_nil))))
    (pss_cons (ps_set (i := 14) sc_law_led_right.nd rfl (.inr rfl) (pe_kn rfl C_added (hr.mono (by omega)) (by rfl) (pa_cons (pv 2) (pa_cons (pv 3) pa_nil))))
    (pss_cons (ps_set (i := 15) sc_law_led_right.nd rfl (.inl rfl) (pe_callTy call_tuple_of (by rfl) T.f_tuple (by decide +kernel) (pa_cons (pe_lc (own := [("_law_row", 19)]) (tt := tYes) rfl sc_law_led_right.nd (pi_list (pv 10)) (blkOk_by (by kernel_rfl)) (fun _ _ _ _ _ => (pg_name (i := 19) sc_law_led_right.nd rfl (.inr rfl))) (fun _ _ _ _ _ => pts_nil) (fun _ _ _ _ _ => (pe_callB (cr_sumG (K := g.K) rfl rfl) (by rfl) T.f_sum (by decide +kernel) (pa_cons (pe_lc (own := [("_law_k", 17)]) (tt := tYes) rfl sc_law_led_right.nd (pi_range1 (by rfl) T.f_range (pa_cons (pe_ix (ix_tupG (K := g.K) rfl) (pv 1) pe_int (fun _ _ => rfl)) pa_nil)) (blkOk_by (by kernel_rfl)) (fun _ _ _ _ _ => (pg_name (i := 17) sc_law_led_right.nd rfl (.inl rfl))) (fun _ _ _ _ _ => pts_nil) (fun _ _ _ _ _ => (pe_op op_mul (pe_ix (ix_listG (K := g.K) rfl) (pv 19) (pv 17) (fun _ _ => rfl)) (pe_ix (ix_tupG (K := g.K) rfl) (pv 14) (pv 17) (fun _ _ => rfl))))) pa_nil)))) pa_nil)))
    (pss_one (ps_ret (pe_and (pe_cmpR op_is_bl (pe_kn rfl C_is_log (hr.mono (by omega)) (by rfl) (pa_cons (pv 12) (pa_cons (pv 7) pa_nil))) pe_bl (nomark _)) (pe_one (pe_cmpR (op_eqD hr.units) (pe_kn rfl C_added (hr.mono (by omega)) (by rfl) (pa_cons (pv 12) (pa_cons (pv 7) pa_nil))) (pv 15) (nomark _))))))))))))))))))))))), fun c es Q ⟨⟨⟨ps, pt, pr⟩, l, a, e⟩, ee, hd, q⟩ => ?_⟩
  subst ee
  try dsimp only [cxOf, Cx.nox, Cx.wish]
  refine ws_ds (ds' := [some .pool, some (.p (Pt.pd (ps, pt, pr))), some (.prg ps pt pr false), some (.p l.pd), none, none, none, none, none, none, none, none, none, none, none, none, none, none, none, none]) rfl ?_
  have C : Cse (ps, pt, pr) l a e := hd
  have hq : Q (.p (.bool true)) := q.2
  clear hd q
  obtain ⟨s0, s4, t0, t8, len, ok, asc⟩ := id C.ok
  dsimp only at s0 s4 t0 t8 len ok asc
  obtain ⟨S, hS, hl, hb, he⟩ := C.run
  obtain ⟨g1, e1⟩ := C.good false hS
  have e1 : sumP (ps, pt, pr, false) l = some S := e1
  have g1 : GoodL (ps, pt, pr, false) l := g1
  have wf := C.wf hS
  have b12 := prgOk_b C.ok
  have stl : ∀ r ∈ pr, r.st.length ≤ 1000 := fun r hr => by have := (ok r hr).2.2.2.2.1; omega
  have n4 : ps.toNat ≤ 1000 := by omega
  -- how many times
  refine ws_seq (ws_asg (we_op (we_int (we_callF (wa_cons (we_var rfl (wa_cons (we_int (wa_nil ?_)))))))))
  refine ⟨rfl, 1000, rfl, ⟨by decide, by decide⟩, fun d ⟨i, ed, i0, i1⟩ => ?_⟩
  subst ed
  refine ⟨rfl, wr_add (wg_name ⟨Nat.le_of_ble_eq_true rfl, ?_⟩)⟩
  generalize hm : 1 + i = m
  have m1 : 1 ≤ m := by omega
  have m2 : m ≤ 1000 := by omega
  refine ws_ds (ds' := [some .pool, some (.p (Pt.pd (ps, pt, pr))), some (.prg ps pt pr false), some (.p l.pd), some (.p (.int m)), none, none, none, none, none, none, none, none, none, none, none, none, none, none, none]) rfl ?_
  -- the longer program
  refine ws_seq (ws_asg (we_callF (wa_cons (we_var rfl (wa_cons (we_var rfl (wa_nil ?_)))))))
  refine ⟨rfl, ((ps, pt, pr, false), m), rfl, ⟨by show pr.length < 64; omega, stl, m1, by show m ≤ 1000000000000; omega⟩, fun d hd => ?_⟩
  obtain ⟨rs1, ed, asc1, mem1⟩ := hd
  dsimp only at ed mem1
  subst ed
  refine ⟨rfl, wg_name ⟨Nat.le_of_ble_eq_true rfl, ?_⟩⟩
  -- the readings there
  refine ws_seq (ws_asg (we_mapT (α := Rd) (wi_tup ?_)))
  repeat walk_at "st"
  refine ⟨pr.map Rd.pd, rfl, pr, Rd.pd, fun r => (longR m r).pd, rfl, by omega, fun r hr => ⟨[(13, r.pd)], tgt_name, rfl, ?_⟩, ?_⟩
  · refine we_tupR (r := longR m r) ?_
    repeat walk_at "st"
    refine we_lcI ?_
    repeat walk_at "st"
    refine ⟨r.st, rfl, stl r hr, rfl, fun z => m * z, fun z hz => ?_, ?_⟩
    · repeat walk_at "st"
      refine wr_mulL ⟨by omega, by omega⟩ ⟨rfl, rfl⟩
    · repeat walk_at "st"
      exact ⟨rfl, rfl, rfl⟩
  rw [show (pr.map fun r => (longR m r).pd) = (pr.map (longR m)).map Rd.pd by rw [List.map_map]; rfl]
  refine wg_name ⟨Nat.le_of_ble_eq_true rfl, ?_⟩
  -- the log there
  refine ws_seq (ws_asg (we_callE (wa_cons (we_var rfl (wa_cons (we_callF (wa_cons (we_var rfl (wa_cons (we_var rfl (wa_cons (we_var rfl (wa_nil ?_)))))))))))))
  refine ⟨rfl, ((ps, pt, pr), (ps, pt, rs1), pr.map (longR m)), rfl, ⟨by show pr.length = (pr.map (longR m)).length; rw [List.length_map], by show (pr.map (longR m)).length ≤ 1000; rw [List.length_map]; omega, asc_nodup asc1, fun r hr => (mem1 r).mpr hr⟩, fun d ⟨ns, ed, nums⟩ => ?_⟩
  subst ed
  refine ⟨rfl, wa_nil ?_⟩
  have nsl : ns.length = pr.length := by rw [nums.1, List.length_map]
  have len100 : l.ds.length ≤ 100 := by have := C.len; omega
  refine ⟨rfl, (l, ns), rfl, ⟨by show l.inn ns.length; rw [nsl]; exact C.wk.inn, C.dep, C.few, len100⟩, rfl, wg_name ⟨Nat.le_of_ble_eq_true rfl, ?_⟩⟩
  dsimp only
  obtain ⟨S1, g2, e2, R1⟩ := C.other (R := RLong m) (s' := ps) (t' := pt) (rs' := rs1) (nd := true) (g := byL ns) (φ := longR m) (sim_long (by omega) _ _) (fun r hr => one_long (by omega) _ r) (fun k r k0 hk => nums_look nums hk)
    (made_w asc1 mem1 ⟨s0, by omega⟩ ⟨t0, by omega⟩ (fun r hr => by
      obtain ⟨r0, h0, rfl⟩ := List.mem_map.mp hr
      show ((r0.st.map (m * ·)).length : Int) = ps
      rw [List.length_map]
      exact (ok r0 h0).2.2.2.2.1) (by rw [List.length_map]; omega) true) (fun r hr z hz => by
      obtain ⟨r0, h0, rfl⟩ := List.mem_map.mp ((mem1 r).mp hr)
      obtain ⟨z0, hz0, rfl⟩ := List.mem_map.mp hz
      have hb1 := mul_bd (show 0 ≤ m by omega) (b12 r0 h0 z0 hz0)
      have hs1 : (1000 * 1000000000000 : Int) ≤ sMax := by decide +kernel
      have hb2 : m * 1000000000000 ≤ 1000 * 1000000000000 := by omega
      omega) hS
  refine ws_ds (ds' := [some .pool, some (.p (Pt.pd (ps, pt, pr))), some (.prg ps pt pr false), some (.p l.pd), some (.p (.int m)), some (.prg ps pt rs1 true), some (.nl ((pr.map (longR m)).map Rd.pd)), some (.p (l.mv (byL ns)).pd), none, none, none, none, none, none, none, none, none, none, none, none]) rfl ?_
  -- what is told here
  refine ws_seq (ws_asg (we_callE (wa_cons (we_var rfl (wa_cons (we_var rfl (wa_nil ?_)))))))
  refine ⟨rfl, ((ps, pt, pr, false), l), rfl, g1, rfl, ?_⟩
  dsimp only
  rw [e1]
  dsimp only [tell]
  refine wg_tup (xs := [intsD S.le, intsD S.mo]) rfl (wgs_cons ⟨Nat.le_of_ble_eq_true rfl, wgs_cons ⟨Nat.le_of_ble_eq_true rfl, wgs_nil ?_⟩⟩)
  refine ws_ds (ds' := [some .pool, some (.p (Pt.pd (ps, pt, pr))), some (.prg ps pt pr false), some (.p l.pd), some (.p (.int m)), some (.prg ps pt rs1 true), some (.nl ((pr.map (longR m)).map Rd.pd)), some (.p (l.mv (byL ns)).pd), some (.p (intsD S.le)), some (.p (intsD S.mo)), none, none, none, none, none, none, none, none, none, none]) rfl ?_
  have mulS : ∀ z : Int, -(2 ^ 64) < m ∧ m < 2 ^ 64 := fun _ => by omega
  -- the sum
  refine ws_seq (ws_if (wt_test (we_op (we_callE (wa_cons (we_var rfl (wa_cons (we_var rfl (wa_nil ⟨rfl, ((ps, pt, rs1, true), l.mv (byL ns)), rfl, g2, rfl, ?_⟩)))))))))
  dsimp only
  rw [e2]
  dsimp only [tell]
  rw [R1.ad]
  refine we_cb (wa_cons (we_lcI (we_callE (wa_cons (we_var rfl (wa_cons (we_var rfl (wa_nil ⟨rfl, ((ps, pt, pr, false), l), rfl, g1, rfl, ?_⟩))))))))
  dsimp only
  rw [e1]
  dsimp only [tell]
  refine ⟨S.ad, rfl, by rw [wf.1]; exact n4, rfl, fun z => m * z, fun z _ => ?_, ?_⟩
  · repeat walk_at "st"
    refine wr_mulL (mulS z) ⟨rfl, rfl⟩
  refine wa_nil (wc_tupI rfl (wr_neD (shaped_intsT _) (shaped_intsT _) ⟨_, rfl, ?_⟩))
  rw [eqv_self _ (shaped_lay (shaped_intsT (S.ad.map (m * ·))))]
  refine iteF (ws_next ?_)
  -- the reach
  refine ws_seq (ws_if (wt_test (we_op (we_callE (wa_cons (we_var rfl (wa_cons (we_var rfl (wa_nil ⟨rfl, ((ps, pt, rs1, true), l.mv (byL ns)), rfl, g2, rfl, ?_⟩)))))))))
  dsimp only
  rw [e2]
  dsimp only [tell]
  rw [R1.le, R1.mo]
  refine we_tup (wa_cons (we_cb (wa_cons (we_lcI (we_var rfl ⟨S.le, rfl, by rw [wf.2.1]; exact n4, rfl, fun z => m * z, fun z _ => ?_, ?_⟩)))))
  · repeat walk_at "st"
    refine wr_mulL (mulS z) ⟨rfl, rfl⟩
  refine wa_nil (wc_tupI rfl (wa_cons (we_cb (wa_cons (we_lcI (we_var rfl ⟨S.mo, rfl, by rw [wf.2.2.1]; exact n4, rfl, fun z => m * z, fun z _ => ?_, ?_⟩))))))
  · repeat walk_at "st"
    refine wr_mulL (mulS z) ⟨rfl, rfl⟩
  refine wa_nil (wc_tupI rfl (wa_nil ⟨[intsD (S.le.map (m * ·)), intsD (S.mo.map (m * ·))], rfl, Nat.le_of_ble_eq_true rfl, ?_⟩))
  refine wr_neD (two_shaped _ _) (two_shaped _ _) ⟨_, rfl, ?_⟩
  rw [eqv_self _ (shaped_lay (two_shaped _ _))]
  refine iteF (ws_next ?_)
  -- the rows, in the heap itself
  intro gs as H σ E L hn qn qr
  obtain ⟨n, hps⟩ : ∃ n : Nat, ps = (n : Int) := ⟨ps.toNat, by omega⟩
  have hn1 : 1 ≤ n := by omega
  have hn4 : n ≤ 4 := by omega
  have te0 : ∀ (c' : Cg) (ds : List (Option D)), ds[1]? = some (some (.p (Pt.pd (ps, pt, pr)))) → ∀ ms, We g c' (tOp (rIxT g.K) (tVar 1) (tC (V.int 0))) ds ms fun d ms' => d = .p (.int (n : Int)) ∧ ms' = ms := fun c' ds h ms => we_op (we_var h (we_int (wr_ixT ⟨by decide, rfl⟩ ⟨by rw [hps], rfl⟩)))
  refine seq_asg ?_
  refine rows_made (n := n) (dsr := [some .pool, some (.p (Pt.pd (ps, pt, pr))), some (.prg ps pt pr false), some (.p l.pd), some (.p (.int m)), none, none, none, none, none, none, none, none, none, none, none, none, none, none, none]) (rowOf n) (by omega) ⟨by decide, Nat.le_of_ble_eq_true rfl⟩ L rfl (fun i d h => ?_) (te0 c _ rfl []) (fun c' i hi => ?_) fun H1 a2 rs H2 L1 RA => ?_
  · match i, h with
    | 0, h => cases h; exact ⟨_, rfl, rfl, rfl⟩
    | 1, h => cases h; exact ⟨_, rfl, rfl, rfl⟩
    | 2, h => cases h; exact ⟨_, rfl, rfl, rfl⟩
    | 3, h => cases h; exact ⟨_, rfl, rfl, rfl⟩
    | 4, h => cases h; exact ⟨_, rfl, rfl, rfl⟩
    | 5, h | 6, h | 7, h | 8, h | 9, h | 10, h | 11, h | 12, h | 13, h | 14, h | 15, h | 16, h | 17, h | 18, h | 19, h => cases h
    | k + 20, h => simp at h
  · refine we_mapT (α := Int) (wi_rng1 (wa_cons (we_mono (te0 c' _ rfl []) fun d ms' ⟨ed, em⟩ => ?_)))
    subst ed em
    refine wa_nil ⟨(n : Int), rfl, by omega, by omega, upTo n, .int, fun j => .int (if (0 + (i : Int)) = j then 1 else 0), by rw [Int.toNat_natCast]; exact rngD_upTo n, by rw [upTo, List.length_map, List.length_range]; omega, fun j _ => ⟨_, tgt_name, rfl, ?_⟩, by unfold rowOf; rw [List.map_map]; rfl, rfl⟩
    repeat walk_at "st"
    refine wc_intB ⟨?_, rfl⟩
    dsimp only
    by_cases h : 0 + (i : Int) = j
    · rw [decide_eq_true h, if_pos rfl, if_pos h]
    · rw [decide_eq_false h, if_neg Bool.false_ne_true, if_neg h]
  have M0 : ((List.range n).map (rowOf n))[0]? = some (rowOf n 0) := by
    rw [List.getElem?_map, List.getElem?_range (by omega)]
    rfl
  have rl : (rowOf n 0).length = n := by unfold rowOf; rw [List.length_map, upTo, List.length_map, List.length_range]
  obtain ⟨r0, er0⟩ : ∃ r0, rs[0]? = some r0 := ⟨_, List.getElem?_eq_getElem (by rw [RA.ln, List.length_map, List.length_range]; omega)⟩
  have lo1 : ∀ {H2 : Hp} {M : List (List Int)}, RowsAt c H1 H2 a2 rs M → Lo g c gs as H2 (σ.set 10 (some (.ref a2))) ([some .pool, some (.p (Pt.pd (ps, pt, pr))), some (.prg ps pt pr false), some (.p l.pd), some (.p (.int m)), some (.prg ps pt rs1 true), some (.nl ((pr.map (longR m)).map Rd.pd)), some (.p (l.mv (byL ns)).pd), some (.p (intsD S.le)), some (.p (intsD S.mo)), some (.ad a2), none, none, none, none, none, none, none, none, none]) [] :=
    fun RA => ((RA.lo L1).push (v := .ref a2) (d := .ad a2) rfl).set (i := 10) (Nat.le_of_ble_eq_true rfl)
  have lo2 : ∀ {H2 : Hp} {M : List (List Int)}, RowsAt c H1 H2 a2 rs M → Lo g ⟨c.po, H2⟩ [] [] H2 (σ.set 10 (some (.ref a2))) ([some .pool, some (.p (Pt.pd (ps, pt, pr))), some (.prg ps pt pr false), some (.p l.pd), none, none, none, none, none, none, some (.ad a2), none, none, none, none, none, none, none, none, none]) [] := fun RA => (lo1 RA).reframe rfl fun i d h => (by
    match i, h with
    | 0, h => cases h; exact ⟨_, rfl, rfl, rfl⟩
    | 1, h => cases h; exact ⟨_, rfl, rfl, rfl⟩
    | 2, h => cases h; exact ⟨_, rfl, rfl, rfl⟩
    | 3, h => cases h; exact ⟨_, rfl, rfl, rfl⟩
    | 10, h => cases h; exact ⟨_, rfl, rfl, rfl⟩
    | 4, h | 5, h | 6, h | 7, h | 8, h | 9, h | 11, h | 12, h | 13, h | 14, h | 15, h | 16, h | 17, h | 18, h | 19, h => cases h
    | k + 20, h => simp at h)
  have s10 : (σ.set 10 (some (.ref a2)))[10]? = some (some (.ref a2)) := by
    have := (lo1 RA).sln
    rw [List.length_set] at this
    exact List.getElem?_set_self (by rw [this]; exact Nat.le_of_ble_eq_true rfl)
  generalize σ.set 10 (some (.ref a2)) = σ1 at lo1 lo2 s10
  refine seq_asgT ⟨1, rfl, ?_⟩
  refine set_rows RA s10 er0 M0 (j := 0) (by rw [rl]; omega) (fun H3 RA3 Q2 q2 => q2 H3 RA3) fun H3 RA3 => ?_
  refine seq_asgT ?_
  refine (?_ : We g ⟨c.po, H3⟩ _ [some .pool, some (.p (Pt.pd (ps, pt, pr))), some (.prg ps pt pr false), some (.p l.pd), none, none, none, none, none, none, some (.ad a2), none, none, none, none, none, none, none, none, none] [] (fun d ms => d = .p (.int (if 1 < (n : Int) then 3 else -1)) ∧ ms = [])) [] [] H3 σ1 (lo2 RA3) _ fun xv H4 d4 ms4 L4 ⟨ed, em⟩ => ?_
  · refine we_op (we_lst ?_)
    repeat walk_at "st"
    refine ⟨[.int (-1), .int 3], rfl, Nat.le_of_ble_eq_true rfl, we_cb (wa_cons (we_op (we_mono (te0 _ _ rfl _) fun d ms' ⟨ed, em⟩ => ?_)))⟩
    subst ed em
    repeat walk_at "st"
    refine wc_intB ?_
    by_cases h : 1 < (n : Int)
    · rw [decide_eq_true h, if_pos rfl, if_pos h]
      exact wr_ixL rfl ⟨by decide, rfl⟩ ⟨rfl, rfl⟩
    · rw [decide_eq_false h, if_neg Bool.false_ne_true, if_neg h]
      exact wr_ixL rfl ⟨by decide, rfl⟩ ⟨rfl, rfl⟩
  subst ed em
  have hx := L4.top
  cases hx
  refine set_rows (RA3.same (fun b o e nb => L4.keep b o e nb) (RA3.pool.back L4.pool)) s10 er0 (List.getElem?_set_self (by rw [List.length_map, List.length_range]; omega)) (j := n - 1) (by rw [List.length_set, rl]; omega) (fun H5 RA5 Q2 q2 => ?_) fun H6 RA6 => ?_
  · refine (?_ : We g ⟨c.po, H5⟩ _ [some .pool, some (.p (Pt.pd (ps, pt, pr))), some (.prg ps pt pr false), some (.p l.pd), none, none, none, none, none, none, some (.ad a2), none, none, none, none, none, none, none, none, none] [] (fun d ms => d = .p (.int ((n - 1 : Nat) : Int)) ∧ ms = [])) [] [] H5 σ1 (lo2 RA5) _ fun xv H7 d7 ms7 L7 ⟨ed, em⟩ => ?_
    · refine we_op (we_mono (te0 _ _ rfl _) fun d ms' ⟨ed, em⟩ => ?_)
      subst ed em
      refine we_int (wr_sub ⟨?_, rfl⟩)
      rw [show (n : Int) - 1 = ((n - 1 : Nat) : Int) by omega]
    subst ed em
    have hx := L7.top
    cases hx
    exact q2 H7 (RA5.same (fun b o e nb => L7.keep b o e nb) (RA5.pool.back L7.pool))
  refine reframe_run (lo1 RA6) (lo2 RA6) ?_ qr
  have RI : RowsIn ⟨c.po, H6⟩ a2 rs (matM n) := RA6.inn
  generalize (⟨c.po, H6⟩ : Cg) = c2 at RI
  clear RA6 lo1 lo2 L4 RA3 RA L1 L hn qn qr
  obtain ⟨ml, sq, dt⟩ := matM_ok hn1 hn4
  generalize matM n = M at RI ml sq dt
  subst hps
  have pn : ((n : Nat) : Int).toNat = n := Int.toNat_natCast n
  -- the matrix
  refine ws_seq (ws_asg (we_cb (wa_cons (we_lcRows ⟨a2, rs, M, rfl, RI, by omega, rfl, intsD, fun row hr => we_cb (wa_cons (we_var rfl (wa_nil (wc_tupI rfl ⟨rfl, rfl⟩)))), ?_⟩))))
  refine wa_nil (wc_tup rfl (wg_name ⟨Nat.le_of_ble_eq_true rfl, ?_⟩))
  -- the program led
  refine ws_seq (ws_asg (we_callF (wa_cons (we_var rfl (wa_cons (we_var rfl (wa_nil ?_)))))))
  refine ⟨rfl, (((n : Int), pt, pr, false), M), rfl, ⟨by show pr.length < 64; omega, fun r hr => (ok r hr).2.2.2.2.1, s4, by show (M.length : Int) = n; rw [ml], sq, dt⟩, fun d hd => ?_⟩
  obtain ⟨rs2, ed, asc2, mem2⟩ := hd
  dsimp only at ed mem2
  subst ed
  refine ⟨rfl, wg_name ⟨Nat.le_of_ble_eq_true rfl, ?_⟩⟩
  refine ws_seq (ws_asgN (wn_nil ⟨Nat.le_of_ble_eq_true rfl, ?_⟩))
  refine ws_dm (ds' := [some .pool, some (.p (Pt.pd ((n : Int), pt, pr))), some (.prg n pt pr false), some (.p l.pd), none, none, some (.m 0), none, none, none, some (.ad a2), some (.p (.tuple (matD M))), some (.prg n pt rs2 true), none, none, none, none, none, none, none]) (ms' := [.l []]) rfl rfl ?_
  -- a row times a step, side by side
  have dots : ∀ (c' : Cg) (ds : List (Option D)) (ms : List MO) (row st : List Int) (i j : Nat) (tst : TE) (own : List Nat), row ∈ M → st.length = n → ds[1]? = some (some (.p (Pt.pd ((n : Int), pt, pr)))) → ds[i]? = some (some (.l (row.map .int))) → j < ds.length → own = [j] → i ≠ j →
      (∀ k : Int, We g c' tst ((ds.set j none).set j (some (.p (.int k)))) ms fun d ms' => d = .p (intsD st) ∧ ms' = ms) →
      We g c' (tCB (rSum g.K) (tCons (tLc (iRng1 (tCons (tOp (rIxT g.K) (tVar 1) (tC (V.int 0))) tNil)) (gName j) tYes (tOp (rI CMul fun i j => V.int (i * j)) (tOp (rIxL g.K) (tVar i) (tVar j)) (tOp (rIxT g.K) tst (tVar j))) own) tNil)) ds ms fun d ms' => d = .p (.int (dotL row st)) ∧ ms' = ms := by
    intro c' ds ms row st i j tst own hrow hst h1 hi hj ho hij ht
    subst ho
    obtain ⟨rl2, rb⟩ := sq row hrow
    refine we_cb (wa_cons (we_mapT (α := Int) (wi_rng1 (wa_cons (we_mono (te0 c' ds h1 ms) fun d ms' ⟨ed, em⟩ => ?_)))))
    subst ed em
    refine wa_nil ⟨(n : Int), rfl, by omega, by omega, upTo n, .int, fun k => .int (row.getD k.toNat 0 * st.getD k.toNat 0), by rw [pn]; exact rngD_upTo n, by rw [upTo, List.length_map, List.length_range]; omega, fun k hk => ⟨[(j, .int k)], tgt_name, ?_, ?_⟩, ?_⟩
    · simp [hj]
    · obtain ⟨k0, hk0, rfl⟩ := List.mem_map.mp hk
      have hk0 := List.mem_range.mp hk0
      have hik : ((ds.set j none).set j (some (.p (.int (k0 : Int)))))[i]? = some (some (.l (row.map .int))) := by
        rw [List.getElem?_set_ne (Ne.symm hij), List.getElem?_set_ne (Ne.symm hij)]
        exact hi
      have hjk : ((ds.set j none).set j (some (.p (.int (k0 : Int)))))[j]? = some (some (.p (.int (k0 : Int)))) := List.getElem?_set_self (by rw [List.length_set]; exact hj)
      refine we_op (we_op (we_var hik (we_var hjk (wr_ixL rfl (ints_at (l := row) (by omega) (by omega)) (we_op (we_mono (ht k0) fun d ms' ⟨ed, em⟩ => ?_))))))
      subst ed em
      refine we_var hjk (wr_ixT (ints_at (l := st) (by omega) (by omega)) (wr_mulL ?_ ⟨rfl, rfl⟩))
      have hg : row.getD ((k0 : Int)).toNat 0 ∈ row := by
        rw [Int.toNat_natCast, getD_at (by omega)]
        exact List.getElem_mem _
      have := rb _ hg
      omega
    · refine wa_nil (wc_sumT ?_)
      rw [dot_sum (by rw [rl2, ml]) hst]
      exact ⟨rfl, rfl⟩
  have hst : ∀ r ∈ pr, r.st.length = n := fun r hr => by have := (ok r hr).2.2.2.2.1; omega
  refine ws_seq (ws_for (wi_tup (we_op (we_var rfl (we_int (wr_ixT ⟨by decide, rfl⟩ ?_))))))
  refine ⟨pr.map Rd.pd, rfl, fun k ds ms => ms = [.l ((pr.take k).map fun r => (ledR M r).pd)] ∧ ∃ a13 : Option D, ds = [some .pool, some (.p (Pt.pd ((n : Int), pt, pr))), some (.prg n pt pr false), some (.p l.pd), none, none, some (.m 0), none, none, none, some (.ad a2), some (.p (.tuple (matD M))), some (.prg n pt rs2 true), a13, none, none, none, none, none, none], ⟨rfl, _, rfl⟩, fun k y ds2 ms2 hy ⟨em, a13, ed⟩ => ?_, fun ds2 ms2 ⟨em, a13, ed⟩ => ?_⟩
  · subst em ed
    rw [List.getElem?_map] at hy
    cases hr : pr[k]? with
    | none =>
      rw [hr] at hy
      cases hy
    | some r =>
      rw [hr] at hy
      cases hy
      have hrm := List.mem_of_getElem? hr
      refine wg_name ⟨Nat.le_of_ble_eq_true rfl, ?_⟩
      refine ws_ds (ds' := [some .pool, some (.p (Pt.pd ((n : Int), pt, pr))), some (.prg n pt pr false), some (.p l.pd), none, none, some (.m 0), none, none, none, some (.ad a2), some (.p (.tuple (matD M))), some (.prg n pt rs2 true), some (.p r.pd), none, none, none, none, none, none]) rfl ?_
      refine ws_append ⟨0, _, rfl, rfl, we_tupR (r := ledR M r) ?_⟩
      refine wa_cons (we_op (we_var rfl (we_int (wr_rd0 (wa_cons (we_op (we_var rfl (we_int (wr_rd1 (wa_cons (we_cb (wa_cons (we_lcRows ⟨a2, rs, M, rfl, RI, by omega, rfl, fun row => .int (dotL row r.st), fun row hrow => ?_, ?_⟩)))))))))))))
      · exact dots c2 _ _ row r.st 19 17 _ _ hrow (hst r hrm) rfl rfl (Nat.le_of_ble_eq_true rfl) rfl (by decide) fun k => we_op (we_var rfl (we_int (wr_rd2 ⟨rfl, rfl⟩)))
      refine wa_nil (wc_tupI (l := M.map fun row => dotL row r.st) (by show some _ = some _; rw [List.map_map]; rfl) (wa_nil ⟨rfl, _, _, rfl, rfl, ?_, ?_, _, rfl⟩))
      · rw [List.length_map, List.length_take]
        omega
      · rw [take_map_succ _ hr]
        rfl
  subst em ed
  rw [List.length_map, List.take_length, show (pr.map fun r => (ledR M r).pd) = (pr.map (ledR M)).map Rd.pd by rw [List.map_map]; rfl]
  -- the log there
  refine ws_seq (ws_asg (we_callE (wa_cons (we_var rfl (wa_cons (we_callF (wa_cons (we_var rfl (wa_cons (we_var rfl (wa_cons (we_var rfl (wa_nil ?_)))))))))))))
  refine ⟨rfl, (((n : Int), pt, pr), ((n : Int), pt, rs2), pr.map (ledR M)), rfl, ⟨by show pr.length = (pr.map (ledR M)).length; rw [List.length_map], by show (pr.map (ledR M)).length ≤ 1000; rw [List.length_map]; omega, asc_nodup asc2, fun r hr => (mem2 r).mpr hr⟩, fun d ⟨ns2, ed, nums2⟩ => ?_⟩
  subst ed
  refine ⟨rfl, wa_nil ?_⟩
  have nsl2 : ns2.length = pr.length := by rw [nums2.1, List.length_map]
  refine ⟨rfl, (l, ns2), rfl, ⟨by show l.inn ns2.length; rw [nsl2]; exact C.wk.inn, C.dep, C.few, len100⟩, rfl, wg_name ⟨Nat.le_of_ble_eq_true rfl, ?_⟩⟩
  dsimp only
  obtain ⟨S2, g3, e3, R2⟩ := C.other (R := RLed M n) (s' := (n : Int)) (t' := pt) (rs' := rs2) (nd := true) (g := byL ns2) (φ := ledR M) (by show Sim (RLed M n) ((n : Int)).toNat pt.toNat ((n : Int)).toNat pt.toNat; rw [pn]; exact sim_led ml _) (fun r hr => one_led _ (hst r hr)) (fun k r k0 hk => nums_look nums2 hk)
    (made_w asc2 mem2 ⟨s0, by omega⟩ ⟨t0, by omega⟩ (fun r hr => by
      obtain ⟨r0, h0, rfl⟩ := List.mem_map.mp hr
      show ((M.map fun row => dotL row r0.st).length : Int) = n
      rw [List.length_map, ml]) (by rw [List.length_map]; omega) true) (fun r hr z hz => by
      obtain ⟨r0, h0, rfl⟩ := List.mem_map.mp ((mem2 r).mp hr)
      obtain ⟨row, hrow, rfl⟩ := List.mem_map.mp hz
      have hb1 := dot_bd (B := 1000000000000) (by decide) row r0.st (sq row hrow).2 fun z hz => b12 r0 h0 z hz
      have hrl := (sq row hrow).1
      have hs1 : (3 * 1000000000000 * 4 : Int) ≤ sMax := by decide +kernel
      omega) hS
  refine ws_dm (ds' := [some .pool, some (.p (Pt.pd ((n : Int), pt, pr))), some (.prg n pt pr false), some (.p l.pd), none, none, some (.m 0), some (.p (l.mv (byL ns2)).pd), none, none, some (.ad a2), some (.p (.tuple (matD M))), some (.prg n pt rs2 true), a13, none, none, none, none, none, none]) (ms' := [.l ((pr.map (ledR M)).map Rd.pd)]) rfl rfl ?_
  -- its sum
  refine ws_seq (ws_asg (we_callE (wa_cons (we_var rfl (wa_cons (we_var rfl (wa_nil ?_)))))))
  refine ⟨rfl, (((n : Int), pt, pr, false), l), rfl, g1, rfl, ?_⟩
  dsimp only
  rw [e1]
  dsimp only [tell]
  refine wg_name ⟨Nat.le_of_ble_eq_true rfl, ?_⟩
  refine ws_dm (ds' := [some .pool, some (.p (Pt.pd ((n : Int), pt, pr))), some (.prg n pt pr false), some (.p l.pd), none, none, some (.m 0), some (.p (l.mv (byL ns2)).pd), none, none, some (.ad a2), some (.p (.tuple (matD M))), some (.prg n pt rs2 true), a13, some (.p (intsD S.ad)), none, none, none, none, none]) (ms' := [.l ((pr.map (ledR M)).map Rd.pd)]) rfl rfl ?_
  refine ws_seq (ws_asg (we_cb (wa_cons (we_lcRows ⟨a2, rs, M, rfl, RI, by omega, rfl, fun row => .int (dotL row S.ad), fun row hrow => ?_, ?_⟩))))
  · exact dots c2 _ _ row S.ad 19 17 _ _ hrow R2.al rfl rfl (Nat.le_of_ble_eq_true rfl) rfl (by decide) fun k => we_var rfl ⟨rfl, rfl⟩
  refine wa_nil (wc_tupI (l := M.map fun row => dotL row S.ad) (by show some _ = some _; rw [List.map_map]; rfl) (wg_name ⟨Nat.le_of_ble_eq_true rfl, ?_⟩))
  refine ws_dm (ds' := [some .pool, some (.p (Pt.pd ((n : Int), pt, pr))), some (.prg n pt pr false), some (.p l.pd), none, none, some (.m 0), some (.p (l.mv (byL ns2)).pd), none, none, some (.ad a2), some (.p (.tuple (matD M))), some (.prg n pt rs2 true), a13, some (.p (intsD S.ad)), some (.p (intsD (M.map fun row => dotL row S.ad))), none, none, none, none]) (ms' := [.l ((pr.map (ledR M)).map Rd.pd)]) rfl rfl ?_
  refine ws_ret (we_andV (we_op (we_callE (wa_cons (we_var rfl (wa_cons (we_var rfl (wa_nil ⟨rfl, (((n : Int), pt, rs2, true), l.mv (byL ns2)), rfl, g3, rfl, ?_⟩))))))))
  refine we_bl (wr_isB ⟨_, rfl, ?_⟩)
  rw [decide_eq_true rfl]
  refine iteT (we_op (we_callE (wa_cons (we_var rfl (wa_cons (we_var rfl (wa_nil ⟨rfl, (((n : Int), pt, rs2, true), l.mv (byL ns2)), rfl, g3, rfl, ?_⟩)))))))
  dsimp only
  rw [e3]
  dsimp only [tell]
  rw [R2.ad]
  refine we_var rfl (wr_eqD (shaped_intsT _) (shaped_intsT _) ?_)
  rw [eqv_self _ (shaped_lay (shaped_intsT (M.map fun row => dotL row S.ad)))]
  exact ⟨true, rfl, rfl, hq⟩
end
end K19
namespace K19
open PySem PySem.Spec PyProof.Rows L2
local macro_rules | `(tactic| walk_at "st") => `(tactic| first
  | with_reducible refine ws_seq ?_ | with_reducible refine ws_ret ?_ | with_reducible refine ws_if ?_ | with_reducible refine ws_next ?_
  | with_reducible refine we_int ?_ | with_reducible refine we_bl ?_ | with_reducible refine we_non ?_ | with_reducible refine we_str ?_
  | ((with_reducible refine' we_var ?we ?_); (case we => exact rfl)) | with_reducible refine we_op ?_ | with_reducible refine we_un ?_ | with_reducible refine we_isp ?_ | with_reducible refine we_callE ?_ | with_reducible refine we_callF ?_ | with_reducible refine we_cb ?_ | with_reducible refine wa_cons ?_ | with_reducible refine wa_nil ?_
  | with_reducible refine we_tup ?_ | with_reducible refine we_slT ?_ | with_reducible refine wo_none ?_ | with_reducible refine wo_some ?_
  | with_reducible refine we_andV ?_ | with_reducible refine we_orV ?_ | with_reducible refine we_notV ?_ | with_reducible refine we_chain ?_ | with_reducible refine we_ifE ?_
  | with_reducible refine wt_test ?_ | with_reducible refine wt_B ?_ | with_reducible refine wt_and ?_ | with_reducible refine wt_or ?_ | with_reducible refine wt_not ?_
  | with_reducible refine wr_add ?_ | with_reducible refine wr_sub ?_ | with_reducible refine wr_lt ?_ | with_reducible refine wr_le ?_ | with_reducible refine wr_gt ?_ | with_reducible refine wr_ge ?_ | with_reducible refine wr_eqI ?_ | with_reducible refine wr_neI ?_
  | with_reducible refine wr_rd0 ?_ | with_reducible refine wr_rd1 ?_ | with_reducible refine wr_rd2 ?_ | ((with_reducible refine' wr_ixT ?we ?_); (case we => exact ⟨by decide, rfl⟩))
  | with_reducible refine wr_isN ?_ | with_reducible refine wr_notN ?_ | with_reducible refine wr_isB ?_ | with_reducible refine wr_notB ?_ | with_reducible refine wu_neg ?_
  | with_reducible refine we_sides ?_ | with_reducible refine we_tables ?_ | with_reducible refine we_readings ?_ | with_reducible refine we_begin ?_ | with_reducible refine we_end ?_ | with_reducible refine we_length ?_ | with_reducible refine we_added ?_ | with_reducible refine we_least ?_ | with_reducible refine we_most ?_ | with_reducible refine we_stands ?_
  | with_reducible refine wi_tup ?_ | with_reducible refine wi_rng1 ?_ | with_reducible refine ws_drop ?_
  | with_reducible refine ex_b ?_ | ((with_reducible refine' ex_isi ?wp ?_); (case wp => first | assumption | rfl)) | with_reducible refine ex_prg ?_ | with_reducible refine ex_sm ?_ | with_reducible refine ret_p ?_ | with_reducible refine ret_nl ?_ | with_reducible refine ret_prg ?_ | with_reducible refine ret_sm ?_ | with_reducible refine iteT ?_ | with_reducible refine iteF ?_
  | (with_reducible refine wc_allT ?_) | (with_reducible refine wc_sumT ?_) | (with_reducible refine wc_tup rfl ?_) | (with_reducible refine wc_lenT ?_)
  | (refine ⟨rfl, (_, _, _, _), rfl, (by first | trivial | assumption | decide | omega), rfl, ?_⟩; try dsimp only) | (refine ⟨rfl, (_, _, _), rfl, (by first | trivial | assumption | decide | omega), rfl, ?_⟩; try dsimp only) | (refine ⟨rfl, (_, _), rfl, (by first | trivial | assumption | decide | omega), rfl, ?_⟩; try dsimp only) | (refine ⟨rfl, _, rfl, (by first | trivial | assumption | decide | omega), rfl, ?_⟩; try dsimp only)
  | ((with_reducible refine' iteT' ?wp ?_); (case wp => rfl)) | ((with_reducible refine' iteF' ?wp ?_); (case wp => rfl))
  | (with_reducible refine ws_asg ?_) | ((with_reducible refine wg_name ⟨?wl, ?_⟩); (case wl => exact (Nat.le_of_ble_eq_true rfl))))
local macro_rules | `(tactic| walk_at "st") => `(tactic| first
  | with_reducible refine wc_tupI rfl ?_ | with_reducible refine wc_min ?_ | with_reducible refine wc_max ?_ | with_reducible refine wr_neO ?_ | with_reducible refine wr_eqO ?_
  | with_reducible refine we_mkS ?_ | with_reducible refine ex_mkS ?_ | with_reducible refine we_lcZ ?_ | with_reducible refine we_lcZM ?_ | with_reducible refine we_lcZ3 ?_ | with_reducible refine we_revP ?_ | with_reducible refine we_idx ?_)
local macro_rules | `(tactic| walk_at "st") => `(tactic| first
  | with_reducible refine ws_append ?_ | with_reducible refine we_lcR ?_ | with_reducible refine wc_sortTI ?_ | with_reducible refine we_listRg ?_ | ((with_reducible refine' ws_asgN (wn_nil ⟨?wl, ?_⟩)); (case wl => exact (Nat.le_of_ble_eq_true rfl))))
section
variable {Pg : Program} {w : World} {g : Gk} {mg : Str → Option Value} {base : Heap}
/-! ### the law -/
/-- a def that the callers know, by a promise of any kind -/
def KnS (Pg : Program) (w : World) (g : Gk) (mg : Str → Option Value) (base : Heap) (x : Str) (k : Nat) (ps : List Str) (sp : Sp) : Prop :=
  ∃ f fd, FnOk Pg w g.K mg base CX0 k f fd ps sp ∧ mg x = some (.ref f) ∧ PySem.W.keepIn g.K (.ref f) = true ∧ Binds g.K fd ps []
theorem pe_knS {X : Cx} {k : Nat} {x : Str} {ps : List Str} {sp : Sp} {e : Expr} {es : List Expr} {t : TA} {p pos : Pos} (hK : X.K = g.K) (C : KnS X.prog X.w g X.mg X.base x k ps sp) (hr : Room k X.A) (hg : Gl X x) (ha : PA X (e :: es) t)
    (hdb : (x == ("__debug__" : Str)) = false := by decide) (he : starEach (e :: es) X.env = (false, eval e X.env) :: starEach es X.env := by rfl) (hpl : (backTo pos (starEach es X.env)).any (·.1) = false := by rfl) :
    PE X (.Call (.Name x p) (e :: es) [] pos) (tCall sp [] E0 t) := by
  obtain ⟨f, fd, F, hm, hk, hb⟩ := C
  rw [← hK] at F hk hb
  exact pe_call F hr hg hm hk hb .nil pass0 ha hdb he hpl
theorem knS {x qual : Str} {st : Stmt} {f : Addr} {fd : FuncData} {k : Nat} {ps : List Str} {sp : Sp} (F : FT g x qual st f fd) (h : FnOk Pg w g.K mg base CX0 k f fd ps sp) (hm : mg x = some (.ref f))
    (hb : ∀ (kV doc pm : Value) (an : Option Addr) (cdv ct : Value) (us : List Value), us.length = ps.length → bindArgs (PySem.W.fnOf x qual (defArgs st) (defBody st) (defScope st) .none kV doc pm an cdv ct) ⟨us, []⟩ = pure (ps.zip us)) : KnS Pg w g mg base x k ps sp :=
  ⟨f, fd, h, hm, F.kp, FunD.bindsN F hb⟩
/-- a drawn log of any depth up to 3 -/
abbrev sp_law_drawn : DSp := spF (fun a : Pt × Int × Nat => [.pool, .p a.1.pd, .p (.int a.2.1), .p (.int (a.2.2 : Int)), .p (.bool true)]) (fun a => PrgOk a.1.1 a.1.2.1 a.1.2.2 ∧ Tied a.1.2.1 a.1.2.2 ∧ (0 ≤ a.2.1 ∧ a.2.1 < a.1.2.1) ∧ a.2.2 ≤ 3)
  (fun a dd => ∃ l e, dd = .p (.tuple [l.pd, .int e]) ∧ Cse a.1 l a.2.1 e)
theorem drawn_all {f : Addr} {fd : FuncData} {ps : List Str} (h : ∀ d : Nat, FnOk Pg w g.K mg base CX0 (d + 3) f fd ps (spD g (sp_law_drawn_log d))) : FnOk Pg w g.K mg base CX0 6 f fd ps (spD g sp_law_drawn) := by
  have key : ∀ vs H Q E, spD g sp_law_drawn vs H Q E → ∃ d, d ≤ 3 ∧ spD g (sp_law_drawn_log d) vs H Q E := by
    rintro vs H Q E ⟨c, es, h1, h2, h3, h4, ⟨p, tb, d⟩, h5, ⟨p1, p2, p3, p4⟩, h6⟩
    refine ⟨d, p4, c, es, h1, h2, h3, h4, (p, tb), h5, ⟨p1, p2, p3.1, p3.2⟩, fun dd ⟨l, e, e1, dr⟩ => h6 dd ⟨l, e, e1, dr.cse p4 p1 p3⟩⟩
  refine ⟨fun vs H Q E hs => ?_, fun A outer s H args us vs Q E hr he hb hv hs => ?_⟩
  · obtain ⟨d, _, hd⟩ := key _ _ _ _ hs
    exact (h d).len _ _ _ _ hd
  · obtain ⟨d, d3, hd⟩ := key _ _ _ _ hs
    exact ((h d).mono (by omega)).run A outer s H args us vs Q E hr he hb hv hd
abbrev spLaw (g : Gk) : Sp := fun vs H Q _ => ∃ (a : Addr) (ns : List Int), vs = [.ref a] ∧ SqL g.K H a (ns.map V.int) ∧ ns.length ≤ 63 ∧ ∀ H', Q (.bl true) H'
theorem ok_law {f : Addr} {fd : FuncData} (T : Tx g mg) (F : FT g "law" "law" s_law f fd) (C_law_pool : KnS Pg w g mg base "_law_pool" 1 ["_law_script"] (spPool g)) (C_law_draw : Kn Pg w g mg base "_law_draw" 1 ["_law_pool_here", "_law_many"] sp_law_draw) (C_law_ringed : Kn Pg w g mg base "_law_ringed" 4 ["_law_pool_here"] sp_law_ringed)
    (C_law_program : Kn Pg w g mg base "_law_program" 7 ["_law_parts"] sp_law_program) (C_law_drawn_log : Kn Pg w g mg base "_law_drawn_log" 6 ["_law_pool_here", "_law_parts", "_law_table", "_law_deep", "_law_great"] sp_law_drawn)
    (C_law_renamed_right : Kn Pg w g mg base "_law_renamed_right" 13 ["_law_pool_here", "_law_parts", "_law_program_here", "_law_log"] sp_law_renamed_right) (C_law_backward_right : Kn Pg w g mg base "_law_backward_right" 13 ["_law_parts", "_law_program_here", "_law_log"] sp_law_backward_right)
    (C_law_led_right : Kn Pg w g mg base "_law_led_right" 13 ["_law_pool_here", "_law_parts", "_law_program_here", "_law_log"] sp_law_led_right) (C_law_beside_right : Kn Pg w g mg base "_law_beside_right" 13 ["_law_pool_here", "_law_parts", "_law_program_here", "_law_log"] sp_law_beside_right) :
    FnOk Pg w g.K mg base CX0 14 f fd ["_law_script"] (spLaw g) := by
  refine F.ok sc_law (fun vs H Q E ⟨a, ns, e, _⟩ => by rw [e]; rfl) fun cdv A outer s H vs Q E hr ⟨a, ns, e, hS, hl, q⟩ => ?_
  refine ⟨_, PSs.nox ((pss_cons (ps_set (i := 1) sc_law.nd rfl (.inl rfl) (pe_knS rfl C_law_pool (hr.mono (by omega)) (by rfl) (pa_cons (pv 0) pa_nil)))
    (pss_cons (ps_for PassesOwn.never rfl (pi_range1 (by rfl) T.f_range (pa_cons pe_int pa_nil)) (pg_name (i := 2) sc_law.nd rfl (.inl rfl))
    (pss_cons (ps_set (i := 3) sc_law.nd rfl (.inl rfl) (pe_kn rfl C_law_ringed (hr.mono (by omega)) (by rfl) (pa_cons (pv 1) pa_nil)))
    (pss_cons (ps_set (i := 4) sc_law.nd rfl (.inl rfl) (pe_kn rfl C_law_program (hr.mono (by omega)) (by rfl) (pa_cons (pv 3) pa_nil)))
    (pss_cons (ps_set (i := 5) sc_law.nd rfl (.inl rfl) (pe_ix ix_tup (pe_kn rfl C_law_drawn_log (hr.mono (by omega)) (by rfl) (pa_cons (pv 1) (pa_cons (pv 3) (pa_cons (pe_kn rfl C_law_draw (hr.mono (by omega)) (by rfl) (pa_cons (pv 1) (pa_cons (pe_ix ix_tup (pv 3) pe_int (fun _ _ => rfl)) pa_nil))) (pa_cons (pe_kn rfl C_law_draw (hr.mono (by omega)) (by rfl) (pa_cons (pv 1) (pa_cons pe_int pa_nil))) (pa_cons pe_bl pa_nil)))))) pe_int (fun _ _ => rfl)))
    (pss_cons (ps_if (PW.pt (pw_or (pt_not (pt_val (pe_kn rfl C_law_renamed_right (hr.mono (by omega)) (by rfl) (pa_cons (pv 1) (pa_cons (pv 3) (pa_cons (pv 4) (pa_cons (pv 5) pa_nil))))))) (pw_or1 (pt_not (pt_val (pe_kn rfl C_law_backward_right (hr.mono (by omega)) (by rfl) (pa_cons (pv 3) (pa_cons (pv 4) (pa_cons (pv 5) pa_nil)))))))))
    (pss_one (ps_ret pe_bl))
    pss_nil)
    (pss_one (ps_if (PW.pt (pw_or (pt_not (pt_val (pe_kn rfl C_law_led_right (hr.mono (by omega)) (by rfl) (pa_cons (pv 1) (pa_cons (pv 3) (pa_cons (pv 4) (pa_cons (pv 5) pa_nil))))))) (pw_or1 (pt_not (pt_val (pe_kn rfl C_law_beside_right (hr.mono (by omega)) (by rfl) (pa_cons (pv 1) (pa_cons (pv 3) (pa_cons (pv 4) (pa_cons (pv 5) pa_nil))))))))))
    (pss_one (ps_ret pe_bl))
    pss_nil)))))))
    (pss_one (ps_ret pe_bl))))), ?_⟩
  subst e
  try dsimp only [cxOf, Cx.nox, Cx.wish]
  refine seq_asg ⟨.ref a, rfl, a, ns, rfl, hS, hl, fun pl cl H' s1 cs grow n1 n2 ne h1 h2 l63 pos => ?_⟩
  have L : Lo g ⟨some (pl, cl), H'⟩ [] [] H' ((_root_.L2.start N_law [V.ref a]).set 1 (some (.ref pl))) [none, some .pool, none, none, none, none] [] := ⟨fun b o e _ => e, fun b hb => absurd hb List.not_mem_nil, List.nodup_nil, rfl, fun k b m e _ => by simp at e, fun pl2 cl2 e => by
      cases e
      exact ⟨ne, (by show H' pl ≠ none; rw [h1]; exact fun z => nomatch z), (by show H' cl ≠ none; rw [h2]; exact fun z => nomatch z), s1, 0, cs, h1, h2, l63, pos⟩, rfl, fun i d e => (by
      match i, e with
      | 0, e => cases e
      | 1, e => cases e; exact ⟨_, rfl, pl, cl, rfl, rfl⟩
      | 2, e => cases e
      | 3, e => cases e
      | 4, e => cases e
      | 5, e => cases e
      | n + 6, e => simp at e), fun p hp => absurd hp List.not_mem_nil⟩
  show tSeq _ _ _ ((_root_.L2.start N_law [V.ref a]).set 1 (some (V.ref pl))) H'
  generalize ((_root_.L2.start N_law [V.ref a]).set 1 (some (V.ref pl))) = σ at L
  refine (?_ : Ws g ⟨some (pl, cl), H'⟩ _ [none, some .pool, none, none, none, none] [] (fun _ _ => False) (fun d _ => d = .p (.bool true))) [] [] H' σ _ L (fun p hp => absurd hp List.not_mem_nil) (fun _ _ _ _ _ _ z => z.elim) fun v H2 as2 d σ2 ds2 ms2 L2 ed => ?_
  · generalize (⟨some (pl, cl), H'⟩ : Cg) = c
    clear L
    refine ws_seq (ws_for (wi_rng1 (wa_cons (we_int (wa_nil ⟨4, rfl, by decide, by decide, fun k ds ms => ms = [] ∧ ∃ a2 a3 a4 a5 : Option D, ds = [none, some .pool, a2, a3, a4, a5], ⟨rfl, _, _, _, _, rfl⟩, fun k y ds2 ms2 hy ⟨em, a2, a3, a4, a5, ed⟩ => ?_, fun ds2 ms2 ⟨em, a2, a3, a4, a5, ed⟩ => ?_⟩)))))
    · subst em ed
      obtain ⟨hk, rfl⟩ := rngD_get hy
      refine wg_name ⟨Nat.le_of_ble_eq_true rfl, ?_⟩
      refine ws_seq (ws_asg (we_callF (wa_cons (we_var rfl (wa_nil ⟨rfl, (), rfl, trivial, fun d ⟨p, ed, ok, td⟩ => ?_⟩)))))
      subst ed
      refine ⟨rfl, wg_name ⟨Nat.le_of_ble_eq_true rfl, ?_⟩⟩
      obtain ⟨ps, pt, pr⟩ := p
      refine ws_seq (ws_asg (we_callE (wa_cons (we_var rfl (wa_nil ⟨rfl, (ps, pt, pr), rfl, ok, rfl, ?_⟩)))))
      refine wg_name ⟨Nat.le_of_ble_eq_true rfl, ?_⟩
      refine ws_ds (ds' := [none, some .pool, some (.p (.int (0 + (k : Int)))), some (.p (Pt.pd (ps, pt, pr))), some (.prg ps pt pr false), a5]) rfl ?_
      have t1 : 1 ≤ pt ∧ pt ≤ 8 := ⟨ok.2.2.1, ok.2.2.2.1⟩
      refine ws_seq (ws_asg (we_op (we_callF (wa_cons (we_var rfl (wa_cons (we_var rfl (wa_cons (we_callF (wa_cons (we_var rfl (wa_cons (we_op (we_var rfl (we_int (wr_ixT ⟨by decide, rfl⟩ (wa_nil ?_)))))))))))))))))
      refine ⟨rfl, pt, rfl, ⟨by omega, by omega⟩, fun d ⟨tb, ed, b0, b1⟩ => ?_⟩
      subst ed
      refine ⟨rfl, wa_cons (we_callF (wa_cons (we_var rfl (wa_cons (we_int (wa_nil ⟨rfl, 4, rfl, ⟨by decide, by decide⟩, fun d ⟨dd, ed, d0, d1⟩ => ?_⟩))))))⟩
      subst ed
      obtain ⟨n, rfl⟩ : ∃ n : Nat, dd = (n : Int) := ⟨dd.toNat, by omega⟩
      refine ⟨rfl, wa_cons (we_bl (wa_nil ⟨rfl, ((ps, pt, pr), tb, n), rfl, ⟨ok, td, ⟨b0, b1⟩, by show n ≤ 3; omega⟩, fun d ⟨l, e, ed, C⟩ => ?_⟩))⟩
      subst ed
      refine ⟨rfl, we_int (wr_ixT (xs := [l.pd, .int e]) ⟨by decide, rfl⟩ (wg_name ⟨Nat.le_of_ble_eq_true rfl, ?_⟩))⟩
      refine ws_ds (ds' := [none, some .pool, some (.p (.int (0 + (k : Int)))), some (.p (Pt.pd (ps, pt, pr))), some (.prg ps pt pr false), some (.p l.pd)]) rfl ?_
      -- the four looks
      have call4 : ∀ {E : XK} {ds : List (Option D)} {ms : List MO} {B : Bool → List MO → Prop} {ta : TA}, Wa g c ta ds ms (fun es ms1 => es = [.pool, .p (Pt.pd (ps, pt, pr)), .prg ps pt pr false, .p l.pd] ∧ B true ms1) → Wt g c (tB (tCall (spD g (spE (fun x : Cx4 => [.pool, .p x.1.pd, x.prg, .p x.2.1.pd]) Cx4.ok (fun _ => .p (.bool true)))) [] E ta)) ds ms B := fun {E ds ms B ta} h =>
        wt_B (we_callE fun gs as H σ L Q q => h gs as H σ L Q fun vs H' es ms' L' le ⟨ee, k⟩ => q vs H' es ms' L' le (by
          subst ee
          exact ⟨rfl, ((ps, pt, pr), l, tb, e), rfl, C, rfl, _, rfl, k⟩))
      refine ws_seq (ws_if (wt_or (wt_not (call4 (wa_cons (we_var rfl (wa_cons (we_var rfl (wa_cons (we_var rfl (wa_cons (we_var rfl (wa_nil ⟨rfl, ?_⟩)))))))))))))
      refine iteF (wt_not (wt_B (we_callE (wa_cons (we_var rfl (wa_cons (we_var rfl (wa_cons (we_var rfl (wa_nil ⟨rfl, ((ps, pt, pr), l, tb, e), rfl, C, rfl, _, rfl, ?_⟩))))))))))
      refine iteF (ws_next ?_)
      refine ws_if (wt_or (wt_not (call4 (wa_cons (we_var rfl (wa_cons (we_var rfl (wa_cons (we_var rfl (wa_cons (we_var rfl (wa_nil ⟨rfl, ?_⟩))))))))))))
      refine iteF (wt_not (call4 (wa_cons (we_var rfl (wa_cons (we_var rfl (wa_cons (we_var rfl (wa_cons (we_var rfl (wa_nil ⟨rfl, ?_⟩)))))))))))
      refine iteF (ws_next ?_)
      exact ⟨rfl, _, _, _, _, rfl⟩
    · subst em ed
      exact ws_ret (we_bl rfl)
  · subst ed
    have hv := L2.top
    cases hv
    exact q H2
end
end K19
set_option maxHeartbeats 0
namespace K19
open PySem PySem.Spec PyProof.Rows L2
/-- the two classes, by the head's facts -/
def gk {K : PySem.W.Frag} (c : He.SaysD fa fn K) : Gk where
  K := K
  CP := He.ga K "Program"
  CS := He.ga K "Summary"
  clP := He.cls_ok (c.fact 75 (f := .cls "Program") rfl)
  clS := He.cls_ok (c.fact 82 (f := .cls "Summary") rfl)
  nP f h := by
    simp only [List.mem_cons, List.not_mem_nil, or_false] at h
    rcases h with rfl | rfl | rfl
    · exact He.noat_ok (c.fact 78 (f := .noat "Program" "sides") rfl)
    · exact He.noat_ok (c.fact 79 (f := .noat "Program" "tables") rfl)
    · exact He.noat_ok (c.fact 80 (f := .noat "Program" "readings") rfl)
  nS f h := by
    simp only [List.mem_cons, List.not_mem_nil, or_false] at h
    rcases h with rfl | rfl | rfl | rfl | rfl | rfl | rfl
    · exact He.noat_ok (c.fact 86 (f := .noat "Summary" "begin") rfl)
    · exact He.noat_ok (c.fact 87 (f := .noat "Summary" "end") rfl)
    · exact He.noat_ok (c.fact 88 (f := .noat "Summary" "length") rfl)
    · exact He.noat_ok (c.fact 89 (f := .noat "Summary" "added") rfl)
    · exact He.noat_ok (c.fact 90 (f := .noat "Summary" "least") rfl)
    · exact He.noat_ok (c.fact 91 (f := .noat "Summary" "most") rfl)
    · exact He.noat_ok (c.fact 92 (f := .noat "Summary" "stands") rfl)
section
variable {Pg : Program} {w : World} {K : PySem.W.Frag} {h : Heap} {mg : Str → Option Value} {base : Heap}
theorem tx (X : K.In h) (G : h.Ns mainGlobals mg) (c : He.SaysD fa fn K) : Tx (gk c) mg where
  f_isinstance := He.free_ok X G (c.fact 51 (f := .free "isinstance") rfl)
  f_int := He.free_ok X G (c.fact 52 (f := .free "int") rfl)
  f_bool := He.free_ok X G (c.fact 53 (f := .free "bool") rfl)
  f_tuple := He.free_ok X G (c.fact 54 (f := .free "tuple") rfl)
  f_len := He.free_ok X G (c.fact 55 (f := .free "len") rfl)
  f_all := He.free_ok X G (c.fact 56 (f := .free "all") rfl)
  f_sorted := He.free_ok X G (c.fact 57 (f := .free "sorted") rfl)
  f_list := He.free_ok X G (c.fact 58 (f := .free "list") rfl)
  f_range := He.free_ok X G (c.fact 59 (f := .free "range") rfl)
  f_set := He.free_ok X G (c.fact 60 (f := .free "set") rfl)
  f_enumerate := He.free_ok X G (c.fact 61 (f := .free "enumerate") rfl)
  f_sum := He.free_ok X G (c.fact 62 (f := .free "sum") rfl)
  f_zip := He.free_ok X G (c.fact 63 (f := .free "zip") rfl)
  f_min := He.free_ok X G (c.fact 64 (f := .free "min") rfl)
  f_max := He.free_ok X G (c.fact 65 (f := .free "max") rfl)
  f_abs := He.free_ok X G (c.fact 66 (f := .free "abs") rfl)
  f_str := He.free_ok X G (c.fact 67 (f := .free "str") rfl)
  nSides := He.int_ok X G (c.fact 68 (f := .int "MOST_SIDES" 4) rfl)
  nTables := He.int_ok X G (c.fact 69 (f := .int "MOST_TABLES" 8) rfl)
  nReadings := He.int_ok X G (c.fact 70 (f := .int "MOST_READINGS" 24) rfl)
  nStep := He.int_ok X G (c.fact 71 (f := .int "MOST_STEP" 1000000000000) rfl)
  nTimes := He.int_ok X G (c.fact 72 (f := .int "MOST_TIMES" 1000000000000) rfl)
  nNested := He.int_ok X G (c.fact 73 (f := .int "MOST_NESTED" 30) rfl)
  gP := He.glo_ok X G (c.fact 74 (f := .glo "Program") rfl)
  gS := He.glo_ok X G (c.fact 81 (f := .glo "Summary") rfl)
theorem facts {f : Addr} (X : K.In h) (G : h.Ns mainGlobals mg) (hfa : mg ("law" : Str) = some (.ref f)) (c : He.SaysD fa fn K) :
    ∃ fd : FuncData, (∀ (s : Shared) (v : Value), BindsTo s fd ⟨[v], []⟩ [("_law_script", v)]) ∧ ∀ base : Heap, K.In base → base.Ns mainGlobals mg → FnOk Pg w K mg base CX0 14 f fd ["_law_script"] (spLaw (gk c)) := by
  have T := tx X G c
  obtain ⟨fd_is_integer, F_is_integer⟩ := c.def_ 0 (d := d_is_integer) rfl
  have F_is_integer : FT (gk c) "is_integer" "is_integer" s_is_integer (He.fAd K ("is_integer", none)) fd_is_integer := F_is_integer
  obtain ⟨fd_is_within, F_is_within⟩ := c.def_ 1 (d := d_is_within) rfl
  have F_is_within : FT (gk c) "is_within" "is_within" s_is_within (He.fAd K ("is_within", none)) fd_is_within := F_is_within
  obtain ⟨fd_is_triple, F_is_triple⟩ := c.def_ 2 (d := d_is_triple) rfl
  have F_is_triple : FT (gk c) "is_triple" "is_triple" s_is_triple (He.fAd K ("is_triple", none)) fd_is_triple := F_is_triple
  obtain ⟨fd_are_integers, F_are_integers⟩ := c.def_ 3 (d := d_are_integers) rfl
  have F_are_integers : FT (gk c) "are_integers" "are_integers" s_are_integers (He.fAd K ("are_integers", none)) fd_are_integers := F_are_integers
  obtain ⟨fd_are_within, F_are_within⟩ := c.def_ 4 (d := d_are_within) rfl
  have F_are_within : FT (gk c) "are_within" "are_within" s_are_within (He.fAd K ("are_within", none)) fd_are_within := F_are_within
  obtain ⟨fd_are_all, F_are_all⟩ := c.def_ 5 (d := d_are_all) rfl
  have F_are_all : FT (gk c) "are_all" "are_all" s_are_all (He.fAd K ("are_all", none)) fd_are_all := F_are_all
  obtain ⟨fd_check_number, F_check_number⟩ := c.def_ 6 (d := d_check_number) rfl
  have F_check_number : FT (gk c) "check_number" "check_number" s_check_number (He.fAd K ("check_number", none)) fd_check_number := F_check_number
  obtain ⟨fd_is_reading, F_is_reading⟩ := c.def_ 7 (d := d_is_reading) rfl
  have F_is_reading : FT (gk c) "is_reading" "is_reading" s_is_reading (He.fAd K ("is_reading", none)) fd_is_reading := F_is_reading
  obtain ⟨fd_Program_init, F_Program_init⟩ := c.def_ 8 (d := d_Program_init) rfl
  have F_Program_init : FT (gk c) "__init__" "Program.__init__" s_Program_init (He.fAd K ("Program", some "__init__")) fd_Program_init := F_Program_init
  obtain ⟨fd_Program_keep, F_Program_keep⟩ := c.def_ 9 (d := d_Program_keep) rfl
  have F_Program_keep : FT (gk c) "keep" "Program.keep" s_Program_keep (He.fAd K ("Program", some "keep")) fd_Program_keep := F_Program_keep
  obtain ⟨fd_program_of, F_program_of⟩ := c.def_ 10 (d := d_program_of) rfl
  have F_program_of : FT (gk c) "program_of" "program_of" s_program_of (He.fAd K ("program_of", none)) fd_program_of := F_program_of
  obtain ⟨fd_check_table, F_check_table⟩ := c.def_ 11 (d := d_check_table) rfl
  have F_check_table : FT (gk c) "check_table" "check_table" s_check_table (He.fAd K ("check_table", none)) fd_check_table := F_check_table
  obtain ⟨fd_renamed, F_renamed⟩ := c.def_ 12 (d := d_renamed) rfl
  have F_renamed : FT (gk c) "renamed" "renamed" s_renamed (He.fAd K ("renamed", none)) fd_renamed := F_renamed
  obtain ⟨fd_backward, F_backward⟩ := c.def_ 13 (d := d_backward) rfl
  have F_backward : FT (gk c) "backward" "backward" s_backward (He.fAd K ("backward", none)) fd_backward := F_backward
  obtain ⟨fd_determinant, F_determinant⟩ := c.def_ 14 (d := d_determinant) rfl
  have F_determinant : FT (gk c) "determinant" "determinant" s_determinant (He.fAd K ("determinant", none)) fd_determinant := F_determinant
  obtain ⟨fd_dot, F_dot⟩ := c.def_ 15 (d := d_dot) rfl
  have F_dot : FT (gk c) "dot" "dot" s_dot (He.fAd K ("dot", none)) fd_dot := F_dot
  obtain ⟨fd_turned, F_turned⟩ := c.def_ 16 (d := d_turned) rfl
  have F_turned : FT (gk c) "turned" "turned" s_turned (He.fAd K ("turned", none)) fd_turned := F_turned
  obtain ⟨fd_stretched, F_stretched⟩ := c.def_ 17 (d := d_stretched) rfl
  have F_stretched : FT (gk c) "stretched" "stretched" s_stretched (He.fAd K ("stretched", none)) fd_stretched := F_stretched
  obtain ⟨fd_beside, F_beside⟩ := c.def_ 18 (d := d_beside) rfl
  have F_beside : FT (gk c) "beside" "beside" s_beside (He.fAd K ("beside", none)) fd_beside := F_beside
  obtain ⟨fd_check_reading, F_check_reading⟩ := c.def_ 19 (d := d_check_reading) rfl
  have F_check_reading : FT (gk c) "check_reading" "check_reading" s_check_reading (He.fAd K ("check_reading", none)) fd_check_reading := F_check_reading
  obtain ⟨fd_also, F_also⟩ := c.def_ 20 (d := d_also) rfl
  have F_also : FT (gk c) "also" "also" s_also (He.fAd K ("also", none)) fd_also := F_also
  obtain ⟨fd_Summary_init, F_Summary_init⟩ := c.def_ 21 (d := d_Summary_init) rfl
  have F_Summary_init : FT (gk c) "__init__" "Summary.__init__" s_Summary_init (He.fAd K ("Summary", some "__init__")) fd_Summary_init := F_Summary_init
  obtain ⟨fd_Summary_behind, F_Summary_behind⟩ := c.def_ 22 (d := d_Summary_behind) rfl
  have F_Summary_behind : FT (gk c) "behind" "Summary.behind" s_Summary_behind (He.fAd K ("Summary", some "behind")) fd_Summary_behind := F_Summary_behind
  obtain ⟨fd_Summary_again, F_Summary_again⟩ := c.def_ 23 (d := d_Summary_again) rfl
  have F_Summary_again : FT (gk c) "again" "Summary.again" s_Summary_again (He.fAd K ("Summary", some "again")) fd_Summary_again := F_Summary_again
  obtain ⟨fd_still, F_still⟩ := c.def_ 24 (d := d_still) rfl
  have F_still : FT (gk c) "still" "still" s_still (He.fAd K ("still", none)) fd_still := F_still
  obtain ⟨fd_one_reading, F_one_reading⟩ := c.def_ 25 (d := d_one_reading) rfl
  have F_one_reading : FT (gk c) "one_reading" "one_reading" s_one_reading (He.fAd K ("one_reading", none)) fd_one_reading := F_one_reading
  obtain ⟨fd_summary, F_summary⟩ := c.def_ 26 (d := d_summary) rfl
  have F_summary : FT (gk c) "summary" "summary" s_summary (He.fAd K ("summary", none)) fd_summary := F_summary
  obtain ⟨fd_is_rounds, F_is_rounds⟩ := c.def_ 27 (d := d_is_rounds) rfl
  have F_is_rounds : FT (gk c) "is_rounds" "is_rounds" s_is_rounds (He.fAd K ("is_rounds", none)) fd_is_rounds := F_is_rounds
  obtain ⟨fd_is_built, F_is_built⟩ := c.def_ 28 (d := d_is_built) rfl
  have F_is_built : FT (gk c) "is_built" "is_built" s_is_built (He.fAd K ("is_built", none)) fd_is_built := F_is_built
  obtain ⟨fd_is_log, F_is_log⟩ := c.def_ 29 (d := d_is_log) rfl
  have F_is_log : FT (gk c) "is_log" "is_log" s_is_log (He.fAd K ("is_log", none)) fd_is_log := F_is_log
  obtain ⟨fd_check_log, F_check_log⟩ := c.def_ 30 (d := d_check_log) rfl
  have F_check_log : FT (gk c) "check_log" "check_log" s_check_log (He.fAd K ("check_log", none)) fd_check_log := F_check_log
  obtain ⟨fd_length, F_length⟩ := c.def_ 31 (d := d_length) rfl
  have F_length : FT (gk c) "length" "length" s_length (He.fAd K ("length", none)) fd_length := F_length
  obtain ⟨fd_added, F_added⟩ := c.def_ 32 (d := d_added) rfl
  have F_added : FT (gk c) "added" "added" s_added (He.fAd K ("added", none)) fd_added := F_added
  obtain ⟨fd_ends_of, F_ends_of⟩ := c.def_ 33 (d := d_ends_of) rfl
  have F_ends_of : FT (gk c) "ends_of" "ends_of" s_ends_of (He.fAd K ("ends_of", none)) fd_ends_of := F_ends_of
  obtain ⟨fd_reach, F_reach⟩ := c.def_ 34 (d := d_reach) rfl
  have F_reach : FT (gk c) "reach" "reach" s_reach (He.fAd K ("reach", none)) fd_reach := F_reach
  obtain ⟨fd_stands_in, F_stands_in⟩ := c.def_ 35 (d := d_stands_in) rfl
  have F_stands_in : FT (gk c) "stands_in" "stands_in" s_stands_in (He.fAd K ("stands_in", none)) fd_stands_in := F_stands_in
  obtain ⟨fd_visits, F_visits⟩ := c.def_ 36 (d := d_visits) rfl
  have F_visits : FT (gk c) "visits" "visits" s_visits (He.fAd K ("visits", none)) fd_visits := F_visits
  obtain ⟨fd_law_pool, F_law_pool⟩ := c.def_ 37 (d := d_law_pool) rfl
  have F_law_pool : FT (gk c) "_law_pool" "_law_pool" s_law_pool (He.fAd K ("_law_pool", none)) fd_law_pool := F_law_pool
  obtain ⟨fd_law_draw, F_law_draw⟩ := c.def_ 38 (d := d_law_draw) rfl
  have F_law_draw : FT (gk c) "_law_draw" "_law_draw" s_law_draw (He.fAd K ("_law_draw", none)) fd_law_draw := F_law_draw
  obtain ⟨fd_law_some, F_law_some⟩ := c.def_ 39 (d := d_law_some) rfl
  have F_law_some : FT (gk c) "_law_some" "_law_some" s_law_some (He.fAd K ("_law_some", none)) fd_law_some := F_law_some
  obtain ⟨fd_law_mixed, F_law_mixed⟩ := c.def_ 40 (d := d_law_mixed) rfl
  have F_law_mixed : FT (gk c) "_law_mixed" "_law_mixed" s_law_mixed (He.fAd K ("_law_mixed", none)) fd_law_mixed := F_law_mixed
  obtain ⟨fd_law_step, F_law_step⟩ := c.def_ 41 (d := d_law_step) rfl
  have F_law_step : FT (gk c) "_law_step" "_law_step" s_law_step (He.fAd K ("_law_step", none)) fd_law_step := F_law_step
  obtain ⟨fd_law_program, F_law_program⟩ := c.def_ 42 (d := d_law_program) rfl
  have F_law_program : FT (gk c) "_law_program" "_law_program" s_law_program (He.fAd K ("_law_program", none)) fd_law_program := F_law_program
  obtain ⟨fd_law_ringed, F_law_ringed⟩ := c.def_ 43 (d := d_law_ringed) rfl
  have F_law_ringed : FT (gk c) "_law_ringed" "_law_ringed" s_law_ringed (He.fAd K ("_law_ringed", none)) fd_law_ringed := F_law_ringed
  obtain ⟨fd_law_from, F_law_from⟩ := c.def_ 44 (d := d_law_from) rfl
  have F_law_from : FT (gk c) "_law_from" "_law_from" s_law_from (He.fAd K ("_law_from", none)) fd_law_from := F_law_from
  obtain ⟨fd_law_back, F_law_back⟩ := c.def_ 45 (d := d_law_back) rfl
  have F_law_back : FT (gk c) "_law_back" "_law_back" s_law_back (He.fAd K ("_law_back", none)) fd_law_back := F_law_back
  obtain ⟨fd_law_drawn_log, F_law_drawn_log⟩ := c.def_ 46 (d := d_law_drawn_log) rfl
  have F_law_drawn_log : FT (gk c) "_law_drawn_log" "_law_drawn_log" s_law_drawn_log (He.fAd K ("_law_drawn_log", none)) fd_law_drawn_log := F_law_drawn_log
  obtain ⟨fd_law_moved, F_law_moved⟩ := c.def_ 47 (d := d_law_moved) rfl
  have F_law_moved : FT (gk c) "_law_moved" "_law_moved" s_law_moved (He.fAd K ("_law_moved", none)) fd_law_moved := F_law_moved
  obtain ⟨fd_law_from_behind, F_law_from_behind⟩ := c.def_ 48 (d := d_law_from_behind) rfl
  have F_law_from_behind : FT (gk c) "_law_from_behind" "_law_from_behind" s_law_from_behind (He.fAd K ("_law_from_behind", none)) fd_law_from_behind := F_law_from_behind
  obtain ⟨fd_law_numbers, F_law_numbers⟩ := c.def_ 49 (d := d_law_numbers) rfl
  have F_law_numbers : FT (gk c) "_law_numbers" "_law_numbers" s_law_numbers (He.fAd K ("_law_numbers", none)) fd_law_numbers := F_law_numbers
  obtain ⟨fd_law_tells, F_law_tells⟩ := c.def_ 50 (d := d_law_tells) rfl
  have F_law_tells : FT (gk c) "_law_tells" "_law_tells" s_law_tells (He.fAd K ("_law_tells", none)) fd_law_tells := F_law_tells
  obtain ⟨fd_law_renamed_right, F_law_renamed_right⟩ := c.def_ 51 (d := d_law_renamed_right) rfl
  have F_law_renamed_right : FT (gk c) "_law_renamed_right" "_law_renamed_right" s_law_renamed_right (He.fAd K ("_law_renamed_right", none)) fd_law_renamed_right := F_law_renamed_right
  obtain ⟨fd_law_backward_right, F_law_backward_right⟩ := c.def_ 52 (d := d_law_backward_right) rfl
  have F_law_backward_right : FT (gk c) "_law_backward_right" "_law_backward_right" s_law_backward_right (He.fAd K ("_law_backward_right", none)) fd_law_backward_right := F_law_backward_right
  obtain ⟨fd_law_led_right, F_law_led_right⟩ := c.def_ 53 (d := d_law_led_right) rfl
  have F_law_led_right : FT (gk c) "_law_led_right" "_law_led_right" s_law_led_right (He.fAd K ("_law_led_right", none)) fd_law_led_right := F_law_led_right
  obtain ⟨fd_law_beside_right, F_law_beside_right⟩ := c.def_ 54 (d := d_law_beside_right) rfl
  have F_law_beside_right : FT (gk c) "_law_beside_right" "_law_beside_right" s_law_beside_right (He.fAd K ("_law_beside_right", none)) fd_law_beside_right := F_law_beside_right
  obtain ⟨fd_law, F_law⟩ := c.def_ 55 (d := d_law) rfl
  have F_law : FT (gk c) "law" "law" s_law (He.fAd K ("law", none)) fd_law := F_law
  have eL := hfa.symm.trans (He.glo_ok X G (c.fact 50 (f := .glo "law") rfl))
  cases eL
  refine ⟨fd_law, fun s v => FunD.bindsA (ps := ["_law_script"]) F_law (fun _ _ _ _ _ _ us hl => match us, hl with | [_], _ => rfl) s [v] rfl, fun base _ _ => ?_⟩
  have C_is_integer := kn F_is_integer (ok_is_integer (Pg := Pg) (w := w) (g := gk c) (mg := mg) (base := base) T F_is_integer) (He.glo_ok X G (c.fact 0 (f := .glo "is_integer") rfl)) (fun _ _ _ _ _ _ us hl => match us, hl with | [_], _ => rfl)
  have C_is_within := kn F_is_within (ok_is_within (Pg := Pg) (w := w) (g := gk c) (mg := mg) (base := base) T F_is_within C_is_integer) (He.glo_ok X G (c.fact 1 (f := .glo "is_within") rfl)) (fun _ _ _ _ _ _ us hl => match us, hl with | [_, _, _], _ => rfl)
  have C_is_triple := kn F_is_triple (ok_is_triple (Pg := Pg) (w := w) (g := gk c) (mg := mg) (base := base) T F_is_triple) (He.glo_ok X G (c.fact 2 (f := .glo "is_triple") rfl)) (fun _ _ _ _ _ _ us hl => match us, hl with | [_], _ => rfl)
  have C_are_integers := kn F_are_integers (ok_are_integers (Pg := Pg) (w := w) (g := gk c) (mg := mg) (base := base) T F_are_integers C_is_integer) (He.glo_ok X G (c.fact 3 (f := .glo "are_integers") rfl)) (fun _ _ _ _ _ _ us hl => match us, hl with | [_, _], _ => rfl)
  have C_are_within := kn F_are_within (ok_are_within (Pg := Pg) (w := w) (g := gk c) (mg := mg) (base := base) T F_are_within C_are_integers) (He.glo_ok X G (c.fact 4 (f := .glo "are_within") rfl)) (fun _ _ _ _ _ _ us hl => match us, hl with | [_, _, _, _], _ => rfl)
  have C_check_number := kn F_check_number (ok_check_number (Pg := Pg) (w := w) (g := gk c) (mg := mg) (base := base) T F_check_number C_is_within) (He.glo_ok X G (c.fact 6 (f := .glo "check_number") rfl)) (fun _ _ _ _ _ _ us hl => match us, hl with | [_, _, _], _ => rfl)
  have C_check_table := kn F_check_table (ok_check_table (Pg := Pg) (w := w) (g := gk c) (mg := mg) (base := base) T F_check_table C_is_within) (He.glo_ok X G (c.fact 9 (f := .glo "check_table") rfl)) (fun _ _ _ _ _ _ us hl => match us, hl with | [_, _], _ => rfl)
  have C_is_reading := kn F_is_reading (ok_is_reading (Pg := Pg) (w := w) (g := gk c) (mg := mg) (base := base) T F_is_reading C_is_within C_is_triple C_are_within) (He.glo_ok X G (c.fact 7 (f := .glo "is_reading") rfl)) (fun _ _ _ _ _ _ us hl => match us, hl with | [_, _, _], _ => rfl)
  have C_check_reading := kn F_check_reading (ok_check_reading (Pg := Pg) (w := w) (g := gk c) (mg := mg) (base := base) T F_check_reading C_is_reading) (He.glo_ok X G (c.fact 17 (f := .glo "check_reading") rfl)) (fun _ _ _ _ _ _ us hl => match us, hl with | [_, _], _ => rfl)
  have C_Summary : KnC Pg w (gk c) mg base "Summary" (He.ga K "Summary") _ _ _ := ⟨⟨_, _, He.mkr_ok (c.fact 83 (f := .mkr "Summary") rfl), ok_Summary_init (Pg := Pg) (w := w) (g := gk c) (mg := mg) (base := base) T F_Summary_init, He.glo_ok X G (c.fact 81 (f := .glo "Summary") rfl), FunD.bindsN F_Summary_init (fun _ _ _ _ _ _ us hl => match us, hl with | [_, _, _, _, _, _, _, _], _ => rfl)⟩⟩
  have C_keep : KnM Pg w (gk c) mg base (He.ga K "Program") "keep" _ _ _ := ⟨⟨_, _, He.meth_ok (c.fact 77 (f := .meth "Program" "keep") rfl), ok_Program_keep (Pg := Pg) (w := w) (g := gk c) (mg := mg) (base := base) T F_Program_keep, FunD.bindsN F_Program_keep (fun _ _ _ _ _ _ us hl => match us, hl with | [_, _, _, _], _ => rfl)⟩⟩
  have C_behind : KnM Pg w (gk c) mg base (He.ga K "Summary") "behind" _ _ _ := ⟨⟨_, _, He.meth_ok (c.fact 84 (f := .meth "Summary" "behind") rfl), ok_Summary_behind (Pg := Pg) (w := w) (g := gk c) (mg := mg) (base := base) T F_Summary_behind C_Summary, FunD.bindsN F_Summary_behind (fun _ _ _ _ _ _ us hl => match us, hl with | [_, _], _ => rfl)⟩⟩
  have C_again : KnM Pg w (gk c) mg base (He.ga K "Summary") "again" _ _ _ := ⟨⟨_, _, He.meth_ok (c.fact 85 (f := .meth "Summary" "again") rfl), ok_Summary_again (Pg := Pg) (w := w) (g := gk c) (mg := mg) (base := base) T F_Summary_again C_Summary, FunD.bindsN F_Summary_again (fun _ _ _ _ _ _ us hl => match us, hl with | [_, _], _ => rfl)⟩⟩
  have C_Program : KnC Pg w (gk c) mg base "Program" (He.ga K "Program") _ _ _ := ⟨⟨_, _, He.mkr_ok (c.fact 76 (f := .mkr "Program") rfl), ok_Program_init (Pg := Pg) (w := w) (g := gk c) (mg := mg) (base := base) T F_Program_init C_is_within C_is_reading C_keep, He.glo_ok X G (c.fact 74 (f := .glo "Program") rfl), FunD.bindsN F_Program_init (fun _ _ _ _ _ _ us hl => match us, hl with | [_, _, _, _], _ => rfl)⟩⟩
  have C_program_of := kn F_program_of (ok_program_of (Pg := Pg) (w := w) (g := gk c) (mg := mg) (base := base) T F_program_of C_Program C_keep) (He.glo_ok X G (c.fact 8 (f := .glo "program_of") rfl)) (fun _ _ _ _ _ _ us hl => match us, hl with | [_, _, _], _ => rfl)
  have C_are_all := kn F_are_all (ok_are_all (Pg := Pg) (w := w) (g := gk c) (mg := mg) (base := base) T F_are_all C_are_integers) (He.glo_ok X G (c.fact 5 (f := .glo "are_all") rfl)) (fun _ _ _ _ _ _ us hl => match us, hl with | [_, _], _ => rfl)
  have C_renamed := kn F_renamed (ok_renamed (Pg := Pg) (w := w) (g := gk c) (mg := mg) (base := base) T F_renamed C_are_all C_program_of) (He.glo_ok X G (c.fact 10 (f := .glo "renamed") rfl)) (fun _ _ _ _ _ _ us hl => match us, hl with | [_, _], _ => rfl)
  have C_backward := kn F_backward (ok_backward (Pg := Pg) (w := w) (g := gk c) (mg := mg) (base := base) T F_backward C_program_of) (He.glo_ok X G (c.fact 11 (f := .glo "backward") rfl)) (fun _ _ _ _ _ _ us hl => match us, hl with | [_], _ => rfl)
  have C_stretched := kn F_stretched (ok_stretched (Pg := Pg) (w := w) (g := gk c) (mg := mg) (base := base) T F_stretched C_check_number C_program_of) (He.glo_ok X G (c.fact 15 (f := .glo "stretched") rfl)) (fun _ _ _ _ _ _ us hl => match us, hl with | [_, _], _ => rfl)
  have C_beside := kn F_beside (ok_beside (Pg := Pg) (w := w) (g := gk c) (mg := mg) (base := base) T F_beside C_program_of) (He.glo_ok X G (c.fact 16 (f := .glo "beside") rfl)) (fun _ _ _ _ _ _ us hl => match us, hl with | [_, _], _ => rfl)
  have C_also := kn F_also (ok_also (Pg := Pg) (w := w) (g := gk c) (mg := mg) (base := base) T F_also C_check_reading C_program_of) (He.glo_ok X G (c.fact 18 (f := .glo "also") rfl)) (fun _ _ _ _ _ _ us hl => match us, hl with | [_, _], _ => rfl)
  have C_dot := kn F_dot (ok_dot (Pg := Pg) (w := w) (g := gk c) (mg := mg) (base := base) T F_dot) (He.glo_ok X G (c.fact 13 (f := .glo "dot") rfl)) (fun _ _ _ _ _ _ us hl => match us, hl with | [_, _], _ => rfl)
  have C_detL := kn F_determinant (ok_detL (Pg := Pg) (w := w) (g := gk c) (mg := mg) (base := base) T F_determinant (fun k sp hk => kn F_determinant hk (He.glo_ok X G (c.fact 12 (f := .glo "determinant") rfl)) (fun _ _ _ _ _ _ us hl => match us, hl with | [_], _ => rfl)) 3) (He.glo_ok X G (c.fact 12 (f := .glo "determinant") rfl)) (fun _ _ _ _ _ _ us hl => match us, hl with | [_], _ => rfl)
  have C_detT := kn F_determinant (ok_detT (Pg := Pg) (w := w) (g := gk c) (mg := mg) (base := base) T F_determinant C_detL) (He.glo_ok X G (c.fact 12 (f := .glo "determinant") rfl)) (fun _ _ _ _ _ _ us hl => match us, hl with | [_], _ => rfl)
  have C_turned := kn F_turned (ok_turned (Pg := Pg) (w := w) (g := gk c) (mg := mg) (base := base) T F_turned C_are_integers C_detT C_dot C_program_of) (He.glo_ok X G (c.fact 14 (f := .glo "turned") rfl)) (fun _ _ _ _ _ _ us hl => match us, hl with | [_, _], _ => rfl)
  have C_still := kn F_still (ok_still (Pg := Pg) (w := w) (g := gk c) (mg := mg) (base := base) T F_still C_Summary) (He.glo_ok X G (c.fact 19 (f := .glo "still") rfl)) (fun _ _ _ _ _ _ us hl => match us, hl with | [_], _ => rfl)
  have C_one_reading := kn F_one_reading (ok_one_reading (Pg := Pg) (w := w) (g := gk c) (mg := mg) (base := base) T F_one_reading C_Summary) (He.glo_ok X G (c.fact 20 (f := .glo "one_reading") rfl)) (fun _ _ _ _ _ _ us hl => match us, hl with | [_, _], _ => rfl)
  have C_summary := kn F_summary (ok_summary (Pg := Pg) (w := w) (g := gk c) (mg := mg) (base := base) T F_summary (fun k sp hk => kn F_summary hk (He.glo_ok X G (c.fact 21 (f := .glo "summary") rfl)) (fun _ _ _ _ _ _ us hl => match us, hl with | [_, _], _ => rfl)) C_is_integer C_still C_one_reading C_behind C_again 4) (He.glo_ok X G (c.fact 21 (f := .glo "summary") rfl)) (fun _ _ _ _ _ _ us hl => match us, hl with | [_, _], _ => rfl)
  have C_is_rounds := kn F_is_rounds (ok_is_rounds (Pg := Pg) (w := w) (g := gk c) (mg := mg) (base := base) T F_is_rounds C_is_triple C_is_integer) (He.glo_ok X G (c.fact 22 (f := .glo "is_rounds") rfl)) (fun _ _ _ _ _ _ us hl => match us, hl with | [_], _ => rfl)
  have C_is_built := kn F_is_built (ok_is_built (Pg := Pg) (w := w) (g := gk c) (mg := mg) (base := base) T F_is_built (fun k sp hk => kn F_is_built hk (He.glo_ok X G (c.fact 23 (f := .glo "is_built") rfl)) (fun _ _ _ _ _ _ us hl => match us, hl with | [_, _, _], _ => rfl)) C_is_within C_is_rounds 4) (He.glo_ok X G (c.fact 23 (f := .glo "is_built") rfl)) (fun _ _ _ _ _ _ us hl => match us, hl with | [_, _, _], _ => rfl)
  have C_is_log := kn F_is_log (ok_is_log (Pg := Pg) (w := w) (g := gk c) (mg := mg) (base := base) T F_is_log C_is_built C_summary) (He.glo_ok X G (c.fact 24 (f := .glo "is_log") rfl)) (fun _ _ _ _ _ _ us hl => match us, hl with | [_, _], _ => rfl)
  have C_check_log := kn F_check_log (ok_check_log (Pg := Pg) (w := w) (g := gk c) (mg := mg) (base := base) T F_check_log C_is_log C_summary) (He.glo_ok X G (c.fact 25 (f := .glo "check_log") rfl)) (fun _ _ _ _ _ _ us hl => match us, hl with | [_, _], _ => rfl)
  have C_length := kn F_length (ok_length (Pg := Pg) (w := w) (g := gk c) (mg := mg) (base := base) T F_length C_check_log) (He.glo_ok X G (c.fact 26 (f := .glo "length") rfl)) (fun _ _ _ _ _ _ us hl => match us, hl with | [_, _], _ => rfl)
  have C_added := kn F_added (ok_added (Pg := Pg) (w := w) (g := gk c) (mg := mg) (base := base) T F_added C_check_log) (He.glo_ok X G (c.fact 27 (f := .glo "added") rfl)) (fun _ _ _ _ _ _ us hl => match us, hl with | [_, _], _ => rfl)
  have C_reach := kn F_reach (ok_reach (Pg := Pg) (w := w) (g := gk c) (mg := mg) (base := base) T F_reach C_check_log) (He.glo_ok X G (c.fact 29 (f := .glo "reach") rfl)) (fun _ _ _ _ _ _ us hl => match us, hl with | [_, _], _ => rfl)
  have C_ends_of := kn F_ends_of (ok_ends_of (Pg := Pg) (w := w) (g := gk c) (mg := mg) (base := base) T F_ends_of C_check_log) (He.glo_ok X G (c.fact 28 (f := .glo "ends_of") rfl)) (fun _ _ _ _ _ _ us hl => match us, hl with | [_, _], _ => rfl)
  have C_stands_in := kn F_stands_in (ok_stands_in (Pg := Pg) (w := w) (g := gk c) (mg := mg) (base := base) T F_stands_in) (He.glo_ok X G (c.fact 30 (f := .glo "stands_in") rfl)) (fun _ _ _ _ _ _ us hl => match us, hl with | [_, _], _ => rfl)
  have C_visits := kn F_visits (ok_visits (Pg := Pg) (w := w) (g := gk c) (mg := mg) (base := base) T F_visits C_check_log C_check_table C_stands_in) (He.glo_ok X G (c.fact 31 (f := .glo "visits") rfl)) (fun _ _ _ _ _ _ us hl => match us, hl with | [_, _, _], _ => rfl)
  have C_law_program := kn F_law_program (ok_law_program (Pg := Pg) (w := w) (g := gk c) (mg := mg) (base := base) T F_law_program C_Program) (He.glo_ok X G (c.fact 37 (f := .glo "_law_program") rfl)) (fun _ _ _ _ _ _ us hl => match us, hl with | [_], _ => rfl)
  have C_law_from := kn F_law_from (ok_law_from (Pg := Pg) (w := w) (g := gk c) (mg := mg) (base := base) T F_law_from) (He.glo_ok X G (c.fact 39 (f := .glo "_law_from") rfl)) (fun _ _ _ _ _ _ us hl => match us, hl with | [_, _], _ => rfl)
  have C_law_moved := kn F_law_moved (ok_law_moved (Pg := Pg) (w := w) (g := gk c) (mg := mg) (base := base) T F_law_moved (fun k sp hk => kn F_law_moved hk (He.glo_ok X G (c.fact 42 (f := .glo "_law_moved") rfl)) (fun _ _ _ _ _ _ us hl => match us, hl with | [_, _], _ => rfl)) 3) (He.glo_ok X G (c.fact 42 (f := .glo "_law_moved") rfl)) (fun _ _ _ _ _ _ us hl => match us, hl with | [_, _], _ => rfl)
  have C_law_from_behind := kn F_law_from_behind (ok_law_from_behind (Pg := Pg) (w := w) (g := gk c) (mg := mg) (base := base) T F_law_from_behind (fun k sp hk => kn F_law_from_behind hk (He.glo_ok X G (c.fact 43 (f := .glo "_law_from_behind") rfl)) (fun _ _ _ _ _ _ us hl => match us, hl with | [_], _ => rfl)) 3) (He.glo_ok X G (c.fact 43 (f := .glo "_law_from_behind") rfl)) (fun _ _ _ _ _ _ us hl => match us, hl with | [_], _ => rfl)
  have C_law_numbers := kn F_law_numbers (ok_law_numbers (Pg := Pg) (w := w) (g := gk c) (mg := mg) (base := base) T F_law_numbers) (He.glo_ok X G (c.fact 44 (f := .glo "_law_numbers") rfl)) (fun _ _ _ _ _ _ us hl => match us, hl with | [_, _, _], _ => rfl)
  have C_law_tells := kn F_law_tells (ok_law_tells (Pg := Pg) (w := w) (g := gk c) (mg := mg) (base := base) T F_law_tells C_length C_added C_reach) (He.glo_ok X G (c.fact 45 (f := .glo "_law_tells") rfl)) (fun _ _ _ _ _ _ us hl => match us, hl with | [_, _], _ => rfl)
  have C_law_draw := kn F_law_draw (ok_law_draw (Pg := Pg) (w := w) (g := gk c) (mg := mg) (base := base) T F_law_draw) (He.glo_ok X G (c.fact 33 (f := .glo "_law_draw") rfl)) (fun _ _ _ _ _ _ us hl => match us, hl with | [_, _], _ => rfl)
  have C_law_some := kn F_law_some (ok_law_some (Pg := Pg) (w := w) (g := gk c) (mg := mg) (base := base) T F_law_some C_law_draw) (He.glo_ok X G (c.fact 34 (f := .glo "_law_some") rfl)) (fun _ _ _ _ _ _ us hl => match us, hl with | [_, _], _ => rfl)
  have C_law_mixed := kn F_law_mixed (ok_law_mixed (Pg := Pg) (w := w) (g := gk c) (mg := mg) (base := base) T F_law_mixed C_law_draw) (He.glo_ok X G (c.fact 35 (f := .glo "_law_mixed") rfl)) (fun _ _ _ _ _ _ us hl => match us, hl with | [_, _], _ => rfl)
  have C_law_step := kn F_law_step (ok_law_step (Pg := Pg) (w := w) (g := gk c) (mg := mg) (base := base) T F_law_step C_law_draw C_law_some) (He.glo_ok X G (c.fact 36 (f := .glo "_law_step") rfl)) (fun _ _ _ _ _ _ us hl => match us, hl with | [_, _], _ => rfl)
  have C_law_ringed := kn F_law_ringed (ok_law_ringed (Pg := Pg) (w := w) (g := gk c) (mg := mg) (base := base) T F_law_ringed C_law_draw C_law_some C_law_step) (He.glo_ok X G (c.fact 38 (f := .glo "_law_ringed") rfl)) (fun _ _ _ _ _ _ us hl => match us, hl with | [_], _ => rfl)
  have C_law_back := kn F_law_back (ok_law_back (Pg := Pg) (w := w) (g := gk c) (mg := mg) (base := base) T F_law_back C_law_from) (He.glo_ok X G (c.fact 40 (f := .glo "_law_back") rfl)) (fun _ _ _ _ _ _ us hl => match us, hl with | [_, _, _], _ => rfl)
  have C_law_drawn_log := kn F_law_drawn_log (drawn_all (ok_law_drawn_log (Pg := Pg) (w := w) (g := gk c) (mg := mg) (base := base) T F_law_drawn_log (fun k sp hk => kn F_law_drawn_log hk (He.glo_ok X G (c.fact 41 (f := .glo "_law_drawn_log") rfl)) (fun _ _ _ _ _ _ us hl => match us, hl with | [_, _, _, _, _], _ => rfl)) C_law_draw C_law_some C_law_from C_law_back)) (He.glo_ok X G (c.fact 41 (f := .glo "_law_drawn_log") rfl)) (fun _ _ _ _ _ _ us hl => match us, hl with | [_, _, _, _, _], _ => rfl)
  have C_law_pool := knS F_law_pool (ok_law_pool (Pg := Pg) (w := w) (g := gk c) (mg := mg) (base := base) T F_law_pool) (He.glo_ok X G (c.fact 32 (f := .glo "_law_pool") rfl)) (fun _ _ _ _ _ _ us hl => match us, hl with | [_], _ => rfl)
  have C_law_renamed_right := kn F_law_renamed_right (ok_law_renamed_right (Pg := Pg) (w := w) (g := gk c) (mg := mg) (base := base) T F_law_renamed_right C_law_mixed C_renamed C_law_moved C_law_numbers C_is_log C_law_tells C_visits C_ends_of) (He.glo_ok X G (c.fact 46 (f := .glo "_law_renamed_right") rfl)) (fun _ _ _ _ _ _ us hl => match us, hl with | [_, _, _, _], _ => rfl)
  have C_law_backward_right := kn F_law_backward_right (ok_law_backward_right (Pg := Pg) (w := w) (g := gk c) (mg := mg) (base := base) T F_law_backward_right C_backward C_law_moved C_law_from_behind C_law_numbers C_is_log C_length C_added C_reach C_ends_of) (He.glo_ok X G (c.fact 47 (f := .glo "_law_backward_right") rfl)) (fun _ _ _ _ _ _ us hl => match us, hl with | [_, _, _], _ => rfl)
  have C_law_led_right := kn F_law_led_right (ok_law_led_right (Pg := Pg) (w := w) (g := gk c) (mg := mg) (base := base) T F_law_led_right C_law_draw C_stretched C_law_moved C_law_numbers C_is_log C_added C_reach C_turned) (He.glo_ok X G (c.fact 48 (f := .glo "_law_led_right") rfl)) (fun _ _ _ _ _ _ us hl => match us, hl with | [_, _, _, _], _ => rfl)
  have C_law_beside_right := kn F_law_beside_right (ok_law_beside_right (Pg := Pg) (w := w) (g := gk c) (mg := mg) (base := base) T F_law_beside_right C_law_draw C_Program C_law_moved C_law_tells C_beside C_also) (He.glo_ok X G (c.fact 49 (f := .glo "_law_beside_right") rfl)) (fun _ _ _ _ _ _ us hl => match us, hl with | [_, _, _, _], _ => rfl)
  exact ok_law (Pg := Pg) (w := w) (g := gk c) (mg := mg) (base := base) T F_law C_law_pool C_law_draw C_law_ringed C_law_program C_law_drawn_log C_law_renamed_right C_law_backward_right C_law_led_right C_law_beside_right
end
end K19
open PySem PySem.W PySem.Calls PyProof.Rows
theorem PySem.Challenge.cw_turnsneeded_k19_whole_logs_in_other_prog_holds : PySem.Challenge.rw_turnsneeded_k19_whole_logs_in_other_prog.Holds := by
  w_on; o_law
  refine HandSHeadRun.head_any (r := K19.R) (q := view K19.R.prog [72]) (H := K19.hk) (ob := K19.ob) (M := 6000) (loose := K19.loose) (d := HandSHeadRun.topDef K19.R.prog 72) (kwd := []) K19.ob_eq
    (by kernel_rfl) (fun s => by kernel_rfl) K19.run (by kernel_rfl) (by kernel_rfl) (by kernel_rfl) (by rfl) (by first | assumption | decide +kernel) (by decide +kernel) ⟨rfl, rfl, rfl, rfl, rfl, by decide +kernel⟩ ?hw ?hc
  case hw => w_witness2
  case hc =>
    refine L2.walk_ofE (l := PySem.Challenge.rw_turnsneeded_k19_whole_logs_in_other_prog) (n := 63) (k := 14) (x := "_law_script") (CX := L2.CX0) rfl (by decide) (by kernel_rfl) ⟨rfl, by decide, by decide⟩ ?F (fun _ _ _ _ z => z)
    intro w mg fa h Y G hmg0
    obtain ⟨K, KX, c⟩ := Y
    have hmg : mg ("law" : PySem.Str) = some (.ref fa) := by
      have e : (HandSHeadRun.topDef K19.R.prog 72).name = ("law" : PySem.Str) := by kernel_rfl
      rw [← e]
      exact hmg0
    obtain ⟨fd, hb, hF⟩ := K19.facts (Pg := (PySem.Challenge.rw_turnsneeded_k19_whole_logs_in_other_prog).prog) (w := w) KX G hmg c
    exact ⟨K, fd, K19.spLaw (K19.gk c), KX, hb, fun H a ns hl _ hS => ⟨a, ns, rfl, hS, hl, fun _ => rfl⟩, hF⟩
