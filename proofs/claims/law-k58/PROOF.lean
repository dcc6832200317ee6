import PyProof.Rows.All
import Wide.All
import OpenK.AllK
import Wide.FinOn
import KE.KStateDown
import Lean
import HandS.ForMost
import HandS.ForExc
import HandS.Defaults
import HandS.Head0
import HandS.Head1
import HandS.Head2
import HandS.HeadEnd
import HandS.HeadHook1
import HandS.HeadHook2
import HandS.HeadHook3
import HandS.HeadHook4
import HandS.IsInst
import HandS.Zip
import HandS.Wide
import HandS.TupAny
import HandS.Deep
import HandS.Conv
import HandS.Words
import HandS.Finally
import HandS.ListItems
import KE.SortData
import KE.KDictList
import KE.KDictZip
import PyProof.TupleOfGen
import KE.GoesEnum
import HandS.TupLe
import KE.DataMinMax
import PySem.Challenge.RW_turnsneeded_k58_whole_times_by_own_sums
set_option Elab.async false
set_option Elab.async false
set_option linter.all false
set_option maxRecDepth 100000
set_option maxHeartbeats 0
namespace TN
open PySem PySem.Spec PyProof.Rows L2
def top (i : Nat) : Stmt := PySem.Challenge.pw_turnsneeded_k58_whole_times_by_own_sums.main.body.getD i (.Pass ⟨0, 0, 0, 0⟩)
abbrev s_is_integer : Stmt := top 9
abbrev s_is_within : Stmt := top 10
abbrev s_is_pair : Stmt := top 11
abbrev s_is_triple : Stmt := top 12
abbrev s_are_integers : Stmt := top 13
abbrev s_are_within : Stmt := top 14
abbrev s_check_world : Stmt := top 15
abbrev s_divisor : Stmt := top 16
abbrev s_multiple : Stmt := top 17
abbrev s_fraction : Stmt := top 18
abbrev s_is_reading : Stmt := top 24
abbrev s_Program_init : Stmt := inClass (top 25) 0
abbrev s_Program_keep : Stmt := inClass (top 25) 1
abbrev s_every : Stmt := top 26
abbrev s_check_table : Stmt := top 27
abbrev s_dot : Stmt := top 28
abbrev s_Tableau_init : Stmt := inClass (top 30) 0
abbrev s_Tableau_step : Stmt := inClass (top 30) 1
abbrev s_Tableau_leaving : Stmt := inClass (top 30) 2
abbrev s_Tableau_entering : Stmt := inClass (top 30) 3
abbrev s_Tableau_run : Stmt := inClass (top 30) 4
abbrev s_Tableau_clear : Stmt := inClass (top 30) 5
abbrev s_Tableau_wanted : Stmt := inClass (top 30) 6
abbrev s_Tableau_other_side : Stmt := inClass (top 30) 8
abbrev s_solved : Stmt := top 31
abbrev s_column_of : Stmt := top 33
abbrev s_far_columns : Stmt := top 34
abbrev s_task_of : Stmt := top 35
abbrev s_common_bottom : Stmt := top 36
abbrev s_whole : Stmt := top 37
abbrev s_told_of : Stmt := top 38
abbrev s_goals_of : Stmt := top 41
abbrev s_reached_from : Stmt := top 42
abbrev s_parts_of : Stmt := top 43
abbrev s_tables_in : Stmt := top 44
abbrev s_level_of : Stmt := top 45
abbrev s_levels_of : Stmt := top 46
abbrev s_all_levels : Stmt := top 47
abbrev s_does_work : Stmt := top 48
abbrev s_lateness : Stmt := top 52
abbrev s_is_right_row : Stmt := top 53
abbrev s_has_form : Stmt := top 54
abbrev s_is_right : Stmt := top 55
abbrev s_heads_of : Stmt := top 56
abbrev s_numbers_of : Stmt := top 57
abbrev s_timetable : Stmt := top 58
abbrev s_check_timetable : Stmt := top 59
abbrev s_time_at : Stmt := top 60
abbrev s_law_pool : Stmt := top 62
abbrev s_law_draw : Stmt := top 63
abbrev s_law_order : Stmt := top 64
abbrev s_law_row : Stmt := top 65
abbrev s_law_pairs : Stmt := top 66
abbrev s_law_made : Stmt := top 67
abbrev s_law_dot : Stmt := top 68
abbrev s_law_lateness : Stmt := top 69
abbrev s_law_step : Stmt := top 70
abbrev s_law_readings : Stmt := top 71
abbrev s_law_is_int : Stmt := top 72
abbrev s_law_are_ints : Stmt := top 73
abbrev s_law_is_pair : Stmt := top 74
abbrev s_law_has_form : Stmt := top 75
abbrev s_law_number : Stmt := top 76
abbrev s_law_point : Stmt := top 77
abbrev s_law_time : Stmt := top 78
abbrev s_law : Stmt := top 79
/-! ### the facts -/
def d_is_integer : He.DefD := ⟨("is_integer", none), "is_integer", "is_integer", defArgs s_is_integer, defBody s_is_integer, defScope s_is_integer, [], []⟩
def d_is_within : He.DefD := ⟨("is_within", none), "is_within", "is_within", defArgs s_is_within, defBody s_is_within, defScope s_is_within, [], []⟩
def d_is_pair : He.DefD := ⟨("is_pair", none), "is_pair", "is_pair", defArgs s_is_pair, defBody s_is_pair, defScope s_is_pair, [], []⟩
def d_is_triple : He.DefD := ⟨("is_triple", none), "is_triple", "is_triple", defArgs s_is_triple, defBody s_is_triple, defScope s_is_triple, [], []⟩
def d_are_integers : He.DefD := ⟨("are_integers", none), "are_integers", "are_integers", defArgs s_are_integers, defBody s_are_integers, defScope s_are_integers, [], []⟩
def d_are_within : He.DefD := ⟨("are_within", none), "are_within", "are_within", defArgs s_are_within, defBody s_are_within, defScope s_are_within, [], []⟩
def d_check_world : He.DefD := ⟨("check_world", none), "check_world", "check_world", defArgs s_check_world, defBody s_check_world, defScope s_check_world, [], []⟩
def d_divisor : He.DefD := ⟨("divisor", none), "divisor", "divisor", defArgs s_divisor, defBody s_divisor, defScope s_divisor, [], []⟩
def d_multiple : He.DefD := ⟨("multiple", none), "multiple", "multiple", defArgs s_multiple, defBody s_multiple, defScope s_multiple, [], []⟩
def d_fraction : He.DefD := ⟨("fraction", none), "fraction", "fraction", defArgs s_fraction, defBody s_fraction, defScope s_fraction, [], []⟩
def d_is_reading : He.DefD := ⟨("is_reading", none), "is_reading", "is_reading", defArgs s_is_reading, defBody s_is_reading, defScope s_is_reading, [], []⟩
def d_Program_init : He.DefD := ⟨("Program", some "__init__"), "__init__", "Program.__init__", defArgs s_Program_init, defBody s_Program_init, defScope s_Program_init, [], []⟩
def d_Program_keep : He.DefD := ⟨("Program", some "keep"), "keep", "Program.keep", defArgs s_Program_keep, defBody s_Program_keep, defScope s_Program_keep, [], []⟩
def d_every : He.DefD := ⟨("every", none), "every", "every", defArgs s_every, defBody s_every, defScope s_every, [], []⟩
def d_check_table : He.DefD := ⟨("check_table", none), "check_table", "check_table", defArgs s_check_table, defBody s_check_table, defScope s_check_table, [], []⟩
def d_dot : He.DefD := ⟨("dot", none), "dot", "dot", defArgs s_dot, defBody s_dot, defScope s_dot, [], []⟩
def d_Tableau_init : He.DefD := ⟨("Tableau", some "__init__"), "__init__", "Tableau.__init__", defArgs s_Tableau_init, defBody s_Tableau_init, defScope s_Tableau_init, [], []⟩
def d_Tableau_step : He.DefD := ⟨("Tableau", some "step"), "step", "Tableau.step", defArgs s_Tableau_step, defBody s_Tableau_step, defScope s_Tableau_step, [], []⟩
def d_Tableau_leaving : He.DefD := ⟨("Tableau", some "leaving"), "leaving", "Tableau.leaving", defArgs s_Tableau_leaving, defBody s_Tableau_leaving, defScope s_Tableau_leaving, [], []⟩
def d_Tableau_entering : He.DefD := ⟨("Tableau", some "entering"), "entering", "Tableau.entering", defArgs s_Tableau_entering, defBody s_Tableau_entering, defScope s_Tableau_entering, [], []⟩
def d_Tableau_run : He.DefD := ⟨("Tableau", some "run"), "run", "Tableau.run", defArgs s_Tableau_run, defBody s_Tableau_run, defScope s_Tableau_run, [], []⟩
def d_Tableau_clear : He.DefD := ⟨("Tableau", some "clear"), "clear", "Tableau.clear", defArgs s_Tableau_clear, defBody s_Tableau_clear, defScope s_Tableau_clear, [], []⟩
def d_Tableau_wanted : He.DefD := ⟨("Tableau", some "wanted"), "wanted", "Tableau.wanted", defArgs s_Tableau_wanted, defBody s_Tableau_wanted, defScope s_Tableau_wanted, [], []⟩
def d_Tableau_other_side : He.DefD := ⟨("Tableau", some "other_side"), "other_side", "Tableau.other_side", defArgs s_Tableau_other_side, defBody s_Tableau_other_side, defScope s_Tableau_other_side, [], []⟩
def d_solved : He.DefD := ⟨("solved", none), "solved", "solved", defArgs s_solved, defBody s_solved, defScope s_solved, [], []⟩
def d_column_of : He.DefD := ⟨("column_of", none), "column_of", "column_of", defArgs s_column_of, defBody s_column_of, defScope s_column_of, [], []⟩
def d_far_columns : He.DefD := ⟨("far_columns", none), "far_columns", "far_columns", defArgs s_far_columns, defBody s_far_columns, defScope s_far_columns, [], []⟩
def d_task_of : He.DefD := ⟨("task_of", none), "task_of", "task_of", defArgs s_task_of, defBody s_task_of, defScope s_task_of, [], []⟩
def d_common_bottom : He.DefD := ⟨("common_bottom", none), "common_bottom", "common_bottom", defArgs s_common_bottom, defBody s_common_bottom, defScope s_common_bottom, [], []⟩
def d_whole : He.DefD := ⟨("whole", none), "whole", "whole", defArgs s_whole, defBody s_whole, defScope s_whole, [], []⟩
def d_told_of : He.DefD := ⟨("told_of", none), "told_of", "told_of", defArgs s_told_of, defBody s_told_of, defScope s_told_of, [], []⟩
def d_goals_of : He.DefD := ⟨("goals_of", none), "goals_of", "goals_of", defArgs s_goals_of, defBody s_goals_of, defScope s_goals_of, [], []⟩
def d_reached_from : He.DefD := ⟨("reached_from", none), "reached_from", "reached_from", defArgs s_reached_from, defBody s_reached_from, defScope s_reached_from, [], []⟩
def d_parts_of : He.DefD := ⟨("parts_of", none), "parts_of", "parts_of", defArgs s_parts_of, defBody s_parts_of, defScope s_parts_of, [], []⟩
def d_tables_in : He.DefD := ⟨("tables_in", none), "tables_in", "tables_in", defArgs s_tables_in, defBody s_tables_in, defScope s_tables_in, [], []⟩
def d_level_of : He.DefD := ⟨("level_of", none), "level_of", "level_of", defArgs s_level_of, defBody s_level_of, defScope s_level_of, [], []⟩
def d_levels_of : He.DefD := ⟨("levels_of", none), "levels_of", "levels_of", defArgs s_levels_of, defBody s_levels_of, defScope s_levels_of, [], []⟩
def d_all_levels : He.DefD := ⟨("all_levels", none), "all_levels", "all_levels", defArgs s_all_levels, defBody s_all_levels, defScope s_all_levels, [], []⟩
def d_does_work : He.DefD := ⟨("does_work", none), "does_work", "does_work", defArgs s_does_work, defBody s_does_work, defScope s_does_work, [], []⟩
def d_lateness : He.DefD := ⟨("lateness", none), "lateness", "lateness", defArgs s_lateness, defBody s_lateness, defScope s_lateness, [], []⟩
def d_is_right_row : He.DefD := ⟨("is_right_row", none), "is_right_row", "is_right_row", defArgs s_is_right_row, defBody s_is_right_row, defScope s_is_right_row, [], []⟩
def d_has_form : He.DefD := ⟨("has_form", none), "has_form", "has_form", defArgs s_has_form, defBody s_has_form, defScope s_has_form, [], []⟩
def d_is_right : He.DefD := ⟨("is_right", none), "is_right", "is_right", defArgs s_is_right, defBody s_is_right, defScope s_is_right, [], []⟩
def d_heads_of : He.DefD := ⟨("heads_of", none), "heads_of", "heads_of", defArgs s_heads_of, defBody s_heads_of, defScope s_heads_of, [], []⟩
def d_numbers_of : He.DefD := ⟨("numbers_of", none), "numbers_of", "numbers_of", defArgs s_numbers_of, defBody s_numbers_of, defScope s_numbers_of, [], []⟩
def d_timetable : He.DefD := ⟨("timetable", none), "timetable", "timetable", defArgs s_timetable, defBody s_timetable, defScope s_timetable, [], []⟩
def d_check_timetable : He.DefD := ⟨("check_timetable", none), "check_timetable", "check_timetable", defArgs s_check_timetable, defBody s_check_timetable, defScope s_check_timetable, [], []⟩
def d_time_at : He.DefD := ⟨("time_at", none), "time_at", "time_at", defArgs s_time_at, defBody s_time_at, defScope s_time_at, [], []⟩
def d_law_pool : He.DefD := ⟨("_law_pool", none), "_law_pool", "_law_pool", defArgs s_law_pool, defBody s_law_pool, defScope s_law_pool, [], []⟩
def d_law_draw : He.DefD := ⟨("_law_draw", none), "_law_draw", "_law_draw", defArgs s_law_draw, defBody s_law_draw, defScope s_law_draw, [], []⟩
def d_law_order : He.DefD := ⟨("_law_order", none), "_law_order", "_law_order", defArgs s_law_order, defBody s_law_order, defScope s_law_order, [], []⟩
def d_law_row : He.DefD := ⟨("_law_row", none), "_law_row", "_law_row", defArgs s_law_row, defBody s_law_row, defScope s_law_row, [], []⟩
def d_law_pairs : He.DefD := ⟨("_law_pairs", none), "_law_pairs", "_law_pairs", defArgs s_law_pairs, defBody s_law_pairs, defScope s_law_pairs, [], []⟩
def d_law_made : He.DefD := ⟨("_law_made", none), "_law_made", "_law_made", defArgs s_law_made, defBody s_law_made, defScope s_law_made, [], []⟩
def d_law_dot : He.DefD := ⟨("_law_dot", none), "_law_dot", "_law_dot", defArgs s_law_dot, defBody s_law_dot, defScope s_law_dot, [], []⟩
def d_law_lateness : He.DefD := ⟨("_law_lateness", none), "_law_lateness", "_law_lateness", defArgs s_law_lateness, defBody s_law_lateness, defScope s_law_lateness, [], []⟩
def d_law_step : He.DefD := ⟨("_law_step", none), "_law_step", "_law_step", defArgs s_law_step, defBody s_law_step, defScope s_law_step, [], []⟩
def d_law_readings : He.DefD := ⟨("_law_readings", none), "_law_readings", "_law_readings", defArgs s_law_readings, defBody s_law_readings, defScope s_law_readings, [], []⟩
def d_law_is_int : He.DefD := ⟨("_law_is_int", none), "_law_is_int", "_law_is_int", defArgs s_law_is_int, defBody s_law_is_int, defScope s_law_is_int, [], []⟩
def d_law_are_ints : He.DefD := ⟨("_law_are_ints", none), "_law_are_ints", "_law_are_ints", defArgs s_law_are_ints, defBody s_law_are_ints, defScope s_law_are_ints, [], []⟩
def d_law_is_pair : He.DefD := ⟨("_law_is_pair", none), "_law_is_pair", "_law_is_pair", defArgs s_law_is_pair, defBody s_law_is_pair, defScope s_law_is_pair, [], []⟩
def d_law_has_form : He.DefD := ⟨("_law_has_form", none), "_law_has_form", "_law_has_form", defArgs s_law_has_form, defBody s_law_has_form, defScope s_law_has_form, [], []⟩
def d_law_number : He.DefD := ⟨("_law_number", none), "_law_number", "_law_number", defArgs s_law_number, defBody s_law_number, defScope s_law_number, [], []⟩
def d_law_point : He.DefD := ⟨("_law_point", none), "_law_point", "_law_point", defArgs s_law_point, defBody s_law_point, defScope s_law_point, [], []⟩
def d_law_time : He.DefD := ⟨("_law_time", none), "_law_time", "_law_time", defArgs s_law_time, defBody s_law_time, defScope s_law_time, [], []⟩
def d_law : He.DefD := ⟨("law", none), "law", "law", defArgs s_law, defBody s_law, defScope s_law, [], []⟩
def fn0 : List He.DefD := [d_is_integer, d_is_within, d_is_pair, d_is_triple, d_are_integers, d_are_within, d_check_world, d_divisor, d_multiple, d_fraction, d_is_reading, d_Program_init, d_Program_keep, d_every, d_check_table, d_dot, d_Tableau_init, d_Tableau_step, d_Tableau_leaving, d_Tableau_entering]
def fn1 : List He.DefD := [d_Tableau_run, d_Tableau_clear, d_Tableau_wanted, d_Tableau_other_side, d_solved, d_column_of, d_far_columns, d_task_of, d_common_bottom, d_whole, d_told_of, d_goals_of, d_reached_from, d_parts_of, d_tables_in, d_level_of, d_levels_of, d_all_levels, d_does_work, d_lateness]
def fn2 : List He.DefD := [d_is_right_row, d_has_form, d_is_right, d_heads_of, d_numbers_of, d_timetable, d_check_timetable, d_time_at, d_law_pool, d_law_draw, d_law_order, d_law_row, d_law_pairs, d_law_made, d_law_dot, d_law_lateness, d_law_step, d_law_readings, d_law_is_int, d_law_are_ints]
def fn3 : List He.DefD := [d_law_is_pair, d_law_has_form, d_law_number, d_law_point, d_law_time, d_law]
def fn : List He.DefD := fn0 ++ fn1 ++ fn2 ++ fn3
def fa0 : List He.Fa := [.glo "is_integer", .glo "is_within", .glo "is_pair", .glo "is_triple", .glo "are_integers", .glo "are_within", .glo "check_world", .glo "divisor", .glo "multiple", .glo "fraction", .glo "is_reading", .glo "every", .glo "check_table", .glo "dot", .glo "solved", .glo "column_of", .glo "far_columns", .glo "task_of", .glo "common_bottom", .glo "whole", .glo "told_of", .glo "goals_of", .glo "reached_from", .glo "parts_of", .glo "tables_in", .glo "level_of", .glo "levels_of", .glo "all_levels", .glo "does_work", .glo "lateness"]
def fa1 : List He.Fa := [.glo "is_right_row", .glo "has_form", .glo "is_right", .glo "heads_of", .glo "numbers_of", .glo "timetable", .glo "check_timetable", .glo "time_at", .glo "_law_pool", .glo "_law_draw", .glo "_law_order", .glo "_law_row", .glo "_law_pairs", .glo "_law_made", .glo "_law_dot", .glo "_law_lateness", .glo "_law_step", .glo "_law_readings", .glo "_law_is_int", .glo "_law_are_ints", .glo "_law_is_pair", .glo "_law_has_form", .glo "_law_number", .glo "_law_point", .glo "_law_time", .glo "law", .glo "Program", .cls "Program", .mkr "Program", .glo "Tableau"]
def fa2 : List He.Fa := [.cls "Tableau", .mkr "Tableau", .noat "Program" "sides", .noat "Program" "tables", .noat "Program" "readings", .noat "Tableau" "wide", .noat "Tableau" "many", .noat "Tableau" "signs", .noat "Tableau" "lines", .noat "Tableau" "base", .noat "Tableau" "bottom", .meth "Program" "keep", .meth "Tableau" "step", .meth "Tableau" "leaving", .meth "Tableau" "entering", .meth "Tableau" "run", .meth "Tableau" "clear", .meth "Tableau" "wanted", .meth "Tableau" "other_side", .free "isinstance", .free "int", .free "bool", .free "tuple", .free "len", .free "all", .free "str", .free "abs", .free "range", .free "enumerate", .free "sorted"]
def fa3 : List He.Fa := [.free "sum", .free "zip", .free "min", .free "max", .free "list", .int "MOST_SIDES" 4, .int "MOST_TABLES" 8, .int "MOST_READINGS" 24, .int "MOST_STEP" 1000000000000, .int "MOST_ROWS" 8, .str "TURN" "turn", .str "BOXES" "boxes", .glo "WORLDS"]
def fa : List He.Fa := fa0 ++ fa1 ++ fa2 ++ fa3
def lo0 : List Str := ["TurnError", "BadProgram", "NoTable", "NoWorld", "NoTimetable", "NoPoint", "WORLDS", "is_integer", "is_within", "is_pair", "is_triple", "are_integers", "are_within", "check_world", "divisor", "multiple", "fraction", "MOST_SIDES", "MOST_TABLES", "MOST_READINGS", "MOST_STEP", "is_reading", "Program", "every", "check_table", "dot", "Tableau", "solved", "column_of", "far_columns"]
def lo1 : List Str := ["task_of", "common_bottom", "whole", "told_of", "TURN", "goals_of", "reached_from", "parts_of", "tables_in", "level_of", "levels_of", "all_levels", "does_work", "MOST_ROWS", "BOXES", "lateness", "is_right_row", "has_form", "is_right", "heads_of", "numbers_of", "timetable", "check_timetable", "time_at", "_law_pool", "_law_draw", "_law_order", "_law_row", "_law_pairs", "_law_made"]
def lo2 : List Str := ["_law_dot", "_law_lateness", "_law_step", "_law_readings", "_law_is_int", "_law_are_ints", "_law_is_pair", "_law_has_form", "_law_number", "_law_point", "_law_time"]
def lo : List Str := lo0 ++ lo1 ++ lo2
def ex (K : PySem.W.Frag) : Bool := He.tupB K "WORLDS" [.str "boxes", .str "corner"]
def lawAt : Nat := 79
structure Wd (K : PySem.W.Frag) (mg : Str → Option Value) : Prop where
  F_is_integer : ∃ fd, FunD K "is_integer" "is_integer" (defArgs s_is_integer) (defBody s_is_integer) (defScope s_is_integer) [] [] (He.fAd K ("is_integer", none)) fd
  F_is_within : ∃ fd, FunD K "is_within" "is_within" (defArgs s_is_within) (defBody s_is_within) (defScope s_is_within) [] [] (He.fAd K ("is_within", none)) fd
  F_is_pair : ∃ fd, FunD K "is_pair" "is_pair" (defArgs s_is_pair) (defBody s_is_pair) (defScope s_is_pair) [] [] (He.fAd K ("is_pair", none)) fd
  F_is_triple : ∃ fd, FunD K "is_triple" "is_triple" (defArgs s_is_triple) (defBody s_is_triple) (defScope s_is_triple) [] [] (He.fAd K ("is_triple", none)) fd
  F_are_integers : ∃ fd, FunD K "are_integers" "are_integers" (defArgs s_are_integers) (defBody s_are_integers) (defScope s_are_integers) [] [] (He.fAd K ("are_integers", none)) fd
  F_are_within : ∃ fd, FunD K "are_within" "are_within" (defArgs s_are_within) (defBody s_are_within) (defScope s_are_within) [] [] (He.fAd K ("are_within", none)) fd
  F_check_world : ∃ fd, FunD K "check_world" "check_world" (defArgs s_check_world) (defBody s_check_world) (defScope s_check_world) [] [] (He.fAd K ("check_world", none)) fd
  F_divisor : ∃ fd, FunD K "divisor" "divisor" (defArgs s_divisor) (defBody s_divisor) (defScope s_divisor) [] [] (He.fAd K ("divisor", none)) fd
  F_multiple : ∃ fd, FunD K "multiple" "multiple" (defArgs s_multiple) (defBody s_multiple) (defScope s_multiple) [] [] (He.fAd K ("multiple", none)) fd
  F_fraction : ∃ fd, FunD K "fraction" "fraction" (defArgs s_fraction) (defBody s_fraction) (defScope s_fraction) [] [] (He.fAd K ("fraction", none)) fd
  F_is_reading : ∃ fd, FunD K "is_reading" "is_reading" (defArgs s_is_reading) (defBody s_is_reading) (defScope s_is_reading) [] [] (He.fAd K ("is_reading", none)) fd
  F_Program_init : ∃ fd, FunD K "__init__" "Program.__init__" (defArgs s_Program_init) (defBody s_Program_init) (defScope s_Program_init) [] [] (He.fAd K ("Program", some "__init__")) fd
  F_Program_keep : ∃ fd, FunD K "keep" "Program.keep" (defArgs s_Program_keep) (defBody s_Program_keep) (defScope s_Program_keep) [] [] (He.fAd K ("Program", some "keep")) fd
  F_every : ∃ fd, FunD K "every" "every" (defArgs s_every) (defBody s_every) (defScope s_every) [] [] (He.fAd K ("every", none)) fd
  F_check_table : ∃ fd, FunD K "check_table" "check_table" (defArgs s_check_table) (defBody s_check_table) (defScope s_check_table) [] [] (He.fAd K ("check_table", none)) fd
  F_dot : ∃ fd, FunD K "dot" "dot" (defArgs s_dot) (defBody s_dot) (defScope s_dot) [] [] (He.fAd K ("dot", none)) fd
  F_Tableau_init : ∃ fd, FunD K "__init__" "Tableau.__init__" (defArgs s_Tableau_init) (defBody s_Tableau_init) (defScope s_Tableau_init) [] [] (He.fAd K ("Tableau", some "__init__")) fd
  F_Tableau_step : ∃ fd, FunD K "step" "Tableau.step" (defArgs s_Tableau_step) (defBody s_Tableau_step) (defScope s_Tableau_step) [] [] (He.fAd K ("Tableau", some "step")) fd
  F_Tableau_leaving : ∃ fd, FunD K "leaving" "Tableau.leaving" (defArgs s_Tableau_leaving) (defBody s_Tableau_leaving) (defScope s_Tableau_leaving) [] [] (He.fAd K ("Tableau", some "leaving")) fd
  F_Tableau_entering : ∃ fd, FunD K "entering" "Tableau.entering" (defArgs s_Tableau_entering) (defBody s_Tableau_entering) (defScope s_Tableau_entering) [] [] (He.fAd K ("Tableau", some "entering")) fd
  F_Tableau_run : ∃ fd, FunD K "run" "Tableau.run" (defArgs s_Tableau_run) (defBody s_Tableau_run) (defScope s_Tableau_run) [] [] (He.fAd K ("Tableau", some "run")) fd
  F_Tableau_clear : ∃ fd, FunD K "clear" "Tableau.clear" (defArgs s_Tableau_clear) (defBody s_Tableau_clear) (defScope s_Tableau_clear) [] [] (He.fAd K ("Tableau", some "clear")) fd
  F_Tableau_wanted : ∃ fd, FunD K "wanted" "Tableau.wanted" (defArgs s_Tableau_wanted) (defBody s_Tableau_wanted) (defScope s_Tableau_wanted) [] [] (He.fAd K ("Tableau", some "wanted")) fd
  F_Tableau_other_side : ∃ fd, FunD K "other_side" "Tableau.other_side" (defArgs s_Tableau_other_side) (defBody s_Tableau_other_side) (defScope s_Tableau_other_side) [] [] (He.fAd K ("Tableau", some "other_side")) fd
  F_solved : ∃ fd, FunD K "solved" "solved" (defArgs s_solved) (defBody s_solved) (defScope s_solved) [] [] (He.fAd K ("solved", none)) fd
  F_column_of : ∃ fd, FunD K "column_of" "column_of" (defArgs s_column_of) (defBody s_column_of) (defScope s_column_of) [] [] (He.fAd K ("column_of", none)) fd
  F_far_columns : ∃ fd, FunD K "far_columns" "far_columns" (defArgs s_far_columns) (defBody s_far_columns) (defScope s_far_columns) [] [] (He.fAd K ("far_columns", none)) fd
  F_task_of : ∃ fd, FunD K "task_of" "task_of" (defArgs s_task_of) (defBody s_task_of) (defScope s_task_of) [] [] (He.fAd K ("task_of", none)) fd
  F_common_bottom : ∃ fd, FunD K "common_bottom" "common_bottom" (defArgs s_common_bottom) (defBody s_common_bottom) (defScope s_common_bottom) [] [] (He.fAd K ("common_bottom", none)) fd
  F_whole : ∃ fd, FunD K "whole" "whole" (defArgs s_whole) (defBody s_whole) (defScope s_whole) [] [] (He.fAd K ("whole", none)) fd
  F_told_of : ∃ fd, FunD K "told_of" "told_of" (defArgs s_told_of) (defBody s_told_of) (defScope s_told_of) [] [] (He.fAd K ("told_of", none)) fd
  F_goals_of : ∃ fd, FunD K "goals_of" "goals_of" (defArgs s_goals_of) (defBody s_goals_of) (defScope s_goals_of) [] [] (He.fAd K ("goals_of", none)) fd
  F_reached_from : ∃ fd, FunD K "reached_from" "reached_from" (defArgs s_reached_from) (defBody s_reached_from) (defScope s_reached_from) [] [] (He.fAd K ("reached_from", none)) fd
  F_parts_of : ∃ fd, FunD K "parts_of" "parts_of" (defArgs s_parts_of) (defBody s_parts_of) (defScope s_parts_of) [] [] (He.fAd K ("parts_of", none)) fd
  F_tables_in : ∃ fd, FunD K "tables_in" "tables_in" (defArgs s_tables_in) (defBody s_tables_in) (defScope s_tables_in) [] [] (He.fAd K ("tables_in", none)) fd
  F_level_of : ∃ fd, FunD K "level_of" "level_of" (defArgs s_level_of) (defBody s_level_of) (defScope s_level_of) [] [] (He.fAd K ("level_of", none)) fd
  F_levels_of : ∃ fd, FunD K "levels_of" "levels_of" (defArgs s_levels_of) (defBody s_levels_of) (defScope s_levels_of) [] [] (He.fAd K ("levels_of", none)) fd
  F_all_levels : ∃ fd, FunD K "all_levels" "all_levels" (defArgs s_all_levels) (defBody s_all_levels) (defScope s_all_levels) [] [] (He.fAd K ("all_levels", none)) fd
  F_does_work : ∃ fd, FunD K "does_work" "does_work" (defArgs s_does_work) (defBody s_does_work) (defScope s_does_work) [] [] (He.fAd K ("does_work", none)) fd
  F_lateness : ∃ fd, FunD K "lateness" "lateness" (defArgs s_lateness) (defBody s_lateness) (defScope s_lateness) [] [] (He.fAd K ("lateness", none)) fd
  F_is_right_row : ∃ fd, FunD K "is_right_row" "is_right_row" (defArgs s_is_right_row) (defBody s_is_right_row) (defScope s_is_right_row) [] [] (He.fAd K ("is_right_row", none)) fd
  F_has_form : ∃ fd, FunD K "has_form" "has_form" (defArgs s_has_form) (defBody s_has_form) (defScope s_has_form) [] [] (He.fAd K ("has_form", none)) fd
  F_is_right : ∃ fd, FunD K "is_right" "is_right" (defArgs s_is_right) (defBody s_is_right) (defScope s_is_right) [] [] (He.fAd K ("is_right", none)) fd
  F_heads_of : ∃ fd, FunD K "heads_of" "heads_of" (defArgs s_heads_of) (defBody s_heads_of) (defScope s_heads_of) [] [] (He.fAd K ("heads_of", none)) fd
  F_numbers_of : ∃ fd, FunD K "numbers_of" "numbers_of" (defArgs s_numbers_of) (defBody s_numbers_of) (defScope s_numbers_of) [] [] (He.fAd K ("numbers_of", none)) fd
  F_timetable : ∃ fd, FunD K "timetable" "timetable" (defArgs s_timetable) (defBody s_timetable) (defScope s_timetable) [] [] (He.fAd K ("timetable", none)) fd
  F_check_timetable : ∃ fd, FunD K "check_timetable" "check_timetable" (defArgs s_check_timetable) (defBody s_check_timetable) (defScope s_check_timetable) [] [] (He.fAd K ("check_timetable", none)) fd
  F_time_at : ∃ fd, FunD K "time_at" "time_at" (defArgs s_time_at) (defBody s_time_at) (defScope s_time_at) [] [] (He.fAd K ("time_at", none)) fd
  F_law_pool : ∃ fd, FunD K "_law_pool" "_law_pool" (defArgs s_law_pool) (defBody s_law_pool) (defScope s_law_pool) [] [] (He.fAd K ("_law_pool", none)) fd
  F_law_draw : ∃ fd, FunD K "_law_draw" "_law_draw" (defArgs s_law_draw) (defBody s_law_draw) (defScope s_law_draw) [] [] (He.fAd K ("_law_draw", none)) fd
  F_law_order : ∃ fd, FunD K "_law_order" "_law_order" (defArgs s_law_order) (defBody s_law_order) (defScope s_law_order) [] [] (He.fAd K ("_law_order", none)) fd
  F_law_row : ∃ fd, FunD K "_law_row" "_law_row" (defArgs s_law_row) (defBody s_law_row) (defScope s_law_row) [] [] (He.fAd K ("_law_row", none)) fd
  F_law_pairs : ∃ fd, FunD K "_law_pairs" "_law_pairs" (defArgs s_law_pairs) (defBody s_law_pairs) (defScope s_law_pairs) [] [] (He.fAd K ("_law_pairs", none)) fd
  F_law_made : ∃ fd, FunD K "_law_made" "_law_made" (defArgs s_law_made) (defBody s_law_made) (defScope s_law_made) [] [] (He.fAd K ("_law_made", none)) fd
  F_law_dot : ∃ fd, FunD K "_law_dot" "_law_dot" (defArgs s_law_dot) (defBody s_law_dot) (defScope s_law_dot) [] [] (He.fAd K ("_law_dot", none)) fd
  F_law_lateness : ∃ fd, FunD K "_law_lateness" "_law_lateness" (defArgs s_law_lateness) (defBody s_law_lateness) (defScope s_law_lateness) [] [] (He.fAd K ("_law_lateness", none)) fd
  F_law_step : ∃ fd, FunD K "_law_step" "_law_step" (defArgs s_law_step) (defBody s_law_step) (defScope s_law_step) [] [] (He.fAd K ("_law_step", none)) fd
  F_law_readings : ∃ fd, FunD K "_law_readings" "_law_readings" (defArgs s_law_readings) (defBody s_law_readings) (defScope s_law_readings) [] [] (He.fAd K ("_law_readings", none)) fd
  F_law_is_int : ∃ fd, FunD K "_law_is_int" "_law_is_int" (defArgs s_law_is_int) (defBody s_law_is_int) (defScope s_law_is_int) [] [] (He.fAd K ("_law_is_int", none)) fd
  F_law_are_ints : ∃ fd, FunD K "_law_are_ints" "_law_are_ints" (defArgs s_law_are_ints) (defBody s_law_are_ints) (defScope s_law_are_ints) [] [] (He.fAd K ("_law_are_ints", none)) fd
  F_law_is_pair : ∃ fd, FunD K "_law_is_pair" "_law_is_pair" (defArgs s_law_is_pair) (defBody s_law_is_pair) (defScope s_law_is_pair) [] [] (He.fAd K ("_law_is_pair", none)) fd
  F_law_has_form : ∃ fd, FunD K "_law_has_form" "_law_has_form" (defArgs s_law_has_form) (defBody s_law_has_form) (defScope s_law_has_form) [] [] (He.fAd K ("_law_has_form", none)) fd
  F_law_number : ∃ fd, FunD K "_law_number" "_law_number" (defArgs s_law_number) (defBody s_law_number) (defScope s_law_number) [] [] (He.fAd K ("_law_number", none)) fd
  F_law_point : ∃ fd, FunD K "_law_point" "_law_point" (defArgs s_law_point) (defBody s_law_point) (defScope s_law_point) [] [] (He.fAd K ("_law_point", none)) fd
  F_law_time : ∃ fd, FunD K "_law_time" "_law_time" (defArgs s_law_time) (defBody s_law_time) (defScope s_law_time) [] [] (He.fAd K ("_law_time", none)) fd
  F_law : ∃ fd, FunD K "law" "law" (defArgs s_law) (defBody s_law) (defScope s_law) [] [] (He.fAd K ("law", none)) fd
  g_is_integer : mg "is_integer" = some (.ref (He.ga K "is_integer"))
  g_is_within : mg "is_within" = some (.ref (He.ga K "is_within"))
  g_is_pair : mg "is_pair" = some (.ref (He.ga K "is_pair"))
  g_is_triple : mg "is_triple" = some (.ref (He.ga K "is_triple"))
  g_are_integers : mg "are_integers" = some (.ref (He.ga K "are_integers"))
  g_are_within : mg "are_within" = some (.ref (He.ga K "are_within"))
  g_check_world : mg "check_world" = some (.ref (He.ga K "check_world"))
  g_divisor : mg "divisor" = some (.ref (He.ga K "divisor"))
  g_multiple : mg "multiple" = some (.ref (He.ga K "multiple"))
  g_fraction : mg "fraction" = some (.ref (He.ga K "fraction"))
  g_is_reading : mg "is_reading" = some (.ref (He.ga K "is_reading"))
  g_every : mg "every" = some (.ref (He.ga K "every"))
  g_check_table : mg "check_table" = some (.ref (He.ga K "check_table"))
  g_dot : mg "dot" = some (.ref (He.ga K "dot"))
  g_solved : mg "solved" = some (.ref (He.ga K "solved"))
  g_column_of : mg "column_of" = some (.ref (He.ga K "column_of"))
  g_far_columns : mg "far_columns" = some (.ref (He.ga K "far_columns"))
  g_task_of : mg "task_of" = some (.ref (He.ga K "task_of"))
  g_common_bottom : mg "common_bottom" = some (.ref (He.ga K "common_bottom"))
  g_whole : mg "whole" = some (.ref (He.ga K "whole"))
  g_told_of : mg "told_of" = some (.ref (He.ga K "told_of"))
  g_goals_of : mg "goals_of" = some (.ref (He.ga K "goals_of"))
  g_reached_from : mg "reached_from" = some (.ref (He.ga K "reached_from"))
  g_parts_of : mg "parts_of" = some (.ref (He.ga K "parts_of"))
  g_tables_in : mg "tables_in" = some (.ref (He.ga K "tables_in"))
  g_level_of : mg "level_of" = some (.ref (He.ga K "level_of"))
  g_levels_of : mg "levels_of" = some (.ref (He.ga K "levels_of"))
  g_all_levels : mg "all_levels" = some (.ref (He.ga K "all_levels"))
  g_does_work : mg "does_work" = some (.ref (He.ga K "does_work"))
  g_lateness : mg "lateness" = some (.ref (He.ga K "lateness"))
  g_is_right_row : mg "is_right_row" = some (.ref (He.ga K "is_right_row"))
  g_has_form : mg "has_form" = some (.ref (He.ga K "has_form"))
  g_is_right : mg "is_right" = some (.ref (He.ga K "is_right"))
  g_heads_of : mg "heads_of" = some (.ref (He.ga K "heads_of"))
  g_numbers_of : mg "numbers_of" = some (.ref (He.ga K "numbers_of"))
  g_timetable : mg "timetable" = some (.ref (He.ga K "timetable"))
  g_check_timetable : mg "check_timetable" = some (.ref (He.ga K "check_timetable"))
  g_time_at : mg "time_at" = some (.ref (He.ga K "time_at"))
  g_law_pool : mg "_law_pool" = some (.ref (He.ga K "_law_pool"))
  g_law_draw : mg "_law_draw" = some (.ref (He.ga K "_law_draw"))
  g_law_order : mg "_law_order" = some (.ref (He.ga K "_law_order"))
  g_law_row : mg "_law_row" = some (.ref (He.ga K "_law_row"))
  g_law_pairs : mg "_law_pairs" = some (.ref (He.ga K "_law_pairs"))
  g_law_made : mg "_law_made" = some (.ref (He.ga K "_law_made"))
  g_law_dot : mg "_law_dot" = some (.ref (He.ga K "_law_dot"))
  g_law_lateness : mg "_law_lateness" = some (.ref (He.ga K "_law_lateness"))
  g_law_step : mg "_law_step" = some (.ref (He.ga K "_law_step"))
  g_law_readings : mg "_law_readings" = some (.ref (He.ga K "_law_readings"))
  g_law_is_int : mg "_law_is_int" = some (.ref (He.ga K "_law_is_int"))
  g_law_are_ints : mg "_law_are_ints" = some (.ref (He.ga K "_law_are_ints"))
  g_law_is_pair : mg "_law_is_pair" = some (.ref (He.ga K "_law_is_pair"))
  g_law_has_form : mg "_law_has_form" = some (.ref (He.ga K "_law_has_form"))
  g_law_number : mg "_law_number" = some (.ref (He.ga K "_law_number"))
  g_law_point : mg "_law_point" = some (.ref (He.ga K "_law_point"))
  g_law_time : mg "_law_time" = some (.ref (He.ga K "_law_time"))
  g_law : mg "law" = some (.ref (He.ga K "law"))
  g_Program : mg "Program" = some (.ref (He.ga K "Program"))
  cl_Program : Cls K (He.ga K "Program")
  mk_Program : Mk K (He.ga K "Program") (He.ma K (He.ga K "Program") "__init__")
  g_Tableau : mg "Tableau" = some (.ref (He.ga K "Tableau"))
  cl_Tableau : Cls K (He.ga K "Tableau")
  mk_Tableau : Mk K (He.ga K "Tableau") (He.ma K (He.ga K "Tableau") "__init__")
  n_Program_sides : NoAttr K (He.ga K "Program") "sides"
  n_Program_tables : NoAttr K (He.ga K "Program") "tables"
  n_Program_readings : NoAttr K (He.ga K "Program") "readings"
  n_Tableau_wide : NoAttr K (He.ga K "Tableau") "wide"
  n_Tableau_many : NoAttr K (He.ga K "Tableau") "many"
  n_Tableau_signs : NoAttr K (He.ga K "Tableau") "signs"
  n_Tableau_lines : NoAttr K (He.ga K "Tableau") "lines"
  n_Tableau_base : NoAttr K (He.ga K "Tableau") "base"
  n_Tableau_bottom : NoAttr K (He.ga K "Tableau") "bottom"
  m_Program_keep : Meth K (He.ga K "Program") "keep" (He.ma K (He.ga K "Program") "keep")
  m_Tableau_step : Meth K (He.ga K "Tableau") "step" (He.ma K (He.ga K "Tableau") "step")
  m_Tableau_leaving : Meth K (He.ga K "Tableau") "leaving" (He.ma K (He.ga K "Tableau") "leaving")
  m_Tableau_entering : Meth K (He.ga K "Tableau") "entering" (He.ma K (He.ga K "Tableau") "entering")
  m_Tableau_run : Meth K (He.ga K "Tableau") "run" (He.ma K (He.ga K "Tableau") "run")
  m_Tableau_clear : Meth K (He.ga K "Tableau") "clear" (He.ma K (He.ga K "Tableau") "clear")
  m_Tableau_wanted : Meth K (He.ga K "Tableau") "wanted" (He.ma K (He.ga K "Tableau") "wanted")
  m_Tableau_other_side : Meth K (He.ga K "Tableau") "other_side" (He.ma K (He.ga K "Tableau") "other_side")
  b_isinstance : mg "isinstance" = none
  b_int : mg "int" = none
  b_bool : mg "bool" = none
  b_tuple : mg "tuple" = none
  b_len : mg "len" = none
  b_all : mg "all" = none
  b_str : mg "str" = none
  b_abs : mg "abs" = none
  b_range : mg "range" = none
  b_enumerate : mg "enumerate" = none
  b_sorted : mg "sorted" = none
  b_sum : mg "sum" = none
  b_zip : mg "zip" = none
  b_min : mg "min" = none
  b_max : mg "max" = none
  b_list : mg "list" = none
  i_MOST_SIDES : ∃ t, mg "MOST_SIDES" = some (.int 4 t)
  i_MOST_TABLES : ∃ t, mg "MOST_TABLES" = some (.int 8 t)
  i_MOST_READINGS : ∃ t, mg "MOST_READINGS" = some (.int 24 t)
  i_MOST_STEP : ∃ t, mg "MOST_STEP" = some (.int 1000000000000 t)
  i_MOST_ROWS : ∃ t, mg "MOST_ROWS" = some (.int 8 t)
  x_TURN : ∃ t, mg "TURN" = some (.str "turn" t)
  x_BOXES : ∃ t, mg "BOXES" = some (.str "boxes" t)
  g_WORLDS : mg "WORLDS" = some (.ref (He.ga K "WORLDS"))
  worlds : ∀ H : Hp, SqT K H (He.ga K "WORLDS") [.str "boxes", .str "corner"]
theorem wd_of {K : PySem.W.Frag} {h : Heap} {mg : Str → Option Value} (X : K.In h) (G : h.Ns mainGlobals mg) (c : He.SaysD fa fn K) (ex : ex K = true) : Wd K mg := by
  constructor
  · exact c.def_ 0 (d := d_is_integer) rfl
  · exact c.def_ 1 (d := d_is_within) rfl
  · exact c.def_ 2 (d := d_is_pair) rfl
  · exact c.def_ 3 (d := d_is_triple) rfl
  · exact c.def_ 4 (d := d_are_integers) rfl
  · exact c.def_ 5 (d := d_are_within) rfl
  · exact c.def_ 6 (d := d_check_world) rfl
  · exact c.def_ 7 (d := d_divisor) rfl
  · exact c.def_ 8 (d := d_multiple) rfl
  · exact c.def_ 9 (d := d_fraction) rfl
  · exact c.def_ 10 (d := d_is_reading) rfl
  · exact c.def_ 11 (d := d_Program_init) rfl
  · exact c.def_ 12 (d := d_Program_keep) rfl
  · exact c.def_ 13 (d := d_every) rfl
  · exact c.def_ 14 (d := d_check_table) rfl
  · exact c.def_ 15 (d := d_dot) rfl
  · exact c.def_ 16 (d := d_Tableau_init) rfl
  · exact c.def_ 17 (d := d_Tableau_step) rfl
  · exact c.def_ 18 (d := d_Tableau_leaving) rfl
  · exact c.def_ 19 (d := d_Tableau_entering) rfl
  · exact c.def_ 20 (d := d_Tableau_run) rfl
  · exact c.def_ 21 (d := d_Tableau_clear) rfl
  · exact c.def_ 22 (d := d_Tableau_wanted) rfl
  · exact c.def_ 23 (d := d_Tableau_other_side) rfl
  · exact c.def_ 24 (d := d_solved) rfl
  · exact c.def_ 25 (d := d_column_of) rfl
  · exact c.def_ 26 (d := d_far_columns) rfl
  · exact c.def_ 27 (d := d_task_of) rfl
  · exact c.def_ 28 (d := d_common_bottom) rfl
  · exact c.def_ 29 (d := d_whole) rfl
  · exact c.def_ 30 (d := d_told_of) rfl
  · exact c.def_ 31 (d := d_goals_of) rfl
  · exact c.def_ 32 (d := d_reached_from) rfl
  · exact c.def_ 33 (d := d_parts_of) rfl
  · exact c.def_ 34 (d := d_tables_in) rfl
  · exact c.def_ 35 (d := d_level_of) rfl
  · exact c.def_ 36 (d := d_levels_of) rfl
  · exact c.def_ 37 (d := d_all_levels) rfl
  · exact c.def_ 38 (d := d_does_work) rfl
  · exact c.def_ 39 (d := d_lateness) rfl
  · exact c.def_ 40 (d := d_is_right_row) rfl
  · exact c.def_ 41 (d := d_has_form) rfl
  · exact c.def_ 42 (d := d_is_right) rfl
  · exact c.def_ 43 (d := d_heads_of) rfl
  · exact c.def_ 44 (d := d_numbers_of) rfl
  · exact c.def_ 45 (d := d_timetable) rfl
  · exact c.def_ 46 (d := d_check_timetable) rfl
  · exact c.def_ 47 (d := d_time_at) rfl
  · exact c.def_ 48 (d := d_law_pool) rfl
  · exact c.def_ 49 (d := d_law_draw) rfl
  · exact c.def_ 50 (d := d_law_order) rfl
  · exact c.def_ 51 (d := d_law_row) rfl
  · exact c.def_ 52 (d := d_law_pairs) rfl
  · exact c.def_ 53 (d := d_law_made) rfl
  · exact c.def_ 54 (d := d_law_dot) rfl
  · exact c.def_ 55 (d := d_law_lateness) rfl
  · exact c.def_ 56 (d := d_law_step) rfl
  · exact c.def_ 57 (d := d_law_readings) rfl
  · exact c.def_ 58 (d := d_law_is_int) rfl
  · exact c.def_ 59 (d := d_law_are_ints) rfl
  · exact c.def_ 60 (d := d_law_is_pair) rfl
  · exact c.def_ 61 (d := d_law_has_form) rfl
  · exact c.def_ 62 (d := d_law_number) rfl
  · exact c.def_ 63 (d := d_law_point) rfl
  · exact c.def_ 64 (d := d_law_time) rfl
  · exact c.def_ 65 (d := d_law) rfl
  · exact He.glo_ok X G (c.fact 0 (f := .glo "is_integer") rfl)
  · exact He.glo_ok X G (c.fact 1 (f := .glo "is_within") rfl)
  · exact He.glo_ok X G (c.fact 2 (f := .glo "is_pair") rfl)
  · exact He.glo_ok X G (c.fact 3 (f := .glo "is_triple") rfl)
  · exact He.glo_ok X G (c.fact 4 (f := .glo "are_integers") rfl)
  · exact He.glo_ok X G (c.fact 5 (f := .glo "are_within") rfl)
  · exact He.glo_ok X G (c.fact 6 (f := .glo "check_world") rfl)
  · exact He.glo_ok X G (c.fact 7 (f := .glo "divisor") rfl)
  · exact He.glo_ok X G (c.fact 8 (f := .glo "multiple") rfl)
  · exact He.glo_ok X G (c.fact 9 (f := .glo "fraction") rfl)
  · exact He.glo_ok X G (c.fact 10 (f := .glo "is_reading") rfl)
  · exact He.glo_ok X G (c.fact 11 (f := .glo "every") rfl)
  · exact He.glo_ok X G (c.fact 12 (f := .glo "check_table") rfl)
  · exact He.glo_ok X G (c.fact 13 (f := .glo "dot") rfl)
  · exact He.glo_ok X G (c.fact 14 (f := .glo "solved") rfl)
  · exact He.glo_ok X G (c.fact 15 (f := .glo "column_of") rfl)
  · exact He.glo_ok X G (c.fact 16 (f := .glo "far_columns") rfl)
  · exact He.glo_ok X G (c.fact 17 (f := .glo "task_of") rfl)
  · exact He.glo_ok X G (c.fact 18 (f := .glo "common_bottom") rfl)
  · exact He.glo_ok X G (c.fact 19 (f := .glo "whole") rfl)
  · exact He.glo_ok X G (c.fact 20 (f := .glo "told_of") rfl)
  · exact He.glo_ok X G (c.fact 21 (f := .glo "goals_of") rfl)
  · exact He.glo_ok X G (c.fact 22 (f := .glo "reached_from") rfl)
  · exact He.glo_ok X G (c.fact 23 (f := .glo "parts_of") rfl)
  · exact He.glo_ok X G (c.fact 24 (f := .glo "tables_in") rfl)
  · exact He.glo_ok X G (c.fact 25 (f := .glo "level_of") rfl)
  · exact He.glo_ok X G (c.fact 26 (f := .glo "levels_of") rfl)
  · exact He.glo_ok X G (c.fact 27 (f := .glo "all_levels") rfl)
  · exact He.glo_ok X G (c.fact 28 (f := .glo "does_work") rfl)
  · exact He.glo_ok X G (c.fact 29 (f := .glo "lateness") rfl)
  · exact He.glo_ok X G (c.fact 30 (f := .glo "is_right_row") rfl)
  · exact He.glo_ok X G (c.fact 31 (f := .glo "has_form") rfl)
  · exact He.glo_ok X G (c.fact 32 (f := .glo "is_right") rfl)
  · exact He.glo_ok X G (c.fact 33 (f := .glo "heads_of") rfl)
  · exact He.glo_ok X G (c.fact 34 (f := .glo "numbers_of") rfl)
  · exact He.glo_ok X G (c.fact 35 (f := .glo "timetable") rfl)
  · exact He.glo_ok X G (c.fact 36 (f := .glo "check_timetable") rfl)
  · exact He.glo_ok X G (c.fact 37 (f := .glo "time_at") rfl)
  · exact He.glo_ok X G (c.fact 38 (f := .glo "_law_pool") rfl)
  · exact He.glo_ok X G (c.fact 39 (f := .glo "_law_draw") rfl)
  · exact He.glo_ok X G (c.fact 40 (f := .glo "_law_order") rfl)
  · exact He.glo_ok X G (c.fact 41 (f := .glo "_law_row") rfl)
  · exact He.glo_ok X G (c.fact 42 (f := .glo "_law_pairs") rfl)
  · exact He.glo_ok X G (c.fact 43 (f := .glo "_law_made") rfl)
  · exact He.glo_ok X G (c.fact 44 (f := .glo "_law_dot") rfl)
  · exact He.glo_ok X G (c.fact 45 (f := .glo "_law_lateness") rfl)
  · exact He.glo_ok X G (c.fact 46 (f := .glo "_law_step") rfl)
  · exact He.glo_ok X G (c.fact 47 (f := .glo "_law_readings") rfl)
  · exact He.glo_ok X G (c.fact 48 (f := .glo "_law_is_int") rfl)
  · exact He.glo_ok X G (c.fact 49 (f := .glo "_law_are_ints") rfl)
  · exact He.glo_ok X G (c.fact 50 (f := .glo "_law_is_pair") rfl)
  · exact He.glo_ok X G (c.fact 51 (f := .glo "_law_has_form") rfl)
  · exact He.glo_ok X G (c.fact 52 (f := .glo "_law_number") rfl)
  · exact He.glo_ok X G (c.fact 53 (f := .glo "_law_point") rfl)
  · exact He.glo_ok X G (c.fact 54 (f := .glo "_law_time") rfl)
  · exact He.glo_ok X G (c.fact 55 (f := .glo "law") rfl)
  · exact He.glo_ok X G (c.fact 56 (f := .glo "Program") rfl)
  · exact He.cls_ok (c.fact 57 (f := .cls "Program") rfl)
  · exact He.mkr_ok (c.fact 58 (f := .mkr "Program") rfl)
  · exact He.glo_ok X G (c.fact 59 (f := .glo "Tableau") rfl)
  · exact He.cls_ok (c.fact 60 (f := .cls "Tableau") rfl)
  · exact He.mkr_ok (c.fact 61 (f := .mkr "Tableau") rfl)
  · exact He.noat_ok (c.fact 62 (f := .noat "Program" "sides") rfl)
  · exact He.noat_ok (c.fact 63 (f := .noat "Program" "tables") rfl)
  · exact He.noat_ok (c.fact 64 (f := .noat "Program" "readings") rfl)
  · exact He.noat_ok (c.fact 65 (f := .noat "Tableau" "wide") rfl)
  · exact He.noat_ok (c.fact 66 (f := .noat "Tableau" "many") rfl)
  · exact He.noat_ok (c.fact 67 (f := .noat "Tableau" "signs") rfl)
  · exact He.noat_ok (c.fact 68 (f := .noat "Tableau" "lines") rfl)
  · exact He.noat_ok (c.fact 69 (f := .noat "Tableau" "base") rfl)
  · exact He.noat_ok (c.fact 70 (f := .noat "Tableau" "bottom") rfl)
  · exact He.meth_ok (c.fact 71 (f := .meth "Program" "keep") rfl)
  · exact He.meth_ok (c.fact 72 (f := .meth "Tableau" "step") rfl)
  · exact He.meth_ok (c.fact 73 (f := .meth "Tableau" "leaving") rfl)
  · exact He.meth_ok (c.fact 74 (f := .meth "Tableau" "entering") rfl)
  · exact He.meth_ok (c.fact 75 (f := .meth "Tableau" "run") rfl)
  · exact He.meth_ok (c.fact 76 (f := .meth "Tableau" "clear") rfl)
  · exact He.meth_ok (c.fact 77 (f := .meth "Tableau" "wanted") rfl)
  · exact He.meth_ok (c.fact 78 (f := .meth "Tableau" "other_side") rfl)
  · exact He.free_ok X G (c.fact 79 (f := .free "isinstance") rfl)
  · exact He.free_ok X G (c.fact 80 (f := .free "int") rfl)
  · exact He.free_ok X G (c.fact 81 (f := .free "bool") rfl)
  · exact He.free_ok X G (c.fact 82 (f := .free "tuple") rfl)
  · exact He.free_ok X G (c.fact 83 (f := .free "len") rfl)
  · exact He.free_ok X G (c.fact 84 (f := .free "all") rfl)
  · exact He.free_ok X G (c.fact 85 (f := .free "str") rfl)
  · exact He.free_ok X G (c.fact 86 (f := .free "abs") rfl)
  · exact He.free_ok X G (c.fact 87 (f := .free "range") rfl)
  · exact He.free_ok X G (c.fact 88 (f := .free "enumerate") rfl)
  · exact He.free_ok X G (c.fact 89 (f := .free "sorted") rfl)
  · exact He.free_ok X G (c.fact 90 (f := .free "sum") rfl)
  · exact He.free_ok X G (c.fact 91 (f := .free "zip") rfl)
  · exact He.free_ok X G (c.fact 92 (f := .free "min") rfl)
  · exact He.free_ok X G (c.fact 93 (f := .free "max") rfl)
  · exact He.free_ok X G (c.fact 94 (f := .free "list") rfl)
  · exact He.int_ok X G (c.fact 95 (f := .int "MOST_SIDES" 4) rfl)
  · exact He.int_ok X G (c.fact 96 (f := .int "MOST_TABLES" 8) rfl)
  · exact He.int_ok X G (c.fact 97 (f := .int "MOST_READINGS" 24) rfl)
  · exact He.int_ok X G (c.fact 98 (f := .int "MOST_STEP" 1000000000000) rfl)
  · exact He.int_ok X G (c.fact 99 (f := .int "MOST_ROWS" 8) rfl)
  · exact He.str_ok X G (c.fact 100 (f := .str "TURN" "turn") rfl)
  · exact He.str_ok X G (c.fact 101 (f := .str "BOXES" "boxes") rfl)
  · exact He.glo_ok X G (c.fact 102 (f := .glo "WORLDS") rfl)
  · exact fun H => He.tupB_ok ex H
end TN
namespace TN
open PySem PySem.Spec PyProof.Rows L2
abbrev R : PySem.W.OpenRow := PySem.W.OpenLaw.row PySem.Challenge.rw_turnsneeded_k58_whole_times_by_own_sums
abbrev hk : PySem.W.Hook := He.hookX 6 fa fn [] [] ex
def ob (s : PySem.W.SharedT) : He.AlX := He.obsX 6 fa fn [] [] ex (HandSHeadRun.getT s)
theorem ob_eq (s : PySem.W.SharedT) : ob s = hk.obs s.abs := He.obsX_eq (HandSHeadRun.getT_eq s)
theorem run (w : World) : HandSHeadRun.RunEq R (PySem.W.view R.prog [79]) hk ob 6000 lo w := by
  intro os
  kernel_rfl
end TN
set_option linter.unusedVariables false
set_option maxHeartbeats 4000000
/-! M1: finite sums, determinants. Core Lean. -/
namespace TN
def sm : Nat → (Nat → Int) → Int
  | 0, _ => 0
  | n + 1, f => sm n f + f n
theorem sm_zero (f : Nat → Int) : sm 0 f = 0 := rfl
theorem sm_succ (n : Nat) (f : Nat → Int) : sm (n + 1) f = sm n f + f n := rfl
theorem sm_congr {n : Nat} {f g : Nat → Int} (h : ∀ k, k < n → f k = g k) : sm n f = sm n g := by
  induction n with
  | zero => rfl
  | succ n ih => rw [sm_succ, sm_succ, ih fun k hk => h k (by omega), h n (by omega)]
theorem sm_const0 {n : Nat} {f : Nat → Int} (h : ∀ k, k < n → f k = 0) : sm n f = 0 := by
  induction n with
  | zero => rfl
  | succ n ih => rw [sm_succ, ih fun k hk => h k (by omega), h n (by omega)]; rfl
theorem sm_add (n : Nat) (f g : Nat → Int) : sm n (fun k => f k + g k) = sm n f + sm n g := by
  induction n with
  | zero => rfl
  | succ n ih => rw [sm_succ, sm_succ, sm_succ, ih]; omega
theorem sm_sub (n : Nat) (f g : Nat → Int) : sm n (fun k => f k - g k) = sm n f - sm n g := by
  induction n with
  | zero => rfl
  | succ n ih => rw [sm_succ, sm_succ, sm_succ, ih]; omega
theorem sm_neg (n : Nat) (f : Nat → Int) : sm n (fun k => - f k) = - sm n f := by
  induction n with
  | zero => rfl
  | succ n ih => rw [sm_succ, sm_succ, ih]; omega
theorem sm_mul (n : Nat) (a : Int) (f : Nat → Int) : sm n (fun k => a * f k) = a * sm n f := by
  induction n with
  | zero => simp [sm]
  | succ n ih => rw [sm_succ, sm_succ, ih, Int.mul_add]
theorem sm_mulr (n : Nat) (a : Int) (f : Nat → Int) : sm n (fun k => f k * a) = sm n f * a := by
  induction n with
  | zero => simp [sm]
  | succ n ih => rw [sm_succ, sm_succ, ih, Int.add_mul]
theorem sm_one {n i : Nat} (hi : i < n) {f : Nat → Int} (h : ∀ k, k < n → k ≠ i → f k = 0) : sm n f = f i := by
  induction n with
  | zero => omega
  | succ n ih =>
    rw [sm_succ]
    by_cases e : i = n
    · subst e
      rw [sm_const0 fun k hk => h k (by omega) (by omega)]; omega
    · rw [ih (by omega) fun k hk => h k (by omega), h n (by omega) (by omega)]; omega
theorem sm_two {n i j : Nat} (hi : i < n) (hj : j < n) (hij : i ≠ j) {f : Nat → Int} (h : ∀ k, k < n → k ≠ i → k ≠ j → f k = 0) : sm n f = f i + f j := by
  induction n with
  | zero => omega
  | succ n ih =>
    rw [sm_succ]
    by_cases e : i = n
    · subst e
      rw [sm_one (i := j) (by omega) fun k hk hn => h k (by omega) (by omega) hn]; omega
    · by_cases e' : j = n
      · subst e'
        rw [sm_one (i := i) (by omega) fun k hk hn => h k (by omega) hn (by omega)]
      · rw [ih (by omega) (by omega) fun k hk => h k (by omega), h n (by omega) (by omega) (by omega)]; omega
theorem sm_comm (n m : Nat) (f : Nat → Nat → Int) : sm n (fun i => sm m fun j => f i j) = sm m fun j => sm n fun i => f i j := by
  induction n with
  | zero => rw [sm_zero, sm_const0]; intros; rfl
  | succ n ih => rw [sm_succ, ih, ← sm_add]; rfl
theorem sm_nonneg {n : Nat} {f : Nat → Int} (h : ∀ k, k < n → 0 ≤ f k) : 0 ≤ sm n f := by
  induction n with
  | zero => exact Int.le_refl 0
  | succ n ih => rw [sm_succ]; have := ih fun k hk => h k (by omega); have := h n (by omega); omega
theorem sm_pos {n : Nat} {f : Nat → Int} (h : ∀ k, k < n → 0 ≤ f k) {i : Nat} (hi : i < n) (hp : 0 < f i) : 0 < sm n f := by
  induction n with
  | zero => omega
  | succ n ih =>
    rw [sm_succ]
    have h1 := sm_nonneg (n := n) fun k hk => h k (by omega)
    have h2 := h n (by omega)
    by_cases e : i = n
    · subst e; omega
    · have := ih (fun k hk => h k (by omega)) (by omega); omega
/-- a sum of non-negative terms that is 0 has no positive one -/
theorem sm_all0 {n : Nat} {f : Nat → Int} (h : ∀ k, k < n → 0 ≤ f k) (z : sm n f = 0) {i : Nat} (hi : i < n) : f i = 0 := by
  have h1 := h i hi
  by_cases e : 0 < f i
  · have := sm_pos h hi e; omega
  · omega
/-- a positive sum has a positive term -/
theorem sm_expos {n : Nat} {f : Nat → Int} (h : 0 < sm n f) : ∃ i, i < n ∧ 0 < f i := by
  induction n with
  | zero => rw [sm_zero] at h; omega
  | succ n ih =>
    rw [sm_succ] at h
    by_cases e : 0 < f n
    · exact ⟨n, by omega, e⟩
    · obtain ⟨i, hi, p⟩ := ih (by omega)
      exact ⟨i, by omega, p⟩
theorem sm_app (n m : Nat) (f : Nat → Int) : sm (n + m) f = sm n f + sm m fun k => f (n + k) := by
  induction m with
  | zero => rw [sm_zero]; simp
  | succ m ih => rw [← Nat.add_assoc, sm_succ, sm_succ, ih]; omega
theorem sm_head (n : Nat) (f : Nat → Int) : sm (n + 1) f = f 0 + sm n fun k => f (k + 1) := by
  rw [Nat.add_comm, sm_app, sm_succ, sm_zero, Int.zero_add]
  congr 1
  exact sm_congr fun k _ => by rw [Nat.add_comm]
theorem sm_abs {n : Nat} {f : Nat → Int} {b : Nat} (h : ∀ k, k < n → (f k).natAbs ≤ b) : (sm n f).natAbs ≤ n * b := by
  induction n with
  | zero => simp [sm]
  | succ n ih =>
    rw [sm_succ]
    have h1 := ih fun k hk => h k (by omega)
    have h2 := h n (by omega)
    have h3 := Int.natAbs_add_le (sm n f) (f n)
    rw [Nat.succ_mul]
    omega
/-! ### determinants: C k r is row r of column k -/
def sg (j : Nat) : Int := if j % 2 = 0 then 1 else -1
def skp (j k : Nat) : Nat := if k < j then k else k + 1
def det : Nat → (Nat → Nat → Int) → Int
  | 0, _ => 1
  | n + 1, C => sm (n + 1) fun j => sg j * C j 0 * det n fun k r => C (skp j k) (r + 1)
theorem det_succ (n : Nat) (C : Nat → Nat → Int) : det (n + 1) C = sm (n + 1) fun j => sg j * C j 0 * det n fun k r => C (skp j k) (r + 1) := rfl
/-- column i put for v -/
def stc (C : Nat → Nat → Int) (i : Nat) (v : Nat → Int) : Nat → Nat → Int := fun k r => if k = i then v r else C k r
theorem stc_same (C : Nat → Nat → Int) (i : Nat) (v : Nat → Int) (r : Nat) : stc C i v i r = v r := by unfold stc; rw [if_pos rfl]
theorem stc_ne (C : Nat → Nat → Int) {i k : Nat} (v : Nat → Int) (r : Nat) (h : k ≠ i) : stc C i v k r = C k r := by unfold stc; rw [if_neg h]
theorem skp_lt {n j k : Nat} (hj : j ≤ n) (hk : k < n) : skp j k < n + 1 := by unfold skp; split <;> omega
theorem skp_ne (j k : Nat) : skp j k ≠ j := by unfold skp; split <;> omega
theorem skp_inj {j a b : Nat} (h : skp j a = skp j b) : a = b := by unfold skp at h; split at h <;> split at h <;> omega
theorem skp_of {n i j : Nat} (hi : i < n + 1) (hj : j < n + 1) (h : i ≠ j) : ∃ i', i' < n ∧ skp j i' = i := by
  by_cases e : i < j
  · exact ⟨i, by omega, by unfold skp; rw [if_pos e]⟩
  · exact ⟨i - 1, by omega, by unfold skp; rw [if_neg (by omega)]; omega⟩
theorem det_congr : ∀ {n : Nat} {C D : Nat → Nat → Int}, (∀ k r, k < n → r < n → C k r = D k r) → det n C = det n D
  | 0, _, _, _ => rfl
  | n + 1, C, D, h => by
    rw [det_succ, det_succ]
    refine sm_congr fun j hj => ?_
    rw [h j 0 hj (by omega), det_congr fun k r hk hr => h _ _ (skp_lt (by omega) hk) (by omega)]
/-- linear in column i -/
theorem det_lin : ∀ {n : Nat} (C : Nat → Nat → Int) {i : Nat} (_ : i < n) (a b : Int) (u v : Nat → Int),
    det n (stc C i fun r => a * u r + b * v r) = a * det n (stc C i u) + b * det n (stc C i v)
  | 0, _, _, hi, _, _, _, _ => by omega
  | n + 1, C, i, hi, a, b, u, v => by
    rw [det_succ, det_succ, det_succ, ← sm_mul, ← sm_mul, ← sm_add]
    refine sm_congr fun j hj => ?_
    by_cases e : j = i
    · subst e
      rw [stc_same, stc_same, stc_same]
      have h : ∀ z : Nat → Int, (det n fun k r => stc C j z (skp j k) (r + 1)) = det n fun k r => C (skp j k) (r + 1) := fun z =>
        det_congr fun k r _ _ => stc_ne _ _ _ (skp_ne j k)
      rw [h, h, h]; grind
    · obtain ⟨i', hi', ei⟩ := skp_of hi hj (fun z => e z.symm)
      have h : ∀ z : Nat → Int, (det n fun k r => stc C i z (skp j k) (r + 1)) = det n (stc (fun k r => C (skp j k) (r + 1)) i' fun r => z (r + 1)) := fun z =>
        det_congr fun k r _ _ => by
          by_cases q : k = i'
          · subst q; rw [ei, stc_same, stc_same]
          · rw [stc_ne _ _ _ q, stc_ne]
            intro y; rw [← ei] at y; exact q (skp_inj y)
      rw [stc_ne _ _ _ e, stc_ne _ _ _ e, stc_ne _ _ _ e, h, h, h, det_lin _ hi' a b (fun r => u (r + 1)) fun r => v (r + 1)]
      grind
theorem sg_succ (j : Nat) : sg (j + 1) = - sg j := by
  unfold sg
  split <;> split <;> first | rfl | omega
/-- two like columns side by side -/
theorem det_adj : ∀ {n : Nat} (C : Nat → Nat → Int) {i : Nat}, i + 1 < n → (∀ r, r < n → C i r = C (i + 1) r) → det n C = 0
  | 0, _, _, hi, _ => by omega
  | n + 1, C, i, hi, h => by
    rw [det_succ, sm_two (i := i) (j := i + 1) (by omega) (by omega) (by omega)]
    · rw [sg_succ, h 0 (by omega)]
      have e : (det n fun k r => C (skp i k) (r + 1)) = det n fun k r => C (skp (i + 1) k) (r + 1) := det_congr fun k r hk hr => by
        by_cases q : k = i
        · subst q
          have e1 : skp k k = k + 1 := by unfold skp; rw [if_neg (by omega)]
          have e2 : skp (k + 1) k = k := by unfold skp; rw [if_pos (by omega)]
          rw [e1, e2, h (r + 1) (by omega)]
        · have e1 : skp i k = skp (i + 1) k := by unfold skp; split <;> split <;> omega
          rw [e1]
      rw [e]; grind
    · intro j hj h1 h2
      rw [show (det n fun k r => C (skp j k) (r + 1)) = 0 from ?_, Int.mul_zero]
      by_cases q : j < i
      · exact det_adj _ (i := i - 1) (by omega) fun r hr => by
          have e1 : skp j (i - 1) = i := by unfold skp; rw [if_neg (by omega)]; omega
          have e2 : skp j (i - 1 + 1) = i + 1 := by unfold skp; rw [if_neg (by omega)]; omega
          rw [e1, e2, h (r + 1) (by omega)]
      · exact det_adj _ (i := i) (by omega) fun r hr => by
          have e1 : skp j i = i := by unfold skp; rw [if_pos (by omega)]
          have e2 : skp j (i + 1) = i + 1 := by unfold skp; rw [if_pos (by omega)]
          rw [e1, e2, h (r + 1) (by omega)]
theorem stc_stc (C : Nat → Nat → Int) (i : Nat) (u v : Nat → Int) : stc (stc C i u) i v = stc C i v := by
  funext k r; unfold stc; split <;> rfl
theorem stc_comm (C : Nat → Nat → Int) {i j : Nat} (u v : Nat → Int) (h : i ≠ j) : stc (stc C i u) j v = stc (stc C j v) i u := by
  funext k r; unfold stc; split <;> split <;> first | rfl | omega
theorem stc_self (C : Nat → Nat → Int) (i : Nat) : stc C i (C i) = C := by
  funext k r; unfold stc; split
  · rename_i h; rw [h]
  · rfl
theorem det_add {n : Nat} (C : Nat → Nat → Int) {i : Nat} (hi : i < n) (u v : Nat → Int) : det n (stc C i fun r => u r + v r) = det n (stc C i u) + det n (stc C i v) := by
  have := det_lin C hi 1 1 u v
  simpa using this
theorem det_addl {n : Nat} (C : Nat → Nat → Int) {i j : Nat} (hi : i < n) (hij : i ≠ j) (u v b : Nat → Int) :
    det n (stc (stc C i fun r => u r + v r) j b) = det n (stc (stc C i u) j b) + det n (stc (stc C i v) j b) := by
  rw [stc_comm C _ b hij, det_add _ hi, stc_comm C u b hij, stc_comm C v b hij]
theorem det_swap0 {n : Nat} (C : Nat → Nat → Int) {i j : Nat} (hi : i < n) (hj : j < n) (hij : i ≠ j) (u v : Nat → Int)
    (z : ∀ x : Nat → Int, det n (stc (stc C i x) j x) = 0) : det n (stc (stc C i u) j v) = - det n (stc (stc C i v) j u) := by
  have h := z fun r => u r + v r
  rw [det_addl C hi hij, det_add _ hj, det_add _ hj, z, z] at h
  omega
/-- two columns side by side exchanged -/
theorem det_swap1 {n : Nat} (C : Nat → Nat → Int) {i : Nat} (hi : i + 1 < n) (u v : Nat → Int) : det n (stc (stc C i u) (i + 1) v) = - det n (stc (stc C i v) (i + 1) u) :=
  det_swap0 C (by omega) hi (by omega) u v fun x => det_adj _ hi fun r _ => by
    rw [stc_same, stc_ne _ _ _ (by omega), stc_same]
/-- two like columns -/
theorem det_alt : ∀ (g : Nat) {n : Nat} (C : Nat → Nat → Int) {i : Nat}, i + g + 1 < n → (∀ r, r < n → C i r = C (i + g + 1) r) → det n C = 0
  | 0, _, C, _, hi, h => det_adj C hi h
  | g + 1, n, C, i, hi, h => by
    have e : C = stc (stc C (i + g + 1) (C (i + g + 1))) (i + g + 1 + 1) (C (i + g + 1 + 1)) := by rw [stc_self, stc_self]
    rw [e, det_swap1 C (by omega), det_alt g (i := i)]
    · rfl
    · omega
    · intro r hr
      rw [stc_ne _ _ _ (by omega), stc_ne _ _ _ (by omega), stc_ne _ _ _ (by omega), stc_same]
      exact h r hr
theorem det_like {n : Nat} (C : Nat → Nat → Int) {i j : Nat} (hi : i < n) (hj : j < n) (hij : i ≠ j) (h : ∀ r, r < n → C i r = C j r) : det n C = 0 := by
  rcases Nat.lt_or_gt_of_ne hij with q | q
  · exact det_alt (j - i - 1) C (i := i) (by omega) fun r hr => by
      have e : i + (j - i - 1) + 1 = j := by omega
      rw [e]; exact h r hr
  · exact det_alt (i - j - 1) C (i := j) (by omega) fun r hr => by
      have e : j + (i - j - 1) + 1 = i := by omega
      rw [e]; exact (h r hr).symm
/-- two columns exchanged -/
theorem det_swap {n : Nat} (C : Nat → Nat → Int) {i j : Nat} (hi : i < n) (hj : j < n) (hij : i ≠ j) (u v : Nat → Int) : det n (stc (stc C i u) j v) = - det n (stc (stc C i v) j u) :=
  det_swap0 C hi hj hij u v fun x => det_like _ hi hj hij fun r _ => by
    rw [stc_same, stc_ne _ _ _ hij, stc_same]
/-- a sum in column i -/
theorem det_sum {n : Nat} (C : Nat → Nat → Int) {i : Nat} (hi : i < n) (a : Nat → Int) (u : Nat → Nat → Int) : ∀ m : Nat,
    det n (stc C i fun r => sm m fun k => a k * u k r) = sm m fun k => a k * det n (stc C i (u k))
  | 0 => by
    have h := det_lin C hi 0 0 (fun _ => 0) fun _ => 0
    simp only [Int.zero_mul, Int.add_zero] at h
    exact h
  | m + 1 => by
    have h := det_lin C hi 1 (a m) (fun r => sm m fun k => a k * u k r) (u m)
    rw [det_sum C hi a u m] at h
    rw [sm_succ]
    rw [Int.one_mul] at h
    rw [← h]
    refine det_congr fun k r _ _ => ?_
    unfold stc
    split
    · show sm (m + 1) (fun k => a k * u k r) = 1 * sm m (fun k => a k * u k r) + a m * u m r
      rw [sm_succ]; omega
    · rfl
theorem det_scale {n : Nat} (C : Nat → Nat → Int) {i : Nat} (hi : i < n) (a : Int) (u : Nat → Int) : det n (stc C i fun r => a * u r) = a * det n (stc C i u) := by
  have h := det_lin C hi a 0 u u
  simp only [Int.zero_mul, Int.add_zero] at h
  exact h
theorem det_id : ∀ n : Nat, (det n fun k r => if k = r then 1 else 0) = 1
  | 0 => rfl
  | n + 1 => by
    rw [det_succ, sm_one (i := 0) (by omega)]
    · have e : (det n fun k r => if skp 0 k = r + 1 then (1 : Int) else 0) = det n fun k r => if k = r then (1 : Int) else 0 := det_congr fun k r _ _ => by
        have : skp 0 k = k + 1 := by unfold skp; rw [if_neg (by omega)]
        rw [this]
        by_cases q : k = r
        · rw [if_pos q, if_pos (by omega)]
        · rw [if_neg q, if_neg (by omega)]
      rw [e, det_id n, if_pos rfl]; rfl
    · intro k hk h
      rw [if_neg h]; simp
def fac : Nat → Nat
  | 0 => 1
  | n + 1 => (n + 1) * fac n
theorem det_bound (b : Nat) : ∀ {n : Nat} {C : Nat → Nat → Int}, (∀ k r, k < n → r < n → (C k r).natAbs ≤ b) → (det n C).natAbs ≤ fac n * b ^ n
  | 0, _, _ => by simp [det, fac]
  | n + 1, C, h => by
    rw [det_succ]
    have e : fac (n + 1) * b ^ (n + 1) = (n + 1) * (fac n * b ^ n * b) := by
      simp only [fac, Nat.pow_succ, Nat.mul_assoc]
    rw [e]
    refine sm_abs fun j hj => ?_
    have h1 := det_bound b (n := n) (C := fun k r => C (skp j k) (r + 1)) fun k r hk hr => h _ _ (skp_lt (by omega) hk) (by omega)
    have h2 := h j 0 hj (by omega)
    have h3 : (sg j).natAbs = 1 := by unfold sg; split <;> rfl
    rw [Int.natAbs_mul, Int.natAbs_mul, h3, Nat.one_mul, Nat.mul_comm]
    exact Nat.mul_le_mul h1 h2
end TN
set_option linter.unusedVariables false
set_option maxHeartbeats 4000000
/-! M2: the integer tableau: L its lines at first (m rows, two lines under them; w places, m helpers, the amount), T the lines now, be the base, d the bottom. -/
namespace TN
structure Tb where
  T : Nat → Nat → Int
  be : Nat → Nat
  d : Int
/-- the base's columns, and two of the lines under the rows -/
def Bs (L : Nat → Nat → Int) (m : Nat) (be : Nat → Nat) : Nat → Nat → Int := fun k r => if k < m then L r (be k) else if k = r then 1 else 0
theorem Bs_lt {L : Nat → Nat → Int} {m : Nat} {be : Nat → Nat} {k : Nat} (h : k < m) (r : Nat) : Bs L m be k r = L r (be k) := by unfold Bs; rw [if_pos h]
theorem Bs_ge {L : Nat → Nat → Int} {m : Nat} {be : Nat → Nat} {k : Nat} (h : ¬ k < m) (r : Nat) : Bs L m be k r = if k = r then 1 else 0 := by unfold Bs; rw [if_neg h]
structure Iv (m w : Nat) (L : Nat → Nat → Int) (S : Tb) : Prop where
  pos : 0 < S.d
  col : ∀ k j, k < m + 2 → j < w + m + 1 → S.d * L k j = sm (m + 2) fun i => S.T i j * Bs L m S.be i k
  sgn : ∃ s : Int, (s = 1 ∨ s = -1) ∧ S.d = s * det (m + 2) (Bs L m S.be)
  bas : ∀ i, i < m → S.be i < w + m
/-- the helpers' columns -/
def Hlp (m w : Nat) (L : Nat → Nat → Int) : Prop := ∀ k r, k < m → r < m + 2 → L r (w + k) = if r = k then 1 else 0
theorem cancel {d a b : Int} (h : 0 < d) (e : d * a = d * b) : a = b := Int.eq_of_mul_eq_mul_left (by omega) e
section
variable {m w : Nat} {L : Nat → Nat → Int} {S : Tb}
theorem Iv.cram (I : Iv m w L S) {s : Int} (hs : s = 1 ∨ s = -1) (e : S.d = s * det (m + 2) (Bs L m S.be)) {i j : Nat} (hi : i < m + 2) (hj : j < w + m + 1) :
    S.T i j = s * det (m + 2) (stc (Bs L m S.be) i fun r => L r j) := by
  have h1 := det_scale (Bs L m S.be) hi S.d fun r => L r j
  have h2 : det (m + 2) (stc (Bs L m S.be) i fun r => S.d * L r j) = S.T i j * det (m + 2) (Bs L m S.be) := by
    rw [det_congr (D := stc (Bs L m S.be) i fun r => sm (m + 2) fun k => S.T k j * Bs L m S.be k r) fun k r hk hr => ?_, det_sum _ hi, sm_one hi]
    · rw [stc_self]
    · intro k hk h
      rw [det_like _ hk hi h fun r _ => by rw [stc_ne _ _ _ h, stc_same], Int.mul_zero]
    · unfold stc
      split
      · exact I.col r j hr hj
      · rfl
  rw [h1] at h2
  refine cancel I.pos ?_
  have : S.d * (s * det (m + 2) (stc (Bs L m S.be) i fun r => L r j)) = s * (S.d * det (m + 2) (stc (Bs L m S.be) i fun r => L r j)) := by grind
  rw [this, h2]
  have : s * (S.T i j * det (m + 2) (Bs L m S.be)) = S.T i j * (s * det (m + 2) (Bs L m S.be)) := by grind
  rw [this, ← e, Int.mul_comm]
/-- the base's columns are units -/
theorem Iv.unit (I : Iv m w L S) {i k : Nat} (hi : i < m + 2) (hk : k < m) : S.T i (S.be k) = if i = k then S.d else 0 := by
  obtain ⟨s, hs, e⟩ := I.sgn
  have hb := I.bas k hk
  rw [I.cram hs e hi (by omega)]
  have e1 : ∀ r, L r (S.be k) = Bs L m S.be k r := fun r => by unfold Bs; rw [if_pos hk]
  split
  · rename_i h
    subst h
    rw [e]
    congr 1
    refine det_congr fun k r _ _ => ?_
    unfold stc
    split
    · rename_i q; rw [q]; exact e1 r
    · rfl
  · rename_i h
    rw [det_like _ (show k < m + 2 by omega) hi (fun z => h z.symm) fun r _ => by rw [stc_ne _ _ _ (fun z => h z.symm), stc_same]; exact (e1 r).symm]
    exact Int.mul_zero _
/-- each line is made of the lines at first, by the helpers' columns -/
theorem Iv.row (I : Iv m w L S) (hL : Hlp m w L) {i j : Nat} (hi : i < m + 2) (hj : j < w + m + 1) :
    S.T i j = (sm m fun k => S.T i (w + k) * L k j) + if m ≤ i then S.d * L i j else 0 := by
  obtain ⟨s, hs, e⟩ := I.sgn
  have h1 : det (m + 2) (stc (Bs L m S.be) i fun r => L r j) = sm (m + 2) fun k => L k j * det (m + 2) (stc (Bs L m S.be) i fun r => if r = k then 1 else 0) := by
    rw [det_congr (D := stc (Bs L m S.be) i fun r => sm (m + 2) fun k => L k j * (if r = k then 1 else 0)) fun k r hk hr => ?_, det_sum _ hi (fun k => L k j) fun k r => if r = k then 1 else 0]
    unfold stc
    split
    · show L r j = sm (m + 2) fun k => L k j * (if r = k then 1 else 0)
      rw [sm_one hr fun k _ h => by rw [if_neg (fun z => h z.symm), Int.mul_zero], if_pos rfl, Int.mul_one]
    · rfl
  rw [I.cram hs e hi hj, h1, ← sm_mul, sm_app]
  congr 1
  · refine sm_congr fun k hk => ?_
    have h2 : det (m + 2) (stc (Bs L m S.be) i fun r => L r (w + k)) = det (m + 2) (stc (Bs L m S.be) i fun r => if r = k then 1 else 0) := det_congr fun a r _ hr => by
      unfold stc
      split
      · exact hL k r hk hr
      · rfl
    rw [I.cram hs e hi (by omega : w + k < w + m + 1), h2]
    grind
  · have h3 : ∀ k, m ≤ k → k < m + 2 → s * det (m + 2) (stc (Bs L m S.be) i fun r => if r = k then 1 else 0) = if k = i then S.d else 0 := fun k h1 h2 => by
      have e1 : ∀ r, (if r = k then (1 : Int) else 0) = Bs L m S.be k r := fun r => by
        rw [Bs_ge (by omega)]
        by_cases q : r = k
        · rw [if_pos q, if_pos q.symm]
        · rw [if_neg q, if_neg fun z => q z.symm]
      split
      · rename_i q
        subst q
        rw [e]
        congr 1
        refine det_congr fun a r _ _ => ?_
        unfold stc
        split
        · rename_i q; rw [q]; exact e1 r
        · rfl
      · rename_i q
        rw [det_like _ h2 hi q fun r _ => by rw [stc_ne _ _ _ q, stc_same]; exact (e1 r).symm]
        exact Int.mul_zero _
    have h4 : ∀ k, m ≤ k → k < m + 2 → s * (L k j * det (m + 2) (stc (Bs L m S.be) i fun r => if r = k then 1 else 0)) = L k j * if k = i then S.d else 0 := fun k h1 h2 => by
      rw [← h3 k h1 h2]; grind
    rw [sm_succ, sm_succ, sm_zero, h4 _ (by omega) (by omega), h4 _ (by omega) (by omega)]
    by_cases q : m ≤ i
    · rw [if_pos q]
      have : i = m ∨ i = m + 1 := by omega
      rcases this with rfl | rfl
      · simp [Int.mul_comm]
      · simp [Int.mul_comm]
    · rw [if_neg q]
      rw [if_neg (by omega), if_neg (by omega)]
      simp
/-- one step: row r, place q; sg the sign by which the row is turned -/
structure Piv (m w : Nat) (S S' : Tb) (r q : Nat) (s : Int) : Prop where
  hr : r < m
  hq : q < w + m
  hs : s = 1 ∨ s = -1
  d : S'.d = s * S.T r q
  ds : 0 < S'.d
  ber : S'.be r = q
  be : ∀ k, k < m → k ≠ r → S'.be k = S.be k
  tr : ∀ j, j < w + m + 1 → S'.T r j = s * S.T r j
  t : ∀ i j, i < m + 2 → i ≠ r → j < w + m + 1 → S'.T i j = (S.T i j * S'.d - S.T i q * (s * S.T r j)) / S.d
theorem Piv.base {S' : Tb} {r q : Nat} {s : Int} (p : Piv m w S S' r q s) {k x : Nat} : k < m + 2 → Bs L m S'.be k x = stc (Bs L m S.be) r (fun x => L x q) k x := fun hk => by
  by_cases e : k = r
  · subst e
    rw [stc_same, Bs_lt p.hr, p.ber]
  · rw [stc_ne _ _ _ e]
    by_cases h : k < m
    · rw [Bs_lt h, Bs_lt h, p.be k h e]
    · rw [Bs_ge h, Bs_ge h]
/-- the division goes out -/
theorem Piv.exact {S' : Tb} {r q : Nat} {s : Int} (I : Iv m w L S) (p : Piv m w S S' r q s) {i j : Nat} (hi : i < m + 2) (hir : i ≠ r) (hj : j < w + m + 1) :
    S.d * S'.T i j = S.T i j * S'.d - S.T i q * (s * S.T r j) := by
  obtain ⟨u, hu, e⟩ := I.sgn
  have hr := p.hr
  have hq := p.hq
  have uu : u * u = 1 := by rcases hu with h | h <;> rw [h] <;> rfl
  have ss : s * s = 1 := by rcases p.hs with h | h <;> rw [h] <;> rfl
  generalize hC : stc (Bs L m S.be) r (fun x => L x q) = C
  have dC : u * det (m + 2) C = S.T r q := by rw [← hC, ← I.cram hu e (by omega) (by omega)]
  have h1 := det_scale C hi S.d fun r => L r j
  have h2 : det (m + 2) (stc C i fun x => S.d * L x j) = S.T i j * det (m + 2) C - S.T r j * det (m + 2) (stc (Bs L m S.be) i fun x => L x q) := by
    rw [det_congr (D := stc C i fun x => sm (m + 2) fun k => S.T k j * Bs L m S.be k x) fun k r hk hr => ?_, det_sum _ hi, sm_two hi (show r < m + 2 by omega) hir]
    · have e1 : det (m + 2) (stc C i (Bs L m S.be i)) = det (m + 2) C := by
        refine det_congr fun k x _ _ => ?_
        unfold stc
        split
        · rename_i z; rw [z, ← hC, stc_ne _ _ _ hir]
        · rfl
      have e2 : det (m + 2) (stc C i (Bs L m S.be r)) = - det (m + 2) (stc (Bs L m S.be) i fun x => L x q) := by
        rw [← hC, det_swap _ (by omega) hi hir.symm]
        congr 2
        rw [stc_comm _ _ _ hir.symm]
        have : stc (stc (Bs L m S.be) i fun x => L x q) r (Bs L m S.be r) = stc (Bs L m S.be) i fun x => L x q := by
          rw [stc_comm _ _ _ hir, stc_self]
        rw [this]
      rw [e1, e2]
      grind
    · intro k hk h1 h2
      rw [det_like _ hk hi h1 fun x _ => by rw [stc_ne _ _ _ h1, stc_same, ← hC, stc_ne _ _ _ h2], Int.mul_zero]
    · unfold stc
      split
      · exact I.col r j hr hj
      · rfl
  rw [h1] at h2
  have h3 := I.cram hu e hi (show q < w + m + 1 by omega)
  have h4 : S.T i j * S'.d - S.T i q * (s * S.T r j) = S.d * (s * u * det (m + 2) (stc C i fun x => L x j)) := by
    have : S.d * (s * u * det (m + 2) (stc C i fun x => L x j)) = s * u * (S.d * det (m + 2) (stc C i fun x => L x j)) := by grind
    rw [this, h2, p.d, ← dC]
    have h5 : u * det (m + 2) (stc (Bs L m S.be) i fun x => L x q) = S.T i q := h3.symm
    rw [← h5]
    grind
  rw [p.t i j hi hir hj, h4, Int.mul_ediv_cancel_left _ (by have := I.pos; omega)]
theorem Piv.inv {S' : Tb} {r q : Nat} {s : Int} (I : Iv m w L S) (p : Piv m w S S' r q s) : Iv m w L S' := by
  have hr := p.hr
  have hq := p.hq
  have ss : s * s = 1 := by rcases p.hs with h | h <;> rw [h] <;> rfl
  refine ⟨p.ds, fun k j hk hj => ?_, ?_, fun i hi => ?_⟩
  · have h1 : S.d * (sm (m + 2) fun i => S'.T i j * Bs L m S'.be i k) = S.d * (S'.d * L k j) := by
      have e1 : (sm (m + 2) fun i => S.d * (S'.T i j * Bs L m S'.be i k)) = sm (m + 2) fun i => (S'.d * (S.T i j * Bs L m S.be i k) - s * S.T r j * (S.T i q * Bs L m S.be i k)) + (if i = r then S.d * (s * S.T r j) * L k q else 0) := by
        refine sm_congr fun i hi => ?_
        rw [p.base hi]
        by_cases e : i = r
        · subst e
          rw [stc_same, if_pos rfl, p.tr j hj, p.d]
          grind
        · rw [stc_ne _ _ _ e, if_neg e]
          have := p.exact I hi e hj
          grind
      rw [← sm_mul, e1, sm_add, sm_sub, sm_mul, sm_mul, ← I.col k j hk hj, ← I.col k q hk (by omega), sm_one (i := r) (by omega) fun k _ h => if_neg h, if_pos rfl]
      grind
    exact (cancel I.pos h1).symm
  · obtain ⟨u, hu, e⟩ := I.sgn
    refine ⟨s * u, ?_, ?_⟩
    · rcases p.hs with h | h <;> rcases hu with h' | h' <;> rw [h, h'] <;> decide
    · have e1 := I.cram hu e (i := r) (j := q) (by omega) (by omega)
      rw [det_congr (D := stc (Bs L m S.be) r fun x => L x q) fun k x hk _ => p.base hk, p.d, e1]
      grind
  · by_cases e : i = r
    · subst e; rw [p.ber]; exact hq
    · rw [p.be i hi e]; exact I.bas i hi
/-- how great what stands there can be -/
theorem Iv.size (I : Iv m w L S) {b : Nat} (hb : 1 ≤ b) (h : ∀ i j, i < m + 2 → j < w + m + 1 → (L i j).natAbs ≤ b) {i j : Nat} (hi : i < m + 2) (hj : j < w + m + 1) :
    (S.T i j).natAbs ≤ fac (m + 2) * b ^ (m + 2) := by
  obtain ⟨s, hs, e⟩ := I.sgn
  rw [I.cram hs e hi hj, Int.natAbs_mul]
  have : s.natAbs = 1 := by rcases hs with h | h <;> rw [h] <;> rfl
  rw [this, Nat.one_mul]
  refine det_bound b fun k r hk hr => ?_
  unfold stc Bs
  split
  · exact h r j hr hj
  · split
    · rename_i hk'
      have := I.bas k hk'
      exact h r _ hr (by omega)
    · split <;> simp <;> omega
theorem Iv.sizeD (I : Iv m w L S) {b : Nat} (hb : 1 ≤ b) (h : ∀ i j, i < m + 2 → j < w + m + 1 → (L i j).natAbs ≤ b) : S.d.natAbs ≤ fac (m + 2) * b ^ (m + 2) := by
  obtain ⟨s, hs, e⟩ := I.sgn
  rw [e, Int.natAbs_mul]
  have : s.natAbs = 1 := by rcases hs with h | h <;> rw [h] <;> rfl
  rw [this, Nat.one_mul]
  refine det_bound b fun k r hk hr => ?_
  unfold Bs
  split
  · rename_i hk'
    have := I.bas k hk'
    exact h r _ hr (by omega)
  · split <;> simp <;> omega
/-- at first -/
theorem Iv.first (hL : Hlp m w L) : Iv m w L ⟨L, fun k => w + k, 1⟩ := by
  have hB : ∀ i k, i < m + 2 → k < m + 2 → Bs L m (fun k => w + k) i k = if i = k then 1 else 0 := fun i k hi hk => by
    unfold Bs
    split
    · rename_i h
      show L k (w + i) = _
      rw [hL i k h hk]
      by_cases q : k = i
      · rw [if_pos q, if_pos q.symm]
      · rw [if_neg q, if_neg fun z => q z.symm]
    · rfl
  refine ⟨by show (0 : Int) < 1; decide, fun k j hk hj => ?_, ⟨1, .inl rfl, ?_⟩, fun i hi => by show w + i < w + m; omega⟩
  · show 1 * L k j = sm (m + 2) fun i => L i j * Bs L m (fun k => w + k) i k
    rw [sm_one (i := k) hk fun i hi h => by rw [hB i k hi hk, if_neg h, Int.mul_zero], hB k k hk hk, if_pos rfl]
    omega
  · show (1 : Int) = 1 * det (m + 2) (Bs L m fun k => w + k)
    rw [det_congr (D := fun k r => if k = r then 1 else 0) fun k r hk hr => hB k r hk hr, det_id]
    rfl
end
end TN
set_option linter.unusedVariables false
set_option maxHeartbeats 4000000
/-! M3: the steps by the rule end. -/
namespace TN
/-- a step by the rule, for the line o -/
structure BSt (m w o : Nat) (S S' : Tb) (r q : Nat) : Prop where
  piv : Piv m w S S' r q 1
  qw : q < w
  neg : S.T o q < 0
  first : ∀ j, j < q → 0 ≤ S.T o j
  pos : 0 < S.T r q
  least : ∀ i, i < m → 0 < S.T i q → S.T r (w + m) * S.T i q < S.T i (w + m) * S.T r q ∨ (S.T r (w + m) * S.T i q = S.T i (w + m) * S.T r q ∧ S.be r ≤ S.be i)
def NonNeg (m w : Nat) (S : Tb) : Prop := ∀ i, i < m → 0 ≤ S.T i (w + m)
section
variable {m w o : Nat} {L : Nat → Nat → Int} {S S' : Tb} {r q : Nat}
theorem BSt.dd (b : BSt m w o S S' r q) : S'.d = S.T r q := by rw [b.piv.d, Int.one_mul]
theorem nonneg_div {d x y : Int} (hd : 0 < d) (e : d * x = y) (hy : 0 ≤ y) : 0 ≤ x := by
  by_cases h : 0 ≤ x
  · exact h
  · have : d * x < 0 := by
      have h1 : 0 < d * (-x) := Int.mul_pos hd (by omega)
      rw [Int.mul_neg] at h1; omega
    omega
theorem zero_div {d x : Int} (hd : 0 < d) (e : d * x = 0) : x = 0 := by
  rcases Int.mul_eq_zero.mp e with h | h
  · omega
  · exact h
theorem pos_mul_neg {d x : Int} (hd : 0 < d) (hx : x < 0) : d * x < 0 := by
  have h1 : 0 < d * (-x) := Int.mul_pos hd (by omega)
  rw [Int.mul_neg] at h1; omega
theorem BSt.exact (I : Iv m w L S) (b : BSt m w o S S' r q) {i j : Nat} (hi : i < m + 2) (hir : i ≠ r) (hj : j < w + m + 1) :
    S.d * S'.T i j = S.T i j * S.T r q - S.T i q * S.T r j := by
  have := b.piv.exact I hi hir hj
  rw [b.dd, Int.one_mul] at this
  exact this
theorem BSt.nonneg (I : Iv m w L S) (N : NonNeg m w S) (b : BSt m w o S S' r q) : NonNeg m w S' := fun i hi => by
  by_cases e : i = r
  · subst e
    rw [b.piv.tr _ (by omega), Int.one_mul]
    exact N i hi
  · refine nonneg_div I.pos (b.exact I (by omega) e (by omega)) ?_
    have h1 := N i hi
    have h2 := N r b.piv.hr
    have h3 := b.pos
    have h4 : 0 ≤ S.T i (w + m) * S.T r q := Int.mul_nonneg h1 (by omega)
    by_cases h : 0 < S.T i q
    · have h5 : S.T i q * S.T r (w + m) = S.T r (w + m) * S.T i q := Int.mul_comm _ _
      rcases b.least i hi h with z | ⟨z, _⟩ <;> omega
    · have h5 : 0 ≤ (-S.T i q) * S.T r (w + m) := Int.mul_nonneg (by omega) h2
      rw [Int.neg_mul] at h5
      omega
/-- the lines at first of two states, by a column of the one and a line of the other -/
theorem pairing (hL : Hlp m w L) (I : Iv m w L S) (I' : Iv m w L S') (h1 : m ≤ o) (h2 : o < m + 2) {j : Nat} (hj : j < w + m + 1) :
    (sm m fun i => S.T i j * S'.T o (S.be i)) = S.d * S'.T o j - S'.d * S.T o j := by
  have c : ∀ k, k < m + 2 → (sm m fun i => S.T i j * L k (S.be i)) = S.d * L k j - if m ≤ k then S.T k j else 0 := fun k hk => by
    have e := I.col k j hk hj
    rw [sm_app, sm_congr (g := fun i => S.T i j * L k (S.be i)) fun i hi => by rw [Bs_lt hi]] at e
    rw [sm_succ, sm_succ, sm_zero, Bs_ge (by omega), Bs_ge (by omega)] at e
    by_cases z : m ≤ k
    · rw [if_pos z]
      have : k = m ∨ k = m + 1 := by omega
      rcases this with rfl | rfl
      · rw [if_pos (by omega), if_neg (by omega)] at e
        simp at e
        omega
      · rw [if_neg (by omega), if_pos (by omega)] at e
        simp at e
        omega
    · rw [if_neg z]
      rw [if_neg (by omega), if_neg (by omega)] at e
      simp at e
      omega
  have e1 : (sm m fun i => S.T i j * S'.T o (S.be i)) = sm m fun i => (sm m fun k => S'.T o (w + k) * (S.T i j * L k (S.be i))) + S'.d * (S.T i j * L o (S.be i)) := sm_congr fun i hi => by
    have hb := I.bas i hi
    rw [I'.row hL h2 (show S.be i < w + m + 1 by omega), if_pos h1, Int.mul_add, ← sm_mul]
    congr 1
    · exact sm_congr fun k _ => by grind
    · grind
  rw [e1, sm_add, sm_comm, sm_mul, c o h2, if_pos h1]
  have e2 : (sm m fun k => sm m fun i => S'.T o (w + k) * (S.T i j * L k (S.be i))) = S.d * sm m fun k => S'.T o (w + k) * L k j := by
    rw [← sm_mul]
    refine sm_congr fun k hk => ?_
    rw [sm_mul, c k (by omega), if_neg (by omega)]
    grind
  rw [e2, I'.row hL h2 hj, if_pos h1]
  grind
theorem Iv.inj (I : Iv m w L S) {i k : Nat} (hi : i < m) (hk : k < m) (e : S.be i = S.be k) : i = k := by
  have h1 := I.unit (i := i) (k := i) (by omega) hi
  have h2 := I.unit (i := i) (k := k) (by omega) hk
  rw [e, if_pos rfl] at h1
  rw [h1] at h2
  by_cases z : i = k
  · exact z
  · rw [if_neg z] at h2
    have := I.pos
    omega
end
theorem frac_trans {a b c d e f : Int} (hb : 0 < b) (hd : 0 < d) (hf : 0 < f) (h1 : a * d ≤ c * b) (h2 : c * f ≤ e * d) : a * f ≤ e * b := by
  have h3 : a * d * f ≤ c * b * f := Int.mul_le_mul_of_nonneg_right h1 (by omega)
  have h4 : c * f * b ≤ e * d * b := Int.mul_le_mul_of_nonneg_right h2 (by omega)
  have h5 : (a * f) * d ≤ (e * b) * d := by grind
  exact Int.le_of_mul_le_mul_right h5 hd
theorem exists_max (f : Nat → Nat) : ∀ n, 0 < n → ∃ v, v < n ∧ ∀ k, k < n → f k ≤ f v
  | 0, h => by omega
  | 1, _ => ⟨0, by omega, fun k hk => by rw [show k = 0 by omega]; exact Nat.le_refl _⟩
  | n + 2, _ => by
    obtain ⟨v, hv, h⟩ := exists_max f (n + 1) (by omega)
    by_cases z : f (n + 1) ≤ f v
    · exact ⟨v, by omega, fun k hk => by
        by_cases e : k = n + 1
        · rw [e]; exact z
        · exact h k (by omega)⟩
    · exact ⟨n + 1, by omega, fun k hk => by
        by_cases e : k = n + 1
        · rw [e]; exact Nat.le_refl _
        · have := h k (by omega); omega⟩
section
variable {m w o n : Nat} {L : Nat → Nat → Int} {s : Nat → Tb} {r q : Nat → Nat}
theorem run_inv (I0 : Iv m w L (s 0)) (st : ∀ k, k < n → BSt m w o (s k) (s (k + 1)) (r k) (q k)) : ∀ k, k ≤ n → Iv m w L (s k)
  | 0, _ => I0
  | k + 1, h => (st k (by omega)).piv.inv (run_inv I0 st k (by omega))
theorem run_nonneg (I0 : Iv m w L (s 0)) (N0 : NonNeg m w (s 0)) (st : ∀ k, k < n → BSt m w o (s k) (s (k + 1)) (r k) (q k)) : ∀ k, k ≤ n → NonNeg m w (s k)
  | 0, _ => N0
  | k + 1, h => (st k (by omega)).nonneg (run_inv I0 st k (by omega)) (run_nonneg I0 N0 st k (by omega))
/-- what stands in the base -/
def InB (m : Nat) (S : Tb) (x : Nat) : Prop := ∃ i, i < m ∧ S.be i = x
theorem no_cycle (hL : Hlp m w L) (h1 : m ≤ o) (h2 : o < m + 2) (hn : 0 < n) (I0 : Iv m w L (s 0)) (N0 : NonNeg m w (s 0))
    (st : ∀ k, k < n → BSt m w o (s k) (s (k + 1)) (r k) (q k)) (cyc : ∀ i, i < m → (s n).be i = (s 0).be i) : False := by
  have I := run_inv I0 st
  have N := run_nonneg I0 N0 st
  -- the gain, as a fraction
  have up : ∀ k, k < n → (s k).T o (w + m) * (s (k + 1)).d ≤ (s (k + 1)).T o (w + m) * (s k).d ∧ ((s k).T o (w + m) * (s (k + 1)).d = (s (k + 1)).T o (w + m) * (s k).d → (s k).T (r k) (w + m) = 0) := fun k hk => by
    have b := st k hk
    have e := b.exact (I k (by omega)) h2 (by have := b.piv.hr; omega) (show w + m < w + m + 1 by omega)
    have h3 := N k (by omega) (r k) b.piv.hr
    have h4 := b.neg
    rw [b.dd]
    have h5 : 0 ≤ (-(s k).T o (q k)) * (s k).T (r k) (w + m) := Int.mul_nonneg (by omega) h3
    rw [Int.neg_mul] at h5
    have h6 : (s (k + 1)).T o (w + m) * (s k).d = (s k).d * (s (k + 1)).T o (w + m) := Int.mul_comm _ _
    refine ⟨by omega, fun z => ?_⟩
    have h7 : (s k).T o (q k) * (s k).T (r k) (w + m) = 0 := by omega
    rcases Int.mul_eq_zero.mp h7 with z | z
    · omega
    · exact z
  have mono : ∀ j k, j + k ≤ n → (s j).T o (w + m) * (s (j + k)).d ≤ (s (j + k)).T o (w + m) * (s j).d := fun j k => by
    induction k with
    | zero => intro _; exact Int.le_refl _
    | succ k ih =>
      intro h
      exact frac_trans (I j (by omega)).pos (I (j + k) (by omega)).pos (I (j + k + 1) (by omega)).pos (ih (by omega)) (up (j + k) (by omega)).1
  have same : (s 0).T o (w + m) * (s n).d = (s n).T o (w + m) * (s 0).d := by
    have e := pairing hL I0 (I n (Nat.le_refl _)) h1 h2 (show w + m < w + m + 1 by omega)
    rw [sm_const0 fun i hi => by
      rw [← cyc i hi, (I n (Nat.le_refl _)).unit h2 hi, if_neg (by omega), Int.mul_zero]] at e
    rw [Int.mul_comm ((s n).T o (w + m)), Int.mul_comm ((s 0).T o (w + m))]
    omega
  have still : ∀ k, k < n → (s k).T (r k) (w + m) = 0 := fun k hk => by
    refine (up k hk).2 (Int.le_antisymm (up k hk).1 ?_)
    have a1 := mono 0 k (by omega)
    rw [Nat.zero_add] at a1
    have a2 := mono (k + 1) (n - (k + 1)) (by omega)
    rw [show k + 1 + (n - (k + 1)) = n by omega] at a2
    -- s(k+1) <= s n = s 0 <= s k
    have a3 : (s (k + 1)).T o (w + m) * (s 0).d ≤ (s 0).T o (w + m) * (s (k + 1)).d := frac_trans (I (k + 1) (by omega)).pos (I n (Nat.le_refl _)).pos (I 0 (by omega)).pos a2 (by omega)
    exact frac_trans (I (k + 1) (by omega)).pos (I 0 (by omega)).pos (I k (by omega)).pos a3 a1
  -- what stands in the base at 0 stays so
  have zs : ∀ x k, k < n → ((∀ i, i < m → (s k).be i = x → (s k).T i (w + m) = 0) ↔ ∀ i, i < m → (s (k + 1)).be i = x → (s (k + 1)).T i (w + m) = 0) := fun x k hk => by
    have b := st k hk
    have h3 := still k hk
    have ex : ∀ i, i < m → i ≠ r k → (s k).d * (s (k + 1)).T i (w + m) = (s k).T i (w + m) * (s k).T (r k) (q k) := fun i hi hir => by
      rw [b.exact (I k (by omega)) (by omega) hir (by omega), h3, Int.mul_zero, Int.sub_zero]
    constructor
    · intro z i hi e
      by_cases hir : i = r k
      · rw [hir, b.piv.tr _ (by omega), h3]; rfl
      · refine zero_div (I k (by omega)).pos ?_
        rw [ex i hi hir, z i hi (by rw [← b.piv.be i hi hir]; exact e), Int.zero_mul]
    · intro z i hi e
      by_cases hir : i = r k
      · rw [hir, h3]
      · have h4 := ex i hi hir
        rw [z i hi (by rw [b.piv.be i hi hir]; exact e), Int.mul_zero] at h4
        exact zero_div b.pos (by rw [Int.mul_comm]; exact h4.symm)
  have zall : ∀ x k, k ≤ n → ((∀ i, i < m → (s 0).be i = x → (s 0).T i (w + m) = 0) ↔ ∀ i, i < m → (s k).be i = x → (s k).T i (w + m) = 0) := fun x k => by
    induction k with
    | zero => intro _; exact Iff.rfl
    | succ k ih => intro h; exact (ih (by omega)).trans (zs x k (by omega))
  -- what never comes in is always in or never
  have stays : ∀ x, (∀ k, k < n → q k ≠ x) → ∀ u v, u ≤ n → v ≤ n → InB m (s u) x → InB m (s v) x := fun x hx => by
    have back : ∀ k j, k + j ≤ n → InB m (s (k + j)) x → InB m (s k) x := fun k j => by
      induction j with
      | zero => intro _ h; exact h
      | succ j ih =>
        intro h h3
        refine ih (by omega) ?_
        obtain ⟨i, hi, e⟩ := h3
        have b := st (k + j) (by omega)
        by_cases hir : i = r (k + j)
        · exact absurd (by rw [← b.piv.ber, ← hir]; exact e) (hx (k + j) (by omega))
        · exact ⟨i, hi, by rw [← b.piv.be i hi hir]; exact e⟩
    intro u v hu hv h3
    have h4 : InB m (s 0) x := back 0 u (by omega) (by rw [Nat.zero_add]; exact h3)
    have h5 : InB m (s n) x := by
      obtain ⟨i, hi, e⟩ := h4
      exact ⟨i, hi, by rw [cyc i hi]; exact e⟩
    exact back v (n - v) (by omega) (by rw [show v + (n - v) = n by omega]; exact h5)
  have nin : ∀ k, k < n → ¬ InB m (s k) (q k) := fun k hk => by
    rintro ⟨i, hi, e⟩
    have h3 := (I k (by omega)).unit h2 hi
    rw [e, if_neg (by omega)] at h3
    have := (st k hk).neg
    omega
  have isin : ∀ k, k < n → InB m (s (k + 1)) (q k) := fun k hk => ⟨r k, (st k hk).piv.hr, (st k hk).piv.ber⟩
  obtain ⟨v, hv, top⟩ := exists_max q n hn
  -- the greatest that comes in goes out, too
  have out : ∃ u, u < n ∧ (s u).be (r u) = q v := by
    refine Classical.byContradiction fun hno => ?_
    have fwd : ∀ k j, k + j ≤ n → InB m (s k) (q v) → InB m (s (k + j)) (q v) := fun k j => by
      induction j with
      | zero => intro _ h; exact h
      | succ j ih =>
        intro h h3
        obtain ⟨i, hi, e⟩ := ih (by omega) h3
        have b := st (k + j) (by omega)
        by_cases hir : i = r (k + j)
        · exact absurd ⟨k + j, by omega, by rw [← hir]; exact e⟩ hno
        · exact ⟨i, hi, by rw [show k + (j + 1) = k + j + 1 by omega, b.piv.be i hi hir]; exact e⟩
    have h3 := fwd (v + 1) (n - (v + 1)) (by omega) (isin v hv)
    rw [show v + 1 + (n - (v + 1)) = n by omega] at h3
    have h4 : InB m (s 0) (q v) := by
      obtain ⟨i, hi, e⟩ := h3
      exact ⟨i, hi, by rw [← cyc i hi]; exact e⟩
    have h5 := fwd 0 v (by omega) h4
    rw [Nat.zero_add] at h5
    exact nin v hv h5
  obtain ⟨u, hu, eu⟩ := out
  have bu := st u hu
  have bv := st v hv
  have Iu := I u (by omega)
  have Iv' := I v (by omega)
  have quv : q u < q v := by
    have h3 := top u hu
    have h4 : q u ≠ q v := fun z => nin u hu ⟨r u, bu.piv.hr, by rw [eu, z]⟩
    omega
  have pr := pairing hL Iu Iv' h1 h2 (show q u < w + m + 1 by have := bu.qw; omega)
  have h3 := bv.first (q u) quv
  have h4 : 0 < sm m fun i => (s u).T i (q u) * (s v).T o ((s u).be i) := by
    rw [pr]
    have h5 : 0 ≤ (s u).d * (s v).T o (q u) := Int.mul_nonneg (by have := Iu.pos; omega) h3
    have h6 := pos_mul_neg Iv'.pos bu.neg
    omega
  obtain ⟨i, hi, hp⟩ := sm_expos h4
  have ne0 : (s v).T o ((s u).be i) ≠ 0 := fun z => by rw [z, Int.mul_zero] at hp; omega
  have nv : ¬ InB m (s v) ((s u).be i) := by
    rintro ⟨k, hk, e⟩
    have h5 := Iv'.unit h2 hk
    rw [if_neg (by omega), e] at h5
    exact ne0 h5
  have comes : ∃ k, k < n ∧ q k = (s u).be i := by
    refine Classical.byContradiction fun hno => ?_
    exact nv (stays _ (fun k hk e => hno ⟨k, hk, e⟩) u v (by omega) (by omega) ⟨i, hi, rfl⟩)
  obtain ⟨k, hk, ek⟩ := comes
  have le := top k hk
  have lt : (s u).be i < q v := by
    by_cases z : (s u).be i = q v
    · have e : i = r u := Iu.inj hi bu.piv.hr (by rw [eu]; exact z)
      rw [e, eu] at hp
      have h5 := bv.neg
      have h6 := pos_mul_neg bu.pos h5
      omega
    · omega
  have h7 := bv.first _ lt
  have h8 : 0 < (s u).T i (q u) := by
    by_cases z : 0 < (s u).T i (q u)
    · exact z
    · have h9 : 0 ≤ (-(s u).T i (q u)) * (s v).T o ((s u).be i) := Int.mul_nonneg (by omega) h7
      rw [Int.neg_mul] at h9
      omega
  have h10 : (s u).T i (w + m) = 0 := by
    refine (zall ((s u).be i) u (by omega)).mp ?_ i hi rfl
    refine (zall ((s u).be i) v (by omega)).mpr fun k hk e => ?_
    exact absurd ⟨k, hk, e⟩ nv
  have h11 := still u hu
  rcases bu.least i hi h8 with z | ⟨_, z⟩
  · rw [h10, h11] at z
    simp at z
  · rw [eu] at z
    omega
end
/-- a number for what stands in the base -/
def code (b : Nat) : Nat → (Nat → Nat) → Nat
  | 0, _ => 0
  | n + 1, f => code b n f * b + f n
theorem code_lt {b : Nat} : ∀ {n : Nat} {f : Nat → Nat}, (∀ i, i < n → f i < b) → code b n f < b ^ n
  | 0, _, _ => by simp [code]
  | n + 1, f, h => by
    have h1 := code_lt (n := n) (f := f) fun i hi => h i (by omega)
    have h2 := h n (by omega)
    have h3 : (code b n f + 1) * b ≤ b ^ n * b := Nat.mul_le_mul_right _ h1
    rw [Nat.succ_mul] at h3
    show code b n f * b + f n < b ^ (n + 1)
    rw [Nat.pow_succ]
    omega
theorem code_inj {b : Nat} : ∀ {n : Nat} {f g : Nat → Nat}, (∀ i, i < n → f i < b) → (∀ i, i < n → g i < b) → code b n f = code b n g → ∀ i, i < n → f i = g i
  | 0, _, _, _, _, _ => fun i hi => by omega
  | n + 1, f, g, hf, hg, e => fun i hi => by
    have h1 := hf n (by omega)
    have h2 := hg n (by omega)
    have e' : code b n f * b + f n = code b n g * b + g n := e
    have e1 : f n = g n := by
      have := congrArg (· % b) e'
      simpa [Nat.mul_comm, Nat.mul_add_mod, Nat.mod_eq_of_lt h1, Nat.mod_eq_of_lt h2] using this
    have e2 : code b n f = code b n g := by
      have e3 : code b n f * b = code b n g * b := by omega
      exact Nat.eq_of_mul_eq_mul_right (by omega) e3
    by_cases z : i = n
    · rw [z]; exact e1
    · exact code_inj (fun i hi => hf i (by omega)) (fun i hi => hg i (by omega)) e2 i (by omega)
theorem pigeon : ∀ (M : Nat) (f : Nat → Nat), (∀ k, k ≤ M → f k < M) → ∃ a b, a < b ∧ b ≤ M ∧ f a = f b
  | 0, f, h => absurd (h 0 (by omega)) (by omega)
  | M + 1, f, h => by
    by_cases z : ∃ a, a ≤ M ∧ f a = f (M + 1)
    · obtain ⟨a, ha, e⟩ := z
      exact ⟨a, M + 1, by omega, by omega, e⟩
    · -- move the value f (M+1) out: those equal to M take its place
      obtain ⟨a, b, hab, hb, e⟩ := pigeon M (fun k => if f k = M then f (M + 1) else f k) fun k hk => by
        have h1 := h k (by omega)
        have h2 := h (M + 1) (by omega)
        have h3 : f k ≠ f (M + 1) := fun e => z ⟨k, hk, e⟩
        show (if f k = M then f (M + 1) else f k) < M
        split <;> omega
      refine ⟨a, b, hab, by omega, ?_⟩
      have h3 : f a ≠ f (M + 1) := fun e => z ⟨a, by omega, e⟩
      have h4 : f b ≠ f (M + 1) := fun e => z ⟨b, by omega, e⟩
      have e' : (if f a = M then f (M + 1) else f a) = (if f b = M then f (M + 1) else f b) := e
      split at e' <;> split at e' <;> omega
/-- THE END OF THE STEPS -/
theorem bland {m w o n : Nat} {L : Nat → Nat → Int} {s : Nat → Tb} {r q : Nat → Nat} (hL : Hlp m w L) (h1 : m ≤ o) (h2 : o < m + 2) (I0 : Iv m w L (s 0)) (N0 : NonNeg m w (s 0))
    (st : ∀ k, k < n → BSt m w o (s k) (s (k + 1)) (r k) (q k)) : n < (w + m) ^ m := by
  have I := run_inv I0 st
  refine Classical.byContradiction fun hno => ?_
  obtain ⟨a, b, hab, hb, e⟩ := pigeon ((w + m) ^ m) (fun k => code (w + m) m (s k).be) fun k hk => code_lt (I k (by omega)).bas
  have e' := code_inj (I a (by omega)).bas (I b (by omega)).bas e
  refine no_cycle (n := b - a) (s := fun k => s (a + k)) (r := fun k => r (a + k)) (q := fun k => q (a + k)) hL h1 h2 (by omega) (I a (by omega)) (run_nonneg I0 N0 st a (by omega)) (fun k hk => st (a + k) (by omega)) fun i hi => ?_
  show (s (a + (b - a))).be i = (s (a + 0)).be i
  rw [show a + (b - a) = b by omega]
  exact (e' i hi).symm
end TN
set_option linter.unusedVariables false
set_option maxHeartbeats 4000000
/-! M4: the task by which as many readings as can be are carried: what its end says. -/
namespace TN
/-- the lines at first: t tables, e sides, n readings; f places more (none, or one for each side) -/
structure Tsk (t e n f m w : Nat) (col : Nat → Nat → Int) (L : Nat → Nat → Int) : Prop where
  hm : m = t + e + n
  hw : w = 3 * n + f
  hf : f = 0 ∨ f = e
  hlp : Hlp m w L
  a0 : ∀ k j, k < t + e → j < n → L k j = col j k
  a1 : ∀ k j, k < t + e → j < n → L k (n + j) = col j k
  a2 : ∀ k j, k < t + e → j < n → L k (2 * n + j) = 0
  a3 : ∀ k s, k < t + e → s < f → L k (3 * n + s) = if k = t + s then 1 else 0
  b0 : ∀ i j, i < n → j < n → L (t + e + i) j = if i = j then 1 else 0
  b1 : ∀ i j, i < n → j < n → L (t + e + i) (n + j) = 0
  b2 : ∀ i j, i < n → j < n → L (t + e + i) (2 * n + j) = if i = j then 1 else 0
  b3 : ∀ i s, i < n → s < f → L (t + e + i) (3 * n + s) = 0
  am0 : ∀ k, k < t + e → L k (w + m) = 0
  am1 : ∀ i, i < n → L (t + e + i) (w + m) = 1
  g0 : ∀ j, j < n → L m j = -1
  g1 : ∀ j, n ≤ j → j < w → L m j = 0
  g2 : L m (w + m) = 0
  lk0 : ∀ j, j < w → L (m + 1) j = - sm m fun k => L k j
  lk1 : L (m + 1) (w + m) = - sm m fun k => L k (w + m)
section
variable {t e n f m w : Nat} {col : Nat → Nat → Int} {L : Nat → Nat → Int} {S S' : Tb} {r q : Nat}
/-- a row's helper is out, or there is nothing in it -/
def Empt (m w : Nat) (S : Tb) : Prop := ∀ i, i < m → w ≤ S.be i → S.T i (w + m) = 0
def Clr (m w a : Nat) (S : Tb) : Prop := ∀ i, i < a → w ≤ S.be i → ∀ j, j < w → S.T i j = 0
theorem Iv.colR (I : Iv m w L S) {k j : Nat} (hk : k < m + 2) (hj : j < w + m + 1) : S.d * L k j = (sm m fun i => S.T i j * L k (S.be i)) + if m ≤ k then S.T k j else 0 := by
  have e := I.col k j hk hj
  rw [sm_app, sm_congr (g := fun i => S.T i j * L k (S.be i)) fun i hi => by rw [Bs_lt hi]] at e
  rw [sm_succ, sm_succ, sm_zero, Bs_ge (by omega), Bs_ge (by omega)] at e
  rw [e]
  by_cases z : m ≤ k
  · rw [if_pos z]
    have : k = m ∨ k = m + 1 := by omega
    rcases this with rfl | rfl
    · rw [if_pos (by omega), if_neg (by omega)]; simp
    · rw [if_neg (by omega), if_pos (by omega)]; simp
  · rw [if_neg z, if_neg (by omega), if_neg (by omega)]; simp
/-- phase one ends with helpers of nothing -/
theorem phase1 (K : Tsk t e n f m w col L) (I : Iv m w L S) (N : NonNeg m w S) (opt : ∀ j, j < w → 0 ≤ S.T (m + 1) j) : S.T (m + 1) (w + m) = 0 ∧ Empt m w S := by
  have hm := K.hm
  have hw := K.hw
  have ge : 0 ≤ S.T (m + 1) (w + m) := by
    -- the lacks are 1 each
    have e1 : ∀ k, k < m → (sm n fun i => L k (2 * n + i)) = L k (w + m) := fun k hk => by
      by_cases z : k < t + e
      · rw [K.am0 k z, sm_const0 fun i hi => K.a2 k i z hi]
      · obtain ⟨a, rfl⟩ : ∃ a, k = t + e + a := ⟨k - (t + e), by omega⟩
        rw [K.am1 a (by omega), sm_one (i := a) (by omega) fun i hi h => by rw [K.b2 a i (by omega) hi, if_neg (fun z => h z.symm)], K.b2 a a (by omega) (by omega), if_pos rfl]
    have e2 : (sm n fun i => S.T (m + 1) (2 * n + i)) = S.T (m + 1) (w + m) := by
      rw [sm_congr (g := fun i => (sm m fun k => S.T (m + 1) (w + k) * L k (2 * n + i)) + S.d * -(sm m fun k => L k (2 * n + i))) fun i hi => by
        rw [I.row K.hlp (by omega) (by omega), if_pos (by omega), K.lk0 _ (by omega)]]
      rw [sm_add, sm_mul, sm_neg, sm_comm, sm_comm (f := fun i k => L k (2 * n + i)), I.row K.hlp (i := m + 1) (j := w + m) (by omega) (by omega), if_pos (by omega), K.lk1]
      congr 1
      · exact sm_congr fun k hk => by rw [sm_mul, e1 k hk]
      · rw [sm_congr fun k hk => e1 k hk]
    rw [← e2]
    exact sm_nonneg fun i hi => opt _ (by omega)
  have c1 : (sm m fun k => S.d * L k (w + m)) = sm m fun i => S.T i (w + m) * sm m fun k => L k (S.be i) := by
    rw [sm_congr (g := fun k => sm m fun i => S.T i (w + m) * L k (S.be i)) fun k hk => by rw [I.colR (by omega) (by omega), if_neg (by omega), Int.add_zero], sm_comm]
    exact sm_congr fun i hi => sm_mul _ _ _
  have c2 := I.colR (k := m + 1) (j := w + m) (by omega) (by omega)
  rw [if_pos (by omega), K.lk1, Int.mul_neg, ← sm_mul, c1, ← sm_neg] at c2
  have c3 : (sm m fun i => if w ≤ S.be i then S.T i (w + m) else 0) + S.T (m + 1) (w + m) = 0 := by
    have c4 : (sm m fun i => if w ≤ S.be i then S.T i (w + m) else 0) = sm m fun i => S.T i (w + m) * L (m + 1) (S.be i) + S.T i (w + m) * sm m fun k => L k (S.be i) := sm_congr fun i hi => by
      have hb := I.bas i hi
      by_cases z : w ≤ S.be i
      · obtain ⟨a, ha⟩ : ∃ a, S.be i = w + a := ⟨S.be i - w, by omega⟩
        rw [if_pos z, ha, K.hlp a (m + 1) (by omega) (by omega), if_neg (by omega), sm_one (i := a) (by omega) fun k hk h => by rw [K.hlp a k (by omega) (by omega), if_neg h], K.hlp a a (by omega) (by omega), if_pos rfl]
        omega
      · rw [if_neg z, K.lk0 _ (by omega)]
        grind
    rw [c4, sm_add]
    rw [sm_neg] at c2
    omega
  have c5 : ∀ i, i < m → 0 ≤ if w ≤ S.be i then S.T i (w + m) else 0 := fun i hi => by
    split
    · exact N i hi
    · exact Int.le_refl _
  have c6 := sm_nonneg c5
  refine ⟨by omega, fun i hi h => ?_⟩
  have c7 := sm_all0 c5 (by omega) hi
  rw [if_pos h] at c7
  exact c7
/-- a helper is let out -/
theorem clear_step {s : Int} (I : Iv m w L S) (N : NonNeg m w S) (E : Empt m w S) (C : Clr m w r S) (p : Piv m w S S' r q s) (hb : w ≤ S.be r) (hq : q < w) :
    NonNeg m w S' ∧ Empt m w S' ∧ Clr m w (r + 1) S' := by
  have z := E r p.hr hb
  have ex : ∀ i, i < m → i ≠ r → S.d * S'.T i (w + m) = S.T i (w + m) * S'.d := fun i hi h => by
    have := p.exact I (show i < m + 2 by omega) h (show w + m < w + m + 1 by omega)
    rw [z, Int.mul_zero, Int.mul_zero, Int.sub_zero] at this
    exact this
  refine ⟨fun i hi => ?_, fun i hi h => ?_, fun i hi h j hj => ?_⟩
  · by_cases e : i = r
    · rw [e, p.tr _ (by omega), z, Int.mul_zero]; exact Int.le_refl _
    · exact nonneg_div I.pos (ex i hi e) (Int.mul_nonneg (N i hi) (by have := p.ds; omega))
  · by_cases e : i = r
    · rw [e, p.tr _ (by omega), z, Int.mul_zero]
    · refine zero_div I.pos ?_
      rw [ex i hi e, E i hi (by rw [← p.be i hi e]; exact h), Int.zero_mul]
  · have hr := p.hr
    by_cases e : i = r
    · rw [e, p.ber] at h; omega
    · have h' : w ≤ S.be i := by rw [← p.be i (by omega) e]; exact h
      refine zero_div I.pos ?_
      rw [p.exact I (by omega) e (by omega), C i (by omega) h' j hj, C i (by omega) h' q hq]
      simp
/-- a step of phase two keeps this -/
theorem phase2_step (I : Iv m w L S) (E : Empt m w S) (C : Clr m w m S) (b : BSt m w m S S' r q) : Empt m w S' ∧ Clr m w m S' := by
  have hr := b.piv.hr
  have hbr : ¬ w ≤ S.be r := fun h => by
    have := C r hr h q b.qw
    have := b.pos
    omega
  have nq : ∀ i, i < m → w ≤ S.be i → S.T i q = 0 := fun i hi h => C i hi h q b.qw
  have old : ∀ i, i < m → w ≤ S'.be i → i ≠ r ∧ w ≤ S.be i := fun i hi h => by
    by_cases e : i = r
    · rw [e, b.piv.ber] at h
      have := b.qw
      omega
    · exact ⟨e, by rw [← b.piv.be i hi e]; exact h⟩
  refine ⟨fun i hi h => ?_, fun i hi h j hj => ?_⟩
  · obtain ⟨e, h⟩ := old i hi h
    refine zero_div I.pos ?_
    rw [b.exact I (by omega) e (by omega), E i hi h, nq i hi h]
    simp
  · obtain ⟨e, h⟩ := old i hi h
    refine zero_div I.pos ?_
    rw [b.exact I (by omega) e (by omega), C i hi h j hj, nq i hi h]
    simp
/-- nothing gains without end -/
theorem bounded (K : Tsk t e n f m w col L) (I : Iv m w L S) (C : Clr m w m S) (hq : q < w) (neg : S.T m q < 0) (no : ∀ i, i < m → S.T i q ≤ 0) : False := by
  have hm := K.hm
  have hw := K.hw
  -- the rows of the bounds
  have nn : ∀ a j, a < n → j < w → 0 ≤ L (t + e + a) j := fun a j ha hj => by
    by_cases z1 : j < n
    · rw [K.b0 a j ha z1]; split <;> decide
    · by_cases z2 : j < 2 * n
      · obtain ⟨b, rfl⟩ : ∃ b, j = n + b := ⟨j - n, by omega⟩
        rw [K.b1 a b ha (by omega)]; decide
      · by_cases z3 : j < 3 * n
        · obtain ⟨b, rfl⟩ : ∃ b, j = 2 * n + b := ⟨j - 2 * n, by omega⟩
          rw [K.b2 a b ha (by omega)]; split <;> decide
        · obtain ⟨b, rfl⟩ : ∃ b, j = 3 * n + b := ⟨j - 3 * n, by omega⟩
          rw [K.b3 a b ha (by omega)]; decide
  have term : ∀ a i, a < n → i < m → 0 ≤ -(S.T i q * L (t + e + a) (S.be i)) := fun a i ha hi => by
    by_cases z : w ≤ S.be i
    · rw [C i hi z q hq, Int.zero_mul]; decide
    · have h1 := nn a (S.be i) ha (by omega)
      have h2 := no i hi
      have h3 : 0 ≤ (-S.T i q) * L (t + e + a) (S.be i) := Int.mul_nonneg (by omega) h1
      rw [Int.neg_mul] at h3
      exact h3
  have zero : ∀ a, a < n → L (t + e + a) q = 0 ∧ ∀ i, i < m → S.T i q * L (t + e + a) (S.be i) = 0 := fun a ha => by
    have h1 := I.colR (k := t + e + a) (j := q) (by omega) (by omega)
    rw [if_neg (by omega), Int.add_zero] at h1
    have h2 := sm_nonneg (term a · ha)
    rw [sm_neg, ← h1] at h2
    have h3 : 0 ≤ S.d * L (t + e + a) q := Int.mul_nonneg (by have := I.pos; omega) (nn a q ha hq)
    have h4 : S.d * L (t + e + a) q = 0 := by omega
    refine ⟨zero_div I.pos h4, fun i hi => ?_⟩
    have h5 := sm_all0 (term a · ha) (by rw [sm_neg, ← h1, h4]; rfl) hi
    omega
  have hqn : n ≤ q := by
    by_cases z : q < n
    · have := (zero q z).1
      rw [K.b0 q q z z, if_pos rfl] at this
      omega
    · omega
  have h1 := I.colR (k := m) (j := q) (by omega) (by omega)
  rw [if_pos (Nat.le_refl _), K.g1 q hqn hq, Int.mul_zero, sm_const0] at h1
  · omega
  · intro i hi
    by_cases z : w ≤ S.be i
    · rw [C i hi z q hq, Int.zero_mul]
    · by_cases z2 : S.be i < n
      · have h2 := (zero (S.be i) z2).2 i hi
        rw [K.b0 _ _ z2 z2, if_pos rfl, Int.mul_one] at h2
        rw [h2, Int.zero_mul]
      · rw [K.g1 _ (by omega) (by omega), Int.mul_zero]
/-- the place's share, over the bottom -/
def shr (m w : Nat) (S : Tb) (j : Nat) : Int := sm m fun i => if S.be i = j then S.T i (w + m) else 0
theorem shr_of (I : Iv m w L S) {i : Nat} (hi : i < m) : shr m w S (S.be i) = S.T i (w + m) := by
  unfold shr
  rw [sm_one hi fun k hk h => if_neg fun z => h (I.inj hk hi z), if_pos rfl]
theorem shr_out {j : Nat} (h : ¬ InB m S j) : shr m w S j = 0 := sm_const0 fun i hi => if_neg fun z => h ⟨i, hi, z⟩
/-- what is told at the end: kept ones, a row, a flow -/
structure Tld (t e n f : Nat) (col : Nat → Nat → Int) (kept : Nat → Prop) (y : Nat → Int) : Prop where
  zero : ∀ i, i < n → kept i → (sm (t + e) fun k => y k * col i k) = 0
  more : ∀ i, i < n → ¬ kept i → 0 < sm (t + e) fun k => y k * col i k
  far : f = e → ∀ s, s < e → 0 ≤ y (t + s)
  flow : ∃ g : Nat → Int, (∀ i, i < n → 0 ≤ g i ∧ (0 < g i ↔ kept i)) ∧ (∀ k, k < t → (sm n fun i => g i * col i k) = 0) ∧
    ∀ s, s < e → (sm n fun i => g i * col i (t + s)) ≤ 0 ∧ (f = 0 → (sm n fun i => g i * col i (t + s)) = 0)
theorem phase2 (K : Tsk t e n f m w col L) (I : Iv m w L S) (N : NonNeg m w S) (E : Empt m w S) (opt : ∀ j, j < w → 0 ≤ S.T m j) :
    Tld t e n f col (fun i => 0 < shr m w S i) fun k => S.T m (w + k) := by
  have hm := K.hm
  have hw := K.hw
  have x0 : ∀ j, 0 ≤ shr m w S j := fun j => sm_nonneg fun i hi => by
    split
    · exact N i hi
    · exact Int.le_refl _
  have prim : ∀ k, k < m → (sm w fun j => L k j * shr m w S j) = S.d * L k (w + m) := fun k hk => by
    rw [I.colR (by omega) (by omega), if_neg (by omega), Int.add_zero]
    rw [sm_congr (g := fun j => sm m fun i => if S.be i = j then S.T i (w + m) * L k j else 0) fun j hj => by
      unfold shr
      rw [← sm_mul]
      exact sm_congr fun i hi => by
        split
        · exact Int.mul_comm _ _
        · exact Int.mul_zero _, sm_comm]
    refine sm_congr fun i hi => ?_
    by_cases z : w ≤ S.be i
    · rw [E i hi z, Int.zero_mul]
      exact sm_const0 fun j hj => if_neg (by omega)
    · rw [sm_one (i := S.be i) (by omega) fun j hj h => if_neg fun z => h z.symm, if_pos rfl]
  have comp : ∀ j, j < w → shr m w S j ≠ 0 → S.T m j = 0 := fun j hj h => by
    refine Classical.byContradiction fun h2 => h (shr_out ?_)
    rintro ⟨i, hi, rfl⟩
    rw [I.unit (by omega) hi, if_neg (by omega)] at h2
    exact h2 rfl
  -- the parts of a sum over all places
  have parts : ∀ F : Nat → Int, sm w F = (sm n fun i => F i) + (sm n fun i => F (n + i)) + (sm n fun i => F (2 * n + i)) + sm f fun s => F (3 * n + s) := fun F => by
    rw [hw, sm_app, show 3 * n = 2 * n + n by omega, sm_app, show 2 * n = n + n by omega, sm_app]
  have bound : ∀ i, i < n → shr m w S i + shr m w S (2 * n + i) = S.d := fun i hi => by
    have h := prim (t + e + i) (by omega)
    rw [K.am1 i hi, parts] at h
    rw [sm_one (i := i) hi fun j hj h => by rw [K.b0 i j hi hj, if_neg (fun z => h z.symm), Int.zero_mul], K.b0 i i hi hi, if_pos rfl] at h
    rw [sm_const0 fun j hj => by rw [K.b1 i j hi hj, Int.zero_mul]] at h
    rw [sm_one (i := i) hi fun j hj h => by rw [K.b2 i j hi hj, if_neg (fun z => h z.symm), Int.zero_mul], K.b2 i i hi hi, if_pos rfl] at h
    rw [sm_const0 fun j hj => by rw [K.b3 i j hi hj, Int.zero_mul]] at h
    omega
  have flow : ∀ k, k < t + e → (sm n fun i => (shr m w S i + shr m w S (n + i)) * col i k) + (sm f fun s => (if k = t + s then 1 else 0) * shr m w S (3 * n + s)) = 0 := fun k hk => by
    have h := prim k (by omega)
    rw [K.am0 k hk, Int.mul_zero, parts] at h
    rw [sm_const0 (f := fun i => L k (2 * n + i) * shr m w S (2 * n + i)) fun j hj => by rw [K.a2 k j hk hj, Int.zero_mul]] at h
    rw [sm_congr (f := fun s => L k (3 * n + s) * shr m w S (3 * n + s)) (g := fun s => (if k = t + s then 1 else 0) * shr m w S (3 * n + s)) fun s hs => by rw [K.a3 k s hk hs]] at h
    rw [sm_congr (f := fun i => L k i * shr m w S i) (g := fun i => col i k * shr m w S i) fun i hi => by rw [K.a0 k i hk hi]] at h
    rw [sm_congr (f := fun i => L k (n + i) * shr m w S (n + i)) (g := fun i => col i k * shr m w S (n + i)) fun i hi => by rw [K.a1 k i hk hi]] at h
    rw [sm_congr (f := fun i => (shr m w S i + shr m w S (n + i)) * col i k) (g := fun i => col i k * shr m w S i + col i k * shr m w S (n + i)) fun i hi => by grind, sm_add]
    omega
  -- the lines of the gains
  have dual : ∀ j, j < w → S.T m j = (sm (t + e) fun k => S.T m (w + k) * L k j) + (sm n fun i => S.T m (w + (t + e + i)) * L (t + e + i) j) + S.d * L m j := fun j hj => by
    rw [I.row K.hlp (by omega) (by omega), if_pos (Nat.le_refl _), show sm m (fun k => S.T m (w + k) * L k j) = sm (t + e + n) (fun k => S.T m (w + k) * L k j) by rw [← hm], sm_app]
  have d0 : ∀ i, i < n → S.T m i = (sm (t + e) fun k => S.T m (w + k) * col i k) + S.T m (w + (t + e + i)) - S.d := fun i hi => by
    rw [dual i (by omega), sm_congr (g := fun k => S.T m (w + k) * col i k) fun k hk => by rw [K.a0 k i hk hi]]
    rw [sm_one (i := i) hi fun a ha h => by rw [K.b0 a i ha hi, if_neg h, Int.mul_zero], K.b0 i i hi hi, if_pos rfl, K.g0 i hi]
    omega
  have d1 : ∀ i, i < n → S.T m (n + i) = sm (t + e) fun k => S.T m (w + k) * col i k := fun i hi => by
    rw [dual _ (by omega), sm_congr (g := fun k => S.T m (w + k) * col i k) fun k hk => by rw [K.a1 k i hk hi], sm_const0 (n := n) fun a ha => by rw [K.b1 a i ha hi, Int.mul_zero], K.g1 _ (by omega) (by omega)]
    omega
  have d2 : ∀ i, i < n → S.T m (2 * n + i) = S.T m (w + (t + e + i)) := fun i hi => by
    rw [dual _ (by omega), sm_const0 fun k hk => by rw [K.a2 k i hk hi, Int.mul_zero], K.g1 _ (by omega) (by omega)]
    rw [sm_one (i := i) hi fun a ha h => by rw [K.b2 a i ha hi, if_neg h, Int.mul_zero], K.b2 i i hi hi, if_pos rfl]
    omega
  have d3 : ∀ s, s < f → S.T m (3 * n + s) = S.T m (w + (t + s)) := fun s hs => by
    have hf := K.hf
    rw [dual _ (by omega), sm_const0 (n := n) fun a ha => by rw [K.b3 a s ha hs, Int.mul_zero], K.g1 _ (by omega) (by omega)]
    rw [sm_one (i := t + s) (by omega) fun k hk h => by rw [K.a3 k s hk hs, if_neg h, Int.mul_zero], K.a3 _ s (by omega) hs, if_pos rfl]
    omega
  have g0 : ∀ i, i < n → 0 ≤ sm (t + e) fun k => S.T m (w + k) * col i k := fun i hi => by rw [← d1 i hi]; exact opt _ (by omega)
  have zero : ∀ i, i < n → (shr m w S i + shr m w S (n + i)) * (sm (t + e) fun k => S.T m (w + k) * col i k) = 0 := fun i hi => by
    have nn : ∀ i, i < n → 0 ≤ (shr m w S i + shr m w S (n + i)) * (sm (t + e) fun k => S.T m (w + k) * col i k) := fun i hi =>
      Int.mul_nonneg (by have := x0 i; have := x0 (n + i); omega) (g0 i hi)
    refine sm_all0 nn ?_ hi
    have h1 := sm_nonneg nn
    have h2 : (sm n fun i => (shr m w S i + shr m w S (n + i)) * (sm (t + e) fun k => S.T m (w + k) * col i k)) = - sm f fun s => S.T m (w + (t + s)) * shr m w S (3 * n + s) := by
      rw [sm_congr (g := fun i => sm (t + e) fun k => S.T m (w + k) * ((shr m w S i + shr m w S (n + i)) * col i k)) fun i hi => by
        rw [← sm_mul]; exact sm_congr fun k _ => by grind, sm_comm]
      rw [sm_congr (g := fun k => sm f fun s => -(S.T m (w + k) * ((if k = t + s then 1 else 0) * shr m w S (3 * n + s)))) fun k hk => by
        rw [sm_mul, sm_neg, sm_mul]
        have := flow k hk
        rw [show (sm n fun i => (shr m w S i + shr m w S (n + i)) * col i k) = -(sm f fun s => (if k = t + s then 1 else 0) * shr m w S (3 * n + s)) by omega, Int.mul_neg], sm_comm, ← sm_neg]
      refine sm_congr fun s hs => ?_
      have hf := K.hf
      rw [sm_one (i := t + s) (by omega) fun k hk h => by rw [if_neg h, Int.zero_mul, Int.mul_zero]; rfl, if_pos rfl, Int.one_mul]
    have h3 : 0 ≤ sm f fun s => S.T m (w + (t + s)) * shr m w S (3 * n + s) := sm_nonneg fun s hs => Int.mul_nonneg (by rw [← d3 s hs]; exact opt _ (by omega)) (x0 _)
    omega
  have more : ∀ i, i < n → ¬ 0 < shr m w S i → 0 < sm (t + e) fun k => S.T m (w + k) * col i k := fun i hi h => by
    have h1 := x0 i
    have h2 := bound i hi
    have h3 := I.pos
    have h4 := comp (2 * n + i) (by omega) (by omega)
    have h5 := d0 i hi
    have h6 := opt i (by omega)
    rw [d2 i hi] at h4
    omega
  refine ⟨fun i hi h => ?_, more, fun h s hs => ?_, fun i => shr m w S i + shr m w S (n + i), fun i hi => ⟨?_, fun h => ?_, fun h => ?_⟩, fun k hk => ?_, fun s hs => ?_⟩
  · rcases Int.mul_eq_zero.mp (zero i hi) with z | z
    · have := x0 (n + i); omega
    · exact z
  · rw [← d3 s (by omega)]
    exact opt _ (by omega)
  · show 0 ≤ shr m w S i + shr m w S (n + i)
    have := x0 i
    have := x0 (n + i)
    omega
  · have h : 0 < shr m w S i + shr m w S (n + i) := h
    refine Classical.byContradiction fun h2 => ?_
    have h3 := more i hi h2
    rcases Int.mul_eq_zero.mp (zero i hi) with z | z
    · omega
    · omega
  · show 0 < shr m w S i + shr m w S (n + i)
    have := x0 (n + i)
    omega
  · have h1 := flow k (by omega)
    rw [sm_const0 (n := f) fun s hs => by rw [if_neg (by omega), Int.zero_mul]] at h1
    show (sm n fun i => (shr m w S i + shr m w S (n + i)) * col i k) = 0
    omega
  · have h1 := flow (t + s) (by omega)
    have h2 : 0 ≤ sm f fun s' => (if t + s = t + s' then 1 else 0) * shr m w S (3 * n + s') := sm_nonneg fun s' _ => Int.mul_nonneg (by split <;> decide) (x0 _)
    show (sm n fun i => (shr m w S i + shr m w S (n + i)) * col i (t + s)) ≤ 0 ∧ (f = 0 → (sm n fun i => (shr m w S i + shr m w S (n + i)) * col i (t + s)) = 0)
    refine ⟨by omega, fun h => ?_⟩
    rw [h, sm_zero] at h1
    omega
end
end TN
set_option Elab.async false
set_option linter.all false
set_option maxRecDepth 100000
set_option maxHeartbeats 4000000
/-! W1: the walks' own kit: nested tuples as data, a def's promise by its name, small rules. -/
namespace TN
open PySem PySem.Spec PyProof.Rows L2
/-! ### data made of tuples -/
mutual
inductive TD (H : Hp) : V → PyData → Prop
  | int (i : Int) : TD H (.int i) (.int i)
  | str (x : Str) : TD H (.str x) (.str x)
  | tup {a : Addr} {xs : List V} {ds : List PyData} : H a = some (.tup xs) → TDs H xs ds → TD H (.ref a) (.tuple ds)
inductive TDs (H : Hp) : List V → List PyData → Prop
  | nil : TDs H [] []
  | cons {v : V} {vs : List V} {d : PyData} {ds : List PyData} : TD H v d → TDs H vs ds → TDs H (v :: vs) (d :: ds)
end
/-- the tuples stand as they stood -/
def Tsm (H H' : Hp) : Prop := ∀ b xs, H b = some (.tup xs) → H' b = some (.tup xs)
theorem Tsm.of {H H' : Hp} (s : Same H H') : Tsm H H' := fun b xs h => s b _ h
mutual
theorem TD.mono {H H' : Hp} (s : Tsm H H') : ∀ {v : V} {d : PyData}, TD H v d → TD H' v d
  | _, _, .int i => .int i
  | _, _, .str x => .str x
  | _, _, .tup h hs => .tup (s _ _ h) (TDs.mono s hs)
theorem TDs.mono {H H' : Hp} (s : Tsm H H') : ∀ {vs : List V} {ds : List PyData}, TDs H vs ds → TDs H' vs ds
  | _, _, .nil => .nil
  | _, _, .cons h hs => .cons (TD.mono s h) (TDs.mono s hs)
end
mutual
theorem TD.dp {K : PySem.W.Frag} {H : Hp} : ∀ {v : V} {d : PyData}, TD H v d → Dp K H v d
  | _, _, .int i => .int i
  | _, _, .str x => .str x
  | _, _, .tup h hs => .tup (SqT.of h) (TDs.dp hs)
theorem TDs.dp {K : PySem.W.Frag} {H : Hp} : ∀ {vs : List V} {ds : List PyData}, TDs H vs ds → DpAll K H vs ds
  | _, _, .nil => .nil
  | _, _, .cons h hs => .cons (TD.dp h) (TDs.dp hs)
end
section
variable {H H' : Hp} {v : V} {vs : List V} {d : PyData} {ds : List PyData}
theorem TD.int_inv {i : Int} (h : TD H v (.int i)) : v = .int i := by cases h; rfl
theorem TD.str_inv {i : Str} (h : TD H v (.str i)) : v = .str i := by cases h; rfl
theorem TD.tup_inv (h : TD H v (.tuple ds)) : ∃ p xs, v = .ref p ∧ H p = some (.tup xs) ∧ TDs H xs ds := by
  cases h with
  | tup h hs => exact ⟨_, _, rfl, h, hs⟩
theorem TDs.length (h : TDs H vs ds) : vs.length = ds.length := by
  induction vs generalizing ds with
  | nil => cases h; rfl
  | cons v vs ih =>
    cases h with
    | cons h hs => exact congrArg Nat.succ (ih hs)
theorem TDs.get (h : TDs H vs ds) {i : Nat} {d : PyData} (e : ds[i]? = some d) : ∃ v, vs[i]? = some v ∧ TD H v d := by
  induction vs generalizing ds i with
  | nil => cases h; simp at e
  | cons v vs ih =>
    cases h with
    | cons h hs =>
      cases i with
      | zero => simp at e; subst e; exact ⟨v, rfl, h⟩
      | succ i => simp at e; exact ih hs e
theorem TDs.get' (h : TDs H vs ds) {i : Nat} {v : V} (e : vs[i]? = some v) : ∃ d, ds[i]? = some d ∧ TD H v d := by
  induction vs generalizing ds i with
  | nil => simp at e
  | cons v vs ih =>
    cases h with
    | cons h hs =>
      cases i with
      | zero => simp at e; subst e; exact ⟨_, rfl, h⟩
      | succ i => simp at e; obtain ⟨d, e1, e2⟩ := ih hs e; exact ⟨d, e1, e2⟩
theorem TDs.ints {ns : List Int} (h : TDs H vs (ns.map .int)) : vs = ns.map V.int := by
  induction ns generalizing vs with
  | nil => cases h; rfl
  | cons n ns ih =>
    cases h with
    | cons h hs => rw [h.int_inv, ih hs]; rfl
theorem TDs.of_ints (ns : List Int) : TDs H (ns.map V.int) (ns.map .int) := by
  induction ns with
  | nil => exact .nil
  | cons n ns ih => exact .cons (.int n) ih
theorem TDs.append {us : List V} {es : List PyData} (h : TDs H vs ds) (h' : TDs H us es) : TDs H (vs ++ us) (ds ++ es) := by
  induction vs generalizing ds with
  | nil => cases h; exact h'
  | cons v vs ih =>
    cases h with
    | cons h hs => exact .cons h (ih hs)
theorem TDs.one (h : TD H v d) : TDs H [v] [d] := .cons h .nil
theorem TDs.take (n : Nat) (h : TDs H vs ds) : TDs H (vs.take n) (ds.take n) := by
  induction n generalizing vs ds with
  | zero => exact .nil
  | succ n ih =>
    cases h with
    | nil => exact .nil
    | cons h hs => exact .cons h (ih hs)
theorem TDs.drop (n : Nat) (h : TDs H vs ds) : TDs H (vs.drop n) (ds.drop n) := by
  induction n generalizing vs ds with
  | zero => exact h
  | succ n ih =>
    cases h with
    | nil => exact .nil
    | cons h hs => exact ih hs
end
/-- a tuple of ints -/
abbrev dI (ns : List Int) : PyData := .tuple (ns.map .int)
theorem TD.ints {H : Hp} {v : V} {ns : List Int} (h : TD H v (dI ns)) : ∃ p, v = .ref p ∧ H p = some (.tup (ns.map V.int)) := by
  obtain ⟨p, xs, e, hp, hs⟩ := h.tup_inv
  rw [hs.ints] at hp
  exact ⟨p, e, hp⟩
theorem TD.of_ints {H : Hp} {p : Addr} {ns : List Int} (h : H p = some (.tup (ns.map V.int))) : TD H (.ref p) (dI ns) := .tup h (TDs.of_ints ns)
/-! ### a def's promise by its name -/
structure Ok (P : Program) (w : World) (K : PySem.W.Frag) (mg : Str → Option Value) (base : Heap) (k : Nat) (x : Str) (ps : List Str) (sp : Sp) : Prop where
  ex : ∃ fd, FnOk P w K mg base CX0 k (He.ga K x) fd ps sp ∧ Binds K fd ps []
  g : mg x = some (.ref (He.ga K x))
  kp : PySem.W.keepIn K (.ref (He.ga K x)) = true
/-- a method's -/
structure OkM (P : Program) (w : World) (K : PySem.W.Frag) (mg : Str → Option Value) (base : Heap) (k : Nat) (C x : Str) (ps : List Str) (sp : Sp) : Prop where
  ex : ∃ fd, FnOk P w K mg base CX0 k (He.ma K (He.ga K C) x) fd ps sp ∧ Binds K fd ps []
section
variable {P : Program} {w : World} {K : PySem.W.Frag} {mg : Str → Option Value} {base : Heap} {x qual : Str} {params : Arguments} {body : List Stmt} {scope : Scope} {ps N : List Str} {sp : Sp} {k : Nat}
theorem Ok.mk' (F : ∃ fd, FunD K x qual params body scope [] [] (He.fAd K (x, none)) fd) (g : mg x = some (.ref (He.ga K x))) (S : FnScope N ps scope) (len : ∀ vs H Q E, sp vs H Q E → vs.length = ps.length)
    (hb : ∀ (kV doc pm : Value) (an : Option Addr) (cdv ct : Value) (us : List Value), us.length = ps.length → bindArgs (PySem.W.fnOf x qual params body scope .none kV doc pm an cdv ct) ⟨us, []⟩ = pure (ps.zip us))
    (hbody : ∀ (cdv : Value) (A : Around) (outer : List Env) (s : Shared) (H : Hp) (vs : List V) (Q : VK) (E : XK), Room k (A.deeper (envOfC qual scope s.heap.objs.size (He.ga K x) cdv)) → sp vs H Q E →
      ∃ t, PSs (cxOf CX0 P w K mg base N qual scope (He.ga K x) cdv A outer s H E).nox body t ∧ t { nx := fun _ H' => Q .non H', rt := Q } (start N vs) H) : Ok P w K mg base (k + 1) x ps sp := by
  obtain ⟨fd, F⟩ := F
  exact ⟨⟨fd, F.ok S len fun cdv A outer s H vs Q E hr h => let ⟨t, h1, h2⟩ := hbody cdv A outer s H vs Q E hr h; ⟨t, h1.nox, h2⟩, F.bindsN hb⟩, g, F.kp⟩
theorem OkM.mk' {C : Str} (F : ∃ fd, FunD K x qual params body scope [] [] (He.fAd K (C, some x)) fd) (S : FnScope N ps scope) (len : ∀ vs H Q E, sp vs H Q E → vs.length = ps.length)
    (hb : ∀ (kV doc pm : Value) (an : Option Addr) (cdv ct : Value) (us : List Value), us.length = ps.length → bindArgs (PySem.W.fnOf x qual params body scope .none kV doc pm an cdv ct) ⟨us, []⟩ = pure (ps.zip us))
    (hbody : ∀ (cdv : Value) (A : Around) (outer : List Env) (s : Shared) (H : Hp) (vs : List V) (Q : VK) (E : XK), Room k (A.deeper (envOfC qual scope s.heap.objs.size (He.ma K (He.ga K C) x) cdv)) → sp vs H Q E →
      ∃ t, PSs (cxOf CX0 P w K mg base N qual scope (He.ma K (He.ga K C) x) cdv A outer s H E).nox body t ∧ t { nx := fun _ H' => Q .non H', rt := Q } (start N vs) H) : OkM P w K mg base (k + 1) C x ps sp := by
  obtain ⟨fd, F⟩ := F
  exact ⟨⟨fd, F.ok S len fun cdv A outer s H vs Q E hr h => let ⟨t, h1, h2⟩ := hbody cdv A outer s H vs Q E hr h; ⟨t, h1.nox, h2⟩, F.bindsN hb⟩⟩
end
section
variable {X : Cx} {x m C : Str} {ps : List Str} {sp : Sp} {k : Nat} {e o : Expr} {es : List Expr} {p pos apos : Pos} {t : TA} {ta : TE}
theorem pe_c (G : Ok X.prog X.w X.K X.mg X.base k x ps sp) (hr : Room k X.A) (hg : Gl X x) (ha : PA X (e :: es) t) (hdb : (x == ("__debug__" : Str)) = false := by decide)
    (he : starEach (e :: es) X.env = (false, eval e X.env) :: starEach es X.env := by rfl) (hpl : (backTo pos (starEach es X.env)).any (·.1) = false := by rfl) : PE X (.Call (.Name x p) (e :: es) [] pos) (tCall sp [] E0 t) := by
  obtain ⟨fd, F, b⟩ := G.ex
  exact pe_call F hr hg G.g G.kp b .nil pass0 ha hdb he hpl
theorem pe_m {pl : Sem Bool} (he : PE X o ta) (c : Cls X.K (He.ga X.K C)) (hm : Meth X.K (He.ga X.K C) m (He.ma X.K (He.ga X.K C) m)) (G : OkM X.prog X.w X.K X.mg X.base k C m ps sp) (hr : Room k X.A) (ha : PA X (e :: es) t)
    (hst : starEach (e :: es) X.env = (false, eval e X.env) :: starEach es X.env := by rfl) (hpl : (backTo pos (starEach es X.env)).any (·.1) = false := by rfl)
    (ht : eval (.Call (.Attribute o m apos) (e :: es) [] pos) X.env = (do
      let ov ← eval o X.env
      standAt apos.atName
      let (f, first) ← holding [ov] (getMethod ov m pl)
      callWith pos f first (backTo pos (starEach (e :: es) X.env)) (backToKw pos (keywordEach [] X.env))) := by rfl) :
    PE X (.Call (.Attribute o m apos) (e :: es) [] pos) (tMeth (He.ga X.K C) m sp [] E0 ta t) := by
  obtain ⟨fd, F, b⟩ := G.ex
  exact pe_meth he c hm F hr b .nil pass0 ha hst hpl ht
theorem pe_m0 {pl : Sem Bool} (he : PE X o ta) (c : Cls X.K (He.ga X.K C)) (hm : Meth X.K (He.ga X.K C) m (He.ma X.K (He.ga X.K C) m)) (G : OkM X.prog X.w X.K X.mg X.base k C m ps sp) (hr : Room k X.A)
    (ht : eval (.Call (.Attribute o m apos) [] [] pos) X.env = (do
      let ov ← eval o X.env
      standAt apos.atName
      let (f, first) ← holding [ov] (getMethod ov m pl)
      callWith pos f first (backTo pos (starEach [] X.env)) (backToKw pos (keywordEach [] X.env))) := by rfl) :
    PE X (.Call (.Attribute o m apos) [] [] pos) (tMeth (He.ga X.K C) m sp [] E0 ta tNil) := by
  obtain ⟨fd, F, b⟩ := G.ex
  exact pe_meth0 he c hm F hr b .nil pass0 ht
theorem pe_mk (M : Mk X.K (He.ga X.K C) (He.ma X.K (He.ga X.K C) "__init__")) (G : OkM X.prog X.w X.K X.mg X.base k C "__init__" ps sp) (hr : Room (k + 1) X.A) (hg : Gl X C) (hm : X.mg C = some (.ref (He.ga X.K C))) (ha : PA X (e :: es) t)
    (hdb : (C == ("__debug__" : Str)) = false := by decide) (he : starEach (e :: es) X.env = (false, eval e X.env) :: starEach es X.env := by rfl) (hpl : (backTo pos (starEach es X.env)).any (·.1) = false := by rfl) :
    PE X (.Call (.Name C p) (e :: es) [] pos) (tMake (He.ga X.K C) sp [] E0 t) := by
  obtain ⟨fd, F, b⟩ := G.ex
  exact pe_make M F hr hg hm b .nil pass0 ha hdb he hpl
theorem pe_gi {i : Int} (hg : Gl X x) (h : ∃ t, X.mg x = some (.int i t)) (hd : (x == ("__debug__" : Str)) = false := by decide) : PE X (.Name x pos) (tC (.int i)) := by
  obtain ⟨t, h⟩ := h
  exact pe_glob hg h ⟨t, rfl⟩ hd
theorem pe_gs {i : Str} (hg : Gl X x) (h : ∃ t, X.mg x = some (.str i t)) (hd : (x == ("__debug__" : Str)) = false := by decide) : PE X (.Name x pos) (tC (.str i)) := by
  obtain ⟨t, h⟩ := h
  exact pe_glob hg h ⟨t, rfl⟩ hd
end
/-! ### small facts -/
theorem _root_.L2.Same.upd {H : Hp} {p : Addr} {o : HO} (h : H p = none) : Same H (upd H p o) := fun b u e => by
  rw [upd_ne (ne_of_none e h)]; exact e
theorem _root_.L2.Same.to_upd {H0 H : Hp} {p : Addr} {o : HO} (s : Same H0 H) (h : H p = none) : Same H0 (L2.upd H p o) := s.trans (Same.upd h)
/-- all but what stands at D is kept -/
def Xt (D : Addr) (H H' : Hp) : Prop := ∀ b o, b ≠ D → H b = some o → H' b = some o
theorem Xt.refl {D : Addr} {H : Hp} : Xt D H H := fun _ _ _ e => e
theorem Xt.trans {D : Addr} {H H1 H2 : Hp} (a : Xt D H H1) (b : Xt D H1 H2) : Xt D H H2 := fun c o n e => b c o n (a c o n e)
theorem Xt.at {D : Addr} {H H' : Hp} {o : HO} (a : Xt D H H') : Xt D H (L2.upd H' D o) := fun c u n e => by rw [upd_ne n]; exact a c u n e
theorem Xt.of {D : Addr} {H H' : Hp} (s : Same H H') : Xt D H H' := fun c u _ e => s c u e
theorem Xt.same {D : Addr} {H H' : Hp} (a : Xt D H H') (n : H D = none) : Same H H' := fun c u e => a c u (ne_of_none e n) e
theorem Xt.tsm {D : Addr} {H H' : Hp} {xs : List V} (a : Xt D H H') (h : H D = some (.lst xs)) : Tsm H H' := fun c u e => a c _ (ne_of e h (by intro z; cases z)) e
theorem Xt.new {D p : Addr} {H : Hp} {o : HO} (h : H p = none) : Xt D H (L2.upd H p o) := Xt.of (Same.upd h)
abbrev LcW (J : It) (g : TG) (te : TE) (vs : List Nat) (σ : L2.St) (H1 : Hp) (D : Addr) (Qd : Hp → Prop) : Prop :=
    ∃ W : Nat → Nat → Hp → Prop, (∃ m, W 0 m (L2.upd H1 D (.lst []))) ∧ ∀ i m H, W i m H →
      (J.stop i H ∧ Qd H) ∨ (J.go i H ∧ ∃ Nx : Hp → Prop, (∀ H', Nx H' → ∃ m', m' < m ∧ W (i + 1) m' H') ∧ ∀ x H', J.yld i H x H' → g x (wipe σ vs) H' fun σ2 H2 => wipe σ2 vs = wipe σ vs ∧ tYes σ2 H2 fun b H3 =>
        if b = true then te σ2 H3 fun y H4 => ∃ acc, H4 D = some (.lst acc) ∧ acc.length < sizeLine ∧ Nx (L2.upd H4 D (.lst (acc ++ [y]))) else Nx H3)
/-- a comprehension without ifs over anything: n turns, what is made at turn i stands in R i -/
theorem lc_gen {J : It} {g : TG} {te : TE} {vs : List Nat} {σ : L2.St} {H1 : Hp} {D : Addr} {Qd : Hp → Prop} (n : Nat) (R : Nat → V → Hp → Prop) (hD : H1 D = none) (hn : n ≤ 1000000)
    (hm : ∀ j v H H', Xt D H H' → R j v H → R j v H')
    (stop : ∀ H, Same H1 H → J.stop n H) (go : ∀ i H, i < n → Same H1 H → J.go i H)
    (hs : ∀ (i : Nat) (H : Hp) (acc : List V) (Qy : V → Hp → Prop), i < n → Same H1 H → H D = some (.lst acc) → (∀ y H4, Xt D H H4 → H4 D = some (.lst acc) → R i y H4 → Qy y H4) →
      ∀ x H', J.yld i H x H' → g x (wipe σ vs) H' fun σ2 H2 => wipe σ2 vs = wipe σ vs ∧ te σ2 H2 Qy)
    (hd : ∀ H ys, Same H1 H → H D = some (.lst ys) → ys.length = n → (∀ j y, ys[j]? = some y → R j y H) → Qd H) :
    LcW J g te vs σ H1 D Qd := by
  refine ⟨fun i m H => m = n - i ∧ i ≤ n ∧ Same H1 H ∧ ∃ ys, H D = some (.lst ys) ∧ ys.length = i ∧ ∀ j y, ys[j]? = some y → R j y H, ⟨n, by simp, Nat.zero_le _, Same.upd hD, [], upd_same, rfl, fun j y e => by simp at e⟩, ?_⟩
  rintro i m H ⟨rfl, hi, s, ys, h1, h2, h3⟩
  by_cases hlt : i < n
  · refine .inr ⟨go i H hlt s, fun H' => i + 1 ≤ n ∧ Same H1 H' ∧ ∃ ys, H' D = some (.lst ys) ∧ ys.length = i + 1 ∧ ∀ j y, ys[j]? = some y → R j y H', fun H' p => ⟨n - (i + 1), by omega, rfl, p⟩, fun x H' y => ?_⟩
    refine hs i H ys _ hlt s h1 (fun y H4 x4 e4 r4 => ?_) x H' y
    refine ⟨ys, e4, ?_, hlt, ?_, ys ++ [y], upd_same, by simp [h2], fun j z e => ?_⟩
    · rw [h2, sizeLine_eq]; omega
    · exact ((Xt.of s).trans x4).at.same hD
    · by_cases q : j < ys.length
      · rw [List.getElem?_append_left q] at e
        exact hm j z _ _ (Xt.at x4) (h3 j z e)
      · rw [List.getElem?_append_right (by omega)] at e
        have q2 : j - ys.length = 0 := by
          have := (List.getElem?_eq_some_iff.mp e).1
          simp at this
          omega
        rw [q2] at e
        cases e
        have q3 : j = i := by omega
        subst q3
        exact hm j _ _ _ (Xt.at Xt.refl) r4
  · have e : i = n := by omega
    subst e
    exact .inl ⟨stop H s, hd H ys s h1 h2 h3⟩
theorem _root_.L2.Same.rd {H H' : Hp} {a : Addr} {u : HO} (s : Same H H') (h : Rd H a u) : Rd H' a u := by
  rcases h with h | ⟨o, h⟩
  · exact .inl (s _ _ h)
  · exact .inr ⟨o, s _ _ h⟩
theorem _root_.L2.Same.sqT {K : PySem.W.Frag} {H H' : Hp} {a : Addr} {xs : List V} (s : Same H H') (h : SqT K H a xs) : SqT K H' a xs := by
  rcases h with h | h
  · exact .inl (s.rd h)
  · exact .inr h
theorem _root_.L2.Same.sqL {K : PySem.W.Frag} {H H' : Hp} {a : Addr} {xs : List V} (s : Same H H') (h : SqL K H a xs) : SqL K H' a xs := by
  rcases h with h | h
  · exact .inl (s.rd h)
  · exact .inr h
/-- .. over a tuple -/
theorem lc_tupG {K : PySem.W.Frag} {a : Addr} {xs : List V} {g : TG} {te : TE} {vs : List Nat} {σ : L2.St} {H1 : Hp} {D : Addr} {Qd : Hp → Prop} (R : Nat → V → Hp → Prop) (hq : SqT K H1 a xs) (hD : H1 D = none) (hn : xs.length ≤ 1000000)
    (hm : ∀ j v H H', Xt D H H' → R j v H → R j v H')
    (hs : ∀ (i : Nat) (x : V) (H : Hp) (acc : List V) (Qy : V → Hp → Prop), xs[i]? = some x → Same H1 H → H D = some (.lst acc) → (∀ y H4, Xt D H H4 → H4 D = some (.lst acc) → R i y H4 → Qy y H4) →
      g x (wipe σ vs) H fun σ2 H2 => wipe σ2 vs = wipe σ vs ∧ te σ2 H2 Qy)
    (hd : ∀ H ys, Same H1 H → H D = some (.lst ys) → ys.length = xs.length → (∀ j y, ys[j]? = some y → R j y H) → Qd H) : LcW (Itt K a) g te vs σ H1 D Qd :=
  lc_gen (J := Itt K a) (g := g) (te := te) (vs := vs) (σ := σ) (H1 := H1) (D := D) (Qd := Qd) xs.length R hD hn hm (fun H s => ⟨xs, s.sqT hq, Nat.le_refl _⟩) (fun i H hi s => ⟨xs, xs[i], s.sqT hq, by simp [hi]⟩)
    (fun i H acc Qy hi s hH k x H' ⟨e, y⟩ => by
      subst e
      exact hs i x _ acc Qy (y xs (s.sqT hq)) s hH k) hd
/-- .. over a list -/
theorem lc_listG {K : PySem.W.Frag} {a : Addr} {xs : List V} {g : TG} {te : TE} {vs : List Nat} {σ : L2.St} {H1 : Hp} {D : Addr} {Qd : Hp → Prop} (R : Nat → V → Hp → Prop) (hq : SqL K H1 a xs) (hD : H1 D = none) (hn : xs.length ≤ 1000000)
    (hm : ∀ j v H H', Xt D H H' → R j v H → R j v H')
    (hs : ∀ (i : Nat) (x : V) (H : Hp) (acc : List V) (Qy : V → Hp → Prop), xs[i]? = some x → Same H1 H → H D = some (.lst acc) → (∀ y H4, Xt D H H4 → H4 D = some (.lst acc) → R i y H4 → Qy y H4) →
      g x (wipe σ vs) H fun σ2 H2 => wipe σ2 vs = wipe σ vs ∧ te σ2 H2 Qy)
    (hd : ∀ H ys, Same H1 H → H D = some (.lst ys) → ys.length = xs.length → (∀ j y, ys[j]? = some y → R j y H) → Qd H) : LcW (Itl K a) g te vs σ H1 D Qd :=
  lc_gen (J := Itl K a) (g := g) (te := te) (vs := vs) (σ := σ) (H1 := H1) (D := D) (Qd := Qd) xs.length R hD hn hm (fun H s => ⟨xs, s.sqL hq, Nat.le_refl _⟩) (fun i H hi s => ⟨xs, xs[i], s.sqL hq, by simp [hi]⟩)
    (fun i H acc Qy hi s hH k x H' ⟨e, y⟩ => by
      subst e
      exact hs i x _ acc Qy (y xs (s.sqL hq)) s hH k) hd
/-- .. over a range -/
theorem lc_rangeG {lo : Int} {n : Nat} {g : TG} {te : TE} {vs : List Nat} {σ : L2.St} {H1 : Hp} {D : Addr} {Qd : Hp → Prop} (R : Nat → V → Hp → Prop) (hD : H1 D = none) (hn : n ≤ 1000000)
    (hm : ∀ j v H H', Xt D H H' → R j v H → R j v H')
    (hs : ∀ (i : Nat) (H : Hp) (acc : List V) (Qy : V → Hp → Prop), i < n → Same H1 H → H D = some (.lst acc) → (∀ y H4, Xt D H H4 → H4 D = some (.lst acc) → R i y H4 → Qy y H4) →
      g (.int (lo + i)) (wipe σ vs) H fun σ2 H2 => wipe σ2 vs = wipe σ vs ∧ te σ2 H2 Qy)
    (hd : ∀ H ys, Same H1 H → H D = some (.lst ys) → ys.length = n → (∀ j y, ys[j]? = some y → R j y H) → Qd H) : LcW (Itr lo n) g te vs σ H1 D Qd :=
  lc_gen (J := Itr lo n) (g := g) (te := te) (vs := vs) (σ := σ) (H1 := H1) (D := D) (Qd := Qd) n R hD hn hm (fun H s => Nat.le_refl _) (fun i H hi s => hi)
    (fun i H acc Qy hi s hH k x H' ⟨e, y⟩ => by
      subst e y
      exact hs i _ acc Qy hi s hH k) hd
/-- .. over zip of two tuples -/
theorem lc_zipTG {K : PySem.W.Frag} {a b : Addr} {xs ys : List V} {g : TG} {te : TE} {vs : List Nat} {σ : L2.St} {H1 : Hp} {D : Addr} {Qd : Hp → Prop} (R : Nat → V → Hp → Prop) (hq : SqT K H1 a xs) (hq2 : SqT K H1 b ys) (hD : H1 D = none) (hn : xs.length ≤ 1000000)
    (hm : ∀ j v H H', Xt D H H' → R j v H → R j v H')
    (hs : ∀ (i : Nat) (x y : V) (T : Addr) (H : Hp) (acc : List V) (Qy : V → Hp → Prop), xs[i]? = some x → ys[i]? = some y → Same H1 H → H D = some (.lst acc) → H T = none → (∀ z H4, Xt D H H4 → H4 D = some (.lst acc) → R i z H4 → Qy z H4) →
      g (.ref T) (wipe σ vs) (L2.upd H T (.tup [x, y])) fun σ2 H2 => wipe σ2 vs = wipe σ vs ∧ te σ2 H2 Qy)
    (hd : ∀ H zs, Same H1 H → H D = some (.lst zs) → zs.length = min xs.length ys.length → (∀ j y, zs[j]? = some y → R j y H) → Qd H) : LcW (RZ.ItzT K a b) g te vs σ H1 D Qd :=
  lc_gen (J := RZ.ItzT K a b) (g := g) (te := te) (vs := vs) (σ := σ) (H1 := H1) (D := D) (Qd := Qd) (min xs.length ys.length) R hD (by omega) hm (fun H s => ⟨xs, ys, s.sqT hq, s.sqT hq2, by omega⟩) (fun i H hi s => ⟨xs, ys, xs[i], ys[i], s.sqT hq, s.sqT hq2, by simp, by simp⟩)
    (fun i H acc Qy hi s hH k x H' ⟨T, u, v, e1, e2, e3, f1, f2⟩ => by
      subst e1 e3
      exact hs i u v T H acc Qy (f1 xs (s.sqT hq)) (f2 ys (s.sqT hq2)) s hH e2 k) hd
/-- .. over zip of two lists -/
theorem lc_zipLG {K : PySem.W.Frag} {a b : Addr} {xs ys : List V} {g : TG} {te : TE} {vs : List Nat} {σ : L2.St} {H1 : Hp} {D : Addr} {Qd : Hp → Prop} (R : Nat → V → Hp → Prop) (hq : SqL K H1 a xs) (hq2 : SqL K H1 b ys) (hD : H1 D = none) (hn : xs.length ≤ 1000000)
    (hm : ∀ j v H H', Xt D H H' → R j v H → R j v H')
    (hs : ∀ (i : Nat) (x y : V) (T : Addr) (H : Hp) (acc : List V) (Qy : V → Hp → Prop), xs[i]? = some x → ys[i]? = some y → Same H1 H → H D = some (.lst acc) → H T = none → (∀ z H4, Xt D H H4 → H4 D = some (.lst acc) → R i z H4 → Qy z H4) →
      g (.ref T) (wipe σ vs) (L2.upd H T (.tup [x, y])) fun σ2 H2 => wipe σ2 vs = wipe σ vs ∧ te σ2 H2 Qy)
    (hd : ∀ H zs, Same H1 H → H D = some (.lst zs) → zs.length = min xs.length ys.length → (∀ j y, zs[j]? = some y → R j y H) → Qd H) : LcW (Itz K a b) g te vs σ H1 D Qd :=
  lc_gen (J := Itz K a b) (g := g) (te := te) (vs := vs) (σ := σ) (H1 := H1) (D := D) (Qd := Qd) (min xs.length ys.length) R hD (by omega) hm (fun H s => ⟨xs, ys, s.sqL hq, s.sqL hq2, by omega⟩) (fun i H hi s => ⟨xs, ys, xs[i], ys[i], s.sqL hq, s.sqL hq2, by simp, by simp⟩)
    (fun i H acc Qy hi s hH k x H' ⟨T, u, v, e1, e2, e3, f1, f2⟩ => by
      subst e1 e3
      exact hs i u v T H acc Qy (f1 xs (s.sqL hq)) (f2 ys (s.sqL hq2)) s hH e2 k) hd
/-- a list told by its places -/
theorem eq_map {α : Type} {ys : List V} {l : List α} {f : α → V} (h : ys.length = l.length) (e : ∀ (j : Nat) (y : V), ys[j]? = some y → ∃ a : α, l[j]? = some a ∧ y = f a) : ys = l.map f := by
  apply List.ext_getElem?
  intro j
  rw [List.getElem?_map]
  cases q : ys[j]? with
  | none =>
    have : l[j]? = none := by rw [List.getElem?_eq_none_iff] at q ⊢; omega
    rw [this]; rfl
  | some y =>
    obtain ⟨a, e1, e2⟩ := e j y q
    rw [e1, e2]; rfl
/-! ### rules that tell the written part by its name (within a comprehension's block the reading may not hang on the block) -/
section
variable (K : PySem.W.Frag) {X : Cx}
theorem k_isi (h : X.K = K := by rfl) : CallR X (.builtin "isinstance") (rIsi K) := by subst h; exact call_isi
theorem k_len (h : X.K = K := by rfl) : CallR X (.builtin "len") (fun xs H Q => ∃ p ys, xs = [.ref p] ∧ (SqL K H p ys ∨ SqT K H p ys) ∧ Q (.int ys.length) H) := by subst h; exact call_len_seq
theorem k_listof (h : X.K = K := by rfl) : CallR X (.type "list") (fun xs H Q => ∃ p ys, xs = [.ref p] ∧ (SqL K H p ys ∨ SqT K H p ys) ∧ ∀ l, H l = none → Q (.ref l) (upd H l (.lst ys))) := by subst h; exact call_list_of
theorem k_tupof (h : X.K = K := by rfl) : CallR X (.type "tuple") (fun xs H Q => ∃ p ys, xs = [.ref p] ∧ ((SqL K H p ys ∧ ∀ l, H l = none → Q (.ref l) (upd H l (.tup ys))) ∨ (SqT K H p ys ∧ Q (.ref p) H))) := by subst h; exact call_tuple_of
theorem k_catA (h : X.K = K := by rfl) : OpR X (binaryOp .Add) (rCatA K) := by subst h; exact op_catA
theorem k_insq (h : X.K = K := by rfl) : OpR X (compareOp .In) (rIn K false) := by subst h; exact op_in_seq
theorem k_ninsq (h : X.K = K := by rfl) : OpR X (compareOp .NotIn) (rIn K true) := by subst h; exact op_notIn_seq
theorem k_ixl (h : X.K = K := by rfl) : IxR X (rIxL K) := by subst h; exact ix_list
theorem k_ixt (h : X.K = K := by rfl) : IxR X (rIxT K) := by subst h; exact ix_tup
theorem k_sll (h : X.K = K := by rfl) : SlR X (rSlL K) := by subst h; exact sl_list
theorem k_slt (h : X.K = K := by rfl) : SlR X (rSlA K) := by subst h; exact sl_tupA
theorem k_sum (hc : X.calm = true) (h : X.K = K := by rfl) : CallR X (.builtin "sum") (rSum K) := by subst h; exact cr_sum hc
theorem k_max (hc : X.calm = true) (h : X.K = K := by rfl) : CallR X (.builtin "max") (rMax K) := by subst h; exact cr_max hc
theorem k_min (hc : X.calm = true) (h : X.K = K := by rfl) : CallR X (.builtin "min") (rMin K) := by subst h; exact cr_min hc
theorem k_all (hc : X.calm = true) (h : X.K = K := by rfl) : CallR X (.builtin "all") (rAll K) := by subst h; exact cr_all hc
theorem k_eqD (hu : X.A.units + 64 < cLine) (h : X.K = K := by rfl) : OpR X (compareOp .Eq) (rEqD K) := by subst h; exact op_eqD hu
theorem k_neD (hu : X.A.units + 64 < cLine) (h : X.K = K := by rfl) : OpR X (compareOp .NotEq) (rNeD K) := by subst h; exact op_neD hu
theorem k_fld {e : Expr} {ta : TE} {f : Str} {pos : Pos} (he : PE X e ta) (hb : attributeBase e f X.env (eval e X.env) = eval e X.env) (h : X.K = K := by rfl) : PE X (.Attribute e f pos) (tFld K ta f) := by subst h; exact pe_fld he hb
theorem k_pil {tg l : Expr} {tl : TE} (hl : PE X l tl) (h : X.K = K := by rfl) : PI X tg l (iList K tl) := by subst h; exact pi_list hl
theorem k_pit {tg l : Expr} {tl : TE} (hl : PE X l tl) (h : X.K = K := by rfl) : PI X tg l (iTup K tl) := by subst h; exact pi_tup hl
theorem k_piz {e e2 : Expr} {ta : TA} {p pos tpos : Pos} {elts : List Expr} {kk : Nat} (hg : Gl X "zip") (hm : X.mg "zip" = none) (ha : PA X [e, e2] ta) (h : X.K = K := by rfl)
    (hs : starEach [e, e2] X.env = (false, eval e X.env) :: starEach [e2] X.env := by rfl) (hpl : (backTo pos (starEach [e2] X.env)).any (·.1) = false := by rfl) :
    PI X (.Tuple elts kk tpos) (.Call (.Name "zip" p) [e, e2] [] pos) (RZ.iZipA K ta) := by subst h; exact RZ.pi_zipA hg hm ha hs hpl
theorem k_tup {es : List Expr} {k : Nat} {t : TGs} {n : Nat} {pos : Pos} (hc : X.calm = true) (h : PGs X es t) (hk : X.K = K := by rfl)
    (hn : (assignEach es X.env).length = n := by rfl) (hst : (assignEach es X.env).findIdx? (·.1) = none := by rfl) : PG X (.Tuple es k pos) (gTup K n t) := by subst hk; exact pg_tup hc h hn hst
theorem k_bm0 {o : Expr} {to : TE} {name : Str} {apos cpos : Pos} {T id : String} {r : V → List V → Hp → VK → Prop} (pa : PlainAttrs T) (slot : Slot T name id) (hty : typeOf (.builtin id) = pure (.type "method_descriptor")) (hm : MtR X id r) (ho : PE X o to)
    (h : X.K = K := by rfl) (hbase : attributeBase o name X.env (eval o X.env) = eval o X.env := by rfl) (hline : (apos.endLine == cpos.line) = true := by rfl) : PE X (.Call (.Attribute o name apos) [] [] cpos) (tBM0 K T r to) := by
  subst h; exact pe_bm0 pa slot hty hm ho hbase hline
theorem k_bm {o e : Expr} {es : List Expr} {to : TE} {t : TA} {name : Str} {apos cpos : Pos} {T id : String} {r : V → List V → Hp → VK → Prop} (pa : PlainAttrs T) (slot : Slot T name id) (hty : typeOf (.builtin id) = pure (.type "method_descriptor")) (hm : MtR X id r) (ho : PE X o to) (ha : PA X (e :: es) t)
    (h : X.K = K := by rfl) (hbase : attributeBase o name X.env (eval o X.env) = eval o X.env := by rfl)
    (hfew : ((backTo cpos (starEach (e :: es) X.env)).all (fun x => !x.1) && (backToKw cpos (keywordEach [] X.env)).all (fun x => x.1.isSome)
      && decide ((e :: es).length + ([] : List Keyword).length + (if ([] : List Keyword).isEmpty then 0 else 1) < 30)) = true := by rfl)
    (hline : (apos.endLine == cpos.line) = true := by rfl) (hs : starEach (e :: es) X.env = (false, eval e X.env) :: starEach es X.env := by rfl) (hplain : (backTo cpos (starEach es X.env)).any (·.1) = false := by rfl) :
    PE X (.Call (.Attribute o name apos) (e :: es) [] cpos) (tBM K T r to t) := by
  subst h; exact pe_bm pa slot hty hm ho ha hbase hfew hline hs hplain
end
end TN
set_option Elab.async false
set_option linter.all false
set_option maxRecDepth 100000
set_option maxHeartbeats 4000000
/-! W2: looks at things, small reckonings. -/
namespace TN
open PySem PySem.Spec PyProof.Rows L2
section
variable {P : Program} {w : World} {K : PySem.W.Frag} {mg : Str → Option Value} {base : Heap}
theorem kit_ii {K : PySem.W.Frag} : PySem.W.kitOne K (.type "int") (.type "int") = some true := kit_ty (by decide +kernel)
theorem kit_ib {K : PySem.W.Frag} : PySem.W.kitOne K (.type "int") (.type "bool") = some false := kit_ty (by decide +kernel)
theorem kit_tt {K : PySem.W.Frag} : PySem.W.kitOne K (.type "tuple") (.type "tuple") = some true := kit_ty (by decide +kernel)
theorem kit_ss {K : PySem.W.Frag} : PySem.W.kitOne K (.type "str") (.type "str") = some true := kit_ty (by decide +kernel)
def spIsInt : Sp := fun vs H Q _ => ∃ i : Int, vs = [.int i] ∧ Q (.bl true) H
/-! is_integer: slots 0 thing; calls [] -/
abbrev N_is_integer : List Str := ["thing"]
theorem sc_is_integer : FnScope N_is_integer ["thing"] (defScope s_is_integer) := ⟨rfl, rfl, rfl, by decide +kernel, rfl, by decide +kernel, by decide +kernel⟩
theorem ok_is_integer (W : Wd K mg) : Ok P w K mg base 1 "is_integer" ["thing"] spIsInt := by
  have sc := sc_is_integer
  refine Ok.mk' W.F_is_integer W.g_is_integer sc (fun vs H Q E h => ?_) (fun _ _ _ _ _ _ us hl => match us, hl with | [_], _ => rfl) (fun cdv A outer s H vs Q E hr h => ?_)
  · obtain ⟨i, rfl, _⟩ := h
    rfl
  · obtain ⟨i, rfl, k⟩ := h
    refine ⟨_, (pss_one (ps_ret (pe_and (pe_callB (k_isi K) (by rfl) W.b_isinstance PyProof.Rows.boot_isinstance (pa_cons (pv 0) (pa_cons (pe_bltn (v := .ty "int") (by rfl) W.b_int PyProof.Rows.boot_int rfl) pa_nil))) (pe_one (pe_not (pe_callB (k_isi K) (by rfl) W.b_isinstance PyProof.Rows.boot_isinstance (pa_cons (pv 0) (pa_cons (pe_bltn (v := .ty "bool") (by rfl) W.b_bool PyProof.Rows.boot_bool rfl) pa_nil)))))))), ?_⟩
    refine ⟨_, rfl, _, _, _, _, _, rfl, .ty _, .base (.int i), kit_ii, _, rfl, ?_⟩
    refine iteT ?_
    refine ⟨_, rfl, _, _, _, _, _, rfl, .ty _, .base (.int i), kit_ib, _, rfl, ?_⟩
    exact k
def spIsWithin : Sp := fun vs H Q _ => ∃ i lo hi : Int, vs = [.int i, .int lo, .int hi] ∧ Q (.bl (decide (lo ≤ i ∧ i ≤ hi))) H
/-! is_within: slots 0 thing, 1 least, 2 most; calls ['G_is_integer'] -/
abbrev N_is_within : List Str := ["thing", "least", "most"]
theorem sc_is_within : FnScope N_is_within ["thing", "least", "most"] (defScope s_is_within) := ⟨rfl, rfl, rfl, by decide +kernel, rfl, by decide +kernel, by decide +kernel⟩
theorem ok_is_within (W : Wd K mg) : Ok P w K mg base 2 "is_within" ["thing", "least", "most"] spIsWithin := by
  have sc := sc_is_within
  have G_is_integer : Ok P w K mg base 1 "is_integer" ["thing"] spIsInt := ok_is_integer W
  refine Ok.mk' W.F_is_within W.g_is_within sc (fun vs H Q E h => ?_) (fun _ _ _ _ _ _ us hl => match us, hl with | [_, _, _], _ => rfl) (fun cdv A outer s H vs Q E hr h => ?_)
  · obtain ⟨i, lo, hi, rfl, _⟩ := h
    rfl
  · obtain ⟨i, lo, hi, rfl, k⟩ := h
    refine ⟨_, (pss_one (ps_ret (pe_and (pe_c G_is_integer (hr.mono (by decide)) (by rfl) (pa_cons (pv 0) pa_nil)) (pe_one (pe_chain op_le op_le (pv 1) (pv 0) (pv 2)))))), ?_⟩
    refine ⟨_, rfl, i, rfl, _, rfl, iteT ?_⟩
    refine ⟨_, rfl, _, rfl, _, _, rfl, rfl, _, rfl, ?_⟩
    refine ite2 (fun h1 => ?_) (fun h1 => ?_)
    · refine ⟨_, rfl, _, _, rfl, rfl, ?_⟩
      have e : decide (lo ≤ i ∧ i ≤ hi) = decide (i ≤ hi) := by
        have h2 : lo ≤ i := of_decide_eq_true h1
        simp [h2]
      rw [e] at k
      exact k
    · have e : decide (lo ≤ i ∧ i ≤ hi) = false := by
        have h2 : ¬ lo ≤ i := fun z => h1 (decide_eq_true z)
        simp [h2]
      rw [e] at k
      exact k
def spTup (n : Nat) : Sp := fun vs H Q _ => ∃ p xs, vs = [.ref p] ∧ H p = some (.tup xs) ∧ Q (.bl (decide (xs.length = n))) H
/-! is_pair: slots 0 thing; calls [] -/
abbrev N_is_pair : List Str := ["thing"]
theorem sc_is_pair : FnScope N_is_pair ["thing"] (defScope s_is_pair) := ⟨rfl, rfl, rfl, by decide +kernel, rfl, by decide +kernel, by decide +kernel⟩
theorem ok_is_pair (W : Wd K mg) : Ok P w K mg base 1 "is_pair" ["thing"] (spTup 2) := by
  have sc := sc_is_pair
  refine Ok.mk' W.F_is_pair W.g_is_pair sc (fun vs H Q E h => ?_) (fun _ _ _ _ _ _ us hl => match us, hl with | [_], _ => rfl) (fun cdv A outer s H vs Q E hr h => ?_)
  · obtain ⟨p, xs, rfl, _⟩ := h
    rfl
  · obtain ⟨p, xs, rfl, hp, k⟩ := h
    refine ⟨_, (pss_one (ps_ret (pe_and (pe_callB (k_isi K) (by rfl) W.b_isinstance PyProof.Rows.boot_isinstance (pa_cons (pv 0) (pa_cons (pe_bltn (v := .ty "tuple") (by rfl) W.b_tuple PyProof.Rows.boot_tuple rfl) pa_nil))) (pe_one (pe_cmpR op_eq (pe_callB (k_len K) (by rfl) W.b_len PySem.boot_len (pa_cons (pv 0) pa_nil)) pe_int (nomark _)))))), ?_⟩
    refine ⟨_, rfl, _, _, _, _, _, rfl, .ty _, .base (.tup hp), kit_tt, _, rfl, iteT ?_⟩
    refine ⟨_, rfl, p, xs, rfl, .inr (SqT.of hp), rfl, ?_⟩
    have e : decide (V.int ((xs.length : Nat) : Int) = V.int 2) = decide (xs.length = 2) := decide_eq_decide.mpr ⟨fun z => by injection z with z; omega, fun z => by rw [z]; rfl⟩
    rw [← e] at k
    exact k
/-! is_triple: slots 0 thing; calls [] -/
abbrev N_is_triple : List Str := ["thing"]
theorem sc_is_triple : FnScope N_is_triple ["thing"] (defScope s_is_triple) := ⟨rfl, rfl, rfl, by decide +kernel, rfl, by decide +kernel, by decide +kernel⟩
theorem ok_is_triple (W : Wd K mg) : Ok P w K mg base 1 "is_triple" ["thing"] (spTup 3) := by
  have sc := sc_is_triple
  refine Ok.mk' W.F_is_triple W.g_is_triple sc (fun vs H Q E h => ?_) (fun _ _ _ _ _ _ us hl => match us, hl with | [_], _ => rfl) (fun cdv A outer s H vs Q E hr h => ?_)
  · obtain ⟨p, xs, rfl, _⟩ := h
    rfl
  · obtain ⟨p, xs, rfl, hp, k⟩ := h
    refine ⟨_, (pss_one (ps_ret (pe_and (pe_callB (k_isi K) (by rfl) W.b_isinstance PyProof.Rows.boot_isinstance (pa_cons (pv 0) (pa_cons (pe_bltn (v := .ty "tuple") (by rfl) W.b_tuple PyProof.Rows.boot_tuple rfl) pa_nil))) (pe_one (pe_cmpR op_eq (pe_callB (k_len K) (by rfl) W.b_len PySem.boot_len (pa_cons (pv 0) pa_nil)) pe_int (nomark _)))))), ?_⟩
    refine ⟨_, rfl, _, _, _, _, _, rfl, .ty _, .base (.tup hp), kit_tt, _, rfl, iteT ?_⟩
    refine ⟨_, rfl, p, xs, rfl, .inr (SqT.of hp), rfl, ?_⟩
    have e : decide (V.int ((xs.length : Nat) : Int) = V.int 3) = decide (xs.length = 3) := decide_eq_decide.mpr ⟨fun z => by injection z with z; omega, fun z => by rw [z]; rfl⟩
    rw [← e] at k
    exact k
/-- all of a tuple are ints -/
def spAreInts : Sp := fun vs H Q _ => ∃ (p : Addr) (ns : List Int) (m : Int), vs = [.ref p, .int m] ∧ H p = some (.tup (ns.map V.int)) ∧ (ns.length : Int) = m ∧ ns.length ≤ 1000000 ∧ ∀ H', Same H H' → Q (.bl true) H'
theorem all_true {bs : List V} {n : Nat} (h : bs.length = n) (e : ∀ (j : Nat) (y : V), bs[j]? = some y → y = .bl true) : bs = (List.replicate n true).map V.bl := by
  refine eq_map (by simp [h]) fun j y q => ⟨true, ?_, e j y q⟩
  have := (List.getElem?_eq_some_iff.mp q).1
  rw [List.getElem?_replicate, if_pos (by omega)]
theorem all_id (n : Nat) : (List.replicate n true).all id = true := by
  simp [List.all_eq_true]
/-! are_integers: slots 0 thing, 1 many, 2 item; calls ['G_is_integer'] -/
abbrev N_are_integers : List Str := ["thing", "many", "item"]
theorem sc_are_integers : FnScope N_are_integers ["thing", "many"] (defScope s_are_integers) := ⟨rfl, rfl, rfl, by decide +kernel, rfl, by decide +kernel, by decide +kernel⟩
theorem ok_are_integers (W : Wd K mg) : Ok P w K mg base 2 "are_integers" ["thing", "many"] spAreInts := by
  have sc := sc_are_integers
  have G_is_integer : Ok P w K mg base 1 "is_integer" ["thing"] spIsInt := ok_is_integer W
  refine Ok.mk' W.F_are_integers W.g_are_integers sc (fun vs H Q E h => ?_) (fun _ _ _ _ _ _ us hl => match us, hl with | [_, _], _ => rfl) (fun cdv A outer s H vs Q E hr h => ?_)
  · obtain ⟨p, ns, m, rfl, _⟩ := h
    rfl
  · obtain ⟨p, ns, m, rfl, hp, hm, hn, k⟩ := h
    refine ⟨_, (pss_one (ps_ret (pe_and (pe_callB (k_isi K) (by rfl) W.b_isinstance PyProof.Rows.boot_isinstance (pa_cons (pv 0) (pa_cons (pe_bltn (v := .ty "tuple") (by rfl) W.b_tuple PyProof.Rows.boot_tuple rfl) pa_nil))) (pe_and (pe_cmpR op_eq (pe_callB (k_len K) (by rfl) W.b_len PySem.boot_len (pa_cons (pv 0) pa_nil)) (pv 1) (nomark _)) (pe_one (pe_callB (k_all K rfl) (by rfl) W.b_all PyProof.Rows.boot_all (pa_cons (pe_lc (own := [("item", 2)]) (g := gName 2) rfl sc.nd (k_pit K (pv 0)) (blkOk_by (N := N_are_integers) (sc := defScope s_are_integers) (by decide +kernel))  (fun _ _ _ _ _ => (pg_name (i := 2) sc.nd rfl (Or.inl rfl))) (fun _ _ _ _ _ => pts_nil) (fun _ _ _ _ _ => (pe_c G_is_integer (hr.mono (by decide)) (by rfl) (pa_cons (pv 2) pa_nil)))) pa_nil))))))), ?_⟩
    refine ⟨_, rfl, _, _, _, _, _, rfl, .ty _, .base (.tup hp), kit_tt, _, rfl, iteT ?_⟩
    refine ⟨_, rfl, p, _, rfl, .inr (SqT.of hp), _, rfl, rfl, ?_⟩
    rw [List.length_map, hm]
    refine ⟨_, rfl, ?_⟩
    rw [decide_eq_true (show V.int m = V.int m from rfl)]
    refine iteT ?_
    refine ⟨_, rfl, p, rfl, ⟨_, SqT.of hp⟩, fun D hD => ?_⟩
    refine lc_tupG (fun _ v _ => v = .bl true) (SqT.of hp) hD (by simpa using hn) (fun _ _ _ _ _ h => h) (fun i x H1 acc Qy hx s1 hA q => ⟨rfl, ?_⟩) (fun H1 ys s1 hA hl hy => ?_)
    · obtain ⟨v, rfl⟩ : ∃ v, x = V.int v := by
        rw [List.getElem?_map] at hx
        cases e : ns[i]? with
        | none => rw [e] at hx; cases hx
        | some v => rw [e] at hx; exact ⟨v, (Option.some.inj hx).symm⟩
      exact ⟨_, rfl, v, rfl, q _ _ Xt.refl hA rfl⟩
    · refine ⟨D, List.replicate ys.length true, rfl, SqL.of (by rw [hA, ← all_true rfl hy]), ?_⟩
      rw [all_id]
      exact k _ s1
def spAreWithin : Sp := fun vs H Q _ => ∃ (p : Addr) (ns : List Int) (m lo hi : Int), vs = [.ref p, .int m, .int lo, .int hi] ∧ H p = some (.tup (ns.map V.int)) ∧ (ns.length : Int) = m ∧ ns.length ≤ 1000000 ∧ (∀ n ∈ ns, lo ≤ n ∧ n ≤ hi) ∧ ∀ H', Same H H' → Q (.bl true) H'
theorem ints_at {ns : List Int} {i : Nat} {x : V} (hx : (ns.map V.int)[i]? = some x) : ∃ v, ns[i]? = some v ∧ x = V.int v := by
  rw [List.getElem?_map] at hx
  cases e : ns[i]? with
  | none => rw [e] at hx; cases hx
  | some v => rw [e] at hx; exact ⟨v, rfl, (Option.some.inj hx).symm⟩
/-! are_within: slots 0 thing, 1 many, 2 least, 3 most, 4 item; calls ['G_are_integers'] -/
abbrev N_are_within : List Str := ["thing", "many", "least", "most", "item"]
theorem sc_are_within : FnScope N_are_within ["thing", "many", "least", "most"] (defScope s_are_within) := ⟨rfl, rfl, rfl, by decide +kernel, rfl, by decide +kernel, by decide +kernel⟩
theorem ok_are_within (W : Wd K mg) : Ok P w K mg base 3 "are_within" ["thing", "many", "least", "most"] spAreWithin := by
  have sc := sc_are_within
  have G_are_integers : Ok P w K mg base 2 "are_integers" ["thing", "many"] spAreInts := ok_are_integers W
  refine Ok.mk' W.F_are_within W.g_are_within sc (fun vs H Q E h => ?_) (fun _ _ _ _ _ _ us hl => match us, hl with | [_, _, _, _], _ => rfl) (fun cdv A outer s H vs Q E hr h => ?_)
  · obtain ⟨p, ns, m, lo, hi, rfl, _⟩ := h
    rfl
  · obtain ⟨p, ns, m, lo, hi, rfl, hp, hm, hn, hb, k⟩ := h
    refine ⟨_, (pss_one (ps_ret (pe_and (pe_c G_are_integers (hr.mono (by decide)) (by rfl) (pa_cons (pv 0) (pa_cons (pv 1) pa_nil))) (pe_one (pe_callB (k_all K rfl) (by rfl) W.b_all PyProof.Rows.boot_all (pa_cons (pe_lc (own := [("item", 4)]) (g := gName 4) rfl sc.nd (k_pit K (pv 0)) (blkOk_by (N := N_are_within) (sc := defScope s_are_within) (by decide +kernel))  (fun _ _ _ _ _ => (pg_name (i := 4) sc.nd rfl (Or.inl rfl))) (fun _ _ _ _ _ => pts_nil) (fun _ _ _ _ _ => (pe_chain op_le op_le (pv 2) (pv 4) (pv 3)))) pa_nil)))))), ?_⟩
    refine ⟨_, rfl, _, rfl, p, ns, m, rfl, hp, hm, hn, fun H0 s0 => ⟨_, rfl, iteT ?_⟩⟩
    refine ⟨_, rfl, p, rfl, ⟨_, SqT.of (s0 _ _ hp)⟩, fun D hD => ?_⟩
    refine lc_tupG (fun _ v _ => v = .bl true) (SqT.of (s0 _ _ hp)) hD (by simpa using hn) (fun _ _ _ _ _ h => h) (fun i x H1 acc Qy hx s1 hA q => ⟨rfl, ?_⟩) (fun H1 ys s1 hA hl hy => ?_)
    · obtain ⟨v, hv, rfl⟩ := ints_at hx
      obtain ⟨b1, b2⟩ := hb v (List.mem_of_getElem? hv)
      refine ⟨_, rfl, _, rfl, _, _, rfl, rfl, _, rfl, ?_⟩
      rw [decide_eq_true b1]
      refine iteT ⟨_, rfl, _, _, rfl, rfl, ?_⟩
      exact q _ _ Xt.refl hA (congrArg V.bl (decide_eq_true b2))
    · refine ⟨D, List.replicate ys.length true, rfl, SqL.of (by rw [hA, ← all_true rfl hy]), ?_⟩
      rw [all_id]
      exact k _ (s0.trans s1)
/-- dot -/
def dotI : List Int → List Int → Int
  | a :: as, b :: bs => a * b + dotI as bs
  | _, _ => 0
theorem dotI_sum : ∀ as bs : List Int, ((as.zip bs).map fun p => p.1 * p.2).sum = dotI as bs
  | [], _ => by simp [dotI]
  | _ :: _, [] => by simp [dotI]
  | a :: as, b :: bs => by
    simp only [List.zip_cons_cons, List.map_cons, List.sum_cons, dotI]
    rw [dotI_sum as bs]
/-- numbers of at most n bits -/
def Bits (n : Nat) (i : Int) : Prop := i.natAbs < 2 ^ n
def spDot : Sp := fun vs H Q _ => ∃ (p q : Addr) (as bs : List Int), vs = [.ref p, .ref q] ∧ H p = some (.tup (as.map V.int)) ∧ H q = some (.tup (bs.map V.int)) ∧ as.length ≤ 1000000 ∧ (∀ a ∈ as, Bits 400000 a) ∧ (∀ b ∈ bs, Bits 400000 b) ∧
  ∀ H', Same H H' → Q (.int (dotI as bs)) H'
/-! dot: slots 0 row, 1 step, 2 one, 3 other; calls [] -/
abbrev N_dot : List Str := ["row", "step", "one", "other"]
theorem sc_dot : FnScope N_dot ["row", "step"] (defScope s_dot) := ⟨rfl, rfl, rfl, by decide +kernel, rfl, by decide +kernel, by decide +kernel⟩
theorem ok_dot (W : Wd K mg) : Ok P w K mg base 1 "dot" ["row", "step"] spDot := by
  have sc := sc_dot
  refine Ok.mk' W.F_dot W.g_dot sc (fun vs H Q E h => ?_) (fun _ _ _ _ _ _ us hl => match us, hl with | [_, _], _ => rfl) (fun cdv A outer s H vs Q E hr h => ?_)
  · obtain ⟨p, q, as, bs, rfl, _⟩ := h
    rfl
  · obtain ⟨p, q, as, bs, rfl, hp, hq, hn, ha, hb, k⟩ := h
    refine ⟨_, (pss_one (ps_ret (pe_callB (k_sum K rfl) (by rfl) W.b_sum PyProof.Rows.boot_sum (pa_cons (pe_lc (own := [("one", 2), ("other", 3)]) (g := gTup K 2 (gCons (gName 2) (gCons (gName 3) gNil))) rfl sc.nd (k_piz K (by rfl) W.b_zip (pa_cons (pv 0) (pa_cons (pv 1) pa_nil))) (blkOk_by (N := N_dot) (sc := defScope s_dot) (by decide +kernel))  (fun _ _ _ _ _ => (k_tup K rfl (pgs_cons (pg_name (i := 2) sc.nd rfl (Or.inl rfl)) (pgs_cons (pg_name (i := 3) sc.nd rfl (Or.inl rfl)) pgs_nil)))) (fun _ _ _ _ _ => pts_nil) (fun _ _ _ _ _ => (pe_op op_mulW (pv 2) (pv 3)))) pa_nil)))), ?_⟩
    refine ⟨_, rfl, _, rfl, p, q, _, _, rfl, .inr ⟨SqT.of hp, SqT.of hq, fun D hD => ?_⟩⟩
    refine lc_zipTG (fun i v _ => ∃ x y, as[i]? = some x ∧ bs[i]? = some y ∧ v = .int (x * y)) (SqT.of hp) (SqT.of hq) hD (by simpa using hn) (fun _ _ _ _ _ h => h) (fun i x y T H1 acc Qy hx hy s1 hA hT q => ?_) (fun H1 ys s1 hA hl hy => ?_)
    · obtain ⟨u, hu, rfl⟩ := ints_at hx
      obtain ⟨v, hv, rfl⟩ := ints_at hy
      refine ⟨T, _, rfl, SqT.of upd_same, rfl, _, _, rfl, _, _, rfl, rfl, rfl, ?_⟩
      refine ⟨_, rfl, _, rfl, _, _, rfl, rfl, wide_mul (ha u (List.mem_of_getElem? hu)) (hb v (List.mem_of_getElem? hv)) (by decide) (by decide) (by decide), ?_⟩
      exact q _ _ (Xt.new hT) (by rw [upd_ne (ne_of_none hA hT)]; exact hA) ⟨u, v, hu, hv, rfl⟩
    · have e : ys = ((as.zip bs).map fun p => p.1 * p.2).map V.int := by
        rw [List.map_map]
        refine eq_map (by rw [hl]; simp) fun j y q => ?_
        obtain ⟨u, v, hu, hv, rfl⟩ := hy j y q
        exact ⟨(u, v), by rw [List.getElem?_zip_eq_some]; exact ⟨hu, hv⟩, rfl⟩
      refine ⟨D, _, rfl, SqL.of (by rw [hA, e]), ?_⟩
      rw [dotI_sum]
      exact k _ s1
end
end TN
set_option Elab.async false
set_option linter.all false
set_option maxRecDepth 100000
set_option maxHeartbeats 4000000
/-! W3: divisor, fractions. -/
namespace TN
open PySem PySem.Spec PyProof.Rows L2
/-- the greatest divisor -/
def gcdI (a b : Int) : Int := (Int.gcd a b : Int)
theorem gcd_step {a b : Int} (ha : 0 ≤ a) (hb : 0 < b) : gcdI a b = gcdI b (a % b) := by
  unfold gcdI Int.gcd
  have e : (a % b).natAbs = a.natAbs % b.natAbs := by
    obtain ⟨m, rfl⟩ := Int.eq_ofNat_of_zero_le ha
    obtain ⟨n, rfl⟩ := Int.eq_ofNat_of_zero_le (Int.le_of_lt hb)
    rw [← Int.natCast_emod]; rfl
  rw [e, Nat.gcd_comm b.natAbs, ← Nat.gcd_rec, Nat.gcd_comm]
theorem gcd_zero {a : Int} (ha : 0 ≤ a) : gcdI a 0 = a := by
  unfold gcdI
  rw [Int.gcd_zero_right]
  omega
theorem gcd_pos {a b : Int} (hb : 0 < b) : 0 < gcdI a b := by
  unfold gcdI
  have : 0 < Int.gcd a b := Nat.gcd_pos_of_pos_right _ (by omega)
  omega
theorem gcd_le {a b : Int} (hb : 0 < b) : gcdI a b ≤ b := by
  unfold gcdI
  have : Int.gcd a b ≤ b.natAbs := Nat.gcd_le_right _ (by omega)
  omega
theorem gcd_dvdl (a b : Int) : gcdI a b ∣ a := Int.gcd_dvd_left ..
theorem gcd_dvdr (a b : Int) : gcdI a b ∣ b := Int.gcd_dvd_right ..
section
variable {P : Program} {w : World} {K : PySem.W.Frag} {mg : Str → Option Value} {base : Heap}
def spDivisor : Sp := fun vs H Q _ => ∃ a b : Int, vs = [.int a, .int b] ∧ Q (.int (gcdI a b)) H
/-! divisor: slots 0 one, 1 other; calls [] -/
abbrev N_divisor : List Str := ["one", "other"]
theorem sc_divisor : FnScope N_divisor ["one", "other"] (defScope s_divisor) := ⟨rfl, rfl, rfl, by decide +kernel, rfl, by decide +kernel, by decide +kernel⟩
theorem ok_divisor (W : Wd K mg) : Ok P w K mg base 1 "divisor" ["one", "other"] spDivisor := by
  have sc := sc_divisor
  refine Ok.mk' W.F_divisor W.g_divisor sc (fun vs H Q E h => ?_) (fun _ _ _ _ _ _ us hl => match us, hl with | [_, _], _ => rfl) (fun cdv A outer s H vs Q E hr h => ?_)
  · obtain ⟨a, b, rfl, _⟩ := h
    rfl
  · obtain ⟨a, b, rfl, k⟩ := h
    refine ⟨_, (pss_cons (ps_par (i := 0) (j := 1) rfl sc.nd rfl rfl (by decide) rfl rfl (pa_cons (pe_callB call_abs (by rfl) W.b_abs PyProof.Rows.boot_abs (pa_cons (pv 0) pa_nil)) (pa_cons (pe_callB call_abs (by rfl) W.b_abs PyProof.Rows.boot_abs (pa_cons (pv 1) pa_nil)) pa_nil)) rfl)
    (pss_cons (ps_while PassesOwn.never (pt_cmpR op_gt (pv 1) pe_int (nomark _))
      (pss_one (ps_par (i := 0) (j := 1) rfl sc.nd rfl rfl (by decide) rfl rfl (pa_cons (pv 1) (pa_cons (pe_op op_mod (pv 0) (pv 1)) pa_nil)) rfl)))
    (pss_one (ps_ret (pv 0))))), ?_⟩
    refine ⟨_, rfl, _, rfl, _, rfl, _, rfl, _, _, rfl, ?_⟩
    have e0 : gcdI a b = gcdI (if a < 0 then -a else a) (if b < 0 then -b else b) := by
      have na : ∀ x : Int, (if x < 0 then -x else x) = (x.natAbs : Int) := fun x => by split <;> omega
      rw [na, na]
      unfold gcdI Int.gcd
      rw [Int.natAbs_natCast, Int.natAbs_natCast]
    rw [e0] at k
    have h1 : 0 ≤ (if a < 0 then -a else a) := by split <;> omega
    have h2 : 0 ≤ (if b < 0 then -b else b) := by split <;> omega
    generalize (if a < 0 then -a else a) = x at *
    generalize (if b < 0 then -b else b) = y at *
    refine ⟨fun m σ H' => ∃ u v : Int, σ = [some (.int u), some (.int v)] ∧ 0 ≤ u ∧ 0 ≤ v ∧ m = v.toNat ∧ H' = H ∧ gcdI u v = gcdI x y, ⟨_, x, y, rfl, h1, h2, rfl, rfl, rfl⟩, ?_⟩
    rintro m σ H' ⟨u, v, rfl, hu, hv, rfl, rfl, e⟩
    refine ⟨_, rfl, _, _, rfl, rfl, _, rfl, ?_⟩
    refine ite2 (fun hc => ?_) (fun hc => ?_)
    · have hc' : 0 < v := of_decide_eq_true hc
      refine ⟨fun σ' H'' => ∃ u' v' : Int, σ' = [some (.int u'), some (.int v')] ∧ 0 ≤ u' ∧ 0 ≤ v' ∧ v'.toNat < v.toNat ∧ H'' = H' ∧ gcdI u' v' = gcdI x y, fun σ' H'' ⟨u', v', e1, e2, e3, e4, e5, e6⟩ => ⟨_, e4, u', v', e1, e2, e3, rfl, e5, e6⟩, ?_⟩
      refine ⟨_, rfl, _, rfl, _, rfl, _, _, rfl, rfl, hc', _, _, rfl, ?_⟩
      refine ⟨v, u % v, rfl, hv, Int.emod_nonneg _ (by omega), ?_, rfl, by rw [← gcd_step hu hc', e]⟩
      have := Int.emod_lt_of_pos u hc'
      have := Int.emod_nonneg u (show v ≠ 0 by omega)
      omega
    · have hc' : ¬ 0 < v := fun z => hc (decide_eq_true z)
      have : v = 0 := by omega
      subst this
      refine ⟨_, rfl, ?_⟩
      rw [gcd_zero hu] at e
      rw [e]
      exact k
def lcmI (a b : Int) : Int := a / gcdI a b * b
def spMultiple : Sp := fun vs H Q _ => ∃ a b : Int, vs = [.int a, .int b] ∧ 0 < b ∧ Bits 9000 b ∧ Bits 400000 a ∧ 0 ≤ a ∧ Q (.int (lcmI a b)) H
theorem Bits.mono {m n : Nat} {i : Int} (h : Bits m i) (e : m ≤ n) : Bits n i := Nat.lt_of_lt_of_le h (Nat.pow_le_pow_right (by decide) e)
theorem Bits.le {n : Nat} {i j : Int} (h : Bits n j) (h0 : 0 ≤ i) (h1 : i ≤ j) : Bits n i := wide_le h0 h1 h
theorem Bits.div {n : Nat} {i j : Int} (h : Bits n i) (hj : 0 < j) : Bits n (i / j) := by
  unfold Bits at *
  have h1 : (i / j).natAbs ≤ i.natAbs := by
    have := Int.natAbs_ediv_le_natAbs i j
    exact this
  omega
/-! multiple: slots 0 one, 1 other; calls ['G_divisor'] -/
abbrev N_multiple : List Str := ["one", "other"]
theorem sc_multiple : FnScope N_multiple ["one", "other"] (defScope s_multiple) := ⟨rfl, rfl, rfl, by decide +kernel, rfl, by decide +kernel, by decide +kernel⟩
theorem ok_multiple (W : Wd K mg) : Ok P w K mg base 2 "multiple" ["one", "other"] spMultiple := by
  have sc := sc_multiple
  have G_divisor : Ok P w K mg base 1 "divisor" ["one", "other"] spDivisor := ok_divisor W
  refine Ok.mk' W.F_multiple W.g_multiple sc (fun vs H Q E h => ?_) (fun _ _ _ _ _ _ us hl => match us, hl with | [_, _], _ => rfl) (fun cdv A outer s H vs Q E hr h => ?_)
  · obtain ⟨a, b, rfl, _⟩ := h
    rfl
  · obtain ⟨a, b, rfl, hb, b1, b2, h0, k⟩ := h
    refine ⟨_, (pss_one (ps_ret (pe_op op_mulW (pe_op op_fdivW (pv 0) (pe_c G_divisor (hr.mono (by decide)) (by rfl) (pa_cons (pv 0) (pa_cons (pv 1) pa_nil)))) (pv 1)))), ?_⟩
    refine ⟨_, rfl, _, rfl, _, rfl, a, b, rfl, _, _, rfl, rfl, wide_div (gcd_pos hb) (Bits.le b1 (Int.le_of_lt (gcd_pos hb)) (gcd_le hb)) (by decide) (by decide), _, rfl, _, _, rfl, rfl, ?_, ?_⟩
    · exact wide_mul (Bits.div b2 (gcd_pos hb)) b1 (by decide) (by decide) (by decide)
    · exact k
/-- a fraction in lowest terms -/
def frd (t b : Int) : Int × Int := (t / gcdI t b, b / gcdI t b)
abbrev dF (f : Int × Int) : PyData := .tuple [.int f.1, .int f.2]
def spFraction : Sp := fun vs H Q _ => ∃ a b : Int, vs = [.int a, .int b] ∧ 0 < b ∧ Bits 9000 b ∧ ∀ v H', Same H H' → TD H' v (dF (frd a b)) → Q v H'
/-! fraction: slots 0 top, 1 bottom, 2 part; calls ['G_divisor'] -/
abbrev N_fraction : List Str := ["top", "bottom", "part"]
theorem sc_fraction : FnScope N_fraction ["top", "bottom"] (defScope s_fraction) := ⟨rfl, rfl, rfl, by decide +kernel, rfl, by decide +kernel, by decide +kernel⟩
theorem ok_fraction (W : Wd K mg) : Ok P w K mg base 2 "fraction" ["top", "bottom"] spFraction := by
  have sc := sc_fraction
  have G_divisor : Ok P w K mg base 1 "divisor" ["one", "other"] spDivisor := ok_divisor W
  refine Ok.mk' W.F_fraction W.g_fraction sc (fun vs H Q E h => ?_) (fun _ _ _ _ _ _ us hl => match us, hl with | [_, _], _ => rfl) (fun cdv A outer s H vs Q E hr h => ?_)
  · obtain ⟨a, b, rfl, _⟩ := h
    rfl
  · obtain ⟨a, b, rfl, hb, b1, k⟩ := h
    have hd : CDivW a (gcdI a b) := wide_div (gcd_pos hb) (Bits.le b1 (Int.le_of_lt (gcd_pos hb)) (gcd_le hb)) (by decide) (by decide)
    have hd2 : CDivW b (gcdI a b) := hd
    refine ⟨_, (pss_cons (ps_set (i := 2) sc.nd rfl (Or.inl rfl) (pe_c G_divisor (hr.mono (by decide)) (by rfl) (pa_cons (pv 0) (pa_cons (pv 1) pa_nil))))
    (pss_cons (ps_if (pt_cmpR op_lt (pv 1) pe_int (nomark _))
      (pss_one (ps_set (i := 2) sc.nd rfl (Or.inl rfl) (pe_un un_neg (pv 2))))
      pss_nil)
    (pss_one (ps_ret (pe_tup (pa_cons (pe_op op_fdivW (pv 0) (pv 2)) (pa_cons (pe_op op_fdivW (pv 1) (pv 2)) pa_nil))))))), ?_⟩
    refine ⟨_, rfl, _, rfl, a, b, rfl, ?_⟩
    refine ⟨_, rfl, _, _, rfl, rfl, _, rfl, ?_⟩
    rw [decide_eq_false (show ¬ b < 0 by omega)]
    refine iteF ?_
    refine ⟨_, rfl, _, rfl, _, _, rfl, rfl, hd, _, rfl, _, rfl, _, _, rfl, rfl, hd2, by show 2 ≤ sizeLine; decide, fun p hp => ?_⟩
    exact k _ _ (Same.upd hp) (.tup upd_same (.cons (.int _) (.cons (.int _) .nil)))
def cbot (fs : List (Int × Int)) : Int := fs.foldl (fun a f => lcmI a f.2) 1
def FrOk (fs : List (Int × Int)) : Prop := fs.length ≤ 30 ∧ ∀ f ∈ fs, 0 < f.2 ∧ Bits 8100 f.2 ∧ Bits 8100 f.1
/-- walked: a list or a tuple -/
def iSeq (K : PySem.W.Frag) (tl : TE) : TI := fun σ H R => tl σ H fun x H1 => ∃ a, x = .ref a ∧ (((∃ xs, SqL K H1 a xs) ∧ R (Itl K a) H1) ∨ ((∃ xs, SqT K H1 a xs) ∧ R (Itt K a) H1))
theorem pi_seq {X : Cx} {tg l : Expr} {tl : TE} (hl : PE X l tl) : PI X tg l (iSeq X.K tl) := by
  refine ⟨fun pins s σ H R I h => ?_⟩
  refine thn (hl.run pins s σ H _ I h) fun v s1 ⟨x, H1, I1, r1, q1⟩ => ?_
  obtain ⟨a, e, q1⟩ := q1
  subst e
  cases r1
  rcases q1 with ⟨⟨xs, hq⟩, q⟩ | ⟨⟨xs, hq⟩, q⟩
  · obtain ⟨its, rv, p, hz⟩ := I1.list hq
    refine wpAny_pyIter_list p.isList ?_
    refine ⟨s1.heap.objs.size, [s1.heap.objs.size], _, _, H1, rfl, I1.kept (t' := s1.toks) fun b o e => Heap.get?_push_of_some _ e, turn_list a _, ⟨_, Heap.get?_push_size _ rfl, rfl, rfl⟩, fun b hb => ?_, q⟩
    have e : b = s1.heap.objs.size := by simpa using hb
    subst e
    exact I1.fpOk (Nat.le_refl _) (I1.hok.fresh (Nat.le_refl _))
  · obtain ⟨its, rv, p, hz⟩ := I1.tuple hq
    refine wpAny_pyIter_tuple (show s1.heap.IsTuple a its.toArray from p) ?_
    refine ⟨s1.heap.objs.size, [s1.heap.objs.size], _, _, H1, rfl, I1.kept (t' := s1.toks) fun b o e => Heap.get?_push_of_some _ e, turn_tuple a _, ⟨_, Heap.get?_push_size _ rfl, rfl, rfl⟩, fun b hb => ?_, q⟩
    have e : b = s1.heap.objs.size := by simpa using hb
    subst e
    exact I1.fpOk (Nat.le_refl _) (I1.hok.fresh (Nat.le_refl _))
theorem k_pis (K : PySem.W.Frag) {X : Cx} {tg l : Expr} {tl : TE} (hl : PE X l tl) (h : X.K = K := by rfl) : PI X tg l (iSeq K tl) := by subst h; exact pi_seq hl
/-- data in a tuple or a list -/
def TLD (H : Hp) (v : V) (ds : List PyData) : Prop := ∃ p xs, v = .ref p ∧ (H p = some (.lst xs) ∨ H p = some (.tup xs)) ∧ TDs H xs ds
theorem TLD.of {H : Hp} {v : V} {ds : List PyData} (h : TD H v (.tuple ds)) : TLD H v ds := let ⟨p, xs, e, h1, h2⟩ := h.tup_inv; ⟨p, xs, e, .inr h1, h2⟩
def spCommon : Sp := fun vs H Q _ => ∃ (v : V) (fs : List (Int × Int)), vs = [v] ∧ TLD H v (fs.map dF) ∧ FrOk fs ∧ Q (.int (cbot fs)) H
theorem cbot_snoc (fs : List (Int × Int)) (f : Int × Int) : cbot (fs ++ [f]) = lcmI (cbot fs) f.2 := by
  unfold cbot; rw [List.foldl_append]; rfl
theorem lcm_pos {a b : Int} (ha : 0 < a) (hb : 0 < b) : 0 < lcmI a b := by
  unfold lcmI
  obtain ⟨k, hk⟩ := gcd_dvdl a b
  have h1 : a / gcdI a b = k := by
    have := gcd_pos (a := a) hb
    rw [Int.ediv_eq_of_eq_mul_right (by omega) hk]
  rw [h1]
  refine Int.mul_pos ?_ hb
  have h2 := gcd_pos (a := a) hb
  by_cases z : 0 < k
  · exact z
  · have : gcdI a b * k ≤ 0 := by
      have : 0 ≤ gcdI a b * (-k) := Int.mul_nonneg (by omega) (by omega)
      rw [Int.mul_neg] at this; omega
    omega
theorem lcm_le {a b : Int} (ha : 0 < a) (hb : 0 < b) : lcmI a b ≤ a * b := by
  unfold lcmI
  refine Int.mul_le_mul_of_nonneg_right ?_ (by omega)
  exact Int.ediv_le_self _ (by omega)
theorem cbot_ok : ∀ (n : Nat) (fs : List (Int × Int)), fs.length ≤ n → (∀ f ∈ fs, 0 < f.2 ∧ Bits 8100 f.2) → 0 < cbot fs ∧ Bits (8100 * fs.length + 1) (cbot fs)
  | 0, fs, h, _ => by
    have : fs = [] := List.length_eq_zero_iff.mp (by omega)
    subst this
    exact ⟨by decide, show (1 : Int).natAbs < 2 ^ 1 by decide⟩
  | n + 1, fs, h, hf => by
    rcases List.eq_nil_or_concat fs with rfl | ⟨gs, f, rfl⟩
    · exact ⟨by decide, show (1 : Int).natAbs < 2 ^ 1 by decide⟩
    · rw [List.concat_eq_append] at *
      rw [List.length_append, List.length_singleton] at *
      obtain ⟨h1, h2⟩ := cbot_ok n gs (by omega) fun g hg => hf g (List.mem_append_left _ hg)
      obtain ⟨h3, h4⟩ := hf f (List.mem_append_right _ (List.mem_singleton.mpr rfl))
      rw [cbot_snoc]
      refine ⟨lcm_pos h1 h3, ?_⟩
      refine Bits.le ?_ (Int.le_of_lt (lcm_pos h1 h3)) (lcm_le h1 h3)
      have := wide_lt h2 h4
      rw [show 8100 * (gs.length + 1) + 1 = 8100 * gs.length + 1 + 8100 by omega]
      exact this
theorem TDs.fracs {H : Hp} {xs : List V} {fs : List (Int × Int)} (h : TDs H xs (fs.map dF)) {i : Nat} {x : V} (e : xs[i]? = some x) : ∃ f p, fs[i]? = some f ∧ x = .ref p ∧ H p = some (.tup [.int f.1, .int f.2]) := by
  obtain ⟨d, hd, ht⟩ := h.get' e
  rw [List.getElem?_map] at hd
  cases q : fs[i]? with
  | none => rw [q] at hd; cases hd
  | some f =>
    rw [q] at hd
    cases hd
    obtain ⟨p, ys, rfl, hp, hs⟩ := ht.tup_inv
    refine ⟨f, p, rfl, rfl, ?_⟩
    rw [hp]
    cases hs with
    | cons h1 h2 =>
      cases h2 with
      | cons h2 h3 =>
        cases h3
        rw [h1.int_inv, h2.int_inv]
/-! common_bottom: slots 0 shares, 1 found, 2 top, 3 bottom; calls ['G_multiple'] -/
abbrev N_common_bottom : List Str := ["shares", "found", "top", "bottom"]
theorem sc_common_bottom : FnScope N_common_bottom ["shares"] (defScope s_common_bottom) := ⟨rfl, rfl, rfl, by decide +kernel, rfl, by decide +kernel, by decide +kernel⟩
theorem ok_common_bottom (W : Wd K mg) : Ok P w K mg base 3 "common_bottom" ["shares"] spCommon := by
  have sc := sc_common_bottom
  have G_multiple : Ok P w K mg base 2 "multiple" ["one", "other"] spMultiple := ok_multiple W
  refine Ok.mk' W.F_common_bottom W.g_common_bottom sc (fun vs H Q E h => ?_) (fun _ _ _ _ _ _ us hl => match us, hl with | [_], _ => rfl) (fun cdv A outer s H vs Q E hr h => ?_)
  · obtain ⟨v, fs, rfl, _⟩ := h
    rfl
  · obtain ⟨v, fs, rfl, ht, ⟨hl, hf⟩, k⟩ := h
    obtain ⟨p, xs, rfl, hp, hs⟩ := id ht
    have lxs : xs.length = fs.length := by rw [hs.length, List.length_map]
    refine ⟨_, (pss_cons (ps_set (i := 1) sc.nd rfl (Or.inl rfl) pe_int)
    (pss_cons (ps_for PassesOwn.never rfl (k_pis K (pv 0)) (k_tup K rfl (pgs_cons (pg_name (i := 2) sc.nd rfl (Or.inl rfl)) (pgs_cons (pg_name (i := 3) sc.nd rfl (Or.inl rfl)) pgs_nil)))
      (pss_one (ps_set (i := 1) sc.nd rfl (Or.inl rfl) (pe_c G_multiple (hr.mono (by decide)) (by rfl) (pa_cons (pv 1) (pa_cons (pv 3) pa_nil))))))
    (pss_one (ps_ret (pv 1))))), ?_⟩
    refine ⟨_, rfl, p, rfl, ?_⟩
    rcases hp with hp | hp
    · refine .inl ⟨⟨_, SqL.of hp⟩, ?_⟩
      refine for_list (K := K) (a := p) (xs := xs) (fun i σ H' => ∃ a b : Option V, σ = [some (.ref p), some (.int (cbot (fs.take i))), a, b] ∧ H' = H) ⟨_, _, rfl, rfl⟩ (fun i σ H' _ ⟨_, _, _, e⟩ => by rw [e]; exact SqL.of hp) ?_ ?_
      · rintro i x σ H' hx ⟨a, b, rfl, rfl⟩
        obtain ⟨f, q, hf1, rfl, hq⟩ := hs.fracs hx
        have hi : i < fs.length := (List.getElem?_eq_some_iff.mp hf1).1
        have ht1 : fs.take (i + 1) = fs.take i ++ [f] := by rw [List.take_add_one, hf1]; rfl
        obtain ⟨h1, h2⟩ := cbot_ok fs.length (fs.take i) (by rw [List.length_take]; omega) fun g hg => ⟨(hf g (List.mem_of_mem_take hg)).1, (hf g (List.mem_of_mem_take hg)).2.1⟩
        obtain ⟨h3, h4, _⟩ := hf f (List.mem_of_getElem? hf1)
        refine ⟨q, _, rfl, SqT.of hq, rfl, _, _, rfl, _, _, rfl, rfl, ?_⟩
        refine ⟨_, rfl, _, rfl, cbot (fs.take i), f.2, rfl, h3, h4.mono (by decide), h2.mono ?_, Int.le_of_lt h1, ?_⟩
        · rw [List.length_take]; omega
        · exact ⟨some (.int f.1), some (.int f.2), by rw [ht1, cbot_snoc]; rfl, rfl⟩
      · rintro σ H' ⟨a, b, rfl, rfl⟩
        refine ⟨_, rfl, ?_⟩
        rw [lxs, List.take_length]
        exact k
    · refine .inr ⟨⟨_, SqT.of hp⟩, ?_⟩
      refine for_tup (K := K) (a := p) (xs := xs) (fun i σ H' => ∃ a b : Option V, σ = [some (.ref p), some (.int (cbot (fs.take i))), a, b] ∧ H' = H) ⟨_, _, rfl, rfl⟩ (fun i σ H' _ ⟨_, _, _, e⟩ => by rw [e]; exact SqT.of hp) ?_ ?_
      · rintro i x σ H' hx ⟨a, b, rfl, rfl⟩
        obtain ⟨f, q, hf1, rfl, hq⟩ := hs.fracs hx
        have hi : i < fs.length := (List.getElem?_eq_some_iff.mp hf1).1
        have ht1 : fs.take (i + 1) = fs.take i ++ [f] := by rw [List.take_add_one, hf1]; rfl
        obtain ⟨h1, h2⟩ := cbot_ok fs.length (fs.take i) (by rw [List.length_take]; omega) fun g hg => ⟨(hf g (List.mem_of_mem_take hg)).1, (hf g (List.mem_of_mem_take hg)).2.1⟩
        obtain ⟨h3, h4, _⟩ := hf f (List.mem_of_getElem? hf1)
        refine ⟨q, _, rfl, SqT.of hq, rfl, _, _, rfl, _, _, rfl, rfl, ?_⟩
        refine ⟨_, rfl, _, rfl, cbot (fs.take i), f.2, rfl, h3, h4.mono (by decide), h2.mono ?_, Int.le_of_lt h1, ?_⟩
        · rw [List.length_take]; omega
        · exact ⟨some (.int f.1), some (.int f.2), by rw [ht1, cbot_snoc]; rfl, rfl⟩
      · rintro σ H' ⟨a, b, rfl, rfl⟩
        refine ⟨_, rfl, ?_⟩
        rw [lxs, List.take_length]
        exact k
def wholeI (fs : List (Int × Int)) : List Int := fs.map fun f => f.1 * (cbot fs / f.2)
def spWhole : Sp := fun vs H Q _ => ∃ (v : V) (fs : List (Int × Int)), vs = [v] ∧ TLD H v (fs.map dF) ∧ FrOk fs ∧ ∀ v' H', Same H H' → TD H' v' (dI (wholeI fs)) → Q v' H'
/-! whole: slots 0 shares, 1 bottom, 2 top, 3 other; calls ['G_common_bottom'] -/
abbrev N_whole : List Str := ["shares", "bottom", "top", "other"]
theorem sc_whole : FnScope N_whole ["shares"] (defScope s_whole) := ⟨rfl, rfl, rfl, by decide +kernel, rfl, by decide +kernel, by decide +kernel⟩
theorem ok_whole (W : Wd K mg) : Ok P w K mg base 4 "whole" ["shares"] spWhole := by
  have sc := sc_whole
  have G_common_bottom : Ok P w K mg base 3 "common_bottom" ["shares"] spCommon := ok_common_bottom W
  refine Ok.mk' W.F_whole W.g_whole sc (fun vs H Q E h => ?_) (fun _ _ _ _ _ _ us hl => match us, hl with | [_], _ => rfl) (fun cdv A outer s H vs Q E hr h => ?_)
  · obtain ⟨v, fs, rfl, _⟩ := h
    rfl
  · obtain ⟨v, fs, rfl, ht, ⟨hl, hf⟩, k⟩ := h
    obtain ⟨p, xs, rfl, hp, hs⟩ := id ht
    have lxs : xs.length = fs.length := by rw [hs.length, List.length_map]
    obtain ⟨h1, h2⟩ := cbot_ok fs.length fs (Nat.le_refl _) fun g hg => ⟨(hf g hg).1, (hf g hg).2.1⟩
    refine ⟨_, (pss_cons (ps_set (i := 1) sc.nd rfl (Or.inr rfl) (pe_c G_common_bottom (hr.mono (by decide)) (by rfl) (pa_cons (pv 0) pa_nil)))
    (pss_one (ps_ret (pe_callTy (k_tupof K) (by rfl) W.b_tuple PyProof.Rows.boot_tuple (pa_cons (pe_lc (own := [("top", 2), ("other", 3)]) (g := gTup K 2 (gCons (gName 2) (gCons (gName 3) gNil))) rfl sc.nd (k_pis K (pv 0)) (blkOk_by (N := N_whole) (sc := defScope s_whole) (by decide +kernel))  (fun _ _ _ _ _ => (k_tup K rfl (pgs_cons (pg_name (i := 2) sc.nd rfl (Or.inl rfl)) (pgs_cons (pg_name (i := 3) sc.nd rfl (Or.inl rfl)) pgs_nil)))) (fun _ _ _ _ _ => pts_nil) (fun _ _ _ _ _ => (pe_op op_mulW (pv 2) (pe_op op_fdivW (pv 1) (pv 3))))) pa_nil))))), ?_⟩
    refine ⟨_, rfl, .ref p, fs, rfl, ht, ⟨hl, hf⟩, ?_⟩
    refine ⟨_, rfl, p, rfl, ?_⟩
    rcases hp with hp | hp
    · refine .inl ⟨⟨_, SqL.of hp⟩, fun D hD => ?_⟩
      refine lc_listG (fun i v _ => ∃ f, fs[i]? = some f ∧ v = .int (f.1 * (cbot fs / f.2))) (SqL.of hp) hD (by omega) (fun _ _ _ _ _ h => h) (fun i x H1 acc Qy hx s1 hA q => ?_) (fun H1 ys s1 hA hl2 hy => ?_)
      · obtain ⟨f, t, hf1, rfl, hq⟩ := hs.fracs hx
        obtain ⟨h3, h4, h5⟩ := hf f (List.mem_of_getElem? hf1)
        refine ⟨t, _, rfl, SqT.of (s1 _ _ hq), rfl, _, _, rfl, _, _, rfl, rfl, rfl, ?_⟩
        refine ⟨_, rfl, _, rfl, _, rfl, _, _, rfl, rfl, wide_div h3 h4 (by decide) (by decide), _, _, rfl, rfl, ?_, ?_⟩
        · refine wide_mul h5 (Bits.mono (Bits.div h2 h3) (show _ ≤ 400000 by omega)) (by decide) (by decide) (by decide)
        · exact q _ _ Xt.refl hA ⟨f, hf1, rfl⟩
      · have e : ys = (wholeI fs).map V.int := by
          unfold wholeI
          rw [List.map_map]
          exact eq_map (by rw [hl2, lxs]) fun j y q => by
            obtain ⟨f, hf1, e⟩ := hy j y q
            exact ⟨f, hf1, e⟩
        refine ⟨D, _, rfl, .inl ⟨SqL.of hA, fun l hl => ?_⟩⟩
        rw [e]
        exact k _ _ (s1.to_upd hl) (.of_ints upd_same)
    · refine .inr ⟨⟨_, SqT.of hp⟩, fun D hD => ?_⟩
      refine lc_tupG (fun i v _ => ∃ f, fs[i]? = some f ∧ v = .int (f.1 * (cbot fs / f.2))) (SqT.of hp) hD (by omega) (fun _ _ _ _ _ h => h) (fun i x H1 acc Qy hx s1 hA q => ?_) (fun H1 ys s1 hA hl2 hy => ?_)
      · obtain ⟨f, t, hf1, rfl, hq⟩ := hs.fracs hx
        obtain ⟨h3, h4, h5⟩ := hf f (List.mem_of_getElem? hf1)
        refine ⟨t, _, rfl, SqT.of (s1 _ _ hq), rfl, _, _, rfl, _, _, rfl, rfl, rfl, ?_⟩
        refine ⟨_, rfl, _, rfl, _, rfl, _, _, rfl, rfl, wide_div h3 h4 (by decide) (by decide), _, _, rfl, rfl, ?_, ?_⟩
        · refine wide_mul h5 (Bits.mono (Bits.div h2 h3) (show _ ≤ 400000 by omega)) (by decide) (by decide) (by decide)
        · exact q _ _ Xt.refl hA ⟨f, hf1, rfl⟩
      · have e : ys = (wholeI fs).map V.int := by
          unfold wholeI
          rw [List.map_map]
          exact eq_map (by rw [hl2, lxs]) fun j y q => by
            obtain ⟨f, hf1, e⟩ := hy j y q
            exact ⟨f, hf1, e⟩
        refine ⟨D, _, rfl, .inl ⟨SqL.of hA, fun l hl => ?_⟩⟩
        rw [e]
        exact k _ _ (s1.to_upd hl) (.of_ints upd_same)
end
end TN
set_option Elab.async false
set_option linter.all false
set_option maxRecDepth 100000
set_option maxHeartbeats 4000000
/-! W4: the tableau's methods that read. -/
namespace TN
open PySem PySem.Spec PyProof.Rows L2
/-! ### small readings -/
theorem atI_back {xs : List V} {v : V} (h : xs[xs.length - 1]? = some v) : atI xs (-1) = some v := by
  rcases List.eq_nil_or_concat xs with rfl | ⟨ys, z, rfl⟩
  · simp at h
  · rw [List.concat_eq_append] at *
    simp at h
    subst h
    exact atI_last ys z
section
variable {K : PySem.W.Frag} {H : Hp} {a p C dx : Addr} {xs : List V} {j i : Nat} {v : V} {Q : VK} {σ : L2.St} {fs : List (Str × V)} {f : Str}
theorem r_lget (h : H a = some (.lst xs)) (e : xs[j]? = some v) (q : Q v H) : rIxL K (.ref a) (.int (j : Int)) H Q := ⟨a, xs, _, v, rfl, rfl, SqL.of h, atI_nat e, q⟩
theorem r_lgetI {n : Int} (h : H a = some (.lst xs)) (hn : n = (j : Int)) (e : xs[j]? = some v) (q : Q v H) : rIxL K (.ref a) (.int n) H Q := by subst hn; exact r_lget h e q
theorem r_lback (h : H a = some (.lst xs)) (e : xs[xs.length - 1]? = some v) (q : Q v H) : rIxL K (.ref a) (.int (-1)) H Q := ⟨a, xs, _, v, rfl, rfl, SqL.of h, atI_back e, q⟩
theorem r_tget (h : H a = some (.tup xs)) (e : xs[j]? = some v) (q : Q v H) : rIxT K (.ref a) (.int (j : Int)) H Q := ⟨a, xs, _, v, rfl, rfl, SqT.of h, atI_nat e, q⟩
theorem r_tgetI {n : Int} (h : H a = some (.tup xs)) (hn : n = (j : Int)) (e : xs[j]? = some v) (q : Q v H) : rIxT K (.ref a) (.int n) H Q := by subst hn; exact r_tget h e q
theorem r_fld (hp : H p = some (.ins C dx fs)) (c : Cls K C) (n : NoAttr K C f) (l : fs.lookup f = some v) (q : Q v H) :
    ∃ a C dx fs v, V.ref p = V.ref a ∧ H a = some (.ins C dx fs) ∧ Cls K C ∧ NoAttr K C f ∧ fs.lookup f = some v ∧ Q v H := ⟨p, C, dx, fs, v, rfl, hp, c, n, l, q⟩
end
theorem r_c {v : V} {σ : L2.St} {H : Hp} {Q : VK} (h : Q v H) : tC v σ H Q := h
/-! ### the tableau's data -/
structure TS where
  wide : Nat
  many : Nat
  lines : List (List Int)
  base : List Nat
  bottom : Int
def TS.tb (t : TS) : Tb := ⟨fun i j => (t.lines.getD i []).getD j 0, fun i => t.base.getD i 0, t.bottom⟩
structure TS.Wf (t : TS) : Prop where
  ll : t.lines.length = t.many + 2
  lw : ∀ l ∈ t.lines, l.length = t.wide + t.many + 1
  bl : t.base.length = t.many
  sz : t.wide + t.many ≤ 1000
  bits : ∀ l ∈ t.lines, ∀ x ∈ l, Bits 4000 x
  bot : Bits 4000 t.bottom
def tfs (w m : Nat) (aS aL aB : Addr) (b : Int) : List (Str × V) := [("wide", .int w), ("many", .int m), ("signs", .ref aS), ("lines", .ref aL), ("base", .ref aB), ("bottom", .int b)]
theorem tf_wide {w m aS aL aB b} : (tfs w m aS aL aB b).lookup ("wide" : Str) = some (.int w) := rfl
theorem tf_many {w m aS aL aB b} : (tfs w m aS aL aB b).lookup ("many" : Str) = some (.int m) := rfl
theorem tf_signs {w m aS aL aB b} : (tfs w m aS aL aB b).lookup ("signs" : Str) = some (.ref aS) := rfl
theorem tf_lines {w m aS aL aB b} : (tfs w m aS aL aB b).lookup ("lines" : Str) = some (.ref aL) := rfl
theorem tf_base {w m aS aL aB b} : (tfs w m aS aL aB b).lookup ("base" : Str) = some (.ref aB) := rfl
theorem tf_bottom {w m aS aL aB b} : (tfs w m aS aL aB b).lookup ("bottom" : Str) = some (.int b) := rfl
theorem tf_put {w m aS aL aB b c} : putF "bottom" (.int c) (tfs w m aS aL aB b) = tfs w m aS aL aB c := rfl
structure TAd (K : PySem.W.Frag) (G H : Hp) (p : Addr) (t : TS) (dx aS aL aB : Addr) (las : List Addr) : Prop where
  same : Same G H
  p0 : G p = none
  l0 : G aL = none
  b0 : G aB = none
  hp : H p = some (.ins (He.ga K "Tableau") dx (tfs t.wide t.many aS aL aB t.bottom))
  hS : H aS = some (.lst ((List.replicate t.many (1 : Int)).map V.int))
  hL : H aL = some (.lst (las.map V.ref))
  hB : H aB = some (.lst (t.base.map fun (b : Nat) => V.int (b : Int)))
  ll : las.length = t.lines.length
  at_ : ∀ (i : Nat) (a : Addr) (l : List Int), las[i]? = some a → t.lines[i]? = some l → H a = some (.lst (l.map V.int))
  neLB : aL ≠ aB
  neSL : aS ≠ aL
  neSB : aS ≠ aB
  neL : ∀ a ∈ las, a ≠ aL ∧ a ≠ aB
def TabAt (K : PySem.W.Frag) (G H : Hp) (p : Addr) (t : TS) : Prop := ∃ dx aS aL aB las, TAd K G H p t dx aS aL aB las
section
variable {K : PySem.W.Frag} {G H H' : Hp} {p dx aS aL aB : Addr} {t : TS} {las : List Addr}
theorem TAd.mono (A : TAd K G H p t dx aS aL aB las) (s : Same H H') : TAd K G H' p t dx aS aL aB las :=
  ⟨A.same.trans s, A.p0, A.l0, A.b0, s _ _ A.hp, s _ _ A.hS, s _ _ A.hL, s _ _ A.hB, A.ll, fun i a l h1 h2 => s _ _ (A.at_ i a l h1 h2), A.neLB, A.neSL, A.neSB, A.neL⟩
theorem TabAt.mono (A : TabAt K G H p t) (s : Same H H') : TabAt K G H' p t := let ⟨dx, aS, aL, aB, las, A⟩ := A; ⟨dx, aS, aL, aB, las, A.mono s⟩
theorem TAd.line (A : TAd K G H p t dx aS aL aB las) {i : Nat} (hi : i < t.lines.length) : ∃ a l, las[i]? = some a ∧ (las.map V.ref)[i]? = some (V.ref a) ∧ t.lines[i]? = some l ∧ H a = some (.lst (l.map V.int)) := by
  have h1 : i < las.length := by rw [A.ll]; exact hi
  refine ⟨las[i], t.lines[i], List.getElem?_eq_getElem h1, ?_, List.getElem?_eq_getElem hi, A.at_ i _ _ (List.getElem?_eq_getElem h1) (List.getElem?_eq_getElem hi)⟩
  rw [List.getElem?_map, List.getElem?_eq_getElem h1]; rfl
theorem TS.T_of {i j : Nat} {l : List Int} (h : t.lines[i]? = some l) : t.tb.T i j = l.getD j 0 := by
  have : t.lines.getD i [] = l := by rw [List.getD_eq_getElem?_getD, h]; rfl
  show (t.lines.getD i []).getD j 0 = _
  rw [this]
theorem TS.at_ {i j : Nat} {l : List Int} (h : t.lines[i]? = some l) (hj : j < l.length) : (l.map V.int)[j]? = some (V.int (t.tb.T i j)) := by
  rw [TS.T_of h, List.getElem?_map, List.getD_eq_getElem?_getD, List.getElem?_eq_getElem hj]; rfl
theorem TS.last_ {i : Nat} {l : List Int} (W : t.Wf) (h : t.lines[i]? = some l) : (l.map V.int)[(l.map V.int).length - 1]? = some (V.int (t.tb.T i (t.wide + t.many))) := by
  have hl := W.lw l (List.mem_of_getElem? h)
  rw [List.length_map, hl]
  exact TS.at_ h (by omega)
theorem TS.Wf.len (W : t.Wf) {i : Nat} {l : List Int} (h : t.lines[i]? = some l) : l.length = t.wide + t.many + 1 := W.lw l (List.mem_of_getElem? h)
theorem TS.Wf.bitT (W : t.Wf) {i j : Nat} (hi : i < t.many + 2) (hj : j < t.wide + t.many + 1) : Bits 4000 (t.tb.T i j) := by
  have hi2 : i < t.lines.length := by rw [W.ll]; exact hi
  have h : t.lines[i]? = some t.lines[i] := List.getElem?_eq_getElem hi2
  rw [TS.T_of h, List.getD_eq_getElem?_getD, List.getElem?_eq_getElem (by rw [W.len h]; exact hj)]
  exact W.bits _ (List.mem_of_getElem? h) _ (List.getElem_mem _)
theorem TAd.base (A : TAd K G H p t dx aS aL aB las) (W : t.Wf) {i : Nat} (hi : i < t.many) : (t.base.map fun (b : Nat) => V.int (b : Int))[i]? = some (V.int (t.tb.be i : Nat)) := by
  have hi2 : i < t.base.length := by rw [W.bl]; exact hi
  have h : t.base[i]? = some t.base[i] := List.getElem?_eq_getElem hi2
  show _ = some (V.int ((t.base.getD i 0 : Nat) : Int))
  rw [List.getElem?_map, List.getD_eq_getElem?_getD, h]; rfl
end
section
variable {P : Program} {w : World} {K : PySem.W.Frag} {mg : Str → Option Value} {base : Heap}
def spEntering (K : PySem.W.Frag) : Sp := fun vs H Q _ => ∃ (G : Hp) (p : Addr) (t : TS) (o : Nat), vs = [.ref p, .int (o : Int)] ∧ TabAt K G H p t ∧ t.Wf ∧ o < t.many + 2 ∧
  (∀ q, q < t.wide → t.tb.T o q < 0 → (∀ j, j < q → 0 ≤ t.tb.T o j) → Q (.int (q : Int)) H) ∧ ((∀ j, j < t.wide → 0 ≤ t.tb.T o j) → Q .non H)
/-! Tableau.entering: slots 0 self, 1 number, 2 line, 3 place; calls [] -/
abbrev N_Tableau_entering : List Str := ["self", "number", "line", "place"]
theorem sc_Tableau_entering : FnScope N_Tableau_entering ["self", "number"] (defScope s_Tableau_entering) := ⟨rfl, rfl, rfl, by decide +kernel, rfl, by decide +kernel, by decide +kernel⟩
theorem ok_Tableau_entering (W : Wd K mg) : OkM P w K mg base 1 "Tableau" "entering" ["self", "number"] (spEntering K) := by
  have sc := sc_Tableau_entering
  refine OkM.mk' W.F_Tableau_entering sc (fun vs H Q E h => ?_) (fun _ _ _ _ _ _ us hl => match us, hl with | [_, _], _ => rfl) (fun cdv A outer s H vs Q E hr h => ?_)
  · obtain ⟨G, p, t, o, rfl, _⟩ := h
    rfl
  · obtain ⟨G, p, t, o, rfl, ⟨dx, aS, aL, aB, las, A⟩, wf, ho, k1, k2⟩ := h
    obtain ⟨a, l, h1, h2, h3, h4⟩ := A.line (i := o) (by rw [wf.ll]; exact ho)
    have hl := wf.len h3
    have sz := wf.sz
    refine ⟨_, (pss_cons (ps_set (i := 2) sc.nd rfl (Or.inl rfl) (pe_ix (k_ixl K) (k_fld K (pv 0) rfl) (pv 1) (fun _ _ => rfl)))
    (pss_cons (ps_for PassesOwn.never rfl (pi_range1 (by rfl) W.b_range (pa_cons (k_fld K (pv 0) rfl) pa_nil)) (pg_name (i := 3) sc.nd rfl (Or.inl rfl))
      (pss_one (ps_if (pt_cmpR op_lt (pe_ix (k_ixl K) (pv 2) (pv 3) (fun _ _ => rfl)) pe_int (nomark _))
        (pss_one (ps_ret (pv 3)))
        pss_nil)))
    (pss_one (ps_ret pe_non)))), ?_⟩
    refine ⟨_, rfl, p, _, _, _, _, rfl, A.hp, W.cl_Tableau, W.n_Tableau_lines, tf_lines, ?_⟩
    refine ⟨_, rfl, r_lget A.hL h2 ?_⟩
    refine ⟨_, rfl, p, _, _, _, _, rfl, A.hp, W.cl_Tableau, W.n_Tableau_wide, tf_wide, ?_⟩
    refine ⟨_, rfl, by omega, by omega, ?_⟩
    refine for_range (lo := 0) (n := ((t.wide : Nat) : Int).toNat) (fun i σ H' => ∃ v : Option V, σ = [some (.ref p), some (.int (o : Int)), some (.ref a), v] ∧ H' = H ∧ ∀ j, j < i → 0 ≤ t.tb.T o j) ⟨_, rfl, rfl, fun j hj => by omega⟩ ?_ ?_
    · rintro i σ H' hi ⟨v, rfl, rfl, hj⟩
      have hi' : i < t.wide := by omega
      refine ⟨_, rfl, _, rfl, r_lgetI (j := i) h4 (by omega) (TS.at_ h3 (by omega)) ⟨_, _, rfl, rfl, _, rfl, ?_⟩⟩
      refine ite2 (fun hc => ?_) (fun hc => ?_)
      · refine ⟨_, rfl, ?_⟩
        rw [show (0 : Int) + (i : Nat) = (i : Nat) by omega]
        exact k1 i hi' (of_decide_eq_true hc) hj
      · refine ⟨_, rfl, rfl, fun j hj' => ?_⟩
        by_cases e : j = i
        · subst e
          have hn : ¬ t.tb.T o j < 0 := fun z => hc (decide_eq_true z)
          omega
        · exact hj j (by omega)
    · rintro σ H' ⟨v, rfl, rfl, hj⟩
      exact k2 fun j hj' => hj j (by omega)
def spLeaving (K : PySem.W.Frag) : Sp := fun vs H Q _ => ∃ (G : Hp) (p : Addr) (t : TS) (q : Nat), vs = [.ref p, .int (q : Int)] ∧ TabAt K G H p t ∧ t.Wf ∧ q < t.wide ∧
  (∀ r, r < t.many → 0 < t.tb.T r q → (∀ i, i < t.many → 0 < t.tb.T i q → t.tb.T r (t.wide + t.many) * t.tb.T i q < t.tb.T i (t.wide + t.many) * t.tb.T r q ∨ (t.tb.T r (t.wide + t.many) * t.tb.T i q = t.tb.T i (t.wide + t.many) * t.tb.T r q ∧ t.tb.be r ≤ t.tb.be i)) → Q (.int (r : Int)) H) ∧
  ((∀ i, i < t.many → t.tb.T i q ≤ 0) → Q .non H)
/-- the ratio test hands on -/
theorem ratio_trans {a b c d e f : Int} {x y z : Nat} (hb : 0 < b) (hd : 0 < d) (hf : 0 < f) (h1 : a * d < c * b ∨ (a * d = c * b ∧ x ≤ y)) (h2 : c * f < e * d ∨ (c * f = e * d ∧ y ≤ z)) : a * f < e * b ∨ (a * f = e * b ∧ x ≤ z) := by
  have key : (a * f) * d = (a * d) * f := by grind
  have key2 : (e * b) * d = (e * d) * b := by grind
  have key3 : (c * b) * f = (c * f) * b := by grind
  have lt_of : ∀ u v : Int, u * d < v * d → u < v := fun u v h => Int.lt_of_mul_lt_mul_right h (by omega)
  rcases h1 with h1 | ⟨h1, h1'⟩
  · left
    refine lt_of _ _ ?_
    rw [key, key2]
    have h3 := Int.mul_lt_mul_of_pos_right h1 hf
    have h4 : (c * f) * b ≤ (e * d) * b := by
      rcases h2 with h2 | ⟨h2, _⟩
      · exact Int.le_of_lt (Int.mul_lt_mul_of_pos_right h2 hb)
      · rw [h2]; exact Int.le_refl _
    omega
  · rcases h2 with h2 | ⟨h2, h2'⟩
    · left
      refine lt_of _ _ ?_
      rw [key, key2, h1]
      have h4 := Int.mul_lt_mul_of_pos_right h2 hb
      omega
    · right
      refine ⟨?_, by omega⟩
      have : (a * f) * d = (e * b) * d := by rw [key, key2, h1, key3, h2]
      exact Int.eq_of_mul_eq_mul_right (by omega) this
/-! Tableau.leaving: slots 0 self, 1 place, 2 best, 3 at, 4 line, 5 other, 6 one, 7 two; calls [] -/
abbrev N_Tableau_leaving : List Str := ["self", "place", "best", "at", "line", "other", "one", "two"]
theorem sc_Tableau_leaving : FnScope N_Tableau_leaving ["self", "place"] (defScope s_Tableau_leaving) := ⟨rfl, rfl, rfl, by decide +kernel, rfl, by decide +kernel, by decide +kernel⟩
theorem ok_Tableau_leaving (W : Wd K mg) : OkM P w K mg base 1 "Tableau" "leaving" ["self", "place"] (spLeaving K) := by
  have sc := sc_Tableau_leaving
  refine OkM.mk' W.F_Tableau_leaving sc (fun vs H Q E h => ?_) (fun _ _ _ _ _ _ us hl => match us, hl with | [_, _], _ => rfl) (fun cdv A outer s H vs Q E hr h => ?_)
  · obtain ⟨G, p, t, o, rfl, _⟩ := h
    rfl
  · obtain ⟨G, p, t, q, rfl, ⟨dx, aS, aL, aB, las, A⟩, wf, hq, k1, k2⟩ := h
    have sz := wf.sz
    have ll := wf.ll
    refine ⟨_, (pss_cons (ps_set (i := 2) sc.nd rfl (Or.inl rfl) pe_non)
    (pss_cons (ps_for PassesOwn.never rfl (pi_range1 (by rfl) W.b_range (pa_cons (k_fld K (pv 0) rfl) pa_nil)) (pg_name (i := 3) sc.nd rfl (Or.inl rfl))
      (pss_cons (ps_set (i := 4) sc.nd rfl (Or.inl rfl) (pe_ix (k_ixl K) (k_fld K (pv 0) rfl) (pv 3) (fun _ _ => rfl)))
      (pss_one (ps_if (pt_cmpR op_gt (pe_ix (k_ixl K) (pv 4) (pv 1) (fun _ _ => rfl)) pe_int (nomark _))
        (pss_one (ps_if (pt_cmpR op_isN (pv 2) pe_non (nomark _))
          (pss_one (ps_set (i := 2) sc.nd rfl (Or.inl rfl) (pv 3)))
          (pss_cons (ps_set (i := 5) sc.nd rfl (Or.inl rfl) (pe_ix (k_ixl K) (k_fld K (pv 0) rfl) (pv 2) (fun _ _ => rfl)))
          (pss_cons (ps_par (i := 6) (j := 7) rfl sc.nd rfl rfl (by decide) rfl rfl (pa_cons (pe_op op_mulW (pe_ix (k_ixl K) (pv 4) (pe_un un_neg pe_int) (fun _ _ => rfl)) (pe_ix (k_ixl K) (pv 5) (pv 1) (fun _ _ => rfl))) (pa_cons (pe_op op_mulW (pe_ix (k_ixl K) (pv 5) (pe_un un_neg pe_int) (fun _ _ => rfl)) (pe_ix (k_ixl K) (pv 4) (pv 1) (fun _ _ => rfl))) pa_nil)) rfl)
          (pss_one (ps_if (PW.pt (pw_or (pt_cmpR op_lt (pv 6) (pv 7) (nomark _)) (pw_or1 (PW.pt (pw_and (pt_cmpR op_eq (pv 6) (pv 7) (nomark _)) (pw_and1 (pt_cmpR op_lt (pe_ix (k_ixl K) (k_fld K (pv 0) rfl) (pv 3) (fun _ _ => rfl)) (pe_ix (k_ixl K) (k_fld K (pv 0) rfl) (pv 2) (fun _ _ => rfl)) (nomark _))))))))
            (pss_one (ps_set (i := 2) sc.nd rfl (Or.inl rfl) (pv 3)))
            pss_nil))))))
        pss_nil))))
    (pss_one (ps_ret (pv 2))))), ?_⟩
    refine ⟨_, rfl, p, _, _, _, _, rfl, A.hp, W.cl_Tableau, W.n_Tableau_many, tf_many, ?_⟩
    refine ⟨_, rfl, by omega, by omega, ?_⟩
    refine for_range (lo := 0) (n := ((t.many : Nat) : Int).toNat) (fun i σ H' => ∃ (b : V) (v1 v2 v3 v4 v5 : Option V), σ = [some (.ref p), some (.int (q : Int)), some b, v1, v2, v3, v4, v5] ∧ H' = H ∧
      ((b = .non ∧ ∀ j, j < i → t.tb.T j q ≤ 0) ∨ ∃ r : Nat, b = .int (r : Int) ∧ r < i ∧ 0 < t.tb.T r q ∧ ∀ j, j < i → 0 < t.tb.T j q → t.tb.T r (t.wide + t.many) * t.tb.T j q < t.tb.T j (t.wide + t.many) * t.tb.T r q ∨ (t.tb.T r (t.wide + t.many) * t.tb.T j q = t.tb.T j (t.wide + t.many) * t.tb.T r q ∧ t.tb.be r ≤ t.tb.be j)))
      ⟨_, _, _, _, _, _, rfl, rfl, .inl ⟨rfl, fun j hj => by omega⟩⟩ ?_ ?_
    · rintro i σ H' hi ⟨b, v1, v2, v3, v4, v5, rfl, rfl, inv⟩
      have hi' : i < t.many := by omega
      obtain ⟨a, l, h1, h2, h3, h4⟩ := A.line (i := i) (by omega)
      have hl := wf.len h3
      refine ⟨_, rfl, p, _, _, _, _, rfl, A.hp, W.cl_Tableau, W.n_Tableau_lines, tf_lines, ?_⟩
      refine ⟨_, rfl, r_lgetI (j := i) A.hL (by omega) h2 ?_⟩
      refine ⟨_, rfl, _, rfl, r_lget h4 (TS.at_ h3 (by omega)) ⟨_, _, rfl, rfl, _, rfl, ?_⟩⟩
      refine ite2 (fun hc => ?_) (fun hc => ?_)
      · have hc : 0 < t.tb.T i q := of_decide_eq_true hc
        refine ⟨_, rfl, rfl, _, rfl, ?_⟩
        rcases inv with ⟨rfl, hj⟩ | ⟨r, rfl, hri, hr0, hj⟩
        · refine iteT ⟨_, rfl, ?_⟩
          rw [show (0 : Int) + (i : Nat) = (i : Nat) by omega]
          refine ⟨_, _, _, _, _, _, rfl, rfl, .inr ⟨i, rfl, by omega, hc, fun j hj1 hj2 => ?_⟩⟩
          by_cases e : j = i
          · subst e; exact .inr ⟨rfl, Nat.le_refl _⟩
          · have := hj j (by omega); omega
        · refine iteF ?_
          obtain ⟨a', l', g1, g2, g3, g4⟩ := A.line (i := r) (by omega)
          have gl := wf.len g3
          refine ⟨_, rfl, p, _, _, _, _, rfl, A.hp, W.cl_Tableau, W.n_Tableau_lines, tf_lines, ?_⟩
          refine ⟨_, rfl, r_lget A.hL g2 ?_⟩
          have bi : ∀ j, j < t.wide + t.many + 1 → Bits 4000 (t.tb.T i j) := fun j hj => wf.bitT (by omega) hj
          have br : ∀ j, j < t.wide + t.many + 1 → Bits 4000 (t.tb.T r j) := fun j hj => wf.bitT (by omega) hj
          refine ⟨_, rfl, _, rfl, r_lback h4 (TS.last_ wf h3) ⟨_, rfl, _, rfl, r_lget g4 (TS.at_ g3 (by omega)) ⟨_, _, rfl, rfl, wide_mul (bi _ (by omega)) (br _ (by omega)) (by decide) (by decide) (by decide), ?_⟩⟩⟩
          refine ⟨_, rfl, _, rfl, r_lback g4 (TS.last_ wf g3) ⟨_, rfl, _, rfl, r_lget h4 (TS.at_ h3 (by omega)) ⟨_, _, rfl, rfl, wide_mul (br _ (by omega)) (bi _ (by omega)) (by decide) (by decide) (by decide), ?_⟩⟩⟩
          refine ⟨_, _, rfl, ?_⟩
          obtain ⟨x, hx⟩ : ∃ x, t.tb.T i (t.wide + t.many) * t.tb.T r q = x := ⟨_, rfl⟩
          obtain ⟨y, hy⟩ : ∃ y, t.tb.T r (t.wide + t.many) * t.tb.T i q = y := ⟨_, rfl⟩
          -- what the tests say
          have better : x < y ∨ (x = y ∧ t.tb.be i < t.tb.be r) → ∀ j, j < i + 1 → 0 < t.tb.T j q → t.tb.T i (t.wide + t.many) * t.tb.T j q < t.tb.T j (t.wide + t.many) * t.tb.T i q ∨ (t.tb.T i (t.wide + t.many) * t.tb.T j q = t.tb.T j (t.wide + t.many) * t.tb.T i q ∧ t.tb.be i ≤ t.tb.be j) := fun hb j hj1 hj2 => by
            by_cases e : j = i
            · subst e; exact .inr ⟨rfl, Nat.le_refl _⟩
            · refine ratio_trans hc hr0 hj2 ?_ (hj j (by omega) hj2)
              rw [hx, hy]
              rcases hb with hb | ⟨h5, h6⟩
              · exact .inl hb
              · exact .inr ⟨h5, by omega⟩
          have worse : ¬ (x < y ∨ (x = y ∧ t.tb.be i < t.tb.be r)) → ∀ j, j < i + 1 → 0 < t.tb.T j q → t.tb.T r (t.wide + t.many) * t.tb.T j q < t.tb.T j (t.wide + t.many) * t.tb.T r q ∨ (t.tb.T r (t.wide + t.many) * t.tb.T j q = t.tb.T j (t.wide + t.many) * t.tb.T r q ∧ t.tb.be r ≤ t.tb.be j) := fun hb j hj1 hj2 => by
            by_cases e : j = i
            · subst e
              rw [hx, hy]
              by_cases h5 : x = y
              · exact .inr ⟨h5.symm, by have := fun z => hb (.inr ⟨h5, z⟩); omega⟩
              · left
                have := fun z => hb (.inl z)
                omega
            · exact hj j (by omega) hj2
          refine ⟨_, rfl, _, rfl, _, _, rfl, rfl, _, rfl, ?_⟩
          refine ite2 (fun hc1 => ?_) (fun hc1 => ?_)
          · have hc1 : x < y := by rw [← hx, ← hy]; exact of_decide_eq_true hc1
            refine iteT ⟨_, rfl, ?_⟩
            rw [show (0 : Int) + (i : Nat) = (i : Nat) by omega]
            exact ⟨_, _, _, _, _, _, rfl, rfl, .inr ⟨i, rfl, by omega, hc, better (.inl hc1)⟩⟩
          · have hc1 : ¬ x < y := fun z => hc1 (decide_eq_true (by rw [hx, hy]; exact z))
            refine ⟨_, rfl, _, rfl, rfl, _, rfl, ?_⟩
            refine ite2 (fun hc2 => ?_) (fun hc2 => ?_)
            · have hc2 : x = y := by
                have z := of_decide_eq_true hc2
                rw [← hx, ← hy]
                exact V.int.inj z
              refine ⟨_, rfl, p, _, _, _, _, rfl, A.hp, W.cl_Tableau, W.n_Tableau_base, tf_base, ?_⟩
              refine ⟨_, rfl, r_lgetI (j := i) A.hB (by omega) (A.base wf hi') ?_⟩
              refine ⟨_, rfl, p, _, _, _, _, rfl, A.hp, W.cl_Tableau, W.n_Tableau_base, tf_base, ?_⟩
              refine ⟨_, rfl, r_lget A.hB (A.base wf (by omega)) ⟨_, _, rfl, rfl, _, rfl, ?_⟩⟩
              refine ite2 (fun hc3 => ?_) (fun hc3 => ?_)
              · have hc3 : ((t.tb.be i : Nat) : Int) < ((t.tb.be r : Nat) : Int) := of_decide_eq_true hc3
                refine ⟨_, rfl, ?_⟩
                rw [show (0 : Int) + (i : Nat) = (i : Nat) by omega]
                exact ⟨_, _, _, _, _, _, rfl, rfl, .inr ⟨i, rfl, by omega, hc, better (.inr ⟨hc2, by omega⟩)⟩⟩
              · have hc3 : ¬ ((t.tb.be i : Nat) : Int) < ((t.tb.be r : Nat) : Int) := fun z => hc3 (decide_eq_true z)
                exact ⟨_, _, _, _, _, _, rfl, rfl, .inr ⟨r, rfl, by omega, hr0, worse (fun z => by rcases z with z | ⟨_, z⟩ <;> omega)⟩⟩
            · have hc2 : ¬ x = y := fun z => hc2 (decide_eq_true (congrArg V.int (by rw [hx, hy]; exact z)))
              refine iteF ?_
              exact ⟨_, _, _, _, _, _, rfl, rfl, .inr ⟨r, rfl, by omega, hr0, worse (fun z => by rcases z with z | ⟨z, _⟩ <;> omega)⟩⟩
      · have hc : ¬ 0 < t.tb.T i q := fun z => hc (decide_eq_true z)
        refine ⟨_, _, _, _, _, _, rfl, rfl, ?_⟩
        rcases inv with ⟨rfl, hj⟩ | ⟨r, rfl, hri, hr0, hj⟩
        · refine .inl ⟨rfl, fun j hj1 => ?_⟩
          by_cases e : j = i
          · subst e; omega
          · exact hj j (by omega)
        · refine .inr ⟨r, rfl, by omega, hr0, fun j hj1 hj2 => ?_⟩
          by_cases e : j = i
          · subst e; omega
          · exact hj j (by omega) hj2
    · rintro σ H' ⟨b, v1, v2, v3, v4, v5, rfl, rfl, inv⟩
      refine ⟨_, rfl, ?_⟩
      rcases inv with ⟨rfl, hj⟩ | ⟨r, rfl, hri, hr0, hj⟩
      · exact k2 fun i hi => hj i (by omega)
      · exact k1 r (by omega) hr0 fun i hi h => hj i (by omega) h
end
end TN
set_option Elab.async false
set_option linter.all false
set_option maxRecDepth 100000
set_option maxHeartbeats 4000000
/-! W5: a tableau's step, run, clear. -/
namespace TN
open PySem PySem.Spec PyProof.Rows L2
/-- what a step makes of a line -/
def newL (piv part bot : Int) (old line : List Int) : List Int := (old.zip line).map fun p => (p.1 * piv - part * p.2) / bot
structure StepR (t : TS) (r q : Nat) (t' : TS) : Prop where
  wide : t'.wide = t.wide
  many : t'.many = t.many
  base : t'.base = t.base.set r q
  bottom : t'.bottom = t.tb.T r q
  len : t'.lines.length = t.lines.length
  lines : ∀ (k : Nat) (l : List Int), t.lines[k]? = some l → t'.lines[k]? = some (if k = r then l else newL (t.tb.T r q) (t.tb.T k q) t.bottom l (t.lines.getD r []))
section
variable {K : PySem.W.Frag} {G H H' : Hp} {p dx aS aL aB D : Addr} {t : TS} {las : List Addr}
theorem kind_ne {H : Hp} {a b : Addr} {xs : List V} {C dx : Addr} {fs : List (Str × V)} (h1 : H a = some (.ins C dx fs)) (h2 : H b = some (.lst xs)) : a ≠ b := ne_of h1 h2 (by intro z; cases z)
theorem TAd.setLine (A : TAd K G H p t dx aS aL aB las) {i : Nat} {l : List Int} (hD : H D = some (.lst (l.map V.int))) (n1 : D ≠ aL) (n2 : D ≠ aB) :
    TAd K G (upd H aL (.lst ((las.map V.ref).set i (.ref D)))) p { t with lines := t.lines.set i l } dx aS aL aB (las.set i D) where
  same := fun b o e => by rw [upd_ne (ne_of_none e A.l0)]; exact A.same b o e
  p0 := A.p0
  l0 := A.l0
  b0 := A.b0
  hp := by rw [upd_ne (kind_ne A.hp A.hL)]; exact A.hp
  hS := by rw [upd_ne A.neSL]; exact A.hS
  hL := by rw [upd_same, List.map_set]
  hB := by rw [upd_ne A.neLB.symm]; exact A.hB
  ll := by rw [List.length_set, List.length_set]; exact A.ll
  at_ := fun k a l' h1 h2 => by
    rw [List.getElem?_set] at h1 h2
    by_cases e : i = k
    · rw [if_pos e] at h1 h2
      split at h1
      · cases h1
        split at h2
        · cases h2
          rw [upd_ne n1]; exact hD
        · cases h2
      · cases h1
    · rw [if_neg e] at h1 h2
      rw [upd_ne (A.neL a (List.mem_of_getElem? h1)).1]
      exact A.at_ k a l' h1 h2
  neLB := A.neLB
  neSL := A.neSL
  neSB := A.neSB
  neL := fun a ha => by
    rcases List.mem_or_eq_of_mem_set ha with h | h
    · exact A.neL a h
    · rw [h]; exact ⟨n1, n2⟩
theorem TAd.setBase (A : TAd K G H p t dx aS aL aB las) {i q : Nat} : TAd K G (upd H aB (.lst ((t.base.map fun (b : Nat) => V.int (b : Int)).set i (.int (q : Int))))) p { t with base := t.base.set i q } dx aS aL aB las where
  same := fun b o e => by rw [upd_ne (ne_of_none e A.b0)]; exact A.same b o e
  p0 := A.p0
  l0 := A.l0
  b0 := A.b0
  hp := by rw [upd_ne (kind_ne A.hp A.hB)]; exact A.hp
  hS := by rw [upd_ne A.neSB]; exact A.hS
  hL := by rw [upd_ne A.neLB]; exact A.hL
  hB := by rw [upd_same, List.map_set]
  ll := A.ll
  at_ := fun k a l' h1 h2 => by
    rw [upd_ne (A.neL a (List.mem_of_getElem? h1)).2]
    exact A.at_ k a l' h1 h2
  neLB := A.neLB
  neSL := A.neSL
  neSB := A.neSB
  neL := A.neL
theorem TAd.setBottom (A : TAd K G H p t dx aS aL aB las) {b : Int} : TAd K G (upd H p (.ins (He.ga K "Tableau") dx (tfs t.wide t.many aS aL aB b))) p { t with bottom := b } dx aS aL aB las where
  same := fun b o e => by rw [upd_ne (ne_of_none e A.p0)]; exact A.same b o e
  p0 := A.p0
  l0 := A.l0
  b0 := A.b0
  hp := upd_same
  hS := by rw [upd_ne (kind_ne A.hp A.hS).symm]; exact A.hS
  hL := by rw [upd_ne (kind_ne A.hp A.hL).symm]; exact A.hL
  hB := by rw [upd_ne (kind_ne A.hp A.hB).symm]; exact A.hB
  ll := A.ll
  at_ := fun k a l' h1 h2 => by
    have := A.at_ k a l' h1 h2
    rw [upd_ne (kind_ne A.hp this).symm]
    exact this
  neLB := A.neLB
  neSL := A.neSL
  neSB := A.neSB
  neL := A.neL
end
section
variable {P : Program} {w : World} {K : PySem.W.Frag} {mg : Str → Option Value} {base : Heap}
def spStep (K : PySem.W.Frag) : Sp := fun vs H Q _ => ∃ (G : Hp) (p : Addr) (t : TS) (r q : Nat), vs = [.ref p, .int (r : Int), .int (q : Int)] ∧ TabAt K G H p t ∧ t.Wf ∧ r < t.many ∧ q < t.wide + t.many ∧ 0 < t.bottom ∧
  ∀ H' t', TabAt K G H' p t' → StepR t r q t' → Q .non H'
/-! Tableau.step: slots 0 self, 1 at, 2 place, 3 line, 4 pivot, 5 other, 6 old, 7 part, 8 one, 9 two; calls [] -/
abbrev N_Tableau_step : List Str := ["self", "at", "place", "line", "pivot", "other", "old", "part", "one", "two"]
theorem sc_Tableau_step : FnScope N_Tableau_step ["self", "at", "place"] (defScope s_Tableau_step) := ⟨rfl, rfl, rfl, by decide +kernel, rfl, by decide +kernel, by decide +kernel⟩
theorem ok_Tableau_step (W : Wd K mg) : OkM P w K mg base 1 "Tableau" "step" ["self", "at", "place"] (spStep K) := by
  have sc := sc_Tableau_step
  refine OkM.mk' W.F_Tableau_step sc (fun vs H Q E h => ?_) (fun _ _ _ _ _ _ us hl => match us, hl with | [_, _, _], _ => rfl) (fun cdv A outer s H vs Q E hr h => ?_)
  · obtain ⟨G, p, t, r, q, rfl, _⟩ := h
    rfl
  · obtain ⟨G, p, t, r, q, rfl, ⟨dx, aS, aL, aB, las, A⟩, wf, hr1, hq, hb, k⟩ := h
    have sz := wf.sz
    have ll := wf.ll
    obtain ⟨a, l, h1, h2, h3, h4⟩ := A.line (i := r) (by omega)
    have hl := wf.len h3
    have gl : t.lines.getD r [] = l := by rw [List.getD_eq_getElem?_getD, h3]; rfl
    refine ⟨_, (pss_cons (ps_set (i := 3) sc.nd rfl (Or.inl rfl) (pe_ix (k_ixl K) (k_fld K (pv 0) rfl) (pv 1) (fun _ _ => rfl)))
    (pss_cons (ps_set (i := 4) sc.nd rfl (Or.inr rfl) (pe_ix (k_ixl K) (pv 3) (pv 2) (fun _ _ => rfl)))
    (pss_cons (ps_for PassesOwn.never rfl (pi_range1 (by rfl) W.b_range (pa_cons (pe_callB (k_len K) (by rfl) W.b_len PySem.boot_len (pa_cons (k_fld K (pv 0) rfl) pa_nil)) pa_nil)) (pg_name (i := 5) sc.nd rfl (Or.inl rfl))
      (pss_one (ps_if (pt_cmpR op_ne (pv 5) (pv 1) (nomark _))
        (pss_cons (ps_set (i := 6) sc.nd rfl (Or.inl rfl) (pe_ix (k_ixl K) (k_fld K (pv 0) rfl) (pv 5) (fun _ _ => rfl)))
        (pss_cons (ps_set (i := 7) sc.nd rfl (Or.inr rfl) (pe_ix (k_ixl K) (pv 6) (pv 2) (fun _ _ => rfl)))
        (pss_one (ps_asg (pe_lc (own := [("one", 8), ("two", 9)]) (g := gTup K 2 (gCons (gName 8) (gCons (gName 9) gNil))) rfl sc.nd (k_piz K (by rfl) W.b_zip (pa_cons (pv 6) (pa_cons (pv 3) pa_nil))) (blkOk_by (N := N_Tableau_step) (sc := defScope s_Tableau_step) (by decide +kernel))  (fun _ _ _ _ _ => (k_tup K rfl (pgs_cons (pg_name (i := 8) sc.nd rfl (Or.inl rfl)) (pgs_cons (pg_name (i := 9) sc.nd rfl (Or.inl rfl)) pgs_nil)))) (fun _ _ _ _ _ => pts_nil) (fun _ _ _ _ _ => (pe_op op_fdivW (pe_op op_sub (pe_op op_mulW (pv 8) (pv 4)) (pe_op op_mulW (pv 7) (pv 9))) (k_fld K (pv 0) rfl)))) (pg_sub (k_fld K (pv 0) rfl) (pv 5) set_list)))))
        pss_nil)))
    (pss_cons (ps_asg (pv 2) (pg_sub (k_fld K (pv 0) rfl) (pv 1) set_list))
    (pss_one (ps_fld (pv 0) (pv 4) rfl)))))), ?_⟩
    refine ⟨_, rfl, p, _, _, _, _, rfl, A.hp, W.cl_Tableau, W.n_Tableau_lines, tf_lines, ?_⟩
    refine ⟨_, rfl, r_lget A.hL h2 ?_⟩
    refine ⟨_, rfl, _, rfl, r_lget h4 (TS.at_ h3 (by omega)) ?_⟩
    refine ⟨_, rfl, p, _, _, _, _, rfl, A.hp, W.cl_Tableau, W.n_Tableau_lines, tf_lines, ?_⟩
    refine ⟨aL, _, rfl, .inl (SqL.of A.hL), ?_⟩
    rw [List.length_map, A.ll, ll]
    refine ⟨_, rfl, by omega, by omega, ?_⟩
    refine for_range (lo := 0) (n := (((t.many + 2 : Nat) : Nat) : Int).toNat) (fun i σ H' => ∃ (v1 v2 v3 v4 v5 : Option V) (t' : TS) (las' : List Addr), σ = [some (.ref p), some (.int (r : Int)), some (.int (q : Int)), some (.ref a), some (.int (t.tb.T r q)), v1, v2, v3, v4, v5] ∧
        H' a = some (.lst (l.map V.int)) ∧ a ≠ aL ∧ TAd K G H' p t' dx aS aL aB las' ∧ t'.wide = t.wide ∧ t'.many = t.many ∧ t'.base = t.base ∧ t'.bottom = t.bottom ∧ t'.lines.length = t.lines.length ∧
        ∀ (k : Nat) (l' : List Int), t.lines[k]? = some l' → t'.lines[k]? = some (if k = r ∨ i ≤ k then l' else newL (t.tb.T r q) (t.tb.T k q) t.bottom l' l))
      ⟨_, _, _, _, _, t, las, rfl, h4, (A.neL a (List.mem_of_getElem? h1)).1, A, rfl, rfl, rfl, rfl, rfl, fun k l' e => by rw [if_pos (.inr (Nat.zero_le _))]; exact e⟩ ?_ ?_
    · rintro i σ H' hi ⟨v1, v2, v3, v4, v5, t', las', rfl, ha, naL, A', e1, e2, e3, e4, e5, hk⟩
      refine ⟨_, rfl, _, rfl, rfl, _, rfl, ?_⟩
      refine ite2 (fun hc => ?_) (fun hc => ?_)
      · have hc : ¬ i = r := fun z => by
          subst z
          have z2 : (!decide (V.int (0 + ((i : Nat) : Int)) = V.int ((i : Nat) : Int))) = true := hc
          rw [decide_eq_true (by rw [Int.zero_add])] at z2
          cases z2
        obtain ⟨a', l', g1, g2, g3, g4⟩ := A'.line (i := i) (by omega)
        have gi : t.lines[i]? = some l' := by
          have hi2 : i < t.lines.length := by omega
          have z := hk i _ (List.getElem?_eq_getElem hi2)
          rw [if_pos (.inr (Nat.le_refl _)), g3] at z
          rw [List.getElem?_eq_getElem hi2, ← z]
        have gl' := wf.len gi
        refine ⟨_, rfl, p, _, _, _, _, rfl, A'.hp, W.cl_Tableau, W.n_Tableau_lines, tf_lines, ?_⟩
        refine ⟨_, rfl, r_lgetI (j := i) A'.hL (by omega) g2 ?_⟩
        refine ⟨_, rfl, _, rfl, r_lget g4 (TS.at_ g3 (by omega)) ?_⟩
        have eT : t'.tb.T i q = t.tb.T i q := by rw [TS.T_of g3, TS.T_of gi]
        rw [eT]
        refine ⟨_, rfl, _, rfl, a', a, _, _, rfl, .inl ⟨SqL.of g4, SqL.of ha, fun D hD => ?_⟩⟩
        refine lc_zipLG (fun j v _ => ∃ x y, l'[j]? = some x ∧ l[j]? = some y ∧ v = .int ((x * t.tb.T r q - t.tb.T i q * y) / t.bottom)) (SqL.of g4) (SqL.of ha) hD (by rw [List.length_map]; omega) (fun _ _ _ _ _ h => h) (fun j x y T H1 acc Qy hx hy s1 hA hT z => ?_) (fun H1 ys s1 hA hl2 hy => ?_)
        · obtain ⟨u, hu, rfl⟩ := ints_at hx
          obtain ⟨v, hv, rfl⟩ := ints_at hy
          have bu := wf.bits _ (List.mem_of_getElem? gi) _ (List.mem_of_getElem? hu)
          have bv := wf.bits _ (List.mem_of_getElem? h3) _ (List.mem_of_getElem? hv)
          have b1 := wf.bitT (i := r) (j := q) (by omega) (by omega)
          have b2 := wf.bitT (i := i) (j := q) (by omega) (by omega)
          have A1 := (A'.mono s1).mono (Same.upd hT (o := .tup [.int u, .int v]))
          have hp1 := A1.hp
          rw [e4] at hp1
          refine ⟨T, _, rfl, SqT.of upd_same, rfl, _, _, rfl, _, _, rfl, rfl, rfl, ?_⟩
          refine ⟨_, rfl, _, rfl, _, _, rfl, rfl, wide_mul bu b1 (by decide) (by decide) (by decide), ?_⟩
          refine ⟨_, rfl, _, rfl, _, _, rfl, rfl, wide_mul b2 bv (by decide) (by decide) (by decide), ?_⟩
          refine ⟨_, _, rfl, rfl, ?_⟩
          refine ⟨_, rfl, p, _, _, _, _, rfl, hp1, W.cl_Tableau, W.n_Tableau_bottom, tf_bottom, ?_⟩
          refine ⟨_, _, rfl, rfl, wide_div hb wf.bot (by decide) (by decide), ?_⟩
          exact z _ _ (Xt.new hT) (by rw [upd_ne (ne_of_none hA hT)]; exact hA) ⟨u, v, hu, hv, rfl⟩
        · have e : ys = (newL (t.tb.T r q) (t.tb.T i q) t.bottom l' l).map V.int := by
            unfold newL
            rw [List.map_map]
            refine eq_map (by rw [hl2]; simp) fun j y z => ?_
            obtain ⟨u, v, hu, hv, rfl⟩ := hy j y z
            exact ⟨(u, v), by rw [List.getElem?_zip_eq_some]; exact ⟨hu, hv⟩, rfl⟩
          have A1 := A'.mono s1
          rw [e] at hA
          have n1 : D ≠ aL := fun z => by rw [z, A'.hL] at hD; cases hD
          have n2 : D ≠ aB := fun z => by rw [z, A'.hB] at hD; cases hD
          refine ⟨_, rfl, p, _, _, _, _, rfl, A1.hp, W.cl_Tableau, W.n_Tableau_lines, tf_lines, ?_⟩
          refine ⟨_, rfl, aL, _, _, i, rfl, rfl, A1.hL, ?_, ?_⟩
          · rw [List.length_map, A1.ll]
            show ixN _ (0 + ((i : Nat) : Int)) = some i
            unfold ixN
            rw [if_pos (by omega), if_pos (by omega)]
            congr 1; omega
          · refine ⟨_, _, _, _, _, _, _, rfl, by rw [upd_ne naL]; exact s1 _ _ ha, naL, A1.setLine hA n1 n2, e1, e2, e3, e4, by simp [e5], fun k l'' hk1 => ?_⟩
            show (t'.lines.set i _)[k]? = _
            rw [List.getElem?_set]
            have hk2 := hk k l'' hk1
            by_cases e : i = k
            · subst e
              rw [gi] at hk1
              cases hk1
              rw [if_pos rfl, if_pos (by omega), if_neg (by omega)]
            · rw [if_neg e, hk2]
              congr 1
              by_cases z : k = r
              · rw [if_pos (.inl z), if_pos (.inl z)]
              · by_cases z2 : i ≤ k
                · rw [if_pos (.inr z2), if_pos (.inr (by omega))]
                · rw [if_neg (by omega), if_neg (by omega)]
      · have hc : i = r := by
          refine Classical.byContradiction fun z => hc ?_
          show (!decide (V.int (0 + ((i : Nat) : Int)) = V.int ((r : Nat) : Int))) = true
          rw [decide_eq_false (by intro h; injection h with h; omega)]
          rfl
        subst hc
        refine ⟨_, _, _, _, _, t', las', rfl, ha, naL, A', e1, e2, e3, e4, e5, fun k l' hk1 => ?_⟩
        rw [hk k l' hk1]
        congr 1
        by_cases z : k = i
        · rw [if_pos (.inl z), if_pos (.inl z)]
        · by_cases z2 : i ≤ k
          · rw [if_pos (.inr z2), if_pos (.inr (by omega))]
          · rw [if_neg (by omega), if_neg (by omega)]
    · rintro σ H' ⟨v1, v2, v3, v4, v5, t', las', rfl, ha, naL, A', e1, e2, e3, e4, e5, hk⟩
      refine ⟨_, rfl, _, rfl, p, _, _, _, _, rfl, A'.hp, W.cl_Tableau, W.n_Tableau_base, tf_base, ?_⟩
      refine ⟨_, rfl, aB, _, _, r, rfl, rfl, A'.hB, ?_, ?_⟩
      · rw [List.length_map, e3, wf.bl]
        unfold ixN
        rw [if_pos (by omega), if_pos (by omega)]
        congr 1
      · have A2 := A'.setBase (i := r) (q := q)
        refine ⟨_, rfl, _, rfl, p, _, _, _, rfl, A2.hp, W.cl_Tableau, W.n_Tableau_bottom, by show 6 < 1000; decide, ?_⟩
        rw [tf_put]
        refine k _ _ ⟨_, _, _, _, _, A2.setBottom (b := t.tb.T r q)⟩ ⟨e1, e2, by show t'.base.set r q = _; rw [e3], rfl, e5, fun k' l' hk1 => ?_⟩
        rw [gl]
        have z := hk k' l' hk1
        have hk3 : k' < t.many + 2 := by
          have := (List.getElem?_eq_some_iff.mp hk1).1
          omega
        show t'.lines[k']? = _
        rw [z]
        congr 1
        by_cases z : k' = r
        · rw [if_pos (.inl z), if_pos z]
        · rw [if_neg (by omega), if_neg z]
end
end TN
set_option Elab.async false
set_option linter.all false
set_option maxRecDepth 100000
set_option maxHeartbeats 4000000
/-! W6: a tableau's run, clear. -/
namespace TN
open PySem PySem.Spec PyProof.Rows L2
/-- how great the lines at first are -/
def LB (m w : Nat) (L : Nat → Nat → Int) : Prop := ∃ b : Nat, 1 ≤ b ∧ (∀ i j, i < m + 2 → j < w + m + 1 → (L i j).natAbs ≤ b) ∧ fac (m + 2) * b ^ (m + 2) < 2 ^ 4000
/-- what a tableau must be throughout -/
structure Good (L : Nat → Nat → Int) (t : TS) : Prop where
  ll : t.lines.length = t.many + 2
  lw : ∀ l ∈ t.lines, l.length = t.wide + t.many + 1
  bl : t.base.length = t.many
  sz : t.wide + t.many ≤ 1000
  iv : Iv t.many t.wide L t.tb
  hlp : Hlp t.many t.wide L
  lb : LB t.many t.wide L
section
variable {L : Nat → Nat → Int} {t t' : TS} {r q : Nat}
theorem Good.wf (g : Good L t) : t.Wf where
  ll := g.ll
  lw := g.lw
  bl := g.bl
  sz := g.sz
  bits := fun l hl x hx => by
    obtain ⟨b, h1, h2, h3⟩ := g.lb
    obtain ⟨i, hi, rfl⟩ := List.mem_iff_getElem.mp hl
    obtain ⟨j, hj, rfl⟩ := List.mem_iff_getElem.mp hx
    have hw := g.lw _ (List.getElem_mem hi)
    have e : t.tb.T i j = t.lines[i][j] := by
      rw [TS.T_of (List.getElem?_eq_getElem hi), List.getD_eq_getElem?_getD, List.getElem?_eq_getElem hj]; rfl
    have z := g.iv.size h1 h2 (i := i) (j := j) (by rw [← g.ll]; exact hi) (by rw [← hw]; exact hj)
    rw [e] at z
    exact Nat.lt_of_le_of_lt z h3
  bot := by
    obtain ⟨b, h1, h2, h3⟩ := g.lb
    exact Nat.lt_of_le_of_lt (g.iv.sizeD h1 h2) h3
theorem newL_get {piv part bot : Int} {l line : List Int} (h : l.length = line.length) {j : Nat} (hj : j < l.length) : (newL piv part bot l line).getD j 0 = (l.getD j 0 * piv - part * line.getD j 0) / bot := by
  unfold newL
  simp only [List.getD_eq_getElem?_getD, List.getElem?_map]
  have h2 : j < line.length := by omega
  have e : (l.zip line)[j]? = some (l[j], line[j]) := by
    rw [List.getElem?_zip_eq_some]; exact ⟨List.getElem?_eq_getElem hj, List.getElem?_eq_getElem h2⟩
  rw [e, List.getElem?_eq_getElem hj, List.getElem?_eq_getElem h2]
  rfl
/-- the step is a pivot, the row perhaps turned ahead of it (s = -1) -/
theorem StepR.len_ (wf : t.Wf) (S : StepR t r q t') (hr : r < t.many) : ∀ l ∈ t'.lines, l.length = t'.wide + t'.many + 1 := fun l hl => by
  have ll := wf.ll
  obtain ⟨k, hk, rfl⟩ := List.mem_iff_getElem.mp hl
  have hk2 : k < t.lines.length := by rw [← S.len]; exact hk
  have z := S.lines k _ (List.getElem?_eq_getElem hk2)
  rw [List.getElem?_eq_getElem hk] at z
  rw [Option.some.inj z, S.wide, S.many]
  have h1 := wf.lw _ (List.getElem_mem hk2)
  have h2 : (t.lines.getD r []).length = t.wide + t.many + 1 := by
    rw [List.getD_eq_getElem?_getD, List.getElem?_eq_getElem (show r < t.lines.length by omega)]
    exact wf.lw _ (List.getElem_mem _)
  split
  · exact h1
  · unfold newL
    rw [List.length_map, List.length_zip, h1, h2]
    omega
theorem StepR.piv (wf : t.Wf) (S : StepR t r q t') (hr : r < t.many) (hq : q < t.wide + t.many) (hp : 0 < t.tb.T r q) : Piv t.many t.wide t.tb t'.tb r q 1 where
  hr := hr
  hq := hq
  hs := .inl rfl
  d := by rw [Int.one_mul]; exact S.bottom
  ds := by show 0 < t'.bottom; rw [S.bottom]; exact hp
  ber := by
    show t'.base.getD r 0 = q
    rw [S.base, List.getD_eq_getElem?_getD, List.getElem?_set_self (by rw [wf.bl]; exact hr)]; rfl
  be := fun k hk e => by
    show t'.base.getD k 0 = t.base.getD k 0
    rw [S.base, List.getD_eq_getElem?_getD, List.getElem?_set_ne (fun z => e z.symm), ← List.getD_eq_getElem?_getD]
  tr := fun j hj => by
    have ll := wf.ll
    have h1 : r < t.lines.length := by omega
    have z := S.lines r _ (List.getElem?_eq_getElem h1)
    rw [if_pos rfl] at z
    rw [TS.T_of z, TS.T_of (List.getElem?_eq_getElem h1), Int.one_mul]
  t := fun i j hi e hj => by
    have ll := wf.ll
    have h1 : i < t.lines.length := by omega
    have h2 : r < t.lines.length := by omega
    have z := S.lines i _ (List.getElem?_eq_getElem h1)
    rw [if_neg e] at z
    have w1 := wf.lw _ (List.getElem_mem h1)
    have w2 := wf.lw _ (List.getElem_mem h2)
    have g : t.lines.getD r [] = t.lines[r] := by rw [List.getD_eq_getElem?_getD, List.getElem?_eq_getElem h2]; rfl
    rw [g] at z
    have hd : t'.tb.d = t.tb.T r q := S.bottom
    rw [TS.T_of z, newL_get (by omega) (by omega), ← TS.T_of (List.getElem?_eq_getElem h1), ← TS.T_of (List.getElem?_eq_getElem h2), hd, Int.one_mul]
    rfl
theorem StepR.good (g : Good L t) (S : StepR t r q t') (hr : r < t.many) (hq : q < t.wide + t.many) (hp : 0 < t.tb.T r q) : Good L t' where
  ll := by rw [S.len, S.many]; exact g.ll
  lw := S.len_ g.wf hr
  bl := by rw [S.base, List.length_set, S.many]; exact g.bl
  sz := by rw [S.wide, S.many]; exact g.sz
  iv := by rw [S.wide, S.many]; exact (S.piv g.wf hr hq hp).inv g.iv
  hlp := by rw [S.wide, S.many]; exact g.hlp
  lb := by rw [S.wide, S.many]; exact g.lb
end
/-- n steps by the rule -/
def RchN (m w o n : Nat) (S S' : Tb) : Prop := ∃ (s : Nat → Tb) (r q : Nat → Nat), s 0 = S ∧ s n = S' ∧ ∀ k, k < n → BSt m w o (s k) (s (k + 1)) (r k) (q k)
theorem RchN.zero {m w o : Nat} (S : Tb) : RchN m w o 0 S S := ⟨fun _ => S, fun _ => 0, fun _ => 0, rfl, rfl, fun k h => by omega⟩
theorem RchN.snoc {m w o n : Nat} {S S1 S2 : Tb} {r q : Nat} (h : RchN m w o n S S1) (b : BSt m w o S1 S2 r q) : RchN m w o (n + 1) S S2 := by
  obtain ⟨s, rr, qq, e0, en, st⟩ := h
  refine ⟨fun k => if k ≤ n then s k else S2, fun k => if k < n then rr k else r, fun k => if k < n then qq k else q, ?_, ?_, fun k hk => ?_⟩
  · show (if 0 ≤ n then s 0 else S2) = S
    rw [if_pos (Nat.zero_le _), e0]
  · show (if n + 1 ≤ n then s (n + 1) else S2) = S2
    rw [if_neg (by omega)]
  · by_cases e : k < n
    · simp only [if_pos e, if_pos (show k ≤ n by omega), if_pos (show k + 1 ≤ n by omega)]
      exact st k e
    · have : k = n := by omega
      subst this
      simp only [if_neg (Nat.lt_irrefl k), if_pos (Nat.le_refl k), if_neg (show ¬ k + 1 ≤ k by omega)]
      rw [en]
      exact b
theorem RchN.keeps {m w o n : Nat} {S S' : Tb} {Pr : Tb → Prop} (h : RchN m w o n S S') (h0 : Pr S) (hs : ∀ S1 S2 r q, Pr S1 → BSt m w o S1 S2 r q → Pr S2) : Pr S' := by
  obtain ⟨s, r, q, rfl, rfl, st⟩ := h
  have : ∀ k, k ≤ n → Pr (s k) := fun k => by
    induction k with
    | zero => intro _; exact h0
    | succ k ih => intro hk; exact hs _ _ _ _ (ih (by omega)) (st k (by omega))
  exact this n (Nat.le_refl _)
section
variable {P : Program} {w : World} {K : PySem.W.Frag} {mg : Str → Option Value} {base : Heap}
def spRun (K : PySem.W.Frag) : Sp := fun vs H Q _ => ∃ (G : Hp) (p : Addr) (t : TS) (o : Nat) (L : Nat → Nat → Int), vs = [.ref p, .int (o : Int)] ∧ TabAt K G H p t ∧ Good L t ∧ NonNeg t.many t.wide t.tb ∧ t.many ≤ o ∧ o < t.many + 2 ∧
  ∀ H' t' n, TabAt K G H' p t' → Good L t' → t'.wide = t.wide → t'.many = t.many → RchN t.many t.wide o n t.tb t'.tb →
    ((∀ j, j < t.wide → 0 ≤ t'.tb.T o j) → Q .non H') ∧ ∀ q, q < t.wide → t'.tb.T o q < 0 → (∀ i, i < t.many → t'.tb.T i q ≤ 0) → Q (.int (q : Int)) H'
/-! Tableau.run: slots 0 self, 1 number, 2 place, 3 at; calls ['M_Tableau_entering', 'M_Tableau_leaving', 'M_Tableau_step'] -/
abbrev N_Tableau_run : List Str := ["self", "number", "place", "at"]
theorem sc_Tableau_run : FnScope N_Tableau_run ["self", "number"] (defScope s_Tableau_run) := ⟨rfl, rfl, rfl, by decide +kernel, rfl, by decide +kernel, by decide +kernel⟩
theorem ok_Tableau_run (W : Wd K mg) : OkM P w K mg base 2 "Tableau" "run" ["self", "number"] (spRun K) := by
  have sc := sc_Tableau_run
  have M_Tableau_entering : OkM P w K mg base 1 "Tableau" "entering" ["self", "number"] (spEntering K) := ok_Tableau_entering W
  have M_Tableau_leaving : OkM P w K mg base 1 "Tableau" "leaving" ["self", "place"] (spLeaving K) := ok_Tableau_leaving W
  have M_Tableau_step : OkM P w K mg base 1 "Tableau" "step" ["self", "at", "place"] (spStep K) := ok_Tableau_step W
  refine OkM.mk' W.F_Tableau_run sc (fun vs H Q E h => ?_) (fun _ _ _ _ _ _ us hl => match us, hl with | [_, _], _ => rfl) (fun cdv A outer s H vs Q E hr h => ?_)
  · obtain ⟨G, p, t, o, L, rfl, _⟩ := h
    rfl
  · obtain ⟨G, p, t, o, L, rfl, TA, g, N, o1, o2, k⟩ := h
    refine ⟨_, (pss_cons (ps_set (i := 2) sc.nd rfl (Or.inl rfl) (pe_m (pv 0) W.cl_Tableau W.m_Tableau_entering M_Tableau_entering (hr.mono (by decide)) (pa_cons (pv 1) pa_nil)))
    (pss_cons (ps_while PassesOwn.never (pt_cmpR op_notN (pv 2) pe_non (nomark _))
      (pss_cons (ps_set (i := 3) sc.nd rfl (Or.inl rfl) (pe_m (pv 0) W.cl_Tableau W.m_Tableau_leaving M_Tableau_leaving (hr.mono (by decide)) (pa_cons (pv 2) pa_nil)))
      (pss_cons (ps_if (pt_cmpR op_isN (pv 3) pe_non (nomark _))
        (pss_one (ps_ret (pv 2)))
        pss_nil)
      (pss_cons (ps_expr (pe_m (pv 0) W.cl_Tableau W.m_Tableau_step M_Tableau_step (hr.mono (by decide)) (pa_cons (pv 3) (pa_cons (pv 2) pa_nil))))
      (pss_one (ps_set (i := 2) sc.nd rfl (Or.inl rfl) (pe_m (pv 0) W.cl_Tableau W.m_Tableau_entering M_Tableau_entering (hr.mono (by decide)) (pa_cons (pv 1) pa_nil))))))))
    (pss_one (ps_ret pe_non)))), ?_⟩
    have ins : ∀ {H : Hp} {t' : TS}, TabAt K G H p t' → ∃ dx fs, H p = some (.ins (He.ga K "Tableau") dx fs) ∧ fs.lookup ("entering" : Str) = none ∧ fs.lookup ("leaving" : Str) = none ∧ fs.lookup ("step" : Str) = none := fun ⟨dx, aS, aL, aB, las, A⟩ => ⟨_, _, A.hp, rfl, rfl, rfl⟩
    -- the state at the test of the loop
    let St := fun (n : Nat) (pl : V) (H' : Hp) => ∃ t' : TS, TabAt K G H' p t' ∧ Good L t' ∧ t'.wide = t.wide ∧ t'.many = t.many ∧ RchN t.many t.wide o n t.tb t'.tb ∧ ((pl = .non ∧ ∀ j, j < t.wide → 0 ≤ t'.tb.T o j) ∨ ∃ q : Nat, pl = .int (q : Int) ∧ q < t.wide ∧ t'.tb.T o q < 0 ∧ ∀ j, j < q → 0 ≤ t'.tb.T o j)
    obtain ⟨dx, fs, hp, l1, l2, l3⟩ := ins TA
    refine ⟨_, rfl, p, _, _, rfl, hp, l1, _, rfl, G, p, t, o, rfl, TA, g.wf, o2, fun q hq h1 h2 => ?_, fun h1 => ?_⟩
    all_goals
      refine ⟨fun m σ H' => ∃ (n : Nat) (pl : V) (v : Option V), σ = [some (.ref p), some (.int (o : Int)), some pl, v] ∧ m = (t.wide + t.many) ^ t.many - n ∧ St n pl H', ⟨_, 0, _, none, rfl, rfl, t, TA, g, rfl, rfl, RchN.zero _, ?_⟩, ?_⟩
      · first | exact .inr ⟨q, rfl, hq, h1, h2⟩ | exact .inl ⟨rfl, h1⟩
      rintro m σ H' ⟨n, pl, v, rfl, rfl, t', TA', g', e1, e2, R, hpl⟩
      refine ⟨_, rfl, rfl, _, rfl, ?_⟩
      have N' : NonNeg t'.many t'.wide t'.tb := by
        rw [e1, e2]
        have := R.keeps (Pr := fun S => Iv t.many t.wide L S ∧ NonNeg t.many t.wide S) ⟨g.iv, N⟩ fun S1 S2 r q ⟨i1, n1⟩ b => ⟨b.piv.inv i1, b.nonneg i1 n1⟩
        exact this.2
      rcases hpl with ⟨rfl, hj⟩ | ⟨q, rfl, hq, hn, hf⟩
      · refine iteF ?_
        exact (k H' t' n TA' g' e1 e2 R).1 hj
      · refine iteT ?_
        obtain ⟨dx', fs', hp', l1', l2', l3'⟩ := ins TA'
        have bl : n < (t.wide + t.many) ^ t.many := by
          obtain ⟨s, r, q, e0, en, st⟩ := R
          exact bland g.hlp o1 o2 (by rw [e0]; exact g.iv) (by rw [e0]; exact N) st
        refine ⟨fun σ' H'' => ∃ m', m' < (t.wide + t.many) ^ t.many - n ∧ ∃ (n : Nat) (pl : V) (v : Option V), σ' = [some (.ref p), some (.int (o : Int)), some pl, v] ∧ m' = (t.wide + t.many) ^ t.many - n ∧ St n pl H'', fun σ' H'' z => z, ?_⟩
        refine ⟨_, rfl, p, _, _, rfl, hp', l2', _, rfl, G, p, t', q, rfl, TA', g'.wf, by omega, fun r hr hp2 hl => ?_, fun hno => ?_⟩
        · -- a step
          have hb : 0 < t'.bottom := g'.iv.pos
          refine ⟨_, rfl, rfl, _, rfl, iteF ?_⟩
          refine ⟨_, rfl, p, _, _, rfl, hp', l3', _, rfl, _, rfl, G, p, t', r, q, rfl, TA', g'.wf, hr, by omega, hb, fun H2 t2 TA2 S => ?_⟩
          have g2 := S.good g' hr (by omega) hp2
          have pv := S.piv g'.wf hr (by omega) hp2
          rw [e1, e2] at pv hl
          have b : BSt t.many t.wide o t'.tb t2.tb r q := ⟨pv, hq, hn, hf, hp2, fun i hi hpos => hl i (by omega) hpos⟩
          have w2 : t2.wide = t.wide := S.wide.trans e1
          have m2 : t2.many = t.many := S.many.trans e2
          obtain ⟨dx2, fs2, hp22, l12, l22, l32⟩ := ins TA2
          refine ⟨_, rfl, p, _, _, rfl, hp22, l12, _, rfl, G, p, t2, o, rfl, TA2, g2.wf, by omega, fun q' hq' h1' h2' => ?_, fun h1' => ?_⟩
          · exact ⟨_, by omega, n + 1, _, _, rfl, rfl, t2, TA2, g2, w2, m2, R.snoc b, .inr ⟨q', rfl, by omega, h1', h2'⟩⟩
          · exact ⟨_, by omega, n + 1, _, _, rfl, rfl, t2, TA2, g2, w2, m2, R.snoc b, .inl ⟨rfl, fun j hj => h1' j (by omega)⟩⟩
        · -- gains without end
          refine ⟨_, rfl, rfl, _, rfl, iteT ?_⟩
          refine ⟨_, rfl, ?_⟩
          exact (k H' t' n TA' g' e1 e2 R).2 q hq hn fun i hi => hno i (by omega)
end
end TN
set_option Elab.async false
set_option linter.all false
set_option maxRecDepth 100000
set_option maxHeartbeats 4000000
/-! W7: a tableau's clear. -/
namespace TN
open PySem PySem.Spec PyProof.Rows L2
/-- a row turned -/
def TS.neg (t : TS) (r : Nat) : TS := { t with lines := t.lines.set r ((t.lines.getD r []).map fun x => -x) }
section
variable {L : Nat → Nat → Int} {t t' : TS} {r q : Nat}
theorem neg_T (hr : r < t.lines.length) (j : Nat) : (t.neg r).tb.T r j = - t.tb.T r j := by
  have e : (t.neg r).lines[r]? = some ((t.lines.getD r []).map fun x => -x) := by
    show (t.lines.set r _)[r]? = _
    rw [List.getElem?_set_self hr]
  rw [TS.T_of e, TS.T_of (List.getElem?_eq_getElem hr)]
  have g : t.lines.getD r [] = t.lines[r] := by rw [List.getD_eq_getElem?_getD, List.getElem?_eq_getElem hr]; rfl
  rw [g]
  simp only [List.getD_eq_getElem?_getD, List.getElem?_map]
  cases t.lines[r][j]? <;> simp
theorem neg_T' {i : Nat} (h : i ≠ r) (j : Nat) : (t.neg r).tb.T i j = t.tb.T i j := by
  show ((t.lines.set r _).getD i []).getD j 0 = (t.lines.getD i []).getD j 0
  congr 1
  simp only [List.getD_eq_getElem?_getD]
  rw [List.getElem?_set_ne (fun z => h z.symm)]
theorem neg_wf (wf : t.Wf) (hr : r < t.many) : (t.neg r).Wf := by
  have ll := wf.ll
  have hr2 : r < t.lines.length := by omega
  have g : t.lines.getD r [] = t.lines[r] := by rw [List.getD_eq_getElem?_getD, List.getElem?_eq_getElem hr2]; rfl
  refine ⟨by show (t.lines.set r _).length = _; rw [List.length_set]; exact ll, fun l hl => ?_, wf.bl, wf.sz, fun l hl x hx => ?_, wf.bot⟩
  · rcases List.mem_or_eq_of_mem_set hl with h | h
    · exact wf.lw l h
    · rw [h, List.length_map, g]; exact wf.lw _ (List.getElem_mem hr2)
  · rcases List.mem_or_eq_of_mem_set hl with h | h
    · exact wf.bits l h x hx
    · rw [h, g] at hx
      obtain ⟨y, hy, rfl⟩ := List.mem_map.mp hx
      have := wf.bits _ (List.getElem_mem hr2) y hy
      unfold Bits at *
      rw [Int.natAbs_neg]; exact this
theorem StepR.piv_neg (wf : t.Wf) (S : StepR (t.neg r) r q t') (hr : r < t.many) (hq : q < t.wide + t.many) (hp : t.tb.T r q < 0) : Piv t.many t.wide t.tb t'.tb r q (-1) := by
  have ll := wf.ll
  have hr2 : r < t.lines.length := by omega
  have e0 := neg_T hr2 q
  have pv := S.piv (neg_wf wf hr) hr hq (by rw [e0]; omega)
  refine ⟨hr, hq, .inr rfl, ?_, pv.ds, pv.ber, pv.be, fun j hj => ?_, fun i j hi hir hj => ?_⟩
  · have := pv.d
    rw [e0] at this
    omega
  · have := pv.tr j hj
    rw [neg_T hr2] at this
    omega
  · have := pv.t i j hi hir hj
    rw [neg_T hr2, neg_T' hir, neg_T' hir] at this
    rw [this, Int.one_mul]
    show (_ - _ * -t.tb.T r j) / t.bottom = (_ - _ * (-1 * t.tb.T r j)) / t.bottom
    rw [Int.neg_one_mul]
theorem Good.of_piv {s : Int} (g : Good L t) (pv : Piv t.many t.wide t.tb t'.tb r q s) (w_ : t'.wide = t.wide) (m_ : t'.many = t.many) (ll : t'.lines.length = t'.many + 2) (lw : ∀ l ∈ t'.lines, l.length = t'.wide + t'.many + 1) (bl : t'.base.length = t'.many) : Good L t' where
  ll := ll
  lw := lw
  bl := bl
  sz := by rw [w_, m_]; exact g.sz
  iv := by rw [w_, m_]; exact pv.inv g.iv
  hlp := by rw [w_, m_]; exact g.hlp
  lb := by rw [w_, m_]; exact g.lb
end
section
variable {P : Program} {w : World} {K : PySem.W.Frag} {mg : Str → Option Value} {base : Heap}
def spClear (K : PySem.W.Frag) : Sp := fun vs H Q _ => ∃ (G : Hp) (p : Addr) (t : TS) (L : Nat → Nat → Int), vs = [.ref p] ∧ TabAt K G H p t ∧ Good L t ∧ NonNeg t.many t.wide t.tb ∧ Empt t.many t.wide t.tb ∧
  ∀ H' t', TabAt K G H' p t' → Good L t' → t'.wide = t.wide → t'.many = t.many → NonNeg t.many t.wide t'.tb → Empt t.many t.wide t'.tb → Clr t.many t.wide t.many t'.tb → Q .non H'
/-! Tableau.clear: slots 0 self, 1 at, 2 places, 3 place, 4 item; calls ['M_Tableau_step'] -/
abbrev N_Tableau_clear : List Str := ["self", "at", "places", "place", "item"]
theorem sc_Tableau_clear : FnScope N_Tableau_clear ["self"] (defScope s_Tableau_clear) := ⟨rfl, rfl, rfl, by decide +kernel, rfl, by decide +kernel, by decide +kernel⟩
theorem ok_Tableau_clear (W : Wd K mg) : OkM P w K mg base 2 "Tableau" "clear" ["self"] (spClear K) := by
  have sc := sc_Tableau_clear
  have M_Tableau_step : OkM P w K mg base 1 "Tableau" "step" ["self", "at", "place"] (spStep K) := ok_Tableau_step W
  refine OkM.mk' W.F_Tableau_clear sc (fun vs H Q E h => ?_) (fun _ _ _ _ _ _ us hl => match us, hl with | [_], _ => rfl) (fun cdv A outer s H vs Q E hr h => ?_)
  · obtain ⟨G, p, t, L, rfl, _⟩ := h
    rfl
  · obtain ⟨G, p, t, L, rfl, ⟨dx, aS, aL, aB, las, A⟩, g, N, E0', k⟩ := h
    have sz := g.sz
    refine ⟨_, (pss_one (ps_for PassesOwn.never rfl (pi_range1 (by rfl) W.b_range (pa_cons (k_fld K (pv 0) rfl) pa_nil)) (pg_name (i := 1) sc.nd rfl (Or.inr rfl))
      (pss_one (ps_if (pt_cmpR op_ge (pe_ix (k_ixl K) (k_fld K (pv 0) rfl) (pv 1) (fun _ _ => rfl)) (k_fld K (pv 0) rfl) (nomark _))
        (pss_cons (ps_setLc (i := 2) (own := [("place", 3)]) (g := gName 3) rfl sc.nd rfl rfl (sw_true rfl rfl rfl (by decide +kernel)) (pi_range1 (by rfl) W.b_range (pa_cons (k_fld K (pv 0) rfl) pa_nil)) (blkOk_by (N := N_Tableau_clear) (sc := defScope s_Tableau_clear) (by decide +kernel))  (fun _ _ _ _ _ => (pg_name (i := 3) sc.nd rfl (Or.inl rfl))) (fun _ _ _ _ _ => (pts_one (pt_cmpR op_ne (pe_ix (k_ixl K) (pe_ix (k_ixl K) (k_fld K (pv 0) rfl) (pv 1) (fun _ _ => rfl)) (pv 3) (fun _ _ => rfl)) pe_int (nomark _)))) (fun _ _ _ _ _ => (pv 3)))
        (pss_one (ps_if (pt_cmpR op_gt (pe_callB (k_len K) (by rfl) W.b_len PySem.boot_len (pa_cons (pv 2) pa_nil)) pe_int (nomark _))
          (pss_cons (ps_if (pt_cmpR op_lt (pe_ix (k_ixl K) (pe_ix (k_ixl K) (k_fld K (pv 0) rfl) (pv 1) (fun _ _ => rfl)) (pe_ix (k_ixl K) (pv 2) pe_int (fun _ _ => rfl)) (fun _ _ => rfl)) pe_int (nomark _))
            (pss_one (ps_asg (pe_lc (own := [("item", 4)]) (g := gName 4) rfl sc.nd (k_pil K (pe_ix (k_ixl K) (k_fld K (pv 0) rfl) (pv 1) (fun _ _ => rfl))) (blkOk_by (N := N_Tableau_clear) (sc := defScope s_Tableau_clear) (by decide +kernel))  (fun _ _ _ _ _ => (pg_name (i := 4) sc.nd rfl (Or.inl rfl))) (fun _ _ _ _ _ => pts_nil) (fun _ _ _ _ _ => (pe_un un_neg (pv 4)))) (pg_sub (k_fld K (pv 0) rfl) (pv 1) set_list)))
            pss_nil)
          (pss_one (ps_expr (pe_m (pv 0) W.cl_Tableau W.m_Tableau_step M_Tableau_step (hr.mono (by decide)) (pa_cons (pv 1) (pa_cons (pe_ix (k_ixl K) (pv 2) pe_int (fun _ _ => rfl)) pa_nil))))))
          pss_nil)))
        pss_nil)))), ?_⟩
    refine ⟨_, rfl, p, _, _, _, _, rfl, A.hp, W.cl_Tableau, W.n_Tableau_many, tf_many, ?_⟩
    refine ⟨_, rfl, by omega, by omega, ?_⟩
    refine for_range (lo := 0) (n := ((t.many : Nat) : Int).toNat) (fun i σ H' => ∃ (v1 v2 v3 v4 : Option V) (t' : TS), σ = [some (.ref p), v1, v2, v3, v4] ∧ TabAt K G H' p t' ∧ Good L t' ∧ t'.wide = t.wide ∧ t'.many = t.many ∧ NonNeg t.many t.wide t'.tb ∧ Empt t.many t.wide t'.tb ∧ Clr t.many t.wide i t'.tb)
      ⟨_, _, _, _, t, rfl, ⟨dx, aS, aL, aB, las, A⟩, g, rfl, rfl, N, E0', fun i hi => by omega⟩ ?_ ?_
    · rintro i σ H' hi ⟨v1, v2, v3, v4, t', rfl, TA, g', e1, e2, N', E', C'⟩
      have hi' : i < t.many := by omega
      obtain ⟨dx, aS, aL, aB, las, A⟩ := id TA
      have wf := g'.wf
      have ll := wf.ll
      obtain ⟨a, l, h1, h2, h3, h4⟩ := A.line (i := i) (by omega)
      have hl := wf.len h3
      refine ⟨_, rfl, p, _, _, _, _, rfl, A.hp, W.cl_Tableau, W.n_Tableau_base, tf_base, ?_⟩
      refine ⟨_, rfl, r_lgetI (j := i) A.hB (by omega) (A.base wf (by omega)) ?_⟩
      refine ⟨_, rfl, p, _, _, _, _, rfl, A.hp, W.cl_Tableau, W.n_Tableau_wide, tf_wide, ?_⟩
      refine ⟨_, _, rfl, rfl, _, rfl, ?_⟩
      refine ite2 (fun hc => ?_) (fun hc => ?_)
      · have hc : ((t'.wide : Nat) : Int) ≤ ((t'.tb.be i : Nat) : Int) := of_decide_eq_true hc
        have hbe : t.wide ≤ t'.tb.be i := by omega
        refine ⟨_, rfl, p, _, _, _, _, rfl, A.hp, W.cl_Tableau, W.n_Tableau_wide, tf_wide, ?_⟩
        refine ⟨_, rfl, by omega, by omega, fun D hD => ?_⟩
        refine lc_range (lo := 0) (n := ((t'.wide : Nat) : Int).toNat) (fun j H1 => Same H' H1 ∧ ∃ ns : List Nat, H1 D = some (.lst (ns.map fun (n : Nat) => V.int (n : Int))) ∧ ns.length ≤ j ∧ (∀ n ∈ ns, n < t.wide ∧ t'.tb.T i n ≠ 0) ∧ (ns = [] → ∀ n, n < j → t'.tb.T i n = 0))
          ⟨Same.upd hD, [], upd_same, Nat.le_refl _, fun n h => by simp at h, fun _ n h => by omega⟩ (fun j H1 hj ⟨s1, ns, hA, hlen, hall, hnil⟩ => ⟨rfl, ?_⟩) (fun H1 ⟨s1, ns, hA, hlen, hall, hnil⟩ => ?_)
        · have A1 := A.mono s1
          have h41 := s1 _ _ h4
          have hj' : j < t.wide := by omega
          refine ⟨_, rfl, p, _, _, _, _, rfl, A1.hp, W.cl_Tableau, W.n_Tableau_lines, tf_lines, ?_⟩
          refine ⟨_, rfl, r_lgetI (j := i) A1.hL (by omega) h2 ?_⟩
          refine ⟨_, rfl, r_lgetI (j := j) h41 (by omega) (TS.at_ h3 (by omega)) ?_⟩
          refine ⟨rfl, _, rfl, ?_⟩
          refine ite2 (fun hc1 => ?_) (fun hc1 => ?_)
          · have hc1 : t'.tb.T i j ≠ 0 := fun z => by
              have z2 : (!decide (V.int (t'.tb.T i j) = V.int 0)) = true := hc1
              rw [decide_eq_true (by rw [z])] at z2
              cases z2
            refine ⟨_, rfl, _, hA, by rw [List.length_map, sizeLine_eq]; omega, (Xt.of s1).at.same hD, ns ++ [j], ?_, by simp; omega, fun n hn => ?_, fun z => by simp at z⟩
            · rw [upd_same, List.map_append]
              congr 3
              show [V.int (0 + (j : Int))] = [V.int (j : Int)]
              rw [Int.zero_add]
            · rcases List.mem_append.mp hn with h | h
              · exact hall n h
              · rw [List.mem_singleton.mp h]; exact ⟨hj', hc1⟩
          · have hc1 : t'.tb.T i j = 0 := by
              refine Classical.byContradiction fun z => hc1 ?_
              show (!decide (V.int (t'.tb.T i j) = V.int 0)) = true
              rw [decide_eq_false (by intro h; injection h with h; exact z h)]
              rfl
            refine ⟨s1, ns, hA, by omega, hall, fun e n hn => ?_⟩
            by_cases q : n = j
            · rw [q]; exact hc1
            · exact hnil e n (by omega)
        · have A1 := A.mono s1
          have h41 := s1 _ _ h4
          have gl : t'.lines.getD i [] = l := by rw [List.getD_eq_getElem?_getD, h3]; rfl
          have hb : 0 < t'.bottom := g'.iv.pos
          refine ⟨_, rfl, D, _, rfl, .inl (SqL.of hA), _, _, rfl, rfl, _, rfl, ?_⟩
          refine ite2 (fun hc1 => ?_) (fun hc1 => ?_)
          · obtain ⟨q, rest, rfl⟩ : ∃ q rest, ns = q :: rest := by
              cases ns with
              | nil => cases (of_decide_eq_true hc1)
              | cons q rest => exact ⟨q, rest, rfl⟩
            obtain ⟨hq, hT⟩ := hall q List.mem_cons_self
            -- behind the step
            have fin : ∀ {s : Int} {H2 : Hp} {t2 : TS} {v1 v2 v3 v4 : Option V}, TabAt K G H2 p t2 → Piv t'.many t'.wide t'.tb t2.tb i q s → t2.wide = t'.wide → t2.many = t'.many → t2.lines.length = t2.many + 2 → (∀ l ∈ t2.lines, l.length = t2.wide + t2.many + 1) → t2.base.length = t2.many →
                ∃ (v1' v2' v3' v4' : Option V) (t' : TS), [some (.ref p), v1, v2, v3, v4] = [some (.ref p), v1', v2', v3', v4'] ∧ TabAt K G H2 p t' ∧ Good L t' ∧ t'.wide = t.wide ∧ t'.many = t.many ∧ NonNeg t.many t.wide t'.tb ∧ Empt t.many t.wide t'.tb ∧ Clr t.many t.wide (i + 1) t'.tb :=
              fun {s H2 t2 v1 v2 v3 v4} TA2 pv w2 m2 ll2 lw2 bl2 => by
                have g2 := g'.of_piv pv w2 m2 ll2 lw2 bl2
                have iv := g'.iv
                rw [e1, e2] at pv iv
                obtain ⟨n1, n2, n3⟩ := clear_step iv N' E' C' pv hbe hq
                exact ⟨v1, v2, v3, v4, t2, rfl, TA2, g2, w2.trans e1, m2.trans e2, n1, n2, n3⟩
            refine ⟨_, rfl, p, _, _, _, _, rfl, A1.hp, W.cl_Tableau, W.n_Tableau_lines, tf_lines, ?_⟩
            refine ⟨_, rfl, r_lgetI (j := i) A1.hL (by omega) h2 ?_⟩
            refine ⟨_, rfl, r_c (r_lgetI (j := 0) hA rfl rfl ?_)⟩
            refine r_lget h41 (TS.at_ h3 (by omega)) ?_
            refine ⟨_, _, rfl, rfl, _, rfl, ?_⟩
            refine ite2 (fun hc2 => ?_) (fun hc2 => ?_)
            · have hc2 : t'.tb.T i q < 0 := of_decide_eq_true hc2
              refine ⟨_, rfl, p, _, _, _, _, rfl, A1.hp, W.cl_Tableau, W.n_Tableau_lines, tf_lines, ?_⟩
              refine ⟨_, rfl, r_lgetI (j := i) A1.hL (by omega) h2 ?_⟩
              refine ⟨a, rfl, ⟨_, SqL.of h41⟩, fun D2 hD2 => ?_⟩
              refine lc_listG (fun j v _ => ∃ x, l[j]? = some x ∧ v = .int (-x)) (SqL.of h41) hD2 (by rw [List.length_map]; omega) (fun _ _ _ _ _ h => h) (fun j x H2 acc Qy hx s2 hA2 z => ⟨rfl, ?_⟩) (fun H2 ys s2 hA2 hl2 hy => ?_)
              · obtain ⟨u, hu, rfl⟩ := ints_at hx
                exact ⟨_, rfl, _, rfl, z _ _ Xt.refl hA2 ⟨u, hu, rfl⟩⟩
              · have e : ys = (l.map fun x => -x).map V.int := by
                  rw [List.map_map]
                  exact eq_map (by rw [hl2, List.length_map]) fun j y z => by
                    obtain ⟨u, hu, e⟩ := hy j y z
                    exact ⟨u, hu, e⟩
                have A2 := A1.mono s2
                rw [e] at hA2
                have n1 : D2 ≠ aL := fun z => by rw [z, A1.hL] at hD2; cases hD2
                have n2 : D2 ≠ aB := fun z => by rw [z, A1.hB] at hD2; cases hD2
                have A3 := A2.setLine (i := i) hA2 n1 n2
                have en : ({ t' with lines := t'.lines.set i (l.map fun x => -x) } : TS) = t'.neg i := by unfold TS.neg; rw [gl]
                rw [en] at A3
                have wfn := neg_wf wf (show i < t'.many by omega)
                refine ⟨_, rfl, p, _, _, _, _, rfl, A2.hp, W.cl_Tableau, W.n_Tableau_lines, tf_lines, ?_⟩
                refine ⟨_, rfl, aL, _, _, i, rfl, rfl, A2.hL, ?_, ?_⟩
                · rw [List.length_map, A2.ll]
                  unfold ixN
                  rw [if_pos (by omega), if_pos (by omega)]
                  congr 1; omega
                · refine ⟨_, rfl, p, _, _, rfl, A3.hp, rfl, _, rfl, _, rfl, ?_⟩
                  have nDL : D ≠ aL := fun z => by rw [z, A.hL] at hD; cases hD
                  refine r_c (r_lgetI (j := 0) (xs := (q :: rest).map fun (n : Nat) => V.int (n : Int)) (by rw [upd_ne nDL]; exact s2 _ _ hA) rfl rfl ?_)
                  refine ⟨G, p, t'.neg i, i, q, by rw [show (0 : Int) + (i : Nat) = (i : Nat) by omega]; rfl, ⟨dx, aS, aL, aB, _, A3⟩, wfn, by show i < t'.many; omega, by show q < t'.wide + t'.many; omega, hb, fun H3 t2 TA2 S => ?_⟩
                  have pv := S.piv_neg wf (by omega) (by omega) hc2
                  exact fin TA2 pv S.wide S.many (by rw [S.len, S.many]; exact wfn.ll) (S.len_ wfn (by show i < t'.many; omega)) (by rw [S.base, List.length_set, S.many]; exact wfn.bl)
            · have hc2 : ¬ t'.tb.T i q < 0 := fun z => hc2 (decide_eq_true z)
              have hpos : 0 < t'.tb.T i q := by omega
              refine ⟨_, rfl, p, _, _, rfl, A1.hp, rfl, _, rfl, _, rfl, ?_⟩
              refine r_c (r_lgetI (j := 0) hA rfl rfl ?_)
              refine ⟨G, p, t', i, q, by rw [show (0 : Int) + (i : Nat) = (i : Nat) by omega]; rfl, ⟨dx, aS, aL, aB, _, A1⟩, wf, by omega, by omega, hb, fun H3 t2 TA2 S => ?_⟩
              have pv := S.piv wf (by omega) (by omega) hpos
              exact fin TA2 pv S.wide S.many (by rw [S.len, S.many]; exact wf.ll) (S.len_ wf (by omega)) (by rw [S.base, List.length_set, S.many]; exact wf.bl)
          · have hz : ns = [] := by
              cases ns with
              | nil => rfl
              | cons q rest => exact absurd (decide_eq_true (by show (0 : Int) < (((q :: rest).map fun (n : Nat) => V.int (n : Int)).length : Int); simp)) hc1
            refine ⟨_, _, _, _, t', rfl, ⟨dx, aS, aL, aB, _, A1⟩, g', e1, e2, N', E', fun j hj h n hn => ?_⟩
            by_cases e : j = i
            · rw [e]; exact hnil hz n (by omega)
            · exact C' j (by omega) h n hn
      · have hc : ¬ ((t'.wide : Nat) : Int) ≤ ((t'.tb.be i : Nat) : Int) := fun z => hc (decide_eq_true z)
        refine ⟨_, _, _, _, t', rfl, TA, g', e1, e2, N', E', fun j hj h => ?_⟩
        by_cases e : j = i
        · subst e; omega
        · exact C' j (by omega) h
    · rintro σ H' ⟨v1, v2, v3, v4, t', rfl, TA, g', e1, e2, N', E', C'⟩
      exact k H' t' TA g' e1 e2 N' E' fun j hj => C' j (by omega)
end
end TN
set_option Elab.async false
set_option linter.all false
set_option maxRecDepth 100000
set_option maxHeartbeats 4000000
/-! W8: a tableau is made. -/
namespace TN
open PySem PySem.Spec PyProof.Rows L2
/-- a loop over enumerate of a list -/
theorem for_enumL {K : PySem.W.Frag} {a : Addr} {xs : List V} {g : TG} {tb : L2.TS} {D : Ends} {σ : L2.St} {H : Hp} (Pv : Nat → L2.St → Hp → Prop) (h0 : Pv 0 σ H) (hl : ∀ i σ H, Pv i σ H → SqL K H a xs)
    (hs : ∀ (i : Nat) (x : V) (T : Addr) (σ : L2.St) (H : Hp), xs[i]? = some x → Pv i σ H → H T = none → g (.ref T) σ (upd H T (.tup [.int (i : Nat), x])) fun σ2 H2 => tb { D with nx := Pv (i + 1), ct := Pv (i + 1), bk := D.nx } σ2 H2) (hd : ∀ σ H, Pv xs.length σ H → D.nx σ H) :
    ∃ W : Nat → Nat → L2.St → Hp → Prop, (∃ m, W 0 m σ H) ∧ ∀ i m σ H, W i m σ H →
      ((Ite K a).stop i H ∧ D.nx σ H) ∨ ((Ite K a).go i H ∧ ∃ N : L2.St → Hp → Prop, (∀ σ' H', N σ' H' → ∃ m', m' < m ∧ W (i + 1) m' σ' H') ∧ ∀ v H', (Ite K a).yld i H v H' → g v σ H' fun σ2 H2 => tb { D with nx := N, ct := N, bk := D.nx } σ2 H2) := by
  refine ⟨fun i m σ H => m = xs.length - i ∧ i ≤ xs.length ∧ Pv i σ H, ⟨xs.length, rfl, Nat.zero_le _, h0⟩, ?_⟩
  rintro i m σ H ⟨rfl, hi, p⟩
  have q := hl i σ H p
  by_cases hlt : i < xs.length
  · refine .inr ⟨⟨xs, _, q, List.getElem?_eq_getElem hlt⟩, Pv (i + 1), fun σ' H' p' => ⟨xs.length - (i + 1), by omega, rfl, hlt, p'⟩, fun v H' y => ?_⟩
    obtain ⟨T, x', rfl, hT, rfl, f1⟩ := y
    exact hs i x' T σ H (f1 xs q) p hT
  · have e : i = xs.length := by omega
    subst e
    exact .inl ⟨⟨xs, q, Nat.le_refl _⟩, hd σ H p⟩
/-! ### the lines at first -/
def unitL (m k : Nat) : List Int := (List.range m).map fun o => if k = o then 1 else 0
def lnI (rows : List (List Int)) (amounts : List Int) (k : Nat) : List Int := rows.getD k [] ++ unitL rows.length k ++ [amounts.getD k 0]
def lnsI (rows : List (List Int)) (amounts : List Int) : List (List Int) := (List.range rows.length).map (lnI rows amounts)
def gainsI (m : Nat) (worths : List Int) : List Int := worths.map (fun x => -x) ++ List.replicate (m + 1) 0
def lacksI (rows : List (List Int)) (amounts : List Int) (w : Nat) : List Int :=
  ((List.range w).map fun j => -((lnsI rows amounts).map fun l => l.getD j 0).sum) ++ List.replicate rows.length 0 ++ [-((lnsI rows amounts).map fun l => l.getD (l.length - 1) 0).sum]
def initT (rows : List (List Int)) (amounts worths : List Int) : TS :=
  ⟨worths.length, rows.length, lnsI rows amounts ++ [gainsI rows.length worths, lacksI rows amounts worths.length], (List.range rows.length).map fun k => worths.length + k, 1⟩
/-- a list of lists of ints at an address -/
def LL (H : Hp) (a : Addr) (ls : List (List Int)) : Prop := ∃ as : List Addr, H a = some (.lst (as.map V.ref)) ∧ as.length = ls.length ∧ ∀ (i : Nat) (b : Addr) (l : List Int), as[i]? = some b → ls[i]? = some l → H b = some (.lst (l.map V.int))
theorem LL.mono {H H' : Hp} {a : Addr} {ls : List (List Int)} (h : LL H a ls) (s : Same H H') : LL H' a ls := let ⟨as, h1, h2, h3⟩ := h; ⟨as, s _ _ h1, h2, fun i b l e1 e2 => s _ _ (h3 i b l e1 e2)⟩
theorem rep_one {α : Type} (k : Nat) (v : α) : (List.replicate k [v]).flatten = List.replicate k v := by
  induction k with
  | zero => rfl
  | succ k ih => rw [List.replicate_succ, List.flatten_cons, ih]; rfl
def spInit (K : PySem.W.Frag) : Sp := fun vs H Q _ => ∃ (G : Hp) (p dx aR aA aW : Addr) (rows : List (List Int)) (amounts worths : List Int), vs = [.ref p, .ref aR, .ref aA, .ref aW] ∧
  Same G H ∧ G p = none ∧ H p = some (.ins (He.ga K "Tableau") dx []) ∧ LL G aR rows ∧ G aA = some (.lst (amounts.map V.int)) ∧ G aW = some (.lst (worths.map V.int)) ∧
  amounts.length = rows.length ∧ (∀ r ∈ rows, r.length = worths.length) ∧ worths.length + rows.length ≤ 1000 ∧ (∀ x ∈ amounts, 0 ≤ x) ∧ (∀ r ∈ rows, ∀ x ∈ r, Bits 4000 x) ∧ (∀ x ∈ amounts, Bits 4000 x) ∧
  ∀ H', TabAt K G H' p (initT rows amounts worths) → Q .non H'
def tf2 (w m : Nat) : List (Str × V) := [("wide", .int w), ("many", .int m)]
def tf4 (w m : Nat) (aS aL : Addr) : List (Str × V) := [("wide", .int w), ("many", .int m), ("signs", .ref aS), ("lines", .ref aL)]
section
variable {P : Program} {w : World} {K : PySem.W.Frag} {mg : Str → Option Value} {base : Heap}
/-! Tableau.__init__: slots 0 self, 1 rows, 2 amounts, 3 worths, 4 amount, 5 at, 6 row, 7 helpers, 8 other, 9 line, 10 item, 11 gains, 12 worth, 13 lacks, 14 place; calls [] -/
abbrev N_Tableau_init : List Str := ["self", "rows", "amounts", "worths", "amount", "at", "row", "helpers", "other", "line", "item", "gains", "worth", "lacks", "place"]
theorem sc_Tableau_init : FnScope N_Tableau_init ["self", "rows", "amounts", "worths"] (defScope s_Tableau_init) := ⟨rfl, rfl, rfl, by decide +kernel, rfl, by decide +kernel, by decide +kernel⟩
theorem ok_Tableau_init (W : Wd K mg) : OkM P w K mg base 1 "Tableau" "__init__" ["self", "rows", "amounts", "worths"] (spInit K) := by
  have sc := sc_Tableau_init
  refine OkM.mk' W.F_Tableau_init sc (fun vs H Q E h => ?_) (fun _ _ _ _ _ _ us hl => match us, hl with | [_, _, _, _], _ => rfl) (fun cdv A outer s H vs Q E hr h => ?_)
  · obtain ⟨G, p, dx, aR, aA, aW, rows, amounts, worths, rfl, _⟩ := h
    rfl
  · obtain ⟨G, p, dx, aR, aA, aW, rows, amounts, worths, rfl, S0, p0, hp, ⟨as, hR, hRl, hRa⟩, hA, hW, lA, lR, sz, nnA, bR, bA, k⟩ := h
    refine ⟨_, (pss_cons (ps_fld (pv 0) (pe_callB (k_len K) (by rfl) W.b_len PySem.boot_len (pa_cons (pv 3) pa_nil)) rfl)
    (pss_cons (ps_fld (pv 0) (pe_callB (k_len K) (by rfl) W.b_len PySem.boot_len (pa_cons (pv 1) pa_nil)) rfl)
    (pss_cons (ps_fld (pv 0) (pe_lc (own := [("amount", 4)]) (g := gName 4) rfl sc.nd (k_pil K (pv 2)) (blkOk_by (N := N_Tableau_init) (sc := defScope s_Tableau_init) (by decide +kernel))  (fun _ _ _ _ _ => (pg_name (i := 4) sc.nd rfl (Or.inl rfl))) (fun _ _ _ _ _ => pts_nil) (fun _ _ _ _ _ => (pe_ifExp (pt_cmpR op_lt (pv 4) pe_int (nomark _)) (pe_un un_neg pe_int) pe_int))) rfl)
    (pss_cons (ps_fld (pv 0) (pe_lst pa_nil) rfl)
    (pss_cons (ps_for PassesOwn.never rfl (pi_enum (by rfl) W.b_enumerate (pa_cons (pv 1) pa_nil)) (k_tup K rfl (pgs_cons (pg_name (i := 5) sc.nd rfl (Or.inr rfl)) (pgs_cons (pg_name (i := 6) sc.nd rfl (Or.inl rfl)) pgs_nil)))
      (pss_cons (ps_setLc (i := 7) (own := [("other", 8)]) (g := gName 8) rfl sc.nd rfl rfl (sw_true rfl rfl rfl (by decide +kernel)) (pi_range1 (by rfl) W.b_range (pa_cons (k_fld K (pv 0) rfl) pa_nil)) (blkOk_by (N := N_Tableau_init) (sc := defScope s_Tableau_init) (by decide +kernel))  (fun _ _ _ _ _ => (pg_name (i := 8) sc.nd rfl (Or.inl rfl))) (fun _ _ _ _ _ => pts_nil) (fun _ _ _ _ _ => (pe_callTy call_int1 (by rfl) W.b_int PyProof.Rows.boot_int (pa_cons (pe_cmpR op_eq (pv 5) (pv 8) (nomark _)) pa_nil))))
      (pss_cons (ps_set (i := 9) sc.nd rfl (Or.inl rfl) (pe_op op_cat (pe_lc (own := [("item", 10)]) (g := gName 10) rfl sc.nd (k_pil K (pv 6)) (blkOk_by (N := N_Tableau_init) (sc := defScope s_Tableau_init) (by decide +kernel))  (fun _ _ _ _ _ => (pg_name (i := 10) sc.nd rfl (Or.inl rfl))) (fun _ _ _ _ _ => pts_nil) (fun _ _ _ _ _ => (pe_op op_mulW (pe_ix (k_ixl K) (k_fld K (pv 0) rfl) (pv 5) (fun _ _ => rfl)) (pv 10)))) (pv 7)))
      (pss_one (ps_expr (k_bm K PySem.F.plainAttrs_list PySem.F.slot_list_append PySem.F.type_list_append mt_append (k_fld K (pv 0) rfl) (pa_cons (pe_op op_cat (pv 9) (pe_lst (pa_cons (pe_op op_mulW (pe_ix (k_ixl K) (k_fld K (pv 0) rfl) (pv 5) (fun _ _ => rfl)) (pe_ix (k_ixl K) (pv 2) (pv 5) (fun _ _ => rfl))) pa_nil))) pa_nil)))))))
    (pss_cons (ps_fld (pv 0) (pe_lc (own := [("at", 5)]) (g := gName 5) rfl sc.nd (pi_range1 (by rfl) W.b_range (pa_cons (k_fld K (pv 0) rfl) pa_nil)) (blkOk_by (N := N_Tableau_init) (sc := defScope s_Tableau_init) (by decide +kernel))  (fun _ _ _ _ _ => (pg_name (i := 5) sc.nd rfl (Or.inl rfl))) (fun _ _ _ _ _ => pts_nil) (fun _ _ _ _ _ => (pe_op op_add (k_fld K (pv 0) rfl) (pv 5)))) rfl)
    (pss_cons (ps_fld (pv 0) pe_int rfl)
    (pss_cons (ps_set (i := 11) sc.nd rfl (Or.inl rfl) (pe_op op_cat (pe_lc (own := [("worth", 12)]) (g := gName 12) rfl sc.nd (k_pil K (pv 3)) (blkOk_by (N := N_Tableau_init) (sc := defScope s_Tableau_init) (by decide +kernel))  (fun _ _ _ _ _ => (pg_name (i := 12) sc.nd rfl (Or.inl rfl))) (fun _ _ _ _ _ => pts_nil) (fun _ _ _ _ _ => (pe_un un_neg (pv 12)))) (pe_op op_rep (pe_lst (pa_cons pe_int pa_nil)) (pe_op op_add (k_fld K (pv 0) rfl) pe_int))))
    (pss_cons (ps_set (i := 13) sc.nd rfl (Or.inl rfl) (pe_op op_cat (pe_lc (own := [("place", 14)]) (g := gName 14) rfl sc.nd (pi_range1 (by rfl) W.b_range (pa_cons (k_fld K (pv 0) rfl) pa_nil)) (blkOk_by (N := N_Tableau_init) (sc := defScope s_Tableau_init) (by decide +kernel))  (fun _ _ _ _ _ => (pg_name (i := 14) sc.nd rfl (Or.inr rfl))) (fun _ _ _ _ _ => pts_nil) (fun _ _ _ _ _ => (pe_un un_neg (pe_callB (k_sum K rfl) (by rfl) W.b_sum PyProof.Rows.boot_sum (pa_cons (pe_lc (own := [("line", 9)]) (g := gName 9) rfl sc.nd (k_pil K (k_fld K (pv 0) rfl)) (blkOk_by (by rfl))  (fun _ _ _ _ _ => (pg_name (i := 9) sc.nd rfl (Or.inl rfl))) (fun _ _ _ _ _ => pts_nil) (fun _ _ _ _ _ => (pe_ix (k_ixl K) (pv 9) (pv 14) (fun _ _ => rfl)))) pa_nil))))) (pe_op op_rep (pe_lst (pa_cons pe_int pa_nil)) (k_fld K (pv 0) rfl))))
    (pss_cons (ps_expr (k_bm K PySem.F.plainAttrs_list PySem.F.slot_list_append PySem.F.type_list_append mt_append (pv 13) (pa_cons (pe_un un_neg (pe_callB (k_sum K rfl) (by rfl) W.b_sum PyProof.Rows.boot_sum (pa_cons (pe_lc (own := [("line", 9)]) (g := gName 9) rfl sc.nd (k_pil K (k_fld K (pv 0) rfl)) (blkOk_by (N := N_Tableau_init) (sc := defScope s_Tableau_init) (by decide +kernel))  (fun _ _ _ _ _ => (pg_name (i := 9) sc.nd rfl (Or.inl rfl))) (fun _ _ _ _ _ => pts_nil) (fun _ _ _ _ _ => (pe_ix (k_ixl K) (pv 9) (pe_un un_neg pe_int) (fun _ _ => rfl)))) pa_nil))) pa_nil)))
    (pss_cons (ps_expr (k_bm K PySem.F.plainAttrs_list PySem.F.slot_list_append PySem.F.type_list_append mt_append (k_fld K (pv 0) rfl) (pa_cons (pv 11) pa_nil)))
    (pss_one (ps_expr (k_bm K PySem.F.plainAttrs_list PySem.F.slot_list_append PySem.F.type_list_append mt_append (k_fld K (pv 0) rfl) (pa_cons (pv 13) pa_nil))))))))))))))), ?_⟩
    -- self.wide, self.many
    refine ⟨_, rfl, aW, _, rfl, .inl (SqL.of (S0 _ _ hW)), ?_⟩
    refine ⟨_, rfl, p, _, _, _, rfl, hp, W.cl_Tableau, W.n_Tableau_wide, by show 0 < 1000; decide, ?_⟩
    have S1 : Same G (upd H p (.ins (He.ga K "Tableau") dx (putF "wide" (.int (((worths.map V.int).length : Nat) : Int)) []))) := fun b o e => by rw [upd_ne (ne_of_none e p0)]; exact S0 b o e
    refine ⟨_, rfl, aR, _, rfl, .inl (SqL.of (S1 _ _ hR)), ?_⟩
    refine ⟨_, rfl, p, _, _, _, rfl, upd_same, W.cl_Tableau, W.n_Tableau_many, by show 1 < 1000; decide, ?_⟩
    rw [upd_upd]
    have e2 : putF "many" (.int (((as.map V.ref).length : Nat) : Int)) (putF "wide" (.int (((worths.map V.int).length : Nat) : Int)) []) = tf2 worths.length rows.length := by
      rw [List.length_map, List.length_map, hRl]; rfl
    rw [e2]
    have S2 : Same G (upd H p (.ins (He.ga K "Tableau") dx (tf2 worths.length rows.length))) := fun b o e => by rw [upd_ne (ne_of_none e p0)]; exact S0 b o e
    have hp2 : (upd H p (.ins (He.ga K "Tableau") dx (tf2 worths.length rows.length))) p = some (.ins (He.ga K "Tableau") dx (tf2 worths.length rows.length)) := upd_same
    generalize upd H p (.ins (He.ga K "Tableau") dx (tf2 worths.length rows.length)) = H2 at S2 hp2
    -- self.signs
    refine ⟨_, rfl, aA, rfl, ⟨_, SqL.of (S2 _ _ hA)⟩, fun aS hS0 => ?_⟩
    refine lc_listG (fun _ v _ => v = .int 1) (SqL.of (S2 _ _ hA)) hS0 (by rw [List.length_map]; omega) (fun _ _ _ _ _ h => h) (fun i x H1 acc Qy hx s1 hD z => ⟨rfl, ?_⟩) (fun H3 ys s3 hS hl hy => ?_)
    · obtain ⟨u, hu, rfl⟩ := ints_at hx
      have := nnA u (List.mem_of_getElem? hu)
      refine ⟨_, rfl, _, _, rfl, rfl, _, rfl, ?_⟩
      rw [decide_eq_false (show ¬ u < 0 by omega)]
      exact iteF (z _ _ Xt.refl hD rfl)
    have eS : ys = (List.replicate rows.length (1 : Int)).map V.int := by
      refine eq_map (by rw [hl, List.length_map, List.length_replicate, lA]) fun j y e => ⟨1, ?_, hy j y e⟩
      have := (List.getElem?_eq_some_iff.mp e).1
      rw [hl, List.length_map] at this
      rw [List.getElem?_replicate, if_pos (by omega)]
    rw [eS] at hS
    have hp3 := s3 _ _ hp2
    have S3 := S2.trans s3
    have aSp : aS ≠ p := fun z => by rw [z, hp2] at hS0; cases hS0
    have gS : G aS = none := S2.free hS0
    refine ⟨_, rfl, p, _, _, _, rfl, hp3, W.cl_Tableau, W.n_Tableau_signs, by show 2 < 1000; decide, ?_⟩
    -- self.lines = []
    refine ⟨Nat.zero_le _, fun aL hL0 => ?_⟩
    have pL : p ≠ aL := fun z => by rw [← z, upd_same] at hL0; cases hL0
    have hL1 : H3 aL = none := by rw [upd_ne pL.symm] at hL0; exact hL0
    have aSL : aS ≠ aL := ne_of_none hS hL1
    refine ⟨_, rfl, p, _, _, _, rfl, by rw [upd_ne pL, upd_same], W.cl_Tableau, W.n_Tableau_lines, by show 3 < 1000; decide, ?_⟩
    have e4 : putF "lines" (.ref aL) (putF "signs" (.ref aS) (tf2 worths.length rows.length)) = tf4 worths.length rows.length aS aL := rfl
    rw [e4]
    generalize hH5 : upd (upd (upd H3 p (.ins (He.ga K "Tableau") dx (putF "signs" (.ref aS) (tf2 worths.length rows.length)))) aL (.lst [])) p (.ins (He.ga K "Tableau") dx (tf4 worths.length rows.length aS aL)) = H5
    have hp5 : H5 p = some (.ins (He.ga K "Tableau") dx (tf4 worths.length rows.length aS aL)) := by rw [← hH5, upd_same]
    have S5 : Same G H5 := fun b o e => by
      rw [← hH5, upd_ne (ne_of_none e p0), upd_ne (ne_of_none (S3 _ _ e) hL1), upd_ne (ne_of_none e p0)]
      exact S3 b o e
    have hS5 : H5 aS = some (.lst ((List.replicate rows.length (1 : Int)).map V.int)) := by rw [← hH5, upd_ne aSp, upd_ne aSL, upd_ne aSp]; exact hS
    have hL5 : H5 aL = some (.lst []) := by rw [← hH5, upd_ne pL.symm, upd_same]
    have gL : G aL = none := S3.free hL1
    -- for at, row in enumerate(rows)
    refine ⟨_, rfl, aR, _, rfl, SqL.of (S5 _ _ hR), ?_⟩
    refine for_enumL (K := K) (a := aR) (xs := as.map V.ref) (fun i σ H' => ∃ (v4 v5 v6 v7 v8 v9 v10 v11 v12 v13 v14 : Option V) (las : List Addr), σ = [some (.ref p), some (.ref aR), some (.ref aA), some (.ref aW), v4, v5, v6, v7, v8, v9, v10, v11, v12, v13, v14] ∧
        Same G H' ∧ H' p = some (.ins (He.ga K "Tableau") dx (tf4 worths.length rows.length aS aL)) ∧ H' aS = some (.lst ((List.replicate rows.length (1 : Int)).map V.int)) ∧ H' aL = some (.lst (las.map V.ref)) ∧ las.length = i ∧
        ∀ (j : Nat) (a : Addr), las[j]? = some a → H' a = some (.lst ((lnI rows amounts j).map V.int)) ∧ a ≠ aL)
      ⟨_, _, _, _, _, _, _, _, _, _, _, [], rfl, S5, hp5, hS5, hL5, rfl, fun j a e => by simp at e⟩ (fun i σ H' ⟨_, _, _, _, _, _, _, _, _, _, _, _, _, S, _⟩ => SqL.of (S _ _ hR)) ?_ ?_
    · rintro i x T σ H6 hx ⟨v4, v5, v6, v7, v8, v9, v10, v11, v12, v13, v14, las, rfl, S6, hp6, hS6, hL6, hll, hla⟩ hT
      obtain ⟨b, hb, rfl⟩ : ∃ b, as[i]? = some b ∧ x = V.ref b := by
        rw [List.getElem?_map] at hx
        cases e : as[i]? with
        | none => rw [e] at hx; cases hx
        | some b => rw [e] at hx; exact ⟨b, rfl, (Option.some.inj hx).symm⟩
      have hi : i < rows.length := by rw [← hRl]; exact (List.getElem?_eq_some_iff.mp hb).1
      have hrow : rows[i]? = some rows[i] := List.getElem?_eq_getElem hi
      have hbH := S6 _ _ (hRa i b _ hb hrow)
      have lrow := lR _ (List.getElem_mem hi)
      have s7 : Same H6 (upd H6 T (.tup [.int (i : Nat), .ref b])) := Same.upd hT
      have S7 := S6.trans s7
      have hp7 := s7 _ _ hp6
      have hS7 := s7 _ _ hS6
      have hL7 := s7 _ _ hL6
      have hb7 := s7 _ _ hbH
      have hT7 : (upd H6 T (.tup [.int (i : Nat), .ref b])) T = some (.tup [.int (i : Nat), .ref b]) := upd_same
      generalize upd H6 T (.tup [.int (i : Nat), .ref b]) = H7 at *
      refine ⟨T, _, rfl, SqT.of hT7, rfl, _, _, rfl, _, _, rfl, rfl, ?_⟩
      -- helpers
      refine ⟨_, rfl, p, _, _, _, _, rfl, hp7, W.cl_Tableau, W.n_Tableau_many, rfl, ?_⟩
      refine ⟨_, rfl, by omega, by omega, fun D8 hD8 => ?_⟩
      refine lc_rangeG (lo := 0) (n := ((rows.length : Nat) : Int).toNat) (fun j v _ => v = .int (if i = j then 1 else 0)) hD8 (by omega) (fun _ _ _ _ _ h => h) (fun j H1 acc Qy hj s1 hD z => ⟨rfl, ?_⟩) (fun H8 ys s8 hh hl hy => ?_)
      · refine ⟨_, rfl, _, rfl, rfl, .inr ⟨_, rfl, z _ _ Xt.refl hD ?_⟩⟩
        by_cases e : i = j
        · rw [decide_eq_true (by rw [e, Int.zero_add]), if_pos e]; rfl
        · rw [decide_eq_false (by intro h; injection h with h; omega), if_neg e]; rfl
      have eh : ys = (unitL rows.length i).map V.int := by
        unfold unitL
        rw [List.map_map]
        refine eq_map (by rw [hl, List.length_range]; omega) fun j y e => ⟨j, ?_, hy j y e⟩
        have := (List.getElem?_eq_some_iff.mp e).1
        rw [List.getElem?_range (by omega)]
      rw [eh] at hh
      have S8 := S7.trans s8
      have hp8 := s8 _ _ hp7
      have hS8 := s8 _ _ hS7
      have hL8 := s8 _ _ hL7
      have hb8 := s8 _ _ hb7
      -- line
      refine ⟨_, rfl, b, rfl, ⟨_, SqL.of hb8⟩, fun D9 hD9 => ?_⟩
      refine lc_listG (fun j v _ => ∃ x, rows[i][j]? = some x ∧ v = .int x) (SqL.of hb8) hD9 (by rw [List.length_map]; omega) (fun _ _ _ _ _ h => h) (fun j x H1 acc Qy hx s1 hD z => ⟨rfl, ?_⟩) (fun H9 ys s9 hln hl hy => ?_)
      · obtain ⟨u, hu, rfl⟩ := ints_at hx
        have b1 := bR _ (List.getElem_mem hi) _ (List.mem_of_getElem? hu)
        refine ⟨_, rfl, p, _, _, _, _, rfl, s1 _ _ hp8, W.cl_Tableau, W.n_Tableau_signs, rfl, ?_⟩
        refine ⟨_, rfl, r_lget (v := .int 1) (s1 _ _ hS8) (by rw [List.getElem?_map, List.getElem?_replicate, if_pos hi]; rfl) ?_⟩
        refine ⟨_, rfl, _, _, rfl, rfl, wide_mul (a := 1) (by decide) b1 (by decide) (by decide) (by decide), ?_⟩
        exact z _ _ Xt.refl hD ⟨u, hu, congrArg V.int (Int.one_mul u)⟩
      have el : ys = rows[i].map V.int := eq_map (by rw [hl, List.length_map]) hy
      rw [el] at hln
      have S9 := S8.trans s9
      have hp9 := s9 _ _ hp8
      have hS9 := s9 _ _ hS8
      have hL9 := s9 _ _ hL8
      have hh9 := s9 _ _ hh
      refine ⟨_, rfl, D9, D8, _, _, rfl, rfl, hln, hh9, by rw [List.length_map, List.length_map, sizeLine_eq]; unfold unitL; simp; omega, fun D10 hD10 => ?_⟩
      have s10 : Same H9 (upd H9 D10 (.lst (rows[i].map V.int ++ (unitL rows.length i).map V.int))) := Same.upd hD10
      have S10 := S9.trans s10
      have hp10 := s10 _ _ hp9
      have hS10 := s10 _ _ hS9
      have hL10 := s10 _ _ hL9
      have h10 : (upd H9 D10 (.lst (rows[i].map V.int ++ (unitL rows.length i).map V.int))) D10 = some (.lst (rows[i].map V.int ++ (unitL rows.length i).map V.int)) := upd_same
      have sAll : Same H6 (upd H9 D10 (.lst (rows[i].map V.int ++ (unitL rows.length i).map V.int))) := ((s7.trans s8).trans s9).trans s10
      generalize upd H9 D10 (.lst (rows[i].map V.int ++ (unitL rows.length i).map V.int)) = H10 at *
      -- self.lines.append(line + [..])
      have hAi : amounts[i]? = some amounts[i] := List.getElem?_eq_getElem (by omega)
      have bAi := bA _ (List.mem_of_getElem? hAi)
      refine ⟨_, rfl, p, _, _, _, _, rfl, hp10, W.cl_Tableau, W.n_Tableau_lines, rfl, ?_⟩
      refine ⟨.inl ⟨rfl, _, SqL.of hL10⟩, ?_⟩
      refine ⟨_, rfl, _, rfl, p, _, _, _, _, rfl, hp10, W.cl_Tableau, W.n_Tableau_signs, rfl, ?_⟩
      refine ⟨_, rfl, r_lget (v := .int 1) hS10 (by rw [List.getElem?_map, List.getElem?_replicate, if_pos hi]; rfl) ?_⟩
      refine ⟨_, rfl, _, rfl, r_lget (v := .int amounts[i]) (S10 _ _ hA) (by rw [List.getElem?_map, hAi]; rfl) ?_⟩
      refine ⟨_, _, rfl, rfl, wide_mul (a := 1) (by decide) bAi (by decide) (by decide) (by decide), ?_⟩
      refine ⟨by show 1 ≤ sizeLine; decide, fun D11 hD11 => ?_⟩
      have s11 : Same H10 (upd H10 D11 (.lst [.int (1 * amounts[i])])) := Same.upd hD11
      have h11 : (upd H10 D11 (.lst [.int (1 * amounts[i])])) D11 = some (.lst [.int (1 * amounts[i])]) := upd_same
      generalize upd H10 D11 (.lst [.int (1 * amounts[i])]) = H11 at *
      refine ⟨D10, D11, _, _, rfl, rfl, s11 _ _ h10, h11, by rw [List.length_append, List.length_map, List.length_map, sizeLine_eq]; unfold unitL; simp; omega, fun D12 hD12 => ?_⟩
      have eln : rows[i].map V.int ++ (unitL rows.length i).map V.int ++ [V.int (1 * amounts[i])] = (lnI rows amounts i).map V.int := by
        unfold lnI
        rw [List.map_append, List.map_append, List.getD_eq_getElem?_getD, hrow, List.getD_eq_getElem?_getD, hAi, Int.one_mul]; rfl
      rw [eln]
      have nD : D12 ≠ aL := (ne_of_none ((sAll.trans s11) _ _ hL6) hD12).symm
      have s12 : Same H11 (upd H11 D12 (.lst ((lnI rows amounts i).map V.int))) := Same.upd hD12
      have h12 : (upd H11 D12 (.lst ((lnI rows amounts i).map V.int))) D12 = some (.lst ((lnI rows amounts i).map V.int)) := upd_same
      have sA := (sAll.trans s11).trans s12
      generalize upd H11 D12 (.lst ((lnI rows amounts i).map V.int)) = H12 at *
      have hL12 := sA _ _ hL6
      refine ⟨aL, _, _, rfl, rfl, hL12, by rw [List.length_map, hll, sizeLine_eq]; omega, ?_⟩
      have Gs : Same G H12 := S6.trans sA
      refine ⟨_, _, _, _, _, _, _, _, _, _, _, las ++ [D12], rfl, fun b' o e => by rw [upd_ne (ne_of_none e gL)]; exact Gs b' o e, by rw [upd_ne pL]; exact sA _ _ hp6, by rw [upd_ne aSL]; exact sA _ _ hS6, by rw [upd_same, List.map_append]; rfl, by simp [hll], fun j a e => ?_⟩
      by_cases q : j < las.length
      · rw [List.getElem?_append_left q] at e
        obtain ⟨g1, g2⟩ := hla j a e
        exact ⟨by rw [upd_ne g2]; exact sA _ _ g1, g2⟩
      · rw [List.getElem?_append_right (by omega)] at e
        have q2 : j - las.length = 0 := by
          have := (List.getElem?_eq_some_iff.mp e).1
          simp at this
          omega
        rw [q2] at e
        cases e
        have q3 : j = i := by omega
        subst q3
        exact ⟨by rw [upd_ne nD]; exact h12, nD⟩
    · rintro σ H6 ⟨v4, v5, v6, v7, v8, v9, v10, v11, v12, v13, v14, las, rfl, S6, hp6, hS6, hL6, hll, hla⟩
      rw [List.length_map, hRl] at hll
      have lnl : ∀ j, j < rows.length → (lnI rows amounts j).length = worths.length + rows.length + 1 := fun j hj => by
        unfold lnI unitL
        rw [List.length_append, List.length_append, List.getD_eq_getElem?_getD, List.getElem?_eq_getElem hj]
        have := lR _ (List.getElem_mem hj)
        simp [this]
      have lnls : lnsI rows amounts = (List.range rows.length).map (lnI rows amounts) := rfl
      -- self.base
      refine ⟨_, rfl, p, _, _, _, _, rfl, hp6, W.cl_Tableau, W.n_Tableau_many, rfl, ?_⟩
      refine ⟨_, rfl, by omega, by omega, fun aB hB0 => ?_⟩
      refine lc_rangeG (lo := 0) (n := ((rows.length : Nat) : Int).toNat) (fun j v _ => v = .int ((worths.length + j : Nat) : Int)) hB0 (by omega) (fun _ _ _ _ _ h => h) (fun j H1 acc Qy hj s1 hD z => ⟨rfl, ?_⟩) (fun H7 ys s7 hB hl hy => ?_)
      · refine ⟨_, rfl, p, _, _, _, _, rfl, s1 _ _ hp6, W.cl_Tableau, W.n_Tableau_wide, rfl, ?_⟩
        refine ⟨_, rfl, _, _, rfl, rfl, z _ _ Xt.refl hD ?_⟩
        show V.int ((worths.length : Int) + (0 + (j : Int))) = _
        congr 1; omega
      have eB : ys = ((List.range rows.length).map fun k => worths.length + k).map fun (b : Nat) => V.int (b : Int) := by
        rw [List.map_map]
        refine eq_map (by rw [hl, List.length_range]; omega) fun j y e => ⟨j, ?_, hy j y e⟩
        have := (List.getElem?_eq_some_iff.mp e).1
        rw [List.getElem?_range (by omega)]
      rw [eB] at hB
      have nBL : aL ≠ aB := ne_of_none hL6 hB0
      have nBS : aS ≠ aB := ne_of_none hS6 hB0
      have pB : p ≠ aB := ne_of_none hp6 hB0
      have gB : G aB = none := S6.free hB0
      have hp7 := s7 _ _ hp6
      refine ⟨_, rfl, p, _, _, _, rfl, hp7, W.cl_Tableau, W.n_Tableau_base, by show 4 < 1000; decide, ?_⟩
      -- self.bottom
      refine ⟨_, rfl, p, _, _, _, rfl, upd_same, W.cl_Tableau, W.n_Tableau_bottom, by show 5 < 1000; decide, ?_⟩
      rw [upd_upd]
      have e6 : putF "bottom" (.int 1) (putF "base" (.ref aB) (tf4 worths.length rows.length aS aL)) = tfs worths.length rows.length aS aL aB 1 := rfl
      rw [e6]
      have S7 := S6.trans s7
      have x8 : ∀ a xs, H7 a = some (.lst xs) → (upd H7 p (.ins (He.ga K "Tableau") dx (tfs worths.length rows.length aS aL aB 1))) a = some (.lst xs) := fun a xs e => by
        rw [upd_ne (kind_ne hp7 e).symm]; exact e
      have hS8 := x8 _ _ (s7 _ _ hS6)
      have hL8 := x8 _ _ (s7 _ _ hL6)
      have hB8 := x8 _ _ hB
      have hla8 : ∀ (j : Nat) (a : Addr), las[j]? = some a → _ := fun j a e => x8 _ _ (s7 _ _ (hla j a e).1)
      have hp8 : (upd H7 p (.ins (He.ga K "Tableau") dx (tfs worths.length rows.length aS aL aB 1))) p = some (.ins (He.ga K "Tableau") dx (tfs worths.length rows.length aS aL aB 1)) := upd_same
      have S8 : Same G (upd H7 p (.ins (He.ga K "Tableau") dx (tfs worths.length rows.length aS aL aB 1))) := fun b o e => by rw [upd_ne (ne_of_none e p0)]; exact S7 b o e
      generalize upd H7 p (.ins (He.ga K "Tableau") dx (tfs worths.length rows.length aS aL aB 1)) = H8 at *
      have nla : ∀ a ∈ las, a ≠ aL ∧ a ≠ aB := fun a ha => by
        obtain ⟨j, hj, rfl⟩ := List.mem_iff_getElem.mp ha
        have := hla j _ (List.getElem?_eq_getElem hj)
        exact ⟨this.2, ne_of_none this.1 hB0⟩
      -- gains
      refine ⟨_, rfl, aW, rfl, ⟨_, SqL.of (S8 _ _ hW)⟩, fun D9 hD9 => ?_⟩
      refine lc_listG (fun j v _ => ∃ x, worths[j]? = some x ∧ v = .int (-x)) (SqL.of (S8 _ _ hW)) hD9 (by rw [List.length_map]; omega) (fun _ _ _ _ _ h => h) (fun j x H1 acc Qy hx s1 hD z => ⟨rfl, ?_⟩) (fun H9 ys s9 hg hl hy => ?_)
      · obtain ⟨u, hu, rfl⟩ := ints_at hx
        exact ⟨_, rfl, _, rfl, z _ _ Xt.refl hD ⟨u, hu, rfl⟩⟩
      have eg : ys = (worths.map fun x => -x).map V.int := by
        rw [List.map_map]
        exact eq_map (by rw [hl, List.length_map]) fun j y z => by
          obtain ⟨u, hu, e⟩ := hy j y z
          exact ⟨u, hu, e⟩
      rw [eg] at hg
      refine ⟨by show 1 ≤ sizeLine; decide, fun D10 hD10 => ?_⟩
      have hg10 := (Same.upd hD10 (o := .lst [V.int 0])) _ _ hg
      have s10 : Same H9 (upd H9 D10 (.lst [V.int 0])) := Same.upd hD10
      have h10 : (upd H9 D10 (.lst [V.int 0])) D10 = some (.lst [V.int 0]) := upd_same
      generalize upd H9 D10 (.lst [V.int 0]) = H10 at *
      have hp10 := s10 _ _ (s9 _ _ hp8)
      refine ⟨_, rfl, p, _, _, _, _, rfl, hp10, W.cl_Tableau, W.n_Tableau_many, tf_many, ?_⟩
      refine ⟨_, _, rfl, rfl, D10, _, _, rfl, rfl, h10, by omega, by omega, by rw [sizeLine_eq]; simp; omega, fun D11 hD11 => ?_⟩
      have s11 : Same H10 (upd H10 D11 (.lst (List.replicate (((rows.length : Nat) : Int) + 1).toNat [V.int 0]).flatten)) := Same.upd hD11
      have h11 : (upd H10 D11 (.lst (List.replicate (((rows.length : Nat) : Int) + 1).toNat [V.int 0]).flatten)) D11 = some (.lst ((List.replicate (rows.length + 1) (0 : Int)).map V.int)) := by
        rw [upd_same, rep_one, List.map_replicate, show (((rows.length : Nat) : Int) + 1).toNat = rows.length + 1 by omega]
      generalize upd H10 D11 (.lst (List.replicate (((rows.length : Nat) : Int) + 1).toNat [V.int 0]).flatten) = H11 at *
      refine ⟨D9, D11, _, _, rfl, rfl, s11 _ _ hg10, h11, by rw [sizeLine_eq]; simp; omega, fun aG hG0 => ?_⟩
      rw [← List.map_append]
      have s12 : Same H11 (upd H11 aG (.lst (((worths.map fun x => -x) ++ List.replicate (rows.length + 1) (0 : Int)).map V.int))) := Same.upd hG0
      have h12 : (upd H11 aG (.lst (((worths.map fun x => -x) ++ List.replicate (rows.length + 1) (0 : Int)).map V.int))) aG = some (.lst ((gainsI rows.length worths).map V.int)) := upd_same
      have s812 := ((s9.trans s10).trans s11).trans s12
      generalize upd H11 aG (.lst (((worths.map fun x => -x) ++ List.replicate (rows.length + 1) (0 : Int)).map V.int)) = H12 at *
      have aGL : aG ≠ aL := (ne_of_none (((s9.trans s10).trans s11) _ _ hL8) hG0).symm
      have aGB : aG ≠ aB := (ne_of_none (((s9.trans s10).trans s11) _ _ hB8) hG0).symm
      have hp12 := s812 _ _ hp8
      have hL12 := s812 _ _ hL8
      have hla12 : ∀ (j : Nat) (a : Addr), las[j]? = some a → H12 a = some (.lst ((lnI rows amounts j).map V.int)) := fun j a e => s812 _ _ (hla8 j a e)
      -- lacks
      refine ⟨_, rfl, p, _, _, _, _, rfl, hp12, W.cl_Tableau, W.n_Tableau_wide, tf_wide, ?_⟩
      refine ⟨_, rfl, by omega, by omega, fun D13 hD13 => ?_⟩
      refine lc_rangeG (lo := 0) (n := ((worths.length : Nat) : Int).toNat) (fun j v _ => v = .int (-((lnsI rows amounts).map fun l => l.getD j 0).sum)) hD13 (by omega) (fun _ _ _ _ _ h => h) (fun j H1 acc Qy hj s1 hD z => ⟨rfl, ?_⟩) (fun H13 ys s13 hk13 hl hy => ?_)
      · refine ⟨_, rfl, p, _, _, _, _, rfl, s1 _ _ hp12, W.cl_Tableau, W.n_Tableau_lines, tf_lines, ?_⟩
        refine ⟨aL, rfl, ⟨_, SqL.of (s1 _ _ hL12)⟩, fun D2 hD2 => ?_⟩
        refine lc_listG (fun i v _ => v = .int ((lnI rows amounts i).getD j 0)) (SqL.of (s1 _ _ hL12)) hD2 (by rw [List.length_map]; omega) (fun _ _ _ _ _ h => h) (fun i x H2 acc2 Qy2 hx s2 hA2 z2 => ⟨rfl, ?_⟩) (fun H2 ys s2 hA2 hl2 hy => ?_)
        · obtain ⟨b, hb, rfl⟩ : ∃ b, las[i]? = some b ∧ x = V.ref b := by
            rw [List.getElem?_map] at hx
            cases e : las[i]? with
            | none => rw [e] at hx; cases hx
            | some b => rw [e] at hx; exact ⟨b, rfl, (Option.some.inj hx).symm⟩
          have hi : i < rows.length := by rw [← hll]; exact (List.getElem?_eq_some_iff.mp hb).1
          refine ⟨_, rfl, _, rfl, r_lgetI (j := j) (s2 _ _ (s1 _ _ (hla12 i b hb))) (by omega) (v := .int ((lnI rows amounts i).getD j 0)) ?_ (z2 _ _ Xt.refl hA2 rfl)⟩
          rw [List.getElem?_map, List.getD_eq_getElem?_getD, List.getElem?_eq_getElem (by rw [lnl i hi]; omega)]; rfl
        · have e : ys = ((lnsI rows amounts).map fun l => l.getD j 0).map V.int := by
            rw [lnls, List.map_map, List.map_map]
            refine eq_map (by rw [hl2, List.length_map, List.length_range, hll]) fun i y e => ⟨i, ?_, hy i y e⟩
            have := (List.getElem?_eq_some_iff.mp e).1
            rw [hl2, List.length_map, hll] at this
            rw [List.getElem?_range this]
          rw [e] at hA2
          refine ⟨D2, _, rfl, SqL.of hA2, _, rfl, ?_⟩
          exact z _ _ (Xt.of s2) (s2 _ _ hD) rfl
      have ek : ys = ((List.range worths.length).map fun j => -((lnsI rows amounts).map fun l => l.getD j 0).sum).map V.int := by
        rw [List.map_map]
        refine eq_map (by rw [hl, List.length_range]; omega) fun j y e => ⟨j, ?_, hy j y e⟩
        have := (List.getElem?_eq_some_iff.mp e).1
        rw [List.getElem?_range (by omega)]
      rw [ek] at hk13
      refine ⟨by show 1 ≤ sizeLine; decide, fun D14 hD14 => ?_⟩
      have s14 : Same H13 (upd H13 D14 (.lst [V.int 0])) := Same.upd hD14
      have h14 : (upd H13 D14 (.lst [V.int 0])) D14 = some (.lst [V.int 0]) := upd_same
      generalize upd H13 D14 (.lst [V.int 0]) = H14 at *
      refine ⟨_, rfl, p, _, _, _, _, rfl, s14 _ _ (s13 _ _ hp12), W.cl_Tableau, W.n_Tableau_many, tf_many, ?_⟩
      refine ⟨D14, _, _, rfl, rfl, h14, by omega, by omega, by rw [sizeLine_eq]; simp; omega, fun D15 hD15 => ?_⟩
      have s15 : Same H14 (upd H14 D15 (.lst (List.replicate ((rows.length : Nat) : Int).toNat [V.int 0]).flatten)) := Same.upd hD15
      have h15 : (upd H14 D15 (.lst (List.replicate ((rows.length : Nat) : Int).toNat [V.int 0]).flatten)) D15 = some (.lst ((List.replicate rows.length (0 : Int)).map V.int)) := by
        rw [upd_same, rep_one, List.map_replicate, show ((rows.length : Nat) : Int).toNat = rows.length by omega]
      generalize upd H14 D15 (.lst (List.replicate ((rows.length : Nat) : Int).toNat [V.int 0]).flatten) = H15 at *
      refine ⟨D13, D15, _, _, rfl, rfl, s15 _ _ (s14 _ _ hk13), h15, by rw [sizeLine_eq]; simp; omega, fun aK hK0 => ?_⟩
      rw [← List.map_append]
      obtain ⟨l0, hl0⟩ : ∃ l0, ((List.range worths.length).map fun j => -((lnsI rows amounts).map fun l => l.getD j 0).sum) ++ List.replicate rows.length (0 : Int) = l0 := ⟨_, rfl⟩
      rw [hl0]
      have s1216 : Same H12 (upd H15 aK (.lst (l0.map V.int))) := ((s13.trans s14).trans s15).trans (Same.upd hK0)
      have h16 : (upd H15 aK (.lst (l0.map V.int))) aK = some (.lst (l0.map V.int)) := upd_same
      have aKL : aK ≠ aL := (ne_of_none (((s13.trans s14).trans s15) _ _ hL12) hK0).symm
      have aKB : aK ≠ aB := (ne_of_none (((s13.trans s14).trans s15) _ _ (s812 _ _ hB8)) hK0).symm
      have aKfresh : ∀ a o, H12 a = some o → a ≠ aK := fun a o e => ne_of_none (((s13.trans s14).trans s15) _ _ e) hK0
      generalize upd H15 aK (.lst (l0.map V.int)) = H16 at *
      -- lacks.append
      refine ⟨_, rfl, .inl ⟨rfl, _, SqL.of h16⟩, ?_⟩
      refine ⟨_, rfl, p, _, _, _, _, rfl, s1216 _ _ hp12, W.cl_Tableau, W.n_Tableau_lines, tf_lines, ?_⟩
      have hL16 := s1216 _ _ hL12
      refine ⟨aL, rfl, ⟨_, SqL.of hL16⟩, fun D17 hD17 => ?_⟩
      refine lc_listG (fun i v _ => v = .int ((lnI rows amounts i).getD ((lnI rows amounts i).length - 1) 0)) (SqL.of hL16) hD17 (by rw [List.length_map]; omega) (fun _ _ _ _ _ h => h) (fun i x H2 acc2 Qy2 hx s2 hA2 z2 => ⟨rfl, ?_⟩) (fun H17 ys s17 h17 hl2 hy => ?_)
      · obtain ⟨b, hb, rfl⟩ : ∃ b, las[i]? = some b ∧ x = V.ref b := by
          rw [List.getElem?_map] at hx
          cases e : las[i]? with
          | none => rw [e] at hx; cases hx
          | some b => rw [e] at hx; exact ⟨b, rfl, (Option.some.inj hx).symm⟩
        have hi : i < rows.length := by rw [← hll]; exact (List.getElem?_eq_some_iff.mp hb).1
        refine ⟨_, rfl, _, rfl, r_lback (s2 _ _ (s1216 _ _ (hla12 i b hb))) (v := .int ((lnI rows amounts i).getD ((lnI rows amounts i).length - 1) 0)) ?_ (z2 _ _ Xt.refl hA2 rfl)⟩
        rw [List.length_map, List.getElem?_map, List.getD_eq_getElem?_getD, List.getElem?_eq_getElem (by rw [lnl i hi]; omega)]; rfl
      have e17 : ys = ((lnsI rows amounts).map fun l => l.getD (l.length - 1) 0).map V.int := by
        rw [lnls, List.map_map, List.map_map]
        refine eq_map (by rw [hl2, List.length_map, List.length_range, hll]) fun i y e => ⟨i, ?_, hy i y e⟩
        have := (List.getElem?_eq_some_iff.mp e).1
        rw [hl2, List.length_map, hll] at this
        rw [List.getElem?_range this]
      rw [e17] at h17
      refine ⟨D17, _, rfl, SqL.of h17, _, rfl, ?_⟩
      refine ⟨aK, _, _, rfl, rfl, s17 _ _ h16, by rw [← hl0, sizeLine_eq]; simp; omega, ?_⟩
      have eK : l0.map V.int ++ [V.int (-((lnsI rows amounts).map fun l => l.getD (l.length - 1) 0).sum)] = (lacksI rows amounts worths.length).map V.int := by
        unfold lacksI
        rw [hl0, List.map_append]; rfl
      rw [eK]
      have s1218 : Same H12 (upd H17 aK (.lst ((lacksI rows amounts worths.length).map V.int))) := fun b o e => by
        rw [upd_ne (aKfresh b o e)]; exact s17 _ _ (s1216 _ _ e)
      have h18 : (upd H17 aK (.lst ((lacksI rows amounts worths.length).map V.int))) aK = some (.lst ((lacksI rows amounts worths.length).map V.int)) := upd_same
      generalize upd H17 aK (.lst ((lacksI rows amounts worths.length).map V.int)) = H18 at *
      -- self.lines.append(gains), self.lines.append(lacks)
      have hL18 := s1218 _ _ hL12
      have hG18 := s1218 _ _ h12
      refine ⟨_, rfl, p, _, _, _, _, rfl, s1218 _ _ hp12, W.cl_Tableau, W.n_Tableau_lines, tf_lines, ?_⟩
      refine ⟨.inl ⟨rfl, _, SqL.of hL18⟩, _, rfl, aL, _, _, rfl, rfl, hL18, by rw [List.length_map, hll, sizeLine_eq]; omega, ?_⟩
      have pL18 : p ≠ aL := pL
      refine ⟨_, rfl, p, _, _, _, _, rfl, by rw [upd_ne pL]; exact s1218 _ _ hp12, W.cl_Tableau, W.n_Tableau_lines, tf_lines, ?_⟩
      refine ⟨.inl ⟨rfl, _, SqL.of upd_same⟩, _, rfl, aL, _, _, rfl, rfl, upd_same, by rw [List.length_append, List.length_map, hll, sizeLine_eq]; simp; omega, ?_⟩
      rw [upd_upd]
      have x20 : ∀ a o, a ≠ aL → H18 a = some o → (upd H18 aL (.lst (las.map V.ref ++ [V.ref aG] ++ [V.ref aK]))) a = some o := fun a o n e => by rw [upd_ne n]; exact e
      refine k _ ⟨dx, aS, aL, aB, las ++ [aG, aK], ?_⟩
      have Gs : Same G H18 := (S8.trans s812).trans s1218
      refine ⟨fun b o e => x20 b o (ne_of_none e gL) (Gs b o e), p0, gL, gB, x20 _ _ pL (s1218 _ _ hp12), x20 _ _ aSL (s1218 _ _ (s812 _ _ hS8)), ?_, x20 _ _ nBL.symm (s1218 _ _ (s812 _ _ hB8)), ?_, fun i a l e1 e2 => ?_, nBL, aSL, nBS, fun a ha => ?_⟩
      · rw [upd_same, List.map_append, List.append_assoc]; rfl
      · show (las ++ [aG, aK]).length = (lnsI rows amounts ++ [gainsI rows.length worths, lacksI rows amounts worths.length]).length
        rw [lnls]; simp [hll]
      · have e2 : (lnsI rows amounts ++ [gainsI rows.length worths, lacksI rows amounts worths.length])[i]? = some l := e2
        have ll2 : (lnsI rows amounts).length = rows.length := by rw [lnls]; simp
        by_cases q : i < rows.length
        · rw [List.getElem?_append_left (by omega)] at e1 e2
          rw [lnls, List.getElem?_map, List.getElem?_range q] at e2
          cases e2
          exact x20 _ _ (nla a (List.mem_of_getElem? e1)).1 (s1218 _ _ (hla12 i a e1))
        · rw [List.getElem?_append_right (by omega)] at e1 e2
          rw [hll] at e1
          rw [ll2] at e2
          have q1 : i - rows.length = 0 ∨ i - rows.length = 1 := by
            have := (List.getElem?_eq_some_iff.mp e1).1
            simp at this
            omega
          rcases q1 with q1 | q1
          · rw [q1] at e1 e2
            cases e1
            cases e2
            exact x20 _ _ aGL hG18
          · rw [q1] at e1 e2
            cases e1
            cases e2
            exact x20 _ _ aKL h18
      · rcases List.mem_append.mp ha with h | h
        · exact nla a h
        · simp at h
          rcases h with rfl | rfl
          · exact ⟨aGL, aGB⟩
          · exact ⟨aKL, aKB⟩
end
end TN
set_option Elab.async false
set_option linter.all false
set_option maxRecDepth 100000
set_option maxHeartbeats 4000000
/-! W9: a tableau's answers. -/
namespace TN
open PySem PySem.Spec PyProof.Rows L2
/-- a list whose items are data made of tuples -/
def LD (H : Hp) (a : Addr) (ds : List PyData) : Prop := ∃ xs, H a = some (.lst xs) ∧ TDs H xs ds
theorem TDs.set {H : Hp} {vs : List V} {ds : List PyData} {v : V} {d : PyData} (h : TDs H vs ds) (i : Nat) (hv : TD H v d) : TDs H (vs.set i v) (ds.set i d) := by
  induction vs generalizing ds i with
  | nil => cases h; exact .nil
  | cons x xs ih =>
    cases h with
    | cons h hs =>
      cases i with
      | zero => exact .cons hv hs
      | succ i => exact .cons h (ih hs i)
theorem TDs.rep {H : Hp} {v : V} {d : PyData} (h : TD H v d) : ∀ n, TDs H (List.replicate n v) (List.replicate n d)
  | 0 => .nil
  | n + 1 => .cons h (TDs.rep h n)
/-- the share so far -/
def shrN (t : TS) (i j : Nat) : Int := sm i fun k => if t.tb.be k = j then t.tb.T k (t.wide + t.many) else 0
section
variable {P : Program} {w : World} {K : PySem.W.Frag} {mg : Str → Option Value} {base : Heap}
def wantedI (t : TS) : List (Int × Int) := (List.range t.wide).map fun j => frd (shr t.many t.wide t.tb j) t.bottom
def spWanted (K : PySem.W.Frag) : Sp := fun vs H Q _ => ∃ (G : Hp) (p : Addr) (t : TS) (L : Nat → Nat → Int), vs = [.ref p] ∧ TabAt K G H p t ∧ Good L t ∧
  ∀ v H', Same H H' → TD H' v (.tuple ((wantedI t).map dF)) → Q v H'
theorem frd_zero {d : Int} (h : 0 < d) : frd 0 d = (0, 1) := by
  have e : gcdI 0 d = d := by unfold gcdI; rw [Int.gcd_zero_left]; omega
  unfold frd
  rw [e, Int.zero_ediv, Int.ediv_self (by omega)]
/-! Tableau.wanted: slots 0 self, 1 found, 2 at; calls ['G_fraction'] -/
abbrev N_Tableau_wanted : List Str := ["self", "found", "at"]
theorem sc_Tableau_wanted : FnScope N_Tableau_wanted ["self"] (defScope s_Tableau_wanted) := ⟨rfl, rfl, rfl, by decide +kernel, rfl, by decide +kernel, by decide +kernel⟩
theorem ok_Tableau_wanted (W : Wd K mg) : OkM P w K mg base 3 "Tableau" "wanted" ["self"] (spWanted K) := by
  have sc := sc_Tableau_wanted
  have G_fraction : Ok P w K mg base 2 "fraction" ["top", "bottom"] spFraction := ok_fraction W
  refine OkM.mk' W.F_Tableau_wanted sc (fun vs H Q E h => ?_) (fun _ _ _ _ _ _ us hl => match us, hl with | [_], _ => rfl) (fun cdv A outer s H vs Q E hr h => ?_)
  · obtain ⟨G, p, t, L, rfl, _⟩ := h
    rfl
  · obtain ⟨G, p, t, L, rfl, ⟨dx, aS, aL, aB, las, A⟩, g, k⟩ := h
    have sz := g.sz
    have wf := g.wf
    have ll := wf.ll
    have hb : 0 < t.bottom := g.iv.pos
    refine ⟨_, (pss_cons (ps_set (i := 1) sc.nd rfl (Or.inl rfl) (pe_op op_rep (pe_lst (pa_cons (pe_tup (pa_cons pe_int (pa_cons pe_int pa_nil))) pa_nil)) (k_fld K (pv 0) rfl)))
    (pss_cons (ps_for PassesOwn.never rfl (pi_range1 (by rfl) W.b_range (pa_cons (k_fld K (pv 0) rfl) pa_nil)) (pg_name (i := 2) sc.nd rfl (Or.inl rfl))
      (pss_one (ps_if (pt_cmpR op_lt (pe_ix (k_ixl K) (k_fld K (pv 0) rfl) (pv 2) (fun _ _ => rfl)) (k_fld K (pv 0) rfl) (nomark _))
        (pss_one (ps_asg (pe_c G_fraction (hr.mono (by decide)) (by rfl) (pa_cons (pe_ix (k_ixl K) (pe_ix (k_ixl K) (k_fld K (pv 0) rfl) (pv 2) (fun _ _ => rfl)) (pe_un un_neg pe_int) (fun _ _ => rfl)) (pa_cons (k_fld K (pv 0) rfl) pa_nil))) (pg_sub (pv 1) (pe_ix (k_ixl K) (k_fld K (pv 0) rfl) (pv 2) (fun _ _ => rfl)) set_list)))
        pss_nil)))
    (pss_one (ps_ret (pe_callTy (k_tupof K) (by rfl) W.b_tuple PyProof.Rows.boot_tuple (pa_cons (pv 1) pa_nil)))))), ?_⟩
    refine ⟨by show 2 ≤ sizeLine; decide, fun T hT => ⟨by show 1 ≤ sizeLine; decide, fun D0 hD0 => ?_⟩⟩
    have s1 : Same H (upd (upd H T (.tup [.int 0, .int 1])) D0 (.lst [.ref T])) := (Same.upd hT).trans (Same.upd hD0)
    have hT1 : (upd (upd H T (.tup [.int 0, .int 1])) D0 (.lst [.ref T])) T = some (.tup [.int 0, .int 1]) := by rw [upd_ne (ne_of_none upd_same hD0), upd_same]
    have hD1 : (upd (upd H T (.tup [.int 0, .int 1])) D0 (.lst [.ref T])) D0 = some (.lst [.ref T]) := upd_same
    generalize upd (upd H T (.tup [.int 0, .int 1])) D0 (.lst [.ref T]) = H1 at *
    have A1 := A.mono s1
    refine ⟨_, rfl, p, _, _, _, _, rfl, A1.hp, W.cl_Tableau, W.n_Tableau_wide, tf_wide, ?_⟩
    refine ⟨D0, _, _, rfl, rfl, hD1, by omega, by omega, by rw [sizeLine_eq]; simp; omega, fun F hF => ?_⟩
    rw [rep_one, show ((t.wide : Nat) : Int).toNat = t.wide by omega]
    have s2 : Same H1 (upd H1 F (.lst (List.replicate t.wide (.ref T)))) := Same.upd hF
    have hF2 : (upd H1 F (.lst (List.replicate t.wide (.ref T)))) F = some (.lst (List.replicate t.wide (.ref T))) := upd_same
    generalize upd H1 F (.lst (List.replicate t.wide (.ref T))) = H2 at *
    have hFn : H F = none := s1.free hF
    have A2 := A1.mono s2
    refine ⟨_, rfl, p, _, _, _, _, rfl, A2.hp, W.cl_Tableau, W.n_Tableau_many, tf_many, ?_⟩
    refine ⟨_, rfl, by omega, by omega, ?_⟩
    refine for_range (lo := 0) (n := ((t.many : Nat) : Int).toNat) (fun i σ H' => ∃ (v : Option V) (xs : List V), σ = [some (.ref p), some (.ref F), v] ∧ Same H H' ∧ H' F = some (.lst xs) ∧ TDs H' xs ((List.range t.wide).map fun j => dF (frd (shrN t i j) t.bottom)))
      ⟨none, _, rfl, s1.trans s2, hF2, ?_⟩ ?_ ?_
    · have e : ((List.range t.wide).map fun j => dF (frd (shrN t 0 j) t.bottom)) = List.replicate t.wide (dF (0, 1)) := by
        rw [List.eq_replicate_iff]
        refine ⟨by simp, fun d hd => ?_⟩
        obtain ⟨j, _, rfl⟩ := List.mem_map.mp hd
        show dF (frd (sm 0 _) _) = _
        rw [sm_zero, frd_zero hb]
      rw [e]
      exact TDs.rep (.tup (s2 _ _ hT1) (.cons (.int 0) (.cons (.int 1) .nil))) _
    · rintro i σ H3 hi ⟨v, xs, rfl, s3, hF3, ht⟩
      have hi' : i < t.many := by omega
      have A3 := A.mono s3
      have lxs : xs.length = t.wide := by rw [ht.length]; simp
      refine ⟨_, rfl, p, _, _, _, _, rfl, A3.hp, W.cl_Tableau, W.n_Tableau_base, tf_base, ?_⟩
      refine ⟨_, rfl, r_lgetI (j := i) A3.hB (by omega) (A3.base wf hi') ?_⟩
      refine ⟨_, rfl, p, _, _, _, _, rfl, A3.hp, W.cl_Tableau, W.n_Tableau_wide, tf_wide, ?_⟩
      refine ⟨_, _, rfl, rfl, _, rfl, ?_⟩
      refine ite2 (fun hc => ?_) (fun hc => ?_)
      · have hc : ((t.tb.be i : Nat) : Int) < ((t.wide : Nat) : Int) := of_decide_eq_true hc
        obtain ⟨a, l, h1, h2, h3, h4⟩ := A3.line (i := i) (by omega)
        refine ⟨_, rfl, p, _, _, _, _, rfl, A3.hp, W.cl_Tableau, W.n_Tableau_lines, tf_lines, ?_⟩
        refine ⟨_, rfl, r_lgetI (j := i) A3.hL (by omega) h2 ?_⟩
        refine ⟨_, rfl, r_lback h4 (TS.last_ wf h3) ?_⟩
        refine ⟨_, rfl, p, _, _, _, _, rfl, A3.hp, W.cl_Tableau, W.n_Tableau_bottom, tf_bottom, ?_⟩
        refine ⟨_, _, rfl, hb, wf.bot.mono (by decide), fun v' H4 s4 hv' => ?_⟩
        have A4 := A3.mono s4
        refine ⟨_, rfl, ?_⟩
        refine ⟨_, rfl, p, _, _, _, _, rfl, A4.hp, W.cl_Tableau, W.n_Tableau_base, tf_base, ?_⟩
        refine ⟨_, rfl, r_lgetI (j := i) A4.hB (by omega) (A4.base wf hi') ?_⟩
        refine ⟨F, xs, _, t.tb.be i, rfl, rfl, s4 _ _ hF3, ?_, ?_⟩
        · unfold ixN
          rw [if_pos (by omega), if_pos (by omega)]
          congr 1
        · have tsm : Tsm H4 (upd H4 F (.lst (xs.set (t.tb.be i) v'))) := fun b ys e => by
            rw [upd_ne (ne_of e (s4 _ _ hF3) (by intro z; cases z))]; exact e
          refine ⟨_, _, rfl, fun b o e => ?_, upd_same, ?_⟩
          · rw [upd_ne (ne_of_none e hFn)]; exact s4 _ _ (s3 _ _ e)
          · have e : ((List.range t.wide).map fun j => dF (frd (shrN t (i + 1) j) t.bottom)) = ((List.range t.wide).map fun j => dF (frd (shrN t i j) t.bottom)).set (t.tb.be i) (dF (frd (t.tb.T i (t.wide + t.many)) t.bottom)) := by
              apply List.ext_getElem?
              intro j
              rw [List.getElem?_set, List.getElem?_map, List.getElem?_map]
              by_cases q : j < t.wide
              · rw [List.getElem?_range q]
                show some (dF (frd (shrN t (i + 1) j) t.bottom)) = _
                have es : shrN t (i + 1) j = shrN t i j + if t.tb.be i = j then t.tb.T i (t.wide + t.many) else 0 := rfl
                by_cases z : t.tb.be i = j
                · rw [if_pos z, if_pos (by simp; omega), es, if_pos z]
                  have z0 : shrN t i j = 0 := sm_const0 fun k' hk => if_neg fun h => by
                    have := g.iv.inj (show k' < t.many by omega) hi' (h.trans z.symm)
                    omega
                  rw [z0, Int.zero_add]
                · rw [if_neg z, es, if_neg z, Int.add_zero]; rfl
              · have n1 : (List.range t.wide)[j]? = none := by rw [List.getElem?_eq_none_iff, List.length_range]; omega
                rw [n1]
                by_cases z : t.tb.be i = j
                · omega
                · rw [if_neg z]; rfl
            rw [e]
            exact TDs.set (TDs.mono (fun b ys e => tsm b ys (s4 _ _ e)) ht) _ (TD.mono tsm hv')
      · have hc : ¬ ((t.tb.be i : Nat) : Int) < ((t.wide : Nat) : Int) := fun z => hc (decide_eq_true z)
        refine ⟨_, xs, rfl, s3, hF3, ?_⟩
        have e : ((List.range t.wide).map fun j => dF (frd (shrN t (i + 1) j) t.bottom)) = (List.range t.wide).map fun j => dF (frd (shrN t i j) t.bottom) := by
          refine List.map_congr_left fun j hj => ?_
          have : j < t.wide := List.mem_range.mp hj
          have es : shrN t (i + 1) j = shrN t i j + if t.tb.be i = j then t.tb.T i (t.wide + t.many) else 0 := rfl
          rw [es, if_neg (by omega), Int.add_zero]
        rw [e]
        exact ht
    · rintro σ H3 ⟨v, xs, rfl, s3, hF3, ht⟩
      refine ⟨_, rfl, F, _, rfl, .inl ⟨SqL.of hF3, fun l hl => ?_⟩⟩
      refine k _ _ (s3.to_upd hl) (.tup upd_same ?_)
      unfold wantedI
      rw [List.map_map]
      refine TDs.mono (Tsm.of (Same.upd hl)) ?_
      have e : ((t.many : Nat) : Int).toNat = t.many := by omega
      rw [e] at ht
      exact ht
def sideI (t : TS) (o : Nat) : List (Int × Int) := (List.range t.many).map fun k => frd (t.tb.T o (t.wide + k)) t.bottom
def spSide (K : PySem.W.Frag) : Sp := fun vs H Q _ => ∃ (G : Hp) (p : Addr) (t : TS) (o : Nat) (L : Nat → Nat → Int), vs = [.ref p, .int (o : Int), .int 0] ∧ TabAt K G H p t ∧ Good L t ∧ o < t.many + 2 ∧
  ∀ v H', Same H H' → TD H' v (.tuple ((sideI t o).map dF)) → Q v H'
/-! Tableau.other_side: slots 0 self, 1 number, 2 less, 3 found, 4 at, 5 top; calls ['G_fraction'] -/
abbrev N_Tableau_other_side : List Str := ["self", "number", "less", "found", "at", "top"]
theorem sc_Tableau_other_side : FnScope N_Tableau_other_side ["self", "number", "less"] (defScope s_Tableau_other_side) := ⟨rfl, rfl, rfl, by decide +kernel, rfl, by decide +kernel, by decide +kernel⟩
theorem ok_Tableau_other_side (W : Wd K mg) : OkM P w K mg base 3 "Tableau" "other_side" ["self", "number", "less"] (spSide K) := by
  have sc := sc_Tableau_other_side
  have G_fraction : Ok P w K mg base 2 "fraction" ["top", "bottom"] spFraction := ok_fraction W
  refine OkM.mk' W.F_Tableau_other_side sc (fun vs H Q E h => ?_) (fun _ _ _ _ _ _ us hl => match us, hl with | [_, _, _], _ => rfl) (fun cdv A outer s H vs Q E hr h => ?_)
  · obtain ⟨G, p, t, o, L, rfl, _⟩ := h
    rfl
  · obtain ⟨G, p, t, o, L, rfl, ⟨dx, aS, aL, aB, las, A⟩, g, ho, k⟩ := h
    have sz := g.sz
    have wf := g.wf
    have ll := wf.ll
    have hb : 0 < t.bottom := g.iv.pos
    refine ⟨_, (pss_cons (ps_set (i := 3) sc.nd rfl (Or.inl rfl) (pe_lst pa_nil))
    (pss_cons (ps_for PassesOwn.never rfl (pi_range1 (by rfl) W.b_range (pa_cons (k_fld K (pv 0) rfl) pa_nil)) (pg_name (i := 4) sc.nd rfl (Or.inl rfl))
      (pss_cons (ps_set (i := 5) sc.nd rfl (Or.inl rfl) (pe_op op_sub (pe_ix (k_ixl K) (pe_ix (k_ixl K) (k_fld K (pv 0) rfl) (pv 1) (fun _ _ => rfl)) (pe_op op_add (k_fld K (pv 0) rfl) (pv 4)) (fun _ _ => rfl)) (pe_op op_mulW (pv 2) (k_fld K (pv 0) rfl))))
      (pss_one (ps_expr (k_bm K PySem.F.plainAttrs_list PySem.F.slot_list_append PySem.F.type_list_append mt_append (pv 3) (pa_cons (pe_c G_fraction (hr.mono (by decide)) (by rfl) (pa_cons (pe_op op_mulW (pe_ix (k_ixl K) (k_fld K (pv 0) rfl) (pv 4) (fun _ _ => rfl)) (pv 5)) (pa_cons (k_fld K (pv 0) rfl) pa_nil))) pa_nil))))))
    (pss_one (ps_ret (pe_callTy (k_tupof K) (by rfl) W.b_tuple PyProof.Rows.boot_tuple (pa_cons (pv 3) pa_nil)))))), ?_⟩
    refine ⟨Nat.zero_le _, fun F hF => ?_⟩
    have s1 : Same H (upd H F (.lst [])) := Same.upd hF
    have hF1 : (upd H F (.lst [])) F = some (.lst []) := upd_same
    generalize upd H F (.lst []) = H1 at *
    have A1 := A.mono s1
    refine ⟨_, rfl, p, _, _, _, _, rfl, A1.hp, W.cl_Tableau, W.n_Tableau_many, tf_many, ?_⟩
    refine ⟨_, rfl, by omega, by omega, ?_⟩
    refine for_range (lo := 0) (n := ((t.many : Nat) : Int).toNat) (fun i σ H' => ∃ (v v' : Option V) (xs : List V), σ = [some (.ref p), some (.int (o : Int)), some (.int 0), some (.ref F), v, v'] ∧ Same H H' ∧ H' F = some (.lst xs) ∧ TDs H' xs ((List.range i).map fun j => dF (frd (t.tb.T o (t.wide + j)) t.bottom)))
      ⟨none, none, _, rfl, s1, hF1, .nil⟩ ?_ ?_
    · rintro i σ H3 hi ⟨v, v', xs, rfl, s3, hF3, ht⟩
      have hi' : i < t.many := by omega
      have A3 := A.mono s3
      have lxs : xs.length = i := by rw [ht.length]; simp
      obtain ⟨a, l, h1, h2, h3, h4⟩ := A3.line (i := o) (by omega)
      have hl := wf.len h3
      refine ⟨_, rfl, p, _, _, _, _, rfl, A3.hp, W.cl_Tableau, W.n_Tableau_lines, tf_lines, ?_⟩
      refine ⟨_, rfl, r_lget A3.hL h2 ?_⟩
      refine ⟨_, rfl, p, _, _, _, _, rfl, A3.hp, W.cl_Tableau, W.n_Tableau_wide, tf_wide, ?_⟩
      refine ⟨_, rfl, _, _, rfl, rfl, ?_⟩
      refine r_lgetI (j := t.wide + i) h4 (by omega) (TS.at_ h3 (by omega)) ?_
      refine ⟨_, rfl, _, rfl, p, _, _, _, _, rfl, A3.hp, W.cl_Tableau, W.n_Tableau_bottom, tf_bottom, ?_⟩
      refine ⟨_, _, rfl, rfl, wide_mul (a := 1) (by decide) wf.bot (by decide) (by decide) (by decide), ?_⟩
      refine ⟨_, _, rfl, rfl, ?_⟩
      have et : t.tb.T o (t.wide + i) - 0 * t.bottom = t.tb.T o (t.wide + i) := by rw [Int.zero_mul, Int.sub_zero]
      have b2 : Bits 4000 (t.tb.T o (t.wide + i) - 0 * t.bottom) := by rw [et]; exact wf.bitT (by omega) (by omega)
      refine ⟨_, rfl, .inl ⟨rfl, _, SqL.of hF3⟩, ?_⟩
      refine ⟨_, rfl, p, _, _, _, _, rfl, A3.hp, W.cl_Tableau, W.n_Tableau_signs, tf_signs, ?_⟩
      refine ⟨_, rfl, r_lgetI (j := i) (v := .int 1) A3.hS (by omega) (by rw [List.getElem?_map, List.getElem?_replicate, if_pos hi']; rfl) ?_⟩
      refine ⟨_, rfl, _, _, rfl, rfl, wide_mul (a := 1) (by decide) b2 (by decide) (by decide) (by decide), ?_⟩
      refine ⟨_, rfl, p, _, _, _, _, rfl, A3.hp, W.cl_Tableau, W.n_Tableau_bottom, tf_bottom, ?_⟩
      refine ⟨_, _, rfl, hb, wf.bot.mono (by decide), fun v2 H4 s4 hv2 => ?_⟩
      rw [et, Int.one_mul] at hv2
      refine ⟨F, _, _, rfl, rfl, s4 _ _ hF3, by rw [lxs, sizeLine_eq]; omega, ?_⟩
      have tsm : Tsm H4 (upd H4 F (.lst (xs ++ [v2]))) := fun b ys e => by
        rw [upd_ne (ne_of e (s4 _ _ hF3) (by intro z; cases z))]; exact e
      refine ⟨_, _, _, rfl, fun b o e => ?_, upd_same, ?_⟩
      · rw [upd_ne (ne_of_none e hF)]; exact s4 _ _ (s3 _ _ e)
      · rw [List.range_succ, List.map_append]
        exact (TDs.mono (fun b ys e => tsm b ys (s4 _ _ e)) ht).append (.one (TD.mono tsm hv2))
    · rintro σ H3 ⟨v, v', xs, rfl, s3, hF3, ht⟩
      refine ⟨_, rfl, F, _, rfl, .inl ⟨SqL.of hF3, fun l hl => ?_⟩⟩
      refine k _ _ (s3.to_upd hl) (.tup upd_same ?_)
      unfold sideI
      rw [List.map_map]
      refine TDs.mono (Tsm.of (Same.upd hl)) ?_
      have e : ((t.many : Nat) : Int).toNat = t.many := by omega
      rw [e] at ht
      exact ht
end
end TN
set_option Elab.async false
set_option linter.all false
set_option maxRecDepth 100000
set_option maxHeartbeats 4000000
/-! W10: a task solved. -/
namespace TN
open PySem PySem.Spec PyProof.Rows L2
/-- phase one gains not without end -/
theorem bounded1 {t e n f m w : Nat} {col : Nat → Nat → Int} {L : Nat → Nat → Int} {S : Tb} {q : Nat} (K : Tsk t e n f m w col L) (I : Iv m w L S) (hq : q < w) (neg : S.T (m + 1) q < 0) (no : ∀ i, i < m → S.T i q ≤ 0) : False := by
  have c1 : (sm m fun k => S.d * L k q) = sm m fun i => S.T i q * sm m fun k => L k (S.be i) := by
    rw [sm_congr (g := fun k => sm m fun i => S.T i q * L k (S.be i)) fun k hk => by rw [I.colR (by omega) (by omega), if_neg (by omega), Int.add_zero], sm_comm]
    exact sm_congr fun i hi => sm_mul _ _ _
  have c2 := I.colR (k := m + 1) (j := q) (by omega) (by omega)
  rw [if_pos (by omega), K.lk0 q hq, Int.mul_neg, ← sm_mul, c1, ← sm_neg] at c2
  have c3 : (sm m fun i => if w ≤ S.be i then S.T i q else 0) + S.T (m + 1) q = 0 := by
    have c4 : (sm m fun i => if w ≤ S.be i then S.T i q else 0) = sm m fun i => S.T i q * L (m + 1) (S.be i) + S.T i q * sm m fun k => L k (S.be i) := sm_congr fun i hi => by
      have hb := I.bas i hi
      by_cases z : w ≤ S.be i
      · obtain ⟨a, ha⟩ : ∃ a, S.be i = w + a := ⟨S.be i - w, by omega⟩
        rw [if_pos z, ha, K.hlp a (m + 1) (by omega) (by omega), if_neg (by omega), sm_one (i := a) (by omega) fun k hk h => by rw [K.hlp a k (by omega) (by omega), if_neg h], K.hlp a a (by omega) (by omega), if_pos rfl]
        omega
      · rw [if_neg z, K.lk0 _ (by omega)]
        grind
    rw [c4, sm_add]
    rw [sm_neg] at c2
    omega
  have c5 : 0 ≤ sm m fun i => -(if w ≤ S.be i then S.T i q else 0) := sm_nonneg fun i hi => by
    have := no i hi
    split <;> omega
  rw [sm_neg] at c5
  omega
theorem Iv.be_congr {m w : Nat} {L : Nat → Nat → Int} {T : Nat → Nat → Int} {be be' : Nat → Nat} {d : Int} (I : Iv m w L ⟨T, be, d⟩) (h : ∀ k, k < m → be' k = be k) : Iv m w L ⟨T, be', d⟩ := by
  have e : ∀ k r, Bs L m be' k r = Bs L m be k r := fun k r => by
    by_cases z : k < m
    · rw [Bs_lt z, Bs_lt z, h k z]
    · rw [Bs_ge z, Bs_ge z]
  have e' : Bs L m be' = Bs L m be := by funext k r; exact e k r
  refine ⟨I.pos, ?_, ?_, fun i hi => by show be' i < _; rw [h i hi]; exact I.bas i hi⟩
  · show ∀ k j, _ → _ → d * L k j = sm (m + 2) fun i => T i j * Bs L m be' i k
    rw [e']; exact I.col
  · show ∃ s : Int, _ ∧ d = s * det (m + 2) (Bs L m be')
    rw [e']; exact I.sgn
section
variable {rows : List (List Int)} {amounts worths : List Int}
theorem initT_good {t e n f : Nat} {col : Nat → Nat → Int} (K : Tsk t e n f rows.length worths.length col (initT rows amounts worths).tb.T) (lb : LB rows.length worths.length (initT rows amounts worths).tb.T)
    (lR : ∀ r ∈ rows, r.length = worths.length) (sz : worths.length + rows.length ≤ 1000) : Good (initT rows amounts worths).tb.T (initT rows amounts worths) where
  ll := by show (lnsI rows amounts ++ [_, _]).length = _; simp [lnsI, initT]
  lw := fun l hl => by
    have hl : l ∈ lnsI rows amounts ++ [gainsI rows.length worths, lacksI rows amounts worths.length] := hl
    show l.length = worths.length + rows.length + 1
    rcases List.mem_append.mp hl with h | h
    · obtain ⟨j, hj, rfl⟩ := List.mem_map.mp h
      have hj : j < rows.length := List.mem_range.mp hj
      unfold lnI unitL
      rw [List.length_append, List.length_append, List.getD_eq_getElem?_getD, List.getElem?_eq_getElem hj]
      have := lR _ (List.getElem_mem hj)
      simp [this]
    · simp at h
      rcases h with rfl | rfl
      · unfold gainsI; simp; omega
      · unfold lacksI; simp; omega
  bl := by show ((List.range rows.length).map _).length = rows.length; simp
  sz := sz
  iv := by
    refine Iv.be_congr (Iv.first K.hlp) fun k hk => ?_
    show ((List.range rows.length).map fun k => worths.length + k).getD k 0 = worths.length + k
    have hk : k < rows.length := hk
    rw [List.getD_eq_getElem?_getD, List.getElem?_map, List.getElem?_range hk]; rfl
  hlp := K.hlp
  lb := lb
end
section
variable {P : Program} {w : World} {K : PySem.W.Frag} {mg : Str → Option Value} {base : Heap}
/-- the end of phase two -/
structure Fin (t e n f m w : Nat) (col : Nat → Nat → Int) (L : Nat → Nat → Int) (T : TS) : Prop where
  good : Good L T
  wide : T.wide = w
  many : T.many = m
  nn : NonNeg m w T.tb
  em : Empt m w T.tb
  opt : ∀ j, j < w → 0 ≤ T.tb.T m j
def spSolved : Sp := fun vs H Q _ => ∃ (aR aA aW : Addr) (rows : List (List Int)) (amounts worths : List Int) (t e n f : Nat) (col : Nat → Nat → Int), vs = [.ref aR, .ref aA, .ref aW] ∧
  LL H aR rows ∧ H aA = some (.lst (amounts.map V.int)) ∧ H aW = some (.lst (worths.map V.int)) ∧
  amounts.length = rows.length ∧ (∀ r ∈ rows, r.length = worths.length) ∧ worths.length + rows.length ≤ 1000 ∧ (∀ x ∈ amounts, 0 ≤ x) ∧ (∀ r ∈ rows, ∀ x ∈ r, Bits 4000 x) ∧ (∀ x ∈ amounts, Bits 4000 x) ∧
  Tsk t e n f rows.length worths.length col (initT rows amounts worths).tb.T ∧ LB rows.length worths.length (initT rows amounts worths).tb.T ∧
  ∀ v H' T, Same H H' → Fin t e n f rows.length worths.length col (initT rows amounts worths).tb.T T → TD H' v (.tuple [.str "best", .tuple ((wantedI T).map dF), .tuple ((sideI T rows.length).map dF)]) → Q v H'
/-! solved: slots 0 rows, 1 amounts, 2 worths, 3 table, 4 place; calls ['M_Tableau_clear', 'M_Tableau_init', 'M_Tableau_other_side', 'M_Tableau_run', 'M_Tableau_wanted'] -/
abbrev N_solved : List Str := ["rows", "amounts", "worths", "table", "place"]
theorem sc_solved : FnScope N_solved ["rows", "amounts", "worths"] (defScope s_solved) := ⟨rfl, rfl, rfl, by decide +kernel, rfl, by decide +kernel, by decide +kernel⟩
theorem ok_solved (W : Wd K mg) : Ok P w K mg base 5 "solved" ["rows", "amounts", "worths"] spSolved := by
  have sc := sc_solved
  have M_Tableau_init : OkM P w K mg base 1 "Tableau" "__init__" ["self", "rows", "amounts", "worths"] (spInit K) := ok_Tableau_init W
  have M_Tableau_run : OkM P w K mg base 2 "Tableau" "run" ["self", "number"] (spRun K) := ok_Tableau_run W
  have M_Tableau_clear : OkM P w K mg base 2 "Tableau" "clear" ["self"] (spClear K) := ok_Tableau_clear W
  have M_Tableau_wanted : OkM P w K mg base 3 "Tableau" "wanted" ["self"] (spWanted K) := ok_Tableau_wanted W
  have M_Tableau_other_side : OkM P w K mg base 3 "Tableau" "other_side" ["self", "number", "less"] (spSide K) := ok_Tableau_other_side W
  refine Ok.mk' W.F_solved W.g_solved sc (fun vs H Q E h => ?_) (fun _ _ _ _ _ _ us hl => match us, hl with | [_, _, _], _ => rfl) (fun cdv A outer s H vs Q E hr h => ?_)
  · obtain ⟨aR, aA, aW, rows, amounts, worths, t, e, n, f, col, rfl, _⟩ := h
    rfl
  · obtain ⟨aR, aA, aW, rows, amounts, worths, t, e, n, f, col, rfl, hR, hA, hW, lA, lR, sz, nnA, bR, bA, K1, lb, k⟩ := h
    have g0 := initT_good K1 lb lR sz
    have ins : ∀ {G H : Hp} {p : Addr} {t' : TS}, TabAt K G H p t' → ∃ dx aS aL aB las, TAd K G H p t' dx aS aL aB las := fun h => h
    refine ⟨_, (pss_cons (ps_set (i := 3) sc.nd rfl (Or.inl rfl) (pe_mk W.mk_Tableau M_Tableau_init (hr.mono (by decide)) (by rfl) W.g_Tableau (pa_cons (pv 0) (pa_cons (pv 1) (pa_cons (pv 2) pa_nil)))))
    (pss_cons (ps_expr (pe_m (pv 3) W.cl_Tableau W.m_Tableau_run M_Tableau_run (hr.mono (by decide)) (pa_cons (pe_op op_add (k_fld K (pv 3) rfl) pe_int) pa_nil)))
    (pss_cons (ps_if (pt_cmpR op_lt (pe_ix (k_ixl K) (pe_ix (k_ixl K) (k_fld K (pv 3) rfl) (pe_op op_add (k_fld K (pv 3) rfl) pe_int) (fun _ _ => rfl)) (pe_un un_neg pe_int) (fun _ _ => rfl)) pe_int (nomark _))
      (pss_one ps_never)
      pss_nil)
    (pss_cons (ps_expr (pe_m0 (pv 3) W.cl_Tableau W.m_Tableau_clear M_Tableau_clear (hr.mono (by decide))))
    (pss_cons (ps_set (i := 4) sc.nd rfl (Or.inl rfl) (pe_m (pv 3) W.cl_Tableau W.m_Tableau_run M_Tableau_run (hr.mono (by decide)) (pa_cons (k_fld K (pv 3) rfl) pa_nil)))
    (pss_cons (ps_if (pt_cmpR op_notN (pv 4) pe_non (nomark _))
      (pss_one ps_never)
      pss_nil)
    (pss_one (ps_ret (pe_tup (pa_cons pe_str (pa_cons (pe_m0 (pv 3) W.cl_Tableau W.m_Tableau_wanted M_Tableau_wanted (hr.mono (by decide))) (pa_cons (pe_m (pv 3) W.cl_Tableau W.m_Tableau_other_side M_Tableau_other_side (hr.mono (by decide)) (pa_cons (k_fld K (pv 3) rfl) (pa_cons pe_int pa_nil))) pa_nil)))))))))))), ?_⟩
    refine ⟨_, rfl, _, rfl, _, rfl, fun p dx hp0 hdx0 hne => ?_⟩
    have S0 : Same H (upd (upd H dx (.own p)) p (.ins (He.ga K "Tableau") dx [])) := fun b o e => by
      rw [upd_ne (ne_of_none e hp0), upd_ne (ne_of_none e hdx0)]; exact e
    refine ⟨H, p, dx, aR, aA, aW, rows, amounts, worths, rfl, S0, hp0, upd_same, hR, hA, hW, lA, lR, sz, nnA, bR, bA, fun H1 TA1 => ⟨rfl, ?_⟩⟩
    have N0 : NonNeg (initT rows amounts worths).many (initT rows amounts worths).wide (initT rows amounts worths).tb := fun i hi => by
      have hi : i < rows.length := hi
      have hm := K1.hm
      show 0 ≤ (initT rows amounts worths).tb.T i (worths.length + rows.length)
      by_cases z : i < t + e
      · rw [K1.am0 i z]; exact Int.le_refl _
      · obtain ⟨a, rfl⟩ : ∃ a, i = t + e + a := ⟨i - (t + e), by omega⟩
        rw [K1.am1 a (by omega)]; decide
    generalize hT0 : initT rows amounts worths = T0 at *
    have w0 : T0.wide = worths.length := by rw [← hT0]; rfl
    have m0 : T0.many = rows.length := by rw [← hT0]; rfl
    obtain ⟨dx1, aS1, aL1, aB1, las1, A1⟩ := ins TA1
    refine ⟨_, rfl, p, _, _, rfl, A1.hp, rfl, ?_⟩
    refine ⟨_, rfl, p, _, _, _, _, rfl, A1.hp, W.cl_Tableau, W.n_Tableau_many, tf_many, ?_⟩
    refine ⟨_, _, rfl, rfl, ?_⟩
    refine ⟨H, p, T0, T0.many + 1, T0.tb.T, rfl, TA1, g0, N0, by omega, by omega, fun H2 T1 n1 TA2 g1 e1 e2 R1 => ⟨fun opt1 => ?_, fun q hq hn hno => ?_⟩⟩
    · have iv1 := g1.iv
      have nn1 : NonNeg T0.many T0.wide T1.tb := (R1.keeps (Pr := fun S => Iv T0.many T0.wide T0.tb.T S ∧ NonNeg T0.many T0.wide S) ⟨g0.iv, N0⟩ fun S1 S2 r q ⟨i1, n1⟩ b => ⟨b.piv.inv i1, b.nonneg i1 n1⟩).2
      rw [e1, e2] at iv1
      rw [w0, m0] at iv1 nn1 opt1
      obtain ⟨z1, em1⟩ := phase1 K1 iv1 nn1 opt1
      obtain ⟨dx2, aS2, aL2, aB2, las2, A2⟩ := ins TA2
      have wf1 := g1.wf
      have ll1 := wf1.ll
      obtain ⟨a, l, h1, h2, h3, h4⟩ := A2.line (i := rows.length + 1) (by omega)
      refine ⟨_, rfl, p, _, _, _, _, rfl, A2.hp, W.cl_Tableau, W.n_Tableau_lines, tf_lines, ?_⟩
      refine ⟨_, rfl, p, _, _, _, _, rfl, A2.hp, W.cl_Tableau, W.n_Tableau_many, tf_many, ?_⟩
      refine ⟨_, _, rfl, rfl, ?_⟩
      refine r_lgetI (j := rows.length + 1) A2.hL (by omega) h2 ?_
      refine ⟨_, rfl, r_lback h4 (TS.last_ wf1 h3) ?_⟩
      refine ⟨_, _, rfl, rfl, _, rfl, ?_⟩
      rw [e1, e2, w0, m0, z1]
      refine iteF ?_
      -- clear
      refine ⟨_, rfl, p, _, _, rfl, A2.hp, rfl, ?_⟩
      refine ⟨H, p, T1, T0.tb.T, rfl, TA2, g1, by rw [e1, e2, w0, m0]; exact nn1, by rw [e1, e2, w0, m0]; exact em1, fun H3 T2 TA3 g2 e3 e4 nn2 em2 cl2 => ?_⟩
      rw [e1, e2, w0, m0] at nn2 em2
      rw [e1, e2, w0, m0] at cl2
      have w2 : T2.wide = worths.length := by rw [e3, e1, w0]
      have m2 : T2.many = rows.length := by rw [e4, e2, m0]
      obtain ⟨dx3, aS3, aL3, aB3, las3, A3⟩ := ins TA3
      refine ⟨_, rfl, p, _, _, rfl, A3.hp, rfl, ?_⟩
      refine ⟨_, rfl, p, _, _, _, _, rfl, A3.hp, W.cl_Tableau, W.n_Tableau_many, tf_many, ?_⟩
      refine ⟨H, p, T2, T2.many, T0.tb.T, rfl, TA3, g2, by rw [w2, m2]; exact nn2, Nat.le_refl _, by omega, fun H4 T3 n3 TA4 g3 e5 e6 R3 => ?_⟩
      have w3 : T3.wide = worths.length := e5.trans w2
      have m3 : T3.many = rows.length := e6.trans m2
      have iv2 := g2.iv
      have iv3 := g3.iv
      rw [w2, m2] at R3 iv2
      rw [w3, m3] at iv3
      have all3 := R3.keeps (Pr := fun S => Iv rows.length worths.length T0.tb.T S ∧ NonNeg rows.length worths.length S ∧ Empt rows.length worths.length S ∧ Clr rows.length worths.length rows.length S) ⟨iv2, nn2, em2, cl2⟩
        fun S1 S2 r q ⟨i1, i2, i3, i4⟩ b => ⟨b.piv.inv i1, b.nonneg i1 i2, (phase2_step i1 i3 i4 b).1, (phase2_step i1 i3 i4 b).2⟩
      obtain ⟨_, nn3, em3, cl3⟩ := all3
      rw [w2, m2]
      refine ⟨fun opt3 => ?_, fun q hq hn hno => ?_⟩
      · refine ⟨_, rfl, rfl, _, rfl, iteF ?_⟩
        obtain ⟨dx4, aS4, aL4, aB4, las4, A4⟩ := ins TA4
        refine ⟨_, rfl, p, _, _, rfl, A4.hp, rfl, ?_⟩
        refine ⟨H, p, T3, T0.tb.T, rfl, TA4, g3, fun v5 H5 s5 hv5 => ?_⟩
        have TA5 := TA4.mono s5
        obtain ⟨dx5, aS5, aL5, aB5, las5, A5⟩ := ins TA5
        refine ⟨_, rfl, p, _, _, rfl, A5.hp, rfl, ?_⟩
        refine ⟨_, rfl, p, _, _, _, _, rfl, A5.hp, W.cl_Tableau, W.n_Tableau_many, tf_many, ?_⟩
        refine ⟨H, p, T3, T3.many, T0.tb.T, rfl, TA5, g3, by omega, fun v6 H6 s6 hv6 => ?_⟩
        refine ⟨by show 3 ≤ sizeLine; decide, fun Z hZ => ?_⟩
        have sA : Same H6 (upd H6 Z (.tup [.str "best", v5, v6])) := Same.upd hZ
        refine k _ _ T3 (((A4.same.trans s5).trans s6).trans sA) ⟨g3, w3, m3, nn3, em3, opt3⟩ (.tup upd_same (.cons (.str _) (.cons (hv5.mono (Tsm.of (s6.trans sA))) (.cons ?_ .nil))))
        rw [m3] at hv6
        exact hv6.mono (Tsm.of sA)
      · exact (bounded K1 iv3 cl3 hq hn hno).elim
    · have iv1 := g1.iv
      rw [e1, e2] at iv1
      rw [w0, m0] at iv1
      rw [m0] at hn hno
      rw [w0] at hq
      exact (bounded1 K1 iv1 hq hn hno).elim
end
end TN
set_option Elab.async false
set_option linter.all false
set_option maxRecDepth 100000
set_option maxHeartbeats 4000000
/-! W11: programs as data; columns. -/
namespace TN
open PySem PySem.Spec PyProof.Rows L2
/-- a reading, a program -/
structure Rd where
  x : Nat
  y : Nat
  s : List Int
structure Prg where
  sides : Nat
  tables : Nat
  rs : List Rd
abbrev dRd (r : Rd) : PyData := .tuple [.int (r.x : Int), .int (r.y : Int), dI r.s]
structure Prg.Ok (g : Prg) : Prop where
  s1 : 1 ≤ g.sides
  s4 : g.sides ≤ 4
  t1 : 1 ≤ g.tables
  t8 : g.tables ≤ 8
  n : g.rs.length ≤ 24
  rd : ∀ r ∈ g.rs, r.x < g.tables ∧ r.y < g.tables ∧ r.s.length = g.sides ∧ ∀ c ∈ r.s, -(10 ^ 12) ≤ c ∧ c ≤ 10 ^ 12
def pfs (s t : Nat) (a : Addr) : List (Str × V) := [("sides", .int s), ("tables", .int t), ("readings", .ref a)]
theorem pf_sides {s t a} : (pfs s t a).lookup ("sides" : Str) = some (.int s) := rfl
theorem pf_tables {s t a} : (pfs s t a).lookup ("tables" : Str) = some (.int t) := rfl
theorem pf_readings {s t a} : (pfs s t a).lookup ("readings" : Str) = some (.ref a) := rfl
structure PAd (K : PySem.W.Frag) (H : Hp) (p : Addr) (g : Prg) (dx a : Addr) (xs : List V) : Prop where
  hp : H p = some (.ins (He.ga K "Program") dx (pfs g.sides g.tables a))
  ha : H a = some (.tup xs)
  td : TDs H xs (g.rs.map dRd)
def PrgAt (K : PySem.W.Frag) (H : Hp) (p : Addr) (g : Prg) : Prop := ∃ dx a xs, PAd K H p g dx a xs
section
variable {K : PySem.W.Frag} {H H' : Hp} {p dx a : Addr} {xs : List V} {g : Prg}
theorem PAd.mono (A : PAd K H p g dx a xs) (s : Same H H') : PAd K H' p g dx a xs := ⟨s _ _ A.hp, s _ _ A.ha, A.td.mono (Tsm.of s)⟩
theorem PrgAt.mono (A : PrgAt K H p g) (s : Same H H') : PrgAt K H' p g := let ⟨dx, a, xs, A⟩ := A; ⟨dx, a, xs, A.mono s⟩
theorem PAd.len (A : PAd K H p g dx a xs) : xs.length = g.rs.length := by rw [A.td.length, List.length_map]
theorem rd_inv {v : V} {r : Rd} (h : TD H v (dRd r)) : ∃ q sa, v = .ref q ∧ H q = some (.tup [.int (r.x : Int), .int (r.y : Int), .ref sa]) ∧ H sa = some (.tup (r.s.map V.int)) := by
  obtain ⟨q, ys, rfl, hq, hs⟩ := h.tup_inv
  cases hs with
  | cons h1 hs =>
    cases hs with
    | cons h2 hs =>
      cases hs with
      | cons h3 hs =>
        cases hs
        obtain ⟨sa, rfl, h4⟩ := h3.ints
        rw [h1.int_inv, h2.int_inv] at hq
        exact ⟨q, sa, rfl, hq, h4⟩
theorem PAd.rd (A : PAd K H p g dx a xs) {i : Nat} {r : Rd} (hr : g.rs[i]? = some r) : ∃ q sa, xs[i]? = some (.ref q) ∧ H q = some (.tup [.int (r.x : Int), .int (r.y : Int), .ref sa]) ∧ H sa = some (.tup (r.s.map V.int)) := by
  obtain ⟨v, hv, ht⟩ := A.td.get (i := i) (d := dRd r) (by rw [List.getElem?_map, hr]; rfl)
  obtain ⟨q, sa, rfl, h1, h2⟩ := rd_inv ht
  exact ⟨q, sa, hv, h1, h2⟩
end
/-- found[i] read by a whole place -/
def rGetN (K : PySem.W.Frag) : R2 := fun x y H Q => ∃ (p : Addr) (xs : List V) (j : Nat) (v : V), x = .ref p ∧ y = .int (j : Int) ∧ SqL K H p xs ∧ xs[j]? = some v ∧ Q v H
theorem get_list {X : Cx} : PGet X (rGetN X.K) := by
  intro pins s σ H o i ov iv Q I ro ri h
  obtain ⟨p, xs, j, v, rfl, rfl, hq, he, q⟩ := h
  cases ro
  obtain ⟨t, rfl⟩ := ri
  obtain ⟨its, r, pl, hz⟩ := I.list hq
  obtain ⟨u, eu, ru⟩ := r.get he
  have hl := r.length
  have hn := line63
  have hj := (List.getElem?_eq_some_iff.mp he).1
  exact wpAny_getItem_list pl.isList (by omega) (by omega) (by simpa using eu) ⟨v, H, I, ru, q⟩
def colI (t : Nat) (r : Rd) : List Int := ((List.range t).map fun k => (if k = r.x then 1 else 0) - (if k = r.y then 1 else 0)) ++ r.s
theorem colI_eq {t : Nat} {r : Rd} (hx : r.x < t) (hy : r.y < t) :
    ((((List.replicate t (0 : Int)).set r.x 1).set r.y (((List.replicate t (0 : Int)).set r.x 1).getD r.y 0 - 1))) = (List.range t).map fun k => (if k = r.x then 1 else 0) - (if k = r.y then 1 else 0) := by
  apply List.ext_getElem?
  intro j
  rw [List.getElem?_set, List.getElem?_set, List.getElem?_replicate, List.getElem?_map, List.getD_eq_getElem?_getD, List.getElem?_set, List.getElem?_replicate]
  by_cases hj : j < t
  · rw [List.getElem?_range hj]
    simp only [List.length_set, List.length_replicate, if_pos hx, if_pos hy, if_pos hj, Option.map_some]
    grind
  · have n1 : (List.range t)[j]? = none := by rw [List.getElem?_eq_none_iff, List.length_range]; omega
    rw [n1, if_neg (by omega), if_neg (by omega), if_neg hj]; rfl
section
variable {P : Program} {w : World} {K : PySem.W.Frag} {mg : Str → Option Value} {base : Heap}
def spColumn (K : PySem.W.Frag) : Sp := fun vs H Q _ => ∃ (p : Addr) (g : Prg) (i : Nat) (r : Rd), vs = [.ref p, .int (i : Int)] ∧ PrgAt K H p g ∧ g.Ok ∧ g.rs[i]? = some r ∧
  ∀ D H', H D = none → Same H H' → H' D = some (.lst ((colI g.tables r).map V.int)) → Q (.ref D) H'
/-! column_of: slots 0 program, 1 number, 2 reader, 3 read, 4 step, 5 found; calls [] -/
abbrev N_column_of : List Str := ["program", "number", "reader", "read", "step", "found"]
theorem sc_column_of : FnScope N_column_of ["program", "number"] (defScope s_column_of) := ⟨rfl, rfl, rfl, by decide +kernel, rfl, by decide +kernel, by decide +kernel⟩
theorem ok_column_of (W : Wd K mg) : Ok P w K mg base 1 "column_of" ["program", "number"] (spColumn K) := by
  have sc := sc_column_of
  refine Ok.mk' W.F_column_of W.g_column_of sc (fun vs H Q E h => ?_) (fun _ _ _ _ _ _ us hl => match us, hl with | [_, _], _ => rfl) (fun cdv A outer s H vs Q E hr h => ?_)
  · obtain ⟨p, g, i, r, rfl, _⟩ := h
    rfl
  · obtain ⟨p, g, i, r, rfl, ⟨dx, a, xs, A⟩, gok, hi, k⟩ := h
    obtain ⟨q, sa, h1, h2, h3⟩ := A.rd hi
    obtain ⟨rx, ry, rl, _⟩ := gok.rd r (List.mem_of_getElem? hi)
    have t8 := gok.t8
    have s4 := gok.s4
    refine ⟨_, (pss_cons (ps_asg (pe_ix (k_ixt K) (k_fld K (pv 0) rfl) (pv 1) (fun _ _ => rfl)) (k_tup K rfl (pgs_cons (pg_name (i := 2) sc.nd rfl (Or.inl rfl)) (pgs_cons (pg_name (i := 3) sc.nd rfl (Or.inl rfl)) (pgs_cons (pg_name (i := 4) sc.nd rfl (Or.inl rfl)) pgs_nil)))))
    (pss_cons (ps_set (i := 5) sc.nd rfl (Or.inl rfl) (pe_op op_rep (pe_lst (pa_cons pe_int pa_nil)) (k_fld K (pv 0) rfl)))
    (pss_cons (ps_augS (pv 5) (pv 2) get_list pe_int ip_add set_list)
    (pss_cons (ps_augS (pv 5) (pv 3) get_list pe_int ip_sub set_list)
    (pss_one (ps_ret (pe_op op_cat (pv 5) (pe_callTy (k_listof K) (by rfl) W.b_list PyProof.Rows.boot_list (pa_cons (pv 4) pa_nil))))))))), ?_⟩
    refine ⟨_, rfl, p, _, _, _, _, rfl, A.hp, W.cl_Program, W.n_Program_readings, pf_readings, ?_⟩
    refine ⟨_, rfl, r_tget A.ha h1 ?_⟩
    refine ⟨q, _, rfl, SqT.of h2, rfl, _, _, rfl, _, _, rfl, _, _, rfl, rfl, ?_⟩
    refine ⟨by show 1 ≤ sizeLine; decide, fun D0 hD0 => ?_⟩
    have s1 : Same H (upd H D0 (.lst [.int 0])) := Same.upd hD0
    have e1 : (upd H D0 (.lst [.int 0])) D0 = some (.lst [.int 0]) := upd_same
    generalize upd H D0 (.lst [.int 0]) = H1 at *
    refine ⟨_, rfl, p, _, _, _, _, rfl, s1 _ _ A.hp, W.cl_Program, W.n_Program_tables, pf_tables, ?_⟩
    refine ⟨D0, _, _, rfl, rfl, e1, by omega, by omega, by rw [sizeLine_eq]; simp; omega, fun F hF => ?_⟩
    have e2 : (List.replicate ((g.tables : Nat) : Int).toNat [V.int 0]).flatten = (List.replicate g.tables (0 : Int)).map V.int := by
      rw [rep_one, List.map_replicate, show ((g.tables : Nat) : Int).toNat = g.tables by omega]
    rw [e2]
    have s2 : Same H (upd H1 F (.lst ((List.replicate g.tables (0 : Int)).map V.int))) := s1.trans (Same.upd hF)
    have f2 : (upd H1 F (.lst ((List.replicate g.tables (0 : Int)).map V.int))) F = some (.lst ((List.replicate g.tables (0 : Int)).map V.int)) := upd_same
    have hF0 : H F = none := s1.free hF
    generalize upd H1 F (.lst ((List.replicate g.tables (0 : Int)).map V.int)) = H2 at *
    -- found[reader] += 1
    refine ⟨_, rfl, _, rfl, F, _, r.x, .int 0, rfl, rfl, SqL.of f2, by rw [List.getElem?_map, List.getElem?_replicate, if_pos rx]; rfl, ?_⟩
    refine ⟨_, _, rfl, rfl, F, _, _, r.x, rfl, rfl, f2, ?_, ?_⟩
    · rw [List.length_map, List.length_replicate]; unfold ixN; rw [if_pos (by omega), if_pos (by omega)]; congr 1
    have e3 : ((List.replicate g.tables (0 : Int)).map V.int).set r.x (.int (0 + 1)) = ((List.replicate g.tables (0 : Int)).set r.x 1).map V.int := by rw [List.map_set]; rfl
    rw [e3]
    have s3 : Same H (upd H2 F (.lst (((List.replicate g.tables (0 : Int)).set r.x 1).map V.int))) := fun b o e => by rw [upd_ne (ne_of_none e hF0)]; exact s2 b o e
    have f3 : (upd H2 F (.lst (((List.replicate g.tables (0 : Int)).set r.x 1).map V.int))) F = some (.lst (((List.replicate g.tables (0 : Int)).set r.x 1).map V.int)) := upd_same
    generalize upd H2 F (.lst (((List.replicate g.tables (0 : Int)).set r.x 1).map V.int)) = H3 at *
    -- found[read] -= 1
    have gy : ((List.replicate g.tables (0 : Int)).set r.x 1)[r.y]? = some (((List.replicate g.tables (0 : Int)).set r.x 1).getD r.y 0) := by
      rw [List.getD_eq_getElem?_getD, List.getElem?_eq_getElem (by simp; exact ry)]; rfl
    refine ⟨_, rfl, _, rfl, F, _, r.y, _, rfl, rfl, SqL.of f3, by rw [List.getElem?_map, gy]; rfl, ?_⟩
    refine ⟨_, _, rfl, rfl, F, _, _, r.y, rfl, rfl, f3, ?_, ?_⟩
    · rw [List.length_map, List.length_set, List.length_replicate]; unfold ixN; rw [if_pos (by omega), if_pos (by omega)]; congr 1
    have e4 : (((List.replicate g.tables (0 : Int)).set r.x 1).map V.int).set r.y (.int (((List.replicate g.tables (0 : Int)).set r.x 1).getD r.y 0 - 1)) = ((List.range g.tables).map fun k => (if k = r.x then (1 : Int) else 0) - (if k = r.y then 1 else 0)).map V.int := by
      rw [← colI_eq rx ry]; simp only [List.map_set]
    rw [e4]
    have s4' : Same H (upd H3 F (.lst (((List.range g.tables).map fun k => (if k = r.x then (1 : Int) else 0) - (if k = r.y then 1 else 0)).map V.int))) := fun b o e => by rw [upd_ne (ne_of_none e hF0)]; exact s3 b o e
    have f4 : (upd H3 F (.lst (((List.range g.tables).map fun k => (if k = r.x then (1 : Int) else 0) - (if k = r.y then 1 else 0)).map V.int))) F = _ := upd_same
    generalize upd H3 F (.lst (((List.range g.tables).map fun k => (if k = r.x then (1 : Int) else 0) - (if k = r.y then 1 else 0)).map V.int)) = H4 at *
    refine ⟨_, rfl, _, rfl, sa, _, rfl, .inr (SqT.of (s4' _ _ h3)), fun l hl => ?_⟩
    refine ⟨F, l, _, _, rfl, rfl, by rw [upd_ne (ne_of_none f4 hl)]; exact f4, upd_same, by rw [sizeLine_eq, List.length_map, List.length_map, List.length_map, List.length_range, rl]; omega, fun Z hZ => ?_⟩
    refine k _ _ ((s4'.to_upd hl).free hZ) ((s4'.to_upd hl).to_upd hZ) ?_
    rw [upd_same, ← List.map_append]
    rfl
def unitI (u k : Nat) : List Int := (List.range u).map fun p => if p = k then 1 else 0
def farI (g : Prg) (far : Bool) : List (List Int) := if far then (List.range g.sides).map fun s => unitI (g.tables + g.sides) (g.tables + s) else []
def wS (far : Bool) : Str := if far then "corner" else "boxes"
theorem boxes_ne : ¬ ((("corner" : Str)) = "boxes") := by decide +kernel
def spFar (K : PySem.W.Frag) : Sp := fun vs H Q _ => ∃ (p : Addr) (g : Prg) (far : Bool), vs = [.ref p, .str (wS far)] ∧ PrgAt K H p g ∧ g.Ok ∧
  ∀ D H', Same H H' → LL H' D (farI g far) → Q (.ref D) H'
/-! far_columns: slots 0 program, 1 world, 2 unit, 3 place, 4 side; calls [] -/
abbrev N_far_columns : List Str := ["program", "world", "unit", "place", "side"]
theorem sc_far_columns : FnScope N_far_columns ["program", "world"] (defScope s_far_columns) := ⟨rfl, rfl, rfl, by decide +kernel, rfl, by decide +kernel, by decide +kernel⟩
theorem ok_far_columns (W : Wd K mg) : Ok P w K mg base 1 "far_columns" ["program", "world"] (spFar K) := by
  have sc := sc_far_columns
  refine Ok.mk' W.F_far_columns W.g_far_columns sc (fun vs H Q E h => ?_) (fun _ _ _ _ _ _ us hl => match us, hl with | [_, _], _ => rfl) (fun cdv A outer s H vs Q E hr h => ?_)
  · obtain ⟨p, g, far, rfl, _⟩ := h
    rfl
  · obtain ⟨p, g, far, rfl, ⟨dx, a, xs, A⟩, gok, k⟩ := h
    have t8 := gok.t8
    have s4 := gok.s4
    refine ⟨_, (pss_cons (ps_if (pt_cmpR op_eq (pv 1) pe_str (nomark _))
      (pss_one (ps_ret (pe_lst pa_nil)))
      pss_nil)
    (pss_cons (ps_set (i := 2) sc.nd rfl (Or.inr rfl) (pe_op op_add (k_fld K (pv 0) rfl) (k_fld K (pv 0) rfl)))
    (pss_one (ps_ret (pe_lc (own := [("side", 4)]) (g := gName 4) rfl sc.nd (pi_range1 (by rfl) W.b_range (pa_cons (k_fld K (pv 0) rfl) pa_nil)) (blkOk_by (N := N_far_columns) (sc := defScope s_far_columns) (by decide +kernel))  (fun _ _ _ _ _ => (pg_name (i := 4) sc.nd rfl (Or.inr rfl))) (fun _ _ _ _ _ => pts_nil) (fun _ _ _ _ _ => (pe_lc (own := [("place", 3)]) (g := gName 3) rfl sc.nd (pi_range1 (by rfl) W.b_range (pa_cons (pv 2) pa_nil)) (blkOk_by (by rfl))  (fun _ _ _ _ _ => (pg_name (i := 3) sc.nd rfl (Or.inl rfl))) (fun _ _ _ _ _ => pts_nil) (fun _ _ _ _ _ => (pe_callTy call_int1 (by rfl) W.b_int PyProof.Rows.boot_int (pa_cons (pe_cmpR op_eq (pv 3) (pe_op op_add (k_fld K (pv 0) rfl) (pv 4)) (nomark _)) pa_nil)))))))))), ?_⟩
    refine ⟨_, rfl, rfl, _, rfl, ?_⟩
    cases far with
    | false =>
      refine iteT ⟨Nat.zero_le _, fun D hD => ?_⟩
      exact k _ _ (Same.upd hD) ⟨[], upd_same, rfl, fun i b l e => by simp at e⟩
    | true =>
      refine ite2 (fun hc => absurd (V.str.inj (of_decide_eq_true hc)) boxes_ne) (fun _ => ?_)
      refine ⟨_, rfl, p, _, _, _, _, rfl, A.hp, W.cl_Program, W.n_Program_tables, pf_tables, ?_⟩
      refine ⟨_, rfl, p, _, _, _, _, rfl, A.hp, W.cl_Program, W.n_Program_sides, pf_sides, ?_⟩
      refine ⟨_, _, rfl, rfl, ?_⟩
      refine ⟨_, rfl, p, _, _, _, _, rfl, A.hp, W.cl_Program, W.n_Program_sides, pf_sides, ?_⟩
      refine ⟨_, rfl, by omega, by omega, fun D hD => ?_⟩
      refine lc_rangeG (lo := 0) (n := ((g.sides : Nat) : Int).toNat) (fun j v H' => ∃ b, v = .ref b ∧ b ≠ D ∧ H' b = some (.lst ((unitI (g.tables + g.sides) (g.tables + j)).map V.int))) hD (by omega)
        (fun j v H1 H2 x ⟨b, e1, e2, e3⟩ => ⟨b, e1, e2, x _ _ e2 e3⟩) (fun j H1 acc Qy hj s1 hA z => ⟨rfl, ?_⟩) (fun H1 ys s1 hA hl hy => ?_)
      · refine ⟨_, rfl, _, rfl, by omega, by omega, fun D2 hD2 => ?_⟩
        refine lc_rangeG (lo := 0) (n := (((g.tables : Nat) : Int) + ((g.sides : Nat) : Int)).toNat) (fun i v _ => v = .int (if i = g.tables + j then 1 else 0)) hD2 (by omega) (fun _ _ _ _ _ h => h) (fun i H2 acc2 Qy2 hi s2 hA2 z2 => ⟨rfl, ?_⟩) (fun H2 ys s2 hA2 hl2 hy => ?_)
        · refine ⟨_, rfl, _, rfl, p, _, _, _, _, rfl, s2 _ _ (s1 _ _ A.hp), W.cl_Program, W.n_Program_tables, pf_tables, ?_⟩
          refine ⟨_, rfl, _, _, rfl, rfl, rfl, .inr ⟨_, rfl, z2 _ _ Xt.refl hA2 ?_⟩⟩
          by_cases e : i = g.tables + j
          · rw [decide_eq_true (by congr 1; omega), if_pos e]; rfl
          · rw [decide_eq_false (by intro h; injection h with h; omega), if_neg e]; rfl
        · have e : ys = (unitI (g.tables + g.sides) (g.tables + j)).map V.int := by
            unfold unitI
            rw [List.map_map]
            refine eq_map (by rw [hl2, List.length_range]; omega) fun i y e => ⟨i, ?_, hy i y e⟩
            have := (List.getElem?_eq_some_iff.mp e).1
            rw [List.getElem?_range (by omega)]
          rw [e] at hA2
          exact z _ _ (Xt.of s2) (s2 _ _ hA) ⟨D2, rfl, (ne_of_none hA hD2).symm, hA2⟩
      · -- the addresses
        have e : ∃ as : List Addr, ys = as.map V.ref := by
          refine ⟨ys.map fun v => match v with | .ref b => b | _ => 0, ?_⟩
          rw [List.map_map]
          apply List.ext_getElem?
          intro j
          rw [List.getElem?_map]
          cases q : ys[j]? with
          | none => rfl
          | some y =>
            obtain ⟨b, rfl, _⟩ := hy j y q
            rfl
        obtain ⟨as, rfl⟩ := e
        rw [List.length_map] at hl
        refine k _ _ s1 ⟨as, hA, ?_, fun i b l e1 e2 => ?_⟩
        · show as.length = ((List.range g.sides).map _).length
          rw [List.length_map, List.length_range]; omega
        · have e2 : ((List.range g.sides).map fun s => unitI (g.tables + g.sides) (g.tables + s))[i]? = some l := e2
          have hi := (List.getElem?_eq_some_iff.mp e1).1
          rw [List.getElem?_map, List.getElem?_range (by omega)] at e2
          cases e2
          obtain ⟨b', e3, _, e4⟩ := hy i (.ref b) (by rw [List.getElem?_map, e1]; rfl)
          cases e3
          exact e4
end
end TN
set_option Elab.async false
set_option linter.all false
set_option maxRecDepth 100000
set_option maxHeartbeats 4000000
/-! W12: the task of a lot. -/
namespace TN
open PySem PySem.Spec PyProof.Rows L2
/-- lists of lists at R, of which all inner ones are others than R -/
def LN (H : Hp) (R : Addr) (ls : List (List Int)) : Prop := ∃ as : List Addr, H R = some (.lst (as.map V.ref)) ∧ as.length = ls.length ∧ ∀ (i : Nat) (b : Addr) (l : List Int), as[i]? = some b → ls[i]? = some l → H b = some (.lst (l.map V.int)) ∧ b ≠ R
theorem LN.ll {H : Hp} {R : Addr} {ls : List (List Int)} (h : LN H R ls) : LL H R ls := let ⟨as, h1, h2, h3⟩ := h; ⟨as, h1, h2, fun i b l e1 e2 => (h3 i b l e1 e2).1⟩
theorem LN.app {H : Hp} {R D : Addr} {ls : List (List Int)} {l : List Int} {as : List Addr} (h1 : H R = some (.lst (as.map V.ref))) (h2 : as.length = ls.length) (h3 : ∀ (i : Nat) (b : Addr) (l : List Int), as[i]? = some b → ls[i]? = some l → H b = some (.lst (l.map V.int)) ∧ b ≠ R)
    (hD : H D = some (.lst (l.map V.int))) (n : D ≠ R) : LN (upd H R (.lst (as.map V.ref ++ [.ref D]))) R (ls ++ [l]) := by
  refine ⟨as ++ [D], by rw [upd_same, List.map_append]; rfl, by simp [h2], fun i b l' e1 e2 => ?_⟩
  by_cases q : i < as.length
  · rw [List.getElem?_append_left q] at e1
    rw [List.getElem?_append_left (by omega)] at e2
    obtain ⟨g1, g2⟩ := h3 i b l' e1 e2
    exact ⟨by rw [upd_ne g2]; exact g1, g2⟩
  · rw [List.getElem?_append_right (by omega)] at e1 e2
    have q2 : i - as.length = 0 := by
      have := (List.getElem?_eq_some_iff.mp e1).1
      simp at this
      omega
    rw [q2] at e1
    rw [← h2, q2] at e2
    cases e1
    cases e2
    exact ⟨by rw [upd_ne n]; exact hD, n⟩
/-! ### the task -/
def tRowA (g : Prg) (rds : List Rd) (far : Bool) (k : Nat) : List Int :=
  (((rds.map fun r => (colI g.tables r).getD k 0) ++ rds.map fun r => (colI g.tables r).getD k 0) ++ List.replicate rds.length 0) ++ (farI g far).map fun c => c.getD k 0
def tRowB (g : Prg) (rds : List Rd) (far : Bool) (a : Nat) : List Int := ((unitL rds.length a ++ List.replicate rds.length 0) ++ unitL rds.length a) ++ List.replicate (farI g far).length 0
def tRows (g : Prg) (rds : List Rd) (far : Bool) : List (List Int) := (List.range (g.tables + g.sides)).map (tRowA g rds far) ++ (List.range rds.length).map (tRowB g rds far)
def tAm (g : Prg) (rds : List Rd) : List Int := List.replicate (g.tables + g.sides) 0 ++ List.replicate rds.length 1
def tWo (g : Prg) (rds : List Rd) (far : Bool) : List Int := List.replicate rds.length 1 ++ List.replicate (2 * rds.length + (farI g far).length) 0
theorem farI_len (g : Prg) (far : Bool) : (farI g far).length ≤ g.sides := by
  unfold farI; split <;> simp
/-- the readings of a lot -/
def LotOf (g : Prg) (lot : List Nat) (rds : List Rd) : Prop := rds.length = lot.length ∧ ∀ (i n : Nat), lot[i]? = some n → ∃ r, g.rs[n]? = some r ∧ rds[i]? = some r
abbrev nI (ns : List Nat) : List Int := ns.map fun (n : Nat) => (n : Int)
theorem nats_at {ns : List Nat} {i : Nat} {x : V} (hx : ((nI ns).map V.int)[i]? = some x) : ∃ v, ns[i]? = some v ∧ x = V.int (v : Int) := by
  obtain ⟨z, hz, rfl⟩ := ints_at hx
  rw [List.getElem?_map] at hz
  cases e : ns[i]? with
  | none => rw [e] at hz; cases hz
  | some v => rw [e] at hz; cases hz; exact ⟨v, rfl, rfl⟩
theorem refs_of {ys : List V} (h : ∀ (j : Nat) (y : V), ys[j]? = some y → ∃ b, y = V.ref b) : ∃ as : List Addr, ys = as.map V.ref := by
  refine ⟨ys.map fun v => match v with | .ref b => b | _ => 0, ?_⟩
  rw [List.map_map]
  apply List.ext_getElem?
  intro j
  rw [List.getElem?_map]
  cases q : ys[j]? with
  | none => rfl
  | some y =>
    obtain ⟨b, rfl⟩ := h j y q
    rfl
section
variable {P : Program} {w : World} {K : PySem.W.Frag} {mg : Str → Option Value} {base : Heap}
/-- a list of one place of each list -/
def spTask (K : PySem.W.Frag) : Sp := fun vs H Q _ => ∃ (p : Addr) (v : V) (g : Prg) (far : Bool) (lot : List Nat) (rds : List Rd), vs = [.ref p, v, .str (wS far)] ∧ PrgAt K H p g ∧ g.Ok ∧ TD H v (dI (nI lot)) ∧ lot.length ≤ 24 ∧ LotOf g lot rds ∧
  ∀ Z H' aR aA aW, Same H H' → H' Z = some (.tup [.ref aR, .ref aA, .ref aW]) → LL H' aR (tRows g rds far) → H' aA = some (.lst ((tAm g rds).map V.int)) → H' aW = some (.lst ((tWo g rds far).map V.int)) → Q (.ref Z) H'
theorem colI_len {t : Nat} {r : Rd} : (colI t r).length = t + r.s.length := by unfold colI; simp
/-! task_of: slots 0 program, 1 lot, 2 world, 3 columns, 4 number, 5 far, 6 many, 7 rows, 8 place, 9 line, 10 column, 11 at, 12 unit, 13 other, 14 amounts, 15 worths; calls ['G_column_of', 'G_far_columns'] -/
abbrev N_task_of : List Str := ["program", "lot", "world", "columns", "number", "far", "many", "rows", "place", "line", "column", "at", "unit", "other", "amounts", "worths"]
theorem sc_task_of : FnScope N_task_of ["program", "lot", "world"] (defScope s_task_of) := ⟨rfl, rfl, rfl, by decide +kernel, rfl, by decide +kernel, by decide +kernel⟩
theorem ok_task_of (W : Wd K mg) : Ok P w K mg base 2 "task_of" ["program", "lot", "world"] (spTask K) := by
  have sc := sc_task_of
  have G_column_of : Ok P w K mg base 1 "column_of" ["program", "number"] (spColumn K) := ok_column_of W
  have G_far_columns : Ok P w K mg base 1 "far_columns" ["program", "world"] (spFar K) := ok_far_columns W
  refine Ok.mk' W.F_task_of W.g_task_of sc (fun vs H Q E h => ?_) (fun _ _ _ _ _ _ us hl => match us, hl with | [_, _, _], _ => rfl) (fun cdv A outer s H vs Q E hr h => ?_)
  · obtain ⟨p, v, g, far, lot, rds, rfl, _⟩ := h
    rfl
  · obtain ⟨p, v, g, far, lot, rds, rfl, PA, gok, hlot, ln, ⟨lo1, lo2⟩, k⟩ := h
    obtain ⟨al, rfl, hal⟩ := hlot.ints
    have t8 := gok.t8
    have s4 := gok.s4
    have fl := farI_len g far
    refine ⟨_, (pss_cons (ps_setLc (i := 3) (own := [("number", 4)]) (g := gName 4) rfl sc.nd rfl rfl (sw_true rfl rfl rfl (by decide +kernel)) (k_pit K (pv 1)) (blkOk_by (N := N_task_of) (sc := defScope s_task_of) (by decide +kernel))  (fun _ _ _ _ _ => (pg_name (i := 4) sc.nd rfl (Or.inl rfl))) (fun _ _ _ _ _ => pts_nil) (fun _ _ _ _ _ => (pe_c G_column_of (hr.mono (by decide)) (by rfl) (pa_cons (pv 0) (pa_cons (pv 4) pa_nil)))))
    (pss_cons (ps_set (i := 5) sc.nd rfl (Or.inl rfl) (pe_c G_far_columns (hr.mono (by decide)) (by rfl) (pa_cons (pv 0) (pa_cons (pv 2) pa_nil))))
    (pss_cons (ps_set (i := 6) sc.nd rfl (Or.inl rfl) (pe_callB (k_len K) (by rfl) W.b_len PySem.boot_len (pa_cons (pv 1) pa_nil)))
    (pss_cons (ps_set (i := 7) sc.nd rfl (Or.inl rfl) (pe_lst pa_nil))
    (pss_cons (ps_for PassesOwn.never rfl (pi_range1 (by rfl) W.b_range (pa_cons (pe_op op_add (k_fld K (pv 0) rfl) (k_fld K (pv 0) rfl)) pa_nil)) (pg_name (i := 8) sc.nd rfl (Or.inr rfl))
      (pss_cons (ps_setLc (i := 9) (own := [("column", 10)]) (g := gName 10) rfl sc.nd rfl rfl (sw_true rfl rfl rfl (by decide +kernel)) (k_pil K (pv 3)) (blkOk_by (N := N_task_of) (sc := defScope s_task_of) (by decide +kernel))  (fun _ _ _ _ _ => (pg_name (i := 10) sc.nd rfl (Or.inl rfl))) (fun _ _ _ _ _ => pts_nil) (fun _ _ _ _ _ => (pe_ix (k_ixl K) (pv 10) (pv 8) (fun _ _ => rfl))))
      (pss_one (ps_expr (k_bm K PySem.F.plainAttrs_list PySem.F.slot_list_append PySem.F.type_list_append mt_append (pv 7) (pa_cons (pe_op op_cat (pe_op op_cat (pe_op op_cat (pv 9) (pv 9)) (pe_op op_rep (pe_lst (pa_cons pe_int pa_nil)) (pv 6))) (pe_lc (own := [("column", 10)]) (g := gName 10) rfl sc.nd (k_pil K (pv 5)) (blkOk_by (N := N_task_of) (sc := defScope s_task_of) (by decide +kernel))  (fun _ _ _ _ _ => (pg_name (i := 10) sc.nd rfl (Or.inl rfl))) (fun _ _ _ _ _ => pts_nil) (fun _ _ _ _ _ => (pe_ix (k_ixl K) (pv 10) (pv 8) (fun _ _ => rfl))))) pa_nil))))))
    (pss_cons (ps_for PassesOwn.never rfl (pi_range1 (by rfl) W.b_range (pa_cons (pv 6) pa_nil)) (pg_name (i := 11) sc.nd rfl (Or.inr rfl))
      (pss_cons (ps_setLc (i := 12) (own := [("other", 13)]) (g := gName 13) rfl sc.nd rfl rfl (sw_true rfl rfl rfl (by decide +kernel)) (pi_range1 (by rfl) W.b_range (pa_cons (pv 6) pa_nil)) (blkOk_by (N := N_task_of) (sc := defScope s_task_of) (by decide +kernel))  (fun _ _ _ _ _ => (pg_name (i := 13) sc.nd rfl (Or.inl rfl))) (fun _ _ _ _ _ => pts_nil) (fun _ _ _ _ _ => (pe_callTy call_int1 (by rfl) W.b_int PyProof.Rows.boot_int (pa_cons (pe_cmpR op_eq (pv 11) (pv 13) (nomark _)) pa_nil))))
      (pss_one (ps_expr (k_bm K PySem.F.plainAttrs_list PySem.F.slot_list_append PySem.F.type_list_append mt_append (pv 7) (pa_cons (pe_op op_cat (pe_op op_cat (pe_op op_cat (pv 12) (pe_op op_rep (pe_lst (pa_cons pe_int pa_nil)) (pv 6))) (pv 12)) (pe_op op_rep (pe_lst (pa_cons pe_int pa_nil)) (pe_callB (k_len K) (by rfl) W.b_len PySem.boot_len (pa_cons (pv 5) pa_nil)))) pa_nil))))))
    (pss_cons (ps_set (i := 14) sc.nd rfl (Or.inl rfl) (pe_op op_cat (pe_op op_rep (pe_lst (pa_cons pe_int pa_nil)) (pe_op op_add (k_fld K (pv 0) rfl) (k_fld K (pv 0) rfl))) (pe_op op_rep (pe_lst (pa_cons pe_int pa_nil)) (pv 6))))
    (pss_cons (ps_set (i := 15) sc.nd rfl (Or.inl rfl) (pe_op op_cat (pe_op op_rep (pe_lst (pa_cons pe_int pa_nil)) (pv 6)) (pe_op op_rep (pe_lst (pa_cons pe_int pa_nil)) (pe_op op_add (pe_op op_mulW pe_int (pv 6)) (pe_callB (k_len K) (by rfl) W.b_len PySem.boot_len (pa_cons (pv 5) pa_nil))))))
    (pss_one (ps_ret (pe_tup (pa_cons (pv 7) (pa_cons (pv 14) (pa_cons (pv 15) pa_nil)))))))))))))), ?_⟩
    -- columns
    refine ⟨_, rfl, al, rfl, ⟨_, SqT.of hal⟩, fun C hC0 => ?_⟩
    refine lc_tupG (fun j v H' => ∃ b r, v = .ref b ∧ b ≠ C ∧ rds[j]? = some r ∧ H' b = some (.lst ((colI g.tables r).map V.int))) (SqT.of hal) hC0 (by rw [List.length_map, List.length_map]; omega)
      (fun j v H1 H2 x ⟨b, r, e1, e2, e3, e4⟩ => ⟨b, r, e1, e2, e3, x _ _ e2 e4⟩) (fun j x H1 acc Qy hx s1 hA z => ⟨rfl, ?_⟩) (fun H1 ys s1 hC hl hy => ?_)
    · obtain ⟨n, hn, rfl⟩ := nats_at hx
      obtain ⟨r, hr1, hr2⟩ := lo2 j n hn
      refine ⟨_, rfl, _, rfl, p, g, n, r, rfl, PA.mono s1, gok, hr1, fun D H2 hD0 s2 hD => ?_⟩
      exact z _ _ (Xt.of s2) (s2 _ _ hA) ⟨D, r, rfl, (ne_of_none hA hD0).symm, hr2, hD⟩
    obtain ⟨cas, rfl⟩ := refs_of fun j y e => let ⟨b, r, e1, _⟩ := hy j y e; ⟨b, e1⟩
    have lcas : cas.length = rds.length := by rw [List.length_map, List.length_map, List.length_map] at hl; omega
    have hcas : ∀ (j : Nat) (b : Addr) (r : Rd), cas[j]? = some b → rds[j]? = some r → H1 b = some (.lst ((colI g.tables r).map V.int)) := fun j b r e1 e2 => by
      obtain ⟨b', r', e3, _, e4, e5⟩ := hy j (.ref b) (by rw [List.getElem?_map, e1]; rfl)
      cases e3
      rw [e2] at e4
      cases e4
      exact e5
    have rlen : ∀ (j : Nat) (r : Rd), rds[j]? = some r → (colI g.tables r).length = g.tables + g.sides := fun j r e => by
      have hj := (List.getElem?_eq_some_iff.mp e).1
      obtain ⟨r', h1, h2⟩ := lo2 j (lot[j]'(by omega)) (List.getElem?_eq_getElem _)
      rw [e] at h2
      cases h2
      rw [colI_len, (gok.rd r (List.mem_of_getElem? h1)).2.2.1]
    -- far
    refine ⟨_, rfl, _, rfl, p, g, far, rfl, PA.mono s1, gok, fun F H2 s2 hF => ?_⟩
    obtain ⟨fas, hF1, hF2, hF3⟩ := hF
    -- many, rows
    refine ⟨_, rfl, al, _, rfl, .inr (SqT.of (s2 _ _ (s1 _ _ hal))), ?_⟩
    have e1 : ((((nI lot).map V.int).length : Nat) : Int) = ((rds.length : Nat) : Int) := by rw [List.length_map, List.length_map, lo1]
    rw [e1]
    refine ⟨Nat.zero_le _, fun R hR0 => ?_⟩
    have s12 := s1.trans s2
    have PA2 := PA.mono s12
    have hC2 := s2 _ _ hC
    have hR3 : (upd H2 R (.lst [])) R = some (.lst []) := upd_same
    have s3 : Same H2 (upd H2 R (.lst [])) := Same.upd hR0
    generalize upd H2 R (.lst []) = H3 at *
    obtain ⟨dx, a, xs, A⟩ := PA2
    have A3 := A.mono s3
    refine ⟨_, rfl, p, _, _, _, _, rfl, A3.hp, W.cl_Program, W.n_Program_tables, pf_tables, ?_⟩
    refine ⟨_, rfl, p, _, _, _, _, rfl, A3.hp, W.cl_Program, W.n_Program_sides, pf_sides, ?_⟩
    refine ⟨_, _, rfl, rfl, _, rfl, by omega, by omega, ?_⟩
    refine for_range (lo := 0) (n := (((g.tables : Nat) : Int) + ((g.sides : Nat) : Int)).toNat) (fun i σ H' => ∃ (v4 v8 v9 v10 v11 v12 v13 v14 v15 : Option V), σ = [some (.ref p), some (.ref al), some (.str (wS far)), some (.ref C), v4, some (.ref F), some (.int ((rds.length : Nat) : Int)), some (.ref R), v8, v9, v10, v11, v12, v13, v14, v15] ∧
        Same H2 H' ∧ LN H' R ((List.range i).map (tRowA g rds far)))
      ⟨_, _, _, _, _, _, _, _, _, rfl, s3, [], hR3, rfl, fun i b l e => by simp at e⟩ ?_ ?_
    · rintro i σ H4 hi ⟨v4, v8, v9, v10, v11, v12, v13, v14, v15, rfl, s4_, as, hR4, las, has⟩
      have hi' : i < g.tables + g.sides := by omega
      rw [List.length_map, List.length_range] at las
      have hC4 := s4_ _ _ hC2
      have hF4 := s4_ _ _ hF1
      -- line
      refine ⟨_, rfl, C, rfl, ⟨_, SqL.of hC4⟩, fun D hD0 => ?_⟩
      refine lc_listG (fun j v _ => ∃ r, rds[j]? = some r ∧ v = .int ((colI g.tables r).getD i 0)) (SqL.of hC4) hD0 (by rw [List.length_map]; omega) (fun _ _ _ _ _ h => h) (fun j x H5 acc Qy hx s5 hA z => ⟨rfl, ?_⟩) (fun H5 ys s5 hD hl2 hy2 => ?_)
      · obtain ⟨b, hb, rfl⟩ : ∃ b, cas[j]? = some b ∧ x = V.ref b := by
          rw [List.getElem?_map] at hx
          cases e : cas[j]? with
          | none => rw [e] at hx; cases hx
          | some b => rw [e] at hx; exact ⟨b, rfl, (Option.some.inj hx).symm⟩
        have hj : j < rds.length := by rw [← lcas]; exact (List.getElem?_eq_some_iff.mp hb).1
        have hrj : rds[j]? = some rds[j] := List.getElem?_eq_getElem hj
        have hbH := s5 _ _ (s4_ _ _ (s2 _ _ (hcas j b _ hb hrj)))
        refine ⟨_, rfl, _, rfl, r_lgetI (j := i) (v := .int ((colI g.tables rds[j]).getD i 0)) hbH (by omega) ?_ (z _ _ Xt.refl hA ⟨_, hrj, rfl⟩)⟩
        rw [List.getElem?_map, List.getD_eq_getElem?_getD, List.getElem?_eq_getElem (by rw [rlen j _ hrj]; exact hi')]; rfl
      have el : ys = (rds.map fun r => (colI g.tables r).getD i 0).map V.int := by
        rw [List.map_map]
        exact eq_map (by rw [hl2, List.length_map, lcas]) fun j y e => by
          obtain ⟨r, h1, h2⟩ := hy2 j y e
          exact ⟨r, h1, h2⟩
      rw [el] at hD
      -- rows.append(line + line + [0] * many + [..])
      have hR5 := s5 _ _ hR4
      refine ⟨_, rfl, .inl ⟨rfl, _, SqL.of hR5⟩, ?_⟩
      refine ⟨_, rfl, _, rfl, D, D, _, _, rfl, rfl, hD, hD, by rw [sizeLine_eq]; simp; omega, fun D6 hD6 => ?_⟩
      rw [← List.map_append]
      have s6 : Same H5 (upd H5 D6 (.lst (((rds.map fun r => (colI g.tables r).getD i 0) ++ rds.map fun r => (colI g.tables r).getD i 0).map V.int))) := Same.upd hD6
      have h6 : (upd H5 D6 (.lst (((rds.map fun r => (colI g.tables r).getD i 0) ++ rds.map fun r => (colI g.tables r).getD i 0).map V.int))) D6 = some (.lst (((rds.map fun r => (colI g.tables r).getD i 0) ++ rds.map fun r => (colI g.tables r).getD i 0).map V.int)) := upd_same
      generalize upd H5 D6 (.lst (((rds.map fun r => (colI g.tables r).getD i 0) ++ rds.map fun r => (colI g.tables r).getD i 0).map V.int)) = H6 at *
      refine ⟨by show 1 ≤ sizeLine; decide, fun D7 hD7 => ?_⟩
      have s7 : Same H6 (upd H6 D7 (.lst [.int 0])) := Same.upd hD7
      have h7 : (upd H6 D7 (.lst [.int 0])) D7 = some (.lst [.int 0]) := upd_same
      generalize upd H6 D7 (.lst [.int 0]) = H7 at *
      refine ⟨_, rfl, D7, _, _, rfl, rfl, h7, by omega, by omega, by rw [sizeLine_eq]; simp; omega, fun D8 hD8 => ?_⟩
      rw [rep_one, show ((rds.length : Nat) : Int).toNat = rds.length by omega]
      have s8 : Same H7 (upd H7 D8 (.lst (List.replicate rds.length (.int 0)))) := Same.upd hD8
      have h8 : (upd H7 D8 (.lst (List.replicate rds.length (.int 0)))) D8 = some (.lst ((List.replicate rds.length (0 : Int)).map V.int)) := by rw [upd_same, List.map_replicate]
      generalize upd H7 D8 (.lst (List.replicate rds.length (.int 0))) = H8 at *
      refine ⟨D6, D8, _, _, rfl, rfl, s8 _ _ (s7 _ _ h6), h8, by rw [sizeLine_eq]; simp; omega, fun D9 hD9 => ?_⟩
      rw [← List.map_append]
      obtain ⟨l9, el9⟩ : ∃ l9, ((rds.map fun r => (colI g.tables r).getD i 0) ++ rds.map fun r => (colI g.tables r).getD i 0) ++ List.replicate rds.length (0 : Int) = l9 := ⟨_, rfl⟩
      rw [el9]
      have s9 : Same H8 (upd H8 D9 (.lst (l9.map V.int))) := Same.upd hD9
      have h9 : (upd H8 D9 (.lst (l9.map V.int))) D9 = some (.lst (l9.map V.int)) := upd_same
      have sA := (((s5.trans s6).trans s7).trans s8).trans s9
      generalize upd H8 D9 (.lst (l9.map V.int)) = H9 at *
      have hF9 := sA _ _ hF4
      refine ⟨_, rfl, F, rfl, ⟨_, SqL.of hF9⟩, fun D10 hD10 => ?_⟩
      refine lc_listG (fun j v _ => ∃ c, (farI g far)[j]? = some c ∧ v = .int (c.getD i 0)) (SqL.of hF9) hD10 (by rw [List.length_map, hF2]; omega) (fun _ _ _ _ _ h => h) (fun j x H10 acc Qy hx s10 hA z => ⟨rfl, ?_⟩) (fun H10 ys s10 h10 hl3 hy3 => ?_)
      · obtain ⟨b, hb, rfl⟩ : ∃ b, fas[j]? = some b ∧ x = V.ref b := by
          rw [List.getElem?_map] at hx
          cases e : fas[j]? with
          | none => rw [e] at hx; cases hx
          | some b => rw [e] at hx; exact ⟨b, rfl, (Option.some.inj hx).symm⟩
        have hj : j < (farI g far).length := by rw [← hF2]; exact (List.getElem?_eq_some_iff.mp hb).1
        have hcj : (farI g far)[j]? = some (farI g far)[j] := List.getElem?_eq_getElem hj
        have hbH := s10 _ _ (sA _ _ (s4_ _ _ (hF3 j b _ hb hcj)))
        have lc : ((farI g far)[j]).length = g.tables + g.sides := by
          have hm : (farI g far)[j] ∈ farI g far := List.getElem_mem hj
          generalize (farI g far)[j] = c at hm
          unfold farI at hm
          split at hm
          · obtain ⟨s, _, rfl⟩ := List.mem_map.mp hm
            unfold unitI; simp
          · simp at hm
        refine ⟨_, rfl, _, rfl, r_lgetI (j := i) (v := .int (((farI g far)[j]).getD i 0)) hbH (by omega) ?_ (z _ _ Xt.refl hA ⟨_, hcj, rfl⟩)⟩
        rw [List.getElem?_map, List.getD_eq_getElem?_getD, List.getElem?_eq_getElem (by rw [lc]; exact hi')]; rfl
      have ef : ys = ((farI g far).map fun c => c.getD i 0).map V.int := by
        rw [List.map_map]
        exact eq_map (by rw [hl3, List.length_map, hF2]) fun j y e => by
          obtain ⟨r, h1, h2⟩ := hy3 j y e
          exact ⟨r, h1, h2⟩
      rw [ef] at h10
      refine ⟨D9, D10, _, _, rfl, rfl, s10 _ _ h9, h10, by rw [← el9, sizeLine_eq]; simp; omega, fun D11 hD11 => ?_⟩
      have eA : l9 ++ ((farI g far).map fun c => c.getD i 0) = tRowA g rds far i := by rw [← el9]; rfl
      rw [← List.map_append, eA]
      have s11 : Same H10 (upd H10 D11 (.lst ((tRowA g rds far i).map V.int))) := Same.upd hD11
      have hR10 := s10 _ _ (sA _ _ hR4)
      have nR : D11 ≠ R := (ne_of_none hR10 hD11).symm
      have h11 : (upd H10 D11 (.lst ((tRowA g rds far i).map V.int))) D11 = some (.lst ((tRowA g rds far i).map V.int)) := upd_same
      have sB := (sA.trans s10).trans s11
      generalize upd H10 D11 (.lst ((tRowA g rds far i).map V.int)) = H11 at *
      refine ⟨R, _, _, rfl, rfl, sB _ _ hR4, by rw [List.length_map, sizeLine_eq]; omega, ?_⟩
      have gR : H2 R = none := hR0
      refine ⟨_, _, _, _, _, _, _, _, _, rfl, fun b o e => by rw [upd_ne (ne_of_none e gR)]; exact sB _ _ (s4_ _ _ e), ?_⟩
      rw [List.range_succ, List.map_append]
      exact LN.app (sB _ _ hR4) (by simp [las]) (fun j b l e1 e2 => ⟨sB _ _ (has j b l e1 e2).1, (has j b l e1 e2).2⟩) h11 nR
    · rintro σ H4 ⟨v4, v8, v9, v10, v11, v12, v13, v14, v15, rfl, s4_, L4⟩
      have en : (((g.tables : Nat) : Int) + ((g.sides : Nat) : Int)).toNat = g.tables + g.sides := by omega
      rw [en] at L4
      refine ⟨_, rfl, _, rfl, by omega, by omega, ?_⟩
      refine for_range (lo := 0) (n := ((rds.length : Nat) : Int).toNat) (fun i σ H' => ∃ (v4 v8 v9 v10 v11 v12 v13 v14 v15 : Option V), σ = [some (.ref p), some (.ref al), some (.str (wS far)), some (.ref C), v4, some (.ref F), some (.int ((rds.length : Nat) : Int)), some (.ref R), v8, v9, v10, v11, v12, v13, v14, v15] ∧
          Same H2 H' ∧ LN H' R ((List.range (g.tables + g.sides)).map (tRowA g rds far) ++ (List.range i).map (tRowB g rds far)))
        ⟨_, _, _, _, _, _, _, _, _, rfl, s4_, by simpa using L4⟩ ?_ ?_
      · rintro i σ H5 hi ⟨v4, v8, v9, v10, v11, v12, v13, v14, v15, rfl, s5_, as, hR5, las, has⟩
        have hi' : i < rds.length := by omega
        rw [List.length_append, List.length_map, List.length_map, List.length_range, List.length_range] at las
        -- unit
        refine ⟨_, rfl, _, rfl, by omega, by omega, fun D hD0 => ?_⟩
        refine lc_rangeG (lo := 0) (n := ((rds.length : Nat) : Int).toNat) (fun j v _ => v = .int (if i = j then 1 else 0)) hD0 (by omega) (fun _ _ _ _ _ h => h) (fun j H1 acc Qy hj s1 hD z => ⟨rfl, ?_⟩) (fun H6 ys s6 hD hl6 hy6 => ?_)
        · refine ⟨_, rfl, _, rfl, rfl, .inr ⟨_, rfl, z _ _ Xt.refl hD ?_⟩⟩
          by_cases e : i = j
          · rw [decide_eq_true (by rw [e, Int.zero_add]), if_pos e]; rfl
          · rw [decide_eq_false (by intro h; injection h with h; omega), if_neg e]; rfl
        have eh : ys = (unitL rds.length i).map V.int := by
          unfold unitL
          rw [List.map_map]
          refine eq_map (by rw [hl6, List.length_range]; omega) fun j y e => ⟨j, ?_, hy6 j y e⟩
          have := (List.getElem?_eq_some_iff.mp e).1
          rw [List.getElem?_range (by omega)]
        rw [eh] at hD
        have ul : (unitL rds.length i).length = rds.length := by unfold unitL; simp
        have hR6 := s6 _ _ hR5
        refine ⟨_, rfl, .inl ⟨rfl, _, SqL.of hR6⟩, ?_⟩
        refine ⟨_, rfl, by show 1 ≤ sizeLine; decide, fun D7 hD7 => ?_⟩
        have s7 : Same H6 (upd H6 D7 (.lst [.int 0])) := Same.upd hD7
        have h7 : (upd H6 D7 (.lst [.int 0])) D7 = some (.lst [.int 0]) := upd_same
        generalize upd H6 D7 (.lst [.int 0]) = H7 at *
        refine ⟨_, rfl, D7, _, _, rfl, rfl, h7, by omega, by omega, by rw [sizeLine_eq]; simp; omega, fun D8 hD8 => ?_⟩
        rw [rep_one, show ((rds.length : Nat) : Int).toNat = rds.length by omega]
        have s8 : Same H7 (upd H7 D8 (.lst (List.replicate rds.length (.int 0)))) := Same.upd hD8
        have h8 : (upd H7 D8 (.lst (List.replicate rds.length (.int 0)))) D8 = some (.lst ((List.replicate rds.length (0 : Int)).map V.int)) := by rw [upd_same, List.map_replicate]
        generalize upd H7 D8 (.lst (List.replicate rds.length (.int 0))) = H8 at *
        have hD8' := s8 _ _ (s7 _ _ hD)
        refine ⟨D, D8, _, _, rfl, rfl, hD8', h8, by rw [sizeLine_eq, List.length_map, List.length_map, ul, List.length_replicate]; omega, fun D9 hD9 => ?_⟩
        rw [← List.map_append]
        have s9 : Same H8 (upd H8 D9 (.lst ((unitL rds.length i ++ List.replicate rds.length (0 : Int)).map V.int))) := Same.upd hD9
        have h9 : (upd H8 D9 (.lst ((unitL rds.length i ++ List.replicate rds.length (0 : Int)).map V.int))) D9 = some (.lst ((unitL rds.length i ++ List.replicate rds.length (0 : Int)).map V.int)) := upd_same
        generalize upd H8 D9 (.lst ((unitL rds.length i ++ List.replicate rds.length (0 : Int)).map V.int)) = H9 at *
        refine ⟨_, rfl, D9, D, _, _, rfl, rfl, h9, s9 _ _ hD8', by rw [sizeLine_eq, List.length_map, List.length_map, List.length_append, ul, List.length_replicate]; omega, fun D10 hD10 => ?_⟩
        rw [← List.map_append]
        have s10 : Same H9 (upd H9 D10 (.lst (((unitL rds.length i ++ List.replicate rds.length (0 : Int)) ++ unitL rds.length i).map V.int))) := Same.upd hD10
        have h10 : (upd H9 D10 (.lst (((unitL rds.length i ++ List.replicate rds.length (0 : Int)) ++ unitL rds.length i).map V.int))) D10 = some (.lst (((unitL rds.length i ++ List.replicate rds.length (0 : Int)) ++ unitL rds.length i).map V.int)) := upd_same
        generalize upd H9 D10 (.lst (((unitL rds.length i ++ List.replicate rds.length (0 : Int)) ++ unitL rds.length i).map V.int)) = H10 at *
        refine ⟨by show 1 ≤ sizeLine; decide, fun D11 hD11 => ?_⟩
        have s11 : Same H10 (upd H10 D11 (.lst [.int 0])) := Same.upd hD11
        have h11 : (upd H10 D11 (.lst [.int 0])) D11 = some (.lst [.int 0]) := upd_same
        generalize upd H10 D11 (.lst [.int 0]) = H11 at *
        have sA := ((((s6.trans s7).trans s8).trans s9).trans s10).trans s11
        refine ⟨_, rfl, F, _, rfl, .inl (SqL.of (sA _ _ (s5_ _ _ hF1))), ?_⟩
        refine ⟨D11, _, _, rfl, rfl, h11, by omega, by rw [List.length_map, hF2]; omega, by rw [sizeLine_eq, List.length_map, hF2]; simp; omega, fun D12 hD12 => ?_⟩
        rw [rep_one, List.length_map, hF2, show (((farI g far).length : Nat) : Int).toNat = (farI g far).length by omega]
        have s12' : Same H11 (upd H11 D12 (.lst (List.replicate (farI g far).length (.int 0)))) := Same.upd hD12
        have h12 : (upd H11 D12 (.lst (List.replicate (farI g far).length (.int 0)))) D12 = some (.lst ((List.replicate (farI g far).length (0 : Int)).map V.int)) := by rw [upd_same, List.map_replicate]
        generalize upd H11 D12 (.lst (List.replicate (farI g far).length (.int 0))) = H12 at *
        refine ⟨D10, D12, _, _, rfl, rfl, s12' _ _ (s11 _ _ h10), h12, by rw [sizeLine_eq, List.length_map, List.length_map, List.length_append, List.length_append, ul, List.length_replicate, List.length_replicate]; omega, fun D13 hD13 => ?_⟩
        have eB : ((unitL rds.length i ++ List.replicate rds.length (0 : Int)) ++ unitL rds.length i) ++ List.replicate (farI g far).length (0 : Int) = tRowB g rds far i := rfl
        rw [← List.map_append, eB]
        have s13 : Same H12 (upd H12 D13 (.lst ((tRowB g rds far i).map V.int))) := Same.upd hD13
        have h13 : (upd H12 D13 (.lst ((tRowB g rds far i).map V.int))) D13 = some (.lst ((tRowB g rds far i).map V.int)) := upd_same
        have nR : D13 ≠ R := (ne_of_none (s12' _ _ (sA _ _ hR5)) hD13).symm
        have sB := (sA.trans s12').trans s13
        generalize upd H12 D13 (.lst ((tRowB g rds far i).map V.int)) = H13 at *
        refine ⟨R, _, _, rfl, rfl, sB _ _ hR5, by rw [List.length_map, sizeLine_eq]; omega, ?_⟩
        have gR : H2 R = none := hR0
        refine ⟨_, _, _, _, _, _, _, _, _, rfl, fun b o e => by rw [upd_ne (ne_of_none e gR)]; exact sB _ _ (s5_ _ _ e), ?_⟩
        rw [List.range_succ, List.map_append, ← List.append_assoc]
        exact LN.app (sB _ _ hR5) (by simp [las]) (fun j b l e1 e2 => ⟨sB _ _ (has j b l e1 e2).1, (has j b l e1 e2).2⟩) h13 nR
      · rintro σ H5 ⟨v4, v8, v9, v10, v11, v12, v13, v14, v15, rfl, s5_, L5⟩
        rw [show ((rds.length : Nat) : Int).toNat = rds.length by omega] at L5
        have L5 := L5.ll
        have A5 := A.mono s5_
        -- amounts
        refine ⟨by show 1 ≤ sizeLine; decide, fun D7 hD7 => ?_⟩
        have s7 : Same H5 (upd H5 D7 (.lst [.int 0])) := Same.upd hD7
        have h7 : (upd H5 D7 (.lst [.int 0])) D7 = some (.lst [.int 0]) := upd_same
        generalize upd H5 D7 (.lst [.int 0]) = H7 at *
        have A7 := A5.mono s7
        refine ⟨_, rfl, p, _, _, _, _, rfl, A7.hp, W.cl_Program, W.n_Program_tables, pf_tables, ?_⟩
        refine ⟨_, rfl, p, _, _, _, _, rfl, A7.hp, W.cl_Program, W.n_Program_sides, pf_sides, ?_⟩
        refine ⟨_, _, rfl, rfl, D7, _, _, rfl, rfl, h7, by omega, by omega, by rw [sizeLine_eq]; simp; omega, fun D8 hD8 => ?_⟩
        rw [rep_one, en]
        have s8 : Same H7 (upd H7 D8 (.lst (List.replicate (g.tables + g.sides) (.int 0)))) := Same.upd hD8
        have h8 : (upd H7 D8 (.lst (List.replicate (g.tables + g.sides) (.int 0)))) D8 = some (.lst ((List.replicate (g.tables + g.sides) (0 : Int)).map V.int)) := by rw [upd_same, List.map_replicate]
        generalize upd H7 D8 (.lst (List.replicate (g.tables + g.sides) (.int 0))) = H8 at *
        refine ⟨by show 1 ≤ sizeLine; decide, fun D9 hD9 => ?_⟩
        have s9 : Same H8 (upd H8 D9 (.lst [.int 1])) := Same.upd hD9
        have h9 : (upd H8 D9 (.lst [.int 1])) D9 = some (.lst [.int 1]) := upd_same
        generalize upd H8 D9 (.lst [.int 1]) = H9 at *
        refine ⟨_, rfl, D9, _, _, rfl, rfl, h9, by omega, by omega, by rw [sizeLine_eq]; simp; omega, fun D10 hD10 => ?_⟩
        rw [rep_one, show ((rds.length : Nat) : Int).toNat = rds.length by omega]
        have s10 : Same H9 (upd H9 D10 (.lst (List.replicate rds.length (.int 1)))) := Same.upd hD10
        have h10 : (upd H9 D10 (.lst (List.replicate rds.length (.int 1)))) D10 = some (.lst ((List.replicate rds.length (1 : Int)).map V.int)) := by rw [upd_same, List.map_replicate]
        generalize upd H9 D10 (.lst (List.replicate rds.length (.int 1))) = H10 at *
        refine ⟨D8, D10, _, _, rfl, rfl, s10 _ _ (s9 _ _ h8), h10, by rw [sizeLine_eq]; simp; omega, fun aA hA0 => ?_⟩
        have eA : List.replicate (g.tables + g.sides) (0 : Int) ++ List.replicate rds.length (1 : Int) = tAm g rds := rfl
        rw [← List.map_append, eA]
        have s11 : Same H10 (upd H10 aA (.lst ((tAm g rds).map V.int))) := Same.upd hA0
        have h11 : (upd H10 aA (.lst ((tAm g rds).map V.int))) aA = some (.lst ((tAm g rds).map V.int)) := upd_same
        generalize upd H10 aA (.lst ((tAm g rds).map V.int)) = H11 at *
        -- worths
        refine ⟨by show 1 ≤ sizeLine; decide, fun D12 hD12 => ?_⟩
        have s12' : Same H11 (upd H11 D12 (.lst [.int 1])) := Same.upd hD12
        have h12 : (upd H11 D12 (.lst [.int 1])) D12 = some (.lst [.int 1]) := upd_same
        generalize upd H11 D12 (.lst [.int 1]) = H12 at *
        refine ⟨_, rfl, D12, _, _, rfl, rfl, h12, by omega, by omega, by rw [sizeLine_eq]; simp; omega, fun D13 hD13 => ?_⟩
        rw [rep_one, show ((rds.length : Nat) : Int).toNat = rds.length by omega]
        have s13 : Same H12 (upd H12 D13 (.lst (List.replicate rds.length (.int 1)))) := Same.upd hD13
        have h13 : (upd H12 D13 (.lst (List.replicate rds.length (.int 1)))) D13 = some (.lst ((List.replicate rds.length (1 : Int)).map V.int)) := by rw [upd_same, List.map_replicate]
        generalize upd H12 D13 (.lst (List.replicate rds.length (.int 1))) = H13 at *
        refine ⟨by show 1 ≤ sizeLine; decide, fun D14 hD14 => ?_⟩
        have s14 : Same H13 (upd H13 D14 (.lst [.int 0])) := Same.upd hD14
        have h14 : (upd H13 D14 (.lst [.int 0])) D14 = some (.lst [.int 0]) := upd_same
        generalize upd H13 D14 (.lst [.int 0]) = H14 at *
        have sA := (((((((s7.trans s8).trans s9).trans s10).trans s11).trans s12').trans s13).trans s14)
        refine ⟨_, rfl, _, _, rfl, rfl, wide_mul (a := 2) (b := 63) (by decide) (by show ((rds.length : Nat) : Int).natAbs < _; omega) (by decide) (by decide) (by decide), ?_⟩
        refine ⟨_, rfl, F, _, rfl, .inl (SqL.of (sA _ _ (s5_ _ _ hF1))), ?_⟩
        rw [List.length_map, hF2]
        have e2n : ((2 : Int) * ((rds.length : Nat) : Int) + (((farI g far).length : Nat) : Int)).toNat = 2 * rds.length + (farI g far).length := by omega
        refine ⟨_, _, rfl, rfl, D14, _, _, rfl, rfl, h14, by omega, by omega, by rw [sizeLine_eq]; simp; omega, fun D15 hD15 => ?_⟩
        rw [rep_one, e2n]
        have s15 : Same H14 (upd H14 D15 (.lst (List.replicate (2 * rds.length + (farI g far).length) (.int 0)))) := Same.upd hD15
        have h15 : (upd H14 D15 (.lst (List.replicate (2 * rds.length + (farI g far).length) (.int 0)))) D15 = some (.lst ((List.replicate (2 * rds.length + (farI g far).length) (0 : Int)).map V.int)) := by rw [upd_same, List.map_replicate]
        generalize upd H14 D15 (.lst (List.replicate (2 * rds.length + (farI g far).length) (.int 0))) = H15 at *
        refine ⟨D13, D15, _, _, rfl, rfl, s15 _ _ (s14 _ _ h13), h15, by rw [sizeLine_eq]; simp; omega, fun aW hW0 => ?_⟩
        have eW : List.replicate rds.length (1 : Int) ++ List.replicate (2 * rds.length + (farI g far).length) (0 : Int) = tWo g rds far := rfl
        rw [← List.map_append, eW]
        have s16 : Same H15 (upd H15 aW (.lst ((tWo g rds far).map V.int))) := Same.upd hW0
        have h16 : (upd H15 aW (.lst ((tWo g rds far).map V.int))) aW = some (.lst ((tWo g rds far).map V.int)) := upd_same
        generalize upd H15 aW (.lst ((tWo g rds far).map V.int)) = H16 at *
        refine ⟨_, rfl, _, rfl, _, rfl, by show 3 ≤ sizeLine; decide, fun Z hZ => ?_⟩
        have s17 : Same H16 (upd H16 Z (.tup [.ref R, .ref aA, .ref aW])) := Same.upd hZ
        have sB := ((sA.trans s15).trans s16).trans s17
        refine k Z _ R aA aW ((s12.trans s5_).trans sB) upd_same (L5.mono sB) (s17 _ _ (s16 _ _ (s15 _ _ (s14 _ _ (s13 _ _ (s12' _ _ h11)))))) (s17 _ _ h16)
end
end TN
set_option Elab.async false
set_option linter.all false
set_option maxRecDepth 100000
set_option maxHeartbeats 4000000
/-! W13: the task's lines are as M4 wants them. -/
namespace TN
open PySem PySem.Spec PyProof.Rows L2
theorem gd_l {a b : List Int} {j : Nat} (h : j < a.length) : (a ++ b).getD j 0 = a.getD j 0 := by
  simp only [List.getD_eq_getElem?_getD, List.getElem?_append_left h]
theorem gd_r {a b : List Int} {j n : Nat} (h : a.length = n) : (a ++ b).getD (n + j) 0 = b.getD j 0 := by
  simp only [List.getD_eq_getElem?_getD]
  rw [List.getElem?_append_right (by omega), h, Nat.add_sub_cancel_left]
theorem gd_map {α : Type} {l : List α} {f : α → Int} {j : Nat} {x : α} (h : l[j]? = some x) : (l.map f).getD j 0 = f x := by
  rw [List.getD_eq_getElem?_getD, List.getElem?_map, h]; rfl
theorem gd_rng {n j : Nat} {f : Nat → Int} (h : j < n) : ((List.range n).map f).getD j 0 = f j := gd_map (List.getElem?_range h)
theorem gd_rep {n j : Nat} {x : Int} (h : j < n) : (List.replicate n x).getD j 0 = x := by
  rw [List.getD_eq_getElem?_getD, List.getElem?_replicate, if_pos h]; rfl
theorem sum_rng (n : Nat) (f : Nat → Int) : ((List.range n).map f).sum = sm n f := by
  induction n with
  | zero => rfl
  | succ n ih => rw [List.range_succ, List.map_append, List.sum_append, ih, sm_succ]; simp
/-! ### the lines at first, place by place -/
section
variable {rows : List (List Int)} {amounts worths : List Int}
theorem iT_row {i : Nat} (hi : i < rows.length) (j : Nat) : (initT rows amounts worths).tb.T i j = (lnI rows amounts i).getD j 0 := by
  have h : (initT rows amounts worths).lines[i]? = some (lnI rows amounts i) := by
    show (lnsI rows amounts ++ _)[i]? = _
    unfold lnsI
    rw [List.getElem?_append_left (by simpa using hi), List.getElem?_map, List.getElem?_range hi]; rfl
  exact TS.T_of h
theorem iT_g (j : Nat) : (initT rows amounts worths).tb.T rows.length j = (gainsI rows.length worths).getD j 0 := by
  have h : (initT rows amounts worths).lines[rows.length]? = some (gainsI rows.length worths) := by
    show (lnsI rows amounts ++ _)[rows.length]? = _
    rw [List.getElem?_append_right (by unfold lnsI; simp)]
    unfold lnsI
    simp
  exact TS.T_of h
theorem iT_l (j : Nat) : (initT rows amounts worths).tb.T (rows.length + 1) j = (lacksI rows amounts worths.length).getD j 0 := by
  have h : (initT rows amounts worths).lines[rows.length + 1]? = some (lacksI rows amounts worths.length) := by
    show (lnsI rows amounts ++ _)[rows.length + 1]? = _
    rw [List.getElem?_append_right (by unfold lnsI; simp)]
    unfold lnsI
    simp
  exact TS.T_of h
variable (lR : ∀ r ∈ rows, r.length = worths.length)
include lR
theorem iT_row0 {i j : Nat} (hi : i < rows.length) (hj : j < worths.length) : (initT rows amounts worths).tb.T i j = rows[i].getD j 0 := by
  have e : rows.getD i [] = rows[i] := by rw [List.getD_eq_getElem?_getD, List.getElem?_eq_getElem hi]; rfl
  have hl := lR _ (List.getElem_mem hi)
  rw [iT_row hi]
  unfold lnI
  rw [e, gd_l (by rw [List.length_append]; omega), gd_l (by omega)]
theorem iT_row1 {i k : Nat} (hi : i < rows.length) (hk : k < rows.length) : (initT rows amounts worths).tb.T i (worths.length + k) = if i = k then 1 else 0 := by
  have e : rows.getD i [] = rows[i] := by rw [List.getD_eq_getElem?_getD, List.getElem?_eq_getElem hi]; rfl
  have hl := lR _ (List.getElem_mem hi)
  rw [iT_row hi]
  unfold lnI
  rw [e, gd_l (by rw [List.length_append]; unfold unitL; simp; omega), gd_r hl]
  unfold unitL
  rw [gd_rng hk]
theorem iT_row2 {i : Nat} (hi : i < rows.length) : (initT rows amounts worths).tb.T i (worths.length + rows.length) = amounts.getD i 0 := by
  have e : rows.getD i [] = rows[i] := by rw [List.getD_eq_getElem?_getD, List.getElem?_eq_getElem hi]; rfl
  have hl := lR _ (List.getElem_mem hi)
  rw [iT_row hi]
  unfold lnI
  rw [e]
  have := gd_r (a := rows[i] ++ unitL rows.length i) (b := [amounts.getD i 0]) (j := 0) (n := worths.length + rows.length) (by rw [List.length_append, hl]; unfold unitL; simp)
  rw [Nat.add_zero] at this
  rw [this]; rfl
theorem iT_hlp : Hlp rows.length worths.length (initT rows amounts worths).tb.T := fun k r hk hr => by
  by_cases z : r < rows.length
  · exact iT_row1 lR z hk
  · have : r = rows.length ∨ r = rows.length + 1 := by omega
    rw [if_neg (by omega)]
    rcases this with rfl | rfl
    · rw [iT_g]
      unfold gainsI
      rw [gd_r (by simp), gd_rep (by omega)]
    · rw [iT_l]
      unfold lacksI
      rw [gd_l (by simp; omega), gd_r (by simp), gd_rep hk]
theorem iT_lk0 {j : Nat} (hj : j < worths.length) : (initT rows amounts worths).tb.T (rows.length + 1) j = - sm rows.length fun k => (initT rows amounts worths).tb.T k j := by
  rw [iT_l]
  unfold lacksI lnsI
  rw [gd_l (by simp; omega), gd_l (by simpa using hj), gd_rng hj, List.map_map, sum_rng]
  congr 1
  exact sm_congr fun k hk => by rw [iT_row hk]; rfl
theorem iT_lk1 : (initT rows amounts worths).tb.T (rows.length + 1) (worths.length + rows.length) = - sm rows.length fun k => (initT rows amounts worths).tb.T k (worths.length + rows.length) := by
  rw [iT_l]
  unfold lacksI lnsI
  have := gd_r (a := ((List.range worths.length).map fun j => -(((List.range rows.length).map (lnI rows amounts)).map fun l => l.getD j 0).sum) ++ List.replicate rows.length 0) (b := [-(((List.range rows.length).map (lnI rows amounts)).map fun l => l.getD (l.length - 1) 0).sum]) (j := 0) (n := worths.length + rows.length) (by simp)
  rw [Nat.add_zero] at this
  rw [this, List.map_map, sum_rng]
  show -(sm rows.length _) = _
  congr 1
  refine sm_congr fun k hk => ?_
  rw [iT_row hk]
  show (lnI rows amounts k).getD ((lnI rows amounts k).length - 1) 0 = _
  have e : rows.getD k [] = rows[k] := by rw [List.getD_eq_getElem?_getD, List.getElem?_eq_getElem hk]; rfl
  have hl := lR _ (List.getElem_mem hk)
  have : (lnI rows amounts k).length = worths.length + rows.length + 1 := by
    unfold lnI unitL
    rw [List.length_append, List.length_append, e, hl]; simp
  rw [this]; rfl
end
section
variable {g : Prg} {rds : List Rd} {far : Bool}
def colN (g : Prg) (rds : List Rd) (j k : Nat) : Int := match rds[j]? with
  | some r => (colI g.tables r).getD k 0
  | none => 0
theorem tRows_len : (tRows g rds far).length = g.tables + g.sides + rds.length := by unfold tRows; simp
theorem tWo_len : (tWo g rds far).length = 3 * rds.length + (farI g far).length := by unfold tWo; simp; omega
theorem tRows_lr : ∀ r ∈ tRows g rds far, r.length = (tWo g rds far).length := fun r hr => by
  rw [tWo_len]
  unfold tRows at hr
  rcases List.mem_append.mp hr with h | h
  · obtain ⟨k, _, rfl⟩ := List.mem_map.mp h
    unfold tRowA; simp; omega
  · obtain ⟨k, _, rfl⟩ := List.mem_map.mp h
    unfold tRowB unitL; simp; omega
theorem tRows_a {k : Nat} (hk : k < g.tables + g.sides) : (tRows g rds far)[k]? = some (tRowA g rds far k) := by
  unfold tRows
  rw [List.getElem?_append_left (by simpa using hk), List.getElem?_map, List.getElem?_range hk]; rfl
theorem tRows_b {a : Nat} (ha : a < rds.length) : (tRows g rds far)[g.tables + g.sides + a]? = some (tRowB g rds far a) := by
  unfold tRows
  rw [List.getElem?_append_right (by simp), List.getElem?_map]
  have e : g.tables + g.sides + a - ((List.range (g.tables + g.sides)).map (tRowA g rds far)).length = a := by simp
  rw [e, List.getElem?_range ha]; rfl
theorem tsk_of : Tsk g.tables g.sides rds.length (farI g far).length (tRows g rds far).length (tWo g rds far).length (colN g rds) (initT (tRows g rds far) (tAm g rds) (tWo g rds far)).tb.T := by
  have hm := tRows_len (g := g) (rds := rds) (far := far)
  have hw := tWo_len (g := g) (rds := rds) (far := far)
  have lR := tRows_lr (g := g) (rds := rds) (far := far)
  have ra : ∀ {k j : Nat}, k < g.tables + g.sides → j < (tWo g rds far).length → (initT (tRows g rds far) (tAm g rds) (tWo g rds far)).tb.T k j = (tRowA g rds far k).getD j 0 := fun {k j} hk hj => by
    have hk2 : k < (tRows g rds far).length := by omega
    rw [iT_row0 lR hk2 hj]
    have := tRows_a (rds := rds) (far := far) hk
    rw [List.getElem?_eq_getElem hk2] at this
    rw [Option.some.inj this]
  have rb : ∀ {a j : Nat}, a < rds.length → j < (tWo g rds far).length → (initT (tRows g rds far) (tAm g rds) (tWo g rds far)).tb.T (g.tables + g.sides + a) j = (tRowB g rds far a).getD j 0 := fun {a j} ha hj => by
    have hk2 : g.tables + g.sides + a < (tRows g rds far).length := by omega
    rw [iT_row0 lR hk2 hj]
    have := tRows_b (far := far) (g := g) ha
    rw [List.getElem?_eq_getElem hk2] at this
    rw [Option.some.inj this]
  have cn : ∀ {j : Nat} (hj : j < rds.length) (k : Nat), colN g rds j k = (colI g.tables rds[j]).getD k 0 := fun {j} hj k => by
    unfold colN; rw [List.getElem?_eq_getElem hj]
  have l1 : ∀ k, ((rds.map fun r => (colI g.tables r).getD k 0)).length = rds.length := fun k => by simp
  have u1 : ∀ a, (unitL rds.length a).length = rds.length := fun a => by unfold unitL; simp
  refine ⟨by rw [hm], by rw [hw], ?_, iT_hlp lR, fun k j hk hj => ?_, fun k j hk hj => ?_, fun k j hk hj => ?_, fun k s hk hs => ?_, fun i j hi hj => ?_, fun i j hi hj => ?_, fun i j hi hj => ?_, fun i s hi hs => ?_, fun k hk => ?_, fun i hi => ?_, fun j hj => ?_, fun j h1 h2 => ?_, ?_, fun j hj => iT_lk0 lR hj, iT_lk1 lR⟩
  · unfold farI; split <;> simp
  · rw [ra hk (by omega), cn hj]
    unfold tRowA
    rw [gd_l (by simp; omega), gd_l (by simp; omega), gd_l (by rw [l1]; exact hj), gd_map (List.getElem?_eq_getElem hj)]
  · rw [ra hk (by omega), cn hj]
    unfold tRowA
    rw [gd_l (by simp; omega), gd_l (by simp; omega), gd_r (l1 k), gd_map (List.getElem?_eq_getElem hj)]
  · rw [ra hk (by omega)]
    unfold tRowA
    rw [gd_l (by simp; omega), gd_r (by simp; omega), gd_rep hj]
  · rw [ra hk (by omega)]
    unfold tRowA
    have hs2 : (farI g far)[s]? = some (farI g far)[s] := List.getElem?_eq_getElem hs
    rw [gd_r (by simp; omega), gd_map hs2]
    have hs3 : (farI g far)[s] = unitI (g.tables + g.sides) (g.tables + s) := by
      have hs4 : (farI g far)[s]? = some (unitI (g.tables + g.sides) (g.tables + s)) := by
        have hs' := hs
        unfold farI at hs' ⊢
        split
        · rename_i z
          rw [if_pos z] at hs'
          rw [List.getElem?_map, List.getElem?_range (by simpa using hs')]; rfl
        · rename_i z
          rw [if_neg z] at hs'
          simp at hs'
      rw [hs2] at hs4
      exact Option.some.inj hs4
    rw [hs3]
    unfold unitI
    rw [gd_rng hk]
  · rw [rb hi (by omega)]
    unfold tRowB
    rw [gd_l (by rw [List.length_append, List.length_append, u1]; omega), gd_l (by rw [List.length_append, u1]; omega), gd_l (by rw [u1]; exact hj)]
    unfold unitL
    rw [gd_rng hj]
  · rw [rb hi (by omega)]
    unfold tRowB
    rw [gd_l (by rw [List.length_append, List.length_append, u1, List.length_replicate]; omega), gd_l (by rw [List.length_append, u1, List.length_replicate]; omega), gd_r (u1 i), gd_rep hj]
  · rw [rb hi (by omega)]
    unfold tRowB
    rw [gd_l (by rw [List.length_append, List.length_append, u1, List.length_replicate]; omega), gd_r (by rw [List.length_append, u1, List.length_replicate]; omega)]
    unfold unitL
    rw [gd_rng hj]
  · rw [rb hi (by omega)]
    unfold tRowB
    rw [gd_r (by rw [List.length_append, List.length_append, u1, List.length_replicate]; omega), gd_rep hs]
  · rw [iT_row2 lR (by omega)]
    unfold tAm
    rw [gd_l (by simpa using hk), gd_rep hk]
  · rw [iT_row2 lR (by omega)]
    unfold tAm
    rw [gd_r (by simp), gd_rep hi]
  · rw [iT_g]
    unfold gainsI tWo
    rw [gd_l (by simp; omega), List.map_append, gd_l (by simpa using hj)]
    rw [List.map_replicate, gd_rep hj]
  · obtain ⟨b, rfl⟩ : ∃ b, j = rds.length + b := ⟨j - rds.length, by omega⟩
    rw [iT_g]
    unfold gainsI tWo
    rw [gd_l (by simp; omega), List.map_append, gd_r (by simp), List.map_replicate, gd_rep (by omega)]; rfl
  · rw [iT_g]
    unfold gainsI
    rw [gd_r (by simp), gd_rep (by omega)]
/-- how great the lines are -/
theorem fac_le : ∀ {a b : Nat}, a ≤ b → fac a ≤ fac b
  | a, 0, h => by have : a = 0 := by omega
                  subst this; exact Nat.le_refl _
  | a, b + 1, h => by
    by_cases e : a = b + 1
    · subst e; exact Nat.le_refl _
    · have := fac_le (a := a) (b := b) (by omega)
      have h2 : fac b ≤ fac (b + 1) := by
        show fac b ≤ (b + 1) * fac b
        exact Nat.le_mul_of_pos_left _ (by omega)
      omega
theorem big : fac 38 * (2 ^ 46) ^ 38 < 2 ^ 4000 := by decide +kernel
theorem small_of (hm : rds.length ≤ 24) (ht : g.tables ≤ 8) (he : g.sides ≤ 4) (hc : ∀ r ∈ rds, ∀ c ∈ colI g.tables r, c.natAbs ≤ 2 ^ 40) : ∀ i j, i < (tRows g rds far).length → j < (tWo g rds far).length + (tRows g rds far).length + 1 → ((initT (tRows g rds far) (tAm g rds) (tWo g rds far)).tb.T i j).natAbs ≤ 2 ^ 40 := by
  have K := tsk_of (g := g) (rds := rds) (far := far)
  have hm' := tRows_len (g := g) (rds := rds) (far := far)
  have hw := tWo_len (g := g) (rds := rds) (far := far)
  have fl := farI_len g far
  generalize (initT (tRows g rds far) (tAm g rds) (tWo g rds far)).tb.T = L at K
  intro i j hi hj
  have one : ∀ c : Prop, ∀ [Decidable c], ((if c then (1 : Int) else 0)).natAbs ≤ 2 ^ 40 := fun c _ => by split <;> decide
  have cb : ∀ a k, (colN g rds a k).natAbs ≤ 2 ^ 40 := fun a k => by
    unfold colN
    cases e : rds[a]? with
    | none => show (0 : Int).natAbs ≤ _; decide
    | some r =>
      show ((colI g.tables r).getD k 0).natAbs ≤ _
      rw [List.getD_eq_getElem?_getD]
      cases q : (colI g.tables r)[k]? with
      | none => show (0 : Int).natAbs ≤ _; decide
      | some c => exact hc r (List.mem_of_getElem? e) c (List.mem_of_getElem? q)
  by_cases z : (tWo g rds far).length ≤ j
  · by_cases z2 : j = (tWo g rds far).length + (tRows g rds far).length
    · subst z2
      by_cases z3 : i < g.tables + g.sides
      · rw [K.am0 i z3]; decide
      · obtain ⟨a, rfl⟩ : ∃ a, i = g.tables + g.sides + a := ⟨i - (g.tables + g.sides), by omega⟩
        rw [K.am1 a (by omega)]; decide
    · obtain ⟨b, rfl⟩ : ∃ b, j = (tWo g rds far).length + b := ⟨j - (tWo g rds far).length, by omega⟩
      rw [K.hlp b i (by omega) (by omega)]
      exact one _
  · by_cases z3 : i < g.tables + g.sides
    · by_cases y1 : j < rds.length
      · rw [K.a0 i j z3 y1]; exact cb _ _
      · by_cases y2 : j < 2 * rds.length
        · obtain ⟨b, rfl⟩ : ∃ b, j = rds.length + b := ⟨j - rds.length, by omega⟩
          rw [K.a1 i b z3 (by omega)]; exact cb _ _
        · by_cases y3 : j < 3 * rds.length
          · obtain ⟨b, rfl⟩ : ∃ b, j = 2 * rds.length + b := ⟨j - 2 * rds.length, by omega⟩
            rw [K.a2 i b z3 (by omega)]; decide
          · obtain ⟨b, rfl⟩ : ∃ b, j = 3 * rds.length + b := ⟨j - 3 * rds.length, by omega⟩
            rw [K.a3 i b z3 (by omega)]; exact one _
    · obtain ⟨a, rfl⟩ : ∃ a, i = g.tables + g.sides + a := ⟨i - (g.tables + g.sides), by omega⟩
      have ha : a < rds.length := by omega
      by_cases y1 : j < rds.length
      · rw [K.b0 a j ha y1]; exact one _
      · by_cases y2 : j < 2 * rds.length
        · obtain ⟨b, rfl⟩ : ∃ b, j = rds.length + b := ⟨j - rds.length, by omega⟩
          rw [K.b1 a b ha (by omega)]; decide
        · by_cases y3 : j < 3 * rds.length
          · obtain ⟨b, rfl⟩ : ∃ b, j = 2 * rds.length + b := ⟨j - 2 * rds.length, by omega⟩
            rw [K.b2 a b ha (by omega)]; exact one _
          · obtain ⟨b, rfl⟩ : ∃ b, j = 3 * rds.length + b := ⟨j - 3 * rds.length, by omega⟩
            rw [K.b3 a b ha (by omega)]; decide
theorem lb_of (hm : rds.length ≤ 24) (ht : g.tables ≤ 8) (he : g.sides ≤ 4) (hc : ∀ r ∈ rds, ∀ c ∈ colI g.tables r, c.natAbs ≤ 2 ^ 40) : LB (tRows g rds far).length (tWo g rds far).length (initT (tRows g rds far) (tAm g rds) (tWo g rds far)).tb.T := by
  have K := tsk_of (g := g) (rds := rds) (far := far)
  have hm' := tRows_len (g := g) (rds := rds) (far := far)
  have hw := tWo_len (g := g) (rds := rds) (far := far)
  have fl := farI_len g far
  have small := small_of (g := g) (rds := rds) (far := far) hm ht he hc
  generalize (initT (tRows g rds far) (tAm g rds) (tWo g rds far)).tb.T = L at K small
  have all : ∀ i j, i < (tRows g rds far).length + 2 → j < (tWo g rds far).length + (tRows g rds far).length + 1 → (L i j).natAbs ≤ 2 ^ 46 := fun i j hi hj => by
    by_cases z : i < (tRows g rds far).length
    · exact Nat.le_trans (small i j z hj) (by decide)
    · by_cases z2 : (tWo g rds far).length ≤ j ∧ j < (tWo g rds far).length + (tRows g rds far).length
      · obtain ⟨b, rfl⟩ : ∃ b, j = (tWo g rds far).length + b := ⟨j - (tWo g rds far).length, by omega⟩
        rw [K.hlp b i (by omega) (by omega), if_neg (by omega)]; decide
      · have : i = (tRows g rds far).length ∨ i = (tRows g rds far).length + 1 := by omega
        rcases this with rfl | rfl
        · by_cases y1 : j < rds.length
          · rw [K.g0 j y1]; decide
          · by_cases y2 : j < (tWo g rds far).length
            · rw [K.g1 j (by omega) y2]; decide
            · have : j = (tWo g rds far).length + (tRows g rds far).length := by omega
              rw [this, K.g2]; decide
        · have sb : ∀ j, j < (tWo g rds far).length + (tRows g rds far).length + 1 → (- sm (tRows g rds far).length fun k => L k j).natAbs ≤ 2 ^ 46 := fun j hj => by
            rw [Int.natAbs_neg]
            have h1 := sm_abs (n := (tRows g rds far).length) (f := fun k => L k j) (b := 2 ^ 40) fun k hk => small k j hk hj
            have h2 : (tRows g rds far).length * 2 ^ 40 ≤ 64 * 2 ^ 40 := Nat.mul_le_mul_right _ (by omega)
            exact Nat.le_trans h1 (Nat.le_trans h2 (by decide))
          by_cases y1 : j < (tWo g rds far).length
          · rw [K.lk0 j y1]; exact sb j hj
          · have : j = (tWo g rds far).length + (tRows g rds far).length := by omega
            rw [this, K.lk1]
            exact sb _ (by omega)
  refine ⟨2 ^ 46, by decide, all, ?_⟩
  have h1 : fac ((tRows g rds far).length + 2) ≤ fac 38 := fac_le (by omega)
  have h2 : (2 ^ 46) ^ ((tRows g rds far).length + 2) ≤ (2 ^ 46) ^ 38 := Nat.pow_le_pow_right (by decide) (by omega)
  exact Nat.lt_of_le_of_lt (Nat.mul_le_mul h1 h2) big
end
end TN
set_option Elab.async false
set_option linter.all false
set_option maxRecDepth 100000
set_option maxHeartbeats 4000000
/-! W14: what told_of tells. -/
namespace TN
open PySem PySem.Spec PyProof.Rows L2
/-- by how much the reading n is later -/
def later (g : Prg) (row nums : List Int) (n : Nat) : Int := match g.rs[n]? with
  | some r => dotI row r.s + nums.getD r.x 0 - nums.getD r.y 0
  | none => 0
def cN (g : Prg) (n k : Nat) : Int := match g.rs[n]? with
  | some r => (colI g.tables r).getD k 0
  | none => 0
def lsum (l : List Nat) (F : Nat → Int) : Int := (l.map F).sum
structure ToldOk (g : Prg) (far : Bool) (lot kept : List Nat) (row nums : List Int) : Prop where
  sub : kept.Sublist lot
  lr : row.length = g.sides
  ln : nums.length = g.tables
  zero : ∀ n ∈ kept, later g row nums n = 0
  more : ∀ n ∈ lot, n ∉ kept → 0 < later g row nums n
  farp : far = true → ∀ x ∈ row, 0 ≤ x
  flow : ∃ f : Nat → Int, (∀ n ∈ lot, 0 ≤ f n ∧ (0 < f n ↔ n ∈ kept)) ∧ (∀ k, k < g.tables → lsum lot (fun n => f n * cN g n k) = 0) ∧
    ∀ s, s < g.sides → lsum lot (fun n => f n * cN g n (g.tables + s)) ≤ 0 ∧ (far = false → lsum lot (fun n => f n * cN g n (g.tables + s)) = 0)
  br : ∀ x ∈ row, Bits 400000 x
  bn : ∀ x ∈ nums, Bits 400000 x
theorem lsum_sm : ∀ (l : List Nat) (F : Nat → Int), lsum l F = sm l.length fun i => F (l.getD i 0)
  | [], F => rfl
  | n :: l, F => by
    show F n + lsum l F = _
    rw [lsum_sm l F, List.length_cons, sm_head]
    rfl
/-! ### whole numbers of fractions over one bottom -/
theorem lcm_dvdl (a b : Int) (hb : 0 < b) : a ∣ lcmI a b := by
  unfold lcmI
  obtain ⟨k, hk⟩ := gcd_dvdr a b
  obtain ⟨j, hj⟩ := gcd_dvdl a b
  have g0 := gcd_pos (a := a) hb
  have e1 : a / gcdI a b = j := by rw [Int.ediv_eq_of_eq_mul_right (by omega) hj]
  rw [e1]
  refine ⟨k, ?_⟩
  generalize gcdI a b = d at *
  subst hk
  rw [hj]
  grind
theorem lcm_dvdr (a b : Int) : b ∣ lcmI a b := ⟨a / gcdI a b, by unfold lcmI; exact Int.mul_comm _ _⟩
theorem cbot_dvd : ∀ (n : Nat) (fs : List (Int × Int)), fs.length ≤ n → (∀ f ∈ fs, 0 < f.2) → ∀ f ∈ fs, f.2 ∣ cbot fs
  | 0, fs, h, _, f, hf => by
    have : fs = [] := List.length_eq_zero_iff.mp (by omega)
    subst this; cases hf
  | n + 1, fs, h, hp, f, hf => by
    rcases List.eq_nil_or_concat fs with rfl | ⟨gs, x, rfl⟩
    · cases hf
    · rw [List.concat_eq_append] at *
      rw [List.length_append, List.length_singleton] at h
      rw [cbot_snoc]
      rcases List.mem_append.mp hf with h1 | h1
      · exact Int.dvd_trans (cbot_dvd n gs (by omega) (fun f hf => hp f (List.mem_append_left _ hf)) f h1) (lcm_dvdl _ _ (hp x (List.mem_append_right _ (List.mem_singleton.mpr rfl))))
      · rw [List.mem_singleton.mp h1]
        exact lcm_dvdr _ _
theorem cbot_pos : ∀ (n : Nat) (fs : List (Int × Int)), fs.length ≤ n → (∀ f ∈ fs, 0 < f.2) → 0 < cbot fs
  | 0, fs, h, _ => by
    have : fs = [] := List.length_eq_zero_iff.mp (by omega)
    subst this; decide
  | n + 1, fs, h, hf => by
    rcases List.eq_nil_or_concat fs with rfl | ⟨gs, f, rfl⟩
    · decide
    · rw [List.concat_eq_append] at *
      rw [List.length_append, List.length_singleton] at *
      rw [cbot_snoc]
      exact lcm_pos (cbot_pos n gs (by omega) fun g hg => hf g (List.mem_append_left _ hg)) (hf f (List.mem_append_right _ (List.mem_singleton.mpr rfl)))
theorem frd_bot {a d : Int} (hd : 0 < d) : 0 < (frd a d).2 := by
  unfold frd
  obtain ⟨k, hk⟩ := gcd_dvdr a d
  have g0 := gcd_pos (a := a) hd
  have e : d / gcdI a d = k := Int.ediv_eq_of_eq_mul_right (by omega) hk
  rw [e]
  by_cases z : 0 < k
  · exact z
  · have : gcdI a d * k ≤ 0 := by
      have : 0 ≤ gcdI a d * (-k) := Int.mul_nonneg (by omega) (by omega)
      rw [Int.mul_neg] at this; omega
    omega
theorem frd_mul {a d : Int} (hd : 0 < d) : (frd a d).1 * d = a * (frd a d).2 := by
  unfold frd
  obtain ⟨k, hk⟩ := gcd_dvdr a d
  obtain ⟨j, hj⟩ := gcd_dvdl a d
  have g0 := gcd_pos (a := a) hd
  have e : d / gcdI a d = k := Int.ediv_eq_of_eq_mul_right (by omega) hk
  have e2 : a / gcdI a d = j := Int.ediv_eq_of_eq_mul_right (by omega) hj
  rw [e, e2]
  show j * d = a * k
  generalize gcdI a d = x at *
  rw [hk, hj]; grind
theorem frd_top {a d : Int} (hd : 0 < d) : 0 < (frd a d).1 ↔ 0 < a := by
  have h1 := frd_mul (a := a) hd
  have h2 := frd_bot (a := a) hd
  constructor
  · intro h
    have : 0 < a * (frd a d).2 := by rw [← h1]; exact Int.mul_pos h hd
    by_cases z : 0 < a
    · exact z
    · have h3 : 0 ≤ (-a) * (frd a d).2 := Int.mul_nonneg (by omega) (by omega)
      rw [Int.neg_mul] at h3; omega
  · intro h
    have : 0 < (frd a d).1 * d := by rw [h1]; exact Int.mul_pos h h2
    by_cases z : 0 < (frd a d).1
    · exact z
    · have h3 : 0 ≤ (-(frd a d).1) * d := Int.mul_nonneg (by omega) (by omega)
      rw [Int.neg_mul] at h3; omega
/-- all made greater alike -/
theorem whole_scale {d : Int} (hd : 0 < d) (ys : List Int) : ∃ G : Int, 0 < G ∧ ∀ k, k < ys.length → (wholeI (ys.map fun y => frd y d)).getD k 0 * d = G * ys.getD k 0 := by
  have hp : ∀ f ∈ ys.map fun y => frd y d, 0 < f.2 := fun f hf => by
    obtain ⟨y, _, rfl⟩ := List.mem_map.mp hf
    exact frd_bot hd
  refine ⟨cbot (ys.map fun y => frd y d), cbot_pos _ _ (Nat.le_refl _) hp, fun k hk => ?_⟩
  have h1 : ys[k]? = some ys[k] := List.getElem?_eq_getElem hk
  unfold wholeI
  rw [gd_map (x := frd ys[k] d) (by rw [List.getElem?_map, h1]; rfl), List.getD_eq_getElem?_getD, h1]
  show (frd ys[k] d).1 * (cbot _ / (frd ys[k] d).2) * d = cbot _ * ys[k]
  obtain ⟨j, hj⟩ := cbot_dvd _ _ (Nat.le_refl _) hp (frd ys[k] d) (List.mem_map.mpr ⟨_, List.getElem_mem hk, rfl⟩)
  have h2 := frd_bot (a := ys[k]) hd
  have h3 := frd_mul (a := ys[k]) hd
  have e : cbot (ys.map fun y => frd y d) / (frd ys[k] d).2 = j := Int.ediv_eq_of_eq_mul_right (by omega) hj
  rw [e, hj]
  generalize frd ys[k] d = fr at *
  have : fr.1 * j * d = j * (fr.1 * d) := by grind
  rw [this, h3]; grind
/-- a reading's lateness as a sum over tables and sides -/
theorem dotI_sm : ∀ (as bs : List Int) (n : Nat), as.length = n → bs.length = n → dotI as bs = sm n fun k => as.getD k 0 * bs.getD k 0
  | [], _, n, h, _ => by
    have : n = 0 := by simpa using h.symm
    subst this; rfl
  | a :: as, [], n, h, h2 => by simp at h h2; omega
  | a :: as, b :: bs, 0, h, _ => by simp at h
  | a :: as, b :: bs, n + 1, h, h2 => by
    show a * b + dotI as bs = _
    rw [dotI_sm as bs n (by simpa using h) (by simpa using h2), sm_head]
    rfl
theorem later_sm {g : Prg} {n : Nat} {r : Rd} (hr : g.rs[n]? = some r) (hx : r.x < g.tables) (hy : r.y < g.tables) (hs : r.s.length = g.sides) {N : List Int} (hN : N.length = g.tables + g.sides) :
    later g (N.drop g.tables) (N.take g.tables) n = sm (g.tables + g.sides) fun k => N.getD k 0 * (colI g.tables r).getD k 0 := by
  unfold later
  rw [hr, sm_app]
  have l1 : ((List.range g.tables).map fun k => (if k = r.x then (1 : Int) else 0) - (if k = r.y then 1 else 0)).length = g.tables := by simp
  have e1 : (sm g.tables fun k => N.getD k 0 * (colI g.tables r).getD k 0) = (N.take g.tables).getD r.x 0 - (N.take g.tables).getD r.y 0 := by
    have t : ∀ x, x < g.tables → (N.take g.tables).getD x 0 = N.getD x 0 := fun x hx => by
      simp only [List.getD_eq_getElem?_getD, List.getElem?_take, if_pos hx]
    rw [t _ hx, t _ hy, sm_congr (g := fun k => (if k = r.x then N.getD r.x 0 else 0) - (if k = r.y then N.getD r.y 0 else 0)) fun k hk => by
      unfold colI
      rw [gd_l (by rw [l1]; exact hk), gd_rng hk]
      by_cases h1 : k = r.x
      · by_cases h2 : k = r.y
        · subst h1; rw [if_pos rfl, if_pos h2, if_pos rfl, if_pos h2, ← h2]; omega
        · subst h1; rw [if_pos rfl, if_neg h2, if_pos rfl, if_neg h2]; omega
      · by_cases h2 : k = r.y
        · subst h2; rw [if_neg h1, if_pos rfl, if_neg h1, if_pos rfl]; omega
        · rw [if_neg h1, if_neg h2, if_neg h1, if_neg h2]; omega, sm_sub,
      sm_one hx fun k _ h => if_neg h, sm_one hy fun k _ h => if_neg h, if_pos rfl, if_pos rfl]
  have e2 : (sm g.sides fun k => N.getD (g.tables + k) 0 * (colI g.tables r).getD (g.tables + k) 0) = dotI (N.drop g.tables) r.s := by
    rw [dotI_sm _ _ g.sides (by rw [List.length_drop, hN]; omega) hs]
    refine sm_congr fun k hk => ?_
    unfold colI
    rw [gd_r l1]
    congr 1
    simp only [List.getD_eq_getElem?_getD, List.getElem?_drop]
  rw [e1, e2]
  show dotI _ _ + _ - _ = _
  omega
/-- the readings of a lot, by places -/
theorem lot_cN {g : Prg} {lot : List Nat} {rds : List Rd} (h : LotOf g lot rds) {i : Nat} (hi : i < lot.length) (k : Nat) : cN g (lot.getD i 0) k = colN g rds i k := by
  obtain ⟨r, h1, h2⟩ := h.2 i lot[i] (List.getElem?_eq_getElem hi)
  have e : lot.getD i 0 = lot[i] := by rw [List.getD_eq_getElem?_getD, List.getElem?_eq_getElem hi]; rfl
  unfold cN colN
  rw [e, h1, h2]
theorem idx_of {lot : List Nat} (nd : lot.Nodup) {i : Nat} (hi : i < lot.length) : lot.idxOf (lot.getD i 0) = i := by
  have e : lot.getD i 0 = lot[i] := by rw [List.getD_eq_getElem?_getD, List.getElem?_eq_getElem hi]; rfl
  rw [e]
  have h1 : lot.idxOf lot[i] < lot.length := List.idxOf_lt_length_of_mem (List.getElem_mem hi)
  have h2 : lot[lot.idxOf lot[i]] = lot[i] := List.getElem_idxOf h1
  exact (List.getElem_inj nd).mp h2
theorem told_of_fin {g : Prg} {lot : List Nat} {rds : List Rd} {far : Bool} {T : TS} {L : Nat → Nat → Int} (gok : g.Ok) (nd : lot.Nodup) (lo : LotOf g lot rds) (ln : lot.length ≤ 24)
    (K : Tsk g.tables g.sides rds.length (farI g far).length (tRows g rds far).length (tWo g rds far).length (colN g rds) L)
    (F : Fin g.tables g.sides rds.length (farI g far).length (tRows g rds far).length (tWo g rds far).length (colN g rds) L T)
    {kept : List Nat} (hk : kept.Sublist lot) (hk2 : ∀ i, i < lot.length → (lot.getD i 0 ∈ kept ↔ 0 < shr (tRows g rds far).length (tWo g rds far).length T.tb i)) {N : List Int}
    (hN : N = wholeI (((List.range (g.tables + g.sides)).map fun k => T.tb.T (tRows g rds far).length ((tWo g rds far).length + k)).map fun y => frd y T.bottom)) (bN : ∀ x ∈ N, Bits 400000 x) :
    ToldOk g far lot kept (N.drop g.tables) (N.take g.tables) := by
  have hd : 0 < T.bottom := F.good.iv.pos
  have iv := F.good.iv
  rw [F.wide, F.many] at iv
  have told := phase2 K iv F.nn F.em F.opt
  obtain ⟨G, hG, sc⟩ := whole_scale hd ((List.range (g.tables + g.sides)).map fun k => T.tb.T (tRows g rds far).length ((tWo g rds far).length + k))
  rw [← hN] at sc
  have lN : N.length = g.tables + g.sides := by rw [hN]; unfold wholeI; simp
  have sc2 : ∀ k, k < g.tables + g.sides → N.getD k 0 * T.bottom = G * T.tb.T (tRows g rds far).length ((tWo g rds far).length + k) := fun k hk => by
    have := sc k (by simpa using hk)
    rw [gd_rng hk] at this
    exact this
  -- lateness, scaled
  have lat : ∀ i, i < lot.length → T.bottom * later g (N.drop g.tables) (N.take g.tables) (lot.getD i 0) = G * sm (g.tables + g.sides) fun k => T.tb.T (tRows g rds far).length ((tWo g rds far).length + k) * colN g rds i k := fun i hi => by
    obtain ⟨r, h1, h2⟩ := lo.2 i lot[i] (List.getElem?_eq_getElem hi)
    have e : lot.getD i 0 = lot[i] := by rw [List.getD_eq_getElem?_getD, List.getElem?_eq_getElem hi]; rfl
    obtain ⟨rx, ry, rl, _⟩ := gok.rd r (List.mem_of_getElem? h1)
    rw [e, later_sm h1 rx ry rl lN, ← sm_mul, ← sm_mul]
    refine sm_congr fun k hk => ?_
    have e2 : colN g rds i k = (colI g.tables r).getD k 0 := by unfold colN; rw [h2]
    rw [e2]
    have := sc2 k hk
    grind
  have ll : rds.length = lot.length := lo.1
  have mem : ∀ n ∈ lot, ∃ i, i < lot.length ∧ lot.getD i 0 = n := fun n hn => by
    obtain ⟨i, hi, rfl⟩ := List.mem_iff_getElem.mp hn
    exact ⟨i, hi, by rw [List.getD_eq_getElem?_getD, List.getElem?_eq_getElem hi]; rfl⟩
  refine ⟨hk, by rw [List.length_drop, lN]; omega, by rw [List.length_take, lN]; omega, fun n hn => ?_, fun n hn hn2 => ?_, fun hf x hx => ?_, ?_, fun x hx => bN x (List.mem_of_mem_drop hx), fun x hx => bN x (List.mem_of_mem_take hx)⟩
  · obtain ⟨i, hi, rfl⟩ := mem n (hk.subset hn)
    have h1 := lat i hi
    rw [told.zero i (by omega) ((hk2 i hi).mp hn), Int.mul_zero] at h1
    exact zero_div hd h1
  · obtain ⟨i, hi, rfl⟩ := mem n hn
    have h1 := lat i hi
    have h2 := told.more i (by omega) (fun z => hn2 ((hk2 i hi).mpr z))
    have h3 := Int.mul_pos hG h2
    rw [← h1] at h3
    by_cases z : 0 < later g (N.drop g.tables) (N.take g.tables) (lot.getD i 0)
    · exact z
    · have h4 : 0 ≤ T.bottom * (-later g (N.drop g.tables) (N.take g.tables) (lot.getD i 0)) := Int.mul_nonneg (by omega) (by omega)
      rw [Int.mul_neg] at h4; omega
  · obtain ⟨s, hs, rfl⟩ := List.mem_iff_getElem.mp hx
    have hs' : s < g.sides := by rw [List.length_drop, lN] at hs; omega
    rw [List.getElem_drop]
    have h1 := sc2 (g.tables + s) (by omega)
    have h2 : N.getD (g.tables + s) 0 = N[g.tables + s]'(by omega) := by rw [List.getD_eq_getElem?_getD, List.getElem?_eq_getElem (by omega)]; rfl
    rw [h2] at h1
    have h3 := told.far (by rw [hf]; unfold farI; simp) s hs'
    have h4 : 0 ≤ N[g.tables + s]'(by omega) * T.bottom := by rw [h1]; exact Int.mul_nonneg (by omega) h3
    exact nonneg_div hd (by rw [Int.mul_comm]) h4
  · obtain ⟨f, f1, f2, f3⟩ := told.flow
    have conv : ∀ k, lsum lot (fun n => f (lot.idxOf n) * cN g n k) = sm rds.length fun i => f i * colN g rds i k := fun k => by
      rw [lsum_sm, ll]
      exact sm_congr fun i hi => by rw [idx_of nd hi, lot_cN lo hi]
    refine ⟨fun n => f (lot.idxOf n), fun n hn => ?_, fun k hk => ?_, fun s hs => ?_⟩
    · obtain ⟨i, hi, rfl⟩ := mem n hn
      show 0 ≤ f (lot.idxOf (lot.getD i 0)) ∧ (0 < f (lot.idxOf (lot.getD i 0)) ↔ _)
      rw [idx_of nd hi]
      obtain ⟨g1, g2⟩ := f1 i (by omega)
      exact ⟨g1, g2.trans (hk2 i hi).symm⟩
    · rw [conv]; exact f2 k hk
    · rw [conv]
      obtain ⟨g1, g2⟩ := f3 s hs
      exact ⟨g1, fun h => g2 (by rw [h]; unfold farI; simp)⟩
end TN
set_option Elab.async false
set_option linter.all false
set_option maxRecDepth 100000
set_option maxHeartbeats 4000000
/-! W15: told_of. -/
namespace TN
open PySem PySem.Spec PyProof.Rows L2
/-- the state, told anew -/
theorem st_eq {α : Sort _} {t : α → L2.St → Hp → Prop} {D : α} {σ : L2.St} (σ' : L2.St) {H : Hp} (h : t D σ' H) (e : σ = σ') : t D σ H := by subst e; exact h
theorem st_eqG {α β : Sort _} {t : α → L2.St → Hp → β → Prop} {D : α} {σ : L2.St} {Q : β} (σ' : L2.St) {H : Hp} (h : t D σ' H Q) (e : σ = σ') : t D σ H Q := by subst e; exact h
/-! ### slices of tuples; comprehensions with ifs -/
section
variable {K : PySem.W.Frag} {H : Hp} {Q : VK} {a : Addr} {xs : List V}
theorem r_slC {lo hi : Option Int} (ha : H a = some (.tup xs)) (k : ∀ p H', Same H H' → H' p = some (.tup (cutV xs lo hi)) → Q (.ref p) H') : rSlA K (.ref a) lo hi H Q := by
  refine ⟨a, xs, rfl, SqT.of ha, fun ⟨h1, h2⟩ => ?_, fun _ p hp => ?_⟩
  · refine k a H (fun _ _ h => h) ?_
    have e : cutV xs lo hi = xs := by unfold cutV; rw [h1, h2, List.drop_zero, Nat.sub_zero, List.take_length]
    rw [e]; exact ha
  · exact k p _ (Same.upd hp) upd_same
theorem no_part {σ : L2.St} {H : Hp} {Q : Option Int → Hp → Prop} (h : Q none H) : tNoPart σ H Q := h
theorem cut_lo {n : Nat} : cutV xs none (some (n : Int)) = xs.take n := by
  unfold cutV
  rw [HT.sIx_none, HT.sIx_nat, List.drop_zero, Nat.sub_zero]
  by_cases h : n ≤ xs.length
  · rw [Nat.min_eq_left h]
  · rw [Nat.min_eq_right (by omega), List.take_length, List.take_of_length_le (by omega)]
theorem cut_hi {n : Nat} : cutV xs (some (n : Int)) none = xs.drop n := by
  unfold cutV
  rw [HT.sIx_none, HT.sIx_nat]
  by_cases h : n ≤ xs.length
  · rw [Nat.min_eq_left h, List.take_of_length_le (by simp)]
  · rw [Nat.min_eq_right (by omega), Nat.sub_self, List.take_zero, List.drop_eq_nil_of_le (by omega)]
theorem cut_mid {m n : Nat} (h : m ≤ n) : cutV xs (some (m : Int)) (some (n : Int)) = (xs.drop m).take (n - m) := by
  unfold cutV
  rw [HT.sIx_nat, HT.sIx_nat]
  by_cases h1 : n ≤ xs.length
  · rw [Nat.min_eq_left h1, Nat.min_eq_left (by omega)]
  · by_cases h2 : m ≤ xs.length
    · rw [Nat.min_eq_right (by omega), Nat.min_eq_left h2, List.take_of_length_le (by simp), List.take_of_length_le (by simp; omega)]
    · rw [Nat.min_eq_right (by omega), Nat.min_eq_right (by omega), Nat.sub_self, List.take_zero, List.drop_eq_nil_of_le (by omega), List.take_nil]
end
abbrev LcF (J : It) (g : TG) (tt : TT) (te : TE) (vs : List Nat) (σ : L2.St) (H1 : Hp) (D : Addr) (Qd : Hp → Prop) : Prop :=
    ∃ W : Nat → Nat → Hp → Prop, (∃ m, W 0 m (L2.upd H1 D (.lst []))) ∧ ∀ i m H, W i m H →
      (J.stop i H ∧ Qd H) ∨ (J.go i H ∧ ∃ Nx : Hp → Prop, (∀ H', Nx H' → ∃ m', m' < m ∧ W (i + 1) m' H') ∧ ∀ x H', J.yld i H x H' → g x (wipe σ vs) H' fun σ2 H2 => wipe σ2 vs = wipe σ vs ∧ tt σ2 H2 fun b H3 =>
        if b = true then te σ2 H3 fun y H4 => ∃ acc, H4 D = some (.lst acc) ∧ acc.length < sizeLine ∧ Nx (L2.upd H4 D (.lst (acc ++ [y]))) else Nx H3)
/-- a comprehension with ifs: what is kept so far is told by Ip -/
theorem lc_genF {J : It} {g : TG} {tt : TT} {te : TE} {vs : List Nat} {σ : L2.St} {H1 : Hp} {D : Addr} {Qd : Hp → Prop} (n : Nat) (Ip : Nat → List V → Prop) (hD : H1 D = none) (hn : n ≤ 1000000) (h0 : Ip 0 [])
    (stop : ∀ H, Same H1 H → J.stop n H) (go : ∀ i H, i < n → Same H1 H → J.go i H)
    (hs : ∀ (i : Nat) (H : Hp) (acc : List V) (Qy : V → Hp → Prop) (Qn : Hp → Prop), i < n → Same H1 H → H D = some (.lst acc) → Ip i acc → (∀ y H4, Same H1 H4 → H4 D = some (.lst acc) → Ip (i + 1) (acc ++ [y]) → Qy y H4) → (∀ H4, Same H1 H4 → H4 D = some (.lst acc) → Ip (i + 1) acc → Qn H4) →
      ∀ x H', J.yld i H x H' → g x (wipe σ vs) H' fun σ2 H2 => wipe σ2 vs = wipe σ vs ∧ tt σ2 H2 fun b H3 => if b = true then te σ2 H3 Qy else Qn H3)
    (hd : ∀ H ys, Same H1 H → H D = some (.lst ys) → Ip n ys → Qd H) : LcF J g tt te vs σ H1 D Qd := by
  refine ⟨fun i m H => m = n - i ∧ i ≤ n ∧ Same H1 H ∧ ∃ ys, H D = some (.lst ys) ∧ ys.length ≤ i ∧ Ip i ys, ⟨n, by simp, Nat.zero_le _, Same.upd hD, [], upd_same, Nat.le_refl _, h0⟩, ?_⟩
  rintro i m H ⟨rfl, hi, s, ys, h1, h2, h3⟩
  by_cases hlt : i < n
  · refine .inr ⟨go i H hlt s, fun H' => i + 1 ≤ n ∧ Same H1 H' ∧ ∃ ys, H' D = some (.lst ys) ∧ ys.length ≤ i + 1 ∧ Ip (i + 1) ys, fun H' p => ⟨n - (i + 1), by omega, rfl, p⟩, fun x H' y => ?_⟩
    refine hs i H ys _ _ hlt s h1 h3 (fun y H4 s4 e4 r4 => ?_) (fun H4 s4 e4 r4 => ?_) x H' y
    · refine ⟨ys, e4, ?_, hlt, fun b o e => ?_, ys ++ [y], upd_same, by simp; omega, r4⟩
      · rw [sizeLine_eq]; omega
      · rw [upd_ne (ne_of_none e hD)]; exact s4 _ _ e
    · exact ⟨hlt, s4, ys, e4, by omega, r4⟩
  · have e : i = n := by omega
    subst e
    exact .inl ⟨stop H s, hd H ys s h1 h3⟩
theorem lc_zipTF {K : PySem.W.Frag} {a b : Addr} {xs ys : List V} {g : TG} {tt : TT} {te : TE} {vs : List Nat} {σ : L2.St} {H1 : Hp} {D : Addr} {Qd : Hp → Prop} (Ip : Nat → List V → Prop) (hq : SqT K H1 a xs) (hq2 : SqT K H1 b ys) (hD : H1 D = none) (hn : xs.length ≤ 1000000) (h0 : Ip 0 [])
    (hs : ∀ (i : Nat) (x y : V) (T : Addr) (H : Hp) (acc : List V) (Qy : V → Hp → Prop) (Qn : Hp → Prop), xs[i]? = some x → ys[i]? = some y → Same H1 H → H D = some (.lst acc) → Ip i acc → H T = none → (∀ y H4, Same H1 H4 → H4 D = some (.lst acc) → Ip (i + 1) (acc ++ [y]) → Qy y H4) → (∀ H4, Same H1 H4 → H4 D = some (.lst acc) → Ip (i + 1) acc → Qn H4) →
      g (.ref T) (wipe σ vs) (L2.upd H T (.tup [x, y])) fun σ2 H2 => wipe σ2 vs = wipe σ vs ∧ tt σ2 H2 fun b H3 => if b = true then te σ2 H3 Qy else Qn H3)
    (hd : ∀ H zs, Same H1 H → H D = some (.lst zs) → Ip (min xs.length ys.length) zs → Qd H) : LcF (RZ.ItzT K a b) g tt te vs σ H1 D Qd :=
  lc_genF (J := RZ.ItzT K a b) (g := g) (tt := tt) (te := te) (vs := vs) (σ := σ) (H1 := H1) (D := D) (Qd := Qd) (min xs.length ys.length) Ip hD (by omega) h0 (fun H s => ⟨xs, ys, s.sqT hq, s.sqT hq2, by omega⟩) (fun i H hi s => ⟨xs, ys, xs[i], ys[i], s.sqT hq, s.sqT hq2, by simp, by simp⟩)
    (fun i H acc Qy Qn hi s hH hI k1 k2 x H' ⟨T, u, v, e1, e2, e3, f1, f2⟩ => by
      subst e1 e3
      exact hs i u v T H acc Qy Qn (f1 xs (s.sqT hq)) (f2 ys (s.sqT hq2)) s hH hI e2 k1 k2) hd
/-! ### the shares' sizes -/
theorem shr_bits {L : Nat → Nat → Int} {T : TS} (F : Good L T) {j : Nat} (hj : j < T.wide) : Bits 4000 (shr T.many T.wide T.tb j) := by
  by_cases z : ∃ i, i < T.many ∧ T.tb.be i = j
  · obtain ⟨i, hi, e⟩ := z
    have : shr T.many T.wide T.tb j = T.tb.T i (T.wide + T.many) := by
      unfold shr
      rw [sm_one hi fun k hk h => if_neg fun h2 => h (F.iv.inj hk hi (h2.trans e.symm)), if_pos e]
    rw [this]
    exact F.wf.bitT (by omega) (by omega)
  · have : shr T.many T.wide T.tb j = 0 := by
      unfold shr
      exact sm_const0 fun k hk => if_neg fun h => z ⟨k, hk, h⟩
    rw [this]
    show (0 : Int).natAbs < _
    exact Nat.two_pow_pos 4000
theorem frd_b1 {n : Nat} {a d : Int} (hd : 0 < d) (h : Bits n a) : Bits n (frd a d).1 := by unfold frd; exact Bits.div h (gcd_pos hd)
theorem frd_b2 {n : Nat} {a d : Int} (hd : 0 < d) (h : Bits n d) : Bits n (frd a d).2 := by unfold frd; exact Bits.div h (gcd_pos hd)
theorem bits_mul {a b : Nat} {i j : Int} (h1 : Bits a i) (h2 : Bits b j) : Bits (a + b) (i * j) := wide_lt h1 h2
theorem bits_add {a : Nat} {i j : Int} (h1 : Bits a i) (h2 : Bits a j) : Bits (a + 1) (i + j) := by
  unfold Bits at *
  have : (2 : Nat) ^ (a + 1) = 2 ^ a * 2 := Nat.pow_succ ..
  omega
theorem whole_bits {fs : List (Int × Int)} (h : FrOk fs) : ∀ x ∈ wholeI fs, Bits 400000 x := fun x hx => by
  obtain ⟨f, hf, rfl⟩ := List.mem_map.mp hx
  obtain ⟨h0, h1⟩ := h
  obtain ⟨h2, h3, h4⟩ := h1 f hf
  obtain ⟨c1, c2⟩ := cbot_ok fs.length fs (Nat.le_refl _) fun g hg => ⟨(h1 g hg).1, (h1 g hg).2.1⟩
  exact Bits.mono (bits_mul h4 (Bits.div c2 h2)) (by omega)
section
variable {P : Program} {w : World} {K : PySem.W.Frag} {mg : Str → Option Value} {base : Heap}
def spTold (K : PySem.W.Frag) : Sp := fun vs H Q _ => ∃ (p : Addr) (v : V) (g : Prg) (far : Bool) (lot : List Nat), vs = [.ref p, v, .str (wS far)] ∧ PrgAt K H p g ∧ g.Ok ∧ TD H v (dI (nI lot)) ∧ lot.length ≤ 24 ∧ lot ≠ [] ∧ lot.Nodup ∧ (∀ n ∈ lot, n < g.rs.length) ∧
  ∀ v' H' kept told row nums, Same H H' → ToldOk g far lot kept row nums → TD H' v' (.tuple [dI (nI kept), dI told, .tuple [dI row, dI nums]]) → Q v' H'
/-- the readings of a lot -/
theorem lot_rds {g : Prg} {lot : List Nat} (h : ∀ n ∈ lot, n < g.rs.length) : ∃ rds, LotOf g lot rds := by
  refine ⟨lot.map fun n => (g.rs[n]?).getD ⟨0, 0, []⟩, by simp, fun i n e => ?_⟩
  have hn := h n (List.mem_of_getElem? e)
  refine ⟨g.rs[n], List.getElem?_eq_getElem hn, ?_⟩
  rw [List.getElem?_map, e]
  show some ((g.rs[n]?).getD _) = _
  rw [List.getElem?_eq_getElem hn]; rfl
/-! told_of: slots 0 program, 1 lot, 2 world, 3 rows, 4 amounts, 5 worths, 6 word, 7 shares, 8 sides, 9 many, 10 kept_lot, 11 number, 12 share, 13 sums, 14 one, 15 other, 16 told, 17 amount, 18 numbers; calls ['G_solved', 'G_task_of', 'G_whole'] -/
abbrev N_told_of : List Str := ["program", "lot", "world", "rows", "amounts", "worths", "word", "shares", "sides", "many", "kept_lot", "number", "share", "sums", "one", "other", "told", "amount", "numbers"]
theorem sc_told_of : FnScope N_told_of ["program", "lot", "world"] (defScope s_told_of) := ⟨rfl, rfl, rfl, by decide +kernel, rfl, by decide +kernel, by decide +kernel⟩
theorem ok_told_of (W : Wd K mg) : Ok P w K mg base 6 "told_of" ["program", "lot", "world"] (spTold K) := by
  have sc := sc_told_of
  have G_task_of : Ok P w K mg base 2 "task_of" ["program", "lot", "world"] (spTask K) := ok_task_of W
  have G_solved : Ok P w K mg base 5 "solved" ["rows", "amounts", "worths"] spSolved := ok_solved W
  have G_whole : Ok P w K mg base 4 "whole" ["shares"] spWhole := ok_whole W
  refine Ok.mk' W.F_told_of W.g_told_of sc (fun vs H Q E h => ?_) (fun _ _ _ _ _ _ us hl => match us, hl with | [_, _, _], _ => rfl) (fun cdv A outer s H vs Q E hr h => ?_)
  · obtain ⟨p, v, g, far, lot, rfl, _⟩ := h
    rfl
  · obtain ⟨p, v, g, far, lot, rfl, PA, gok, hlot, ln, ne, nd, lrs, k⟩ := h
    obtain ⟨al, rfl, hal⟩ := id hlot.ints
    have t8 := gok.t8
    have s4 := gok.s4
    have fl := farI_len g far
    obtain ⟨rds, lo⟩ := lot_rds lrs
    have ll := lo.1
    have lpos : 0 < lot.length := List.length_pos_iff.mpr ne
    refine ⟨_, (pss_cons (ps_if (pt_cmpR op_eq (pe_callB (k_len K) (by rfl) W.b_len PySem.boot_len (pa_cons (pv 1) pa_nil)) pe_int (nomark _))
      (pss_one ps_never)
      pss_nil)
    (pss_cons (ps_asg (pe_c G_task_of (hr.mono (by decide)) (by rfl) (pa_cons (pv 0) (pa_cons (pv 1) (pa_cons (pv 2) pa_nil)))) (k_tup K rfl (pgs_cons (pg_name (i := 3) sc.nd rfl (Or.inl rfl)) (pgs_cons (pg_name (i := 4) sc.nd rfl (Or.inl rfl)) (pgs_cons (pg_name (i := 5) sc.nd rfl (Or.inl rfl)) pgs_nil)))))
    (pss_cons (ps_asg (pe_c G_solved (hr.mono (by decide)) (by rfl) (pa_cons (pv 3) (pa_cons (pv 4) (pa_cons (pv 5) pa_nil)))) (k_tup K rfl (pgs_cons (pg_name (i := 6) sc.nd rfl (Or.inl rfl)) (pgs_cons (pg_name (i := 7) sc.nd rfl (Or.inl rfl)) (pgs_cons (pg_name (i := 8) sc.nd rfl (Or.inl rfl)) pgs_nil)))))
    (pss_cons (ps_set (i := 9) sc.nd rfl (Or.inl rfl) (pe_callB (k_len K) (by rfl) W.b_len PySem.boot_len (pa_cons (pv 1) pa_nil)))
    (pss_cons (ps_set (i := 10) sc.nd rfl (Or.inl rfl) (pe_callTy (k_tupof K) (by rfl) W.b_tuple PyProof.Rows.boot_tuple (pa_cons (pe_lc (own := [("number", 11), ("share", 12)]) (g := gTup K 2 (gCons (gName 11) (gCons (gName 12) gNil))) rfl sc.nd (k_piz K (by rfl) W.b_zip (pa_cons (pv 1) (pa_cons (pe_slice (k_slt K) (pv 7) po_none (po_some (pv 9))) pa_nil))) (blkOk_by (N := N_told_of) (sc := defScope s_told_of) (by decide +kernel))  (fun _ _ _ _ _ => (k_tup K rfl (pgs_cons (pg_name (i := 11) sc.nd rfl (Or.inl rfl)) (pgs_cons (pg_name (i := 12) sc.nd rfl (Or.inl rfl)) pgs_nil)))) (fun _ _ _ _ _ => (pts_one (pt_cmpR op_gt (pe_ix (k_ixt K) (pv 12) pe_int (fun _ _ => rfl)) pe_int (nomark _)))) (fun _ _ _ _ _ => (pv 11))) pa_nil)))
    (pss_cons (ps_set (i := 13) sc.nd rfl (Or.inl rfl) (pe_lst pa_nil))
    (pss_cons (ps_for PassesOwn.never rfl (k_piz K (by rfl) W.b_zip (pa_cons (pe_slice (k_slt K) (pv 7) po_none (po_some (pv 9))) (pa_cons (pe_slice (k_slt K) (pv 7) (po_some (pv 9)) (po_some (pe_op op_mulW pe_int (pv 9)))) pa_nil))) (k_tup K rfl (pgs_cons (pg_name (i := 14) sc.nd rfl (Or.inl rfl)) (pgs_cons (pg_name (i := 15) sc.nd rfl (Or.inl rfl)) pgs_nil)))
      (pss_one (ps_expr (k_bm K PySem.F.plainAttrs_list PySem.F.slot_list_append PySem.F.type_list_append mt_append (pv 13) (pa_cons (pe_tup (pa_cons (pe_op op_add (pe_op op_mulW (pe_ix (k_ixt K) (pv 14) pe_int (fun _ _ => rfl)) (pe_ix (k_ixt K) (pv 15) pe_int (fun _ _ => rfl))) (pe_op op_mulW (pe_ix (k_ixt K) (pv 15) pe_int (fun _ _ => rfl)) (pe_ix (k_ixt K) (pv 14) pe_int (fun _ _ => rfl)))) (pa_cons (pe_op op_mulW (pe_ix (k_ixt K) (pv 14) pe_int (fun _ _ => rfl)) (pe_ix (k_ixt K) (pv 15) pe_int (fun _ _ => rfl))) pa_nil))) pa_nil)))))
    (pss_cons (ps_set (i := 16) sc.nd rfl (Or.inl rfl) (pe_op op_rep (pe_lst (pa_cons pe_int pa_nil)) (pe_callB (k_len K) (by rfl) W.b_len PySem.boot_len (pa_cons (k_fld K (pv 0) rfl) pa_nil))))
    (pss_cons (ps_for PassesOwn.never rfl (k_piz K (by rfl) W.b_zip (pa_cons (pv 1) (pa_cons (pe_c G_whole (hr.mono (by decide)) (by rfl) (pa_cons (pv 13) pa_nil)) pa_nil))) (k_tup K rfl (pgs_cons (pg_name (i := 11) sc.nd rfl (Or.inl rfl)) (pgs_cons (pg_name (i := 17) sc.nd rfl (Or.inl rfl)) pgs_nil)))
      (pss_one (ps_asg (pv 17) (pg_sub (pv 16) (pv 11) set_list))))
    (pss_cons (ps_set (i := 18) sc.nd rfl (Or.inl rfl) (pe_c G_whole (hr.mono (by decide)) (by rfl) (pa_cons (pe_slice (k_slt K) (pv 8) po_none (po_some (pe_op op_add (k_fld K (pv 0) rfl) (k_fld K (pv 0) rfl)))) pa_nil)))
    (pss_one (ps_ret (pe_tup (pa_cons (pv 10) (pa_cons (pe_callTy (k_tupof K) (by rfl) W.b_tuple PyProof.Rows.boot_tuple (pa_cons (pv 16) pa_nil)) (pa_cons (pe_tup (pa_cons (pe_slice (k_slt K) (pv 18) (po_some (k_fld K (pv 0) rfl)) po_none) (pa_cons (pe_slice (k_slt K) (pv 18) po_none (po_some (k_fld K (pv 0) rfl))) pa_nil))) pa_nil)))))))))))))))), ?_⟩
    refine ⟨_, rfl, al, _, rfl, .inr (SqT.of hal), ?_⟩
    rw [List.length_map, List.length_map]
    refine ⟨rfl, _, rfl, ?_⟩
    rw [decide_eq_false (show ¬ V.int ((lot.length : Nat) : Int) = V.int 0 from fun z => by injection z; omega)]
    refine iteF ?_
    -- the task
    refine ⟨_, rfl, _, rfl, _, rfl, p, _, g, far, lot, rds, rfl, PA, gok, hlot, ln, lo, fun Z H1 aR aA aW s1 hZ hR hA hW => ?_⟩
    refine ⟨Z, _, rfl, SqT.of hZ, rfl, _, _, rfl, _, _, rfl, _, _, rfl, rfl, ?_⟩
    have K1 := tsk_of (g := g) (rds := rds) (far := far)
    have lR := tRows_lr (g := g) (rds := rds) (far := far)
    have eR := tRows_len (g := g) (rds := rds) (far := far)
    have eW := tWo_len (g := g) (rds := rds) (far := far)
    have colb : ∀ r ∈ rds, ∀ c ∈ colI g.tables r, c.natAbs ≤ 2 ^ 40 := fun r hr c hc => by
      obtain ⟨i, hi, rfl⟩ := List.mem_iff_getElem.mp hr
      obtain ⟨r', h1, h2⟩ := lo.2 i (lot[i]'(by omega)) (List.getElem?_eq_getElem _)
      rw [List.getElem?_eq_getElem hi] at h2
      cases h2
      rcases List.mem_append.mp hc with h | h
      · obtain ⟨k, _, rfl⟩ := List.mem_map.mp h
        split <;> split <;> decide
      · have := (gok.rd _ (List.mem_of_getElem? h1)).2.2.2 c h
        omega
    have lb := lb_of (g := g) (rds := rds) (far := far) (by omega) t8 s4 colb
    refine ⟨_, rfl, _, rfl, _, rfl, aR, aA, aW, _, _, _, _, _, _, _, _, rfl, hR, hA, hW, ?_, lR, by omega, ?_, ?_, ?_, K1, lb, fun v2 H2 T s2 F hv2 => ?_⟩
    · unfold tAm tRows; simp
    · intro x hx
      rcases List.mem_append.mp hx with h | h
      · rw [(List.mem_replicate.mp h).2]; decide
      · rw [(List.mem_replicate.mp h).2]; decide
    · intro r hr x hx
      obtain ⟨i, hi, rfl⟩ := List.mem_iff_getElem.mp hr
      obtain ⟨j, hj, rfl⟩ := List.mem_iff_getElem.mp hx
      have hj2 : j < (tWo g rds far).length := by rw [← lR _ (List.getElem_mem hi)]; exact hj
      have h := small_of (g := g) (rds := rds) (far := far) (by omega) t8 s4 colb i j hi (by omega)
      rw [iT_row0 lR hi hj2, List.getD_eq_getElem?_getD, List.getElem?_eq_getElem hj] at h
      exact Nat.lt_of_le_of_lt h (Nat.pow_lt_pow_right (by decide) (by decide))
    · intro x hx
      rcases List.mem_append.mp hx with h | h
      · rw [(List.mem_replicate.mp h).2]; exact Nat.two_pow_pos 4000
      · rw [(List.mem_replicate.mp h).2]; exact (show (1 : Int).natAbs < 2 ^ 4000 from Nat.lt_of_lt_of_le (show 1 < 2 ^ 1 by decide) (Nat.pow_le_pow_right (by decide) (by decide)))
    have iv := F.good
    have hd : 0 < T.bottom := F.good.iv.pos
    have wf := F.good.wf
    obtain ⟨Z2, ys, rfl, hZ2, hs2⟩ := hv2.tup_inv
    cases hs2 with | cons hb hs2 => ?_
    cases hs2 with | cons hsh hs2 => ?_
    cases hs2 with | cons hsi hs2 => ?_
    cases hs2
    rw [hb.str_inv] at hZ2
    obtain ⟨aS, shs, rfl, hS, hsS⟩ := hsh.tup_inv
    obtain ⟨aD, sds, rfl, hD, hsD⟩ := hsi.tup_inv
    refine ⟨Z2, _, rfl, SqT.of hZ2, rfl, _, _, rfl, _, _, rfl, _, _, rfl, rfl, ?_⟩
    have s12 := s1.trans s2
    refine ⟨_, rfl, al, _, rfl, .inr (SqT.of (s12 _ _ hal)), ?_⟩
    rw [List.length_map, List.length_map]
    -- kept
    have lsh : shs.length = T.wide := by rw [hsS.length]; unfold wantedI; simp
    have hal2 := s12 _ _ hal
    refine st_eqG (t := gName 9) [some (.ref p), some (.ref al), some (.str (wS far)), some (.ref aR), some (.ref aA), some (.ref aW), some (.str "best"), some (.ref aS), some (.ref aD), none, none, none, none, none, none, none, none, none, none] ?_ rfl
    refine ⟨_, rfl, _, rfl, _, rfl, _, rfl, r_slC (K := K) hS fun pS H3 s3 hpS => ?_⟩
    rw [cut_lo] at hpS
    have hal3 := s3 _ _ hal2
    refine ⟨al, pS, _, _, rfl, .inr ⟨SqT.of hal3, SqT.of hpS, ?_⟩⟩
    intro D0 hD0
    refine lc_zipTF (fun i acc => ∃ ks : List Nat, acc = (nI ks).map V.int ∧ ks.Sublist (lot.take i) ∧ ∀ j, j < i → (lot.getD j 0 ∈ ks ↔ 0 < shr T.many T.wide T.tb j)) (SqT.of hal3) (SqT.of hpS) hD0 (by rw [List.length_map, List.length_map]; omega)
      ⟨[], rfl, List.nil_sublist _, fun j hj => by omega⟩ (fun i x y T0 H4 acc Qy Qn hx hy s4_ hA ⟨ks, e1, e2, e3⟩ hT k1 k2 => ?_) (fun H4 ys s4_ hys ⟨ks, e1, e2, e3⟩ => ?_)
    · have hx' := nats_at hx
      obtain ⟨n, hn, rfl⟩ := hx'
      have hi : i < lot.length := (List.getElem?_eq_some_iff.mp hn).1
      rw [List.getElem?_take, if_pos (by omega)] at hy
      obtain ⟨f, q, hf, rfl, hq⟩ := hsS.fracs hy
      have hq4 := s4_ _ _ (s3 _ _ hq)
      unfold wantedI at hf
      rw [List.getElem?_map, List.getElem?_range (by rw [F.wide]; omega)] at hf
      cases hf
      have s5 : Same H4 (upd H4 T0 (.tup [.int (n : Int), .ref q])) := Same.upd hT
      have hT5 : (upd H4 T0 (.tup [.int (n : Int), .ref q])) T0 = some (.tup [.int (n : Int), .ref q]) := upd_same
      generalize upd H4 T0 (.tup [.int (n : Int), .ref q]) = H5 at *
      have et : lot.take (i + 1) = lot.take i ++ [n] := by rw [List.take_add_one, hn]; rfl
      have en : lot.getD i 0 = n := by rw [List.getD_eq_getElem?_getD, hn]; rfl
      have nin : n ∉ lot.take i := fun h => by
        obtain ⟨j, hj, e⟩ := List.mem_take_iff_getElem.mp h
        have : lot[j] = lot[i] := by rw [e]; exact ((List.getElem?_eq_some_iff.mp hn).2).symm
        have := (List.getElem_inj nd).mp this
        omega
      have oth : ∀ j, j < i → lot.getD j 0 ≠ n := fun j hj e => nin (by
        rw [← e, List.getD_eq_getElem?_getD, List.getElem?_eq_getElem (by omega)]
        exact List.mem_take_iff_getElem.mpr ⟨j, by omega, rfl⟩)
      refine ⟨T0, _, rfl, SqT.of hT5, rfl, _, _, rfl, _, _, rfl, rfl, rfl, ?_⟩
      refine ⟨_, rfl, r_c (r_tgetI (j := 0) (s5 _ _ hq4) rfl rfl ?_)⟩
      refine ⟨_, _, rfl, rfl, _, rfl, ?_⟩
      refine ite2 (fun hc => ?_) (fun hc => ?_)
      · have hc : 0 < (frd (shr T.many T.wide T.tb i) T.bottom).1 := of_decide_eq_true hc
        rw [frd_top hd] at hc
        refine ⟨_, rfl, k1 _ _ (s4_.trans s5) (s5 _ _ hA) ⟨ks ++ [n], by rw [e1]; simp, ?_, fun j hj => ?_⟩⟩
        · rw [et]; exact List.Sublist.append e2 (List.Sublist.refl _)
        · by_cases z : j = i
          · subst z; rw [en]; simp [hc]
          · rw [List.mem_append]
            exact ⟨fun h => (e3 j (by omega)).mp (h.resolve_right fun h => oth j (by omega) (List.mem_singleton.mp h)), fun h => .inl ((e3 j (by omega)).mpr h)⟩
      · have hc : ¬ 0 < (frd (shr T.many T.wide T.tb i) T.bottom).1 := fun z => hc (decide_eq_true z)
        rw [frd_top hd] at hc
        refine k2 _ (s4_.trans s5) (s5 _ _ hA) ⟨ks, e1, ?_, fun j hj => ?_⟩
        · rw [et]; exact List.Sublist.trans e2 (List.sublist_append_left _ _)
        · by_cases z : j = i
          · subst z; rw [en]
            exact ⟨fun h => (nin (e2.subset h)).elim, fun h => (hc h).elim⟩
          · exact e3 j (by omega)
    · have em : min ((nI lot).map V.int).length (shs.take lot.length).length = lot.length := by
        rw [List.length_map, List.length_map, List.length_take, lsh, F.wide]; omega
      rw [em] at e2 e3
      rw [List.take_length] at e2
      rw [e1] at hys
      refine ⟨D0, _, rfl, .inl ⟨SqL.of hys, fun pk hpk => ?_⟩⟩
      have s5 : Same H4 (upd H4 pk (.tup ((nI ks).map V.int))) := Same.upd hpk
      have hk5 : (upd H4 pk (.tup ((nI ks).map V.int))) pk = some (.tup ((nI ks).map V.int)) := upd_same
      generalize upd H4 pk (.tup ((nI ks).map V.int)) = H5 at *
      -- sums
      refine st_eqG (t := gName 10) [some (.ref p), some (.ref al), some (.str (wS far)), some (.ref aR), some (.ref aA), some (.ref aW), some (.str "best"), some (.ref aS), some (.ref aD), some (.int ((lot.length : Nat) : Int)), none, none, none, none, none, none, none, none, none] ?_ rfl
      have s25 := (s3.trans s4_).trans s5
      refine ⟨Nat.zero_le _, fun S0 hS0 => ?_⟩
      have s6 : Same H5 (upd H5 S0 (.lst [])) := Same.upd hS0
      have hS6 : (upd H5 S0 (.lst [])) S0 = some (.lst []) := upd_same
      generalize upd H5 S0 (.lst []) = H6 at *
      have s26 := s25.trans s6
      refine ⟨_, rfl, _, rfl, _, rfl, r_slC (K := K) (s26 _ _ hS) fun p1 H7 s7 hp1 => ?_⟩
      rw [cut_lo] at hp1
      have s27 := s26.trans s7
      refine ⟨_, rfl, _, rfl, _, rfl, _, rfl, _, _, rfl, rfl, wide_mul (a := 2) (b := 30) (by decide) (by omega) (by decide) (by decide) (by decide), _, rfl, ?_⟩
      rw [show (2 : Int) * ((lot.length : Nat) : Int) = ((2 * lot.length : Nat) : Int) by omega]
      refine r_slC (K := K) (s27 _ _ hS) fun p2 H8 s8 hp2 => ?_
      rw [cut_mid (by omega), show 2 * lot.length - lot.length = lot.length by omega] at hp2
      have hp1' := s8 _ _ hp1
      have s28 := s27.trans s8
      have l1 : (shs.take lot.length).length = lot.length := by rw [List.length_take, lsh, F.wide]; omega
      have l2 : ((shs.drop lot.length).take lot.length).length = lot.length := by rw [List.length_take, List.length_drop, lsh, F.wide]; omega
      obtain ⟨fr, hfr⟩ : ∃ fr : Nat → Int × Int, fr = fun j => frd (shr T.many T.wide T.tb j) T.bottom := ⟨_, rfl⟩
      have frB : ∀ j, j < T.wide → 0 < (fr j).2 ∧ Bits 4000 (fr j).1 ∧ Bits 4000 (fr j).2 := fun j hj => by
        rw [hfr]
        exact ⟨frd_bot hd, frd_b1 hd (shr_bits F.good hj), frd_b2 hd wf.bot⟩
      have shAt : ∀ (j : Nat) (x : V), shs[j]? = some x → ∃ q, x = .ref q ∧ H2 q = some (.tup [.int (fr j).1, .int (fr j).2]) := fun j x hx => by
        obtain ⟨f, q, hf, rfl, hq⟩ := hsS.fracs hx
        have hj : j < T.wide := by rw [← lsh]; exact (List.getElem?_eq_some_iff.mp hx).1
        unfold wantedI at hf
        rw [List.getElem?_map, List.getElem?_range hj] at hf
        cases hf
        rw [hfr]
        exact ⟨q, rfl, hq⟩
      obtain ⟨su, hsu⟩ : ∃ su : Nat → Int × Int, su = fun j => ((fr j).1 * (fr (lot.length + j)).2 + (fr (lot.length + j)).1 * (fr j).2, (fr j).2 * (fr (lot.length + j)).2) := ⟨_, rfl⟩
      have hk8 := s8 _ _ (s7 _ _ (s6 _ _ hk5))
      refine ⟨p1, p2, _, _, rfl, .inr ⟨SqT.of hp1', SqT.of hp2, ?_⟩⟩
      refine RZ.for_zipT (xs := shs.take lot.length) (ys := (shs.drop lot.length).take lot.length) (by rw [l1, l2]) (fun i σ H' => ∃ (v11 v12 v14 v15 v16 v17 v18 : Option V) (ys : List V), σ = [some (.ref p), some (.ref al), some (.str (wS far)), some (.ref aR), some (.ref aA), some (.ref aW), some (.str "best"), some (.ref aS), some (.ref aD), some (.int ((lot.length : Nat) : Int)), some (.ref pk), v11, v12, some (.ref S0), v14, v15, v16, v17, v18] ∧
          (∀ b o, H5 b = some o → H' b = some o) ∧ H' p1 = some (.tup (shs.take lot.length)) ∧ H' p2 = some (.tup ((shs.drop lot.length).take lot.length)) ∧ H' S0 = some (.lst ys) ∧ TDs H' ys ((List.range i).map fun j => dF (su j)))
        ⟨_, _, _, _, _, _, _, _, rfl, fun b o e => s8 _ _ (s7 _ _ (s6 _ _ e)), hp1', hp2, s8 _ _ (s7 _ _ hS6), .nil⟩ (fun i σ H' ⟨_, _, _, _, _, _, _, _, _, _, q1, q2, _⟩ => ⟨SqT.of q1, SqT.of q2⟩) ?_ ?_
      · rintro i x y T0 σ H9 hx hy ⟨v11, v12, v14, v15, v16, v17, v18, ys, rfl, s9, q1, q2, q3, q4⟩ hT
        have hi : i < lot.length := by rw [← l1]; exact (List.getElem?_eq_some_iff.mp hx).1
        rw [List.getElem?_take, if_pos hi] at hx
        rw [List.getElem?_take, if_pos hi, List.getElem?_drop] at hy
        obtain ⟨qx, rfl, hqx⟩ := shAt _ _ hx
        obtain ⟨qy, rfl, hqy⟩ := shAt _ _ hy
        have hqx9 := s9 _ _ (s25 _ _ hqx)
        have hqy9 := s9 _ _ (s25 _ _ hqy)
        obtain ⟨b0, b1, b2⟩ := frB i (by rw [F.wide]; omega)
        obtain ⟨b3, b4, b5⟩ := frB (lot.length + i) (by rw [F.wide]; omega)
        have sT : Same H9 (upd H9 T0 (.tup [.ref qx, .ref qy])) := Same.upd hT
        have hTT : (upd H9 T0 (.tup [.ref qx, .ref qy])) T0 = some (.tup [.ref qx, .ref qy]) := upd_same
        generalize upd H9 T0 (.tup [.ref qx, .ref qy]) = HA at *
        refine ⟨T0, _, rfl, SqT.of hTT, rfl, _, _, rfl, _, _, rfl, rfl, ?_⟩
        refine ⟨_, rfl, .inl ⟨rfl, _, SqL.of (sT _ _ q3)⟩, ?_⟩
        refine ⟨_, rfl, r_c (r_tgetI (j := 0) (sT _ _ hqx9) rfl rfl ?_)⟩
        refine ⟨_, rfl, r_c (r_tgetI (j := 1) (sT _ _ hqy9) rfl rfl ?_)⟩
        refine ⟨_, _, rfl, rfl, wide_mul b1 b5 (by decide) (by decide) (by decide), ?_⟩
        refine ⟨_, rfl, r_c (r_tgetI (j := 0) (sT _ _ hqy9) rfl rfl ?_)⟩
        refine ⟨_, rfl, r_c (r_tgetI (j := 1) (sT _ _ hqx9) rfl rfl ?_)⟩
        refine ⟨_, _, rfl, rfl, wide_mul b4 b2 (by decide) (by decide) (by decide), ?_⟩
        refine ⟨_, _, rfl, rfl, ?_⟩
        refine ⟨_, rfl, r_c (r_tgetI (j := 1) (sT _ _ hqx9) rfl rfl ?_)⟩
        refine ⟨_, rfl, r_c (r_tgetI (j := 1) (sT _ _ hqy9) rfl rfl ?_)⟩
        refine ⟨_, _, rfl, rfl, wide_mul b2 b5 (by decide) (by decide) (by decide), ?_⟩
        refine ⟨by show 2 ≤ sizeLine; decide, fun U hU => ?_⟩
        have eU : [V.int ((fr i).1 * (fr (lot.length + i)).2 + (fr (lot.length + i)).1 * (fr i).2), V.int ((fr i).2 * (fr (lot.length + i)).2)] = [V.int (su i).1, V.int (su i).2] := by rw [hsu]
        rw [eU]
        have sU : Same HA (upd HA U (.tup [V.int (su i).1, V.int (su i).2])) := Same.upd hU
        have hUU : (upd HA U (.tup [V.int (su i).1, V.int (su i).2])) U = some (.tup [V.int (su i).1, V.int (su i).2]) := upd_same
        generalize upd HA U (.tup [V.int (su i).1, V.int (su i).2]) = HB at *
        have s9B := sT.trans sU
        have lys : ys.length = i := by rw [q4.length]; simp
        refine ⟨S0, _, _, rfl, rfl, s9B _ _ q3, by rw [lys, sizeLine_eq]; omega, ?_⟩
        have nS : ∀ b o, H5 b = some o → b ≠ S0 := fun b o e => ne_of_none e hS0
        have nT : ∀ b xs, HB b = some (.tup xs) → b ≠ S0 := fun b xs e => ne_of e (s9B _ _ q3) (by intro z; cases z)
        have tsm : Tsm HB (upd HB S0 (.lst (ys ++ [.ref U]))) := fun b xs e => by rw [upd_ne (nT _ _ e)]; exact e
        refine ⟨_, _, _, _, _, _, _, _, rfl, fun b o e => by rw [upd_ne (nS _ _ e)]; exact s9B _ _ (s9 _ _ e), tsm _ _ (s9B _ _ q1), tsm _ _ (s9B _ _ q2), upd_same, ?_⟩
        rw [List.range_succ, List.map_append]
        refine TDs.append (q4.mono fun b xs e => tsm _ _ (s9B _ _ e)) (.one (.tup (tsm _ _ hUU) (.cons (.int _) (.cons (.int _) .nil))))
      · rintro σ H9 ⟨v11, v12, v14, v15, v16, v17, v18, ys, rfl, s9, q1, q2, q3, q4⟩
        rw [l1] at q4
        have s29 : Same H2 H9 := s25.trans s9
        have s09 := s12.trans s29
        obtain ⟨dx, ar, xr, A⟩ := id PA
        have A9 := A.mono s09
        -- told
        refine ⟨by show 1 ≤ sizeLine; decide, fun T0 hT0 => ?_⟩
        have sA : Same H9 (upd H9 T0 (.lst [.int 0])) := Same.upd hT0
        have hTA : (upd H9 T0 (.lst [.int 0])) T0 = some (.lst [.int 0]) := upd_same
        generalize upd H9 T0 (.lst [.int 0]) = HA at *
        have AA := A9.mono sA
        refine ⟨_, rfl, p, _, _, _, _, rfl, AA.hp, W.cl_Program, W.n_Program_readings, pf_readings, ?_⟩
        refine ⟨ar, _, rfl, .inr (SqT.of AA.ha), ?_⟩
        rw [AA.len]
        have g24 := gok.n
        refine ⟨T0, _, _, rfl, rfl, hTA, by omega, by omega, by rw [sizeLine_eq]; simp; omega, fun T1 hT1 => ?_⟩
        rw [rep_one, show ((g.rs.length : Nat) : Int).toNat = g.rs.length by omega]
        have sB : Same HA (upd HA T1 (.lst (List.replicate g.rs.length (.int 0)))) := Same.upd hT1
        have hTB : (upd HA T1 (.lst (List.replicate g.rs.length (.int 0)))) T1 = some (.lst ((List.replicate g.rs.length (0 : Int)).map V.int)) := by rw [upd_same, List.map_replicate]
        have nT1 : HA T1 = none := hT1
        generalize upd HA T1 (.lst (List.replicate g.rs.length (.int 0))) = HB at *
        have s9B := sA.trans sB
        -- whole(sums)
        have tld : TLD HB (.ref S0) (((List.range lot.length).map su).map dF) := ⟨S0, ys, rfl, .inl (s9B _ _ q3), by rw [List.map_map]; exact q4.mono (Tsm.of s9B)⟩
        have frok : FrOk ((List.range lot.length).map su) := by
          refine ⟨by simp; omega, fun f hf => ?_⟩
          obtain ⟨j, hj, rfl⟩ := List.mem_map.mp hf
          have hj : j < lot.length := List.mem_range.mp hj
          obtain ⟨b0, b1, b2⟩ := frB j (by rw [F.wide]; omega)
          obtain ⟨b3, b4, b5⟩ := frB (lot.length + j) (by rw [F.wide]; omega)
          rw [hsu]
          exact ⟨Int.mul_pos b0 b3, (bits_mul b2 b5).mono (by decide), (bits_add (bits_mul b1 b5) (bits_mul b4 b2)).mono (by decide)⟩
        refine ⟨_, rfl, _, rfl, _, _, rfl, tld, frok, fun w1 HC sC hw1 => ?_⟩
        obtain ⟨aw, rfl, haw⟩ := hw1.ints
        have s9C := s9B.trans sC
        have hkC := s9C _ _ (s9 _ _ hk5)
        have halC := s9C _ _ (s29 _ _ hal2)
        have lw : (wholeI ((List.range lot.length).map su)).length = lot.length := by unfold wholeI; simp
        refine ⟨al, aw, _, _, rfl, .inr ⟨SqT.of halC, SqT.of haw, ?_⟩⟩
        refine RZ.for_zipT (xs := (nI lot).map V.int) (ys := (wholeI ((List.range lot.length).map su)).map V.int) (by rw [List.length_map, List.length_map, List.length_map, lw]) (fun i σ H' => ∃ (v11 v12 v14 v15 v17 v18 : Option V) (told : List Int), σ = [some (.ref p), some (.ref al), some (.str (wS far)), some (.ref aR), some (.ref aA), some (.ref aW), some (.str "best"), some (.ref aS), some (.ref aD), some (.int ((lot.length : Nat) : Int)), some (.ref pk), v11, v12, some (.ref S0), v14, v15, some (.ref T1), v17, v18] ∧
            (∀ b o, HA b = some o → H' b = some o) ∧ H' aw = some (.tup ((wholeI ((List.range lot.length).map su)).map V.int)) ∧ H' T1 = some (.lst (told.map V.int)) ∧ told.length = g.rs.length)
          ⟨_, _, _, _, _, _, _, rfl, fun b o e => sC _ _ (sB _ _ e), haw, sC _ _ hTB, by simp⟩ (fun i σ H' ⟨_, _, _, _, _, _, _, _, q5, q6, _⟩ => ⟨SqT.of (q5 _ _ (sA _ _ (s29 _ _ hal2))), SqT.of q6⟩) ?_ ?_
        · rintro i x y TT σ HD hx hy ⟨v11, v12, v14, v15, v17, v18, told, rfl, q5, q6, q7, q8⟩ hTT
          obtain ⟨n, hn, rfl⟩ := nats_at hx
          obtain ⟨am, ham, rfl⟩ := ints_at hy
          have hnr := lrs n (List.mem_of_getElem? hn)
          have sT : Same HD (upd HD TT (.tup [.int (n : Int), .int am])) := Same.upd hTT
          have hTT2 : (upd HD TT (.tup [.int (n : Int), .int am])) TT = some (.tup [.int (n : Int), .int am]) := upd_same
          generalize upd HD TT (.tup [.int (n : Int), .int am]) = HE at *
          refine ⟨TT, _, rfl, SqT.of hTT2, rfl, _, _, rfl, _, _, rfl, rfl, ?_⟩
          refine ⟨_, rfl, _, rfl, _, rfl, ?_⟩
          refine ⟨T1, _, _, n, rfl, rfl, sT _ _ q7, ?_, ?_⟩
          · unfold ixN
            rw [if_pos (by omega), if_pos (by rw [List.length_map]; omega)]
            congr 1
          · have tsm : ∀ b xs, HE b = some (.tup xs) → b ≠ T1 := fun b xs e => ne_of e (sT _ _ q7) (by intro z; cases z)
            refine ⟨_, _, _, _, _, _, told.set n am, rfl, fun b o e => by rw [upd_ne (ne_of_none e nT1)]; exact sT _ _ (q5 _ _ e), by rw [upd_ne (tsm _ _ (sT _ _ q6))]; exact sT _ _ q6, by rw [upd_same, ← List.map_set], by rw [List.length_set]; exact q8⟩
        · rintro σ HD ⟨v11, v12, v14, v15, v17, v18, told, rfl, q5, q6, q7, q8⟩
          have s9D : Same H9 HD := fun b o e => q5 _ _ (sA _ _ e)
          have s2D : Same H2 HD := s29.trans s9D
          have AD := A9.mono s9D
          -- numbers
          obtain ⟨FS, hFS⟩ : ∃ FS, FS = ((List.range (g.tables + g.sides)).map fun k => T.tb.T (tRows g rds far).length ((tWo g rds far).length + k)).map fun y => frd y T.bottom := ⟨_, rfl⟩
          have lFS : FS.length = g.tables + g.sides := by rw [hFS]; simp
          have tFS : TDs H2 (sds.take (g.tables + g.sides)) (FS.map dF) := by
            have h := hsD.take (g.tables + g.sides)
            have e : ((sideI T (tRows g rds far).length).map dF).take (g.tables + g.sides) = FS.map dF := by
              rw [hFS]
              unfold sideI
              rw [← List.map_take, ← List.map_take, List.take_range, F.many, F.wide, Nat.min_eq_left (by omega)]; simp only [List.map_map]; rfl
            rw [e] at h; exact h
          have fFS : FrOk FS := by
            refine ⟨by omega, fun f hf => ?_⟩
            rw [hFS] at hf
            obtain ⟨y, hy, rfl⟩ := List.mem_map.mp hf
            obtain ⟨k', hk', rfl⟩ := List.mem_map.mp hy
            have hk' : k' < g.tables + g.sides := List.mem_range.mp hk'
            have hb := wf.bitT (i := (tRows g rds far).length) (j := (tWo g rds far).length + k') (by rw [F.many]; omega) (by rw [F.many, F.wide]; omega)
            exact ⟨frd_bot hd, (frd_b2 hd wf.bot).mono (by decide), (frd_b1 hd hb).mono (by decide)⟩
          refine ⟨_, rfl, ?_⟩
          refine ⟨_, rfl, p, _, _, _, _, rfl, AD.hp, W.cl_Program, W.n_Program_tables, pf_tables, ?_⟩
          refine ⟨_, rfl, p, _, _, _, _, rfl, AD.hp, W.cl_Program, W.n_Program_sides, pf_sides, ?_⟩
          refine ⟨_, _, rfl, rfl, _, rfl, ?_⟩
          rw [show ((g.tables : Nat) : Int) + ((g.sides : Nat) : Int) = ((g.tables + g.sides : Nat) : Int) by omega]
          refine r_slC (K := K) (s2D _ _ hD) fun p3 HE sE hp3 => ?_
          rw [cut_lo] at hp3
          refine ⟨.ref p3, FS, rfl, ⟨p3, _, rfl, .inr hp3, tFS.mono (Tsm.of (s2D.trans sE))⟩, fFS, fun w2 HF sF hw2 => ?_⟩
          obtain ⟨an, rfl, han⟩ := hw2.ints
          obtain ⟨N, hN⟩ : ∃ N, N = wholeI FS := ⟨_, rfl⟩
          rw [← hN] at han
          have AF := (AD.mono sE).mono sF
          -- return
          have sDF := sE.trans sF
          refine ⟨_, rfl, ?_⟩
          refine ⟨_, rfl, T1, _, rfl, .inl ⟨SqL.of (sDF _ _ q7), fun l hl => ?_⟩⟩
          have sG : Same HF (upd HF l (.tup (told.map V.int))) := Same.upd hl
          have hlG : (upd HF l (.tup (told.map V.int))) l = some (.tup (told.map V.int)) := upd_same
          generalize upd HF l (.tup (told.map V.int)) = HG at *
          have AG := AF.mono sG
          refine ⟨_, rfl, ?_⟩
          refine ⟨_, rfl, p, _, _, _, _, rfl, AG.hp, W.cl_Program, W.n_Program_tables, pf_tables, ?_⟩
          refine ⟨_, rfl, ?_⟩
          refine no_part ?_
          refine r_slC (K := K) (sG _ _ han) fun p4 HI sI hp4 => ?_
          rw [cut_hi] at hp4
          have AI := AG.mono sI
          refine ⟨_, rfl, ?_⟩
          refine ⟨_, rfl, p, _, _, _, _, rfl, AI.hp, W.cl_Program, W.n_Program_tables, pf_tables, ?_⟩
          refine ⟨_, rfl, ?_⟩
          refine r_slC (K := K) (sI _ _ (sG _ _ han)) fun p5 HJ sJ hp5 => ?_
          rw [cut_lo] at hp5
          refine ⟨by show 2 ≤ sizeLine; decide, fun U hU => ⟨by show 3 ≤ sizeLine; decide, fun R hR => ?_⟩⟩
          have sK : Same HJ (upd HJ U (.tup [.ref p4, .ref p5])) := Same.upd hU
          have hUK : (upd HJ U (.tup [.ref p4, .ref p5])) U = some (.tup [.ref p4, .ref p5]) := upd_same
          generalize upd HJ U (.tup [.ref p4, .ref p5]) = HK at *
          have sR : Same HK (upd HK R (.tup [.ref pk, .ref l, .ref U])) := Same.upd hR
          have hRR : (upd HK R (.tup [.ref pk, .ref l, .ref U])) R = some (.tup [.ref pk, .ref l, .ref U]) := upd_same
          generalize upd HK R (.tup [.ref pk, .ref l, .ref U]) = HR at *
          have sIR := (sJ.trans sK).trans sR
          have sDR : Same HD HR := (((sDF.trans sG).trans sI).trans sIR)
          have hkR := sDR _ _ (s9D _ _ (s9 _ _ hk5))
          refine k _ _ ks told (N.drop g.tables) (N.take g.tables) ((s12.trans s2D).trans sDR) ?_ (.tup hRR (.cons (.of_ints hkR) (.cons (.of_ints (sIR _ _ (sI _ _ hlG))) (.cons (.tup (sR _ _ hUK) (.cons (.of_ints ?_) (.cons (.of_ints ?_) .nil))) .nil))))
          · exact told_of_fin gok nd lo ln K1 F e2 (by rw [F.many, F.wide] at e3; exact e3) (by rw [hN, hFS]) (by rw [hN]; exact whole_bits fFS)
          · rw [List.map_drop]; exact sIR _ _ hp4
          · rw [List.map_take]; exact (sK.trans sR) _ _ hp5
end
end TN
set_option Elab.async false
set_option linter.all false
set_option maxRecDepth 100000
set_option maxHeartbeats 4000000
/-! W16: rules of my own: d.copy(), list(d.values()), sorted over tuples. -/
namespace TN
open PySem PySem.Spec PyProof.Rows L2
/-! ### d.copy() -/
def rDCopy : V → List V → Hp → VK → Prop := fun x vs H Q => ∃ (a : Addr) (kvs : List (Key × V)), x = .ref a ∧ vs = [] ∧ H a = some (.dK kvs) ∧ ∀ q, H q = none → Q (.ref q) (upd H q (.dK kvs))
theorem mtd_copy {X : Cx} : MtR X "dict.copy" rDCopy := by
  intro pins s σ H x vs v us Q I rx rv h
  obtain ⟨a, kvs, ex, ev, e, q⟩ := h
  subst ex
  subst ev
  obtain rfl : v = Value.ref a := rx
  have hus := rv.zero
  subst hus
  obtain ⟨z, hd, vs, rel, dd⟩ := dk_rd I.hok (.inl e)
  refine call_meetsIn PySem.F.slot_dict_copy dd.typeIs PySem.F.entry_dict_copy (PySem.F.args_dict_copy_1 _) (meets_dict_copy (mixKind X.prog X.w) a hd) ⟨vs, dd, by rw [← rel.length]; exact z, fun h' dd' _ hs => ?_⟩
  refine ⟨.ref s.heap.objs.size, upd H s.heap.objs.size (.dK kvs), I.laid (a := s.heap.objs.size) (o := .dK kvs) (t' := s.toks) (fun b q hq => hs b q hq) (Nat.le_refl _) (dk_new z (beq_eq_false_iff_ne.mpr (Ne.symm (Nat.ne_of_lt I.big))) rel dd'), rfl, q _ (I.hok.fresh (Nat.le_refl _))⟩
section
variable {X : Cx} {o : Expr} {to : TE} {apos cpos : Pos}
theorem pe_dcopy (K : PySem.W.Frag) (ho : PE X o to) (h : X.K = K := by rfl) (hbase : attributeBase o "copy" X.env (eval o X.env) = eval o X.env := by rfl) (hline : (apos.endLine == cpos.line) = true := by rfl) : PE X (.Call (.Attribute o "copy" apos) [] [] cpos) (tBM0 K "dict" rDCopy to) := by
  subst h; exact pe_bm0 PySem.F.plainAttrs_dict PySem.F.slot_dict_copy PySem.F.type_dict_copy mtd_copy ho hbase hline
end
/-! ### list(d.values()) -/
def rValsL : V → Hp → VK → Prop := fun x H Q => ∃ (d : Addr) (kvs : List (Key × V)), x = .ref d ∧ H d = some (.dK kvs) ∧ ∀ q, H q = none → Q (.ref q) (upd H q (.lst (kvs.map (·.2))))
def tListVals (te : TE) : TE := fun σ H Q => te σ H fun x H1 => rValsL x H1 Q
section
variable {X : Cx} {e : Expr} {te : TE} {p apos cpos pos : Pos}
theorem kv_vals {kvs : List (Key × V)} {vs : List (Key × Value)} (r : KV kvs vs) {j : Nat} {x : V} {k : Key} {w : Value} (h1 : (kvs.map (·.2))[j]? = some x) (h2 : vs[j]? = some (k, w)) : RelV x w := by
  rw [List.getElem?_map] at h1
  cases e : kvs[j]? with
  | none => rw [e] at h1; cases h1
  | some kv =>
    rw [e] at h1
    cases h1
    obtain ⟨y, g1, g2⟩ := LiI.paired_get r e
    rw [h2] at g1
    cases g1
    exact g2.2
theorem pe_listVals (hc : X.calm = true) (he : PE X e te) (hg : Gl X "list") (hm : X.mg "list" = none) (hv : bootBuiltins "list" = some (.type "list")) (hbase : attributeBase e "values" X.env (eval e X.env) = eval e X.env := by rfl) (hline : (apos.endLine == cpos.line) = true := by rfl)
    (hs : starEach [.Call (.Attribute e "values" apos) [] [] cpos] X.env = (false, eval (.Call (.Attribute e "values" apos) [] [] cpos) X.env) :: starEach [] X.env := by rfl) :
    PE X (.Call (.Name "list" p) [.Call (.Attribute e "values" apos) [] [] cpos] [] pos) (tListVals te) := by
  refine ⟨fun pins s σ H Q I hq => ?_⟩
  refine wpAny_Call_Name_kw (ld_blt I hg hm hv ?_)
  refine PyProof.Rows.callWith_type1 ?_ hs rfl
  rw [hs]
  show wpAny _ _ (spliced ((false, eval (.Call (.Attribute e "values" apos) [] [] cpos) X.env) :: backTo pos (starEach [] X.env))) _ _ s
  refine Calls.spliced_cons ?_
  refine wpAny_Call_method (T := "dict") (id := "dict.values") hbase rfl hline PySem.F.plainAttrs_dict PySem.F.slot_dict_values PySem.F.type_dict_values (thn (he.run pins s σ H _ I hq) fun u s1 ⟨x, H1, I1, rx, d, kvs, ex, hd, q⟩ => ?_)
  subst ex
  obtain rfl : u = Value.ref d := rx
  obtain ⟨hz, hs0, vs, kv, hdo⟩ := I1.hok d _ hd
  obtain ⟨ep, hat⟩ := hdo.dictAt
  have lk : kvs.length = vs.length := Paired.length kv
  have I2 : Inv X pins σ H1 { s1 with heap := s1.heap.push { cls := .type "dict_values", data := .fields #[.ref d] } } := I1.kept (t' := s1.toks) fun b ob q => Heap.get?_push_of_some _ q
  refine ⟨hdo.typeIs, hdo.mapOf.noDict, ?_⟩
  show wpAny _ _ (callWith cpos (.builtin "dict.values") [.ref d] [] []) _ X.xe s1
  refine method_meetsIn PySem.F.slot_dict_values PySem.F.entry_dict_values rfl (PySem.evalArgs_none ⟨rfl, hdo.typeIs, PySem.F.args_dict_values_1 _, _, meets_dict_values (mixKind X.prog X.w) d hs0, ⟨vs, hdo⟩, ?_⟩)
  refine Calls.spliced_nil ?_
  refine PySem.W.kdl_call (PySem.W.kdl_values (knd := mixKind X.prog X.w) (kvs := vs) (ep := ep)) (I1.ok.hd hc) ⟨⟨_, Heap.get?_push_size _ rfl, rfl, rfl⟩, hat.push _⟩ (by rw [← lk]; exact hz) fun h' tk acc' c' hkeep hS hacc => ?_
  refine ⟨.ref _, upd H1 _ (.lst (kvs.map (·.2))), I2.laid hkeep (Nat.le_refl _) (show ObjOk X.prog X.w _ _ _ (.lst (kvs.map (·.2))) from ⟨by rw [List.length_map]; exact hz, acc'.toList, c', ?_, ?_⟩), rfl, q _ (I2.hok.fresh (Nat.le_refl _))⟩
  · have el : acc'.toList.length = acc'.size := by simp
    refine vals_of_at (by rw [List.length_map, el, hacc.1, lk]) fun j x w h1 h2 => ?_
    obtain ⟨k, hky⟩ := hacc.2 j w (by rw [← Array.getElem?_toList]; exact h2)
    exact kv_vals kv h1 hky
  · rw [Array.toArray_toList]; exact hS
end
/-! ### sorted over data -/
/-- the new list's items, told by pairs of a value and its data -/
def rSortT (K : PySem.W.Frag) : List V → Hp → VK → Prop := fun vs H Q => ∃ (a : Addr) (bs : List (V × PyData)), vs = [.ref a] ∧ SqL K H a (bs.map (·.1)) ∧ (∀ b ∈ bs, TD H b.1 b.2) ∧ PySem.W.AllAlike (bs.map (·.2)) ∧ PySem.W.Sortable (bs.map (·.2)) ∧ bs.length ≤ 1000 ∧ (∀ b ∈ bs, b.2.depth ≤ 40) ∧
  ∀ q, H q = none → Q (.ref q) (upd H q (.lst ((bs.mergeSort (PySem.W.dataLe false (·.2))).map (·.1))))
theorem cr_sortT {X : Cx} (hu : X.A.units + 64 < cLine) : CallR X (.builtin "sorted") (rSortT X.K) := by
  intro pins s σ H vs us Q I r h
  obtain ⟨a, bs, rfl, hs, htd, hal, hk, hL, hdp, q⟩ := h
  obtain ⟨its, rv, hl, hz⟩ := I.list hs
  clear hz
  rw [Vals.ref1 r]
  have e : PySem.W.EachIs (fun (v : Value) (b : V × PyData) => RelV b.1 v) its bs := by
    clear htd hal hk hL hdp q hs hl
    induction bs generalizing its with
    | nil => cases rv; exact .nil
    | cons b bs ih => cases rv with | cons h1 h2 => exact .cons h1 (ih _ h2)
  have er : PySem.W.EachIs (fun (v : Value) (b : V × PyData) => ∃ as, Reads s.heap v b.2 as) its bs := by
    clear hal hk hL hdp q hs hl rv
    induction e with
    | nil => exact .nil
    | cons h1 h2 ih =>
      refine .cons ?_ (ih fun b hb => htd b (List.mem_cons_of_mem _ hb))
      exact Dp.reads I _ _ _ (htd _ List.mem_cons_self).dp h1
  refine PySem.W.sorted_data (β := V × PyData) (enc := (·.2)) (R := fun v b => RelV b.1 v) hl.isList e er hal hk (by rw [sizeLine_eq]; omega) (fun b hb => by have := hdp b hb; omega) fun out ho eo => ?_
  obtain ⟨ep, he'⟩ := PyProof.Rows.sortedAll_at s.heap its (List.toArray out)
  have hp : (bs.mergeSort (PySem.W.dataLe false (·.2))).length = bs.length := List.length_mergeSort _
  refine ⟨.ref _, upd H (s.heap.objs.size + 1) (.lst ((bs.mergeSort (PySem.W.dataLe false (·.2))).map (·.1))), I.laid (t' := s.toks) (fun _ _ => PyProof.Rows.sortedAll_old) (Nat.le_succ _) ⟨by rw [List.length_map, hp, sizeLine_eq]; omega, out, ep, ?_, he'⟩, rfl, q _ (I.hok.fresh (Nat.le_succ _))⟩
  generalize bs.mergeSort (PySem.W.dataLe false (·.2)) = cs at eo
  clear ho he' hp
  induction eo with
  | nil => exact .nil
  | cons h1 h2 ih => exact .cons h1 ih
theorem k_sortT (K : PySem.W.Frag) {X : Cx} (hu : X.A.units + 64 < cLine) (h : X.K = K := by rfl) : CallR X (.builtin "sorted") (rSortT K) := by subst h; exact cr_sortT hu
end TN
set_option Elab.async false
set_option linter.all false
set_option maxRecDepth 100000
set_option maxHeartbeats 4000000
/-! W17: dicts of tables; goals_of, reached_from, tables_in, every. -/
namespace TN
open PySem PySem.Spec PyProof.Rows L2
/-! ### dicts whose keys are tables -/
abbrev nK (k : Nat) : Key := Sum.inl (k : Int)
def DS (H : Hp) (a : Addr) (ks : List Nat) : Prop := ∃ kvs : List (Key × V), H a = some (.dK kvs) ∧ kvs.map (·.1) = ks.map nK ∧ ks.Nodup
theorem nK_inj {i j : Nat} (h : nK i = nK j) : i = j := by
  have h2 : ((i : Int)) = (j : Int) := Sum.inl.inj h
  omega
theorem ds_val {kvs : List (Key × V)} {ks : List Nat} (h : kvs.map (·.1) = ks.map nK) (k : Nat) : (valV kvs (nK k)).isSome = decide (k ∈ ks) := by
  rw [← valV_any, Bool.eq_iff_iff, List.any_eq_true, decide_eq_true_iff]
  constructor
  · rintro ⟨kv, h1, h2⟩
    have h3 : kv.1 ∈ kvs.map (·.1) := List.mem_map.mpr ⟨kv, h1, rfl⟩
    rw [h] at h3
    obtain ⟨j, hj, e⟩ := List.mem_map.mp h3
    have := nK_inj (e.trans (of_decide_eq_true h2))
    subst this; exact hj
  · intro hk
    have h3 : nK k ∈ kvs.map (·.1) := by rw [h]; exact List.mem_map.mpr ⟨k, hk, rfl⟩
    obtain ⟨kv, h1, h2⟩ := List.mem_map.mp h3
    exact ⟨kv, h1, decide_eq_true h2⟩
def addN (ks : List Nat) (k : Nat) : List Nat := if k ∈ ks then ks else ks ++ [k]
theorem mem_addN {ks : List Nat} {k j : Nat} : j ∈ addN ks k ↔ j ∈ ks ∨ j = k := by
  unfold addN
  split
  · constructor
    · exact .inl
    · rintro (h | rfl)
      · exact h
      · assumption
  · rw [List.mem_append, List.mem_singleton]
theorem nodup_addN {ks : List Nat} {k : Nat} (h : ks.Nodup) : (addN ks k).Nodup := by
  unfold addN
  split
  · exact h
  · rename_i hk
    rw [List.nodup_append]
    exact ⟨h, by simp, fun a ha b hb e => hk (by rw [List.mem_singleton] at hb; rw [← hb, ← e]; exact ha)⟩
theorem ds_keys {kvs : List (Key × V)} {ks : List Nat} (h : kvs.map (·.1) = ks.map nK) (k : Nat) (v : V) : (putK kvs (nK k) v).map (·.1) = (addN ks k).map nK := by
  have hv := ds_val h k
  unfold putK addN
  rw [valV_any, hv]
  by_cases z : k ∈ ks
  · rw [decide_eq_true z, if_pos rfl, if_pos z, ← h, List.map_map]
    refine List.map_congr_left fun kv _ => ?_
    show (if kv.1 = nK k then (kv.1, v) else kv).1 = kv.1
    split <;> rfl
  · rw [decide_eq_false z, if_neg (by decide), if_neg z, List.map_append, List.map_append, h]; rfl
theorem DS.mono {H H' : Hp} {a : Addr} {ks : List Nat} (h : DS H a ks) (e : ∀ o, H a = some o → H' a = some o) : DS H' a ks := let ⟨kvs, h1, h2⟩ := h; ⟨kvs, e _ h1, h2⟩
theorem len_le {ks : List Nat} {n : Nat} (nd : ks.Nodup) (h : ∀ k ∈ ks, k < n) : ks.length ≤ n := by
  have h2 := nd.length_le_of_subset (l₂ := List.range n) fun k hk => List.mem_range.mpr (h k hk)
  rw [List.length_range] at h2
  exact h2
/-- a comprehension, what is made so far told by Pv -/
theorem lc_genP {J : It} {g : TG} {te : TE} {vs : List Nat} {σ : L2.St} {H1 : Hp} {D : Addr} {Qd : Hp → Prop} (n : Nat) (Pv : Nat → List V → Hp → Prop) (hD : H1 D = none) (hn : n ≤ 1000000)
    (h0 : Pv 0 [] (L2.upd H1 D (.lst [])))
    (stop : ∀ H, Same H1 H → J.stop n H) (go : ∀ i H, i < n → Same H1 H → J.go i H)
    (hs : ∀ (i : Nat) (H : Hp) (acc : List V) (Qy : V → Hp → Prop), i < n → Same H1 H → H D = some (.lst acc) → Pv i acc H → (∀ y H4, Same H1 H4 → H4 D = some (.lst acc) → Pv (i + 1) (acc ++ [y]) (L2.upd H4 D (.lst (acc ++ [y]))) → Qy y H4) →
      ∀ x H', J.yld i H x H' → g x (wipe σ vs) H' fun σ2 H2 => wipe σ2 vs = wipe σ vs ∧ te σ2 H2 Qy)
    (hd : ∀ H ys, Same H1 H → H D = some (.lst ys) → ys.length = n → Pv n ys H → Qd H) :
    LcW J g te vs σ H1 D Qd := by
  refine ⟨fun i m H => m = n - i ∧ i ≤ n ∧ Same H1 H ∧ ∃ ys, H D = some (.lst ys) ∧ ys.length = i ∧ Pv i ys H, ⟨n, by simp, Nat.zero_le _, Same.upd hD, [], upd_same, rfl, h0⟩, ?_⟩
  rintro i m H ⟨rfl, hi, s, ys, h1, h2, h3⟩
  by_cases hlt : i < n
  · refine .inr ⟨go i H hlt s, fun H' => i + 1 ≤ n ∧ Same H1 H' ∧ ∃ ys, H' D = some (.lst ys) ∧ ys.length = i + 1 ∧ Pv (i + 1) ys H', fun H' p => ⟨n - (i + 1), by omega, rfl, p⟩, fun x H' y => ?_⟩
    refine hs i H ys _ hlt s h1 h3 (fun y H4 s4 e4 r4 => ?_) x H' y
    refine ⟨ys, e4, ?_, hlt, fun b o e => ?_, ys ++ [y], upd_same, by simp [h2], r4⟩
    · rw [h2, sizeLine_eq]; omega
    · rw [upd_ne (ne_of_none e hD)]; exact s4 _ _ e
  · have e : i = n := by omega
    subst e
    exact .inl ⟨stop H s, hd H ys s h1 h2 h3⟩
/-- .. over a range -/
theorem lc_rangeP {lo : Int} {n : Nat} {g : TG} {te : TE} {vs : List Nat} {σ : L2.St} {H1 : Hp} {D : Addr} {Qd : Hp → Prop} (Pv : Nat → List V → Hp → Prop) (hD : H1 D = none) (hn : n ≤ 1000000)
    (h0 : Pv 0 [] (L2.upd H1 D (.lst [])))
    (hs : ∀ (i : Nat) (H : Hp) (acc : List V) (Qy : V → Hp → Prop), i < n → Same H1 H → H D = some (.lst acc) → Pv i acc H → (∀ y H4, Same H1 H4 → H4 D = some (.lst acc) → Pv (i + 1) (acc ++ [y]) (L2.upd H4 D (.lst (acc ++ [y]))) → Qy y H4) →
      g (.int (lo + i)) (wipe σ vs) H fun σ2 H2 => wipe σ2 vs = wipe σ vs ∧ te σ2 H2 Qy)
    (hd : ∀ H ys, Same H1 H → H D = some (.lst ys) → ys.length = n → Pv n ys H → Qd H) : LcW (Itr lo n) g te vs σ H1 D Qd :=
  lc_genP (J := Itr lo n) (g := g) (te := te) (vs := vs) (σ := σ) (H1 := H1) (D := D) (Qd := Qd) n Pv hD hn h0 (fun H s => Nat.le_refl _) (fun i H hi s => hi)
    (fun i H acc Qy hi s hH hP k x H' ⟨e, y⟩ => by
      subst e y
      exact hs i _ acc Qy hi s hH hP k) hd
/-! ### who reads whom -/
def Ed (g : Prg) (lot : List Nat) (a b : Nat) : Prop := ∃ n ∈ lot, ∃ r, g.rs[n]? = some r ∧ r.x = a ∧ r.y = b
/-- the goals' dicts -/
def GoAt (g : Prg) (lot : List Nat) (H : Hp) (a : Addr) : Prop := ∃ as : List Addr, H a = some (.lst (as.map V.ref)) ∧ as.length = g.tables ∧ ∀ (t : Nat) (b : Addr), as[t]? = some b → ∃ ks, DS H b ks ∧ ∀ k, k ∈ ks ↔ Ed g lot t k
theorem GoAt.mono {g : Prg} {lot : List Nat} {H H' : Hp} {a : Addr} (h : GoAt g lot H a) (s : Same H H') : GoAt g lot H' a :=
  let ⟨as, h1, h2, h3⟩ := h
  ⟨as, s _ _ h1, h2, fun t b e => let ⟨ks, h4, h5⟩ := h3 t b e; ⟨ks, h4.mono (s _), h5⟩⟩
section
variable {P : Program} {w : World} {K : PySem.W.Frag} {mg : Str → Option Value} {base : Heap}
def LotIn (g : Prg) (lot : List Nat) : Prop := lot.length ≤ 24 ∧ lot.Nodup ∧ ∀ n ∈ lot, n < g.rs.length
def spGoals (K : PySem.W.Frag) : Sp := fun vs H Q _ => ∃ (p : Addr) (v : V) (g : Prg) (lot : List Nat), vs = [.ref p, v] ∧ PrgAt K H p g ∧ g.Ok ∧ TD H v (dI (nI lot)) ∧ LotIn g lot ∧
  ∀ a H', Same H H' → GoAt g lot H' a → Q (.ref a) H'
/-! goals_of: slots 0 program, 1 lot, 2 found, 3 table, 4 number, 5 reader, 6 read, 7 step; calls [] -/
abbrev N_goals_of : List Str := ["program", "lot", "found", "table", "number", "reader", "read", "step"]
theorem sc_goals_of : FnScope N_goals_of ["program", "lot"] (defScope s_goals_of) := ⟨rfl, rfl, rfl, by decide +kernel, rfl, by decide +kernel, by decide +kernel⟩
theorem ok_goals_of (W : Wd K mg) : Ok P w K mg base 1 "goals_of" ["program", "lot"] (spGoals K) := by
  have sc := sc_goals_of
  refine Ok.mk' W.F_goals_of W.g_goals_of sc (fun vs H Q E h => ?_) (fun _ _ _ _ _ _ us hl => match us, hl with | [_, _], _ => rfl) (fun cdv A outer s H vs Q E hr h => ?_)
  · obtain ⟨p, v, g, lot, rfl, _⟩ := h
    rfl
  · obtain ⟨p, v, g, lot, rfl, PA, gok, hlot, ⟨l24, nd, lin⟩, k⟩ := h
    obtain ⟨al, rfl, hal⟩ := id hlot.ints
    obtain ⟨dx, ar, xr, A0⟩ := id PA
    have t8 := gok.t8
    refine ⟨_, (pss_cons (ps_setLc (i := 2) (own := [("table", 3)]) (g := gName 3) rfl sc.nd rfl rfl (sw_true rfl rfl rfl (by decide +kernel)) (pi_range1 (by rfl) W.b_range (pa_cons (k_fld K (pv 0) rfl) pa_nil)) (blkOk_by (N := N_goals_of) (sc := defScope s_goals_of) (by decide +kernel))  (fun _ _ _ _ _ => (pg_name (i := 3) sc.nd rfl (Or.inl rfl))) (fun _ _ _ _ _ => pts_nil) (fun _ _ _ _ _ => pe_dnewK))
    (pss_cons (ps_for PassesOwn.never rfl (k_pit K (pv 1)) (pg_name (i := 4) sc.nd rfl (Or.inl rfl))
      (pss_cons (ps_asg (pe_ix (k_ixt K) (k_fld K (pv 0) rfl) (pv 4) (fun _ _ => rfl)) (k_tup K rfl (pgs_cons (pg_name (i := 5) sc.nd rfl (Or.inl rfl)) (pgs_cons (pg_name (i := 6) sc.nd rfl (Or.inl rfl)) (pgs_cons (pg_name (i := 7) sc.nd rfl (Or.inl rfl)) pgs_nil)))))
      (pss_one (ps_dput (hu_of hr) (pe_ix (k_ixl K) (pv 2) (pv 5) (fun _ _ => rfl)) (pv 6) pe_bl rfl))))
    (pss_one (ps_ret (pv 2))))), ?_⟩
    refine ⟨_, rfl, p, _, _, _, _, rfl, A0.hp, W.cl_Program, W.n_Program_tables, pf_tables, ?_⟩
    refine ⟨_, rfl, by omega, by omega, fun D hD => ?_⟩
    rw [show ((g.tables : Nat) : Int).toNat = g.tables by omega]
    refine lc_rangeP (fun i ys H' => ∃ as : List Addr, ys = as.map V.ref ∧ as.Nodup ∧ ∀ b ∈ as, H b = none ∧ b ≠ D ∧ H' b = some (.dK [])) hD (by omega)
      ⟨[], rfl, List.nodup_nil, fun b hb => by cases hb⟩ (fun i H1 acc Qy hi s1 hA ⟨as, e1, e2, e3⟩ z => ⟨rfl, fun b hb => ?_⟩) (fun H1 ys s1 hD1 hl ⟨as, e1, e2, e3⟩ => ?_)
    · have nb : b ∉ as := fun z => by rw [(e3 b z).2.2] at hb; cases hb
      have nD : b ≠ D := (ne_of_none hA hb).symm
      refine z _ _ (s1.to_upd hb) (by rw [upd_ne nD.symm]; exact hA) ⟨as ++ [b], by rw [e1, List.map_append]; rfl, ?_, fun c hc => ?_⟩
      · rw [List.nodup_append]
        exact ⟨e2, by simp, fun x hx y hy e => nb (by rw [List.mem_singleton] at hy; rw [← hy, ← e]; exact hx)⟩
      · rcases List.mem_append.mp hc with hc | hc
        · obtain ⟨g1, g2, g3⟩ := e3 c hc
          exact ⟨g1, g2, by rw [upd_ne g2, upd_ne (ne_of_none g3 hb)]; exact g3⟩
        · rw [List.mem_singleton.mp hc]
          exact ⟨s1.free hb, nD, by rw [upd_ne nD, upd_same]⟩
    · subst e1
      rw [List.length_map] at hl
      refine ⟨_, rfl, al, rfl, ⟨_, SqT.of (s1 _ _ hal)⟩, ?_⟩
      refine for_tup (K := K) (a := al) (xs := (nI lot).map V.int) (fun i σ H' => ∃ (v3 v4 v5 v6 v7 : Option V), σ = [some (.ref p), some (.ref al), some (.ref D), v3, v4, v5, v6, v7] ∧ Same H H' ∧ H' D = some (.lst (as.map V.ref)) ∧ ∀ (t : Nat) (b : Addr), as[t]? = some b → ∃ ks, DS H' b ks ∧ ks.length ≤ i ∧ ∀ k, k ∈ ks ↔ Ed g (lot.take i) t k)
        ⟨_, _, _, _, _, rfl, s1, hD1, fun t b e => ⟨[], ⟨[], (e3 b (List.mem_of_getElem? e)).2.2, rfl, List.nodup_nil⟩, Nat.le_refl _, fun k => ⟨fun z => (by cases z), fun z => (by obtain ⟨n, hn, _⟩ := z; cases hn)⟩⟩⟩ (fun i σ H' _ ⟨_, _, _, _, _, _, s, _⟩ => SqT.of (s _ _ hal)) ?_ ?_
      · rintro i x σ H2 hx ⟨v3, v4, v5, v6, v7, rfl, s2, hD2, hds⟩
        obtain ⟨n, hn, rfl⟩ := nats_at hx
        have hnr := lin n (List.mem_of_getElem? hn)
        obtain ⟨r, hr⟩ : ∃ r, g.rs[n]? = some r := ⟨_, List.getElem?_eq_getElem hnr⟩
        obtain ⟨rx, ry, _⟩ := gok.rd r (List.mem_of_getElem? hr)
        have A2 := A0.mono s2
        obtain ⟨q, sa, hq1, hq2, hq3⟩ := A2.rd hr
        refine ⟨_, rfl, p, _, _, _, _, rfl, A2.hp, W.cl_Program, W.n_Program_readings, pf_readings, ?_⟩
        refine ⟨_, rfl, r_tget (j := n) A2.ha hq1 ?_⟩
        refine ⟨q, _, rfl, SqT.of hq2, rfl, _, _, rfl, _, _, rfl, _, _, rfl, rfl, ?_⟩
        obtain ⟨b, hb⟩ : ∃ b, as[r.x]? = some b := ⟨_, List.getElem?_eq_getElem (by omega)⟩
        obtain ⟨ks, ⟨kvs, hk1, hk2, hk3⟩, kl, hk4⟩ := hds r.x b hb
        refine ⟨_, rfl, _, rfl, r_lget (j := r.x) (v := .ref b) hD2 (by rw [List.getElem?_map, hb]; rfl) ?_⟩
        have lk : kvs.length = ks.length := by rw [← List.length_map (f := (·.1)), hk2, List.length_map]
        have hi : i < lot.length := (List.getElem?_eq_some_iff.mp hn).1
        refine ⟨_, rfl, b, _, rfl, DPut.k (k := nK r.y) hk1 (by rw [lk, sizeLine_eq]; omega), ?_⟩
        obtain ⟨g1, g2, g3⟩ := e3 b (List.mem_of_getElem? hb)
        refine ⟨_, _, _, _, _, rfl, fun c o e => by rw [upd_ne (ne_of_none e g1)]; exact s2 _ _ e, by rw [upd_ne g2.symm]; exact hD2, fun t c hc => ?_⟩
        have et : lot.take (i + 1) = lot.take i ++ [n] := by rw [List.take_add_one, hn]; rfl
        have ed : ∀ t k, Ed g (lot.take (i + 1)) t k ↔ Ed g (lot.take i) t k ∨ (r.x = t ∧ r.y = k) := fun t k => by
          rw [et]
          constructor
          · rintro ⟨m, hm, r', h1, h2, h3⟩
            rcases List.mem_append.mp hm with hm | hm
            · exact .inl ⟨m, hm, r', h1, h2, h3⟩
            · rw [List.mem_singleton.mp hm, hr] at h1
              cases h1
              exact .inr ⟨h2, h3⟩
          · rintro (⟨m, hm, h⟩ | ⟨h1, h2⟩)
            · exact ⟨m, List.mem_append_left _ hm, h⟩
            · exact ⟨n, List.mem_append_right _ (List.mem_singleton.mpr rfl), r, hr, h1, h2⟩
        by_cases z : t = r.x
        · subst z
          rw [hb] at hc
          cases hc
          refine ⟨addN ks r.y, ⟨_, upd_same, ds_keys hk2 _ _, nodup_addN hk3⟩, ?_, fun k => ?_⟩
          · unfold addN; split
            · omega
            · rw [List.length_append, List.length_singleton]; omega
          · rw [mem_addN, ed, hk4]
            constructor
            · rintro (h | rfl)
              · exact .inl h
              · exact .inr ⟨rfl, rfl⟩
            · rintro (h | ⟨_, rfl⟩)
              · exact .inl h
              · exact .inr rfl
        · have nc : c ≠ b := fun e => z (by
            subst e
            exact (List.getElem?_inj (List.getElem?_eq_some_iff.mp hc).1 e2).mp (hc.trans hb.symm))
          obtain ⟨ks', d1, d2, d3⟩ := hds t c hc
          refine ⟨ks', d1.mono fun o e => by rw [upd_ne nc]; exact e, by omega, fun k => ?_⟩
          rw [ed, d3]
          exact ⟨.inl, fun h => h.resolve_right fun h => z h.1.symm⟩
      · rintro σ H2 ⟨v3, v4, v5, v6, v7, rfl, s2, hD2, hds⟩
        refine ⟨_, rfl, ?_⟩
        refine k _ _ s2 ⟨as, hD2, hl, fun t b e => ?_⟩
        obtain ⟨ks, d1, d2, d3⟩ := hds t b e
        refine ⟨ks, d1, ?_⟩
        rw [List.length_map, List.length_map, List.take_length] at d3
        exact d3
/-! reached_from: slots 0 goals, 1 table, 2 found, 3 waiting, 4 goal; calls [] -/
abbrev N_reached_from : List Str := ["goals", "table", "found", "waiting", "goal"]
theorem sc_reached_from : FnScope N_reached_from ["goals", "table"] (defScope s_reached_from) := ⟨rfl, rfl, rfl, by decide +kernel, rfl, by decide +kernel, by decide +kernel⟩
/-- a loop over a locked dict's keys -/
theorem for_keys {d : Addr} {o : Obj} {kvs : List (Key × V)} {g : TG} {tb : L2.TS} {D : Ends} {σ : L2.St} {H : Hp} (Pv : Nat → L2.St → Hp → Prop) (h0 : Pv 0 σ H) (hl : ∀ i σ H, Pv i σ H → H d = some (.frz o (.dK kvs)))
    (hs : ∀ i k v σ H, kvs[i]? = some (k, v) → Pv i σ H → g (kV k) σ H fun σ2 H2 => tb { D with nx := Pv (i + 1), ct := Pv (i + 1), bk := D.nx } σ2 H2) (hd : ∀ σ H, Pv kvs.length σ H → D.nx σ H) :
    ∃ W : Nat → Nat → L2.St → Hp → Prop, (∃ m, W 0 m σ H) ∧ ∀ i m σ H, W i m σ H →
      ((Itk d o kvs).stop i H ∧ D.nx σ H) ∨ ((Itk d o kvs).go i H ∧ ∃ N : L2.St → Hp → Prop, (∀ σ' H', N σ' H' → ∃ m', m' < m ∧ W (i + 1) m' σ' H') ∧ ∀ x H', (Itk d o kvs).yld i H x H' → g x σ H' fun σ2 H2 => tb { D with nx := N, ct := N, bk := D.nx } σ2 H2) := by
  refine ⟨fun i m σ H => m = kvs.length - i ∧ i ≤ kvs.length ∧ Pv i σ H, ⟨kvs.length, by simp, Nat.zero_le _, h0⟩, ?_⟩
  rintro i m σ H ⟨rfl, hi, p⟩
  have q := hl i σ H p
  by_cases hlt : i < kvs.length
  · refine .inr ⟨⟨q, hlt⟩, Pv (i + 1), fun σ' H' p' => ⟨kvs.length - (i + 1), by omega, rfl, hlt, p'⟩, fun x H' y => ?_⟩
    obtain ⟨e, k, v, hk, e2⟩ := y
    subst e e2
    exact hs i k v σ _ hk p
  · have e : i = kvs.length := by omega
    subst e
    exact .inl ⟨⟨q, Nat.le_refl _⟩, hd σ H p⟩
/-- walks of one reading or more -/
inductive Rc (g : Prg) (lot : List Nat) (a : Nat) : Nat → Prop
  | one {b : Nat} : Ed g lot a b → Rc g lot a b
  | step {b c : Nat} : Rc g lot a b → Ed g lot b c → Rc g lot a c
theorem ed_lt {g : Prg} (gok : g.Ok) {lot : List Nat} {a b : Nat} (h : Ed g lot a b) : a < g.tables ∧ b < g.tables := by
  obtain ⟨n, _, r, h1, rfl, rfl⟩ := h
  obtain ⟨rx, ry, _⟩ := gok.rd r (List.mem_of_getElem? h1)
  exact ⟨rx, ry⟩
theorem rc_lt {g : Prg} (gok : g.Ok) {lot : List Nat} {a b : Nat} (h : Rc g lot a b) : b < g.tables := by
  cases h with
  | one e => exact (ed_lt gok e).2
  | step _ e => exact (ed_lt gok e).2
def spReach : Sp := fun vs H Q _ => ∃ (a : Addr) (g : Prg) (lot : List Nat) (t : Nat), vs = [.ref a, .int (t : Int)] ∧ g.Ok ∧ GoAt g lot H a ∧ t < g.tables ∧
  ∀ D H', Same H H' → H D = none → (∃ ks, DS H' D ks ∧ ∀ k, k ∈ ks ↔ Rc g lot t k) → Q (.ref D) H'
theorem ok_reached_from (W : Wd K mg) : Ok P w K mg base 1 "reached_from" ["goals", "table"] spReach := by
  have sc := sc_reached_from
  refine Ok.mk' W.F_reached_from W.g_reached_from sc (fun vs H Q E h => ?_) (fun _ _ _ _ _ _ us hl => match us, hl with | [_, _], _ => rfl) (fun cdv A outer s H vs Q E hr h => ?_)
  · obtain ⟨a, g, lot, t, rfl, _⟩ := h
    rfl
  · obtain ⟨a, g, lot, t, rfl, gok, ⟨as, ha, las, has⟩, ht, k⟩ := h
    have t8 := gok.t8
    have at_ : ∀ u, u < g.tables → ∃ b ks, as[u]? = some b ∧ DS H b ks ∧ ∀ k, k ∈ ks ↔ Ed g lot u k := fun u hu => by
      have hb : as[u]? = some (as[u]'(by omega)) := List.getElem?_eq_getElem _
      obtain ⟨ks, h1, h2⟩ := has u _ hb
      exact ⟨_, ks, hb, h1, h2⟩
    refine ⟨_, (pss_cons (ps_set (i := 2) sc.nd rfl (Or.inl rfl) (pe_dcopy K (pe_ix (k_ixl K) (pv 0) (pv 1) (fun _ _ => rfl))))
    (pss_cons (ps_set (i := 3) sc.nd rfl (Or.inl rfl) (pe_callTy (call_list_dK rfl) (by rfl) W.b_list PyProof.Rows.boot_list (pa_cons (pv 2) pa_nil)))
    (pss_cons (ps_while PassesOwn.never (pt_cmpR op_gt (pe_callB (k_len K) (by rfl) W.b_len PySem.boot_len (pa_cons (pv 3) pa_nil)) pe_int (nomark _))
      (pss_one (ps_lock (ps_for PassesOwn.never rfl (pi_keys (pe_ix (k_ixl K) (pv 0) (k_bm0 K PySem.F.plainAttrs_list PySem.F.slot_list_pop PySem.F.type_list_pop mt_pop (pv 3)) (fun _ _ => rfl))) (pg_name (i := 4) sc.nd rfl (Or.inl rfl))
        (pss_one (ps_if (pt_cmp (pc_dnotin (hu_of hr) (pv 4) (pv 2)))
          (pss_cons (ps_dput (hu_of hr) (pv 2) (pv 4) pe_bl rfl)
          (pss_one (ps_expr (k_bm K PySem.F.plainAttrs_list PySem.F.slot_list_append PySem.F.type_list_append mt_append (pv 3) (pa_cons (pv 4) pa_nil)))))
          pss_nil))))))
    (pss_one (ps_ret (pv 2)))))), ?_⟩
    obtain ⟨b, ks, hb, ⟨kvs, hb1, hb2, hb3⟩, hks⟩ := at_ t ht
    refine ⟨_, rfl, _, rfl, r_lget (j := t) (v := .ref b) ha (by rw [List.getElem?_map, hb]; rfl) ?_⟩
    refine ⟨.inr (.inr (.inl ⟨rfl, .inl ⟨kvs, hb1⟩⟩)), b, kvs, rfl, rfl, hb1, fun F hF => ?_⟩
    have s1 : Same H (upd H F (.dK kvs)) := Same.upd hF
    have hF1 : (upd H F (.dK kvs)) F = some (.dK kvs) := upd_same
    generalize upd H F (.dK kvs) = H1 at *
    refine ⟨_, rfl, F, kvs, rfl, hF1, fun Wt hW => ?_⟩
    have ek : (kvs.map fun kv => kV kv.1) = (nI ks).map V.int := by
      have : (kvs.map fun kv => kV kv.1) = (kvs.map (·.1)).map kV := by rw [List.map_map]; rfl
      rw [this, hb2, List.map_map, List.map_map]; rfl
    rw [ek]
    have s2 : Same H1 (upd H1 Wt (.lst ((nI ks).map V.int))) := Same.upd hW
    have hW2 : (upd H1 Wt (.lst ((nI ks).map V.int))) Wt = some (.lst ((nI ks).map V.int)) := upd_same
    have nWF : Wt ≠ F := (ne_of_none hF1 hW).symm
    have hWn : H Wt = none := s1.free hW
    generalize upd H1 Wt (.lst ((nI ks).map V.int)) = H2 at *
    refine ⟨fun m σ H' => ∃ (v4 : Option V) (kvs : List (Key × V)) (ks wn : List Nat), σ = [some (.ref a), some (.int (t : Int)), some (.ref F), some (.ref Wt), v4] ∧ Same H H' ∧ H' F = some (.dK kvs) ∧ kvs.map (·.1) = ks.map nK ∧ ks.Nodup ∧ (∀ k ∈ ks, Rc g lot t k) ∧
        H' Wt = some (.lst ((nI wn).map V.int)) ∧ (∀ k ∈ wn, k ∈ ks) ∧ (∀ k ∈ ks, k ∉ wn → ∀ j, Ed g lot k j → j ∈ ks) ∧ (∀ j, Ed g lot t j → j ∈ ks) ∧ m = 2 * (g.tables - ks.length) + wn.length ∧ m ≤ 16,
      ⟨_, none, kvs, ks, ks, rfl, s1.trans s2, s2 _ _ hF1, hb2, hb3, fun k hk => .one ((hks k).mp hk), hW2, fun k hk => hk, fun k h1 h2 => (h2 h1).elim, fun j hj => (hks j).mpr hj, rfl, ?_⟩, ?_⟩
    · have := len_le hb3 fun x hx => (ed_lt gok ((hks x).mp hx)).2
      omega
    rintro m σ H3 ⟨v4, kvs, ks, wn, rfl, s3, hF3, hk1, hk2, hrc, hW3, hsub, hcl, ht3, rfl, h16⟩
    refine ⟨_, rfl, Wt, _, rfl, .inl (SqL.of hW3), ?_⟩
    refine ⟨_, _, rfl, rfl, _, rfl, ?_⟩
    rw [List.length_map, List.length_map]
    refine ite2 (fun hc => ?_) (fun hc => ?_)
    · have hc : (0 : Int) < ((wn.length : Nat) : Int) := of_decide_eq_true hc
      obtain ⟨wp, u, rfl⟩ : ∃ wp u, wn = wp ++ [u] := by
        rcases List.eq_nil_or_concat wn with rfl | ⟨gs, f, rfl⟩
        · simp at hc
        · exact ⟨gs, f, by rw [List.concat_eq_append]⟩
      have hu : u ∈ ks := hsub u (List.mem_append_right _ (List.mem_singleton.mpr rfl))
      have hut : u < g.tables := rc_lt gok (hrc u hu)
      obtain ⟨d, ku, hd, ⟨kvu, hd1, hd2, hd3⟩, hku⟩ := at_ u hut
      have ndF : d ≠ F := ne_of_none hd1 hF
      have ndW : d ≠ Wt := ne_of_none hd1 hWn
      refine ⟨fun σ' H' => ∃ m', m' < 2 * (g.tables - ks.length) + (wp ++ [u]).length ∧ ∃ (v4 : Option V) (kvs : List (Key × V)) (ks wn : List Nat), σ' = [some (.ref a), some (.int (t : Int)), some (.ref F), some (.ref Wt), v4] ∧ Same H H' ∧ H' F = some (.dK kvs) ∧ kvs.map (·.1) = ks.map nK ∧ ks.Nodup ∧ (∀ k ∈ ks, Rc g lot t k) ∧
        H' Wt = some (.lst ((nI wn).map V.int)) ∧ (∀ k ∈ wn, k ∈ ks) ∧ (∀ k ∈ ks, k ∉ wn → ∀ j, Ed g lot k j → j ∈ ks) ∧ (∀ j, Ed g lot t j → j ∈ ks) ∧ m' = 2 * (g.tables - ks.length) + wn.length ∧ m' ≤ 16, fun σ' H' h => h, ?_⟩
      refine ⟨d, _, s3 _ _ hd1, trivial, fun od => ?_⟩
      have dF : (upd H3 d (.frz od (.dK kvu))) d = some (.frz od (.dK kvu)) := upd_same
      have sF : ∀ b o, b ≠ d → H3 b = some o → (upd H3 d (.frz od (.dK kvu))) b = some o := fun b o n e => by rw [upd_ne n]; exact e
      generalize upd H3 d (.frz od (.dK kvu)) = H4 at *
      have nad : a ≠ d := ne_of ha hd1 (by intro z; cases z)
      refine ⟨_, rfl, _, rfl, .inl ⟨rfl, _, SqL.of (sF _ _ ndW.symm hW3)⟩, Wt, _, .int (u : Int), rfl, rfl, sF _ _ ndW.symm hW3, by simp, ?_⟩
      have ew : ((nI (wp ++ [u])).map V.int).dropLast = (nI wp).map V.int := by simp
      rw [ew]
      have hW5 : (upd H4 Wt (.lst ((nI wp).map V.int))) Wt = some (.lst ((nI wp).map V.int)) := upd_same
      have s5 : ∀ b o, b ≠ Wt → H4 b = some o → (upd H4 Wt (.lst ((nI wp).map V.int))) b = some o := fun b o n e => by rw [upd_ne n]; exact e
      generalize upd H4 Wt (.lst ((nI wp).map V.int)) = H5 at *
      have naW : a ≠ Wt := ne_of_none ha hWn
      refine r_lget (j := u) (v := .ref d) (s5 _ _ naW (sF _ _ nad (s3 _ _ ha))) (by rw [List.getElem?_map, hd]; rfl) ?_
      refine ⟨d, od, rfl, .inl ⟨kvu, s5 _ _ ndW dF, ?_⟩⟩
      refine for_keys (fun i σ H' => ∃ (v4 : Option V) (kvs' : List (Key × V)) (ks' wn : List Nat), σ = [some (.ref a), some (.int (t : Int)), some (.ref F), some (.ref Wt), v4] ∧ (∀ b o, b ≠ d → H b = some o → H' b = some o) ∧ H' d = some (.frz od (.dK kvu)) ∧ H' F = some (.dK kvs') ∧ kvs'.map (·.1) = ks'.map nK ∧ ks'.Nodup ∧ (∀ k ∈ ks', Rc g lot t k) ∧
          H' Wt = some (.lst ((nI wn).map V.int)) ∧ (∀ k ∈ wn, k ∈ ks') ∧ (∀ k ∈ ks, k ∈ ks') ∧ (∀ k ∈ wp, k ∈ wn) ∧ (∀ k ∈ ks', k ∉ wn → k ∈ ks) ∧ (∀ j ∈ ku.take i, j ∈ ks') ∧ 2 * (g.tables - ks'.length) + wn.length ≤ 2 * (g.tables - ks.length) + wp.length)
        ⟨v4, kvs, ks, wp, rfl, fun b o n e => s5 _ _ (ne_of_none e hWn) (sF _ _ n (s3 _ _ e)), s5 _ _ ndW dF, s5 _ _ nWF.symm (sF _ _ ndF.symm hF3), hk1, hk2, hrc, hW5, fun k hk => hsub k (List.mem_append_left _ hk), fun k hk => hk, fun k hk => hk, fun k hk _ => hk, fun j hj => by simp at hj, Nat.le_refl _⟩
        (fun i σ H' ⟨_, _, _, _, _, _, q, _⟩ => q) ?_ ?_
      · rintro i kk vv σ H6 hkk ⟨v4, kvs', ks', wn, rfl, q1, q2, q3, q4, q5, q6, q7, q8, q9, qA, qB, qC, qD⟩
        have h1 : (kvu.map (·.1))[i]? = some kk := by rw [List.getElem?_map, hkk]; rfl
        rw [hd2, List.getElem?_map] at h1
        obtain ⟨j, hj, rfl⟩ : ∃ j, ku[i]? = some j ∧ kk = nK j := by
          cases e : ku[i]? with
          | none => rw [e] at h1; cases h1
          | some j => rw [e] at h1; exact ⟨j, rfl, (Option.some.inj h1).symm⟩
        have et : ku.take (i + 1) = ku.take i ++ [j] := by rw [List.take_add_one, hj]; rfl
        have huj : Ed g lot u j := (hku j).mp (List.mem_of_getElem? hj)
        refine ⟨_, rfl, _, rfl, F, _, rfl, DGet.k (k := nK j) q3, ?_⟩
        rw [ds_val q4]
        refine ⟨_, rfl, ?_⟩
        by_cases z : j ∈ ks'
        · rw [decide_eq_true z]
          refine iteF ?_
          refine ⟨_, kvs', ks', wn, rfl, q1, q2, q3, q4, q5, q6, q7, q8, q9, qA, qB, fun x hx => ?_, qD⟩
          rw [et] at hx
          rcases List.mem_append.mp hx with hx | hx
          · exact qC x hx
          · rw [List.mem_singleton.mp hx]; exact z
        · rw [decide_eq_false z]
          refine iteT ?_
          have lk : kvs'.length = ks'.length := by rw [← List.length_map (f := (·.1)), q4, List.length_map]
          have lks : ks'.length ≤ g.tables := len_le q5 fun x hx => rc_lt gok (q6 x hx)
          have hrj : Rc g lot t j := .step (hrc u hu) huj
          have ea : addN ks' j = ks' ++ [j] := if_neg z
          have lks2 : (ks' ++ [j]).length ≤ g.tables := len_le (by rw [← ea]; exact nodup_addN q5) fun x hx => by
            rcases List.mem_append.mp hx with hx | hx
            · exact rc_lt gok (q6 x hx)
            · rw [List.mem_singleton.mp hx]; exact rc_lt gok hrj
          rw [List.length_append, List.length_singleton] at lks2
          refine ⟨_, rfl, _, rfl, F, _, rfl, DPut.k (k := nK j) q3 (by rw [lk, sizeLine_eq]; omega), ?_⟩
          have hF7 : (upd H6 F (.dK (putK kvs' (nK j) (.bl true)))) F = some (.dK (putK kvs' (nK j) (.bl true))) := upd_same
          have s7 : ∀ b o, b ≠ F → H6 b = some o → (upd H6 F (.dK (putK kvs' (nK j) (.bl true)))) b = some o := fun b o n e => by rw [upd_ne n]; exact e
          generalize upd H6 F (.dK (putK kvs' (nK j) (.bl true))) = H7 at *
          refine ⟨_, rfl, .inl ⟨rfl, _, SqL.of (s7 _ _ nWF q7)⟩, ?_⟩
          have lwn : wn.length ≤ 100 := by rw [List.length_append] at h16; omega
          refine ⟨_, rfl, Wt, _, _, rfl, rfl, s7 _ _ nWF q7, by rw [List.length_map, List.length_map, sizeLine_eq]; omega, ?_⟩
          have eL : (nI wn).map V.int ++ [V.int (j : Int)] = (nI (wn ++ [j])).map V.int := by simp
          refine ⟨_, putK kvs' (nK j) (.bl true), ks' ++ [j], wn ++ [j], rfl, fun b o n e => by rw [upd_ne (ne_of_none e hWn)]; exact s7 _ _ (ne_of_none e hF) (q1 _ _ n e), by rw [upd_ne ndW]; exact s7 _ _ ndF q2, by rw [upd_ne nWF.symm]; exact hF7, by rw [← ea]; exact ds_keys q4 _ _, by rw [← ea]; exact nodup_addN q5, ?_, by rw [upd_same]; exact congrArg (fun l => some (HO.lst l)) eL, ?_, fun x hx => List.mem_append_left _ (q9 x hx), fun x hx => List.mem_append_left _ (qA x hx), ?_, ?_, ?_⟩
          · intro x hx
            rcases List.mem_append.mp hx with hx | hx
            · exact q6 x hx
            · rw [List.mem_singleton.mp hx]; exact hrj
          · intro x hx
            rcases List.mem_append.mp hx with hx | hx
            · exact List.mem_append_left _ (q8 x hx)
            · exact List.mem_append_right _ hx
          · intro x hx hn
            rcases List.mem_append.mp hx with hx | hx
            · exact qB x hx fun h => hn (List.mem_append_left _ h)
            · exact (hn (List.mem_append_right _ hx)).elim
          · intro x hx
            rw [et] at hx
            rcases List.mem_append.mp hx with hx | hx
            · exact List.mem_append_left _ (qC x hx)
            · exact List.mem_append_right _ hx
          · rw [List.length_append, List.length_append, List.length_singleton]
            omega
      · rintro σ H6 ⟨v4, kvs', ks', wn, rfl, q1, q2, q3, q4, q5, q6, q7, q8, q9, qA, qB, qC, qD⟩
        have lku : kvu.length = ku.length := by rw [← List.length_map (f := (·.1)), hd2, List.length_map]
        rw [lku, List.take_length] at qC
        refine ⟨q2, 2 * (g.tables - ks'.length) + wn.length, by rw [List.length_append, List.length_singleton]; omega, v4, kvs', ks', wn, rfl, fun b o e => ?_, by rw [upd_ne ndF.symm]; exact q3, q4, q5, q6, by rw [upd_ne ndW.symm]; exact q7, q8, ?_, fun j hj => q9 j (ht3 j hj), rfl, by rw [List.length_append, List.length_singleton] at h16; omega⟩
        · by_cases z : b = d
          · subst z
            rw [hd1] at e
            cases e
            exact upd_same
          · rw [upd_ne z]; exact q1 _ _ z e
        · intro x hx hn j hj
          have hx0 := qB x hx hn
          by_cases z : x ∈ wp ++ [u]
          · rcases List.mem_append.mp z with z | z
            · exact (hn (qA x z)).elim
            · rw [List.mem_singleton.mp z] at hj
              exact qC j ((hku j).mpr hj)
          · exact q9 j (hcl x hx0 z j hj)
    · have hc : ¬ (0 : Int) < ((wn.length : Nat) : Int) := fun z => hc (decide_eq_true z)
      have e0 : wn = [] := List.length_eq_zero_iff.mp (by omega)
      subst e0
      refine ⟨_, rfl, ?_⟩
      refine k F _ s3 hF ⟨ks, ⟨kvs, hF3, hk1, hk2⟩, fun k => ⟨fun h => hrc k h, fun h => ?_⟩⟩
      induction h with
      | one e => exact ht3 _ e
      | step _ e ih => exact hcl _ ih (by simp) _ e
/-- the tables of a lot -/
def Tbl (g : Prg) (lot : List Nat) (t : Nat) : Prop := ∃ n ∈ lot, ∃ r, g.rs[n]? = some r ∧ (r.x = t ∨ r.y = t)
def spTabs (K : PySem.W.Frag) : Sp := fun vs H Q _ => ∃ (p : Addr) (v : V) (g : Prg) (lot : List Nat), vs = [.ref p, v] ∧ PrgAt K H p g ∧ g.Ok ∧ TD H v (dI (nI lot)) ∧ LotIn g lot ∧
  ∀ v' H' ts, Same H H' → TD H' v' (dI (nI ts)) → ts.Pairwise (· < ·) → (∀ t, t ∈ ts ↔ Tbl g lot t) → Q v' H'
theorem sorted_nats {ns' : List Int} {ks : List Nat} (h : ns'.Perm (nI ks)) (p : ns'.Pairwise (· ≤ ·)) (nd : ks.Nodup) : ∃ ts : List Nat, ns' = nI ts ∧ ts.Pairwise (· < ·) ∧ ∀ t, t ∈ ts ↔ t ∈ ks := by
  have nn : ∀ x ∈ ns', 0 ≤ x := fun x hx => by
    obtain ⟨k, _, rfl⟩ := List.mem_map.mp (h.mem_iff.mp hx)
    omega
  have e : ns' = nI (ns'.map Int.toNat) := by
    show ns' = (ns'.map Int.toNat).map fun (n : Nat) => (n : Int)
    rw [List.map_map]
    conv => lhs; rw [← List.map_id ns']
    exact List.map_congr_left fun x hx => by have := nn x hx; show x = ((x.toNat : Nat) : Int); omega
  have nd2 : ns'.Nodup := h.nodup_iff.mpr (by
    rw [List.Nodup, List.pairwise_map]
    exact nd.imp fun {a b} h e => h (by omega))
  have lt : ns'.Pairwise (· < ·) := by
    refine (List.Pairwise.and p nd2).imp fun {a b} h => ?_
    have := h.1; have := h.2; omega
  refine ⟨ns'.map Int.toNat, e, ?_, fun t => ?_⟩
  · rw [e] at lt
    rw [List.pairwise_map] at lt
    exact lt.imp fun {a b} h => by omega
  · constructor
    · intro ht
      obtain ⟨x, hx, rfl⟩ := List.mem_map.mp ht
      obtain ⟨k, hk, rfl⟩ := List.mem_map.mp (h.mem_iff.mp hx)
      simpa using hk
    · intro ht
      refine List.mem_map.mpr ⟨(t : Int), h.mem_iff.mpr (List.mem_map.mpr ⟨t, ht, rfl⟩), by omega⟩
/-! tables_in: slots 0 program, 1 lot, 2 found, 3 number, 4 reader, 5 read, 6 step; calls [] -/
abbrev N_tables_in : List Str := ["program", "lot", "found", "number", "reader", "read", "step"]
theorem sc_tables_in : FnScope N_tables_in ["program", "lot"] (defScope s_tables_in) := ⟨rfl, rfl, rfl, by decide +kernel, rfl, by decide +kernel, by decide +kernel⟩
theorem ok_tables_in (W : Wd K mg) : Ok P w K mg base 1 "tables_in" ["program", "lot"] (spTabs K) := by
  have sc := sc_tables_in
  refine Ok.mk' W.F_tables_in W.g_tables_in sc (fun vs H Q E h => ?_) (fun _ _ _ _ _ _ us hl => match us, hl with | [_, _], _ => rfl) (fun cdv A outer s H vs Q E hr h => ?_)
  · obtain ⟨p, v, g, lot, rfl, _⟩ := h
    rfl
  · obtain ⟨p, v, g, lot, rfl, PA, gok, hlot, ⟨l24, nd, lin⟩, k⟩ := h
    obtain ⟨al, rfl, hal⟩ := id hlot.ints
    obtain ⟨dx, ar, xr, A0⟩ := id PA
    have t8 := gok.t8
    refine ⟨_, (pss_cons (ps_set (i := 2) sc.nd rfl (Or.inl rfl) pe_dnewK)
    (pss_cons (ps_for PassesOwn.never rfl (k_pit K (pv 1)) (pg_name (i := 3) sc.nd rfl (Or.inl rfl))
      (pss_cons (ps_asg (pe_ix (k_ixt K) (k_fld K (pv 0) rfl) (pv 3) (fun _ _ => rfl)) (k_tup K rfl (pgs_cons (pg_name (i := 4) sc.nd rfl (Or.inl rfl)) (pgs_cons (pg_name (i := 5) sc.nd rfl (Or.inl rfl)) (pgs_cons (pg_name (i := 6) sc.nd rfl (Or.inl rfl)) pgs_nil)))))
      (pss_cons (ps_dput (hu_of hr) (pv 2) (pv 4) pe_bl rfl)
      (pss_one (ps_dput (hu_of hr) (pv 2) (pv 5) pe_bl rfl)))))
    (pss_one (ps_ret (pe_callTy (k_tupof K) (by rfl) W.b_tuple PyProof.Rows.boot_tuple (pa_cons (pe_callB cr_sorted (by rfl) W.b_sorted PyProof.Rows.boot_sorted (pa_cons (pe_callTy (call_list_dK rfl) (by rfl) W.b_list PyProof.Rows.boot_list (pa_cons (pv 2) pa_nil)) pa_nil)) pa_nil)))))), ?_⟩
    intro D hD
    have s1 : Same H (upd H D (.dK [])) := Same.upd hD
    have hD1 : (upd H D (.dK [])) D = some (.dK []) := upd_same
    generalize upd H D (.dK []) = H1 at *
    refine ⟨_, rfl, al, rfl, ⟨_, SqT.of (s1 _ _ hal)⟩, ?_⟩
    refine for_tup (K := K) (a := al) (xs := (nI lot).map V.int) (fun i σ H' => ∃ (v3 v4 v5 v6 : Option V) (ks : List Nat), σ = [some (.ref p), some (.ref al), some (.ref D), v3, v4, v5, v6] ∧ Same H H' ∧ DS H' D ks ∧ ∀ t, t ∈ ks ↔ Tbl g (lot.take i) t)
      ⟨_, _, _, _, [], rfl, s1, ⟨[], hD1, rfl, List.nodup_nil⟩, fun t => ⟨fun z => (by cases z), fun z => (by obtain ⟨n, hn, _⟩ := z; cases hn)⟩⟩ (fun i σ H' _ ⟨_, _, _, _, _, _, s, _⟩ => SqT.of (s _ _ hal)) ?_ ?_
    · rintro i x σ H2 hx ⟨v3, v4, v5, v6, ks, rfl, s2, ⟨kvs, hk1, hk2, hk3⟩, hk4⟩
      obtain ⟨n, hn, rfl⟩ := nats_at hx
      have hnr := lin n (List.mem_of_getElem? hn)
      obtain ⟨r, hr⟩ : ∃ r, g.rs[n]? = some r := ⟨_, List.getElem?_eq_getElem hnr⟩
      obtain ⟨rx, ry, _⟩ := gok.rd r (List.mem_of_getElem? hr)
      have A2 := A0.mono s2
      obtain ⟨q, sa, hq1, hq2, hq3⟩ := A2.rd hr
      refine ⟨_, rfl, p, _, _, _, _, rfl, A2.hp, W.cl_Program, W.n_Program_readings, pf_readings, ?_⟩
      refine ⟨_, rfl, r_tget (j := n) A2.ha hq1 ?_⟩
      refine ⟨q, _, rfl, SqT.of hq2, rfl, _, _, rfl, _, _, rfl, _, _, rfl, rfl, ?_⟩
      have tl : ∀ t, Tbl g (lot.take i) t → t < g.tables := fun t ⟨m, hm, r', h1, h2⟩ => by
        obtain ⟨g1, g2, _⟩ := gok.rd r' (List.mem_of_getElem? h1)
        rcases h2 with rfl | rfl
        · exact g1
        · exact g2
      have lk : kvs.length = ks.length := by rw [← List.length_map (f := (·.1)), hk2, List.length_map]
      have lks : ks.length ≤ g.tables := len_le hk3 fun x hx => tl x ((hk4 x).mp hx)
      have l1 := length_putK kvs (nK r.x) (.bl true)
      refine ⟨_, rfl, _, rfl, D, _, rfl, DPut.k (k := nK r.x) hk1 (by rw [lk, sizeLine_eq]; omega), ?_⟩
      refine ⟨_, rfl, _, rfl, D, _, rfl, DPut.k (k := nK r.y) upd_same (by rw [sizeLine_eq]; omega), ?_⟩
      have et : lot.take (i + 1) = lot.take i ++ [n] := by rw [List.take_add_one, hn]; rfl
      refine ⟨_, _, _, _, addN (addN ks r.x) r.y, rfl, fun c o e => by rw [upd_ne (ne_of_none e hD), upd_ne (ne_of_none e hD)]; exact s2 _ _ e, ⟨_, upd_same, ds_keys (ds_keys hk2 _ _) _ _, nodup_addN (nodup_addN hk3)⟩, fun t => ?_⟩
      rw [mem_addN, mem_addN, hk4, et]
      constructor
      · rintro ((⟨m, hm, h⟩ | rfl) | rfl)
        · exact ⟨m, List.mem_append_left _ hm, h⟩
        · exact ⟨n, List.mem_append_right _ (List.mem_singleton.mpr rfl), r, hr, .inl rfl⟩
        · exact ⟨n, List.mem_append_right _ (List.mem_singleton.mpr rfl), r, hr, .inr rfl⟩
      · rintro ⟨m, hm, r', h1, h2⟩
        rcases List.mem_append.mp hm with hm | hm
        · exact .inl (.inl ⟨m, hm, r', h1, h2⟩)
        · rw [List.mem_singleton.mp hm, hr] at h1
          cases h1
          rcases h2 with rfl | rfl
          · exact .inl (.inr rfl)
          · exact .inr rfl
    · rintro σ H2 ⟨v3, v4, v5, v6, ks, rfl, s2, ⟨kvs, hk1, hk2, hk3⟩, hk4⟩
      rw [List.length_map, List.length_map, List.take_length] at hk4
      have tl : ∀ t, Tbl g lot t → t < g.tables := fun t ⟨m, hm, r', h1, h2⟩ => by
        obtain ⟨g1, g2, _⟩ := gok.rd r' (List.mem_of_getElem? h1)
        rcases h2 with rfl | rfl
        · exact g1
        · exact g2
      have lks : ks.length ≤ g.tables := len_le hk3 fun x hx => tl x ((hk4 x).mp hx)
      refine ⟨_, rfl, D, kvs, rfl, hk1, fun l hl => ?_⟩
      have ek : (kvs.map fun kv => kV kv.1) = (nI ks).map V.int := by
        have : (kvs.map fun kv => kV kv.1) = (kvs.map (·.1)).map kV := by rw [List.map_map]; rfl
        rw [this, hk2, List.map_map, List.map_map]; rfl
      rw [ek]
      refine ⟨l, nI ks, rfl, SqL.of upd_same, by rw [List.length_map]; omega, fun ns' l2 hp hs hl2 => ?_⟩
      obtain ⟨ts, rfl, t1, t2⟩ := sorted_nats hp hs hk3
      refine ⟨l2, _, rfl, .inl ⟨SqL.of upd_same, fun l3 hl3 => ?_⟩⟩
      refine k _ _ ts (((s2.to_upd hl).to_upd hl2).to_upd hl3) (.of_ints upd_same) t1 fun t => (t2 t).trans (hk4 t)
/-! every: slots 0 program; calls [] -/
abbrev N_every : List Str := ["program"]
theorem sc_every : FnScope N_every ["program"] (defScope s_every) := ⟨rfl, rfl, rfl, by decide +kernel, rfl, by decide +kernel, by decide +kernel⟩
def spEvery (K : PySem.W.Frag) : Sp := fun vs H Q _ => ∃ (p : Addr) (g : Prg), vs = [.ref p] ∧ PrgAt K H p g ∧ g.Ok ∧
  ∀ v H', Same H H' → TD H' v (dI (nI (List.range g.rs.length))) → Q v H'
theorem ok_every (W : Wd K mg) : Ok P w K mg base 1 "every" ["program"] (spEvery K) := by
  have sc := sc_every
  refine Ok.mk' W.F_every W.g_every sc (fun vs H Q E h => ?_) (fun _ _ _ _ _ _ us hl => match us, hl with | [_], _ => rfl) (fun cdv A outer s H vs Q E hr h => ?_)
  · obtain ⟨p, g, rfl, _⟩ := h
    rfl
  · obtain ⟨p, g, rfl, PA, gok, k⟩ := h
    obtain ⟨dx, ar, xr, A0⟩ := id PA
    have g24 := gok.n
    refine ⟨_, (pss_one (ps_ret (pe_tupRg rfl (by rfl) W.b_tuple (prg_1 (by rfl) W.b_range (pe_callB (k_len K) (by rfl) W.b_len PySem.boot_len (pa_cons (k_fld K (pv 0) rfl) pa_nil)))))), ?_⟩
    refine ⟨_, rfl, p, _, _, _, _, rfl, A0.hp, W.cl_Program, W.n_Program_readings, pf_readings, ?_⟩
    refine ⟨ar, _, rfl, .inr (SqT.of A0.ha), _, rfl, RgOk.of_le (by decide) (by rw [A0.len]; omega) (by decide) (by omega), fun q hq => ?_⟩
    rw [A0.len]
    refine k _ _ (Same.upd hq) (.of_ints ?_)
    rw [upd_same]
    unfold rgV
    rw [List.map_map, show (((g.rs.length : Nat) : Int) - 0).toNat = g.rs.length by omega]
    congr 2
    exact List.map_congr_left fun i _ => by show V.int (0 + (i : Int)) = V.int (i : Int); rw [Int.zero_add]
end
end TN
set_option Elab.async false
set_option linter.all false
set_option maxRecDepth 100000
set_option maxHeartbeats 4000000
/-! W18: parts_of. -/
namespace TN
open PySem PySem.Spec PyProof.Rows L2
/-! ### dicts whose values are data -/
structure KD (H : Hp) (kvs : List (Key × V)) (fs : List Nat) (C : Nat → PyData) : Prop where
  ks : kvs.map (·.1) = fs.map nK
  td : TDs H (kvs.map (·.2)) (fs.map C)
theorem KD.mono {H H' : Hp} {kvs : List (Key × V)} {fs : List Nat} {C : Nat → PyData} (h : KD H kvs fs C) (s : Tsm H H') : KD H' kvs fs C := ⟨h.ks, h.td.mono s⟩
theorem KD.get {H : Hp} : ∀ {kvs : List (Key × V)} {fs : List Nat} {C : Nat → PyData}, KD H kvs fs C → ∀ {f : Nat}, f ∈ fs → ∃ v, valV kvs (nK f) = some v ∧ TD H v (C f)
  | [], [], C, _, f, hf => by cases hf
  | [], f' :: fs, C, h, f, hf => by have := h.ks; simp at this
  | kv :: kvs, [], C, h, f, hf => by have := h.ks; simp at this
  | kv :: kvs, f' :: fs, C, ⟨h1, h2⟩, f, hf => by
    rw [List.map_cons, List.map_cons] at h1 h2
    injection h1 with h3 h4
    cases h2 with
    | cons h5 h6 =>
      by_cases z : f = f'
      · subst z
        exact ⟨kv.2, valV_pos h3, h5⟩
      · rw [valV_neg (fun e => z (nK_inj (e.symm.trans h3)))]
        exact KD.get ⟨h4, h6⟩ ((List.mem_cons.mp hf).resolve_left z)
theorem KD.put {H : Hp} {kvs : List (Key × V)} {fs : List Nat} {C : Nat → PyData} (h : KD H kvs fs C) {f : Nat} {v : V} {d : PyData} (hv : TD H v d) : KD H (putK kvs (nK f) v) (addN fs f) (fun j => if j = f then d else C j) := by
  refine ⟨ds_keys h.ks f v, ?_⟩
  have hs := ds_val h.ks f
  unfold putK addN
  rw [valV_any, hs]
  by_cases z : f ∈ fs
  · rw [decide_eq_true z, if_pos rfl, if_pos z]
    clear hs z
    obtain ⟨h1, h2⟩ := h
    induction kvs generalizing fs with
    | nil =>
      cases fs with
      | nil => exact .nil
      | cons f' fs => simp at h1
    | cons kv kvs ih =>
      cases fs with
      | nil => simp at h1
      | cons f' fs =>
        rw [List.map_cons, List.map_cons] at h1 h2
        injection h1 with h3 h4
        cases h2 with
        | cons h5 h6 =>
          refine .cons ?_ (ih h4 h6)
          by_cases e : kv.1 = nK f
          · have e2 : f' = f := nK_inj (h3.symm.trans e)
            show TD H (if kv.1 = nK f then (kv.1, v) else kv).2 (if f' = f then d else C f')
            rw [if_pos e, if_pos e2]; exact hv
          · have e2 : ¬ f' = f := fun q => e (by rw [h3, q])
            show TD H (if kv.1 = nK f then (kv.1, v) else kv).2 (if f' = f then d else C f')
            rw [if_neg e, if_neg e2]; exact h5
  · rw [decide_eq_false z, if_neg (by decide), if_neg z, List.map_append, List.map_append]
    refine TDs.append ?_ (.one (by show TD H v (if f = f then d else C f); rw [if_pos rfl]; exact hv))
    have e : (fs.map fun j => if j = f then d else C j) = fs.map C := List.map_congr_left fun j hj => if_neg fun (e : j = f) => z (by rw [← e]; exact hj)
    rw [e]; exact h.td
theorem r_catD {K : PySem.W.Frag} {H : Hp} {Q : VK} {x y : V} {ds es : List PyData} (hx : TD H x (.tuple ds)) (hy : TD H y (.tuple es)) (hl : ds.length + es.length ≤ 100000) (k : ∀ v H', Same H H' → TD H' v (.tuple (ds ++ es)) → Q v H') : rCatA K x y H Q := by
  obtain ⟨a, xs, rfl, ha, hxs⟩ := hx.tup_inv
  obtain ⟨b, ys, rfl, hb, hys⟩ := hy.tup_inv
  refine ⟨a, b, xs, ys, rfl, rfl, SqT.of ha, SqT.of hb, by rw [hxs.length, hys.length, sizeLine_eq]; omega, fun e => ?_, fun _ e => ?_, fun _ _ p hp => ?_⟩
  · subst e
    cases hxs
    exact k _ _ (fun _ _ h => h) (.tup hb hys)
  · subst e
    cases hys
    rw [List.append_nil] at k
    exact k _ _ (fun _ _ h => h) (.tup ha hxs)
  · exact k _ _ (Same.upd hp) (.tup upd_same ((hxs.append hys).mono (Tsm.of (Same.upd hp))))
theorem depth_ints (l : List Int) : PyData.depthAll (l.map .int) = 0 := by
  induction l with
  | nil => rw [List.map_nil, PyData.depthAll]
  | cons x l ih => rw [List.map_cons, PyData.depthAll, ih, PyData.depth]; rfl
theorem depth_dI (l : List Int) : PyData.depth (dI l) = 1 := by rw [PyData.depth, depth_ints]
/-! ### parts -/
def Mut2 (g : Prg) (lot : List Nat) (x t : Nat) : Prop := t = x ∨ Rc g lot x t ∧ Rc g lot t x
def IsFst (g : Prg) (lot : List Nat) (x f : Nat) : Prop := Mut2 g lot x f ∧ ∀ t, Mut2 g lot x t → f ≤ t
def Cyc (g : Prg) (lot : List Nat) (n : Nat) : Prop := ∃ r, g.rs[n]? = some r ∧ (Rc g lot r.y r.x ∨ r.x = r.y)
def CycF (g : Prg) (lot : List Nat) (f n : Nat) : Prop := ∃ r, g.rs[n]? = some r ∧ (Rc g lot r.y r.x ∨ r.x = r.y) ∧ IsFst g lot r.x f
open Classical in
/-- the part whose least table is f -/
noncomputable def cls (g : Prg) (lot l : List Nat) (f : Nat) : List Nat := l.filter fun n => decide (CycF g lot f n)
theorem mem_cls {g : Prg} {lot l : List Nat} {f n : Nat} : n ∈ cls g lot l f ↔ n ∈ l ∧ CycF g lot f n := by
  unfold cls
  rw [List.mem_filter, @decide_eq_true_iff _ (Classical.propDecidable _)]
def PartsOf (g : Prg) (lot : List Nat) (ps : List (List Nat)) : Prop := ∃ fs : List Nat, fs.Nodup ∧ ps.Perm (fs.map (cls g lot lot)) ∧ ∀ f, f ∈ fs ↔ ∃ n ∈ lot, CycF g lot f n
def decN : PyData → List Nat
  | .tuple ds => ds.map fun d => match d with | .int i => i.toNat | _ => 0
  | _ => []
theorem decN_dI (ns : List Nat) : decN (dI (nI ns)) = ns := by
  show ((nI ns).map PyData.int).map _ = ns
  rw [List.map_map, List.map_map]
  conv => rhs; rw [← List.map_id ns]
  exact List.map_congr_left fun n _ => by show ((n : Int)).toNat = n; omega
theorem perm_dec {ds : List PyData} {l : List (List Nat)} (h : ds.Perm (l.map fun p => dI (nI p))) : ∃ ps : List (List Nat), ds = ps.map (fun p => dI (nI p)) ∧ ps.Perm l := by
  refine ⟨ds.map decN, ?_, ?_⟩
  · rw [List.map_map]
    conv => lhs; rw [← List.map_id ds]
    refine List.map_congr_left fun d hd => ?_
    obtain ⟨p, _, rfl⟩ := List.mem_map.mp (h.mem_iff.mp hd)
    show dI (nI p) = dI (nI (decN (dI (nI p))))
    rw [decN_dI]
  · have h2 := h.map decN
    rw [List.map_map] at h2
    have e : l.map (decN ∘ fun p => dI (nI p)) = l := by
      conv => rhs; rw [← List.map_id l]
      exact List.map_congr_left fun p _ => decN_dI p
    rw [e] at h2
    exact h2
theorem alike_ints (as bs : List Nat) : PySem.W.alikeAll ((nI as).map .int) ((nI bs).map .int) = true := by
  induction as generalizing bs with
  | nil => cases bs <;> rfl
  | cons a as ih =>
    cases bs with
    | nil => rfl
    | cons b bs =>
      show (PySem.W.alike (.int _) (.int _) && PySem.W.alikeAll ((nI as).map .int) ((nI bs).map .int)) = true
      rw [ih]; rfl
section
variable {P : Program} {w : World} {K : PySem.W.Frag} {mg : Str → Option Value} {base : Heap}
def spParts (K : PySem.W.Frag) : Sp := fun vs H Q _ => ∃ (p : Addr) (v : V) (g : Prg) (lot : List Nat), vs = [.ref p, v] ∧ PrgAt K H p g ∧ g.Ok ∧ TD H v (dI (nI lot)) ∧ LotIn g lot ∧
  ∀ a H' ps, Same H H' → LD H' a (ps.map fun p => dI (nI p)) → PartsOf g lot ps → Q (.ref a) H'
/-! parts_of: slots 0 program, 1 lot, 2 goals, 3 reached, 4 table, 5 found, 6 number, 7 reader, 8 read, 9 step, 10 first; calls ['G_goals_of', 'G_reached_from'] -/
abbrev N_parts_of : List Str := ["program", "lot", "goals", "reached", "table", "found", "number", "reader", "read", "step", "first"]
theorem sc_parts_of : FnScope N_parts_of ["program", "lot"] (defScope s_parts_of) := ⟨rfl, rfl, rfl, by decide +kernel, rfl, by decide +kernel, by decide +kernel⟩
theorem ok_parts_of (W : Wd K mg) : Ok P w K mg base 2 "parts_of" ["program", "lot"] (spParts K) := by
  have sc := sc_parts_of
  have G_goals_of : Ok P w K mg base 1 "goals_of" ["program", "lot"] (spGoals K) := ok_goals_of W
  have G_reached_from : Ok P w K mg base 1 "reached_from" ["goals", "table"] spReach := ok_reached_from W
  refine Ok.mk' W.F_parts_of W.g_parts_of sc (fun vs H Q E h => ?_) (fun _ _ _ _ _ _ us hl => match us, hl with | [_, _], _ => rfl) (fun cdv A outer s H vs Q E hr h => ?_)
  · obtain ⟨p, v, g, lot, rfl, _⟩ := h
    rfl
  · obtain ⟨p, v, g, lot, rfl, PA, gok, hlot, lin, k⟩ := h
    obtain ⟨al, rfl, hal⟩ := id hlot.ints
    obtain ⟨dx, ar, xr, A0⟩ := id PA
    have t8 := gok.t8
    refine ⟨_, (pss_cons (ps_set (i := 2) sc.nd rfl (Or.inr rfl) (pe_c G_goals_of (hr.mono (by decide)) (by rfl) (pa_cons (pv 0) (pa_cons (pv 1) pa_nil))))
    (pss_cons (ps_set (i := 3) sc.nd rfl (Or.inr rfl) (pe_lc (own := [("table", 4)]) (g := gName 4) rfl sc.nd (pi_range1 (by rfl) W.b_range (pa_cons (k_fld K (pv 0) rfl) pa_nil)) (blkOk_by (N := N_parts_of) (sc := defScope s_parts_of) (by decide +kernel))  (fun _ _ _ _ _ => (pg_name (i := 4) sc.nd rfl (Or.inl rfl))) (fun _ _ _ _ _ => pts_nil) (fun _ _ _ _ _ => (pe_c G_reached_from (hr.mono (by decide)) (by rfl) (pa_cons (pv 2) (pa_cons (pv 4) pa_nil))))))
    (pss_cons (ps_set (i := 5) sc.nd rfl (Or.inl rfl) pe_dnewK)
    (pss_cons (ps_for PassesOwn.never rfl (k_pit K (pv 1)) (pg_name (i := 6) sc.nd rfl (Or.inl rfl))
      (pss_cons (ps_asg (pe_ix (k_ixt K) (k_fld K (pv 0) rfl) (pv 6) (fun _ _ => rfl)) (k_tup K rfl (pgs_cons (pg_name (i := 7) sc.nd rfl (Or.inr rfl)) (pgs_cons (pg_name (i := 8) sc.nd rfl (Or.inl rfl)) (pgs_cons (pg_name (i := 9) sc.nd rfl (Or.inl rfl)) pgs_nil)))))
      (pss_one (ps_if (PW.pt (pw_or (pt_cmp (pc_din (hu_of hr) (pv 7) (pe_ix (k_ixl K) (pv 3) (pv 8) (fun _ _ => rfl)))) (pw_or1 (pt_cmpR op_eq (pv 7) (pv 8) (nomark _)))))
        (pss_cons (ps_set (i := 10) sc.nd rfl (Or.inl rfl) (pe_callB (k_min K rfl) (by rfl) W.b_min PyProof.Rows.boot_min (pa_cons (pe_op op_cat (pe_lst (pa_cons (pv 7) pa_nil)) (pe_lock (pe_lc (own := [("table", 4)]) (g := gName 4) rfl sc.nd (pi_keys (pe_ix (k_ixl K) (pv 3) (pv 7) (fun _ _ => rfl))) (blkOk_by (N := N_parts_of) (sc := defScope s_parts_of) (by decide +kernel))  (fun _ _ _ _ _ => (pg_name (i := 4) sc.nd rfl (Or.inl rfl))) (fun _ _ _ _ _ => (pts_one (pt_cmp (pc_din (hu_of hr) (pv 7) (pe_ix (k_ixl K) (pv 3) (pv 4) (fun _ _ => rfl)))))) (fun _ _ _ _ _ => (pv 4))))) pa_nil)))
        (pss_one (ps_dput (hu_of hr) (pv 5) (pv 10) (pe_op (k_catA K) (pe_dget2 (hu_of hr) (pv 5) (pv 10) (pe_tup pa_nil) ⟨rfl, rfl, rfl, rfl⟩) (pe_tup (pa_cons (pv 6) pa_nil))) rfl)))
        pss_nil))))
    (pss_one (ps_ret (pe_callB (k_sortT K hr.units) (by rfl) W.b_sorted PyProof.Rows.boot_sorted (pa_cons (pe_listVals rfl (pv 5) (by rfl) W.b_list PyProof.Rows.boot_list) pa_nil)))))))), ?_⟩
    refine ⟨_, rfl, _, rfl, p, _, g, lot, rfl, PA, gok, hlot, lin, fun a H1 s1 hgo => ?_⟩
    have A1 := A0.mono s1
    refine ⟨_, rfl, p, _, _, _, _, rfl, A1.hp, W.cl_Program, W.n_Program_tables, pf_tables, ?_⟩
    refine ⟨_, rfl, by omega, by omega, fun R hR => ?_⟩
    rw [show ((g.tables : Nat) : Int).toNat = g.tables by omega]
    refine lc_rangeG (lo := 0) (n := g.tables) (fun j v H' => ∃ b, v = .ref b ∧ b ≠ R ∧ ∃ ks, DS H' b ks ∧ ∀ k, k ∈ ks ↔ Rc g lot j k) hR (by omega)
      (fun j v H2 H3 x ⟨b, e1, e2, ks, e3, e4⟩ => ⟨b, e1, e2, ks, e3.mono fun o e => x _ _ e2 e, e4⟩) (fun j H2 acc Qy hj s2 hA z => ⟨rfl, ?_⟩) (fun H2 ys s2 hR2 hl hy => ?_)
    · refine ⟨_, rfl, _, rfl, a, g, lot, j, by show [V.ref a, V.int (0 + (j : Int))] = [V.ref a, V.int (j : Int)]; rw [Int.zero_add], gok, hgo.mono s2, hj, fun D H3 s3 hD ⟨ks, e1, e2⟩ => ?_⟩
      exact z _ _ (Xt.of s3) (s3 _ _ hA) ⟨D, rfl, (ne_of_none hA hD).symm, ks, e1, e2⟩
    obtain ⟨as, rfl⟩ := refs_of fun j y e => let ⟨b, e1, _⟩ := hy j y e; ⟨b, e1⟩
    rw [List.length_map] at hl
    have reach : ∀ t, t < g.tables → ∃ b ks, as[t]? = some b ∧ DS H2 b ks ∧ ∀ k, k ∈ ks ↔ Rc g lot t k := fun t ht => by
      have hb : as[t]? = some (as[t]'(by omega)) := List.getElem?_eq_getElem _
      obtain ⟨b, e1, _, ks, e2, e3⟩ := hy t (.ref _) (by rw [List.getElem?_map, hb]; rfl)
      cases e1
      exact ⟨_, ks, hb, e2, e3⟩
    intro F hF
    have s12 := s1.trans s2
    have s3 : Same H2 (upd H2 F (.dK [])) := Same.upd hF
    have hF3 : (upd H2 F (.dK [])) F = some (.dK []) := upd_same
    generalize upd H2 F (.dK []) = H3 at *
    refine ⟨_, rfl, al, rfl, ⟨_, SqT.of (s3 _ _ (s12 _ _ hal))⟩, ?_⟩
    refine for_tup (K := K) (a := al) (xs := (nI lot).map V.int) (fun i σ H' => ∃ (v4 v6 v7 v8 v9 v10 : Option V) (kvs : List (Key × V)) (fs : List Nat), σ = [some (.ref p), some (.ref al), some (.ref a), some (.ref R), v4, some (.ref F), v6, v7, v8, v9, v10] ∧ Same H2 H' ∧ H' F = some (.dK kvs) ∧ fs.Nodup ∧
        KD H' kvs fs (fun f => dI (nI (cls g lot (lot.take i) f))) ∧ ∀ f, f ∈ fs ↔ ∃ n ∈ lot.take i, CycF g lot f n)
      ⟨_, _, _, _, _, _, [], [], rfl, s3, hF3, List.nodup_nil, ⟨rfl, .nil⟩, fun t => ⟨fun z => (by cases z), fun z => (by obtain ⟨n, hn, _⟩ := z; cases hn)⟩⟩ (fun i σ H' _ ⟨_, _, _, _, _, _, _, _, _, s, _⟩ => SqT.of (s _ _ (s12 _ _ hal))) ?_ ?_
    · rintro i x σ H4 hx ⟨v4, v6, v7, v8, v9, v10, kvs, fs, rfl, s4, hF4, nd4, kd, hfs⟩
      obtain ⟨n, hn, rfl⟩ := nats_at hx
      have hnr := lin.2.2 n (List.mem_of_getElem? hn)
      obtain ⟨r, hr⟩ : ∃ r, g.rs[n]? = some r := ⟨_, List.getElem?_eq_getElem hnr⟩
      obtain ⟨rx, ry, _⟩ := gok.rd r (List.mem_of_getElem? hr)
      have A4 := (A0.mono s12).mono s4
      obtain ⟨q, sa, hq1, hq2, hq3⟩ := A4.rd hr
      refine ⟨_, rfl, p, _, _, _, _, rfl, A4.hp, W.cl_Program, W.n_Program_readings, pf_readings, ?_⟩
      refine ⟨_, rfl, r_tget (j := n) A4.ha hq1 ?_⟩
      refine ⟨q, _, rfl, SqT.of hq2, rfl, _, _, rfl, _, _, rfl, _, _, rfl, rfl, ?_⟩
      have hR4 := s4 _ _ hR2
      obtain ⟨by_, ksy, hby, ⟨kvy, hy1, hy2, hy3⟩, hksy⟩ := reach r.y ry
      obtain ⟨bx, ksx, hbx, ⟨kvx, hx1, hx2, hx3⟩, hksx⟩ := reach r.x rx
      refine ⟨_, rfl, _, rfl, _, rfl, r_lget (j := r.y) (v := .ref by_) hR4 (by rw [List.getElem?_map, hby]; rfl) ?_⟩
      refine ⟨by_, _, rfl, DGet.k (k := nK r.x) (s4 _ _ hy1), ?_⟩
      rw [ds_val hy2]
      have et : lot.take (i + 1) = lot.take i ++ [n] := by rw [List.take_add_one, hn]; rfl
      have i24 : i < 24 := by have := (List.getElem?_eq_some_iff.mp hn).1; have := lin.1; omega
      have cls_snoc : ∀ f, CycF g lot f n → cls g lot (lot.take (i + 1)) f = cls g lot (lot.take i) f ++ [n] := fun f h => by
        rw [et]; unfold cls
        rw [List.filter_append, List.filter_cons_of_pos (by exact @decide_eq_true _ (Classical.propDecidable _) h), List.filter_nil]
      have cls_same : ∀ f, ¬ CycF g lot f n → cls g lot (lot.take (i + 1)) f = cls g lot (lot.take i) f := fun f h => by
        rw [et]; unfold cls
        rw [List.filter_append, List.filter_cons_of_neg (by intro z; exact h (@of_decide_eq_true _ (Classical.propDecidable _) z)), List.filter_nil, List.append_nil]
      have lkv : kvs.length = fs.length := by rw [← List.length_map (f := (·.1)), kd.ks, List.length_map]
      have fst_lt : ∀ f m, CycF g lot f m → f < g.tables := fun f m ⟨r', h1, _, h2, _⟩ => by
        rcases h2 with rfl | h2
        · exact (gok.rd r' (List.mem_of_getElem? h1)).1
        · exact rc_lt gok h2.1
      have lfs : fs.length ≤ g.tables := len_le nd4 fun f hf => let ⟨m, _, h⟩ := (hfs f).mp hf; fst_lt f m h
      refine (fun (m : (r.x ∈ ksy ∨ r.x = r.y) → _) => ⟨_, rfl, ite2 (fun h => iteT (m (.inl (of_decide_eq_true h)))) (fun h => ⟨_, rfl, _, rfl, rfl, _, rfl, ite2 (fun h2 => m (.inr ?eqv)) (fun h2 => ?els)⟩)⟩) ?main
      case eqv =>
        have h3 := of_decide_eq_true h2
        injection h3 with h3
        omega
      case els =>
        have h : ¬ r.x ∈ ksy := fun z => h (decide_eq_true z)
        have h2 : ¬ r.x = r.y := fun z => h2 (decide_eq_true (by rw [z]))
        have nc : ∀ f, ¬ CycF g lot f n := fun f ⟨r', h4, h5, _⟩ => by
          rw [hr] at h4
          cases h4
          rcases h5 with h5 | h5
          · exact h ((hksy _).mpr h5)
          · exact h2 h5
        refine ⟨_, _, _, _, _, _, kvs, fs, rfl, s4, hF4, nd4, ?_, fun f => ?_⟩
        · have e : (fun f => dI (nI (cls g lot (lot.take (i + 1)) f))) = fun f => dI (nI (cls g lot (lot.take i) f)) := by
            funext f; rw [cls_same f (nc f)]
          rw [e]; exact kd
        · rw [hfs, et]
          constructor
          · rintro ⟨m, hm, h⟩
            exact ⟨m, List.mem_append_left _ hm, h⟩
          · rintro ⟨m, hm, h⟩
            rcases List.mem_append.mp hm with hm | hm
            · exact ⟨m, hm, h⟩
            · rw [List.mem_singleton.mp hm] at h
              exact (nc f h).elim
      case main =>
        intro hc
        have hcyc : Rc g lot r.y r.x ∨ r.x = r.y := hc.imp (hksy _).mp id
        -- first
        refine ⟨_, rfl, by show 1 ≤ sizeLine; decide, fun B hB => ?_⟩
        have s5 : Same H4 (upd H4 B (.lst [.int (r.x : Int)])) := Same.upd hB
        have hB5 : (upd H4 B (.lst [.int (r.x : Int)])) B = some (.lst [.int (r.x : Int)]) := upd_same
        generalize upd H4 B (.lst [.int (r.x : Int)]) = H5 at *
        have hx5 := s5 _ _ (s4 _ _ hx1)
        have hR5 := s5 _ _ hR4
        refine ⟨bx, _, hx5, trivial, fun od => ?_⟩
        have zF : (upd H5 bx (.frz od (.dK kvx))) bx = some (.frz od (.dK kvx)) := upd_same
        have z5 : ∀ b o, b ≠ bx → H5 b = some o → (upd H5 bx (.frz od (.dK kvx))) b = some o := fun b o n e => by rw [upd_ne n]; exact e
        have z6 : ∀ b, H5 b = none → (upd H5 bx (.frz od (.dK kvx))) b = none := fun b e => by rw [upd_ne (ne_of_none hx5 e).symm]; exact e
        have z7 : ∀ b, (upd H5 bx (.frz od (.dK kvx))) b = none → H5 b = none ∧ b ≠ bx := fun b e => by
          by_cases q : b = bx
          · subst q; rw [zF] at e; cases e
          · rw [upd_ne q] at e; exact ⟨e, q⟩
        generalize upd H5 bx (.frz od (.dK kvx)) = H6 at *
        have nRx : R ≠ bx := ne_of hR5 hx5 (by intro z; cases z)
        have nBx : B ≠ bx := ne_of hB5 hx5 (by intro z; cases z)
        refine ⟨_, rfl, _, rfl, r_lget (j := r.x) (v := .ref bx) (z5 _ _ nRx hR5) (by rw [List.getElem?_map, hbx]; rfl) ?_⟩
        refine ⟨bx, od, rfl, .inl ⟨kvx, zF, fun C hC => ?_⟩⟩
        have lkx : kvx.length = ksx.length := by rw [← List.length_map (f := (·.1)), hx2, List.length_map]
        have lksx : ksx.length ≤ g.tables := len_le hx3 fun t ht => rc_lt gok ((hksx t).mp ht)
        refine lc_genF (J := Itk bx od kvx) kvx.length (fun i acc => ∃ ts : List Nat, acc = (nI ts).map V.int ∧ ts.length ≤ i ∧ ∀ t, t ∈ ts ↔ t ∈ ksx.take i ∧ Rc g lot t r.x) hC (by omega) ⟨[], rfl, Nat.le_refl _, fun t => by simp⟩ (fun H' s => ⟨s _ _ zF, Nat.le_refl _⟩) (fun i H' hi s => ⟨s _ _ zF, hi⟩)
          (fun i2 H7 acc Qy Qn hi2 s7 hA7 ⟨ts, e1, el, e2⟩ k1 k2 x2 H8 ⟨e3, kk, vv, hkk, e4⟩ => ?_) (fun H7 ys s7 hC7 ⟨ts, e1, el, e2⟩ => ?_)
        · subst e3 e4
          have h1 : (kvx.map (·.1))[i2]? = some kk := by rw [List.getElem?_map, hkk]; rfl
          rw [hx2, List.getElem?_map] at h1
          obtain ⟨t, ht, rfl⟩ : ∃ t, ksx[i2]? = some t ∧ kk = nK t := by
            cases e : ksx[i2]? with
            | none => rw [e] at h1; cases h1
            | some j => rw [e] at h1; exact ⟨j, rfl, (Option.some.inj h1).symm⟩
          have htx := (hksx t).mp (List.mem_of_getElem? ht)
          obtain ⟨bt, kst, hbt, ⟨kvt, ht1, ht2, ht3⟩, hkst⟩ := reach t (rc_lt gok htx)
          have rd : L2.Rd H8 bt (.dK kvt) := by
            by_cases q : bt = bx
            · subst q
              have : kvt = kvx := by have := ht1.symm.trans hx1; injection this with this; injection this
              subst this
              exact .inr ⟨od, s7 _ _ zF⟩
            · exact .inl (s7 _ _ (z5 _ _ q (s5 _ _ (s4 _ _ ht1))))
          have ett : ksx.take (i2 + 1) = ksx.take i2 ++ [t] := by rw [List.take_add_one, ht]; rfl
          refine ⟨rfl, _, rfl, _, rfl, _, rfl, r_lget (j := t) (v := .ref bt) (s7 _ _ (z5 _ _ nRx hR5)) (by rw [List.getElem?_map, hbt]; rfl) ?_⟩
          refine ⟨bt, _, rfl, .inl ⟨kvt, nK r.x, rd, rfl, rfl⟩, ?_⟩
          rw [ds_val ht2]
          refine ⟨_, rfl, ?_⟩
          refine ite2 (fun h => ?_) (fun h => ?_)
          · have h := (hkst _).mp (of_decide_eq_true h)
            refine ⟨_, rfl, k1 _ _ s7 hA7 ⟨ts ++ [t], by show acc ++ [V.int (t : Int)] = _; rw [e1]; simp, by rw [List.length_append, List.length_singleton]; omega, fun t' => ?_⟩⟩
            rw [ett, List.mem_append, List.mem_append, e2, List.mem_singleton]
            constructor
            · rintro (⟨h1, h2⟩ | rfl)
              · exact ⟨.inl h1, h2⟩
              · exact ⟨.inr rfl, h⟩
            · rintro ⟨h1 | h1, h2⟩
              · exact .inl ⟨h1, h2⟩
              · exact .inr h1
          · have h : ¬ Rc g lot t r.x := fun z => h (decide_eq_true ((hkst _).mpr z))
            refine k2 _ s7 hA7 ⟨ts, e1, by omega, fun t' => ?_⟩
            rw [ett, e2, List.mem_append, List.mem_singleton]
            constructor
            · exact fun ⟨h1, h2⟩ => ⟨.inl h1, h2⟩
            · rintro ⟨h1 | rfl, h2⟩
              · exact ⟨h1, h2⟩
              · exact (h h2).elim
        · subst e1
          rw [lkx, List.take_length] at e2
          refine ⟨s7 _ _ zF, ?_⟩
          have nCx : C ≠ bx := (ne_of_none zF hC).symm
          have s8 : Same H5 (upd H7 bx (.dK kvx)) := fun b o e => by
            by_cases q : b = bx
            · subst q; rw [hx5] at e; rw [upd_same]; exact e
            · rw [upd_ne q]; exact s7 _ _ (z5 _ _ q e)
          have hC8 : (upd H7 bx (.dK kvx)) C = some (.lst ((nI ts).map V.int)) := by rw [upd_ne nCx]; exact hC7
          generalize upd H7 bx (.dK kvx) = H8 at *
          have lts : ts.length ≤ 1000000 := by omega
          refine ⟨B, C, _, _, rfl, rfl, s8 _ _ hB5, hC8, by rw [sizeLine_eq]; simp; omega, fun M hM => ?_⟩
          have eM : [V.int (r.x : Int)] ++ (nI ts).map V.int = (nI (r.x :: ts)).map V.int := rfl
          rw [eM]
          have s9 : Same H8 (upd H8 M (.lst ((nI (r.x :: ts)).map V.int))) := Same.upd hM
          have hM9 : (upd H8 M (.lst ((nI (r.x :: ts)).map V.int))) M = some (.lst ((nI (r.x :: ts)).map V.int)) := upd_same
          generalize upd H8 M (.lst ((nI (r.x :: ts)).map V.int)) = H9 at *
          refine ⟨M, nI (r.x :: ts), rfl, SqL.of hM9, by simp, fun m0 hm0 hle => ?_⟩
          obtain ⟨f, hf, rfl⟩ := List.mem_map.mp hm0
          have mt : ∀ t, t ∈ r.x :: ts ↔ Mut2 g lot r.x t := fun t => by
            rw [List.mem_cons, e2]
            unfold Mut2
            rw [hksx]
          have isf : IsFst g lot r.x f := ⟨(mt f).mp hf, fun t ht => by
            have := hle (t : Int) (List.mem_map.mpr ⟨t, (mt t).mpr ht, rfl⟩)
            omega⟩
          have cf : CycF g lot f n := ⟨r, hr, hcyc, isf⟩
          have only : ∀ f', CycF g lot f' n → f' = f := fun f' ⟨r', h1, _, h2⟩ => by
            rw [hr] at h1
            cases h1
            have a1 := h2.2 f isf.1
            have a2 := isf.2 f' h2.1
            omega
          have s49 : Same H4 H9 := (s5.trans s8).trans s9
          have hF9 := s49 _ _ hF4
          have kd9 := kd.mono (Tsm.of s49)
          -- found[first] = found.get(first, ()) + (number,)
          refine ⟨_, rfl, F, rfl, .inl ⟨_, .inl hF9⟩, _, rfl, by show 0 ≤ sizeLine; decide, fun Em hEm => ?_⟩
          have sA : Same H9 (upd H9 Em (.tup [])) := Same.upd hEm
          have hEA : (upd H9 Em (.tup [])) Em = some (.tup []) := upd_same
          generalize upd H9 Em (.tup []) = HA at *
          refine ⟨_, DGet.k (k := nK f) (sA _ _ hF9), ?_⟩
          refine ⟨_, rfl, by show 1 ≤ sizeLine; decide, fun U hU => ?_⟩
          have sB : Same HA (upd HA U (.tup [.int (n : Int)])) := Same.upd hU
          have hUB : (upd HA U (.tup [.int (n : Int)])) U = some (.tup [.int (n : Int)]) := upd_same
          generalize upd HA U (.tup [.int (n : Int)]) = HB at *
          have s9B := sA.trans sB
          have old : TD HB ((valV kvs (nK f)).getD (.ref Em)) (dI (nI (cls g lot (lot.take i) f))) := by
            by_cases q : f ∈ fs
            · obtain ⟨v, h1, h2⟩ := kd9.get q
              rw [h1]
              exact h2.mono (Tsm.of s9B)
            · have hv : valV kvs (nK f) = none := by
                have := ds_val kd.ks f
                rw [decide_eq_false q] at this
                exact Option.not_isSome_iff_eq_none.mp (by rw [this]; decide)
              have hc : cls g lot (lot.take i) f = [] := by
                rw [List.eq_nil_iff_forall_not_mem]
                intro m hm
                obtain ⟨h1, h2⟩ := mem_cls.mp hm
                exact q ((hfs f).mpr ⟨m, h1, h2⟩)
              rw [hv, hc]
              exact .tup (sB _ _ hEA) .nil
          have hU : TD HB (.ref U) (dI (nI [n])) := .of_ints hUB
          have lcl : (cls g lot (lot.take i) f).length ≤ 24 := by
            have := List.length_filter_le (fun n => @decide (CycF g lot f n) (Classical.propDecidable _)) (lot.take i)
            have h2 : (lot.take i).length ≤ 24 := by rw [List.length_take]; omega
            exact Nat.le_trans this h2
          refine r_catD (K := K) old hU (by rw [List.length_map, List.length_map, List.length_map, List.length_map, List.length_singleton]; omega) fun v' HC sC hv' => ?_
          have ev : ((nI (cls g lot (lot.take i) f)).map PyData.int ++ (nI [n]).map PyData.int) = (nI (cls g lot (lot.take (i + 1)) f)).map PyData.int := by
            rw [cls_snoc f cf]; simp
          rw [ev] at hv'
          have s4C := s49.trans (s9B.trans sC)
          have hFC := s4C _ _ hF4
          have tsm : Tsm HC (upd HC F (.dK (putK kvs (nK f) v'))) := fun b xs e => by rw [upd_ne (ne_of e hFC (by intro z; cases z))]; exact e
          refine ⟨_, rfl, _, rfl, F, _, rfl, DPut.k (k := nK f) hFC (by rw [lkv, sizeLine_eq]; omega), ?_⟩
          refine ⟨_, _, _, _, _, _, putK kvs (nK f) v', addN fs f, rfl, fun b o e => by rw [upd_ne (ne_of_none e hF)]; exact s4C _ _ (s4 _ _ e), upd_same, nodup_addN nd4, ?_, fun f' => ?_⟩
          · have hk := ((kd.mono (Tsm.of s4C)).put (f := f) hv').mono tsm
            have e : (fun f => dI (nI (cls g lot (lot.take (i + 1)) f))) = fun j => if j = f then dI (nI (cls g lot (lot.take (i + 1)) f)) else dI (nI (cls g lot (lot.take i) j)) := by
              funext j
              by_cases q : j = f
              · subst q; rw [if_pos rfl]
              · rw [if_neg q, cls_same j fun h => q (only j h)]
            rw [e]; exact hk
          · rw [mem_addN, hfs, et]
            constructor
            · rintro (⟨m, hm, h⟩ | rfl)
              · exact ⟨m, List.mem_append_left _ hm, h⟩
              · exact ⟨n, List.mem_append_right _ (List.mem_singleton.mpr rfl), cf⟩
            · rintro ⟨m, hm, h⟩
              rcases List.mem_append.mp hm with hm | hm
              · exact .inl ⟨m, hm, h⟩
              · rw [List.mem_singleton.mp hm] at h
                exact .inr (only f' h)
    · rintro σ H4 ⟨v4, v6, v7, v8, v9, v10, kvs, fs, rfl, s4, hF4, nd4, kd, hfs⟩
      rw [List.length_map, List.length_map, List.take_length] at kd hfs
      have fst_lt : ∀ f m, CycF g lot f m → f < g.tables := fun f m ⟨r', h1, _, h2, _⟩ => by
        rcases h2 with rfl | h2
        · exact (gok.rd r' (List.mem_of_getElem? h1)).1
        · exact rc_lt gok h2.1
      have lfs : fs.length ≤ g.tables := len_le nd4 fun f hf => let ⟨m, _, h⟩ := (hfs f).mp hf; fst_lt f m h
      refine ⟨_, rfl, F, kvs, rfl, hF4, fun l hl => ?_⟩
      obtain ⟨bs, hbs⟩ : ∃ bs : List (V × PyData), bs = (kvs.map (·.2)).zip (fs.map fun f => dI (nI (cls g lot lot f))) := ⟨_, rfl⟩
      have lv : (kvs.map (·.2)).length = (fs.map fun f => dI (nI (cls g lot lot f))).length := kd.td.length
      have b1 : bs.map (·.1) = kvs.map (·.2) := by rw [hbs]; exact List.map_fst_zip (by omega)
      have b2 : bs.map (·.2) = fs.map fun f => dI (nI (cls g lot lot f)) := by rw [hbs]; exact List.map_snd_zip (by omega)
      have s5 : Same H4 (upd H4 l (.lst (kvs.map (·.2)))) := Same.upd hl
      have hl5 : (upd H4 l (.lst (kvs.map (·.2)))) l = some (.lst (kvs.map (·.2))) := upd_same
      generalize upd H4 l (.lst (kvs.map (·.2))) = H5 at *
      have btd : ∀ b ∈ bs, TD H5 b.1 b.2 := fun b hb => by
        obtain ⟨i, hi, rfl⟩ := List.mem_iff_getElem.mp hb
        have e1 : (kvs.map (·.2))[i]? = some bs[i].1 := by rw [← b1, List.getElem?_map, List.getElem?_eq_getElem hi]; rfl
        obtain ⟨d, e2, e3⟩ := kd.td.get' e1
        rw [← b2, List.getElem?_map, List.getElem?_eq_getElem hi] at e2
        cases e2
        exact e3.mono (Tsm.of s5)
      have bdi : ∀ b ∈ bs, ∃ f ∈ fs, b.2 = dI (nI (cls g lot lot f)) := fun b hb => by
        have : b.2 ∈ bs.map (·.2) := List.mem_map.mpr ⟨b, hb, rfl⟩
        rw [b2] at this
        obtain ⟨f, hf, e⟩ := List.mem_map.mp this
        exact ⟨f, hf, e.symm⟩
      have lbs : bs.length = fs.length := by rw [← List.length_map (f := (·.2)), b2, List.length_map]
      refine ⟨l, bs, rfl, by rw [b1]; exact SqL.of hl5, btd, ?_, .inl ?_, by omega, ?_, fun q hq => ?_⟩
      · intro d hd d' hd'
        rw [b2] at hd hd'
        obtain ⟨f, _, rfl⟩ := List.mem_map.mp hd
        obtain ⟨f', _, rfl⟩ := List.mem_map.mp hd'
        exact alike_ints _ _
      · intro d hd
        rw [b2] at hd
        obtain ⟨f, hf, rfl⟩ := List.mem_map.mp hd
        obtain ⟨m, hm, hc⟩ := (hfs f).mp hf
        have hmc := mem_cls.mpr ⟨hm, hc⟩
        cases q : cls g lot lot f with
        | nil => rw [q] at hmc; cases hmc
        | cons c cs => exact ⟨_, _, rfl⟩
      · intro b hb
        obtain ⟨f, _, e⟩ := bdi b hb
        rw [e]
        rw [depth_dI]; decide
      · have pm : (bs.mergeSort (PySem.W.dataLe false (·.2))).Perm bs := List.mergeSort_perm _ _
        have p2 := pm.map (·.2)
        rw [b2] at p2
        obtain ⟨ps, e1, e2⟩ := perm_dec (ds := (bs.mergeSort (PySem.W.dataLe false (·.2))).map (·.2)) (l := fs.map (cls g lot lot)) (by rw [List.map_map]; exact p2)
        refine k q _ ps (((s12.trans s4).trans s5).to_upd hq) ⟨_, upd_same, ?_⟩ ⟨fs, nd4, e2, hfs⟩
        rw [← e1]
        have : ∀ cs : List (V × PyData), (∀ c ∈ cs, TD H5 c.1 c.2) → TDs H5 (cs.map (·.1)) (cs.map (·.2)) := fun cs => by
          induction cs with
          | nil => intro _; exact .nil
          | cons c cs ih => intro h; exact .cons (h c List.mem_cons_self) (ih fun c hc => h c (List.mem_cons_of_mem _ hc))
        exact (this _ fun c hc => btd c (pm.mem_iff.mp hc)).mono (Tsm.of (Same.upd hq))
end
end TN
set_option Elab.async false
set_option linter.all false
set_option maxRecDepth 100000
set_option maxHeartbeats 4000000
/-! W19: parts and levels, in plain mathematics. -/
namespace TN
open PySem PySem.Spec PyProof.Rows L2
section
variable {g : Prg} {lot : List Nat}
theorem Rc.trans {a b c : Nat} (h1 : Rc g lot a b) (h2 : Rc g lot b c) : Rc g lot a c := by
  induction h2 with
  | one e => exact .step h1 e
  | step _ e ih => exact .step ih e
theorem Mut2.symm {x t : Nat} (h : Mut2 g lot x t) : Mut2 g lot t x := by
  rcases h with rfl | ⟨h1, h2⟩
  · exact .inl rfl
  · exact .inr ⟨h2, h1⟩
theorem Mut2.trans {x t u : Nat} (h1 : Mut2 g lot x t) (h2 : Mut2 g lot t u) : Mut2 g lot x u := by
  rcases h1 with rfl | ⟨a1, a2⟩
  · exact h2
  · rcases h2 with rfl | ⟨b1, b2⟩
    · exact .inr ⟨a1, a2⟩
    · exact .inr ⟨a1.trans b1, b2.trans a2⟩
theorem IsFst.move {x t f : Nat} (h : IsFst g lot x f) (m : Mut2 g lot x t) : IsFst g lot t f := ⟨m.symm.trans h.1, fun u hu => h.2 u (m.trans hu)⟩
theorem IsFst.uniq {x f f' : Nat} (h : IsFst g lot x f) (h' : IsFst g lot x f') : f = f' := Nat.le_antisymm (h.2 _ h'.1) (h'.2 _ h.1)
theorem least {P : Nat → Prop} : ∀ n, P n → ∃ m, P m ∧ ∀ k, P k → m ≤ k := by
  intro n
  induction n using Nat.strongRecOn with
  | _ n ih =>
    intro h
    by_cases z : ∃ k, k < n ∧ P k
    · obtain ⟨k, hk, hp⟩ := z
      exact ih k hk hp
    · exact ⟨n, h, fun k hk => by
        by_cases q : n ≤ k
        · exact q
        · exact (z ⟨k, by omega, hk⟩).elim⟩
theorem fst_ex (x : Nat) : ∃ f, IsFst g lot x f := let ⟨m, h1, h2⟩ := least (P := Mut2 g lot x) x (.inl rfl); ⟨m, h1, h2⟩
theorem cyc_mut {n : Nat} {r : Rd} (hn : n ∈ lot) (hr : g.rs[n]? = some r) (h : Rc g lot r.y r.x ∨ r.x = r.y) : Mut2 g lot r.x r.y := by
  rcases h with h | h
  · exact .inr ⟨.one ⟨n, hn, r, hr, rfl, rfl⟩, h⟩
  · exact .inl h.symm
theorem cls_tbl {f t : Nat} (h : Tbl g (cls g lot lot f) t) : IsFst g lot t f := by
  obtain ⟨n, hn, r, hr, ht⟩ := h
  obtain ⟨h1, r', h2, h3, h4⟩ := mem_cls.mp hn
  rw [hr] at h2
  cases h2
  rcases ht with rfl | rfl
  · exact h4
  · exact h4.move (cyc_mut h1 hr h3)
section
variable {ps : List (List Nat)} (H : PartsOf g lot ps)
include H
theorem parts_cls {p : List Nat} (hp : p ∈ ps) : ∃ f, p = cls g lot lot f ∧ ∃ n ∈ lot, CycF g lot f n := by
  obtain ⟨fs, nd, pm, hf⟩ := H
  obtain ⟨f, h1, rfl⟩ := List.mem_map.mp (pm.mem_iff.mp hp)
  exact ⟨f, rfl, (hf f).mp h1⟩
theorem parts_sub {p : List Nat} (hp : p ∈ ps) : p.Sublist lot ∧ p ≠ [] := by
  obtain ⟨f, rfl, n, hn, hc⟩ := parts_cls H hp
  exact ⟨List.filter_sublist, List.ne_nil_of_mem (mem_cls.mpr ⟨hn, hc⟩)⟩
theorem parts_cyc {p : List Nat} (hp : p ∈ ps) {n : Nat} (hn : n ∈ p) : Cyc g lot n := by
  obtain ⟨f, rfl, _⟩ := parts_cls H hp
  obtain ⟨_, r, h1, h2, _⟩ := mem_cls.mp hn
  exact ⟨r, h1, h2⟩
theorem parts_cov {n : Nat} (hn : n ∈ lot) (hc : Cyc g lot n) : ∃ p ∈ ps, n ∈ p := by
  obtain ⟨fs, nd, pm, hf⟩ := H
  obtain ⟨r, h1, h2⟩ := hc
  obtain ⟨f, hfst⟩ := fst_ex (g := g) (lot := lot) r.x
  have cf : CycF g lot f n := ⟨r, h1, h2, hfst⟩
  exact ⟨cls g lot lot f, pm.mem_iff.mpr (List.mem_map.mpr ⟨f, (hf f).mpr ⟨n, hn, cf⟩, rfl⟩), mem_cls.mpr ⟨hn, cf⟩⟩
theorem parts_dis : ps.Pairwise fun p q => ∀ t, Tbl g p t → ¬ Tbl g q t := by
  obtain ⟨fs, nd, pm, hf⟩ := H
  have h1 : (fs.map (cls g lot lot)).Pairwise fun p q => ∀ t, Tbl g p t → ¬ Tbl g q t := by
    rw [List.pairwise_map]
    exact nd.imp fun {a b} h t h1 h2 => h ((cls_tbl h1).uniq (cls_tbl h2))
  exact (pm.pairwise_iff (fun {p q} h t h1 h2 => h t h2 h1)).mpr h1
theorem parts_conn {p : List Nat} (hp : p ∈ ps) {α : Type} (h : Nat → α) (hh : ∀ n ∈ p, ∀ r, g.rs[n]? = some r → h r.x = h r.y) {t u : Nat} (ht : Tbl g p t) (hu : Tbl g p u) : h t = h u := by
  obtain ⟨f, rfl, _⟩ := parts_cls H hp
  have key : ∀ t, IsFst g lot t f → h f = h t := fun t ht => by
    have ff : IsFst g lot f f := ht.move ht.1
    have cl : ∀ c, Rc g lot f c → Rc g lot c f → h f = h c := fun c hc => by
      induction hc with
      | one e =>
        intro h1
        obtain ⟨n, hn, r, hr, rfl, rfl⟩ := e
        exact hh n (mem_cls.mpr ⟨hn, r, hr, .inl h1, ff⟩) r hr
      | step h0 e ih =>
        rename_i b c
        intro h1
        have hb : Rc g lot b f := Rc.trans (.one e) h1
        rw [ih hb]
        obtain ⟨n, hn, r, hr, rfl, rfl⟩ := e
        exact hh n (mem_cls.mpr ⟨hn, r, hr, .inl (h1.trans h0), ff.move (.inr ⟨h0, hb⟩)⟩) r hr
    rcases ht.1 with rfl | ⟨h1, h2⟩
    · rfl
    · exact cl t h2 h1
  rw [← key t (cls_tbl ht), ← key u (cls_tbl hu)]
theorem parts_same {p : List Nat} (hp : p ∈ ps) (a : Nat → Int) (ha : ∀ n ∈ lot, ∀ r, g.rs[n]? = some r → a r.y ≤ a r.x) {n : Nat} (hn : n ∈ p) {r : Rd} (hr : g.rs[n]? = some r) : a r.x = a r.y := by
  obtain ⟨f, rfl, _⟩ := parts_cls H hp
  obtain ⟨h1, r', h2, h3, _⟩ := mem_cls.mp hn
  rw [hr] at h2
  cases h2
  have mono : ∀ {u v}, Rc g lot u v → a v ≤ a u := fun h => by
    induction h with
    | one e =>
      obtain ⟨m, hm, r', hr', rfl, rfl⟩ := e
      exact ha m hm r' hr'
    | step _ e ih =>
      obtain ⟨m, hm, r', hr', rfl, rfl⟩ := e
      exact Int.le_trans (ha m hm r' hr') ih
  have := ha n h1 r hr
  rcases h3 with h3 | h3
  · have := mono h3; omega
  · rw [h3]
theorem parts_len (gok : g.Ok) : ps.length ≤ 8 := by
  obtain ⟨fs, nd, pm, hf⟩ := H
  rw [pm.length_eq, List.length_map]
  refine Nat.le_trans (len_le (n := g.tables) nd fun f h => ?_) gok.t8
  obtain ⟨n, _, r, h1, _, h2, _⟩ := (hf f).mp h
  rcases h2 with rfl | h2
  · exact (gok.rd r (List.mem_of_getElem? h1)).1
  · exact rc_lt gok h2.1
end
/-! ### sums over a lot -/
theorem lsum_add (l : List Nat) (F G : Nat → Int) : lsum l (fun n => F n + G n) = lsum l F + lsum l G := by
  induction l with
  | nil => rfl
  | cons a l ih => show (F a + G a) + lsum l _ = (F a + lsum l F) + (G a + lsum l G); rw [ih]; omega
theorem lsum_mul (l : List Nat) (c : Int) (F : Nat → Int) : lsum l (fun n => c * F n) = c * lsum l F := by
  induction l with
  | nil => show (0 : Int) = c * 0; omega
  | cons a l ih => show _ + lsum l _ = c * (_ + lsum l F); rw [ih, Int.mul_add]
theorem lsum_congr {l : List Nat} {F G : Nat → Int} (h : ∀ n ∈ l, F n = G n) : lsum l F = lsum l G := by
  unfold lsum; rw [List.map_congr_left h]
theorem lsum_zero (l : List Nat) : lsum l (fun _ => 0) = 0 := by
  induction l with
  | nil => rfl
  | cons a l ih => show 0 + lsum l _ = 0; rw [ih]; rfl
theorem lsum_sm2 (l : List Nat) (m : Nat) (F : Nat → Nat → Int) : lsum l (fun n => sm m fun k => F n k) = sm m fun k => lsum l fun n => F n k := by
  induction l with
  | nil => exact (sm_const0 fun k _ => rfl).symm
  | cons a l ih =>
    show sm m (F a) + lsum l _ = sm m fun k => F a k + lsum l fun n => F n k
    rw [ih, ← sm_add]
theorem lsum_nonneg {l : List Nat} {F : Nat → Int} (h : ∀ n ∈ l, 0 ≤ F n) : 0 ≤ lsum l F := by
  induction l with
  | nil => exact Int.le_refl _
  | cons a l ih =>
    have h1 := h a List.mem_cons_self
    have h2 := ih fun n hn => h n (List.mem_cons_of_mem _ hn)
    show 0 ≤ F a + lsum l F
    omega
theorem lsum_eq0 {l : List Nat} {F : Nat → Int} (h : ∀ n ∈ l, 0 ≤ F n) (h0 : lsum l F ≤ 0) : ∀ n ∈ l, F n = 0 := by
  induction l with
  | nil => intro n hn; cases hn
  | cons a l ih =>
    have h1 := h a List.mem_cons_self
    have h2 := lsum_nonneg fun n hn => h n (List.mem_cons_of_mem _ hn)
    have h3 : F a + lsum l F ≤ 0 := h0
    intro n hn
    rcases List.mem_cons.mp hn with rfl | hn
    · omega
    · exact ih (fun n hn => h n (List.mem_cons_of_mem _ hn)) (by omega) n hn
/-- a flow and rows that are nowhere earlier -/
def latR (g : Prg) (R : List Int) (c : Nat → Int) (n : Nat) : Int := match g.rs[n]? with
  | some r => dotI R r.s + c r.x - c r.y
  | none => 0
theorem flow_zero (gok : g.Ok) {far : Bool} {kept : List Nat} {row nums : List Int} (T : ToldOk g far lot kept row nums) (lin : ∀ n ∈ lot, n < g.rs.length) {R : List Int} {c : Nat → Int} (lR : R.length = g.sides) (hR : far = true → ∀ x ∈ R, 0 ≤ x)
    (hl : ∀ n ∈ lot, 0 ≤ latR g R c n) : ∀ n ∈ kept, latR g R c n = 0 := by
  obtain ⟨f, f1, f2, f3⟩ := T.flow
  have rd : ∀ n ∈ lot, ∃ r, g.rs[n]? = some r := fun n hn => ⟨_, List.getElem?_eq_getElem (lin n hn)⟩
  -- lateness as a sum
  have lat : ∀ n ∈ lot, latR g R c n = (sm g.tables fun k => c k * cN g n k) + sm g.sides fun s => R.getD s 0 * cN g n (g.tables + s) := fun n hn => by
    obtain ⟨r, hr⟩ := rd n hn
    obtain ⟨rx, ry, rl, _⟩ := gok.rd r (List.mem_of_getElem? hr)
    have l1 : ((List.range g.tables).map fun k => (if k = r.x then (1 : Int) else 0) - (if k = r.y then 1 else 0)).length = g.tables := by simp
    have e1 : (sm g.tables fun k => c k * cN g n k) = c r.x - c r.y := by
      rw [sm_congr (g := fun k => (if k = r.x then c r.x else 0) - (if k = r.y then c r.y else 0)) fun k hk => by
        unfold cN; rw [hr]
        show c k * (colI g.tables r).getD k 0 = _
        unfold colI
        rw [gd_l (by rw [l1]; exact hk), gd_rng hk]
        by_cases h1 : k = r.x
        · by_cases h2 : k = r.y
          · subst h1; rw [if_pos rfl, if_pos h2, if_pos rfl, if_pos h2, ← h2]; omega
          · subst h1; rw [if_pos rfl, if_neg h2, if_pos rfl, if_neg h2]; omega
        · by_cases h2 : k = r.y
          · subst h2; rw [if_neg h1, if_pos rfl, if_neg h1, if_pos rfl]; omega
          · rw [if_neg h1, if_neg h2, if_neg h1, if_neg h2]; omega, sm_sub,
        sm_one rx fun k _ h => if_neg h, sm_one ry fun k _ h => if_neg h, if_pos rfl, if_pos rfl]
    have e2 : (sm g.sides fun s => R.getD s 0 * cN g n (g.tables + s)) = dotI R r.s := by
      rw [dotI_sm _ _ g.sides lR rl]
      refine sm_congr fun k hk => ?_
      unfold cN; rw [hr]
      show _ * (colI g.tables r).getD (g.tables + k) 0 = _
      unfold colI
      rw [gd_r l1]
    unfold latR
    rw [hr, e1, e2]
    show dotI R r.s + c r.x - c r.y = _
    omega
  have tot : lsum lot (fun n => f n * latR g R c n) ≤ 0 := by
    rw [lsum_congr (G := fun n => (sm g.tables fun k => c k * (f n * cN g n k)) + sm g.sides fun s => R.getD s 0 * (f n * cN g n (g.tables + s))) fun n hn => by
      rw [lat n hn, Int.mul_add, ← sm_mul, ← sm_mul]
      congr 1
      · exact sm_congr fun k _ => by grind
      · exact sm_congr fun k _ => by grind, lsum_add, lsum_sm2, lsum_sm2]
    have z1 : (sm g.tables fun k => lsum lot fun n => c k * (f n * cN g n k)) = 0 := sm_const0 fun k hk => by rw [lsum_mul, f2 k hk, Int.mul_zero]
    have z2 : 0 ≤ sm g.sides fun s => -(lsum lot fun n => R.getD s 0 * (f n * cN g n (g.tables + s))) := sm_nonneg fun s hs => by
      obtain ⟨a1, a2⟩ := f3 s hs
      rw [lsum_mul]
      cases far with
      | false => rw [a2 rfl, Int.mul_zero]; exact Int.le_refl _
      | true =>
        have h0 : 0 ≤ R.getD s 0 := by
          have e : R.getD s 0 = R[s]'(by omega) := by rw [List.getD_eq_getElem?_getD, List.getElem?_eq_getElem (by omega)]; rfl
          rw [e]
          exact hR rfl _ (List.getElem_mem _)
        rw [← Int.mul_neg]
        exact Int.mul_nonneg h0 (by omega)
    rw [sm_neg] at z2
    omega
  have all := lsum_eq0 (l := lot) (F := fun n => f n * latR g R c n) (fun n hn => Int.mul_nonneg (f1 n hn).1 (hl n hn)) tot
  intro n hn
  have hn2 := T.sub.subset hn
  have h1 := all n hn2
  have h2 := ((f1 n hn2).2).mpr hn
  rcases Int.mul_eq_zero.mp h1 with h | h
  · omega
  · exact h
/-- a kept reading is on a walk that closes -/
theorem kept_cyc (gok : g.Ok) {far : Bool} {kept : List Nat} {row nums : List Int} (T : ToldOk g far lot kept row nums) (lin : ∀ n ∈ lot, n < g.rs.length) {n : Nat} (hn : n ∈ kept) : Cyc g kept n := by
  obtain ⟨f, f1, f2, _⟩ := T.flow
  have rd : ∀ n ∈ lot, ∃ r, g.rs[n]? = some r := fun n hn => ⟨_, List.getElem?_eq_getElem (lin n hn)⟩
  obtain ⟨r, hr⟩ := rd n (T.sub.subset hn)
  refine ⟨r, hr, ?_⟩
  by_cases z : Rc g kept r.y r.x ∨ r.x = r.y
  · exact z
  exfalso
  -- the tables reached from r.y
  let S : Nat → Prop := fun t => t = r.y ∨ Rc g kept r.y t
  have nx : ¬ S r.x := fun h => z (h.symm.imp id id)
  have hy : S r.y := .inl rfl
  have clo : ∀ m ∈ kept, ∀ r', g.rs[m]? = some r' → S r'.x → S r'.y := fun m hm r' hr' h => by
    rcases h with h | h
    · exact .inr (.one ⟨m, hm, r', hr', h, rfl⟩)
    · exact .inr (.step h ⟨m, hm, r', hr', rfl, rfl⟩)
  let c : Nat → Int := fun t => @ite Int (S t) (Classical.propDecidable _) 1 0
  have c1 : ∀ t, S t → c t = 1 := fun t h => @if_pos _ (Classical.propDecidable _) h Int 1 0
  have c0 : ∀ t, ¬ S t → c t = 0 := fun t h => @if_neg _ (Classical.propDecidable _) h Int 1 0
  have tot : lsum lot (fun m => f m * (sm g.tables fun k => c k * cN g m k)) = 0 := by
    rw [lsum_congr (G := fun m => sm g.tables fun k => c k * (f m * cN g m k)) fun m hm => by rw [← sm_mul]; exact sm_congr fun k _ => by grind, lsum_sm2]
    exact sm_const0 fun k hk => by rw [lsum_mul, f2 k hk, Int.mul_zero]
  have ev : ∀ m ∈ lot, ∀ r', g.rs[m]? = some r' → (sm g.tables fun k => c k * cN g m k) = c r'.x - c r'.y := fun m hm r' hr' => by
    obtain ⟨rx, ry, rl, _⟩ := gok.rd r' (List.mem_of_getElem? hr')
    have l1 : ((List.range g.tables).map fun k => (if k = r'.x then (1 : Int) else 0) - (if k = r'.y then 1 else 0)).length = g.tables := by simp
    rw [sm_congr (g := fun k => (if k = r'.x then c r'.x else 0) - (if k = r'.y then c r'.y else 0)) fun k hk => by
      unfold cN; rw [hr']
      show c k * (colI g.tables r').getD k 0 = _
      unfold colI
      rw [gd_l (by rw [l1]; exact hk), gd_rng hk]
      by_cases h1 : k = r'.x
      · by_cases h2 : k = r'.y
        · subst h1; rw [if_pos rfl, if_pos h2, if_pos rfl, if_pos h2, ← h2]; omega
        · subst h1; rw [if_pos rfl, if_neg h2, if_pos rfl, if_neg h2]; omega
      · by_cases h2 : k = r'.y
        · subst h2; rw [if_neg h1, if_pos rfl, if_neg h1, if_pos rfl]; omega
        · rw [if_neg h1, if_neg h2, if_neg h1, if_neg h2]; omega, sm_sub,
      sm_one rx fun k _ h => if_neg h, sm_one ry fun k _ h => if_neg h, if_pos rfl, if_pos rfl]
  have all := lsum_eq0 (l := lot) (F := fun m => -(f m * (sm g.tables fun k => c k * cN g m k))) (fun m hm => by
    obtain ⟨r', hr'⟩ := rd m hm
    show 0 ≤ -(f m * _)
    rw [ev m hm r' hr']
    by_cases k : m ∈ kept
    · by_cases s : S r'.x
      · rw [c1 _ s, c1 _ (clo m k r' hr' s)]; omega
      · rw [c0 _ s]
        have : 0 ≤ c r'.y := by
          by_cases q : S r'.y
          · rw [c1 _ q]; decide
          · rw [c0 _ q]; exact Int.le_refl _
        have h2 := Int.mul_nonneg (f1 m hm).1 this
        rw [Int.zero_sub, Int.mul_neg]; omega
    · have h1 := (f1 m hm)
      have : f m = 0 := by
        by_cases q : 0 < f m
        · exact (k (h1.2.mp q)).elim
        · have := h1.1; omega
      rw [this, Int.zero_mul]; decide) (by
      have e : lsum lot (fun m => -(f m * (sm g.tables fun k => c k * cN g m k))) = (-1) * lsum lot fun m => f m * (sm g.tables fun k => c k * cN g m k) := by
        rw [← lsum_mul]; exact lsum_congr fun m _ => by rw [Int.neg_one_mul]
      rw [e, tot]; decide)
  have h1 := all n (T.sub.subset hn)
  have h2 : -(f n * (sm g.tables fun k => c k * cN g n k)) = 0 := h1
  rw [ev n (T.sub.subset hn) r hr, c0 _ nx, c1 _ hy] at h2
  have := ((f1 n (T.sub.subset hn)).2).mpr hn
  omega
theorem sub_eq {α : Type} : ∀ {l a b : List α}, l.Nodup → a.Sublist l → b.Sublist l → (∀ x, x ∈ a ↔ x ∈ b) → a = b
  | [], a, b, _, h1, h2, _ => by rw [List.eq_nil_of_sublist_nil h1, List.eq_nil_of_sublist_nil h2]
  | x :: l, a, b, nd, h1, h2, h => by
    obtain ⟨hx, nd'⟩ := List.nodup_cons.mp nd
    cases h1 with
    | cons _ h1 =>
      cases h2 with
      | cons _ h2 => exact sub_eq nd' h1 h2 h
      | cons_cons _ h2 => exact (hx (h1.subset ((h x).mpr List.mem_cons_self))).elim
    | cons_cons _ h1 =>
      cases h2 with
      | cons _ h2 => exact (hx (h2.subset ((h x).mp List.mem_cons_self))).elim
      | cons_cons _ h2 =>
        rename_i a b
        congr 1
        refine sub_eq nd' h1 h2 fun y => ?_
        have hy := h y
        rw [List.mem_cons, List.mem_cons] at hy
        constructor
        · intro h3
          exact (hy.mp (.inr h3)).resolve_left fun e => hx (e ▸ h1.subset h3)
        · intro h3
          exact (hy.mpr (.inr h3)).resolve_left fun e => hx (e ▸ h2.subset h3)
theorem told_uniq (gok : g.Ok) (nd : lot.Nodup) (lin : ∀ n ∈ lot, n < g.rs.length) {far : Bool} {kept kept' : List Nat} {row row' nums nums' : List Int} (T : ToldOk g far lot kept row nums) (T' : ToldOk g far lot kept' row' nums') : kept = kept' := by
  have one : ∀ {kept kept' : List Nat} {row row' nums nums' : List Int}, ToldOk g far lot kept row nums → ToldOk g far lot kept' row' nums' → ∀ n ∈ kept, n ∈ kept' := fun {kept kept' row row' nums nums'} T T' n hn => by
    have eq : ∀ n, latR g row' (fun t => nums'.getD t 0) n = later g row' nums' n := fun n => by unfold latR later; rfl
    have h := flow_zero gok T lin (R := row') (c := fun t => nums'.getD t 0) T'.lr T'.farp (fun m hm => by
      rw [eq]
      by_cases k : m ∈ kept'
      · rw [T'.zero m k]; exact Int.le_refl _
      · exact Int.le_of_lt (T'.more m hm k)) n hn
    rw [eq] at h
    by_cases k : n ∈ kept'
    · exact k
    · have := T'.more n (T.sub.subset hn) k
      omega
  exact sub_eq nd T.sub T'.sub fun x => ⟨one T T' x, one T' T x⟩
end
end TN
set_option Elab.async false
set_option linter.all false
set_option maxRecDepth 100000
set_option maxHeartbeats 4000000
/-! W20: timetables and levels, in plain mathematics. -/
namespace TN
open PySem PySem.Spec PyProof.Rows L2
/-! ### timetables -/
abbrev Row := List Int × Int
abbrev Tt := List (Int × List Row)
def rowsL : List Row → List Row → List Int → Bool
  | a :: as, b :: bs, s => if a.1 ≠ b.1 then false else if dotI a.1 s + a.2 - b.2 ≠ 0 then decide (0 < dotI a.1 s + a.2 - b.2) else rowsL as bs s
  | _, _, _ => false
def tN (T : Tt) (t : Nat) : Int := (T.getD t (0, [])).1
def tR (T : Tt) (t : Nat) : List Row := (T.getD t (0, [])).2
def lateB (T : Tt) (r : Rd) : Bool := if tN T r.x ≠ tN T r.y then decide (tN T r.y < tN T r.x) else rowsL (tR T r.x) (tR T r.y) r.s
/-- a timetable by which all readings are later -/
structure Rise (g : Prg) (far : Bool) (m : Nat) (T : Tt) : Prop where
  len : T.length = g.tables
  rl : ∀ t, ∀ a ∈ tR T t, a.1.length = g.sides
  far : far = true → ∀ t, ∀ a ∈ tR T t, ∀ x ∈ a.1, 0 ≤ x
  most : ∀ t, (tR T t).length ≤ m
  late : ∀ r ∈ g.rs, lateB T r = true
/-- all readings of a lot are alike by the numbers and before the place j -/
def Pj (g : Prg) (T : Tt) (j : Nat) (p : List Nat) : Prop := ∀ n ∈ p, ∀ r, g.rs[n]? = some r → rowsL ((tR T r.x).drop j) ((tR T r.y).drop j) r.s = true
def Conn (g : Prg) (p : List Nat) : Prop := ∀ (h : Nat → Row) , (∀ n ∈ p, ∀ r, g.rs[n]? = some r → (h r.x).1 = (h r.y).1) → ∀ t u, Tbl g p t → Tbl g p u → (h t).1 = (h u).1
section
variable {g : Prg} {far : Bool} {m : Nat} {T : Tt}
theorem parts_Conn {lot p : List Nat} {ps : List (List Nat)} (H : PartsOf g lot ps) (hp : p ∈ ps) : Conn g p := fun h hh t u ht hu => parts_conn H hp (fun t => (h t).1) hh ht hu
theorem Pj.base {ps : List (List Nat)} (R : Rise g far m T) {lot : List Nat} (H : PartsOf g lot ps) {p : List Nat} (hp : p ∈ ps) : Pj g T 0 p := fun n hn r hr => by
  have all : ∀ r ∈ g.rs, tN T r.y ≤ tN T r.x := fun r h => by
    have h1 := R.late r h
    unfold lateB at h1
    split at h1
    · have := of_decide_eq_true h1; omega
    · rename_i h2; have : tN T r.x = tN T r.y := Decidable.not_not.mp h2; omega
  have e := parts_same H hp (fun t => tN T t) (fun n _ r h => all r (List.mem_of_getElem? h)) hn hr
  have h1 := R.late r (List.mem_of_getElem? hr)
  unfold lateB at h1
  rw [if_neg (by intro z; exact z e)] at h1
  exact h1
theorem Pj.sub {j : Nat} {p q : List Nat} (h : Pj g T j p) (s : ∀ n ∈ q, n ∈ p) : Pj g T j q := fun n hn => h n (s n hn)
/-- one place on -/
theorem Pj.step (gok : g.Ok) (R : Rise g far m T) {j : Nat} {p kept : List Nat} {row nums : List Int} (h : Pj g T j p) (ne : p ≠ []) (lin : ∀ n ∈ p, n < g.rs.length) (cn : Conn g p) (K : ToldOk g far p kept row nums) : Pj g T (j + 1) kept := by
  -- the rows at the place j
  let hd : Nat → Row := fun t => ((tR T t)[j]?).getD ([], 0)
  have rd : ∀ n ∈ p, ∃ r, g.rs[n]? = some r := fun n hn => ⟨_, List.getElem?_eq_getElem (lin n hn)⟩
  have at_ : ∀ n ∈ p, ∀ r, g.rs[n]? = some r → (tR T r.x)[j]? = some (hd r.x) ∧ (tR T r.y)[j]? = some (hd r.y) ∧ (hd r.x).1 = (hd r.y).1 ∧ 0 ≤ dotI (hd r.x).1 r.s + (hd r.x).2 - (hd r.y).2 ∧
      (dotI (hd r.x).1 r.s + (hd r.x).2 - (hd r.y).2 = 0 → rowsL ((tR T r.x).drop (j + 1)) ((tR T r.y).drop (j + 1)) r.s = true) := fun n hn r hr => by
    have h1 := h n hn r hr
    cases ex : (tR T r.x)[j]? with
    | none =>
      rw [List.drop_eq_nil_of_le (List.getElem?_eq_none_iff.mp ex)] at h1
      cases h1
    | some a =>
      cases ey : (tR T r.y)[j]? with
      | none =>
        rw [List.drop_eq_nil_of_le (List.getElem?_eq_none_iff.mp ey)] at h1
        cases hq : (tR T r.x).drop j <;> rw [hq] at h1 <;> cases h1
      | some b =>
        obtain ⟨lx, gx⟩ := List.getElem?_eq_some_iff.mp ex
        obtain ⟨ly, gy⟩ := List.getElem?_eq_some_iff.mp ey
        rw [List.drop_eq_getElem_cons lx, List.drop_eq_getElem_cons ly, gx, gy] at h1
        have hx : hd r.x = a := by show ((tR T r.x)[j]?).getD ([], 0) = a; rw [ex]; rfl
        have hy : hd r.y = b := by show ((tR T r.y)[j]?).getD ([], 0) = b; rw [ey]; rfl
        rw [hx, hy]
        unfold rowsL at h1
        split at h1
        · cases h1
        · rename_i h2
          have h2 : a.1 = b.1 := Decidable.not_not.mp h2
          split at h1
          · rename_i h3
            have h4 := of_decide_eq_true h1
            exact ⟨rfl, rfl, h2, by omega, fun z => (h3 z).elim⟩
          · rename_i h3
            have h3 := Decidable.not_not.mp h3
            exact ⟨rfl, rfl, h2, by omega, fun _ => h1⟩
  obtain ⟨n0, hn0⟩ := List.exists_mem_of_ne_nil p ne
  obtain ⟨r0, hr0⟩ := rd n0 hn0
  have common : ∀ t, Tbl g p t → (hd t).1 = (hd r0.x).1 := fun t ht => cn hd (fun n hn r hr => (at_ n hn r hr).2.2.1) t r0.x ht ⟨n0, hn0, r0, hr0, .inl rfl⟩
  have m0 : hd r0.x ∈ tR T r0.x := List.mem_of_getElem? (at_ n0 hn0 r0 hr0).1
  have lat : ∀ n ∈ p, ∀ r, g.rs[n]? = some r → latR g (hd r0.x).1 (fun t => (hd t).2) n = dotI (hd r.x).1 r.s + (hd r.x).2 - (hd r.y).2 := fun n hn r hr => by
    unfold latR
    rw [hr, common r.x ⟨n, hn, r, hr, .inl rfl⟩]
  have z := flow_zero gok K lin (R := (hd r0.x).1) (c := fun t => (hd t).2) (R.rl _ _ m0) (fun hf => R.far hf _ _ m0) fun n hn => by
    obtain ⟨r, hr⟩ := rd n hn
    rw [lat n hn r hr]
    exact (at_ n hn r hr).2.2.2.1
  intro n hn r hr
  have h1 := z n hn
  rw [lat n (K.sub.subset hn) r hr] at h1
  exact (at_ n (K.sub.subset hn) r hr).2.2.2.2 h1
/-- no turn -/
theorem no_turn (gok : g.Ok) (R : Rise g far m T) {j : Nat} {p : List Nat} {row nums : List Int} (h : Pj g T j p) (ne : p ≠ []) (lin : ∀ n ∈ p, n < g.rs.length) (cn : Conn g p) (K : ToldOk g far p p row nums) : False := by
  have all : ∀ k, Pj g T (j + k) p := fun k => by
    induction k with
    | zero => exact h
    | succ k ih => exact ih.step gok R ne lin cn K
  obtain ⟨n0, hn0⟩ := List.exists_mem_of_ne_nil p ne
  have h1 := all m n0 hn0 _ (List.getElem?_eq_getElem (lin n0 hn0))
  rw [List.drop_eq_nil_of_le (by have := R.most (g.rs[n0]'(lin n0 hn0)).x; omega)] at h1
  cases h1
theorem Pj.lt (R : Rise g far m T) {j : Nat} {p : List Nat} (h : Pj g T j p) (ne : p ≠ []) (lin : ∀ n ∈ p, n < g.rs.length) : j < m := by
  obtain ⟨n0, hn0⟩ := List.exists_mem_of_ne_nil p ne
  have h1 := h n0 hn0 _ (List.getElem?_eq_getElem (lin n0 hn0))
  by_cases z : j < m
  · exact z
  · rw [List.drop_eq_nil_of_le (by have := R.most (g.rs[n0]'(lin n0 hn0)).x; omega)] at h1
    cases h1
end
/-! ### levels -/
def pD : PyData → List Nat
  | .tuple (p :: _) => decN p
  | _ => []
def chD : PyData → List PyData
  | .tuple [_, .tuple cs] => cs
  | _ => []
abbrev mkD (p : List Nat) (cs : List PyData) : PyData := .tuple [dI (nI p), .tuple cs]
theorem pD_mk (p : List Nat) (cs : List PyData) : pD (mkD p cs) = p := decN_dI p
theorem chD_mk (p : List Nat) (cs : List PyData) : chD (mkD p cs) = cs := rfl
def NdOk (g : Prg) (far : Bool) : Nat → List Nat → PyData → Prop
  | 0, _, _ => False
  | d + 1, p, D => ∃ cs ps, D = mkD p cs ∧ LotIn g p ∧ p ≠ [] ∧ (∃ kept row nums, ToldOk g far p kept row nums ∧ PartsOf g kept ps) ∧ (cs.length = ps.length ∧ cs.length ≤ 8) ∧ ∀ (i : Nat) (q : List Nat) (c : PyData), ps[i]? = some q → cs[i]? = some c → NdOk g far d q c
def bfs : Nat → List PyData → List PyData
  | 0, _ => []
  | d + 1, l => l ++ bfs d (l.flatMap chD)
/-- a level: its parts' tables are apart -/
def LvOk (g : Prg) (far : Bool) (d : Nat) (l : List PyData) : Prop := (∀ D ∈ l, NdOk g far d (pD D) D) ∧ l.Pairwise fun D E => ∀ t, Tbl g (pD D) t → ¬ Tbl g (pD E) t
section
variable {g : Prg} {far : Bool}
theorem NdOk.pd {d : Nat} {p : List Nat} {D : PyData} (h : NdOk g far d p D) : pD D = p := by
  cases d with
  | zero => cases h
  | succ d => obtain ⟨cs, ps, rfl, _⟩ := h; exact pD_mk _ _
theorem Tbl.sub {p q : List Nat} {t : Nat} (h : Tbl g q t) (s : ∀ n ∈ q, n ∈ p) : Tbl g p t := let ⟨n, h1, h2⟩ := h; ⟨n, s n h1, h2⟩
/-- the children of a node -/
theorem NdOk.ch {d : Nat} {p : List Nat} {D : PyData} (h : NdOk g far (d + 1) p D) : LvOk g far d (chD D) ∧ (∀ c ∈ chD D, ∀ n ∈ pD c, n ∈ p) ∧ (chD D).length ≤ 8 ∧
    ∀ kept row nums, ToldOk g far p kept row nums → g.Ok → (∀ n ∈ kept, ∃ c ∈ chD D, n ∈ pD c) ∧ ∀ c ∈ chD D, ∀ n ∈ pD c, n ∈ kept := by
  obtain ⟨cs, ps, rfl, lin, ne, ⟨kept, row, nums, K, H⟩, ⟨hl, h8⟩, hc⟩ := h
  rw [chD_mk]
  have cp : ∀ c ∈ cs, ∃ (i : Nat) (q : List Nat), ps[i]? = some q ∧ cs[i]? = some c ∧ NdOk g far d q c := fun c h => by
    obtain ⟨i, hi, rfl⟩ := List.mem_iff_getElem.mp h
    have h1 : cs[i]? = some cs[i] := List.getElem?_eq_getElem hi
    have h2 : ps[i]? = some (ps[i]'(by omega)) := List.getElem?_eq_getElem _
    exact ⟨i, _, h2, h1, hc i _ _ h2 h1⟩
  have sub : ∀ c ∈ cs, ∀ n ∈ pD c, n ∈ kept := fun c h n hn => by
    obtain ⟨i, q, h1, h2, h3⟩ := cp c h
    rw [h3.pd] at hn
    exact (parts_sub H (List.mem_of_getElem? h1)).1.subset hn
  refine ⟨⟨fun c h => ?_, ?_⟩, fun c h n hn => K.sub.subset (sub c h n hn), ?_, fun kept' row' nums' K' gok => ?_⟩
  · obtain ⟨i, q, h1, h2, h3⟩ := cp c h
    rw [h3.pd]; exact h3
  · have dis := parts_dis H
    rw [List.pairwise_iff_getElem] at dis ⊢
    intro i j hi hj hij t h1 h2
    have e1 := (hc i _ _ (List.getElem?_eq_getElem (by omega)) (List.getElem?_eq_getElem hi)).pd
    have e2 := (hc j _ _ (List.getElem?_eq_getElem (by omega)) (List.getElem?_eq_getElem hj)).pd
    rw [e1] at h1
    rw [e2] at h2
    exact dis i j (by omega) (by omega) hij t h1 h2
  · exact h8
  · have e := told_uniq gok lin.2.1 lin.2.2 K K'
    subst e
    refine ⟨fun n hn => ?_, sub⟩
    obtain ⟨q, hq, hn2⟩ := parts_cov H hn (kept_cyc gok K lin.2.2 hn)
    obtain ⟨i, hi, rfl⟩ := List.mem_iff_getElem.mp hq
    have h2 : cs[i]? = some (cs[i]'(by omega)) := List.getElem?_eq_getElem _
    have h3 := hc i _ _ (List.getElem?_eq_getElem hi) h2
    exact ⟨_, List.mem_of_getElem? h2, by rw [h3.pd]; exact hn2⟩
theorem LvOk.next {d : Nat} {l : List PyData} (h : LvOk g far (d + 1) l) : LvOk g far d (l.flatMap chD) := by
  obtain ⟨h1, h2⟩ := h
  refine ⟨fun c hc => ?_, ?_⟩
  · obtain ⟨D, hD, hc⟩ := List.mem_flatMap.mp hc
    exact (h1 D hD).ch.1.1 c hc
  · induction l with
    | nil => exact .nil
    | cons D l ih =>
      rw [List.flatMap_cons, List.pairwise_append]
      obtain ⟨h3, h4⟩ := List.pairwise_cons.mp h2
      refine ⟨(h1 D List.mem_cons_self).ch.1.2, ih (fun E hE => h1 E (List.mem_cons_of_mem _ hE)) h4, fun c hc e he t t1 t2 => ?_⟩
      obtain ⟨E, hE, he⟩ := List.mem_flatMap.mp he
      exact h3 E hE t (t1.sub ((h1 D List.mem_cons_self).ch.2.1 c hc)) (t2.sub ((h1 E (List.mem_cons_of_mem _ hE)).ch.2.1 e he))
theorem bfs_len : ∀ (d : Nat) {l : List PyData}, LvOk g far d l → (bfs d l).length ≤ l.length * 9 ^ d
  | 0, l, _ => Nat.zero_le _
  | d + 1, l, h => by
    have h1 := bfs_len d h.next
    have h2 : (l.flatMap chD).length ≤ l.length * 8 := by
      have h0 := h.1
      clear h h1
      induction l with
      | nil => exact Nat.le_refl _
      | cons D l ih =>
        rw [List.flatMap_cons, List.length_append, List.length_cons]
        have a1 := (h0 D List.mem_cons_self).ch.2.2.1
        have a2 := ih fun E hE => h0 E (List.mem_cons_of_mem _ hE)
        omega
    show (l ++ bfs d (l.flatMap chD)).length ≤ _
    rw [List.length_append, Nat.pow_succ]
    have h3 : (l.flatMap chD).length * 9 ^ d ≤ l.length * 8 * 9 ^ d := Nat.mul_le_mul_right _ h2
    have h4 : 1 ≤ 9 ^ d := Nat.pow_pos (by decide)
    have h5 : l.length * 1 ≤ l.length * 9 ^ d := Nat.mul_le_mul_left _ h4
    have e : l.length * (9 ^ d * 9) = l.length * 9 ^ d + l.length * 8 * 9 ^ d := by grind
    omega
/-! ### the made rows -/
abbrev Zt := PyData × List Int × List Int
open Classical in
/-- the rows of a table -/
noncomputable def rowsT (g : Prg) (Z : List Zt) (t : Nat) : List Row := (Z.filter fun z => decide (Tbl g (pD z.1) t)).map fun z => (z.2.1, z.2.2.getD t 0)
def ZOk (g : Prg) (far : Bool) (Z : List Zt) : Prop := ∀ z ∈ Z, ∃ kept, ToldOk g far (pD z.1) kept z.2.1 z.2.2
theorem rowsT_app (Z Z' : List Zt) (t : Nat) : rowsT g (Z ++ Z') t = rowsT g Z t ++ rowsT g Z' t := by unfold rowsT; rw [List.filter_append, List.map_append]
theorem rowsT_one {Z : List Zt} (dis : Z.Pairwise fun a b => ∀ t, Tbl g (pD a.1) t → ¬ Tbl g (pD b.1) t) {z : Zt} (hz : z ∈ Z) {t : Nat} (ht : Tbl g (pD z.1) t) : rowsT g Z t = [(z.2.1, z.2.2.getD t 0)] := by
  unfold rowsT
  induction Z with
  | nil => cases hz
  | cons a Z ih =>
    obtain ⟨h1, h2⟩ := List.pairwise_cons.mp dis
    rcases List.mem_cons.mp hz with rfl | hz
    · rw [List.filter_cons_of_pos (by exact @decide_eq_true _ (Classical.propDecidable _) ht)]
      have : Z.filter (fun z => @decide (Tbl g (pD z.1) t) (Classical.propDecidable _)) = [] := by
        rw [List.filter_eq_nil_iff]
        intro b hb z
        exact h1 b hb t ht (@of_decide_eq_true _ (Classical.propDecidable _) z)
      rw [this]; rfl
    · rw [List.filter_cons_of_neg (by intro q; exact h1 z hz t (@of_decide_eq_true _ (Classical.propDecidable _) q) ht)]
      exact ih h2 hz
theorem rowsT_len {Z : List Zt} (dis : Z.Pairwise fun a b => ∀ t, Tbl g (pD a.1) t → ¬ Tbl g (pD b.1) t) (t : Nat) : (rowsT g Z t).length ≤ 1 := by
  by_cases z : ∃ z ∈ Z, Tbl g (pD z.1) t
  · obtain ⟨z, hz, ht⟩ := z
    rw [rowsT_one dis hz ht]; exact Nat.le_refl _
  · have : rowsT g Z t = [] := by
      unfold rowsT
      rw [List.map_eq_nil_iff, List.filter_eq_nil_iff]
      intro b hb q
      exact z ⟨b, hb, @of_decide_eq_true _ (Classical.propDecidable _) q⟩
    rw [this]; exact Nat.zero_le _
theorem lv_dis {d : Nat} {l : List PyData} (h : LvOk g far d l) {Z : List Zt} (e : Z.map (·.1) = l) : Z.Pairwise fun a b => ∀ t, Tbl g (pD a.1) t → ¬ Tbl g (pD b.1) t := by
  have h2 := h.2
  rw [← e, List.pairwise_map] at h2
  exact h2
theorem rows_len : ∀ (d : Nat) {l : List PyData} {Z : List Zt}, LvOk g far d l → Z.map (·.1) = bfs d l → ∀ t, (rowsT g Z t).length ≤ d
  | 0, l, Z, _, e, t => by
    have : Z = [] := List.map_eq_nil_iff.mp e
    subst this
    exact Nat.le_refl _
  | d + 1, l, Z, h, e, t => by
    obtain ⟨Z1, Z2, rfl, e1, e2⟩ := List.map_eq_append_iff.mp e
    rw [rowsT_app, List.length_append]
    have a1 := rowsT_len (lv_dis h e1) t
    have a2 := rows_len d h.next e2 t
    omega
theorem rows_late (gok : g.Ok) : ∀ (d : Nat) {l : List PyData} {Z : List Zt}, LvOk g far d l → Z.map (·.1) = bfs d l → ZOk g far Z → ∀ {D : PyData} {n : Nat} {r : Rd}, D ∈ l → n ∈ pD D → g.rs[n]? = some r → rowsL (rowsT g Z r.x) (rowsT g Z r.y) r.s = true
  | 0, l, Z, h, e, zk, D, n, r, hD, hn, hr => (h.1 D hD).elim
  | d + 1, l, Z, h, e, zk, D, n, r, hD, hn, hr => by
    obtain ⟨Z1, Z2, rfl, e1, e2⟩ := List.map_eq_append_iff.mp e
    rw [rowsT_app, rowsT_app]
    have hD1 := hD
    rw [← e1] at hD1
    obtain ⟨z, hz, rfl⟩ := List.mem_map.mp hD1
    have dis := lv_dis h e1
    rw [rowsT_one dis hz ⟨n, hn, r, hr, .inl rfl⟩, rowsT_one dis hz ⟨n, hn, r, hr, .inr rfl⟩]
    obtain ⟨kept, K⟩ := zk z (List.mem_append_left _ hz)
    have lat : dotI z.2.1 r.s + z.2.2.getD r.x 0 - z.2.2.getD r.y 0 = later g z.2.1 z.2.2 n := by unfold later; rw [hr]
    show rowsL ((z.2.1, z.2.2.getD r.x 0) :: rowsT g Z2 r.x) ((z.2.1, z.2.2.getD r.y 0) :: rowsT g Z2 r.y) r.s = true
    unfold rowsL
    rw [if_neg (by intro q; exact q rfl)]
    show (if dotI z.2.1 r.s + z.2.2.getD r.x 0 - z.2.2.getD r.y 0 ≠ 0 then decide (0 < dotI z.2.1 r.s + z.2.2.getD r.x 0 - z.2.2.getD r.y 0) else _) = true
    rw [lat]
    by_cases k : n ∈ kept
    · rw [K.zero n k, if_neg (by intro q; exact q rfl)]
      obtain ⟨c, hc, hn2⟩ := ((h.1 _ hD).ch.2.2.2 kept _ _ K gok).1 n k
      exact rows_late gok d h.next e2 (fun z hz => zk z (List.mem_append_right _ hz)) (D := c) (List.mem_flatMap.mpr ⟨_, hD, hc⟩) hn2 hr
    · have := K.more n hn k
      rw [if_pos (by omega)]
      exact decide_eq_true this
end
end TN
set_option Elab.async false
set_option linter.all false
set_option maxRecDepth 100000
set_option maxHeartbeats 4000000
/-! W21: level_of, levels_of, all_levels, does_work. -/
namespace TN
open PySem PySem.Spec PyProof.Rows L2
theorem eqv_ints : ∀ (xs ys : List Int), PyData.eqvAll (xs.map .int) (ys.map .int) = decide (xs = ys)
  | [], [] => by rw [List.map_nil, PyData.eqvAll]; rfl
  | [], y :: ys => by rw [List.map_nil, List.map_cons, PyData.eqvAll]; rfl
  | x :: xs, [] => by rw [List.map_nil, List.map_cons, PyData.eqvAll]; rfl
  | x :: xs, y :: ys => by
    rw [List.map_cons, List.map_cons, PyData.eqvAll, eqv_ints xs ys, PyData.eqv, Bool.eq_iff_iff]
    simp
theorem eqv_dI (xs ys : List Int) : PyData.eqv (dI xs) (dI ys) = decide (xs = ys) := by rw [PyData.eqv, eqv_ints]
theorem lay_ints (xs : List Int) : PyData.canLayAll0 (xs.map .int) = true := by
  induction xs with
  | nil => rw [List.map_nil, PyData.canLayAll0]
  | cons x xs ih => rw [List.map_cons, PyData.canLayAll0, ih, PyData.canLay0]; rfl
theorem shaped_dI (xs : List Int) : SeqAt.shaped (dI xs) = true := by
  unfold SeqAt.shaped
  rw [depth_dI, PyData.canLay0, lay_ints]; rfl
theorem lay_all {ds : List PyData} {n : Nat} (h : ∀ d ∈ ds, d.canLay0 = true ∧ d.depth ≤ n) : PyData.canLayAll0 ds = true ∧ PyData.depthAll ds ≤ n := by
  induction ds with
  | nil => rw [PyData.canLayAll0, PyData.depthAll]; exact ⟨rfl, Nat.zero_le _⟩
  | cons d ds ih =>
    obtain ⟨h1, h2⟩ := h d List.mem_cons_self
    obtain ⟨h3, h4⟩ := ih fun e he => h e (List.mem_cons_of_mem _ he)
    rw [PyData.canLayAll0, PyData.depthAll, h1, h3]
    exact ⟨rfl, Nat.max_le.mpr ⟨h2, h4⟩⟩
theorem lay_tup {ds : List PyData} {n : Nat} (h : ∀ d ∈ ds, d.canLay0 = true ∧ d.depth ≤ n) : (PyData.tuple ds).canLay0 = true ∧ (PyData.tuple ds).depth ≤ n + 1 := by
  rw [PyData.canLay0, PyData.depth]
  exact ⟨(lay_all h).1, Nat.succ_le_succ (lay_all h).2⟩
theorem lay_shaped {d : PyData} {n : Nat} (h : d.canLay0 = true ∧ d.depth ≤ n) (hn : n ≤ 64) : SeqAt.shaped d = true := by
  unfold SeqAt.shaped
  rw [h.1, Bool.true_and]
  exact decide_eq_true (Nat.le_trans h.2 hn)
theorem nd_lay {g : Prg} {far : Bool} : ∀ (d : Nat) {p : List Nat} {D : PyData}, NdOk g far d p D → D.canLay0 = true ∧ D.depth ≤ 2 * d + 2
  | 0, _, _, h => h.elim
  | d + 1, p, D, h => by
    obtain ⟨cs, ps, rfl, _, _, _, ⟨hl, _⟩, hc⟩ := h
    have hcs := lay_tup (ds := cs) (n := 2 * d + 2) fun c hc' => by
      obtain ⟨i, hi, rfl⟩ := List.mem_iff_getElem.mp hc'
      exact nd_lay d (hc i _ _ (List.getElem?_eq_getElem (by omega)) (List.getElem?_eq_getElem hi))
    refine lay_tup (n := 2 * d + 3) fun e he => ?_
    rcases List.mem_cons.mp he with rfl | he
    · rw [depth_dI, PyData.canLay0, lay_ints]; exact ⟨rfl, by omega⟩
    · rw [List.mem_singleton.mp he]; exact hcs
theorem TDs.of_all {H : Hp} : ∀ {vs : List V} {ds : List PyData}, vs.length = ds.length → (∀ (i : Nat) (v : V) (d : PyData), vs[i]? = some v → ds[i]? = some d → TD H v d) → TDs H vs ds
  | [], [], _, _ => .nil
  | [], _ :: _, h, _ => by simp at h
  | _ :: _, [], h, _ => by simp at h
  | v :: vs, d :: ds, h, f => .cons (f 0 v d rfl rfl) (TDs.of_all (by simpa using h) fun i v d h1 h2 => f (i + 1) v d (by simpa using h1) (by simpa using h2))
/-- values each of which is data of a kind -/
theorem tds_ex {H : Hp} {vs : List V} {R : Nat → PyData → Prop} (h : ∀ (i : Nat) (v : V), vs[i]? = some v → ∃ d, TD H v d ∧ R i d) : ∃ ds : List PyData, TDs H vs ds ∧ ∀ (i : Nat) (d : PyData), ds[i]? = some d → R i d := by
  induction vs generalizing R with
  | nil => exact ⟨[], .nil, fun i d e => by simp at e⟩
  | cons v vs ih =>
    obtain ⟨d, h1, h2⟩ := h 0 v rfl
    obtain ⟨ds, h3, h4⟩ := ih (R := fun i => R (i + 1)) fun i v e => h (i + 1) v (by simpa using e)
    exact ⟨d :: ds, .cons h1 h3, fun i e => by cases i with
      | zero => intro q; simp at q; subst q; exact h2
      | succ i => intro q; exact h4 i e (by simpa using q)⟩
theorem lc_gen2 {J : It} {g : TG} {te : TE} {vs : List Nat} {σ : L2.St} {H1 : Hp} {D : Addr} {Qd : Hp → Prop} (n : Nat) (R : Nat → V → Hp → Prop) (hD : H1 D = none) (hn : n ≤ 1000000)
    (hm : ∀ j v H H' xs, H D = some (.lst xs) → Xt D H H' → R j v H → R j v H')
    (stop : ∀ H, Same H1 H → J.stop n H) (go : ∀ i H, i < n → Same H1 H → J.go i H)
    (hs : ∀ (i : Nat) (H : Hp) (acc : List V) (Qy : V → Hp → Prop), i < n → Same H1 H → H D = some (.lst acc) → (∀ y H4, Xt D H H4 → H4 D = some (.lst acc) → R i y H4 → Qy y H4) →
      ∀ x H', J.yld i H x H' → g x (wipe σ vs) H' fun σ2 H2 => wipe σ2 vs = wipe σ vs ∧ te σ2 H2 Qy)
    (hd : ∀ H ys, Same H1 H → H D = some (.lst ys) → ys.length = n → (∀ j y, ys[j]? = some y → R j y H) → Qd H) :
    LcW J g te vs σ H1 D Qd := by
  refine lc_genP n (fun i ys H => ys.length = i ∧ ∀ j y, ys[j]? = some y → R j y H) hD hn ⟨rfl, fun j y e => by simp at e⟩ stop go (fun i H acc Qy hi s hH hP k => hs i H acc Qy hi s hH fun y H4 x4 e4 r4 => k y H4 (((Xt.of s).trans x4).same hD) e4 ⟨by rw [List.length_append, hP.1]; rfl, fun j z e => ?_⟩) (fun H ys s h1 h2 h3 => hd H ys s h1 h2 h3.2)
  by_cases q : j < acc.length
  · rw [List.getElem?_append_left q] at e
    exact hm j z _ _ _ hH (Xt.at x4) (hP.2 j z e)
  · rw [List.getElem?_append_right (by omega)] at e
    have q2 : j - acc.length = 0 := by
      have := (List.getElem?_eq_some_iff.mp e).1
      simp at this
      omega
    rw [q2] at e
    cases e
    have q3 : j = i := by
      have := hP.1
      omega
    subst q3
    exact hm _ _ _ _ _ e4 (Xt.at Xt.refl) r4
theorem lc_listG2 {K : PySem.W.Frag} {a : Addr} {xs : List V} {g : TG} {te : TE} {vs : List Nat} {σ : L2.St} {H1 : Hp} {D : Addr} {Qd : Hp → Prop} (R : Nat → V → Hp → Prop) (hq : SqL K H1 a xs) (hD : H1 D = none) (hn : xs.length ≤ 1000000)
    (hm : ∀ j v H H' xs, H D = some (.lst xs) → Xt D H H' → R j v H → R j v H')
    (hs : ∀ (i : Nat) (x : V) (H : Hp) (acc : List V) (Qy : V → Hp → Prop), xs[i]? = some x → Same H1 H → H D = some (.lst acc) → (∀ y H4, Xt D H H4 → H4 D = some (.lst acc) → R i y H4 → Qy y H4) →
      g x (wipe σ vs) H fun σ2 H2 => wipe σ2 vs = wipe σ vs ∧ te σ2 H2 Qy)
    (hd : ∀ H ys, Same H1 H → H D = some (.lst ys) → ys.length = xs.length → (∀ j y, ys[j]? = some y → R j y H) → Qd H) : LcW (Itl K a) g te vs σ H1 D Qd :=
  lc_gen2 (J := Itl K a) (g := g) (te := te) (vs := vs) (σ := σ) (H1 := H1) (D := D) (Qd := Qd) xs.length R hD hn hm (fun H s => ⟨xs, s.sqL hq, Nat.le_refl _⟩) (fun i H hi s => ⟨xs, xs[i], s.sqL hq, by simp [hi]⟩)
    (fun i H acc Qy hi s hH k x H' ⟨e, y⟩ => by
      subst e
      exact hs i x _ acc Qy (y xs (s.sqL hq)) s hH k) hd
section
variable {P : Program} {w : World} {K : PySem.W.Frag} {mg : Str → Option Value} {base : Heap}
def spLevel (K : PySem.W.Frag) (d : Nat) : Sp := fun vs H Q _ => ∃ (p : Addr) (v : V) (g : Prg) (far : Bool) (lot : List Nat) (T : Tt) (m j : Nat), vs = [.ref p, v, .str (wS far)] ∧ PrgAt K H p g ∧ g.Ok ∧ TD H v (dI (nI lot)) ∧ LotIn g lot ∧ lot ≠ [] ∧
  Rise g far m T ∧ Pj g T j lot ∧ Conn g lot ∧ m ≤ j + d ∧ ∀ v' H' D, Same H H' → TD H' v' D → NdOk g far d lot D → Q v' H'
/-! level_of: slots 0 program, 1 part, 2 world, 3 kept, 4 inner; calls ['G_level_of', 'G_parts_of', 'G_told_of'] -/
abbrev N_level_of : List Str := ["program", "part", "world", "kept", "inner"]
theorem sc_level_of : FnScope N_level_of ["program", "part", "world"] (defScope s_level_of) := ⟨rfl, rfl, rfl, by decide +kernel, rfl, by decide +kernel, by decide +kernel⟩
theorem ok_level_of (W : Wd K mg) : ∀ d : Nat, Ok P w K mg base (7 + d) "level_of" ["program", "part", "world"] (spLevel K d)
  | 0 => by
    have sc := sc_level_of
    refine Ok.mk' W.F_level_of W.g_level_of sc (fun vs H Q E h => ?_) (fun _ _ _ _ _ _ us hl => match us, hl with | [_, _, _], _ => rfl) (fun cdv A outer s H vs Q E hr h => ?_)
    · obtain ⟨p, v, g, far, lot, T, m, j, rfl, _⟩ := h
      rfl
    · obtain ⟨p, v, g, far, lot, T, m, j, rfl, PA, gok, hlot, lin, ne, R, pj, cn, hm, k⟩ := h
      refine ⟨_, pss_never, ?_⟩
      have := pj.lt R ne lin.2.2
      omega
  | d + 1 => by
    have sc := sc_level_of
    have G_level_of : Ok P w K mg base (7 + d) "level_of" ["program", "part", "world"] (spLevel K d) := ok_level_of W d
    have G_told_of : Ok P w K mg base 6 "told_of" ["program", "lot", "world"] (spTold K) := ok_told_of W
    have G_parts_of : Ok P w K mg base 2 "parts_of" ["program", "lot"] (spParts K) := ok_parts_of W
    refine Ok.mk' (k := 7 + d) W.F_level_of W.g_level_of sc (fun vs H Q E h => ?_) (fun _ _ _ _ _ _ us hl => match us, hl with | [_, _, _], _ => rfl) (fun cdv A outer s H vs Q E hr h => ?_)
    · obtain ⟨p, v, g, far, lot, T, m, j, rfl, _⟩ := h
      rfl
    · obtain ⟨p, v, g, far, lot, T, m, j, rfl, PA, gok, hlot, lin, ne, R, pj, cn, hm, k⟩ := h
      refine ⟨_, (pss_cons (ps_set (i := 3) sc.nd rfl (Or.inl rfl) (pe_ix (k_ixt K) (pe_c G_told_of (hr.mono (by omega)) (by rfl) (pa_cons (pv 0) (pa_cons (pv 1) (pa_cons (pv 2) pa_nil)))) pe_int (fun _ _ => rfl)))
    (pss_cons (ps_if (pt_cmpR (k_eqD K hr.units) (pv 3) (pv 1) (nomark _))
      (pss_one ps_never)
      pss_nil)
    (pss_one (ps_ret (pe_tup (pa_cons (pv 1) (pa_cons (pe_callTy (k_tupof K) (by rfl) W.b_tuple PyProof.Rows.boot_tuple (pa_cons (pe_lc (own := [("inner", 4)]) (g := gName 4) rfl sc.nd (k_pil K (pe_c G_parts_of (hr.mono (by omega)) (by rfl) (pa_cons (pv 0) (pa_cons (pv 3) pa_nil)))) (blkOk_by (N := N_level_of) (sc := defScope s_level_of) (by decide +kernel))  (fun _ _ _ _ _ => (pg_name (i := 4) sc.nd rfl (Or.inl rfl))) (fun _ _ _ _ _ => pts_nil) (fun _ _ _ _ _ => (pe_c G_level_of (hr.mono (by omega)) (by rfl) (pa_cons (pv 0) (pa_cons (pv 4) (pa_cons (pv 2) pa_nil)))))) pa_nil)) pa_nil))))))), ?_⟩
      refine ⟨_, rfl, _, rfl, _, rfl, p, v, g, far, lot, rfl, PA, gok, hlot, lin.1, ne, lin.2.1, lin.2.2, fun v1 H1 kept told row nums s1 KT hv1 => ?_⟩
      obtain ⟨q1, xs1, rfl, hq1, hxs1⟩ := hv1.tup_inv
      cases hxs1 with | cons hk0 hxs1 => ?_
      rename_i vk vrest
      refine r_c (r_tgetI (j := 0) hq1 rfl rfl ?_)
      have nek : kept ≠ lot := fun e => by
        subst e
        exact no_turn gok R pj ne lin.2.2 cn KT
      refine ⟨_, rfl, _, rfl, _, _, hk0.dp, (hlot.mono (Tsm.of s1)).dp, shaped_dI _, shaped_dI _, ?_⟩
      rw [eqv_dI, decide_eq_false (fun e => nek ((decN_dI kept).symm.trans ((congrArg (fun l => decN (dI l)) e).trans (decN_dI lot))))]
      refine ⟨_, rfl, ?_⟩
      refine iteF ?_
      have linK : LotIn g kept := ⟨Nat.le_trans KT.sub.length_le lin.1, KT.sub.nodup lin.2.1, fun n hn => lin.2.2 n (KT.sub.subset hn)⟩
      have pjK : Pj g T (j + 1) kept := pj.step gok R ne lin.2.2 cn KT
      refine ⟨_, rfl, ?_⟩
      refine ⟨_, rfl, _, rfl, p, vk, g, kept, rfl, PA.mono s1, gok, hk0, linK, fun a H2 ps s2 ⟨xs, ha, hxs⟩ hps => ?_⟩
      refine ⟨a, rfl, ⟨_, SqL.of ha⟩, fun D hD => ?_⟩
      have l8 := parts_len hps gok
      have lxs : xs.length = ps.length := by rw [hxs.length, List.length_map]
      refine lc_listG2 (fun i v H' => ∃ c, TD H' v c ∧ ∃ q, ps[i]? = some q ∧ NdOk g far d q c) (SqL.of ha) hD (by omega) (fun i v H3 H4 xs e x ⟨c, h1, h2⟩ => ⟨c, h1.mono (x.tsm e), h2⟩) (fun i x H3 acc Qy hx s3 hA z => ⟨rfl, ?_⟩) (fun H3 ys s3 hD3 hl hy => ?_)
      · obtain ⟨dd, e1, e2⟩ := hxs.get' hx
        rw [List.getElem?_map] at e1
        obtain ⟨q, hq, rfl⟩ : ∃ q, ps[i]? = some q ∧ dd = dI (nI q) := by
          cases e : ps[i]? with
          | none => rw [e] at e1; cases e1
          | some q => rw [e] at e1; exact ⟨q, rfl, (Option.some.inj e1).symm⟩
        have hqm := List.mem_of_getElem? hq
        obtain ⟨qs, qne⟩ := parts_sub hps hqm
        refine ⟨_, rfl, _, rfl, _, rfl, p, x, g, far, q, T, m, j + 1, rfl, (PA.mono s1).mono (s2.trans s3), gok, e2.mono (Tsm.of s3), ⟨Nat.le_trans qs.length_le linK.1, qs.nodup linK.2.1, fun n hn => linK.2.2 n (qs.subset hn)⟩, qne, R, pjK.sub (fun n hn => qs.subset hn), parts_Conn hps hqm, by omega, fun v' H4 D' s4 hv' nd => ?_⟩
        exact z _ _ (Xt.of s4) (s4 _ _ hA) ⟨D', hv', q, hq, nd⟩
      · obtain ⟨cs, hcs1, hcs2⟩ := tds_ex hy
        refine ⟨D, _, rfl, .inl ⟨SqL.of hD3, fun l hl2 => ?_⟩⟩
        have sA : Same H3 (upd H3 l (.tup ys)) := Same.upd hl2
        have hlA : (upd H3 l (.tup ys)) l = some (.tup ys) := upd_same
        generalize upd H3 l (.tup ys) = H4 at *
        refine ⟨by show 2 ≤ sizeLine; decide, fun U hU => ?_⟩
        have sU : Same H4 (upd H4 U (.tup [v, .ref l])) := Same.upd hU
        have s0 : Same H (upd H4 U (.tup [v, .ref l])) := (((s1.trans s2).trans s3).trans sA).trans sU
        refine k _ _ (mkD lot cs) s0 (.tup upd_same (.cons (hlot.mono (Tsm.of s0)) (.cons (.tup (sU _ _ hlA) (hcs1.mono (Tsm.of (sA.trans sU)))) .nil))) ?_
        have lcs : cs.length = ps.length := by rw [← hcs1.length, hl, lxs]
        refine ⟨cs, ps, rfl, lin, ne, ⟨kept, row, nums, KT, hps⟩, ⟨lcs, by omega⟩, fun i q c h1 h2 => ?_⟩
        obtain ⟨q', h3, h4⟩ := hcs2 i c h2
        rw [h1] at h3
        cases h3
        exact h4
def spLevels (K : PySem.W.Frag) (m : Nat) : Sp := fun vs H Q _ => ∃ (p : Addr) (g : Prg) (far : Bool) (T : Tt), vs = [.ref p, .str (wS far)] ∧ PrgAt K H p g ∧ g.Ok ∧ Rise g far m T ∧
  ∀ v' H' ds ps, Same H H' → TD H' v' (.tuple ds) → LvOk g far m ds → PartsOf g (List.range g.rs.length) ps → ps = ds.map pD → Q v' H'
theorem lot_all {g : Prg} (gok : g.Ok) : LotIn g (List.range g.rs.length) := ⟨by rw [List.length_range]; exact gok.n, List.nodup_range, fun n hn => List.mem_range.mp hn⟩
/-! levels_of: slots 0 program, 1 world, 2 part; calls ['G_every', 'G_level_of', 'G_parts_of'] -/
abbrev N_levels_of : List Str := ["program", "world", "part"]
theorem sc_levels_of : FnScope N_levels_of ["program", "world"] (defScope s_levels_of) := ⟨rfl, rfl, rfl, by decide +kernel, rfl, by decide +kernel, by decide +kernel⟩
theorem ok_levels_of (W : Wd K mg) (m : Nat) : Ok P w K mg base (8 + m) "levels_of" ["program", "world"] (spLevels K m) := by
  have sc := sc_levels_of
  have G_level_of : Ok P w K mg base (7 + m) "level_of" ["program", "part", "world"] (spLevel K m) := ok_level_of W m
  have G_every : Ok P w K mg base 1 "every" ["program"] (spEvery K) := ok_every W
  have G_parts_of : Ok P w K mg base 2 "parts_of" ["program", "lot"] (spParts K) := ok_parts_of W
  have e8 : 8 + m = 7 + m + 1 := by omega
  rw [e8]
  refine Ok.mk' (k := 7 + m) W.F_levels_of W.g_levels_of sc (fun vs H Q E h => ?_) (fun _ _ _ _ _ _ us hl => match us, hl with | [_, _], _ => rfl) (fun cdv A outer s H vs Q E hr h => ?_)
  · obtain ⟨p, g, far, T, rfl, _⟩ := h
    rfl
  · obtain ⟨p, g, far, T, rfl, PA, gok, R, k⟩ := h
    refine ⟨_, (pss_one (ps_ret (pe_callTy (k_tupof K) (by rfl) W.b_tuple PyProof.Rows.boot_tuple (pa_cons (pe_lc (own := [("part", 2)]) (g := gName 2) rfl sc.nd (k_pil K (pe_c G_parts_of (hr.mono (by omega)) (by rfl) (pa_cons (pv 0) (pa_cons (pe_c G_every (hr.mono (by omega)) (by rfl) (pa_cons (pv 0) pa_nil)) pa_nil)))) (blkOk_by (N := N_levels_of) (sc := defScope s_levels_of) (by decide +kernel))  (fun _ _ _ _ _ => (pg_name (i := 2) sc.nd rfl (Or.inl rfl))) (fun _ _ _ _ _ => pts_nil) (fun _ _ _ _ _ => (pe_c G_level_of (hr.mono (by omega)) (by rfl) (pa_cons (pv 0) (pa_cons (pv 2) (pa_cons (pv 1) pa_nil)))))) pa_nil)))), ?_⟩
    refine ⟨_, rfl, _, rfl, p, g, rfl, PA, gok, fun v1 H1 s1 hv1 => ?_⟩
    refine ⟨p, v1, g, _, rfl, PA.mono s1, gok, hv1, lot_all gok, fun a H2 ps s2 ⟨xs, ha, hxs⟩ hps => ?_⟩
    refine ⟨a, rfl, ⟨_, SqL.of ha⟩, fun D hD => ?_⟩
    have l8 := parts_len hps gok
    have lxs : xs.length = ps.length := by rw [hxs.length, List.length_map]
    refine lc_listG2 (fun i v H' => ∃ c, TD H' v c ∧ ∃ q, ps[i]? = some q ∧ NdOk g far m q c) (SqL.of ha) hD (by omega) (fun i v H3 H4 xs e x ⟨c, h1, h2⟩ => ⟨c, h1.mono (x.tsm e), h2⟩) (fun i x H3 acc Qy hx s3 hA z => ⟨rfl, ?_⟩) (fun H3 ys s3 hD3 hl hy => ?_)
    · obtain ⟨dd, e1, e2⟩ := hxs.get' hx
      rw [List.getElem?_map] at e1
      obtain ⟨q, hq, rfl⟩ : ∃ q, ps[i]? = some q ∧ dd = dI (nI q) := by
        cases e : ps[i]? with
        | none => rw [e] at e1; cases e1
        | some q => rw [e] at e1; exact ⟨q, rfl, (Option.some.inj e1).symm⟩
      have hqm := List.mem_of_getElem? hq
      obtain ⟨qs, qne⟩ := parts_sub hps hqm
      have la := lot_all gok
      refine ⟨_, rfl, _, rfl, _, rfl, p, x, g, far, q, T, m, 0, rfl, (PA.mono s1).mono (s2.trans s3), gok, e2.mono (Tsm.of s3), ⟨Nat.le_trans qs.length_le la.1, qs.nodup la.2.1, fun n hn => la.2.2 n (qs.subset hn)⟩, qne, R, Pj.base R hps hqm, parts_Conn hps hqm, by omega, fun v' H4 D' s4 hv' nd => ?_⟩
      exact z _ _ (Xt.of s4) (s4 _ _ hA) ⟨D', hv', q, hq, nd⟩
    · obtain ⟨cs, hcs1, hcs2⟩ := tds_ex hy
      have lcs : cs.length = ps.length := by rw [← hcs1.length, hl, lxs]
      have eps : ps = cs.map pD := by
        apply List.ext_getElem?
        intro i
        rw [List.getElem?_map]
        cases q : cs[i]? with
        | none =>
          have : ps[i]? = none := by rw [List.getElem?_eq_none_iff] at q ⊢; omega
          rw [this]; rfl
        | some c =>
          obtain ⟨q', h3, h4⟩ := hcs2 i c q
          rw [h3, ← h4.pd]; rfl
      refine ⟨D, _, rfl, .inl ⟨SqL.of hD3, fun l hl2 => ?_⟩⟩
      have sA : Same H3 (upd H3 l (.tup ys)) := Same.upd hl2
      refine k _ _ cs ps (((s1.trans s2).trans s3).trans sA) (.tup upd_same (hcs1.mono (Tsm.of sA))) ⟨fun c hc => ?_, ?_⟩ hps eps
      · obtain ⟨i, hi, rfl⟩ := List.mem_iff_getElem.mp hc
        obtain ⟨q', h3, h4⟩ := hcs2 i _ (List.getElem?_eq_getElem hi)
        rw [h4.pd]; exact h4
      · have dis := parts_dis hps
        rw [eps, List.pairwise_map] at dis
        exact dis
theorem bfs_nil : ∀ d, bfs d [] = []
  | 0 => rfl
  | d + 1 => by show [] ++ bfs d ([].flatMap chD) = []; rw [List.flatMap_nil, bfs_nil d]; rfl
def spAll : Sp := fun vs H Q _ => ∃ (v : V) (g : Prg) (far : Bool) (d : Nat) (ds : List PyData), vs = [v] ∧ TD H v (.tuple ds) ∧ LvOk g far d ds ∧ d ≤ 20 ∧ (bfs d ds).length ≤ 100000 ∧
  ∀ a H', Same H H' → LD H' a (bfs d ds) → Q (.ref a) H'
/-- where all_levels stands -/
structure AL (g : Prg) (far : Bool) (all P l mm : List PyData) (d : Nat) : Prop where
  eq : all = P ++ (l ++ bfs d (mm ++ l.flatMap chD))
  hl : ∀ E ∈ l, NdOk g far (d + 1) (pD E) E
  hm : ∀ E ∈ mm, NdOk g far d (pD E) E
  hd : d ≤ 20
theorem AL.len {g : Prg} {far : Bool} {all P l mm : List PyData} {d : Nat} (h : AL g far all P l mm d) : P.length + l.length + mm.length ≤ all.length := by
  rw [h.eq, List.length_append, List.length_append]
  cases d with
  | zero =>
    have : mm = [] := List.eq_nil_iff_forall_not_mem.mpr fun E hE => (h.hm E hE).elim
    subst this
    show _ + _ + 0 ≤ _
    omega
  | succ d =>
    show _ ≤ _ + (_ + ((mm ++ _) ++ bfs d _).length)
    rw [List.length_append, List.length_append]
    omega
theorem AL.step {g : Prg} {far : Bool} {all P l mm : List PyData} {d : Nat} {E : PyData} (h : AL g far all P (E :: l) mm d) : AL g far all (P ++ [E]) l (mm ++ chD E) d := by
  refine ⟨by rw [h.eq, List.flatMap_cons]; simp, fun F hF => h.hl F (List.mem_cons_of_mem _ hF), fun F hF => ?_, h.hd⟩
  rcases List.mem_append.mp hF with hF | hF
  · exact h.hm F hF
  · exact (h.hl E List.mem_cons_self).ch.1.1 F hF
theorem AL.norm {g : Prg} {far : Bool} {all P l mm : List PyData} {d : Nat} (h : AL g far all P l mm d) (ne : l ++ mm ≠ []) : ∃ E l' mm' d', l ++ mm = (E :: l') ++ mm' ∧ AL g far all P (E :: l') mm' d' := by
  cases l with
  | cons E l => exact ⟨E, l, mm, d, rfl, h⟩
  | nil =>
    cases mm with
    | nil => exact (ne rfl).elim
    | cons E mm =>
      cases d with
      | zero => exact (h.hm E List.mem_cons_self).elim
      | succ d =>
        refine ⟨E, mm, [], d, by simp, ⟨?_, h.hm, fun F hF => (by cases hF), by have := h.hd; omega⟩⟩
        rw [h.eq]
        show P ++ ([] ++ (((E :: mm) ++ [].flatMap chD) ++ bfs d (((E :: mm) ++ [].flatMap chD).flatMap chD))) = _
        simp
/-! all_levels: slots 0 told, 1 found, 2 at, 3 inner; calls [] -/
abbrev N_all_levels : List Str := ["told", "found", "at", "inner"]
theorem sc_all_levels : FnScope N_all_levels ["told"] (defScope s_all_levels) := ⟨rfl, rfl, rfl, by decide +kernel, rfl, by decide +kernel, by decide +kernel⟩
theorem ok_all_levels (W : Wd K mg) : Ok P w K mg base 1 "all_levels" ["told"] spAll := by
  have sc := sc_all_levels
  refine Ok.mk' W.F_all_levels W.g_all_levels sc (fun vs H Q E h => ?_) (fun _ _ _ _ _ _ us hl => match us, hl with | [_], _ => rfl) (fun cdv A outer s H vs Q E hr h => ?_)
  · obtain ⟨v, g, far, d, ds, rfl, _⟩ := h
    rfl
  · obtain ⟨v, g, far, d, ds, rfl, hv, lv, d20, hb, k⟩ := h
    obtain ⟨p, xs, rfl, hp, hxs⟩ := id hv.tup_inv
    refine ⟨_, (pss_cons (ps_set (i := 1) sc.nd rfl (Or.inl rfl) (pe_callTy (k_listof K) (by rfl) W.b_list PyProof.Rows.boot_list (pa_cons (pv 0) pa_nil)))
    (pss_cons (ps_set (i := 2) sc.nd rfl (Or.inl rfl) pe_int)
    (pss_cons (ps_while PassesOwn.never (pt_cmpR op_lt (pv 2) (pe_callB (k_len K) (by rfl) W.b_len PySem.boot_len (pa_cons (pv 1) pa_nil)) (nomark _))
      (pss_cons (ps_set (i := 3) sc.nd rfl (Or.inl rfl) (pe_ix (k_ixt K) (pe_ix (k_ixl K) (pv 1) (pv 2) (fun _ _ => rfl)) pe_int (fun _ _ => rfl)))
      (pss_cons (ps_if (pt_cmpR (k_neD K hr.units) (pv 3) (pe_gs (by rfl) W.x_TURN) (nomark _))
        (pss_one (ps_expr (k_bm K PySem.F.plainAttrs_list PySem.F.slot_list_extend PySem.F.type_list_extend mt_extend (pv 1) (pa_cons (pe_callTy (k_listof K) (by rfl) W.b_list PyProof.Rows.boot_list (pa_cons (pv 3) pa_nil)) pa_nil))))
        pss_nil)
      (pss_one (ps_aug (i := 2) sc.nd rfl (Or.inl rfl) pe_int ip_add)))))
    (pss_one (ps_ret (pv 1)))))), ?_⟩
    refine ⟨_, rfl, p, xs, rfl, .inr (SqT.of hp), fun F hF => ?_⟩
    have s1 : Same H (upd H F (.lst xs)) := Same.upd hF
    have hF1 : (upd H F (.lst xs)) F = some (.lst xs) := upd_same
    generalize upd H F (.lst xs) = H1 at *
    have al0 : ∃ d', AL g far (bfs d ds) [] ds [] d' := by
      cases d with
      | zero =>
        have e : ds = [] := List.eq_nil_iff_forall_not_mem.mpr fun E hE => (lv.1 E hE).elim
        subst e
        exact ⟨0, ⟨rfl, fun E hE => (by cases hE), fun E hE => (by cases hE), by omega⟩⟩
      | succ d => exact ⟨d, ⟨rfl, lv.1, fun E hE => (by cases hE), by omega⟩⟩
    obtain ⟨d0, al0⟩ := al0
    refine ⟨fun m σ H' => ∃ (v3 : Option V) (Pd l mm : List PyData) (d' : Nat) (ys : List V), σ = [some (.ref p), some (.ref F), some (.int (Pd.length : Int)), v3] ∧ Same H H' ∧ H' F = some (.lst ys) ∧ TDs H' ys (Pd ++ (l ++ mm)) ∧ AL g far (bfs d ds) Pd l mm d' ∧ m = (bfs d ds).length - Pd.length,
      ⟨_, none, [], ds, [], d0, xs, rfl, s1, hF1, by rw [List.nil_append, List.append_nil]; exact hxs.mono (Tsm.of s1), al0, rfl⟩, ?_⟩
    rintro m σ H2 ⟨v3, Pd, l, mm, d', ys, rfl, s2, hF2, hys, al, rfl⟩
    refine ⟨_, rfl, _, rfl, F, ys, rfl, .inl (SqL.of hF2), ?_⟩
    refine ⟨_, _, rfl, rfl, _, rfl, ?_⟩
    have lys : ys.length = Pd.length + (l ++ mm).length := by rw [hys.length, List.length_append]
    refine ite2 (fun hc => ?_) (fun hc => ?_)
    · have hc : ((Pd.length : Nat) : Int) < ((ys.length : Nat) : Int) := of_decide_eq_true hc
      have ne : l ++ mm ≠ [] := fun e => by rw [e] at lys; simp at lys; omega
      obtain ⟨E, l', mm', d2, e1, al2⟩ := al.norm ne
      rw [e1] at hys
      have al3 := al2.step
      have len3 := al3.len
      have lenA := al2.len
      rw [List.length_append] at len3
      refine ⟨fun σ' H' => ∃ m', m' < (bfs d ds).length - Pd.length ∧ ∃ (v3 : Option V) (Pd l mm : List PyData) (d' : Nat) (ys : List V), σ' = [some (.ref p), some (.ref F), some (.int (Pd.length : Int)), v3] ∧ Same H H' ∧ H' F = some (.lst ys) ∧ TDs H' ys (Pd ++ (l ++ mm)) ∧ AL g far (bfs d ds) Pd l mm d' ∧ m' = (bfs d ds).length - Pd.length, fun σ' H' h => h, ?_⟩
      obtain ⟨vE, hvE, htE⟩ := hys.get (i := Pd.length) (d := E) (by rw [List.getElem?_append_right (Nat.le_refl _), Nat.sub_self]; rfl)
      obtain ⟨cs, ps, eE, _, _, _, ⟨hl, h8⟩, hcs⟩ := al2.hl E List.mem_cons_self
      have ech : chD E = cs := by rw [eE]; exact chD_mk _ _
      have ndE := nd_lay (d2 + 1) (al2.hl E List.mem_cons_self)
      rw [eE] at htE
      obtain ⟨q, zs, rfl, hq, hzs⟩ := htE.tup_inv
      cases hzs with | cons hz1 hzs => ?_
      cases hzs with | cons hz2 hzs => ?_
      cases hzs
      obtain ⟨ci, ws, rfl, hci, hws⟩ := id hz2.tup_inv
      refine ⟨_, rfl, _, rfl, r_lget (j := Pd.length) hF2 hvE ?_⟩
      refine r_c (r_tgetI (j := 1) hq rfl rfl ?_)
      have lay2 : (PyData.tuple cs).canLay0 = true ∧ (PyData.tuple cs).depth ≤ 63 := by
        refine lay_tup (n := 62) fun c hc => ?_
        obtain ⟨i, hi, rfl⟩ := List.mem_iff_getElem.mp hc
        have h := nd_lay d2 (hcs i _ _ (List.getElem?_eq_getElem (by omega)) (List.getElem?_eq_getElem hi))
        have := al2.hd
        exact ⟨h.1, by omega⟩
      refine ⟨_, rfl, _, _, hz2.dp, (TD.str _).dp, lay_shaped lay2 (by decide), by decide +kernel, ?_⟩
      refine ⟨_, rfl, ?_⟩
      rw [show PyData.eqv (.tuple cs) (.str ("turn" : Str)) = false by rw [PyData.eqv]]
      refine iteT ?_
      refine ⟨_, rfl, .inl ⟨rfl, _, SqL.of hF2⟩, ?_⟩
      refine ⟨_, rfl, ci, ws, rfl, .inr (SqT.of hci), fun l2 hl2 => ?_⟩
      have sA : Same H2 (upd H2 l2 (.lst ws)) := Same.upd hl2
      have hA : (upd H2 l2 (.lst ws)) l2 = some (.lst ws) := upd_same
      generalize upd H2 l2 (.lst ws) = H3 at *
      have lws : ws.length = cs.length := hws.length
      refine ⟨F, l2, ys, ws, rfl, rfl, sA _ _ hF2, hA, by rw [lys, e1, sizeLine_eq, lws, ← ech]; simp only [List.length_append, List.length_cons] at *; omega, ?_⟩
      have tsm : Tsm H3 (upd H3 F (.lst (ys ++ ws))) := fun b zs e => by rw [upd_ne (ne_of e (sA _ _ hF2) (by intro z; cases z))]; exact e
      refine ⟨_, rfl, ?_⟩
      refine r_c ⟨_, _, rfl, rfl, _, ?_, some (.ref ci), Pd ++ [E], l', mm' ++ chD E, d2, ys ++ ws, ?_, fun b o e => ?_, upd_same, ?_, al3, rfl⟩
      · simp only [List.length_append, List.length_cons, List.length_nil] at *; omega
      · rw [List.length_append, List.length_singleton]; rfl
      · rw [upd_ne (ne_of_none e hF)]; exact sA _ _ (s2 _ _ e)
      · have e5 : Pd ++ [E] ++ (l' ++ (mm' ++ chD E)) = (Pd ++ (E :: l' ++ mm')) ++ cs := by rw [ech]; simp
        rw [e5]
        exact ((hys.mono (Tsm.of sA)).append (hws.mono (Tsm.of sA))).mono tsm
    · have hc : ¬ ((Pd.length : Nat) : Int) < ((ys.length : Nat) : Int) := fun z => hc (decide_eq_true z)
      have e0 : l ++ mm = [] := List.length_eq_zero_iff.mp (by omega)
      obtain ⟨rfl, rfl⟩ := List.append_eq_nil_iff.mp e0
      refine ⟨_, rfl, ?_⟩
      refine k F _ s2 ⟨ys, hF2, ?_⟩
      have e2 := al.eq
      rw [List.flatMap_nil, List.nil_append, List.nil_append, bfs_nil, List.append_nil] at e2
      rw [e2]
      rw [List.nil_append, List.append_nil] at hys
      exact hys
def spWorks : Sp := fun vs H Q _ => ∃ (v : V) (g : Prg) (far : Bool) (d : Nat) (ds : List PyData), vs = [v] ∧ TD H v (.tuple ds) ∧ LvOk g far d ds ∧ d ≤ 20 ∧ (bfs d ds).length ≤ 100000 ∧
  ∀ H', Same H H' → Q (.bl true) H'
theorem bfs_nd {g : Prg} {far : Bool} : ∀ (d : Nat) {l : List PyData}, LvOk g far d l → ∀ D ∈ bfs d l, ∃ d', d' ≤ d ∧ NdOk g far d' (pD D) D
  | 0, _, _, D, h => by cases h
  | d + 1, l, lv, D, h => by
    rcases List.mem_append.mp h with h | h
    · exact ⟨d + 1, Nat.le_refl _, lv.1 D h⟩
    · obtain ⟨d', h1, h2⟩ := bfs_nd d lv.next D h
      exact ⟨d', by omega, h2⟩
/-! does_work: slots 0 told, 1 part, 2 inner; calls ['G_all_levels'] -/
abbrev N_does_work : List Str := ["told", "part", "inner"]
theorem sc_does_work : FnScope N_does_work ["told"] (defScope s_does_work) := ⟨rfl, rfl, rfl, by decide +kernel, rfl, by decide +kernel, by decide +kernel⟩
theorem ok_does_work (W : Wd K mg) : Ok P w K mg base 2 "does_work" ["told"] spWorks := by
  have sc := sc_does_work
  have G_all_levels : Ok P w K mg base 1 "all_levels" ["told"] spAll := ok_all_levels W
  refine Ok.mk' W.F_does_work W.g_does_work sc (fun vs H Q E h => ?_) (fun _ _ _ _ _ _ us hl => match us, hl with | [_], _ => rfl) (fun cdv A outer s H vs Q E hr h => ?_)
  · obtain ⟨v, g, far, d, ds, rfl, _⟩ := h
    rfl
  · obtain ⟨v, g, far, d, ds, rfl, hv, lv, d20, hb, k⟩ := h
    refine ⟨_, (pss_one (ps_ret (pe_callB (k_all K rfl) (by rfl) W.b_all PyProof.Rows.boot_all (pa_cons (pe_lc (own := [("part", 1), ("inner", 2)]) (g := gTup K 2 (gCons (gName 1) (gCons (gName 2) gNil))) rfl sc.nd (k_pil K (pe_c G_all_levels (hr.mono (by decide)) (by rfl) (pa_cons (pv 0) pa_nil))) (blkOk_by (N := N_does_work) (sc := defScope s_does_work) (by decide +kernel))  (fun _ _ _ _ _ => (k_tup K rfl (pgs_cons (pg_name (i := 1) sc.nd rfl (Or.inl rfl)) (pgs_cons (pg_name (i := 2) sc.nd rfl (Or.inl rfl)) pgs_nil)))) (fun _ _ _ _ _ => pts_nil) (fun _ _ _ _ _ => (pe_cmpR (k_neD K hr.units) (pv 2) (pe_gs (by rfl) W.x_TURN) (nomark _)))) pa_nil)))), ?_⟩
    refine ⟨_, rfl, v, g, far, d, ds, rfl, hv, lv, d20, hb, fun a H1 s1 ⟨xs, ha, hxs⟩ => ?_⟩
    refine ⟨a, rfl, ⟨_, SqL.of ha⟩, fun D hD => ?_⟩
    refine lc_listG (fun i v _ => v = .bl true) (SqL.of ha) hD (by rw [hxs.length]; omega) (fun _ _ _ _ _ h => h) (fun i x H3 acc Qy hx s3 hA z => ?_) (fun H3 ys s3 hD3 hl hy => ?_)
    · obtain ⟨E, hE, tE⟩ := hxs.get' hx
      obtain ⟨d', hd', nd⟩ := bfs_nd d lv E (List.mem_of_getElem? hE)
      cases d' with
      | zero => exact nd.elim
      | succ d' =>
        obtain ⟨cs, ps, eE, _, _, _, ⟨hl, h8⟩, hcs⟩ := nd
        rw [eE] at tE
        obtain ⟨q, zs, rfl, hq, hzs⟩ := tE.tup_inv
        cases hzs with | cons hz1 hzs => ?_
        cases hzs with | cons hz2 hzs => ?_
        cases hzs
        have lay2 : (PyData.tuple cs).canLay0 = true ∧ (PyData.tuple cs).depth ≤ 63 := by
          refine lay_tup (n := 62) fun c hc => ?_
          obtain ⟨i, hi, rfl⟩ := List.mem_iff_getElem.mp hc
          have h := nd_lay d' (hcs i _ _ (List.getElem?_eq_getElem (by omega)) (List.getElem?_eq_getElem hi))
          exact ⟨h.1, by omega⟩
        refine ⟨q, _, rfl, SqT.of (s3 _ _ hq), rfl, _, _, rfl, _, _, rfl, rfl, rfl, ?_⟩
        refine ⟨_, rfl, _, _, (hz2.mono (Tsm.of s3)).dp, (TD.str _).dp, lay_shaped lay2 (by decide), by decide +kernel, ?_⟩
        rw [show PyData.eqv (.tuple cs) (.str ("turn" : Str)) = false by rw [PyData.eqv]]
        exact z _ _ Xt.refl hA rfl
    · refine ⟨D, List.replicate ys.length true, rfl, SqL.of (by rw [hD3, ← all_true rfl hy]), ?_⟩
      rw [show (List.replicate ys.length true).all id = true by simp]
      exact k _ (s1.trans s3)
end
end TN
set_option Elab.async false
set_option linter.all false
set_option maxRecDepth 100000
set_option maxHeartbeats 4000000
/-! W22: heads_of, numbers_of. -/
namespace TN
open PySem PySem.Spec PyProof.Rows L2
section
variable {g : Prg} {lot : List Nat}
theorem part_tbl {f n t : Nat} (hn : n ∈ lot) (hc : CycF g lot f n) (ht : IsFst g lot t f) (hs : Tbl g (cls g lot lot f) t ∨ t = f) : Tbl g (cls g lot lot f) f := by
  obtain ⟨r, hr, h1, h2⟩ := hc
  rcases h2.1 with rfl | ⟨h3, h4⟩
  · exact ⟨n, mem_cls.mpr ⟨hn, r, hr, h1, h2⟩, r, hr, .inl rfl⟩
  · -- the last reading of a walk from r.x to f
    cases h3 with
    | one e =>
      obtain ⟨m, hm, r', hr', e1, e2⟩ := e
      refine ⟨m, mem_cls.mpr ⟨hm, r', hr', .inl ?_, ?_⟩, r', hr', .inr e2⟩
      · rw [e1, e2]; exact h4
      · rw [e1]; exact h2
    | step h0 e =>
      rename_i b
      obtain ⟨m, hm, r', hr', e1, e2⟩ := e
      refine ⟨m, mem_cls.mpr ⟨hm, r', hr', .inl ?_, ?_⟩, r', hr', .inr e2⟩
      · rw [e1, e2]; exact h4.trans h0
      · rw [e1]
        exact h2.move (.inr ⟨h0, (Rc.one ⟨m, hm, r', hr', e1, e2⟩).trans h4⟩)
theorem part_head {ps : List (List Nat)} (H : PartsOf g lot ps) {p : List Nat} (hp : p ∈ ps) {ts : List Nat} (asc : ts.Pairwise (· < ·)) (mem : ∀ t, t ∈ ts ↔ Tbl g p t) : ∃ f rest, ts = f :: rest ∧ ∀ t, Tbl g p t → IsFst g lot t f := by
  obtain ⟨f, rfl, n, hn, hc⟩ := parts_cls H hp
  have all : ∀ t, Tbl g (cls g lot lot f) t → IsFst g lot t f := fun t ht => cls_tbl ht
  obtain ⟨r, hr, h1, h2⟩ := id hc
  have hf : Tbl g (cls g lot lot f) f := part_tbl hn hc (h2.move h2.1) (.inr rfl)
  cases ts with
  | nil => have := (mem f).mpr hf; cases this
  | cons a rest =>
    have h3 : IsFst g lot a f := all a ((mem a).mp List.mem_cons_self)
    have h4 : f ≤ a := h3.2 a (.inl rfl)
    have h5 : f ∈ a :: rest := (mem f).mpr hf
    have h6 : a ≤ f := by
      rcases List.mem_cons.mp h5 with e | e
      · omega
      · exact Nat.le_of_lt ((List.pairwise_cons.mp asc).1 f e)
    have : a = f := Nat.le_antisymm h6 h4
    subst this
    exact ⟨a, rest, rfl, all⟩
theorem apart_fst {ps : List (List Nat)} (H : PartsOf g lot ps) {t : Nat} (h : ∀ p ∈ ps, ¬ Tbl g p t) : IsFst g lot t t := by
  refine ⟨.inl rfl, fun u hu => ?_⟩
  rcases hu with rfl | ⟨h1, h2⟩
  · exact Nat.le_refl _
  · exfalso
    cases h2 with
    | one e =>
      obtain ⟨m, hm, r, hr, e1, e2⟩ := e
      obtain ⟨p, hp, hn⟩ := parts_cov H hm ⟨r, hr, .inl (by rw [e1, e2]; exact h1)⟩
      exact h p hp ⟨m, hn, r, hr, .inr e2⟩
    | step h0 e =>
      obtain ⟨m, hm, r, hr, e1, e2⟩ := e
      obtain ⟨p, hp, hn⟩ := parts_cov H hm ⟨r, hr, .inl (by rw [e1, e2]; exact h1.trans h0)⟩
      exact h p hp ⟨m, hn, r, hr, .inr e2⟩
end
/-! ### the numbers -/
abbrev allR (g : Prg) : List Nat := List.range g.rs.length
def HdOk (g : Prg) (hs : List Nat) : Prop := hs.length = g.tables ∧ ∀ t, t < g.tables → IsFst g (allR g) t (hs.getD t 0)
theorem hd_lt {g : Prg} (gok : g.Ok) {hs : List Nat} (h : HdOk g hs) {t : Nat} (ht : t < g.tables) : hs.getD t 0 < g.tables := by
  rcases (h.2 t ht).1 with e | ⟨h1, _⟩
  · rw [e]; exact ht
  · exact rc_lt gok h1
open Classical in
/-- the tables strictly below -/
noncomputable def below (g : Prg) (h : Nat) : List Nat := (List.range g.tables).filter fun u => decide (Rc g (allR g) h u ∧ ¬ Rc g (allR g) u h)
open Classical in
theorem mem_below {g : Prg} {h u : Nat} : u ∈ below g h ↔ u < g.tables ∧ Rc g (allR g) h u ∧ ¬ Rc g (allR g) u h := by
  unfold below
  rw [List.mem_filter, List.mem_range, decide_eq_true_iff]
theorem below_lt {g : Prg} (gok : g.Ok) {hs : List Nat} (H : HdOk g hs) {n : Nat} {r : Rd} (hr : g.rs[n]? = some r) (ne : hs.getD r.x 0 ≠ hs.getD r.y 0) : (below g (hs.getD r.y 0)).length + 1 ≤ (below g (hs.getD r.x 0)).length := by
  obtain ⟨rx, ry, _⟩ := gok.rd r (List.mem_of_getElem? hr)
  have fx := H.2 r.x rx
  have fy := H.2 r.y ry
  have ed : Rc g (allR g) r.x r.y := .one ⟨n, List.mem_range.mpr (List.getElem?_eq_some_iff.mp hr).1, r, hr, rfl, rfl⟩
  have hyl := hd_lt gok H ry
  generalize hs.getD r.x 0 = a at *
  generalize hs.getD r.y 0 = b at *
  have ab : Rc g (allR g) a b := by
    have h1 : Rc g (allR g) a r.y := by
      rcases fx.1 with rfl | ⟨_, h⟩
      · exact ed
      · exact h.trans ed
    rcases fy.1 with rfl | ⟨h, _⟩
    · exact h1
    · exact h1.trans h
  have nba : ¬ Rc g (allR g) b a := fun h => by
    have m : Mut2 g (allR g) a b := .inr ⟨ab, h⟩
    exact ne ((fx.move fx.1).move m |>.uniq (fy.move fy.1))
  have nd : (b :: below g b).Nodup := List.nodup_cons.mpr ⟨fun h => by
    obtain ⟨_, h1, h2⟩ := mem_below.mp h
    exact h2 h1, List.Pairwise.filter _ List.nodup_range⟩
  have := nd.length_le_of_subset (l₂ := below g a) fun u hu => by
    rcases List.mem_cons.mp hu with rfl | hu
    · exact mem_below.mpr ⟨hyl, ab, nba⟩
    · obtain ⟨h1, h2, h3⟩ := mem_below.mp hu
      exact mem_below.mpr ⟨h1, ab.trans h2, fun h => h3 (h.trans ab)⟩
  exact this
theorem below_le {g : Prg} (h : Nat) : (below g h).length ≤ g.tables := by
  have : (below g h).length ≤ (List.range g.tables).length := List.length_filter_le ..
  rw [List.length_range] at this
  exact this
/-- after k rounds -/
def RdI (g : Prg) (hs v : List Nat) (k : Nat) : Prop := v.length = g.tables ∧ (∀ h, v.getD h 0 ≤ (below g h).length) ∧ ∀ r ∈ g.rs, hs.getD r.x 0 ≠ hs.getD r.y 0 → min k (v.getD (hs.getD r.y 0) 0 + 1) ≤ v.getD (hs.getD r.x 0) 0
/-- within a round, after i readings -/
structure RdJ (g : Prg) (hs F v : List Nat) (k i : Nat) : Prop where
  I : RdI g hs F k
  len : v.length = g.tables
  bd : ∀ h, v.getD h 0 ≤ (below g h).length
  ge : ∀ h, F.getD h 0 ≤ v.getD h 0
  lo : ∀ h, F.getD h 0 < k → v.getD h 0 = F.getD h 0
  done : ∀ r ∈ g.rs.take i, hs.getD r.x 0 ≠ hs.getD r.y 0 → min (k + 1) (v.getD (hs.getD r.y 0) 0 + 1) ≤ v.getD (hs.getD r.x 0) 0
theorem gd_set {v : List Nat} {a x : Nat} (ha : a < v.length) (h : Nat) : (v.set a x).getD h 0 = if h = a then x else v.getD h 0 := by
  rw [List.getD_eq_getElem?_getD, List.getD_eq_getElem?_getD, List.getElem?_set]
  by_cases z : a = h
  · subst z; rw [if_pos rfl, if_pos ha, if_pos rfl]; rfl
  · rw [if_neg z, if_neg (fun e => z e.symm)]
theorem RdJ.step {g : Prg} (gok : g.Ok) {hs F v : List Nat} {k i : Nat} (J : RdJ g hs F v k i) (H : HdOk g hs) {r : Rd} (hr : g.rs[i]? = some r) (ne : hs.getD r.x 0 ≠ hs.getD r.y 0) : RdJ g hs F (v.set (hs.getD r.x 0) (max (v.getD (hs.getD r.x 0) 0) (v.getD (hs.getD r.y 0) 0 + 1))) k (i + 1) := by
  have rm := List.mem_of_getElem? hr
  obtain ⟨rx, ry, _⟩ := gok.rd r rm
  have ax := hd_lt gok H rx
  have bl := below_lt gok H hr ne
  have b1 := J.bd (hs.getD r.y 0)
  have I1 := J.I.2.2 r rm ne
  have et : g.rs.take (i + 1) = g.rs.take i ++ [r] := by rw [List.take_add_one, hr]; rfl
  have gs := fun h => gd_set (v := v) (a := hs.getD r.x 0) (x := max (v.getD (hs.getD r.x 0) 0) (v.getD (hs.getD r.y 0) 0 + 1)) (by rw [J.len]; exact ax) h
  have keep : F.getD (hs.getD r.x 0) 0 < k → v.getD (hs.getD r.y 0) 0 + 1 ≤ v.getD (hs.getD r.x 0) 0 := fun h => by
    have h1 : F.getD (hs.getD r.y 0) 0 < k := by omega
    have h2 := J.lo _ h1
    have h3 := J.lo _ h
    omega
  refine ⟨J.I, by rw [List.length_set]; exact J.len, fun h => ?_, fun h => ?_, fun h hh => ?_, fun r' hr' ne' => ?_⟩
  · rw [gs]
    have := J.bd h
    split
    · rename_i e; subst e; omega
    · exact this
  · rw [gs]
    have := J.ge h
    split
    · rename_i e; subst e; omega
    · exact this
  · rw [gs]
    split
    · rename_i e
      subst e
      have h1 := keep hh
      rw [Nat.max_eq_left h1]
      exact J.lo _ hh
    · exact J.lo h hh
  · rw [gs, gs]
    rw [et] at hr'
    rcases List.mem_append.mp hr' with hr' | hr'
    · have d := J.done r' hr' ne'
      by_cases z : hs.getD r'.y 0 = hs.getD r.x 0
      · rw [z] at d
        rw [if_pos z]
        have z2 : ¬ hs.getD r'.x 0 = hs.getD r.x 0 := fun e => ne' (e.trans z.symm)
        rw [if_neg z2]
        by_cases q : F.getD (hs.getD r.x 0) 0 < k
        · rw [Nat.max_eq_left (keep q)]; exact d
        · have := J.ge (hs.getD r.x 0)
          omega
      · rw [if_neg z]
        split
        · rename_i e; rw [e] at d; omega
        · exact d
    · rw [List.mem_singleton.mp hr', if_pos rfl, if_neg (fun e => ne e.symm)]
      omega
theorem RdJ.skip {g : Prg} {hs F v : List Nat} {k i : Nat} (J : RdJ g hs F v k i) {r : Rd} (hr : g.rs[i]? = some r) (e : hs.getD r.x 0 = hs.getD r.y 0) : RdJ g hs F v k (i + 1) := by
  have et : g.rs.take (i + 1) = g.rs.take i ++ [r] := by rw [List.take_add_one, hr]; rfl
  refine ⟨J.I, J.len, J.bd, J.ge, J.lo, fun r' hr' ne' => ?_⟩
  rw [et] at hr'
  rcases List.mem_append.mp hr' with hr' | hr'
  · exact J.done r' hr' ne'
  · rw [List.mem_singleton.mp hr'] at ne'
    exact (ne' e).elim
theorem RdJ.fin {g : Prg} {hs F v : List Nat} {k : Nat} (J : RdJ g hs F v k g.rs.length) : RdI g hs v (k + 1) := ⟨J.len, J.bd, fun r hr ne => J.done r (by rw [List.take_length]; exact hr) ne⟩
theorem RdI.start {g : Prg} {hs v : List Nat} {k : Nat} (I : RdI g hs v k) : RdJ g hs v v k 0 := ⟨I, I.1, I.2.1, fun h => Nat.le_refl _, fun h _ => rfl, fun r hr => by simp at hr⟩
theorem RdI.fin {g : Prg} (gok : g.Ok) {hs v : List Nat} (I : RdI g hs v g.tables) (H : HdOk g hs) {r : Rd} (hr : r ∈ g.rs) (ne : hs.getD r.x 0 ≠ hs.getD r.y 0) : v.getD (hs.getD r.y 0) 0 < v.getD (hs.getD r.x 0) 0 := by
  have h1 := I.2.2 r hr ne
  have h2 := I.2.1 (hs.getD r.y 0)
  obtain ⟨n, hn, rfl⟩ := List.mem_iff_getElem.mp hr
  have h3 := below_lt gok H (List.getElem?_eq_getElem hn) ne
  have h4 := below_le (g := g) (hs.getD g.rs[n].x 0)
  omega
def NumOk (g : Prg) (ns : List Nat) : Prop := ns.length = g.tables ∧ (∀ x ∈ ns, x ≤ 8) ∧ ∀ r ∈ g.rs, (Mut2 g (allR g) r.x r.y → ns.getD r.x 0 = ns.getD r.y 0) ∧ (¬ Mut2 g (allR g) r.x r.y → ns.getD r.y 0 < ns.getD r.x 0)
theorem num_ok {g : Prg} (gok : g.Ok) {hs v : List Nat} (I : RdI g hs v g.tables) (H : HdOk g hs) : NumOk g (hs.map fun h => v.getD h 0) := by
  have at_ : ∀ t, t < g.tables → (hs.map fun h => v.getD h 0).getD t 0 = v.getD (hs.getD t 0) 0 := fun t ht => by
    rw [List.getD_eq_getElem?_getD, List.getElem?_map, List.getElem?_eq_getElem (by rw [H.1]; exact ht)]
    show v.getD _ 0 = _
    rw [List.getD_eq_getElem?_getD (l := hs), List.getElem?_eq_getElem (by rw [H.1]; exact ht)]; rfl
  refine ⟨by rw [List.length_map]; exact H.1, fun x hx => ?_, fun r hr => ?_⟩
  · obtain ⟨h, _, rfl⟩ := List.mem_map.mp hx
    exact Nat.le_trans (I.2.1 h) (Nat.le_trans (below_le h) gok.t8)
  · obtain ⟨rx, ry, _⟩ := gok.rd r hr
    rw [at_ _ rx, at_ _ ry]
    have fx := H.2 _ rx
    have fy := H.2 _ ry
    refine ⟨fun m => ?_, fun m => ?_⟩
    · rw [(fx.move m).uniq fy]
    · refine I.fin gok H hr fun e => m ?_
      rw [e] at fx
      exact fx.1.trans fy.1.symm
section
variable {P : Program} {w : World} {K : PySem.W.Frag} {mg : Str → Option Value} {base : Heap}
def spHeads (K : PySem.W.Frag) : Sp := fun vs H Q _ => ∃ (p : Addr) (g : Prg), vs = [.ref p] ∧ PrgAt K H p g ∧ g.Ok ∧
  ∀ a H' hs, Same H H' → H a = none → H' a = some (.lst ((nI hs).map V.int)) → HdOk g hs → Q (.ref a) H'
/-! heads_of: slots 0 program, 1 found, 2 part, 3 some, 4 table; calls ['G_every', 'G_parts_of', 'G_tables_in'] -/
abbrev N_heads_of : List Str := ["program", "found", "part", "some", "table"]
theorem sc_heads_of : FnScope N_heads_of ["program"] (defScope s_heads_of) := ⟨rfl, rfl, rfl, by decide +kernel, rfl, by decide +kernel, by decide +kernel⟩
theorem ok_heads_of (W : Wd K mg) : Ok P w K mg base 3 "heads_of" ["program"] (spHeads K) := by
  have sc := sc_heads_of
  have G_every : Ok P w K mg base 1 "every" ["program"] (spEvery K) := ok_every W
  have G_parts_of : Ok P w K mg base 2 "parts_of" ["program", "lot"] (spParts K) := ok_parts_of W
  have G_tables_in : Ok P w K mg base 1 "tables_in" ["program", "lot"] (spTabs K) := ok_tables_in W
  refine Ok.mk' W.F_heads_of W.g_heads_of sc (fun vs H Q E h => ?_) (fun _ _ _ _ _ _ us hl => match us, hl with | [_], _ => rfl) (fun cdv A outer s H vs Q E hr h => ?_)
  · obtain ⟨p, g, rfl, _⟩ := h
    rfl
  · obtain ⟨p, g, rfl, PA, gok, k⟩ := h
    obtain ⟨dx, ar, xr, A0⟩ := id PA
    have t8 := gok.t8
    refine ⟨_, (pss_cons (ps_set (i := 1) sc.nd rfl (Or.inl rfl) (pe_listRg rfl (by rfl) W.b_list (prg_1 (by rfl) W.b_range (k_fld K (pv 0) rfl))))
    (pss_cons (ps_for PassesOwn.never rfl (k_pil K (pe_c G_parts_of (hr.mono (by decide)) (by rfl) (pa_cons (pv 0) (pa_cons (pe_c G_every (hr.mono (by decide)) (by rfl) (pa_cons (pv 0) pa_nil)) pa_nil)))) (pg_name (i := 2) sc.nd rfl (Or.inl rfl))
      (pss_cons (ps_set (i := 3) sc.nd rfl (Or.inl rfl) (pe_c G_tables_in (hr.mono (by decide)) (by rfl) (pa_cons (pv 0) (pa_cons (pv 2) pa_nil))))
      (pss_one (ps_for PassesOwn.never rfl (k_pit K (pv 3)) (pg_name (i := 4) sc.nd rfl (Or.inl rfl))
        (pss_one (ps_asg (pe_ix (k_ixt K) (pv 3) pe_int (fun _ _ => rfl)) (pg_sub (pv 1) (pv 4) set_list)))))))
    (pss_one (ps_ret (pv 1))))), ?_⟩
    refine ⟨_, rfl, p, _, _, _, _, rfl, A0.hp, W.cl_Program, W.n_Program_tables, pf_tables, ?_⟩
    refine ⟨_, rfl, RgOk.of_le (by decide) (by omega) (by decide) (by omega), fun F hF => ?_⟩
    have eF : rgV 0 ((g.tables : Nat) : Int) = (nI (List.range g.tables)).map V.int := by
      unfold rgV
      rw [List.map_map, show (((g.tables : Nat) : Int) - 0).toNat = g.tables by omega]
      exact List.map_congr_left fun i _ => by show V.int (0 + (i : Int)) = V.int (i : Int); rw [Int.zero_add]
    rw [eF]
    have s1 : Same H (upd H F (.lst ((nI (List.range g.tables)).map V.int))) := Same.upd hF
    have hF1 : (upd H F (.lst ((nI (List.range g.tables)).map V.int))) F = some (.lst ((nI (List.range g.tables)).map V.int)) := upd_same
    generalize upd H F (.lst ((nI (List.range g.tables)).map V.int)) = H1 at *
    refine ⟨_, rfl, _, rfl, p, g, rfl, PA.mono s1, gok, fun v2 H2 s2 hv2 => ?_⟩
    refine ⟨p, v2, g, _, rfl, (PA.mono s1).mono s2, gok, hv2, lot_all gok, fun a H3 ps s3 ⟨xs, ha, hxs⟩ hps => ?_⟩
    have sH3 := (s1.trans s2).trans s3
    have hF3 := s3 _ _ (s2 _ _ hF1)
    have naF : a ≠ F := fun e => by
      subst e
      have e1 := ha.symm.trans hF3
      injection e1 with e1
      injection e1 with e1
      have e2 : xs[0]? = some (.int 0) := by
        rw [e1, List.getElem?_map, List.getElem?_map, List.getElem?_range (by have := gok.t1; omega)]; rfl
      obtain ⟨d, e3, e4⟩ := hxs.get' e2
      rw [List.getElem?_map] at e3
      cases q : ps[0]? with
      | none => rw [q] at e3; cases e3
      | some q' =>
        rw [q] at e3
        cases e3
        obtain ⟨_, _, e5, _⟩ := e4.tup_inv
        cases e5
    refine ⟨a, rfl, ⟨_, SqL.of ha⟩, ?_⟩
    have lxs : xs.length = ps.length := by rw [hxs.length, List.length_map]
    refine for_list (K := K) (a := a) (xs := xs) (fun i σ H' => ∃ (v2 v3 v4 : Option V) (hs : List Nat), σ = [some (.ref p), some (.ref F), v2, v3, v4] ∧ (∀ b o, b ≠ F → H3 b = some o → H' b = some o) ∧ H' F = some (.lst ((nI hs).map V.int)) ∧ hs.length = g.tables ∧
        (∀ t, t < g.tables → (∀ p ∈ ps.take i, ¬ Tbl g p t) → hs.getD t 0 = t) ∧ ∀ t, t < g.tables → ∀ p ∈ ps.take i, Tbl g p t → IsFst g (allR g) t (hs.getD t 0))
      ⟨_, _, _, List.range g.tables, rfl, fun b o n e => e, hF3, by simp, fun t ht _ => by rw [List.getD_eq_getElem?_getD, List.getElem?_range ht]; rfl, fun t ht p hp => by simp at hp⟩ (fun i σ H' _ ⟨_, _, _, _, _, s, _⟩ => SqL.of (s _ _ naF ha)) ?_ ?_
    · rintro i x σ H4 hx ⟨v2', v3, v4, hs, rfl, s4, hF4, lhs, h1, h2⟩
      obtain ⟨dd, e1, e2⟩ := hxs.get' hx
      rw [List.getElem?_map] at e1
      obtain ⟨q, hq, rfl⟩ : ∃ q, ps[i]? = some q ∧ dd = dI (nI q) := by
        cases e : ps[i]? with
        | none => rw [e] at e1; cases e1
        | some q => rw [e] at e1; exact ⟨q, rfl, (Option.some.inj e1).symm⟩
      have hqm := List.mem_of_getElem? hq
      obtain ⟨qs, qne⟩ := parts_sub hps hqm
      have la := lot_all gok
      have linq : LotIn g q := ⟨Nat.le_trans qs.length_le la.1, qs.nodup la.2.1, fun n hn => la.2.2 n (qs.subset hn)⟩
      have sH4 : Same H H4 := fun b o e => s4 _ _ (ne_of_none e hF) (sH3 _ _ e)
      have tsm4 : Tsm H3 H4 := fun b ys e => s4 _ _ (ne_of e hF3 (by intro z; cases z)) e
      refine ⟨_, rfl, _, rfl, p, x, g, q, rfl, PA.mono sH4, gok, e2.mono tsm4, linq, fun v5 H5 ts s5 hv5 asc mem => ?_⟩
      obtain ⟨f, rest, ets, hf⟩ := part_head hps hqm asc mem
      obtain ⟨at_, rfl, hat⟩ := hv5.ints
      have hF5 := s5 _ _ hF4
      have ntF : at_ ≠ F := ne_of hat hF5 (by intro z; cases z)
      have eq1 : ps.take (i + 1) = ps.take i ++ [q] := by rw [List.take_add_one, hq]; rfl
      refine ⟨_, rfl, at_, rfl, ⟨_, SqT.of hat⟩, ?_⟩
      refine for_tup (K := K) (a := at_) (xs := (nI ts).map V.int) (fun j σ H' => ∃ (v2 v4 : Option V) (hs' : List Nat), σ = [some (.ref p), some (.ref F), v2, some (.ref at_), v4] ∧ (∀ b o, b ≠ F → H5 b = some o → H' b = some o) ∧ H' F = some (.lst ((nI hs').map V.int)) ∧ hs'.length = g.tables ∧
          ∀ t, t < g.tables → (t ∈ ts.take j → hs'.getD t 0 = f) ∧ (t ∉ ts.take j → hs'.getD t 0 = hs.getD t 0))
        ⟨_, _, hs, rfl, fun b o _ e => e, hF5, lhs, fun t ht => ⟨fun z => by simp at z, fun _ => rfl⟩⟩ (fun j σ H' _ ⟨_, _, _, _, s, _⟩ => SqT.of (s _ _ ntF hat)) ?_ ?_
      · rintro j x2 σ H6 hx2 ⟨v2'', v4', hs', rfl, s6, hF6, lhs', hh⟩
        obtain ⟨t, ht, rfl⟩ := nats_at hx2
        have htl : t < g.tables := by
          obtain ⟨n, hn, r, hr, h5⟩ := (mem t).mp (List.mem_of_getElem? ht)
          obtain ⟨rx, ry, _⟩ := gok.rd r (List.mem_of_getElem? hr)
          rcases h5 with rfl | rfl
          · exact rx
          · exact ry
        have ett : ts.take (j + 1) = ts.take j ++ [t] := by rw [List.take_add_one, ht]; rfl
        refine ⟨_, rfl, r_c (r_tgetI (j := 0) (s6 _ _ ntF hat) rfl (by rw [ets]; rfl) ?_)⟩
        refine ⟨_, rfl, _, rfl, ?_⟩
        refine ⟨F, _, _, t, rfl, rfl, hF6, ?_, ?_⟩
        · unfold ixN
          rw [if_pos (by omega), if_pos (by rw [List.length_map, List.length_map]; omega)]
          congr 1
        · refine ⟨_, _, hs'.set t f, rfl, fun b o n e => by rw [upd_ne n]; exact s6 _ _ n e, ?_, by rw [List.length_set]; exact lhs', fun u hu => ?_⟩
          · rw [upd_same, ← List.map_set]
            show some (HO.lst (((nI hs').set t ((f : Nat) : Int)).map V.int)) = _
            rw [← List.map_set]
          · rw [gd_set (by omega), ett]
            obtain ⟨a1, a2⟩ := hh u hu
            by_cases z : u = t
            · rw [if_pos z]
              exact ⟨fun _ => rfl, fun n => (n (List.mem_append_right _ (by rw [z]; exact List.mem_singleton.mpr rfl))).elim⟩
            · rw [if_neg z]
              exact ⟨fun m => a1 ((List.mem_append.mp m).resolve_right fun m => z (List.mem_singleton.mp m)), fun n => a2 fun m => n (List.mem_append_left _ m)⟩
      · rintro σ H6 ⟨v2'', v4', hs', rfl, s6, hF6, lhs', hh⟩
        rw [List.length_map, List.length_map, List.take_length] at hh
        refine ⟨_, _, _, hs', rfl, fun b o n e => s6 _ _ n (s5 _ _ (s4 _ _ n e)), hF6, lhs', fun t ht h => ?_, fun t ht p' hp' htb => ?_⟩
        · rw [eq1] at h
          have n1 : t ∉ ts := fun m => h q (List.mem_append_right _ (List.mem_singleton.mpr rfl)) ((mem t).mp m)
          rw [(hh t ht).2 n1]
          exact h1 t ht fun p' hp' => h p' (List.mem_append_left _ hp')
        · rw [eq1] at hp'
          by_cases m : t ∈ ts
          · rw [(hh t ht).1 m]
            exact hf t ((mem t).mp m)
          · rw [(hh t ht).2 m]
            rcases List.mem_append.mp hp' with hp' | hp'
            · exact h2 t ht p' hp' htb
            · rw [List.mem_singleton.mp hp'] at htb
              exact (m ((mem t).mpr htb)).elim
    · rintro σ H4 ⟨v2', v3, v4, hs, rfl, s4, hF4, lhs, h1, h2⟩
      refine ⟨_, rfl, ?_⟩
      rw [lxs, List.take_length] at h1 h2
      refine k F H4 hs (fun b o e => s4 _ _ (ne_of_none e hF) (sH3 _ _ e)) hF hF4 ⟨lhs, fun t ht => ?_⟩
      by_cases z : ∃ q ∈ ps, Tbl g q t
      · obtain ⟨q, hq, hqt⟩ := z
        exact h2 t ht q hq hqt
      · have z2 : ∀ q ∈ ps, ¬ Tbl g q t := fun q hq hqt => z ⟨q, hq, hqt⟩
        rw [h1 t ht z2]
        exact apart_fst hps z2
def spNums (K : PySem.W.Frag) : Sp := fun vs H Q _ => ∃ (p : Addr) (g : Prg), vs = [.ref p] ∧ PrgAt K H p g ∧ g.Ok ∧
  ∀ a H' ns, Same H H' → H' a = some (.lst ((nI ns).map V.int)) → NumOk g ns → Q (.ref a) H'
theorem set_nI (v : List Nat) (a x : Nat) : ((nI v).map V.int).set a (V.int (x : Int)) = (nI (v.set a x)).map V.int := by
  rw [← List.map_set]
  show (((nI v).set a ((x : Nat) : Int)).map V.int) = _
  rw [← List.map_set]
theorem nI_at {v : List Nat} {t : Nat} (h : t < v.length) : ((nI v).map V.int)[t]? = some (.int ((v.getD t 0 : Nat) : Int)) := by
  rw [List.getElem?_map, List.getElem?_map, List.getD_eq_getElem?_getD, List.getElem?_eq_getElem h]; rfl
/-! numbers_of: slots 0 program, 1 heads, 2 found, 3 turns, 4 reader, 5 read, 6 step, 7 least, 8 head; calls ['G_heads_of'] -/
abbrev N_numbers_of : List Str := ["program", "heads", "found", "turns", "reader", "read", "step", "least", "head"]
theorem sc_numbers_of : FnScope N_numbers_of ["program"] (defScope s_numbers_of) := ⟨rfl, rfl, rfl, by decide +kernel, rfl, by decide +kernel, by decide +kernel⟩
theorem ok_numbers_of (W : Wd K mg) : Ok P w K mg base 4 "numbers_of" ["program"] (spNums K) := by
  have sc := sc_numbers_of
  have G_heads_of : Ok P w K mg base 3 "heads_of" ["program"] (spHeads K) := ok_heads_of W
  refine Ok.mk' W.F_numbers_of W.g_numbers_of sc (fun vs H Q E h => ?_) (fun _ _ _ _ _ _ us hl => match us, hl with | [_], _ => rfl) (fun cdv A outer s H vs Q E hr h => ?_)
  · obtain ⟨p, g, rfl, _⟩ := h
    rfl
  · obtain ⟨p, g, rfl, PA, gok, k⟩ := h
    obtain ⟨dx, ar, xr, A0⟩ := id PA
    have t8 := gok.t8
    refine ⟨_, (pss_cons (ps_set (i := 1) sc.nd rfl (Or.inl rfl) (pe_c G_heads_of (hr.mono (by decide)) (by rfl) (pa_cons (pv 0) pa_nil)))
    (pss_cons (ps_set (i := 2) sc.nd rfl (Or.inr rfl) (pe_op op_rep (pe_lst (pa_cons pe_int pa_nil)) (k_fld K (pv 0) rfl)))
    (pss_cons (ps_for PassesOwn.never rfl (pi_range1 (by rfl) W.b_range (pa_cons (k_fld K (pv 0) rfl) pa_nil)) (pg_name (i := 3) sc.nd rfl (Or.inl rfl))
      (pss_one (ps_for PassesOwn.never rfl (k_pit K (k_fld K (pv 0) rfl)) (k_tup K rfl (pgs_cons (pg_name (i := 4) sc.nd rfl (Or.inl rfl)) (pgs_cons (pg_name (i := 5) sc.nd rfl (Or.inl rfl)) (pgs_cons (pg_name (i := 6) sc.nd rfl (Or.inl rfl)) pgs_nil))))
        (pss_one (ps_if (pt_cmpR op_ne (pe_ix (k_ixl K) (pv 1) (pv 4) (fun _ _ => rfl)) (pe_ix (k_ixl K) (pv 1) (pv 5) (fun _ _ => rfl)) (nomark _))
          (pss_cons (ps_set (i := 7) sc.nd rfl (Or.inl rfl) (pe_op op_add (pe_ix (k_ixl K) (pv 2) (pe_ix (k_ixl K) (pv 1) (pv 5) (fun _ _ => rfl)) (fun _ _ => rfl)) pe_int))
          (pss_one (ps_asg (pe_callB (call_max2 rfl) (by rfl) W.b_max PyProof.Rows.boot_max (pa_cons (pe_ix (k_ixl K) (pv 2) (pe_ix (k_ixl K) (pv 1) (pv 4) (fun _ _ => rfl)) (fun _ _ => rfl)) (pa_cons (pv 7) pa_nil))) (pg_sub (pv 2) (pe_ix (k_ixl K) (pv 1) (pv 4) (fun _ _ => rfl)) set_list))))
          pss_nil)))))
    (pss_one (ps_ret (pe_lc (own := [("head", 8)]) (g := gName 8) rfl sc.nd (k_pil K (pv 1)) (blkOk_by (N := N_numbers_of) (sc := defScope s_numbers_of) (by decide +kernel))  (fun _ _ _ _ _ => (pg_name (i := 8) sc.nd rfl (Or.inl rfl))) (fun _ _ _ _ _ => pts_nil) (fun _ _ _ _ _ => (pe_ix (k_ixl K) (pv 2) (pv 8) (fun _ _ => rfl))))))))), ?_⟩
    refine ⟨_, rfl, p, g, rfl, PA, gok, fun hd H1 hs s1 _ hhd hok => ?_⟩
    have A1 := A0.mono s1
    refine ⟨by show 1 ≤ sizeLine; decide, fun D1 hD1 => ?_⟩
    have sA : Same H1 (upd H1 D1 (.lst [.int 0])) := Same.upd hD1
    have hA1 : (upd H1 D1 (.lst [.int 0])) D1 = some (.lst [.int 0]) := upd_same
    generalize upd H1 D1 (.lst [.int 0]) = H2 at *
    have A2 := A1.mono sA
    refine ⟨_, rfl, p, _, _, _, _, rfl, A2.hp, W.cl_Program, W.n_Program_tables, pf_tables, ?_⟩
    refine ⟨D1, _, _, rfl, rfl, hA1, by omega, by omega, by rw [sizeLine_eq]; simp; omega, fun F hF => ?_⟩
    rw [rep_one, show ((g.tables : Nat) : Int).toNat = g.tables by omega]
    have e0 : List.replicate g.tables (V.int 0) = (nI (List.replicate g.tables 0)).map V.int := by
      show _ = ((List.replicate g.tables 0).map fun (n : Nat) => (n : Int)).map V.int
      rw [List.map_replicate, List.map_replicate]; rfl
    rw [e0]
    have sB : Same H2 (upd H2 F (.lst ((nI (List.replicate g.tables 0)).map V.int))) := Same.upd hF
    have hF3 : (upd H2 F (.lst ((nI (List.replicate g.tables 0)).map V.int))) F = some (.lst ((nI (List.replicate g.tables 0)).map V.int)) := upd_same
    generalize upd H2 F (.lst ((nI (List.replicate g.tables 0)).map V.int)) = H3 at *
    have s12 := s1.trans sA
    have A3 := A2.mono sB
    have hhd2 := sA _ _ hhd
    refine ⟨_, rfl, p, _, _, _, _, rfl, A3.hp, W.cl_Program, W.n_Program_tables, pf_tables, ?_⟩
    refine ⟨_, rfl, by omega, by omega, ?_⟩
    rw [show ((g.tables : Nat) : Int).toNat = g.tables by omega]
    have r0 : RdI g hs (List.replicate g.tables 0) 0 := by
      have z : ∀ h, (List.replicate g.tables 0).getD h 0 = 0 := fun h => by
        rw [List.getD_eq_getElem?_getD, List.getElem?_replicate]; split <;> rfl
      exact ⟨by simp, fun h => by rw [z]; exact Nat.zero_le _, fun r _ _ => by rw [Nat.zero_min]; exact Nat.zero_le _⟩
    refine for_range (lo := 0) (n := g.tables) (fun k σ H' => ∃ (v3 v4 v5 v6 v7 v8 : Option V) (v : List Nat), σ = [some (.ref p), some (.ref hd), some (.ref F), v3, v4, v5, v6, v7, v8] ∧ Same H2 H' ∧ H' F = some (.lst ((nI v).map V.int)) ∧ RdI g hs v k)
      ⟨_, _, _, _, _, _, _, rfl, sB, hF3, r0⟩ ?_ ?_
    · rintro k' σ H4 hk ⟨v3, v4, v5, v6, v7, v8, v, rfl, s4, hF4, I⟩
      have A4 := A2.mono s4
      refine ⟨_, rfl, p, _, _, _, _, rfl, A4.hp, W.cl_Program, W.n_Program_readings, pf_readings, ?_⟩
      refine ⟨ar, rfl, ⟨_, SqT.of A4.ha⟩, ?_⟩
      refine for_tup (K := K) (a := ar) (xs := xr) (fun i σ H' => ∃ (v4 v5 v6 v7 v8 : Option V) (u : List Nat), σ = [some (.ref p), some (.ref hd), some (.ref F), some (.int (0 + (k' : Int))), v4, v5, v6, v7, v8] ∧ Same H2 H' ∧ H' F = some (.lst ((nI u).map V.int)) ∧ RdJ g hs v u k' i)
        ⟨_, _, _, _, _, v, rfl, s4, hF4, I.start⟩ (fun i σ H' _ ⟨_, _, _, _, _, _, _, s, _⟩ => SqT.of (A2.mono s).ha) ?_ ?_
      · rintro i x σ H5 hx ⟨v4', v5', v6', v7', v8', u, rfl, s5, hF5, J⟩
        have A5 := A2.mono s5
        have hi : i < g.rs.length := by rw [← A5.len]; exact (List.getElem?_eq_some_iff.mp hx).1
        obtain ⟨r, hr⟩ : ∃ r, g.rs[i]? = some r := ⟨_, List.getElem?_eq_getElem hi⟩
        obtain ⟨rx, ry, _⟩ := gok.rd r (List.mem_of_getElem? hr)
        obtain ⟨q, sa, hq1, hq2, hq3⟩ := A5.rd hr
        rw [hx] at hq1
        cases hq1
        have hhd5 := s5 _ _ hhd2
        have lhx := hd_lt gok hok rx
        have lhy := hd_lt gok hok ry
        have lu := J.len
        refine ⟨q, _, rfl, SqT.of hq2, rfl, _, _, rfl, _, _, rfl, _, _, rfl, rfl, ?_⟩
        refine ⟨_, rfl, _, rfl, r_lget (j := r.x) hhd5 (nI_at (by rw [hok.1]; exact rx)) ?_⟩
        refine ⟨_, rfl, _, rfl, r_lget (j := r.y) hhd5 (nI_at (by rw [hok.1]; exact ry)) ?_⟩
        refine ⟨rfl, _, rfl, ?_⟩
        by_cases z : hs.getD r.x 0 = hs.getD r.y 0
        · rw [z, decide_eq_true rfl]
          refine iteF ?_
          exact ⟨_, _, _, _, _, u, rfl, s5, hF5, J.skip hr z⟩
        · rw [decide_eq_false (fun e => z (by injection e with e; omega))]
          refine iteT ?_
          refine ⟨_, rfl, _, rfl, _, rfl, r_lget (j := r.y) hhd5 (nI_at (by rw [hok.1]; exact ry)) ?_⟩
          refine r_lget (j := hs.getD r.y 0) hF5 (nI_at (by rw [lu]; exact lhy)) ?_
          refine ⟨_, _, rfl, rfl, ?_⟩
          refine ⟨_, rfl, _, rfl, _, rfl, r_lget (j := r.x) hhd5 (nI_at (by rw [hok.1]; exact rx)) ?_⟩
          refine r_lget (j := hs.getD r.x 0) hF5 (nI_at (by rw [lu]; exact lhx)) ?_
          refine ⟨_, rfl, _, _, rfl, ?_⟩
          have em : (if ((u.getD (hs.getD r.y 0) 0 : Nat) : Int) + 1 > ((u.getD (hs.getD r.x 0) 0 : Nat) : Int) then ((u.getD (hs.getD r.y 0) 0 : Nat) : Int) + 1 else ((u.getD (hs.getD r.x 0) 0 : Nat) : Int)) = ((max (u.getD (hs.getD r.x 0) 0) (u.getD (hs.getD r.y 0) 0 + 1) : Nat) : Int) := by
            split <;> omega
          rw [em]
          refine ⟨_, rfl, _, rfl, _, rfl, r_lget (j := r.x) hhd5 (nI_at (by rw [hok.1]; exact rx)) ?_⟩
          refine ⟨F, _, _, hs.getD r.x 0, rfl, rfl, hF5, ?_, ?_⟩
          · unfold ixN
            rw [if_pos (by omega), if_pos (by rw [List.length_map, List.length_map]; omega)]
            congr 1
          · exact ⟨_, _, _, _, _, _, rfl, fun b o e => by rw [upd_ne (ne_of_none e hF)]; exact s5 _ _ e, by rw [upd_same, set_nI], J.step gok hok hr z⟩
      · rintro σ H5 ⟨v4', v5', v6', v7', v8', u, rfl, s5, hF5, J⟩
        have lx : xr.length = g.rs.length := A0.len
        rw [lx] at J
        exact ⟨_, _, _, _, _, _, u, rfl, s5, hF5, J.fin⟩
    · rintro σ H4 ⟨v3, v4, v5, v6, v7, v8, v, rfl, s4, hF4, I⟩
      have hhd4 := s4 _ _ hhd2
      refine ⟨_, rfl, hd, rfl, ⟨_, SqL.of hhd4⟩, fun R hR => ?_⟩
      refine lc_listG (fun i w _ => ∃ h, hs[i]? = some h ∧ w = .int ((v.getD h 0 : Nat) : Int)) (SqL.of hhd4) hR (by rw [List.length_map, List.length_map, hok.1]; omega) (fun _ _ _ _ _ h => h) (fun i x H5 acc Qy hx s5 hA z => ⟨rfl, ?_⟩) (fun H5 ys s5 hR5 hl hy => ?_)
      · obtain ⟨h, hh, rfl⟩ := nats_at hx
        have hhl : h < g.tables := by
          have hi : i < hs.length := (List.getElem?_eq_some_iff.mp hh).1
          have := hd_lt gok hok (t := i) (by rw [← hok.1]; exact hi)
          rw [List.getD_eq_getElem?_getD, hh] at this
          exact this
        refine ⟨_, rfl, _, rfl, r_lget (j := h) (s5 _ _ hF4) (nI_at (by rw [I.1]; exact hhl)) ?_⟩
        exact z _ _ Xt.refl hA ⟨h, hh, rfl⟩
      · have e : ys = (nI (hs.map fun h => v.getD h 0)).map V.int := by
          rw [List.map_map, List.map_map]
          refine eq_map (by rw [hl, List.length_map, List.length_map]) fun j y e => ?_
          obtain ⟨h, h1, h2⟩ := hy j y e
          exact ⟨h, h1, h2⟩
        rw [e] at hR5
        exact k R _ _ ((s12.trans s4).trans s5) hR5 (num_ok gok I hok)
end
end TN
set_option Elab.async false
set_option linter.all false
set_option maxRecDepth 100000
set_option maxHeartbeats 4000000
/-! W23: tuple(zip(list, list)), by the library's turns of a zip whose tuple is still out. -/
namespace TZ
open PySem PySem.W
theorem zip_no_len : typeLookup (.type "zip") "__len__" = pure none := am_miss_of_fast (by decide +kernel)
theorem zip_no_hint : typeLookup (.type "zip") "__length_hint__" = pure none := am_miss_of_fast (by decide +kernel)
theorem nq {a b : Addr} {lo : Nat} (h1 : b < lo) (h2 : lo ≤ a) : a ≠ b := Nat.ne_of_gt (Nat.lt_of_lt_of_le h1 h2)
/-- a zip at its turn i -/
def Zst (h : Heap) (z TI TO i1 i2 l1 l2 S : Addr) (xs ys : Array Value) (i : Nat) : Prop := IsPair h TI (.ref i1) (.ref i2) ∧ h.IsListIter i1 l1 i ∧ h.IsListIter i2 l2 i ∧ h.IsList l1 xs ∧ h.IsList l2 ys ∧
  ((IsZip h z TI TO .none ∧ ∃ a b, IsPair h TO a b) ∨ ∃ T f oT, IsZipHeld h z TI TO T f ∧ h.get? T = some oT ∧ T ≠ z ∧ T ≠ i1 ∧ T ≠ i2 ∧ T ≠ S)
structure ZG (xs ys : Array Value) (lo : Nat) (h : Heap) (as : List Addr) : Prop where
  rise : as.Pairwise (· < ·)
  above : ∀ a ∈ as, lo ≤ a
  pairs : ∀ (j : Nat) (a : Addr), as[j]? = some a → ∃ x y, xs[j]? = some x ∧ ys[j]? = some y ∧ IsPair h a x y
theorem ZG.there {xs ys : Array Value} {lo : Nat} {h : Heap} {as : List Addr} (g : ZG xs ys lo h as) {a : Addr} (ha : a ∈ as) : a < h.objs.size := by
  obtain ⟨j, hj⟩ := List.mem_iff_getElem?.mp ha
  obtain ⟨_, _, _, _, e⟩ := g.pairs j a hj
  exact Heap.lt_size e
section
variable {prog : Program} {w : World} {A : Around} {s : Shared} {R : Result → Shared → Prop}
theorem zz_loop {S z TI TO i1 i2 l1 l2 : Addr} {xs ys : Array Value} {n lo : Nat} (hh : A.handled = none) (D : ZipApart z TI TO i1 i2 l1 l2) (hxs : xs.size = n) (hys : ys.size = n) (hn : n ≤ sizeLine)
    (sz : S ≠ z) (sTI : S ≠ TI) (sTO : S ≠ TO) (s1 : S ≠ i1) (s2 : S ≠ i2) (sl1 : S ≠ l1) (sl2 : S ≠ l2) (lz : z < lo) (lTO : TO < lo) (li1 : i1 < lo) (li2 : i2 < lo) (lS : S < lo) (res : Value) {h₁ : Heap}
    (hR : ∀ h' tk acc c as, (∀ b o, b ≠ S → b ≠ z → b ≠ TO → b ≠ i1 → b ≠ i2 → h₁.get? b = some o → h'.get? b = some o) → h'.get? S = some { cls := .type "list", dict := none, data := .seq acc c, slots := #[] } → as.length = n → ZG xs ys lo h' as →
      acc.toList = as.map Value.ref → R (.ok (.ret res)) { s with heap := h', toks := tk }) :
    ∀ (k i : Nat) (h : Heap) (tk c : Nat) (acc : Array Value) (as : List Addr), n - i = k → i ≤ n → Zst h z TI TO i1 i2 l1 l2 S xs ys i → (∀ b o, b ≠ S → b ≠ z → b ≠ TO → b ≠ i1 → b ≠ i2 → h₁.get? b = some o → h.get? b = some o) →
      h.get? S = some { cls := .type "list", dict := none, data := .seq acc c, slots := #[] } → acc.toList = as.map Value.ref → as.length = i → ZG xs ys lo h as → lo ≤ h.objs.size →
      codeAny (model prog w) A (.builtin "list.extend.loop" ⟨[.ref S, .ref z, res], []⟩) R { s with heap := h, toks := tk } := by
  intro k
  induction k with
  | zero =>
    intro i h tk c acc as hk hi hst hkeep hS hacc hal hG hlo
    have hin : i = n := by omega
    subst hin
    obtain ⟨hTI, h1, h2, hl1, hl2, hz⟩ := hst
    have hend : xs[i]? = none ∨ ys[i]? = none := .inl (Array.getElem?_eq_none (by omega))
    have fin : ∀ h' : Heap, (∀ c o, c ≠ z → c ≠ TO → c ≠ i1 → c ≠ i2 → h.get? c = some o → h'.get? c = some o) → R (.ok (.ret res)) { s with heap := h', toks := tk } := fun h' he =>
      hR h' tk acc c as (fun b o b1 b2 b3 b4 b5 e => he b o b2 b3 b4 b5 (hkeep b o b1 b2 b3 b4 b5 e)) (he S _ sz sTO s1 s2 hS) hal ⟨hG.rise, hG.above, fun j a hj => by
        obtain ⟨x, y, e1, e2, e3⟩ := hG.pairs j a hj
        have ab := hG.above a (List.mem_of_getElem? hj)
        exact ⟨x, y, e1, e2, he a _ (nq lz ab) (nq lTO ab) (nq li1 ab) (nq li2 ab) e3⟩⟩ hacc
    refine codeAny_builtin F.entry_extend_loop ?_
    rw [Around.under_plainId F.plain_extend_loop _]
    show wpAny _ A.in1 (pyNext (.ref z) >>= _) _ _ _
    rcases hz with ⟨hz, a, b, hTO⟩ | ⟨T, f, oT, hz, hT, r1, r2, r3, r4⟩
    · exact wpAny_bind (wpAny_pyNext_zip_end (s := { s with heap := h, toks := tk }) (A := A.in1) hh D hz hTI hTO h1 h2 hl1 hl2 hend fun h' he => wpAny_pure (fin h' he))
    · exact wpAny_bind (wpAny_pyNext_zip_end_held (s := { s with heap := h, toks := tk }) (A := A.in1) hh D hz hT hTI h1 h2 hl1 hl2 hend fun h' he => wpAny_pure (fin h' fun c o c1 _ c3 c4 e => he c o c1 c3 c4 e))
  | succ k ih =>
    intro i h tk c acc as hk hi hst hkeep hS hacc hal hG hlo
    have hlt : i < n := by omega
    have hx : xs[i]? = some (xs[i]'(by omega)) := Array.getElem?_eq_getElem _
    have hy : ys[i]? = some (ys[i]'(by omega)) := Array.getElem?_eq_getElem _
    have hsz : acc.size = i := by rw [← Array.length_toList, hacc, List.length_map, hal]
    obtain ⟨hTI, h1, h2, hl1, hl2, hz⟩ := hst
    have nxt : ∀ h' : Heap, ((IsZip h' z TI TO (rawInt h.objs.size) ∨ ∃ T f oT, IsZipHeld h' z TI TO T f ∧ h'.get? T = some oT ∧ T ≠ z ∧ T ≠ i1 ∧ T ≠ i2 ∧ T ≠ S)) → h'.IsListIter i1 l1 (i + 1) → h'.IsListIter i2 l2 (i + 1) → IsPair h' h.objs.size (xs[i]'(by omega)) (ys[i]'(by omega)) → h'.objs.size = h.objs.size + 1 →
        (∀ c o, c ≠ z → c ≠ TO → c ≠ i1 → c ≠ i2 → h.get? c = some o → h'.get? c = some o) →
        wpAny (model prog w) A.in1 (updateSeq S (·.push (Value.ref h.objs.size)) >>= fun _ => again (.builtin "list.extend.loop" ⟨[.ref S, .ref z, res], []⟩))
          (fun fin s' => match fin with | .done f => R (.ok f) s' | .again c' => c'.quiet = true ∧ codeAny (model prog w) A c' R s') (fun e s' => R (.error e) s') { s with heap := h', toks := tk } := fun h' zz a1 a2 ht hz' hkp => by
      have hS' := hkp S _ sz sTO s1 s2 hS
      have up : ∀ b o, b ≠ S → h'.get? b = some o → (h'.update S (Obj.mapSeq (·.push (Value.ref h.objs.size)))).get? b = some o := fun b o hb e => (Heap.get?_update_other _ _ (Ne.symm hb)).trans e
      have hSl : S < h.objs.size := Heap.lt_size hS
      have nT : h.objs.size ≠ S := nq lS hlo
      have zz2 : Zst (h'.update S (Obj.mapSeq (·.push (Value.ref h.objs.size)))) z TI TO i1 i2 l1 l2 S xs ys (i + 1) := by
        refine ⟨up _ _ sTI.symm (hkp _ _ D.TIz D.TITO D.TIi1 D.TIi2 hTI), a1.at fun o e => up _ o s1.symm e, a2.at fun o e => up _ o s2.symm e, hl1.at fun o e => up _ o sl1.symm (hkp _ o D.l1z D.l1TO D.l1i1 D.l1i2 e), hl2.at fun o e => up _ o sl2.symm (hkp _ o D.l2z D.l2TO D.l2i1 D.l2i2 e), .inr ?_⟩
        rcases zz with zz | ⟨T, f, oT, q1, q2, q3, q4, q5, q6⟩
        · exact ⟨h.objs.size, false, _, up _ _ sz.symm zz, up _ _ nT ht, nq lz hlo, nq li1 hlo, nq li2 hlo, nT⟩
        · exact ⟨T, f, oT, up _ _ sz.symm q1, up _ _ q6 q2, q3, q4, q5, q6⟩
      refine wpAny_bind ?_
      refine wpAny_updateSeq hS' rfl (wpAny_pure ⟨plainId_quiet F.plain_extend_loop _, ih (i + 1) _ tk _ (acc.push (Value.ref h.objs.size)) (as ++ [h.objs.size]) (by omega) hlt zz2
        (fun b o b1 b2 b3 b4 b5 e => up b o b1 (hkp b o b2 b3 b4 b5 (hkeep b o b1 b2 b3 b4 b5 e))) (Heap.get?_update_self _ hS' rfl) (by rw [Array.toList_push, hacc, List.map_append]; rfl) (by rw [List.length_append, hal]; rfl) ⟨?_, ?_, ?_⟩ ?_⟩) (by rw [hsz]; omega) (by show (acc.push (Value.ref h.objs.size)).size ≤ sizeLine + 1; rw [Array.size_push, hsz]; omega)
      · refine List.pairwise_append.mpr ⟨hG.rise, List.pairwise_singleton _ _, fun a ha b hb => ?_⟩
        rw [List.mem_singleton.mp hb]
        exact hG.there ha
      · intro a ha
        rcases List.mem_append.mp ha with ha | ha
        · exact hG.above a ha
        · rw [List.mem_singleton.mp ha]; exact hlo
      · intro j b hj
        rcases Nat.lt_trichotomy j as.length with e1 | e1 | e1
        · rw [List.getElem?_append_left e1] at hj
          obtain ⟨x', y', f1, f2, f3⟩ := hG.pairs j b hj
          have hb := hG.above b (List.mem_of_getElem? hj)
          exact ⟨x', y', f1, f2, up b _ (nq lS hb) (hkp b _ (nq lz hb) (nq lTO hb) (nq li1 hb) (nq li2 hb) f3)⟩
        · subst e1
          have hb : h.objs.size = b := by simpa using hj
          subst hb
          exact ⟨_, _, by rw [hal]; exact hx, by rw [hal]; exact hy, up _ _ nT ht⟩
        · have hnone : (as ++ [h.objs.size])[j]? = none := List.getElem?_eq_none (by rw [List.length_append, List.length_singleton]; omega)
          rw [hnone] at hj; cases hj
      · have e : (h'.update S (Obj.mapSeq (·.push (Value.ref h.objs.size)))).get? h.objs.size = _ := up _ _ nT ht
        exact Nat.le_of_lt (Nat.lt_of_le_of_lt hlo (Heap.lt_size e))
    refine codeAny_builtin F.entry_extend_loop ?_
    rw [Around.under_plainId F.plain_extend_loop _]
    show wpAny _ A.in1 (pyNext (.ref z) >>= _) _ _ _
    rcases hz with ⟨hz, a, b, hTO⟩ | ⟨T, f, oT, hz, hT, r1, r2, r3, r4⟩
    · exact wpAny_bind (wpAny_pyNext_zip_item (s := { s with heap := h, toks := tk }) (A := A.in1) D hz hTI hTO h1 h2 hl1 hl2 hx hy fun h' b1 b2 b3 b4 b5 b6 b7 => nxt h' (.inl b1) b3 b4 b5 b6 b7)
    · exact wpAny_bind (wpAny_pyNext_zip_item_held (s := { s with heap := h, toks := tk }) (A := A.in1) D hz hT hTI h1 h2 hl1 hl2 hx hy fun h' b1 b3 b4 b5 b6 b7 => nxt h' (.inr ⟨T, true, oT, b1, b7 T oT r1 r2 r3 hT, r1, r2, r3, r4⟩) b3 b4 b5 b6 fun c o c1 _ c3 c4 e => b7 c o c1 c3 c4 e)
end
section
variable {prog : Program} {w : World} {A : Around} {E : Value → Shared → Prop} {s : Shared}
theorem collect_zip {z TI TO i1 i2 l1 l2 : Addr} {xs ys : Array Value} {n : Nat} {Q : List Value → Shared → Prop} (hh : A.handled = none) (D : ZipApart z TI TO i1 i2 l1 l2) (hxs : xs.size = n) (hys : ys.size = n) (hn : n ≤ sizeLine)
    (hz : IsZip s.heap z TI TO .none) (hTI : IsPair s.heap TI (.ref i1) (.ref i2)) {a b : Value} (hTO : IsPair s.heap TO a b) (h1 : s.heap.IsListIter i1 l1 0) (h2 : s.heap.IsListIter i2 l2 0) (hl1 : s.heap.IsList l1 xs) (hl2 : s.heap.IsList l2 ys)
    (hQ : ∀ (h' : Heap) (tk : Nat) (as : List Addr), (∀ b o, b ≠ z → b ≠ TO → b ≠ i1 → b ≠ i2 → s.heap.get? b = some o → h'.get? b = some o) → as.length = n → ZG xs ys s.heap.objs.size h' as → Q (as.map Value.ref) { s with heap := h', toks := tk }) :
    wpAny (model prog w) A (collect (.ref z)) Q E s := by
  have lz : z < s.heap.objs.size := Heap.lt_size hz
  have lTI : TI < s.heap.objs.size := Heap.lt_size hTI
  have lTO : TO < s.heap.objs.size := Heap.lt_size hTO
  have li1 : i1 < s.heap.objs.size := let ⟨_, e, _⟩ := h1; Heap.lt_size e
  have li2 : i2 < s.heap.objs.size := let ⟨_, e, _⟩ := h2; Heap.lt_size e
  have ll1 : l1 < s.heap.objs.size := let ⟨_, e, _⟩ := hl1; Heap.lt_size e
  have ll2 : l2 < s.heap.objs.size := let ⟨_, e, _⟩ := hl2; Heap.lt_size e
  obtain ⟨hp, g, d, tk, os⟩ := s
  have hT : ∀ h, IsZip h z TI TO .none → Shared.TypeIs ⟨h, g, d, tk, os⟩ (.ref z) "zip" := fun h y => ⟨_, y, rfl⟩
  have e1 : hp.objs.size ≠ z := Nat.ne_of_gt lz
  unfold collect
  refine wpAny_bind (wpAny_runValue (codeAny_builtin F.entry_proto_collect ?_))
  wp_walk
  have q1 : IsZip (hp.push { cls := .type "list", data := .seq #[] }) z TI TO .none := Heap.get?_push_of_some _ hz
  have t1 := hT _ q1
  refine ⟨plainId_quiet F.plain_list_iadd _, codeAny_builtin F.entry_list_iadd ?_⟩
  have n1 : Builtin.List.listSameRef (.ref hp.objs.size) (.ref z) = false := by simp [Builtin.List.listSameRef]; exact e1
  wp_walk using wpAny_typeOf t1, wpAny_specialOf t1 zip_no_len, wpAny_specialOf t1 zip_no_hint, wpAny_pyIter_zip (s := ⟨_, g, d, tk, os⟩) q1
  have a1 : (hp.push { cls := .type "list", data := .seq #[] }).get? hp.objs.size = some { cls := .type "list", data := .seq #[] } := Heap.get?_push_size _ rfl
  have a3 := Heap.get?_update_self (Obj.mapSeq (·.pop)) (Heap.get?_update_self (Obj.mapSeq (·.push Value.none)) a1 rfl) rfl
  have kept : ∀ b o, hp.get? b = some o → (((hp.push { cls := .type "list", data := .seq #[] }).update hp.objs.size (Obj.mapSeq (·.push Value.none))).update hp.objs.size (Obj.mapSeq (·.pop))).get? b = some o := fun b o y => by
    have nb : hp.objs.size ≠ b := Nat.ne_of_gt (Heap.lt_size y)
    rw [Heap.get?_update_other _ _ nb, Heap.get?_update_other _ _ nb]
    exact Heap.get?_push_of_some _ y
  refine ⟨plainId_quiet F.plain_extend_loop _, ?_⟩
  generalize ((hp.push { cls := .type "list", data := .seq #[] }).update hp.objs.size (Obj.mapSeq (·.push Value.none))).update hp.objs.size (Obj.mapSeq (·.pop)) = h0 at *
  refine zz_loop (s := ⟨hp, g, d, tk, os⟩) (lo := hp.objs.size + 1) (h₁ := hp) hh D hxs hys hn e1 (Nat.ne_of_gt lTI) (Nat.ne_of_gt lTO) (Nat.ne_of_gt li1) (Nat.ne_of_gt li2) (Nat.ne_of_gt ll1) (Nat.ne_of_gt ll2) (Nat.lt_succ_of_lt lz) (Nat.lt_succ_of_lt lTO) (Nat.lt_succ_of_lt li1) (Nat.lt_succ_of_lt li2) (Nat.lt_succ_self _) (.ref hp.objs.size)
    (fun h' tk' acc c as hk hS hal hG hacc => ?_) n 0 h0 tk _ #[] [] (Nat.sub_zero _) (Nat.zero_le _) ⟨kept _ _ hTI, h1.at fun o y => kept _ o y, h2.at fun o y => kept _ o y, hl1.at fun o y => kept _ o y, hl2.at fun o y => kept _ o y, .inl ⟨kept _ _ hz, a, b, kept _ _ hTO⟩⟩
    (fun b o _ _ _ _ _ y => kept b o y) a3 rfl rfl ⟨.nil, fun _ y => (by cases y), fun j c y => (by simp at y)⟩ (Heap.lt_size a3)
  wp_walk
  rw [hacc]
  exact hQ h' tk' as (fun b o b1 b2 b3 b4 y => hk b o (Nat.ne_of_lt (Heap.lt_size y)) b1 b2 b3 b4 y) hal ⟨hG.rise, fun c y => Nat.le_trans (Nat.le_succ _) (hG.above c y), hG.pairs⟩
theorem code_tuple_new_zip {z TI TO i1 i2 l1 l2 : Addr} {xs ys : Array Value} {n : Nat} {Q₁ : Value → Shared → Prop} (hh : A.handled = none) (D : ZipApart z TI TO i1 i2 l1 l2) (hxs : xs.size = n) (hys : ys.size = n) (hn : n ≤ sizeLine)
    (hz : IsZip s.heap z TI TO .none) (hTI : IsPair s.heap TI (.ref i1) (.ref i2)) {a b : Value} (hTO : IsPair s.heap TO a b) (h1 : s.heap.IsListIter i1 l1 0) (h2 : s.heap.IsListIter i2 l2 0) (hl1 : s.heap.IsList l1 xs) (hl2 : s.heap.IsList l2 ys)
    (h : ∀ (h' : Heap) (tk : Nat) (as : List Addr), (∀ b o, b ≠ z → b ≠ TO → b ≠ i1 → b ≠ i2 → s.heap.get? b = some o → h'.get? b = some o) → as.length = n → ZG xs ys s.heap.objs.size h' as →
      Q₁ (.ref h'.objs.size) { s with heap := h'.push { cls := .type "tuple", data := .seq (as.map Value.ref).toArray }, toks := tk }) :
    codeAny (model prog w) A (.call (.builtin "tuple.__new__") ⟨[.type "tuple", .ref z], []⟩) (wants Q₁ E) s := by
  refine codeAny_of_tree ?_
  show wpAny _ A.in1 (do checkBuiltinCall "tuple.__new__" ⟨[.type "tuple", .ref z], []⟩; again (.builtin "tuple.__new__" ⟨[.type "tuple", .ref z], []⟩)) _ _ s
  refine wpAny_bind (wpAny_of_eq (F.newCall_tuple_1 _) (wpAny_pure ⟨plainId_quiet F.plain_tuple_new _, codeAny_builtin F.entry_tuple_new ?_⟩))
  rw [Around.under_plainId F.plain_tuple_new _]
  have hsub := sub_tuple_self
  have hinit := init_tuple_lookup
  have hmh := madeHere_tuple
  have hTZ : s.TypeIs (.ref z) "zip" := ⟨_, hz, rfl⟩
  have hh1 : A.in1.handled = none := hh
  wp_walk using wpAny_typeOf hTZ, collect_zip (A := A.in1) hh1 D hxs hys hn hz hTI hTO h1 h2 hl1 hl2
  intro h' tk as hk hal hG
  show wpAny _ _ (Builtin.Tuple.tupleExact (as.map Value.ref).toArray >>= fun v => ret v) _ _ _
  unfold Builtin.Tuple.tupleExact
  refine wpAny_bind (wpAny_newObj_type ?_ (by show (as.map Value.ref).toArray.size ≤ sizeLine; simp only [List.size_toArray, List.length_map]; rw [hal]; exact hn))
  refine wpAny_pure ?_
  exact h h' tk as hk hal hG
theorem call_tuple_zip {z TI TO i1 i2 l1 l2 : Addr} {xs ys : Array Value} {n : Nat} {Q : Value → Shared → Prop} (hh : A.handled = none) (D : ZipApart z TI TO i1 i2 l1 l2) (hxs : xs.size = n) (hys : ys.size = n) (hn : n ≤ sizeLine)
    (hz : IsZip s.heap z TI TO .none) (hTI : IsPair s.heap TI (.ref i1) (.ref i2)) {a b : Value} (hTO : IsPair s.heap TO a b) (h1 : s.heap.IsListIter i1 l1 0) (h2 : s.heap.IsListIter i2 l2 0) (hl1 : s.heap.IsList l1 xs) (hl2 : s.heap.IsList l2 ys)
    (hQ : ∀ (h' : Heap) (tk : Nat) (as : List Addr), (∀ b o, b ≠ z → b ≠ TO → b ≠ i1 → b ≠ i2 → s.heap.get? b = some o → h'.get? b = some o) → as.length = n → ZG xs ys s.heap.objs.size h' as →
      Q (.ref h'.objs.size) { s with heap := h'.push { cls := .type "tuple", data := .seq (as.map Value.ref).toArray }, toks := tk }) :
    wpAny (model prog w) A (call (.type "tuple") [.ref z]) Q E s := by
  refine callType_codes (Q₁ := fun obj s₁ => s₁.TypeIs obj "tuple" ∧ Q obj s₁) F.called_tuple (F.typeCall_tuple_1 _) F.entry_object_init
    (code_tuple_new_zip (A := A.in1) hh D hxs hys hn hz hTI hTO h1 h2 hl1 hl2 fun h' tk as hk hal hG => ⟨⟨_, Heap.get?_push_size _ rfl, rfl⟩, hQ h' tk as hk hal hG⟩) fun obj s₁ h₁ => ?_
  exact ⟨h₁.1, F.args_object_init_2 obj _, object_init_meets F.called_tuple.init.lookup F.called_tuple.made (by decide) prog w A.in1 _ s₁ ⟨h₁.1, rfl, h₁.2⟩⟩
end
end TZ
namespace TN
open PySem PySem.Spec PyProof.Rows L2
/-- the tuples tracked at their addresses -/
def putP : Hp → List Addr → List (V × V) → Hp
  | H, a :: as, p :: ps => putP (upd H a (.tup [p.1, p.2])) as ps
  | H, _, _ => H
theorem putP_off {b : Addr} : ∀ (as : List Addr) (ps : List (V × V)) (H : Hp), b ∉ as → putP H as ps b = H b
  | [], _, _, _ => rfl
  | _ :: _, [], _, _ => rfl
  | a :: as, p :: ps, H, h => by
    show putP (upd H a (.tup [p.1, p.2])) as ps b = H b
    rw [putP_off as ps _ (fun z => h (List.mem_cons_of_mem _ z)), upd_ne (fun z => h (by rw [z]; exact List.mem_cons_self))]
theorem putP_at : ∀ (as : List Addr) (ps : List (V × V)) (H : Hp), as.Nodup → ∀ {j : Nat} {a : Addr} {p : V × V}, as[j]? = some a → ps[j]? = some p → putP H as ps a = some (.tup [p.1, p.2])
  | [], _, _, _, j, a, p, h, _ => by simp at h
  | _ :: _, [], _, _, j, a, p, _, h => by simp at h
  | b :: as, q :: ps, H, nd, 0, a, p, h1, h2 => by
    obtain ⟨n1, n2⟩ := List.nodup_cons.mp nd
    simp at h1 h2
    subst h1 h2
    show putP (upd H b (.tup [q.1, q.2])) as ps b = _
    rw [putP_off as ps _ n1, upd_same]
  | b :: as, q :: ps, H, nd, j + 1, a, p, h1, h2 => putP_at as ps _ (List.nodup_cons.mp nd).2 (j := j) (by simpa using h1) (by simpa using h2)
def rTupZip (K : PySem.W.Frag) : List V → Hp → VK → Prop := fun vs H Q => ∃ (a b : Addr) (xs ys : List V), vs = [.ref a, .ref b] ∧ SqL K H a xs ∧ SqL K H b ys ∧ xs.length = ys.length ∧ xs.length ≤ 1000 ∧
  ∀ (H' : Hp) (p : Addr) (ts : List Addr), Same H H' → H' p = some (.tup (ts.map V.ref)) → ts.length = xs.length → (∀ (j : Nat) (t : Addr) (x y : V), ts[j]? = some t → xs[j]? = some x → ys[j]? = some y → H' t = some (.tup [x, y])) → Q (.ref p) H'
def tTupZip (K : PySem.W.Frag) (ta : TA) : TE := fun σ H Q => ta σ H fun vs H1 => rTupZip K vs H1 Q
section
variable {X : Cx} {e e2 : Expr} {ta : TA} {p q pos pos2 : Pos}
theorem pe_tupZip (hc : X.calm = true) (ha : PA X [e, e2] ta) (hg : Gl X "zip") (hm : X.mg "zip" = none) (hgt : Gl X "tuple") (hmt : X.mg "tuple" = none)
    (hs : starEach [e, e2] X.env = (false, eval e X.env) :: starEach [e2] X.env := by rfl) (hpl : (backTo pos (starEach [e2] X.env)).any (·.1) = false := by rfl)
    (hs2 : starEach [.Call (.Name "zip" p) [e, e2] [] pos] X.env = (false, eval (.Call (.Name "zip" p) [e, e2] [] pos) X.env) :: starEach [] X.env := by rfl) :
    PE X (.Call (.Name "tuple" q) [.Call (.Name "zip" p) [e, e2] [] pos] [] pos2) (tTupZip X.K ta) := by
  refine ⟨fun pins s σ H Q I h => ?_⟩
  refine wpAny_Call_Name_kw (ld_blt I hgt hmt PyProof.Rows.boot_tuple ?_)
  refine PyProof.Rows.callWith_type1 ?_ hs2 rfl
  rw [hs2]
  show wpAny _ _ (spliced ((false, eval (.Call (.Name "zip" p) [e, e2] [] pos) X.env) :: backTo pos2 (starEach [] X.env))) _ _ s
  refine Calls.spliced_cons ?_
  refine Call_ (ld_blt I hg hm PyProof.Rows.boot_zip (PyProof.Rows.callWith_type1 (thn (ha.run pos pins s σ H _ I h) fun us s1 ⟨vs, H1, I1, r1, q1⟩ => ?_) hs hpl))
  obtain ⟨a, b, xs, ys, ex, hqx, hqy, hl, hL, k⟩ := q1
  subst ex
  cases r1 with
  | cons r rr =>
    cases rr with
    | cons r' rr =>
      cases rr
      cases r
      cases r'
      obtain ⟨its, rv, p1, _⟩ := I1.list hqx
      obtain ⟨its2, rv2, p2, _⟩ := I1.list hqy
      have l1 := rv.length
      have l2 := rv2.length
      refine call_zip_2 p1.isList p2.isList fun h' hz hTI hTO h1 h2 hsz hk => ?_
      refine Calls.spliced_nil ?_
      have D := PySem.W.ktu_apart s1.heap.objs.size a b p1.lt p2.lt
      refine TZ.call_tuple_zip (s := { s1 with heap := h' }) (n := xs.length) (xs := its.toArray) (ys := its2.toArray) (I1.ok.hd hc) D (by simp; omega) (by simp; omega) (by rw [sizeLine_eq]; omega) hz hTI hTO h1 h2 (p1.isList.at fun o e => hk _ o e) (p2.isList.at fun o e => hk _ o e) fun h2' tk as hk2 hal hG => ?_
      have hz' : h'.objs.size = s1.heap.objs.size + 5 := hsz
      have low : ∀ b o, s1.heap.get? b = some o → (h2'.push { cls := .type "tuple", data := .seq (as.map Value.ref).toArray }).get? b = some o := fun b o e => by
        have hb := Heap.lt_size e
        exact Heap.get?_push_of_some _ (hk2 b o (Nat.ne_of_lt (Nat.lt_of_lt_of_le hb (Nat.le_add_right _ 4))) (Nat.ne_of_lt (Nat.lt_of_lt_of_le hb (Nat.le_add_right _ 3))) (Nat.ne_of_lt hb) (Nat.ne_of_lt (Nat.lt_of_lt_of_le hb (Nat.le_add_right _ 1))) (hk b o e))
      have lowl : ∀ t ∈ as, s1.heap.objs.size ≤ t := fun t ht => Nat.le_trans (by show _ ≤ h'.objs.size; omega) (hG.above t ht)
      have nd : as.Nodup := List.Pairwise.imp (fun {a b} (h : a < b) => Nat.ne_of_lt h) hG.rise
      have new : ∀ t ∈ as, H1 t = none := fun t ht => I1.hok.fresh (lowl t ht)
      have lR : s1.heap.objs.size ≤ h2'.objs.size := by
        have h5 : s1.heap.objs.size + 2 < h2'.objs.size := Heap.lt_size (hk2 (s1.heap.objs.size + 2) _ (by show s1.heap.objs.size + 2 ≠ s1.heap.objs.size + 4; omega) (by show s1.heap.objs.size + 2 ≠ s1.heap.objs.size + 3; omega) (by show s1.heap.objs.size + 2 ≠ s1.heap.objs.size; omega) (by show s1.heap.objs.size + 2 ≠ s1.heap.objs.size + 1; omega) hTI)
        omega
      have newR : H1 h2'.objs.size = none := I1.hok.fresh lR
      have nR : h2'.objs.size ∉ as := fun z => Nat.lt_irrefl _ (hG.there z)
      have lz : (xs.zip ys).length = as.length := by rw [List.length_zip, hal]; omega
      obtain ⟨H', hH'⟩ : ∃ H', H' = upd (putP H1 as (xs.zip ys)) h2'.objs.size (.tup (as.map V.ref)) := ⟨_, rfl⟩
      have off : ∀ b, b ∉ as → b ≠ h2'.objs.size → H' b = H1 b := fun b n1 n2 => by rw [hH', upd_ne n2, putP_off as _ _ n1]
      have kp : ∀ b u, H1 b = some u → H' b = some u := fun b u e => by
        rw [off b (fun z => by rw [new b z] at e; cases e) (fun z => by rw [z, newR] at e; cases e)]; exact e
      have atP : ∀ (j : Nat) (t : Addr) (x y : V), as[j]? = some t → xs[j]? = some x → ys[j]? = some y → H' t = some (.tup [x, y]) := fun j t x y e1 e2 e3 => by
        have ht := List.mem_of_getElem? e1
        rw [hH', upd_ne (fun z => nR (by rw [← z]; exact ht))]
        exact putP_at as (xs.zip ys) H1 nd (p := (x, y)) e1 (by rw [List.getElem?_zip_eq_some]; exact ⟨e2, e3⟩)
      have eR : H' h2'.objs.size = some (.tup (as.map V.ref)) := by rw [hH', upd_same]
      have J : Inv X pins σ H' { s1 with heap := h2'.push { cls := .type "tuple", data := .seq (as.map Value.ref).toArray }, toks := tk } := by
        refine I1.call' (ch := []) rfl ⟨fun b o q _ _ _ => low b o q, fun b o q _ _ _ => ⟨o.slots, low b o q⟩, fun b o q n _ => ?_, fun b o q _ => ⟨o, low b o q⟩, fun b xs q => kp b _ q, fun b o u q => kp b _ q, fun b ps q => ⟨#[], by rw [kp b _ q]; simp⟩⟩ (fun b u q => ?_) I1.bare fun b z => by simp at z
        · have hb := Heap.lt_size q
          rw [off b (fun z => absurd hb (Nat.not_lt.mpr (lowl b z))) (fun z => absurd hb (Nat.not_lt.mpr (by rw [z]; exact lR)))]
          exact n
        · by_cases hb : b ∈ as
          · obtain ⟨j, hj⟩ := List.mem_iff_getElem?.mp hb
            have hjl : j < as.length := (List.getElem?_eq_some_iff.mp hj).1
            obtain ⟨x', y', f1, f2, f3⟩ := hG.pairs j b hj
            have ex : xs[j]? = some (xs[j]'(by omega)) := List.getElem?_eq_getElem _
            have ey : ys[j]? = some (ys[j]'(by omega)) := List.getElem?_eq_getElem _
            have eb := atP j b _ _ hj ex ey
            rw [eb] at q
            cases q
            obtain ⟨u1, g1, g2⟩ := rv.get ex
            obtain ⟨u2, g3, g4⟩ := rv2.get ey
            have f1' : its[j]? = some x' := by simpa using f1
            have f2' : its2[j]? = some y' := by simpa using f2
            rw [g1] at f1'
            rw [g3] at f2'
            cases f1'
            cases f2'
            exact ⟨by show 2 ≤ sizeLine; decide, [x', y'], .cons g2 (.cons g4 .nil), ⟨_, Heap.get?_push_of_some _ f3, rfl, _, rfl⟩⟩
          · by_cases hb2 : b = h2'.objs.size
            · subst hb2
              rw [eR] at q
              cases q
              exact ⟨by rw [List.length_map, hal, sizeLine_eq]; omega, as.map Value.ref, LiI.vals_refs as, ⟨_, Heap.get?_push_size _ rfl, rfl, _, rfl⟩⟩
            · rw [off b hb hb2] at q
              exact (I1.hok b u q).stay (fun d v _ y => low d v y) (fun d y => kp d _ y) fun d xs y => kp d _ y
      exact ⟨.ref h2'.objs.size, H', J, rfl, k H' _ as (fun b o e => kp b o e) eR hal atP⟩
end
end TN
set_option Elab.async false
set_option linter.all false
set_option maxRecDepth 100000
set_option maxHeartbeats 4000000
/-! W24: check_world, timetable. -/
namespace TN
open PySem PySem.Spec PyProof.Rows L2
theorem k_tupZip (K : PySem.W.Frag) {X : Cx} {e e2 : Expr} {ta : TA} {p q pos pos2 : Pos} (hc : X.calm = true) (ha : PA X [e, e2] ta) (hg : Gl X "zip") (hm : X.mg "zip" = none) (hgt : Gl X "tuple") (hmt : X.mg "tuple" = none) (h : X.K = K := by rfl)
    (hs : starEach [e, e2] X.env = (false, eval e X.env) :: starEach [e2] X.env := by rfl) (hpl : (backTo pos (starEach [e2] X.env)).any (·.1) = false := by rfl)
    (hs2 : starEach [.Call (.Name "zip" p) [e, e2] [] pos] X.env = (false, eval (.Call (.Name "zip" p) [e, e2] [] pos) X.env) :: starEach [] X.env := by rfl) :
    PE X (.Call (.Name "tuple" q) [.Call (.Name "zip" p) [e, e2] [] pos] [] pos2) (tTupZip K ta) := by subst h; exact pe_tupZip hc ha hg hm hgt hmt hs hpl hs2
abbrev dRow (a : Row) : PyData := .tuple [dI a.1, .int a.2]
abbrev dEn (e : Int × List Row) : PyData := .tuple [.int e.1, .tuple (e.2.map dRow)]
abbrev dT (T : Tt) : PyData := .tuple (T.map dEn)
structure TtOk (g : Prg) (far : Bool) (m : Nat) (T : Tt) : Prop where
  len : T.length = g.tables
  rl : ∀ e ∈ T, ∀ a ∈ e.2, a.1.length = g.sides
  most : ∀ e ∈ T, e.2.length ≤ m
  late : ∀ r ∈ g.rs, lateB T r = true
  far : far = true → ∀ e ∈ T, ∀ a ∈ e.2, ∀ x ∈ a.1, 0 ≤ x
  bits : ∀ e ∈ T, ∀ a ∈ e.2, Bits 400000 a.2 ∧ ∀ x ∈ a.1, Bits 400000 x
theorem tR_mem {T : Tt} {t : Nat} {a : Row} (h : a ∈ tR T t) : ∃ e ∈ T, a ∈ e.2 := by
  unfold tR at h
  rw [List.getD_eq_getElem?_getD] at h
  cases q : T[t]? with
  | none => rw [q] at h; cases h
  | some e => rw [q] at h; exact ⟨e, List.mem_of_getElem? q, h⟩
theorem TtOk.rise {g : Prg} {far : Bool} {m : Nat} {T : Tt} (h : TtOk g far m T) : Rise g far m T where
  len := h.len
  rl := fun t a ha => let ⟨e, he, h2⟩ := tR_mem ha; h.rl e he a h2
  far := fun hf t a ha => let ⟨e, he, h2⟩ := tR_mem ha; h.far hf e he a h2
  most := fun t => by
    unfold tR
    rw [List.getD_eq_getElem?_getD]
    cases q : T[t]? with
    | none => exact Nat.zero_le _
    | some e => exact h.most e (List.mem_of_getElem? q)
  late := h.late
theorem rowsT_snoc {g : Prg} (Z : List Zt) (z : Zt) (t : Nat) : (Tbl g (pD z.1) t → rowsT g (Z ++ [z]) t = rowsT g Z t ++ [(z.2.1, z.2.2.getD t 0)]) ∧ (¬ Tbl g (pD z.1) t → rowsT g (Z ++ [z]) t = rowsT g Z t) := by
  constructor
  · intro h
    rw [rowsT_app]
    congr 1
    unfold rowsT
    rw [List.filter_cons_of_pos (by exact @decide_eq_true _ (Classical.propDecidable _) h)]; rfl
  · intro h
    rw [rowsT_app]
    have : rowsT g [z] t = [] := by
      unfold rowsT
      rw [List.filter_cons_of_neg (by intro q; exact h (@of_decide_eq_true _ (Classical.propDecidable _) q))]; rfl
    rw [this, List.append_nil]
section
variable {P : Program} {w : World} {K : PySem.W.Frag} {mg : Str → Option Value} {base : Heap}
def spWorld : Sp := fun vs H Q _ => ∃ far : Bool, vs = [.str (wS far)] ∧ Q .non H
/-! check_world: slots 0 thing; calls [] -/
abbrev N_check_world : List Str := ["thing"]
theorem sc_check_world : FnScope N_check_world ["thing"] (defScope s_check_world) := ⟨rfl, rfl, rfl, by decide +kernel, rfl, by decide +kernel, by decide +kernel⟩
theorem ok_check_world (W : Wd K mg) : Ok P w K mg base 1 "check_world" ["thing"] spWorld := by
  have sc := sc_check_world
  refine Ok.mk' W.F_check_world W.g_check_world sc (fun vs H Q E h => ?_) (fun _ _ _ _ _ _ us hl => match us, hl with | [_], _ => rfl) (fun cdv A outer s H vs Q E hr h => ?_)
  · obtain ⟨far, rfl, _⟩ := h
    rfl
  · obtain ⟨far, rfl, k⟩ := h
    refine ⟨_, (pss_one (ps_if (PW.pt (pw_or (pt_not (pt_val (pe_callB (k_isi K) (by rfl) W.b_isinstance PyProof.Rows.boot_isinstance (pa_cons (pv 0) (pa_cons (pe_bltn (v := .ty "str") (by rfl) W.b_str PyProof.Rows.boot_str rfl) pa_nil))))) (pw_or1 (pt_cmpR (k_ninsq K) (pv 0) (pe_glob (v := .ref (He.ga K "WORLDS")) (by rfl) W.g_WORLDS rfl) (by rfl)))))
      (pss_one ps_never)
      pss_nil)), ?_⟩
    refine ⟨_, rfl, _, _, _, _, _, rfl, .ty _, .base (.str _), kit_ss, ?_⟩
    refine ⟨_, rfl, ?_⟩
    refine iteF ?_
    refine ⟨_, rfl, _, _, rfl, .inr (W.worlds H), by cases far <;> rfl, rfl, ?_⟩
    rw [show inV (.str (wS far)) [.str "boxes", .str "corner"] = true by cases far <;> decide +kernel]
    refine ⟨_, rfl, ?_⟩
    refine iteF ?_
    exact k
def spTime (K : PySem.W.Frag) : Sp := fun vs H Q _ => ∃ (p : Addr) (g : Prg) (far : Bool) (T : Tt), vs = [.ref p, .str (wS far)] ∧ PrgAt K H p g ∧ g.Ok ∧ TtOk g far 4 T ∧
  ∀ v' H' T', Same H H' → TD H' v' (dT T') → TtOk g far 4 T' → Q v' H'
/-! timetable: slots 0 program, 1 world, 2 told, 3 rows, 4 part, 5 inner, 6 row, 7 numbers, 8 table; calls ['G_all_levels', 'G_check_world', 'G_does_work', 'G_levels_of', 'G_numbers_of', 'G_tables_in', 'G_told_of'] -/
abbrev N_timetable : List Str := ["program", "world", "told", "rows", "part", "inner", "row", "numbers", "table"]
theorem sc_timetable : FnScope N_timetable ["program", "world"] (defScope s_timetable) := ⟨rfl, rfl, rfl, by decide +kernel, rfl, by decide +kernel, by decide +kernel⟩
theorem ok_timetable (W : Wd K mg) : Ok P w K mg base 13 "timetable" ["program", "world"] (spTime K) := by
  have sc := sc_timetable
  have G_check_world : Ok P w K mg base 1 "check_world" ["thing"] spWorld := ok_check_world W
  have G_levels_of : Ok P w K mg base 12 "levels_of" ["program", "world"] (spLevels K 4) := ok_levels_of W 4
  have G_does_work : Ok P w K mg base 2 "does_work" ["told"] spWorks := ok_does_work W
  have G_all_levels : Ok P w K mg base 1 "all_levels" ["told"] spAll := ok_all_levels W
  have G_told_of : Ok P w K mg base 6 "told_of" ["program", "lot", "world"] (spTold K) := ok_told_of W
  have G_tables_in : Ok P w K mg base 1 "tables_in" ["program", "lot"] (spTabs K) := ok_tables_in W
  have G_numbers_of : Ok P w K mg base 4 "numbers_of" ["program"] (spNums K) := ok_numbers_of W
  refine Ok.mk' W.F_timetable W.g_timetable sc (fun vs H Q E h => ?_) (fun _ _ _ _ _ _ us hl => match us, hl with | [_, _], _ => rfl) (fun cdv A outer s H vs Q E hr h => ?_)
  · obtain ⟨p, g, far, T, rfl, _⟩ := h
    rfl
  · obtain ⟨p, g, far, T, rfl, PA, gok, tok, k⟩ := h
    have t8 := gok.t8
    refine ⟨_, (pss_cons (ps_expr (pe_c G_check_world (hr.mono (by decide)) (by rfl) (pa_cons (pv 1) pa_nil)))
    (pss_cons (ps_set (i := 2) sc.nd rfl (Or.inl rfl) (pe_c G_levels_of (hr.mono (by decide)) (by rfl) (pa_cons (pv 0) (pa_cons (pv 1) pa_nil))))
    (pss_cons (ps_if (pt_not (pt_val (pe_c G_does_work (hr.mono (by decide)) (by rfl) (pa_cons (pv 2) pa_nil))))
      (pss_one ps_never)
      pss_nil)
    (pss_cons (ps_set (i := 3) sc.nd rfl (Or.inl rfl) (pe_op op_rep (pe_lst (pa_cons (pe_tup pa_nil) pa_nil)) (k_fld K (pv 0) rfl)))
    (pss_cons (ps_for PassesOwn.never rfl (k_pil K (pe_c G_all_levels (hr.mono (by decide)) (by rfl) (pa_cons (pv 2) pa_nil))) (k_tup K rfl (pgs_cons (pg_name (i := 4) sc.nd rfl (Or.inl rfl)) (pgs_cons (pg_name (i := 5) sc.nd rfl (Or.inl rfl)) pgs_nil)))
      (pss_cons (ps_asg (pe_ix (k_ixt K) (pe_c G_told_of (hr.mono (by decide)) (by rfl) (pa_cons (pv 0) (pa_cons (pv 4) (pa_cons (pv 1) pa_nil)))) pe_int (fun _ _ => rfl)) (k_tup K rfl (pgs_cons (pg_name (i := 6) sc.nd rfl (Or.inl rfl)) (pgs_cons (pg_name (i := 7) sc.nd rfl (Or.inl rfl)) pgs_nil))))
      (pss_one (ps_for PassesOwn.never rfl (k_pit K (pe_c G_tables_in (hr.mono (by decide)) (by rfl) (pa_cons (pv 0) (pa_cons (pv 4) pa_nil)))) (pg_name (i := 8) sc.nd rfl (Or.inl rfl))
        (pss_one (ps_asg (pe_op (k_catA K) (pe_ix (k_ixl K) (pv 3) (pv 8) (fun _ _ => rfl)) (pe_tup (pa_cons (pe_tup (pa_cons (pv 6) (pa_cons (pe_ix (k_ixt K) (pv 7) (pv 8) (fun _ _ => rfl)) pa_nil))) pa_nil))) (pg_sub (pv 3) (pv 8) set_list)))))))
    (pss_one (ps_ret (k_tupZip K rfl (pa_cons (pe_c G_numbers_of (hr.mono (by decide)) (by rfl) (pa_cons (pv 0) pa_nil)) (pa_cons (pv 3) pa_nil)) (by rfl) W.b_zip (by rfl) W.b_tuple)))))))), ?_⟩
    refine ⟨_, rfl, far, rfl, ?_⟩
    refine ⟨_, rfl, _, rfl, p, g, far, T, rfl, PA, gok, tok.rise, fun v1 H1 ds ps s1 hv1 lv hps eps => ?_⟩
    have lds : ds.length ≤ 8 := by
      have := parts_len hps gok
      rw [eps, List.length_map] at this
      exact this
    have lb : (bfs 4 ds).length ≤ 100000 := by
      have h1 := bfs_len 4 lv
      have h2 : ds.length * 9 ^ 4 ≤ 8 * 9 ^ 4 := Nat.mul_le_mul_right _ lds
      exact Nat.le_trans h1 (Nat.le_trans h2 (by decide))
    refine ⟨_, rfl, v1, g, far, 4, ds, rfl, hv1, lv, by decide, lb, fun H2 s2 => ?_⟩
    refine ⟨_, rfl, ?_⟩
    refine iteF ?_
    have s12 := s1.trans s2
    have PA2 := PA.mono s12
    obtain ⟨dx, ar, xr, A2⟩ := id PA2
    refine ⟨by show 0 ≤ sizeLine; decide, fun Em hEm => ⟨by show 1 ≤ sizeLine; decide, fun D1 hD1 => ?_⟩⟩
    have s3 : Same H2 (upd (upd H2 Em (.tup [])) D1 (.lst [.ref Em])) := (Same.upd hEm).trans (Same.upd hD1)
    have hE3 : (upd (upd H2 Em (.tup [])) D1 (.lst [.ref Em])) Em = some (.tup []) := by rw [upd_ne (ne_of_none upd_same hD1), upd_same]
    have hD3 : (upd (upd H2 Em (.tup [])) D1 (.lst [.ref Em])) D1 = some (.lst [.ref Em]) := upd_same
    generalize upd (upd H2 Em (.tup [])) D1 (.lst [.ref Em]) = H3 at *
    have A3 := A2.mono s3
    refine ⟨_, rfl, p, _, _, _, _, rfl, A3.hp, W.cl_Program, W.n_Program_tables, pf_tables, ?_⟩
    refine ⟨D1, _, _, rfl, rfl, hD3, by omega, by omega, by rw [sizeLine_eq]; simp; omega, fun R hR => ?_⟩
    rw [rep_one, show ((g.tables : Nat) : Int).toNat = g.tables by omega]
    have s4 : Same H3 (upd H3 R (.lst (List.replicate g.tables (.ref Em)))) := Same.upd hR
    have hR4 : (upd H3 R (.lst (List.replicate g.tables (.ref Em)))) R = some (.lst (List.replicate g.tables (.ref Em))) := upd_same
    generalize upd H3 R (.lst (List.replicate g.tables (.ref Em))) = H4 at *
    have s14 := ((s12.trans s3).trans s4)
    refine ⟨_, rfl, v1, g, far, 4, ds, rfl, hv1.mono (Tsm.of ((s2.trans s3).trans s4)), lv, by decide, lb, fun a H5 s5 ⟨ys, ha, hys⟩ => ?_⟩
    have s15 := s14.trans s5
    have hR5 := s5 _ _ hR4
    have t0 : TDs H5 (List.replicate g.tables (.ref Em)) ((List.range g.tables).map fun t => PyData.tuple ((rowsT g [] t).map dRow)) := by
      have e : ((List.range g.tables).map fun t => PyData.tuple ((rowsT g [] t).map dRow)) = List.replicate g.tables (.tuple []) := by
        rw [List.eq_replicate_iff]
        refine ⟨by simp, fun d hd => ?_⟩
        obtain ⟨t, _, rfl⟩ := List.mem_map.mp hd
        rfl
      rw [e]
      exact TDs.rep (.tup (s5 _ _ (s4 _ _ hE3)) .nil) _
    have lys : ys.length = (bfs 4 ds).length := hys.length
    have naR : a ≠ R := by
      intro e
      subst e
      have e1 := ha.symm.trans hR5
      injection e1 with e1
      injection e1 with e1
      have e2 : ys[0]? = some (.ref Em) := by rw [e1, List.getElem?_replicate, if_pos (by have := gok.t1; omega)]
      obtain ⟨d, e3, e4⟩ := hys.get' e2
      obtain ⟨d', _, nd⟩ := bfs_nd 4 lv d (List.mem_of_getElem? e3)
      cases d' with
      | zero => exact nd
      | succ d' =>
        obtain ⟨cs, _, eD, _⟩ := nd
        rw [eD] at e4
        obtain ⟨q, zs, e5, e6, e7⟩ := e4.tup_inv
        cases e5
        rw [s5 _ _ (s4 _ _ hE3)] at e6
        cases e6
        cases e7
    refine ⟨a, rfl, ⟨_, SqL.of ha⟩, ?_⟩
    refine for_list (K := K) (a := a) (xs := ys) (fun i σ H' => ∃ (v4 v5 v6 v7 v8 : Option V) (xs : List V) (Z : List Zt), σ = [some (.ref p), some (.str (wS far)), some v1, some (.ref R), v4, v5, v6, v7, v8] ∧ (∀ b o, b ≠ R → H5 b = some o → H' b = some o) ∧ H' R = some (.lst xs) ∧
        Z.map (·.1) = (bfs 4 ds).take i ∧ ZOk g far Z ∧ TDs H' xs ((List.range g.tables).map fun t => PyData.tuple ((rowsT g Z t).map dRow)))
      ⟨_, _, _, _, _, _, [], rfl, fun b o _ e => e, hR5, rfl, fun z hz => (by cases hz), t0⟩ (fun i σ H' _ ⟨_, _, _, _, _, _, _, _, s, _⟩ => SqL.of (s _ _ naR ha)) ?_ ?_
    · rintro i x σ H6 hx ⟨v4, v5, v6, v7, v8, xs, Z, rfl, s6, hR6, eZ, zk, hxs⟩
      have tsm6 : Tsm H5 H6 := fun b zs e => s6 _ _ (ne_of e hR5 (by intro z; cases z)) e
      have sH6 : Same H H6 := fun b o e => s6 _ _ (ne_of_none (s14.trans s5 _ _ e |> fun _ => (s12.trans s3) _ _ e) hR) (s15 _ _ e)
      obtain ⟨D, hD, tD⟩ := hys.get' hx
      obtain ⟨d', hd', nd⟩ := bfs_nd 4 lv D (List.mem_of_getElem? hD)
      obtain ⟨cs, eD, lin, ne⟩ : ∃ cs, D = mkD (pD D) cs ∧ LotIn g (pD D) ∧ pD D ≠ [] := by
        cases d' with
        | zero => exact nd.elim
        | succ d' =>
          obtain ⟨cs, _, e, h1, h2, _⟩ := nd
          exact ⟨cs, e, h1, h2⟩
      have tD6 := tD.mono tsm6
      rw [eD] at tD6
      obtain ⟨q, zs, rfl, hq, hzs⟩ := tD6.tup_inv
      cases hzs with | cons hz1 hzs => ?_
      cases hzs with | cons hz2 hzs => ?_
      cases hzs
      rename_i vp vc
      have eT : (bfs 4 ds).take (i + 1) = (bfs 4 ds).take i ++ [D] := by rw [List.take_add_one, hD]; rfl
      refine ⟨q, _, rfl, SqT.of hq, rfl, _, _, rfl, _, _, rfl, rfl, ?_⟩
      refine ⟨_, rfl, _, rfl, _, rfl, p, vp, g, far, pD D, rfl, PA.mono sH6, gok, hz1, lin.1, ne, lin.2.1, lin.2.2, fun v9 H7 kept told row nums s7 KT hv9 => ?_⟩
      obtain ⟨q9, zs9, rfl, hq9, hzs9⟩ := hv9.tup_inv
      cases hzs9 with | cons h91 hzs9 => ?_
      cases hzs9 with | cons h92 hzs9 => ?_
      cases hzs9 with | cons h93 hzs9 => ?_
      cases hzs9
      obtain ⟨q8, zs8, rfl, hq8, hzs8⟩ := h93.tup_inv
      cases hzs8 with | cons h81 hzs8 => ?_
      cases hzs8 with | cons h82 hzs8 => ?_
      cases hzs8
      rename_i vr vn
      obtain ⟨an, rfl, han⟩ := h82.ints
      refine r_c (r_tgetI (j := 2) hq9 rfl rfl ?_)
      refine ⟨q8, _, rfl, SqT.of hq8, rfl, _, _, rfl, _, _, rfl, rfl, ?_⟩
      refine ⟨_, rfl, _, rfl, p, vp, g, pD D, rfl, (PA.mono sH6).mono s7, gok, hz1.mono (Tsm.of s7), lin, fun vt H8 ts s8 hvt asc mem => ?_⟩
      obtain ⟨at_, rfl, hat⟩ := hvt.ints
      have hR8 := s8 _ _ (s7 _ _ hR6)
      have ntR : at_ ≠ R := ne_of hat hR8 (by intro z; cases z)
      have s78 := s7.trans s8
      refine ⟨at_, rfl, ⟨_, SqT.of hat⟩, ?_⟩
      have ndts : ts.Nodup := asc.imp fun h e => by omega
      refine for_tup (K := K) (a := at_) (xs := (nI ts).map V.int) (fun j σ H' => ∃ (v8 : Option V) (xs' : List V), σ = [some (.ref p), some (.str (wS far)), some v1, some (.ref R), some vp, some vc, some vr, some (.ref an), v8] ∧ (∀ b o, b ≠ R → H8 b = some o → H' b = some o) ∧ H' R = some (.lst xs') ∧
          TDs H' xs' ((List.range g.tables).map fun t => PyData.tuple ((rowsT g Z t ++ if t ∈ ts.take j then [(row, nums.getD t 0)] else []).map dRow)))
        ⟨_, xs, rfl, fun b o _ e => e, hR8, ?_⟩ (fun j σ H' _ ⟨_, _, _, s, _⟩ => SqT.of (s _ _ ntR hat)) ?_ ?_
      · have e : ((List.range g.tables).map fun t => PyData.tuple ((rowsT g Z t ++ if t ∈ ts.take 0 then [(row, nums.getD t 0)] else []).map dRow)) = (List.range g.tables).map fun t => PyData.tuple ((rowsT g Z t).map dRow) :=
          List.map_congr_left fun t _ => by rw [List.take_zero, if_neg (by simp), List.append_nil]
        rw [e]
        exact hxs.mono (Tsm.of s78)
      · rintro j x2 σ H9 hx2 ⟨v8', xs', rfl, s9, hR9, hxs'⟩
        obtain ⟨t, ht, rfl⟩ := nats_at hx2
        have htl : t < g.tables := by
          obtain ⟨n, hn, r, hr, h5⟩ := (mem t).mp (List.mem_of_getElem? ht)
          obtain ⟨rx, ry, _⟩ := gok.rd r (List.mem_of_getElem? hr)
          rcases h5 with rfl | rfl
          · exact rx
          · exact ry
        have tsm9 : Tsm H8 H9 := fun b zs e => s9 _ _ (ne_of e hR8 (by intro z; cases z)) e
        have ett : ts.take (j + 1) = ts.take j ++ [t] := by rw [List.take_add_one, ht]; rfl
        have nin : t ∉ ts.take j := fun h => by
          obtain ⟨k', hk', e⟩ := List.mem_take_iff_getElem.mp h
          have hj : j < ts.length := (List.getElem?_eq_some_iff.mp ht).1
          have : ts[k'] = ts[j] := by rw [e]; exact ((List.getElem?_eq_some_iff.mp ht).2).symm
          have := (List.getElem_inj ndts).mp this
          omega
        obtain ⟨vx, hvx, tvx⟩ := hxs'.get (i := t) (d := PyData.tuple ((rowsT g Z t ++ if t ∈ ts.take j then [(row, nums.getD t 0)] else []).map dRow)) (by rw [List.getElem?_map, List.getElem?_range htl]; rfl)
        rw [if_neg nin, List.append_nil] at tvx
        refine ⟨_, rfl, _, rfl, r_lget (j := t) hR9 hvx ?_⟩
        have ln := KT.ln
        have hnt : (nums.map V.int)[t]? = some (.int (nums.getD t 0)) := by
          rw [List.getElem?_map, List.getD_eq_getElem?_getD, List.getElem?_eq_getElem (by omega)]; rfl
        refine ⟨_, rfl, _, rfl, _, rfl, r_tget (j := t) (tsm9 _ _ (s8 _ _ han)) hnt ?_⟩
        refine ⟨by show 2 ≤ sizeLine; decide, fun T1 hT1 => ⟨by show 1 ≤ sizeLine; decide, fun T2 hT2 => ?_⟩⟩
        have sA : Same H9 (upd (upd H9 T1 (.tup [vr, .int (nums.getD t 0)])) T2 (.tup [.ref T1])) := (Same.upd hT1).trans (Same.upd hT2)
        have hA1 : (upd (upd H9 T1 (.tup [vr, .int (nums.getD t 0)])) T2 (.tup [.ref T1])) T1 = some (.tup [vr, .int (nums.getD t 0)]) := by rw [upd_ne (ne_of_none upd_same hT2), upd_same]
        have hA2 : (upd (upd H9 T1 (.tup [vr, .int (nums.getD t 0)])) T2 (.tup [.ref T1])) T2 = some (.tup [.ref T1]) := upd_same
        generalize upd (upd H9 T1 (.tup [vr, .int (nums.getD t 0)])) T2 (.tup [.ref T1]) = HA at *
        have tr : TD HA vr (dI row) := h81.mono fun b zs e => sA _ _ (tsm9 _ _ (s8 _ _ e))
        have t2 : TD HA (.ref T2) (.tuple [dRow (row, nums.getD t 0)]) := .tup hA2 (.cons (.tup hA1 (.cons tr (.cons (.int _) .nil))) .nil)
        refine r_catD (K := K) (tvx.mono (Tsm.of sA)) t2 ?_ fun v' HB sB hv' => ?_
        · have h1 : (rowsT g Z t).length ≤ Z.length := by
            unfold rowsT
            rw [List.length_map]
            exact List.length_filter_le ..
          have h2 : Z.length = ((bfs 4 ds).take i).length := by rw [← eZ, List.length_map]
          rw [List.length_take] at h2
          have h3 : i < ys.length := (List.getElem?_eq_some_iff.mp hx).1
          rw [List.length_map, List.length_singleton]
          omega
        have sAB := sA.trans sB
        refine ⟨_, rfl, _, rfl, ?_⟩
        refine ⟨R, xs', _, t, rfl, rfl, sAB _ _ hR9, ?_, ?_⟩
        · unfold ixN
          have lx : xs'.length = g.tables := by rw [hxs'.length]; simp
          rw [if_pos (by omega), if_pos (by omega)]
          congr 1
        · have tsmC : Tsm HB (upd HB R (.lst (xs'.set t v'))) := fun b zs e => by rw [upd_ne (ne_of e (sAB _ _ hR9) (by intro z; cases z))]; exact e
          refine ⟨_, _, rfl, fun b o n e => by rw [upd_ne n]; exact sAB _ _ (s9 _ _ n e), upd_same, ?_⟩
          have e : ((List.range g.tables).map fun u => PyData.tuple ((rowsT g Z u ++ if u ∈ ts.take (j + 1) then [(row, nums.getD u 0)] else []).map dRow)) = ((List.range g.tables).map fun u => PyData.tuple ((rowsT g Z u ++ if u ∈ ts.take j then [(row, nums.getD u 0)] else []).map dRow)).set t (.tuple ((rowsT g Z t).map dRow ++ [dRow (row, nums.getD t 0)])) := by
            apply List.ext_getElem?
            intro u
            rw [List.getElem?_set, List.getElem?_map, List.getElem?_map]
            by_cases hu : u < g.tables
            · rw [List.getElem?_range hu]
              by_cases z : t = u
              · subst z
                rw [if_pos rfl, if_pos (by simpa using hu)]
                show some (PyData.tuple ((rowsT g Z t ++ if t ∈ ts.take (j + 1) then [(row, nums.getD t 0)] else []).map dRow)) = some (PyData.tuple ((rowsT g Z t).map dRow ++ [dRow (row, nums.getD t 0)]))
                rw [ett, if_pos (List.mem_append_right _ (List.mem_singleton.mpr rfl)), List.map_append]; rfl
              · rw [if_neg z]
                show some (PyData.tuple ((rowsT g Z u ++ if u ∈ ts.take (j + 1) then [(row, nums.getD u 0)] else []).map dRow)) = some (PyData.tuple ((rowsT g Z u ++ if u ∈ ts.take j then [(row, nums.getD u 0)] else []).map dRow))
                have : (u ∈ ts.take (j + 1)) ↔ u ∈ ts.take j := by
                  rw [ett, List.mem_append, List.mem_singleton]
                  exact ⟨fun h => h.resolve_right fun e => z e.symm, .inl⟩
                by_cases q : u ∈ ts.take j
                · rw [if_pos q, if_pos (this.mpr q)]
                · rw [if_neg q, if_neg (fun h => q (this.mp h))]
            · have n1 : (List.range g.tables)[u]? = none := by rw [List.getElem?_eq_none_iff, List.length_range]; omega
              rw [n1, if_neg (by omega)]; rfl
          rw [e]
          exact TDs.set ((hxs'.mono (Tsm.of sAB)).mono tsmC) _ (hv'.mono tsmC)
      · rintro σ H9 ⟨v8', xs', rfl, s9, hR9, hxs'⟩
        rw [List.length_map, List.length_map, List.take_length] at hxs'
        refine ⟨_, _, _, _, _, xs', Z ++ [(D, row, nums)], rfl, fun b o n e => s9 _ _ n (s78 _ _ (s6 _ _ n e)), hR9, by rw [List.map_append, eZ, eT]; rfl, fun z hz => ?_, ?_⟩
        · rcases List.mem_append.mp hz with hz | hz
          · exact zk z hz
          · rw [List.mem_singleton.mp hz]; exact ⟨kept, KT⟩
        · have e : ((List.range g.tables).map fun t => PyData.tuple ((rowsT g (Z ++ [(D, row, nums)]) t).map dRow)) = (List.range g.tables).map fun t => PyData.tuple ((rowsT g Z t ++ if t ∈ ts then [(row, nums.getD t 0)] else []).map dRow) :=
            List.map_congr_left fun t _ => by
              obtain ⟨q1, q2⟩ := rowsT_snoc (g := g) Z (D, row, nums) t
              by_cases q : t ∈ ts
              · rw [if_pos q, q1 ((mem t).mp q)]
              · rw [if_neg q, q2 (fun h => q ((mem t).mpr h)), List.append_nil]
          rw [e]; exact hxs'
    · rintro σ H6 ⟨v4, v5, v6, v7, v8, xs, Z, rfl, s6, hR6, eZ, zk, hxs⟩
      have tsm6 : Tsm H5 H6 := fun b zs e => s6 _ _ (ne_of e hR5 (by intro z; cases z)) e
      have sH6 : Same H H6 := fun b o e => s6 _ _ (ne_of_none ((s12.trans s3) _ _ e) hR) (s15 _ _ e)
      rw [lys, List.take_length] at eZ
      refine ⟨_, rfl, p, g, rfl, PA.mono sH6, gok, fun an H7 ns s7 han nok => ?_⟩
      refine ⟨_, rfl, ?_⟩
      have hR7 := s7 _ _ hR6
      have lxs : xs.length = g.tables := by rw [hxs.length]; simp
      refine ⟨an, R, _, xs, rfl, SqL.of han, SqL.of hR7, by rw [List.length_map, List.length_map, nok.1, lxs], by rw [List.length_map, List.length_map, nok.1]; omega, fun H8 pt ts s8 hpt lts hts => ?_⟩
      rw [List.length_map, List.length_map, nok.1] at lts
      have hxs8 := hxs.mono (Tsm.of (s7.trans s8))
      obtain ⟨T', hT'⟩ : ∃ T' : Tt, T' = (List.range g.tables).map fun t => (((ns.getD t 0 : Nat) : Int), rowsT g Z t) := ⟨_, rfl⟩
      have at_ : ∀ t, t < g.tables → T'[t]? = some (((ns.getD t 0 : Nat) : Int), rowsT g Z t) := fun t ht => by
        rw [hT', List.getElem?_map, List.getElem?_range ht]; rfl
      have tN' : ∀ t, t < g.tables → tN T' t = ((ns.getD t 0 : Nat) : Int) := fun t ht => by unfold tN; rw [List.getD_eq_getElem?_getD, at_ t ht]; rfl
      have tR' : ∀ t, t < g.tables → tR T' t = rowsT g Z t := fun t ht => by unfold tR; rw [List.getD_eq_getElem?_getD, at_ t ht]; rfl
      have inT : ∀ e ∈ T', ∃ t, t < g.tables ∧ e = (((ns.getD t 0 : Nat) : Int), rowsT g Z t) := fun e he => by
        rw [hT'] at he
        obtain ⟨t, ht, rfl⟩ := List.mem_map.mp he
        exact ⟨t, List.mem_range.mp ht, rfl⟩
      have rowm : ∀ t, ∀ a ∈ rowsT g Z t, ∃ kept row nums, a.1 = row ∧ a.2 = nums.getD t 0 ∧ ∃ q, ToldOk g far q kept row nums := fun t a ha => by
        unfold rowsT at ha
        obtain ⟨z, hz, rfl⟩ := List.mem_map.mp ha
        obtain ⟨kept, KT⟩ := zk z ((List.mem_filter.mp hz).1)
        exact ⟨kept, z.2.1, z.2.2, rfl, rfl, _, KT⟩
      have lT : T'.length = g.tables := by rw [hT']; simp
      refine k _ _ T' ((sH6.trans s7).trans s8) (.tup hpt ?_) ⟨lT, fun e he a ha => ?_, fun e he => ?_, fun r hr => ?_, fun hf e he a ha x hx => ?_, fun e he a ha => ?_⟩
      · refine TDs.of_all (by rw [List.length_map, List.length_map, lts, lT]) fun i v d h1 h2 => ?_
        rw [List.getElem?_map] at h1 h2
        have hi : i < g.tables := by
          have := (List.getElem?_eq_some_iff.mp (by rw [← List.getElem?_map] at h1; exact h1)).1
          rw [List.length_map] at this
          omega
        obtain ⟨b, hb⟩ : ∃ b, ts[i]? = some b := ⟨_, List.getElem?_eq_getElem (by omega)⟩
        rw [hb] at h1
        cases h1
        rw [at_ i hi] at h2
        cases h2
        obtain ⟨y, hy, ty⟩ := hxs8.get (i := i) (d := PyData.tuple ((rowsT g Z i).map dRow)) (by rw [List.getElem?_map, List.getElem?_range hi]; rfl)
        have hp := hts i b (.int ((ns.getD i 0 : Nat) : Int)) y hb (nI_at (by rw [nok.1]; exact hi)) hy
        exact .tup hp (.cons (.int _) (.cons ty .nil))
      · obtain ⟨t, ht, rfl⟩ := inT e he
        obtain ⟨_, row, _, e1, _, _, KT⟩ := rowm t a ha
        rw [e1]; exact KT.lr
      · obtain ⟨t, ht, rfl⟩ := inT e he
        exact rows_len 4 lv eZ t
      · obtain ⟨rx, ry, _⟩ := gok.rd r hr
        obtain ⟨n1, n2⟩ := nok.2.2 r hr
        obtain ⟨n, hn, rfl⟩ := List.mem_iff_getElem.mp hr
        have hr2 : g.rs[n]? = some g.rs[n] := List.getElem?_eq_getElem hn
        unfold lateB
        rw [tN' _ rx, tN' _ ry, tR' _ rx, tR' _ ry]
        by_cases m : Mut2 g (allR g) g.rs[n].x g.rs[n].y
        · rw [n1 m, if_neg (by intro z; exact z rfl)]
          have hc : Cyc g (List.range g.rs.length) n := ⟨_, hr2, by
            rcases m with h | ⟨_, h⟩
            · exact .inr h.symm
            · exact .inl h⟩
          obtain ⟨q, hq, hnq⟩ := parts_cov hps (List.mem_range.mpr hn) hc
          rw [eps] at hq
          obtain ⟨D, hD, rfl⟩ := List.mem_map.mp hq
          exact rows_late gok 4 lv eZ zk hD hnq hr2
        · have := n2 m
          rw [if_pos (by omega)]
          exact decide_eq_true (by omega)
      · obtain ⟨t, ht, rfl⟩ := inT e he
        obtain ⟨_, row, _, e1, _, _, KT⟩ := rowm t a ha
        rw [e1] at hx
        exact KT.farp hf x hx
      · obtain ⟨t, ht, rfl⟩ := inT e he
        obtain ⟨_, row, nums, e1, e2, _, KT⟩ := rowm t a ha
        refine ⟨?_, fun x hx => ?_⟩
        · rw [e2]
          rw [List.getD_eq_getElem?_getD, List.getElem?_eq_getElem (by rw [KT.ln]; exact ht)]
          exact KT.bn _ (List.getElem_mem _)
        · rw [e1] at hx
          exact KT.br x hx
end
end TN
set_option Elab.async false
set_option linter.all false
set_option maxRecDepth 100000
set_option maxHeartbeats 4000000
/-! W25: next of a zip of two tuples, whatever became of the tuple it gave out last. -/
namespace TZ
open PySem PySem.W
/-- how a zip of two tuples stands: its own record, the pair of its iterators, the pair it keeps, its iterators at the places j and k -/
structure ZAt (h : Heap) (z TI TO i1 i2 l1 l2 : Addr) (f0 a b : Value) (j k : Nat) : Prop where
  own : ∃ f : Bool, h.get? z = some { cls := .type "zip", dict := none, data := .fields #[f0, .bool f, .bool false, .ref TI, .ref TO], slots := #[] }
  its : IsPair h TI (.ref i1) (.ref i2)
  out : IsPair h TO a b
  at1 : h.IsTupleIter i1 l1 j
  at2 : h.IsTupleIter i2 l2 k
/-- all beside the cells that a zip writes is kept -/
def Kz (z TO i1 i2 : Addr) (h h' : Heap) : Prop := ∀ c o, c ≠ z → c ≠ TO → c ≠ i1 → c ≠ i2 → h.get? c = some o → h'.get? c = some o
section
variable {h h' h2 : Heap} {z TI TO i1 i2 l1 l2 : Addr} {f0 f1 a b a' b' : Value} {j k n : Nat}
theorem Kz.of {c : Addr} (s : Heap.SameBut c h h') (hc : c = z ∨ c = TO ∨ c = i1 ∨ c = i2) : Kz z TO i1 i2 h h' := fun x o n1 n2 n3 n4 e => s.extBut _ _ (by rcases hc with rfl | rfl | rfl | rfl <;> assumption) e
theorem Kz.trans (p : Kz z TO i1 i2 h h') (q : Kz z TO i1 i2 h' h2) : Kz z TO i1 i2 h h2 := fun x o n1 n2 n3 n4 e => q x o n1 n2 n3 n4 (p x o n1 n2 n3 n4 e)
theorem Kz.push {o : Obj} (p : Kz z TO i1 i2 h h') : Kz z TO i1 i2 h (h'.push o) := fun x u n1 n2 n3 n4 e => Heap.get?_push_of_some _ (p x u n1 n2 n3 n4 e)
theorem ZAt.all (m : ZAt h z TI TO i1 i2 l1 l2 f0 a b j k) (s : ∀ c o, c = z ∨ c = TI ∨ c = TO ∨ c = i1 ∨ c = i2 → h.get? c = some o → h'.get? c = some o) : ZAt h' z TI TO i1 i2 l1 l2 f0 a b j k :=
  ⟨m.own.imp fun _ e => s z _ (by simp) e, s TI _ (by simp) m.its, s TO _ (by simp) m.out, m.at1.at fun o e => s i1 o (by simp) e, m.at2.at fun o e => s i2 o (by simp) e⟩
theorem ZAt.ofZ (D : ZipApart z TI TO i1 i2 l1 l2) (m : ZAt h z TI TO i1 i2 l1 l2 f0 a b j k) (s : Heap.SameBut z h h') (r : ∃ f : Bool, h'.get? z = some { cls := .type "zip", dict := none, data := .fields #[f1, .bool f, .bool false, .ref TI, .ref TO], slots := #[] }) : ZAt h' z TI TO i1 i2 l1 l2 f1 a b j k :=
  ⟨r, s.extBut _ _ D.TIz m.its, s.extBut _ _ D.TOz m.out, m.at1.extBut s.extBut D.i1z, m.at2.extBut s.extBut D.i2z⟩
theorem ZAt.ofO (D : ZipApart z TI TO i1 i2 l1 l2) (m : ZAt h z TI TO i1 i2 l1 l2 f0 a b j k) (s : Heap.SameBut TO h h') (r : IsPair h' TO a' b') : ZAt h' z TI TO i1 i2 l1 l2 f0 a' b' j k :=
  ⟨m.own.imp fun _ e => s.extBut _ _ D.TOz.symm e, s.extBut _ _ D.TITO m.its, r, m.at1.extBut s.extBut D.TOi1.symm, m.at2.extBut s.extBut D.TOi2.symm⟩
theorem ZAt.of1 (D : ZipApart z TI TO i1 i2 l1 l2) (m : ZAt h z TI TO i1 i2 l1 l2 f0 a b j k) (s : Heap.SameBut i1 h h') (r : h'.IsTupleIter i1 l1 n) : ZAt h' z TI TO i1 i2 l1 l2 f0 a b n k :=
  ⟨m.own.imp fun _ e => s.extBut _ _ D.i1z.symm e, s.extBut _ _ D.TIi1 m.its, s.extBut _ _ D.TOi1 m.out, r, m.at2.extBut s.extBut D.i12.symm⟩
theorem ZAt.of2 (D : ZipApart z TI TO i1 i2 l1 l2) (m : ZAt h z TI TO i1 i2 l1 l2 f0 a b j k) (s : Heap.SameBut i2 h h') (r : h'.IsTupleIter i2 l2 n) : ZAt h' z TI TO i1 i2 l1 l2 f0 a b j n :=
  ⟨m.own.imp fun _ e => s.extBut _ _ D.i2z.symm e, s.extBut _ _ D.TIi2 m.its, s.extBut _ _ D.TOi2 m.out, m.at1.extBut s.extBut D.i12, r⟩
end
section
variable {prog : Program} {w : World} {A : Around} {E : Value → Shared → Prop} {s : Shared} {z TI TO i1 i2 l1 l2 : Addr} {f0 a b : Value} {j k : Nat}
theorem alive_any {c : Addr} {Q : Option Obj → Shared → Prop} (h : ∀ o, Q o s) : wpAny (model prog w) A (loadIfAlive c) Q E s := fun _ _ _ => h _
/-- is the tuple last given out free: either answer may come, the zip stands as it stood -/
theorem owned_look {Q : Bool → Shared → Prop} (D : ZipApart z TI TO i1 i2 l1 l2) (m : ZAt s.heap z TI TO i1 i2 l1 l2 f0 a b j k) (hf : f0 = .none ∨ ∃ T : Addr, f0 = rawInt T)
    (go : ∀ (u : Bool) (h' : Heap), ZAt h' z TI TO i1 i2 l1 l2 f0 a b j k → Kz z TO i1 i2 s.heap h' → h'.objs.size = s.heap.objs.size → Q u { s with heap := h' }) :
    wpAny (model prog w) A (Builtin.SmallTypes.ownedTupleIsFree (.ref z)) Q E s := by
  obtain ⟨f, r⟩ := m.own
  obtain ⟨hp, g, d, tk, os⟩ := s
  have stay : ∀ u, Q u ⟨hp, g, d, tk, os⟩ := fun u => go u hp m (fun _ _ _ _ _ _ e => e) rfl
  rcases hf with rfl | ⟨T, rfl⟩
  · wp_walk
    exact stay _
  · wp_walk using alive_any
    intro o
    cases o with
    | none =>
      simp only [Option.isNone_none, if_true]
      wp_walk
      exact stay _
    | some o =>
      cases f with
      | true =>
        simp only [Option.isNone_some]
        wp_walk
        exact stay _
      | false =>
        simp only [Option.isNone_some]
        wp_walk
        exact go false _ (m.ofZ D (Heap.SameBut.update ..) ⟨true, Heap.get?_update_self _ r rfl⟩) (Kz.of (Heap.SameBut.update ..) (.inl rfl)) (Heap.SameBut.update ..).1
/-- a stop for the walker: at a draw, at a write -/
def Held (p : Prop) : Prop := p
theorem at_next {v : Value} {Q : Value → Shared → Prop} (h : Held (wpAny (model prog w) A (Builtin.SmallTypes.nextOf v) Q E s)) : wpAny (model prog w) A (Builtin.SmallTypes.nextOf v) Q E s := h
theorem at_set {v x : Value} {n : Nat} {Q : Unit → Shared → Prop} (h : Held (wpAny (model prog w) A (setField v n x) Q E s)) : wpAny (model prog w) A (setField v n x) Q E s := h
theorem at_seq {c : Addr} {g : Array Value → Array Value} {Q : Unit → Shared → Prop} (h : Held (wpAny (model prog w) A (updateSeq c g) Q E s)) : wpAny (model prog w) A (updateSeq c g) Q E s := h
theorem Kz.tup1 {h h' : Heap} {xs : Array Value} (D : ZipApart z TI TO i1 i2 l1 l2) (p : Kz z TO i1 i2 h h') (t : h.IsTuple l1 xs) : h'.IsTuple l1 xs := t.at fun o e => p l1 o D.l1z D.l1TO D.l1i1 D.l1i2 e
theorem Kz.tup2 {h h' : Heap} {ys : Array Value} (D : ZipApart z TI TO i1 i2 l1 l2) (p : Kz z TO i1 i2 h h') (t : h.IsTuple l2 ys) : h'.IsTuple l2 ys := t.at fun o e => p l2 o D.l2z D.l2TO D.l2i1 D.l2i2 e
theorem draw1 {xs : Array Value} {x : Value} {Q : Value → Shared → Prop} (D : ZipApart z TI TO i1 i2 l1 l2) (m : ZAt s.heap z TI TO i1 i2 l1 l2 f0 a b j k) (t : s.heap.IsTuple l1 xs) (hx : xs[j]? = some x)
    (go : ∀ h', ZAt h' z TI TO i1 i2 l1 l2 f0 a b (j + 1) k → Kz z TO i1 i2 s.heap h' → h'.objs.size = s.heap.objs.size → Q x { s with heap := h' }) : wpAny (model prog w) A (Builtin.SmallTypes.nextOf (.ref i1)) Q E s :=
  RZ.nextOf_tuple_item m.at1 t hx fun h' r u => go h' (m.of1 D u r) (Kz.of u (by simp)) u.1
theorem draw2 {ys : Array Value} {y : Value} {Q : Value → Shared → Prop} (D : ZipApart z TI TO i1 i2 l1 l2) (m : ZAt s.heap z TI TO i1 i2 l1 l2 f0 a b j k) (t : s.heap.IsTuple l2 ys) (hy : ys[k]? = some y)
    (go : ∀ h', ZAt h' z TI TO i1 i2 l1 l2 f0 a b j (k + 1) → Kz z TO i1 i2 s.heap h' → h'.objs.size = s.heap.objs.size → Q y { s with heap := h' }) : wpAny (model prog w) A (Builtin.SmallTypes.nextOf (.ref i2)) Q E s :=
  RZ.nextOf_tuple_item m.at2 t hy fun h' r u => go h' (m.of2 D u r) (Kz.of u (by simp)) u.1
theorem set_first {v : Value} {Q : Unit → Shared → Prop} (D : ZipApart z TI TO i1 i2 l1 l2) (m : ZAt s.heap z TI TO i1 i2 l1 l2 f0 a b j k)
    (go : ∀ h', ZAt h' z TI TO i1 i2 l1 l2 v a b j k → Kz z TO i1 i2 s.heap h' → h'.objs.size = s.heap.objs.size → Q () { s with heap := h' }) : wpAny (model prog w) A (setField (.ref z) 0 v) Q E s := by
  obtain ⟨f, r⟩ := m.own
  exact wpAny_setField_rec r (by simp) fun h' r' u => go h' (m.ofZ D u ⟨f, r'⟩) (Kz.of u (by simp)) u.1
theorem set_flag {v : Bool} {Q : Unit → Shared → Prop} (D : ZipApart z TI TO i1 i2 l1 l2) (m : ZAt s.heap z TI TO i1 i2 l1 l2 f0 a b j k)
    (go : ∀ h', ZAt h' z TI TO i1 i2 l1 l2 f0 a b j k → Kz z TO i1 i2 s.heap h' → h'.objs.size = s.heap.objs.size → Q () { s with heap := h' }) : wpAny (model prog w) A (setField (.ref z) 1 (.bool v)) Q E s := by
  obtain ⟨f, r⟩ := m.own
  exact wpAny_setField_rec r (by simp) fun h' r' u => go h' (m.ofZ D u ⟨v, r'⟩) (Kz.of u (by simp)) u.1
theorem put_out {n : Nat} {x : Value} {Q : Unit → Shared → Prop} (D : ZipApart z TI TO i1 i2 l1 l2) (m : ZAt s.heap z TI TO i1 i2 l1 l2 f0 a b j k) (hn : n = 0 ∨ n = 1)
    (go : ∀ h', ZAt h' z TI TO i1 i2 l1 l2 f0 (if n = 0 then x else a) (if n = 0 then b else x) j k → Kz z TO i1 i2 s.heap h' → h'.objs.size = s.heap.objs.size → Q () { s with heap := h' }) :
    wpAny (model prog w) A (updateSeq TO (·.setIfInBounds n x)) Q E s :=
  wpAny_updateSeq_pair m.out fun h' r u => go h' (m.ofO D u (by rcases hn with rfl | rfl <;> exact r)) (Kz.of u (by simp)) u.1
/-- the tuple made of the two items is handed out -/
theorem made {h : Heap} {x y : Value} (m : ZAt h z TI TO i1 i2 l1 l2 f0 a b j k) : ZAt (h.push { cls := .type "tuple", data := .seq #[x, y] }) z TI TO i1 i2 l1 l2 f0 a b j k := m.all fun _ _ _ e => Heap.get?_push_of_some _ e
theorem ZAt.fresh {h : Heap} (m : ZAt h z TI TO i1 i2 l1 l2 f0 a b j k) : h.objs.size ≠ z ∧ h.objs.size ≠ TO ∧ h.objs.size ≠ i1 ∧ h.objs.size ≠ i2 := by
  have lt : ∀ {c : Addr} {o : Obj}, h.get? c = some o → h.objs.size ≠ c := fun e => Nat.ne_of_gt (Heap.lt_size e)
  obtain ⟨_, e0⟩ := m.own
  obtain ⟨_, e1, _⟩ := m.at1
  obtain ⟨_, e2, _⟩ := m.at2
  exact ⟨lt e0, lt m.out, lt e1, lt e2⟩
theorem Kz.ofE {h h' : Heap} {c : Addr} (u : Heap.ExtBut c h h') (hc : c = z ∨ c = TO ∨ c = i1 ∨ c = i2) : Kz z TO i1 i2 h h' := fun x o n1 n2 n3 n4 e => u _ _ (by rcases hc with rfl | rfl | rfl | rfl <;> assumption) e
/-- after a draw that raised: the zip's first field is emptied, the exception stands -/
theorem drop_first {x : Addr} {Q : Unit → Shared → Prop} (own : ∃ f : Bool, s.heap.get? z = some { cls := .type "zip", dict := none, data := .fields #[f0, .bool f, .bool false, .ref TI, .ref TO], slots := #[] })
    (he : ∃ o, s.heap.get? x = some o ∧ o.cls = .type "StopIteration") (go : ∀ h', Heap.SameBut z s.heap h' → (∃ o, h'.get? x = some o ∧ o.cls = .type "StopIteration") → Q () { s with heap := h' }) :
    wpAny (model prog w) A (setField (.ref z) 0 .none) Q E s := by
  obtain ⟨f, r⟩ := own
  obtain ⟨o, ho, hc⟩ := he
  refine wpAny_setField_rec r (by simp) fun h' _ u => go h' u ⟨o, u.extBut _ _ (fun q => ?_) ho, hc⟩
  subst q
  cases r.symm.trans ho
  simp at hc
/-- next(zip) where both tuples have an item yet -/
theorem zip_item {xs ys : Array Value} {x y : Value} {Q : Value → Shared → Prop} (D : ZipApart z TI TO i1 i2 l1 l2) (m : ZAt s.heap z TI TO i1 i2 l1 l2 f0 a b k k) (hf : f0 = .none ∨ ∃ T : Addr, f0 = rawInt T)
    (hl1 : s.heap.IsTuple l1 xs) (hl2 : s.heap.IsTuple l2 ys) (hx : xs[k]? = some x) (hy : ys[k]? = some y)
    (go : ∀ h' f1 a' b', ZAt h' z TI TO i1 i2 l1 l2 f1 a' b' (k + 1) (k + 1) → (f1 = .none ∨ ∃ T : Addr, f1 = rawInt T) → IsPair h' s.heap.objs.size x y → h'.objs.size = s.heap.objs.size + 1 → Kz z TO i1 i2 s.heap h' →
      Q (.ref s.heap.objs.size) { s with heap := h' }) : wpAny (model prog w) A (Builtin.SmallTypes.nextOf (.ref z)) Q E s := by
  obtain ⟨f, r⟩ := m.own
  have ty : s.TypeIs (.ref z) "zip" := ⟨_, r, rfl⟩
  unfold Builtin.SmallTypes.nextOf
  refine wpAny_bind (wpAny_callSpecial?_slot (name := Str.ofString "__next__") ty F.slot_zip_next (wpAny_call_entry F.slot_zip_next ty F.entry_zip_next ?_ (F.args_zip_next_1 _)))
  obtain ⟨hp, g, d, tk, os⟩ := s
  have e1 : hp.get? TI = some { cls := .type "tuple", data := .seq #[.ref i1, .ref i2] } := m.its
  have e2 : hp.get? z = some { cls := .type "zip", dict := none, data := .fields #[f0, .bool f, .bool false, .ref TI, .ref TO], slots := #[] } := r
  wp_walk using (owned_look (s := ⟨hp, g, d, tk, os⟩) D m hf)
  intro u h1 m1 k1 z1
  cases u with
  | false =>
    wp_walk using at_next
    refine draw1 (s := ⟨h1, g, d, tk, os⟩) D m1 (k1.tup1 D hl1) hx fun h2 m2 k2 z2 => ?_
    wp_walk using at_next
    refine draw2 (s := ⟨h2, g, d, tk, os⟩) D m2 ((k1.trans k2).tup2 D hl2) hy fun h3 m3 k3 z3 => ?_
    wp_walk
    refine ⟨_, rfl, wpAny_pure ?_⟩
    have ez : h3.objs.size = hp.objs.size := z3.trans (z2.trans z1)
    show Q (.ref h3.objs.size) ⟨h3.push { cls := .type "tuple", data := .seq #[x, y] }, g, d, tk, os⟩
    rw [ez]
    exact go _ f0 a b (made m3) hf (by rw [← ez]; exact Heap.get?_push_size _ rfl) (by rw [Heap.size_push, ez]) ((k1.trans k2).trans k3).push
  | true =>
    obtain ⟨fu, r1⟩ := m1.own
    wp_walk using at_next, at_set, at_seq, wpAny_onRaise
    refine set_first (s := ⟨h1, g, d, tk, os⟩) D m1 fun h2 m2 k2 z2 => ?_
    wp_walk using at_next, at_set, at_seq, wpAny_onRaise
    refine draw1 (s := ⟨h2, g, d, tk, os⟩) D m2 ((k1.trans k2).tup1 D hl1) hx fun h3 m3 k3 z3 => ?_
    have o3 := m3.out
    wp_walk using at_next, at_set, at_seq, wpAny_onRaise
    refine put_out (n := 0) (x := x) (s := ⟨h3, g, d, tk, os⟩) D m3 (.inl rfl) fun h4 m4 k4 z4 => ?_
    wp_walk using at_next, at_set, at_seq, wpAny_onRaise
    refine draw2 (s := ⟨h4, g, d, tk, os⟩) D m4 ((((k1.trans k2).trans k3).trans k4).tup2 D hl2) hy fun h5 m5 k5 z5 => ?_
    have o5 := m5.out
    wp_walk using at_next, at_set, at_seq, wpAny_onRaise
    refine put_out (n := 1) (x := y) (s := ⟨h5, g, d, tk, os⟩) D m5 (.inr rfl) fun h6 m6 k6 z6 => ?_
    have o6 := m6.out
    wp_walk using at_next, at_set, at_seq, wpAny_onRaise
    refine set_first (s := ⟨h6.push { cls := .type "tuple", data := .seq #[x, y] }, g, d, tk, os⟩) D (made m6) fun h7 m7 k7 z7 => ?_
    wp_walk using at_set
    refine set_flag (s := ⟨h7, g, d, tk, os⟩) D m7 fun h8 m8 k8 z8 => ?_
    wp_walk
    refine ⟨_, rfl, wpAny_pure ?_⟩
    have ez : h6.objs.size = hp.objs.size := z6.trans (z5.trans (z4.trans (z3.trans (z2.trans z1))))
    have ez8 : h8.objs.size = h6.objs.size + 1 := z8.trans (z7.trans (Heap.size_push ..))
    obtain ⟨n1, n2, n3, n4⟩ := m6.fresh
    have pr : IsPair h8 h6.objs.size x y := (k7.trans k8) _ _ n1 n2 n3 n4 (Heap.get?_push_size _ rfl)
    have kk : Kz z TO i1 i2 hp h8 := ((((((k1.trans k2).trans k3).trans k4).trans k5).trans k6).push.trans k7).trans k8
    show Q (.ref h6.objs.size) ⟨h8, g, d, tk, os⟩
    rw [ez] at pr ez8 ⊢
    exact go h8 _ _ _ m8 (.inr ⟨_, rfl⟩) pr ez8 kk
/-- next(zip) where one of the tuples is at its end -/
theorem zip_end {xs ys : Array Value} {Q : Value → Shared → Prop} (hh : A.handled = none) (D : ZipApart z TI TO i1 i2 l1 l2) (m : ZAt s.heap z TI TO i1 i2 l1 l2 f0 a b k k) (hf : f0 = .none ∨ ∃ T : Addr, f0 = rawInt T)
    (hl1 : s.heap.IsTuple l1 xs) (hl2 : s.heap.IsTuple l2 ys) (hend : xs[k]? = none ∨ ys[k]? = none)
    (go : ∀ h' e, Kz z TO i1 i2 s.heap h' → (∃ o, h'.get? e = some o ∧ o.cls = .type "StopIteration") → E (.ref e) { s with heap := h' }) : wpAny (model prog w) A (Builtin.SmallTypes.nextOf (.ref z)) Q E s := by
  obtain ⟨f, r⟩ := m.own
  have ty : s.TypeIs (.ref z) "zip" := ⟨_, r, rfl⟩
  unfold Builtin.SmallTypes.nextOf
  refine wpAny_bind (wpAny_callSpecial?_slot (name := Str.ofString "__next__") ty F.slot_zip_next (wpAny_call_entry F.slot_zip_next ty F.entry_zip_next ?_ (F.args_zip_next_1 _)))
  obtain ⟨hp, g, d, tk, os⟩ := s
  have e1 : hp.get? TI = some { cls := .type "tuple", data := .seq #[.ref i1, .ref i2] } := m.its
  have e2 : hp.get? z = some { cls := .type "zip", dict := none, data := .fields #[f0, .bool f, .bool false, .ref TI, .ref TO], slots := #[] } := r
  wp_walk using (owned_look (s := ⟨hp, g, d, tk, os⟩) D m hf)
  intro u h1 m1 k1 z1
  cases u with
  | false =>
    wp_walk using at_next
    cases hx : xs[k]? with
    | none => exact RZ.nextOf_tuple_end (s := ⟨h1, g, d, tk, os⟩) hh m1.at1 (k1.tup1 D hl1) hx fun h2 e u he => go h2 e (k1.trans (Kz.ofE u (by simp))) he
    | some x =>
      have hy : ys[k]? = none := hend.resolve_left (by rw [hx]; simp)
      refine draw1 (s := ⟨h1, g, d, tk, os⟩) D m1 (k1.tup1 D hl1) hx fun h2 m2 k2 z2 => ?_
      wp_walk using at_next
      exact RZ.nextOf_tuple_end (s := ⟨h2, g, d, tk, os⟩) hh m2.at2 ((k1.trans k2).tup2 D hl2) hy fun h3 e u he => go h3 e ((k1.trans k2).trans (Kz.ofE u (by simp))) he
  | true =>
    obtain ⟨fu, r1⟩ := m1.own
    wp_walk using at_next, at_set, at_seq, wpAny_onRaise
    refine set_first (s := ⟨h1, g, d, tk, os⟩) D m1 fun h2 m2 k2 z2 => ?_
    wp_walk using at_next, at_set, at_seq, wpAny_onRaise
    cases hx : xs[k]? with
    | none =>
      refine RZ.nextOf_tuple_end (s := ⟨h2, g, d, tk, os⟩) hh m2.at1 ((k1.trans k2).tup1 D hl1) hx fun h3 e u he => ?_
      exact drop_first (s := ⟨h3, g, d, tk, os⟩) (m2.own.imp fun _ e => u _ _ D.i1z.symm e) he fun h4 u4 he4 => go h4 e (((k1.trans k2).trans (Kz.ofE u (by simp))).trans (Kz.of u4 (by simp))) he4
    | some x =>
      have hy : ys[k]? = none := hend.resolve_left (by rw [hx]; simp)
      refine draw1 (s := ⟨h2, g, d, tk, os⟩) D m2 ((k1.trans k2).tup1 D hl1) hx fun h3 m3 k3 z3 => ?_
      have o3 := m3.out
      wp_walk using at_next, at_set, at_seq, wpAny_onRaise
      refine put_out (n := 0) (x := x) (s := ⟨h3, g, d, tk, os⟩) D m3 (.inl rfl) fun h4 m4 k4 z4 => ?_
      wp_walk using at_next, at_set, at_seq, wpAny_onRaise
      have k14 := ((k1.trans k2).trans k3).trans k4
      refine RZ.nextOf_tuple_end (s := ⟨h4, g, d, tk, os⟩) hh m4.at2 (k14.tup2 D hl2) hy fun h5 e u he => ?_
      exact drop_first (s := ⟨h5, g, d, tk, os⟩) (m4.own.imp fun _ e => u _ _ D.i2z.symm e) he fun h6 u6 he6 => go h6 e ((k14.trans (Kz.ofE u (by simp))).trans (Kz.of u6 (by simp))) he6
end
end TZ
set_option Elab.async false
set_option linter.all false
set_option maxRecDepth 100000
set_option maxHeartbeats 4000000
/-! W26: enumerate over any iterator that is told (Fed); enumerate(tuple), enumerate(zip(tuple, tuple)). -/
namespace TN
open PySem PySem.Spec PyProof.Rows L2
/-- an iterator that another one draws from: its next gives what J yields, and writes cells of fp alone -/
structure Fed (P : Program) (w : World) (K : PySem.W.Frag) (J : It) (fp : List Addr) (it : Addr) (st : Nat → Heap → Prop) : Prop where
  live : ∀ i h, st i h → ∀ b ∈ fp, ∃ o, h.get? b = some o ∧ ∀ v, o.data ≠ .cell v
  keep : ∀ i h h', st i h → (∀ b ∈ fp, ∀ o, h.get? b = some o → h'.get? b = some o) → st i h'
  item : ∀ (X : Cx), X.prog = P → X.w = w → X.K = K → ∀ (A : Around) (i : Nat) (pins : List (Addr × Obj)) (s : Shared) (σ : L2.St) (H : Hp) (Q : Value → Shared → Prop) (E : Value → Shared → Prop),
    L2.Inv X pins σ H s → (∀ b ∈ fp, FpOk X pins H b) → st i s.heap → J.go i H →
    (∀ u x H1 h1, J.yld i H x H1 → RelV x u → L2.Inv X pins σ H1 { s with heap := h1 } → st (i + 1) h1 → (∀ b, b < s.heap.objs.size → H b = none → H1 b = none) → (∀ b o, b ∉ fp → s.heap.get? b = some o → h1.get? b = some o) → Q u { s with heap := h1 }) →
    wpAny (model P w) A (Builtin.SmallTypes.nextOf (.ref it)) Q E s
  done : ∀ (X : Cx), X.prog = P → X.w = w → X.K = K → ∀ (A : Around), A.handled = none → ∀ (i : Nat) (pins : List (Addr × Obj)) (s : Shared) (σ : L2.St) (H : Hp) (Q : Value → Shared → Prop) (E : Value → Shared → Prop),
    L2.Inv X pins σ H s → (∀ b ∈ fp, FpOk X pins H b) → st i s.heap → J.stop i H →
    (∀ h1 e, L2.Inv X pins σ H { s with heap := h1 } → (∃ o, h1.get? e = some o ∧ o.cls = .type "StopIteration") → E (.ref e) { s with heap := h1 }) → wpAny (model P w) A (Builtin.SmallTypes.nextOf (.ref it)) Q E s
/-- what J yields, with its place, in a new pair -/
def ItE (J : It) : It := ⟨J.go, fun i H v H' => ∃ P x H1, J.yld i H x H1 ∧ H1 P = none ∧ v = .ref P ∧ H' = upd H1 P (.tup [.int (i : Nat), x]), J.stop⟩
section
variable {P : Program} {w : World} {K : PySem.W.Frag} {J : It} {fp : List Addr} {it e : Addr} {st : Nat → Heap → Prop} {elts : List Expr} {kk : Nat} {tpos : Pos}
theorem turn_enumOf (D : Fed P w K J fp it st) (hit : it ∈ fp) (hne : e ∉ fp) : Turn P w K (.Tuple elts kk tpos) (ItE J) (e :: fp) e (fun i h => (∃ old, IsEnum h e it (i : Int) old) ∧ st i h) where
  mem := List.mem_cons_self
  obj := fun i h ⟨⟨old, q⟩, s⟩ b hb => by
    rcases List.mem_cons.mp hb with rfl | hb
    · exact ⟨_, q, fun v z => nomatch z⟩
    · exact D.live i h s b hb
  keep := fun i h h' ⟨⟨old, q⟩, s⟩ k => ⟨⟨old, k e List.mem_cons_self _ q⟩, D.keep i h h' s fun b hb => k b (List.mem_cons_of_mem _ hb)⟩
  item := by
    intro X hP hw hK hc i pins s σ H E I hf ⟨⟨old, q⟩, z⟩ hg
    subst hP hw hK
    have ty : s.TypeIs (.ref e) "enumerate" := ⟨_, q, rfl⟩
    have le : e < s.heap.objs.size := Heap.lt_size q
    unfold pyNext
    refine wpAny_bind (wpAny_attempt (wpAny_callSpecial?_slot (name := Str.ofString "__next__") ty F.slot_enumerate_next (wpAny_call_entry F.slot_enumerate_next ty F.entry_enumerate_next ?_ (F.args_enumerate_next_1 _))))
    obtain ⟨hp, g, d, tk, os⟩ := s
    wp_walk using TZ.at_next
    refine D.item X rfl rfl rfl _ i pins ⟨hp, g, d, tk, os⟩ σ H _ _ I (fun b hb => hf b (List.mem_cons_of_mem _ hb)) z hg fun u x H1 h1 y ru I1 z1 low k1 => ?_
    have q1 := k1 e _ hne q
    wp_walk using TZ.at_set
    refine wpAny_setField_rec (s := ⟨h1, g, d, tk + 1, os⟩) q1 (by simp) fun h2 q2 u2 => ?_
    replace q2 : IsEnum h2 e it ((i : Int) + 1) old := q2
    wp_walk using TZ.at_set
    refine wpAny_setField_rec (s := ⟨h2, g, d, tk + 1, os⟩) q2 (by simp) fun h3 q3 u3 => ?_
    replace q3 : IsEnum h3 e it ((i : Int) + 1) old := q3
    wp_walk using TZ.at_set
    have q4 : IsEnum (h3.push { cls := .type "tuple", data := .seq #[.int i tk, u] }) e it ((i : Int) + 1) old := Heap.get?_push_of_some _ q3
    refine wpAny_setField_rec (s := ⟨h3.push { cls := .type "tuple", data := .seq #[.int i tk, u] }, g, d, tk + 1, os⟩) q4 (by simp) fun h5 q5 u5 => ?_
    replace q5 : IsEnum h5 e it ((i : Int) + 1) u := q5
    wp_walk using TZ.at_set
    refine wpAny_setField_rec (s := ⟨h5, g, d, tk + 1, os⟩) q5 (by simp) fun h6 q6 u6 => ?_
    replace q6 : IsEnumOut h6 e it ((i : Int) + 1) u h3.objs.size := q6
    wp_walk using TZ.at_set
    refine wpAny_setField_rec (s := ⟨h6, g, d, tk + 1, os⟩) q6 (by simp) fun h7 q7 u7 => ?_
    replace q7 : IsEnumOut h7 e it ((i : Int) + 1) u h3.objs.size := q7
    wp_walk
    refine ⟨_, rfl, wpAny_pure ⟨_, rfl, wpAny_letOwnedTupleGo_enum (s := ⟨h7, g, d, tk + 1, os⟩) q7 fun h8 q8 u8 => ?_⟩⟩
    have z3 : h3.objs.size = h1.objs.size := u3.1.trans u2.1
    have le1 : e < h1.objs.size := Heap.lt_size q1
    have up4 : ∀ b o, b ≠ e → (h3.push { cls := .type "tuple", data := .seq #[.int i tk, u] }).get? b = some o → h8.get? b = some o := fun b o n y => u8.extBut b o n (u7.extBut b o n (u6.extBut b o n (u5.extBut b o n y)))
    have up : ∀ b o, b ≠ e → h1.get? b = some o → h8.get? b = some o := fun b o n y => up4 b o n (Heap.get?_push_of_some _ (u3.extBut b o n (u2.extBut b o n y)))
    have T8 : h8.get? h1.objs.size = some { cls := .type "tuple", data := .seq #[.int i tk, u] } := by
      rw [← z3]
      exact up4 _ _ (by rw [z3]; exact Nat.ne_of_gt le1) (Heap.get?_push_size _ rfl)
    obtain ⟨f0, ff⟩ := hf e List.mem_cons_self
    have n1 : H1 h1.objs.size = none := I1.hok.fresh (Nat.le_refl _)
    have I2 : L2.Inv X pins σ (upd H1 h1.objs.size (.tup [.int (i : Nat), x])) ⟨h8, g, d, tk + 1, os⟩ :=
      I1.turnedNew (t' := tk + 1) (ch := [e]) (fun b o hb y => up b o (by simpa using hb) y) (fun b hb => by rw [List.mem_singleton.mp hb]; exact ⟨low e le f0, ff⟩) (Nat.le_refl _)
        ⟨by show 2 ≤ sizeLine; decide, [.int i tk, u], .cons ⟨_, rfl⟩ (.cons ru .nil), ⟨_, T8, rfl, _, rfl⟩⟩
    refine ⟨.ref h1.objs.size, _, I2, by rw [z3]; rfl, ⟨_, x, H1, y, n1, rfl, rfl⟩, ⟨⟨u, ?_⟩, D.keep _ _ _ z1 fun b hb o y => up b o (fun n => hne (n ▸ hb)) y⟩, fun b hb => ?_⟩
    · rw [show ((i + 1 : Nat) : Int) = (i : Int) + 1 by omega]; exact q8
    · have lb : b < hp.objs.size := by
        rcases List.mem_cons.mp hb with rfl | hb
        · exact le
        · obtain ⟨o, ho, _⟩ := D.live _ _ z b hb
          exact Heap.lt_size ho
      have b1 : H1 b = none := low b lb (hf b hb).1
      have lb1 : b < h1.objs.size := by
        rcases List.mem_cons.mp hb with rfl | hb
        · exact le1
        · obtain ⟨o, ho, _⟩ := D.live _ _ z1 b hb
          exact Heap.lt_size ho
      rw [upd_ne (Nat.ne_of_lt lb1)]
      exact b1
  done := by
    intro X hP hw hK hc i pins s σ H E I hf ⟨⟨old, q⟩, z⟩ hg
    subst hP hw hK
    have ty : s.TypeIs (.ref e) "enumerate" := ⟨_, q, rfl⟩
    unfold pyNext
    refine wpAny_bind (wpAny_attempt (wpAny_callSpecial?_slot (name := Str.ofString "__next__") ty F.slot_enumerate_next (wpAny_call_entry F.slot_enumerate_next ty F.entry_enumerate_next ?_ (F.args_enumerate_next_1 _))))
    obtain ⟨hp, g, d, tk, os⟩ := s
    wp_walk using TZ.at_next
    refine D.done X rfl rfl rfl X.A.in1 (I.ok.hd hc) i pins ⟨hp, g, d, tk, os⟩ σ H _ _ I (fun b hb => hf b (List.mem_cons_of_mem _ hb)) z hg fun h1 x I1 ⟨o, ho, hc⟩ => ?_
    exact wpAny_bind (wpAny_isInstance (T := "StopIteration") (b := true) ⟨o, ho, hc⟩ isSubtype_stop (wpAny_pure ⟨rfl, I1⟩))
  self := fun A i s Q E ⟨⟨_, q⟩, _⟩ h => wpAny_pyIter_enum q h
end
end TN
namespace TZ
open PySem PySem.W
/-- enumerate(v), where iter(v) is told by what stands: the iterator it gives, the heap it leaves -/
theorem meets_enumOf {v : Value} {G : Shared → Prop} {it : Shared → Addr} {h1 : Shared → Heap}
    (B : ∀ (prog : Program) (w : World) (A : Around) (E : Value → Shared → Prop) (s : Shared) (R : Value → Shared → Prop), G s → R (.ref (it s)) { s with heap := h1 s } → wpAny (model prog w) A (pyIter v) R E s) :
    Meets (Builtin.«enumerate.__new__» ⟨[.type "enumerate", v], []⟩) (fun _ R s => G s ∧ R (.ok (.ret (.ref (h1 s).objs.size))) { s with heap := (h1 s).push { cls := .type "enumerate", data := .fields #[.none, .bool false, .ref (it s), rawInt 0, .none, .none] } }) := by
  refine .of_wp fun prog w A R s ⟨g, k⟩ => ?_
  have sub := sub_enumerate
  have B2 : ∀ {A : Around} {E : Value → Shared → Prop} {R : Value → Shared → Prop}, R (.ref (it s)) { s with heap := h1 s } → wpAny (model prog w) A (pyIter v) R E s := fun r => B prog w _ _ s _ g r
  wp_walk using B2
  refine wpAny_stack_any fun frames => wpAny_pure ?_
  split
  next c _ _ _ _ _ => cases (c == Value.type "enumerate") <;> (wp_walk using B2; exact ⟨_, rfl, k⟩)
  next => wp_walk using B2; exact ⟨_, rfl, k⟩
theorem call_enumOf {prog : Program} {w : World} {A : Around} {E : Value → Shared → Prop} {s : Shared} {v : Value} {Q : Value → Shared → Prop} {G : Shared → Prop} {it : Shared → Addr} {h1 : Shared → Heap}
    (B : ∀ (prog : Program) (w : World) (A : Around) (E : Value → Shared → Prop) (s : Shared) (R : Value → Shared → Prop), G s → R (.ref (it s)) { s with heap := h1 s } → wpAny (model prog w) A (pyIter v) R E s) (g : G s)
    (go : ∀ h2, IsEnum h2 (h1 s).objs.size (it s) 0 .none → h2.objs.size = (h1 s).objs.size + 1 → (∀ b o, (h1 s).get? b = some o → h2.get? b = some o) → Q (.ref (h1 s).objs.size) { s with heap := h2 }) :
    wpAny (model prog w) A (call (.type "enumerate") [v]) Q E s := by
  have new : IsEnum ((h1 s).push { cls := .type "enumerate", data := .fields #[.none, .bool false, .ref (it s), rawInt 0, .none, .none] }) (h1 s).objs.size (it s) 0 .none := Heap.get?_push_size _ rfl
  exact callType_new F.called_enumerate (by decide) (F.typeCall_enumerate_1 _) (F.newCall_enumerate_1 _) (fun o => F.args_object_init_2 o _) F.entry_enumerate_new (meets_enumOf B) ⟨g, ⟨_, new, rfl⟩, go _ new (Heap.size_push ..) fun _ _ y => Heap.get?_push_of_some _ y⟩
end TZ
namespace TN
open PySem PySem.Spec PyProof.Rows L2
section
variable {P : Program} {w : World} {K : PySem.W.Frag}
/-- a tuple's iterator, drawn from -/
theorem fed_tup {a it : Addr} (hne : a ≠ it) : Fed P w K (Itt K a) [it] it (fun i h => h.IsTupleIter it a i) where
  live := fun i h ⟨o, ho, _, hd⟩ b hb => by
    rw [List.mem_singleton.mp hb]
    exact ⟨o, ho, fun v q => by rw [hd] at q; cases q⟩
  keep := fun i h h' m k => m.at fun o y => k it (by simp) o y
  item := by
    rintro X rfl rfl rfl A i pins s σ H Q E I hf m ⟨xs, x, hq, hx⟩ k
    obtain ⟨its, rv, p, _⟩ := I.tuple hq
    obtain ⟨u, hu, ru⟩ := rv.get hx
    exact RZ.nextOf_tuple_item m p (x := u) (by simpa using hu) fun h1 r sb =>
      k u x H h1 ⟨rfl, fun ys hy => by rw [I.tuple_inj hy hq]; exact hx⟩ ru (I.turnedL (t' := s.toks) (ch := [it]) (fun b o hb y => sb.extBut b o (by simpa using hb) y) hf) r (fun _ _ n => n) fun b o hb y => sb.extBut b o (by simpa using hb) y
  done := by
    rintro X rfl rfl rfl A hh i pins s σ H Q E I hf m ⟨xs, hq, hx⟩ k
    obtain ⟨its, rv, p, _⟩ := I.tuple hq
    have l := rv.length
    exact RZ.nextOf_tuple_end hh m p (by rw [List.getElem?_toArray, List.getElem?_eq_none_iff]; omega) fun h1 e u he => k h1 e (I.turnedL (t' := s.toks) (ch := [it]) (fun b o hb y => u b o (by simpa using hb) y) hf) he
/-- a zip of two tuples, drawn from -/
theorem fed_zip {a b z TI TO i1 i2 : Addr} (D : ZipApart z TI TO i1 i2 a b) : Fed P w K (RZ.ItzT K a b) [z, TI, TO, i1, i2] z (fun i h => ∃ f0 x y, TZ.ZAt h z TI TO i1 i2 a b f0 x y i i ∧ (f0 = .none ∨ ∃ T : Addr, f0 = rawInt T)) where
  live := by
    rintro i h ⟨f0, x, y, m, _⟩ c hc
    obtain ⟨_, e0⟩ := m.own
    obtain ⟨o1, e1, _, d1⟩ := m.at1
    obtain ⟨o2, e2, _, d2⟩ := m.at2
    have hc' : c = z ∨ c = TI ∨ c = TO ∨ c = i1 ∨ c = i2 := by simpa using hc
    rcases hc' with rfl | rfl | rfl | rfl | rfl
    · exact ⟨_, e0, fun v q => nomatch q⟩
    · exact ⟨_, m.its, fun v q => nomatch q⟩
    · exact ⟨_, m.out, fun v q => nomatch q⟩
    · exact ⟨o1, e1, fun v q => by rw [d1] at q; cases q⟩
    · exact ⟨o2, e2, fun v q => by rw [d2] at q; cases q⟩
  keep := fun i h h' ⟨f0, x, y, m, hf⟩ k => ⟨f0, x, y, m.all fun c o hc e => k c (by simpa using hc) o e, hf⟩
  item := by
    rintro X rfl rfl rfl A i pins s σ H Q E I hf ⟨f0, x', y', m, hf0⟩ ⟨xs, ys, x, y, hqx, hqy, hx, hy⟩ k
    obtain ⟨its, rv, p, _⟩ := I.tuple hqx
    obtain ⟨its2, rv2, p2, _⟩ := I.tuple hqy
    obtain ⟨u, hu, ru⟩ := rv.get hx
    obtain ⟨u2, hu2, ru2⟩ := rv2.get hy
    have n0 : H s.heap.objs.size = none := I.hok.fresh (Nat.le_refl _)
    refine TZ.zip_item D m hf0 p p2 (x := u) (y := u2) (by simpa using hu) (by simpa using hu2) fun h1 f1 a' b' m1 hf1 pr sz kz => ?_
    have kk : ∀ c o, c ∉ [z, TI, TO, i1, i2] → s.heap.get? c = some o → h1.get? c = some o := fun c o hc e => by
      have hc' : ¬ (c = z ∨ c = TI ∨ c = TO ∨ c = i1 ∨ c = i2) := by simpa using hc
      exact kz c o (fun n => hc' (.inl n)) (fun n => hc' (.inr (.inr (.inl n)))) (fun n => hc' (.inr (.inr (.inr (.inl n))))) (fun n => hc' (.inr (.inr (.inr (.inr n))))) e
    refine k _ (.ref s.heap.objs.size) (upd H s.heap.objs.size (.tup [x, y])) h1 ⟨_, x, y, rfl, n0, rfl, fun l hl => by rw [I.tuple_inj hl hqx]; exact hx, fun l hl => by rw [I.tuple_inj hl hqy]; exact hy⟩ rfl
      (I.turnedNew (t' := s.toks) kk hf (Nat.le_refl _) ⟨by show 2 ≤ sizeLine; decide, [u, u2], .cons ru (.cons ru2 .nil), ⟨_, pr, rfl, _, rfl⟩⟩) ⟨f1, a', b', m1, hf1⟩ (fun c lc n => by rw [upd_ne (Nat.ne_of_lt lc)]; exact n) kk
  done := by
    rintro X rfl rfl rfl A hh i pins s σ H Q E I hf ⟨f0, x', y', m, hf0⟩ ⟨xs, ys, hqx, hqy, hend⟩ k
    obtain ⟨its, rv, p, _⟩ := I.tuple hqx
    obtain ⟨its2, rv2, p2, _⟩ := I.tuple hqy
    have l1 := rv.length
    have l2 := rv2.length
    refine TZ.zip_end hh D m hf0 p p2 (hend.imp (fun q => ?_) fun q => ?_) fun h1 e kz he => k h1 e (I.turnedL (t' := s.toks) (ch := [z, TI, TO, i1, i2]) (fun c o hc y => ?_) hf) he
    · rw [List.getElem?_toArray, List.getElem?_eq_none_iff]; omega
    · rw [List.getElem?_toArray, List.getElem?_eq_none_iff]; omega
    · have hc' : ¬ (c = z ∨ c = TI ∨ c = TO ∨ c = i1 ∨ c = i2) := by simpa using hc
      exact kz c o (fun n => hc' (.inl n)) (fun n => hc' (.inr (.inr (.inl n)))) (fun n => hc' (.inr (.inr (.inr (.inl n))))) (fun n => hc' (.inr (.inr (.inr (.inr n))))) y
/-- enumerate over an iterator that has just come -/
theorem pie_enumOf {X : Cx} {pins : List (Addr × Obj)} {σ : L2.St} {H1 : Hp} {s1 : Shared} {R : It → Hp → Prop} {J : It} {fp : List Addr} {st : Nat → Heap → Prop} {v : Value} {elts : List Expr} {kk : Nat} {tpos : Pos} {G : Shared → Prop} {it : Shared → Addr} {hh : Shared → Heap}
    (B : ∀ (prog : Program) (w : World) (A : Around) (E : Value → Shared → Prop) (s : Shared) (R : Value → Shared → Prop), G s → R (.ref (it s)) { s with heap := hh s } → wpAny (model prog w) A (pyIter v) R E s) (g : G s1)
    (I1 : L2.Inv X pins σ H1 s1) (D : Fed X.prog X.w X.K J fp (it s1) st) (hit : it s1 ∈ fp) (kept : ∀ b o, s1.heap.get? b = some o → (hh s1).get? b = some o) (z : st 0 (hh s1)) (fpok : ∀ b ∈ fp, FpOk X pins H1 b) (up : ∀ b ∈ fp, b < (hh s1).objs.size)
    (sz : s1.heap.objs.size ≤ (hh s1).objs.size) (r : R (ItE J) H1) :
    wpAny (model X.prog X.w) X.A (call (.type "enumerate") [v]) (fun u s2 => wpAny (model X.prog X.w) X.A (pyIter u) (PIE X pins σ (.Tuple elts kk tpos) R) X.xe s2) X.xe s1 := by
  refine TZ.call_enumOf B g fun h2 q sz2 k2 => wpAny_pyIter_enum q ?_
  refine ⟨_, (hh s1).objs.size :: fp, _, _, H1, rfl, I1.kept (t' := s1.toks) fun b o y => k2 b o (kept b o y), turn_enumOf D hit fun n => Nat.lt_irrefl _ (up _ n), ⟨⟨.none, q⟩, D.keep _ _ _ z fun b _ o y => k2 b o y⟩, fun b hb => ?_, r⟩
  rcases List.mem_cons.mp hb with rfl | hb
  · exact I1.fpOk sz (I1.hok.fresh sz)
  · exact fpok b hb
end
/-- the items of the tuple at a, pairs of the items of those at a and b, with their places -/
abbrev ItEt (K : PySem.W.Frag) (a : Addr) : It := ItE (Itt K a)
abbrev ItEz (K : PySem.W.Frag) (a b : Addr) : It := ItE (RZ.ItzT K a b)
def iEnumT (K : PySem.W.Frag) (ta : TA) : TI := fun σ H R => ta σ H fun vs H1 => ∃ a xs, vs = [.ref a] ∧ SqT K H1 a xs ∧ R (ItEt K a) H1
def iEnumZ (K : PySem.W.Frag) (ta : TA) : TI := fun σ H R => ta σ H fun vs H1 => ∃ a b xs ys, vs = [.ref a, .ref b] ∧ SqT K H1 a xs ∧ SqT K H1 b ys ∧ R (ItEz K a b) H1
section
variable {X : Cx} {e e2 : Expr} {ta : TA} {p q pos pos2 tpos : Pos} {elts : List Expr} {kk : Nat}
theorem pi_enumT (hg : Gl X "enumerate") (hm : X.mg "enumerate" = none) (ha : PA X [e] ta) (hs : starEach [e] X.env = [(false, eval e X.env)] := by rfl) : PI X (.Tuple elts kk tpos) (.Call (.Name "enumerate" p) [e] [] pos) (iEnumT X.K ta) where
  run := fun pins s σ H R I h => by
    refine Call_ (ld_blt I hg hm boot_enumerate (PyProof.Rows.callWith_type1 (thn (ha.run pos pins s σ H _ I h) ?_) hs rfl))
    rintro us s1 ⟨vs, H1, I1, r1, a, xs, rfl, hq, k⟩
    obtain rfl : us = [.ref a] := by cases r1 with | cons r rr => cases rr; cases r; rfl
    obtain ⟨its, _, t, _⟩ := I1.tuple hq
    have la : a < s1.heap.objs.size := t.elim fun _ y => Heap.lt_size y.1
    have ls : ∀ b ∈ [s1.heap.objs.size], b = s1.heap.objs.size := fun b hb => List.mem_singleton.mp hb
    exact pie_enumOf (G := fun s => s.heap.IsTuple a its.toArray) (it := fun s => s.heap.objs.size) (hh := fun s => s.heap.push { cls := .type "tuple_iterator", data := .fields #[.ref a, .int 0 0] }) (fun _ _ _ _ _ _ t r => wpAny_pyIter_tuple t r) t I1
      (fed_tup (Nat.ne_of_lt la)) (by simp) (fun b o y => Heap.get?_push_of_some _ y) ⟨_, Heap.get?_push_size _ rfl, rfl, rfl⟩ (fun b hb => by rw [ls b hb]; exact I1.fpOk (Nat.le_refl _) (I1.hok.fresh (Nat.le_refl _)))
      (fun b hb => by rw [ls b hb, Heap.size_push]; exact Nat.lt_succ_self _) (by rw [Heap.size_push]; exact Nat.le_succ _) k
theorem pi_enumZip (hge : Gl X "enumerate") (hme : X.mg "enumerate" = none) (hg : Gl X "zip") (hm : X.mg "zip" = none) (ha : PA X [e, e2] ta)
    (hs : starEach [e, e2] X.env = (false, eval e X.env) :: starEach [e2] X.env := by rfl) (hpl : (backTo pos (starEach [e2] X.env)).any (·.1) = false := by rfl)
    (hs2 : starEach [.Call (.Name "zip" p) [e, e2] [] pos] X.env = (false, eval (.Call (.Name "zip" p) [e, e2] [] pos) X.env) :: starEach [] X.env := by rfl) :
    PI X (.Tuple elts kk tpos) (.Call (.Name "enumerate" q) [.Call (.Name "zip" p) [e, e2] [] pos] [] pos2) (iEnumZ X.K ta) where
  run := fun pins s σ H R I h => by
    refine wpAny_Call_Name_kw (ld_blt I hge hme boot_enumerate (PyProof.Rows.callWith_type1 ?_ hs2 rfl))
    rw [hs2]
    show wpAny _ _ (spliced ((false, eval (.Call (.Name "zip" p) [e, e2] [] pos) X.env) :: backTo pos2 (starEach [] X.env))) _ _ s
    refine Calls.spliced_cons (Call_ (ld_blt I hg hm PyProof.Rows.boot_zip (PyProof.Rows.callWith_type1 (thn (ha.run pos pins s σ H _ I h) ?_) hs hpl)))
    rintro us s1 ⟨vs, H1, I1, r1, a, b, xs, ys, rfl, hqx, hqy, k⟩
    obtain rfl : us = [.ref a, .ref b] := by cases r1 with | cons r rr => cases rr with | cons r' rr => cases rr; cases r; cases r'; rfl
    obtain ⟨its, _, t, _⟩ := I1.tuple hqx
    obtain ⟨its2, _, t2, _⟩ := I1.tuple hqy
    have la : a < s1.heap.objs.size := t.elim fun _ y => Heap.lt_size y.1
    have lb : b < s1.heap.objs.size := t2.elim fun _ y => Heap.lt_size y.1
    refine RZ.call_zipT t t2 fun h' hz hTI hTO h1 h2 hsz hk => Calls.spliced_nil ?_
    have hsz : h'.objs.size = s1.heap.objs.size + 5 := hsz
    have near : ∀ c ∈ [s1.heap.objs.size + 4, s1.heap.objs.size + 2, s1.heap.objs.size + 3, s1.heap.objs.size, s1.heap.objs.size + 1], s1.heap.objs.size ≤ c ∧ c < s1.heap.objs.size + 5 := fun c hc => by
      simp only [List.mem_cons, List.not_mem_nil, or_false] at hc
      have : ∀ n : Nat, c = n + 4 ∨ c = n + 2 ∨ c = n + 3 ∨ c = n ∨ c = n + 1 → n ≤ c ∧ c < n + 5 := fun n h => by omega
      exact this _ hc
    exact pie_enumOf (s1 := { s1 with heap := h' }) (G := fun s => IsZip s.heap (s1.heap.objs.size + 4) (s1.heap.objs.size + 2) (s1.heap.objs.size + 3) .none) (it := fun _ => s1.heap.objs.size + 4) (hh := fun s => s.heap) (fun _ _ _ _ _ _ y r => wpAny_pyIter_zip y r) hz
      (I1.kept (t' := s1.toks) hk) (fed_zip (PySem.W.ktu_apart s1.heap.objs.size a b la lb)) (by simp) (fun _ _ y => y) ⟨_, _, _, ⟨⟨false, hz⟩, hTI, hTO, h1, h2⟩, .inl rfl⟩ (fun c hc => I1.fpOk (near c hc).1 (I1.hok.fresh (near c hc).1))
      (fun c hc => by show c < h'.objs.size; rw [hsz]; exact (near c hc).2) (Nat.le_refl _) k
end
end TN
set_option Elab.async false
set_option linter.all false
set_option maxRecDepth 100000
set_option maxHeartbeats 4000000
/-! W27: lateness, has_form, is_right, check_timetable, check_table, time_at. -/
namespace TN
open PySem PySem.Spec PyProof.Rows L2
theorem k_enumZ (K : PySem.W.Frag) {X : Cx} {e e2 : Expr} {ta : TA} {p q pos pos2 tpos : Pos} {elts : List Expr} {kk : Nat} (hge : Gl X "enumerate") (hme : X.mg "enumerate" = none) (hg : Gl X "zip") (hm : X.mg "zip" = none) (ha : PA X [e, e2] ta) (h : X.K = K := by rfl)
    (hs : starEach [e, e2] X.env = (false, eval e X.env) :: starEach [e2] X.env := by rfl) (hpl : (backTo pos (starEach [e2] X.env)).any (·.1) = false := by rfl)
    (hs2 : starEach [.Call (.Name "zip" p) [e, e2] [] pos] X.env = (false, eval (.Call (.Name "zip" p) [e, e2] [] pos) X.env) :: starEach [] X.env := by rfl) :
    PI X (.Tuple elts kk tpos) (.Call (.Name "enumerate" q) [.Call (.Name "zip" p) [e, e2] [] pos] [] pos2) (iEnumZ K ta) := by subst h; exact pi_enumZip hge hme hg hm ha hs hpl hs2
theorem k_enumT (K : PySem.W.Frag) {X : Cx} {e : Expr} {ta : TA} {p pos tpos : Pos} {elts : List Expr} {kk : Nat} (hg : Gl X "enumerate") (hm : X.mg "enumerate" = none) (ha : PA X [e] ta) (h : X.K = K := by rfl) (hs : starEach [e] X.env = [(false, eval e X.env)] := by rfl) :
    PI X (.Tuple elts kk tpos) (.Call (.Name "enumerate" p) [e] [] pos) (iEnumT K ta) := by subst h; exact pi_enumT hg hm ha hs
/-- a loop over enumerate(zip(tuple, tuple)) -/
theorem for_enumZ {K : PySem.W.Frag} {a b : Addr} {xs ys : List V} {g : TG} {tb : L2.TS} {D : Ends} {σ : L2.St} {H : Hp} (Pv : Nat → L2.St → Hp → Prop) (h0 : Pv 0 σ H) (hq : ∀ i σ H, Pv i σ H → SqT K H a xs ∧ SqT K H b ys)
    (hs : ∀ (i : Nat) (x y : V) (T P : Addr) (σ : L2.St) (H : Hp), xs[i]? = some x → ys[i]? = some y → Pv i σ H → H T = none → H P = none → T ≠ P → g (.ref P) σ (upd (upd H T (.tup [x, y])) P (.tup [.int (i : Nat), .ref T])) fun σ2 H2 => tb { D with nx := Pv (i + 1), ct := Pv (i + 1), bk := D.nx } σ2 H2)
    (hd : ∀ σ H, Pv (min xs.length ys.length) σ H → D.nx σ H) :
    ∃ W : Nat → Nat → L2.St → Hp → Prop, (∃ m, W 0 m σ H) ∧ ∀ i m σ H, W i m σ H →
      ((ItEz K a b).stop i H ∧ D.nx σ H) ∨ ((ItEz K a b).go i H ∧ ∃ N : L2.St → Hp → Prop, (∀ σ' H', N σ' H' → ∃ m', m' < m ∧ W (i + 1) m' σ' H') ∧ ∀ v H', (ItEz K a b).yld i H v H' → g v σ H' fun σ2 H2 => tb { D with nx := N, ct := N, bk := D.nx } σ2 H2) := by
  refine ⟨fun i m σ H => m = min xs.length ys.length - i ∧ i ≤ min xs.length ys.length ∧ Pv i σ H, ⟨min xs.length ys.length, rfl, Nat.zero_le _, h0⟩, ?_⟩
  rintro i m σ H ⟨rfl, hi, p⟩
  obtain ⟨qx, qy⟩ := hq i σ H p
  by_cases hlt : i < min xs.length ys.length
  · have hx : xs[i]? = some (xs[i]'(by omega)) := List.getElem?_eq_getElem _
    have hy : ys[i]? = some (ys[i]'(by omega)) := List.getElem?_eq_getElem _
    refine .inr ⟨⟨xs, ys, _, _, qx, qy, hx, hy⟩, Pv (i + 1), fun σ' H' p' => ⟨min xs.length ys.length - (i + 1), by omega, rfl, hlt, p'⟩, fun v H' y => ?_⟩
    obtain ⟨P, _, _, ⟨T, x', y', rfl, hT, rfl, f1, f2⟩, hP, rfl, rfl⟩ := y
    have nTP : T ≠ P := fun e => by rw [← e, upd_same] at hP; cases hP
    exact hs i x' y' T P σ H (f1 xs qx) (f2 ys qy) p hT (by rw [upd_ne nTP.symm] at hP; exact hP) nTP
  · have e : i = min xs.length ys.length := by omega
    subst e
    exact .inl ⟨⟨xs, ys, qx, qy, by omega⟩, hd σ H p⟩
structure TtB (g : Prg) (T : Tt) : Prop where
  len : T.length = g.tables
  rl : ∀ e ∈ T, ∀ a ∈ e.2, a.1.length = g.sides
  most : ∀ e ∈ T, e.2.length ≤ 8
  bits : ∀ e ∈ T, ∀ a ∈ e.2, Bits 400000 a.2 ∧ ∀ x ∈ a.1, Bits 400000 x
theorem TtOk.b {g : Prg} {far : Bool} {T : Tt} (h : TtOk g far 4 T) : TtB g T := ⟨h.len, h.rl, fun e he => Nat.le_trans (h.most e he) (by decide), h.bits⟩
theorem en_inv {H : Hp} {v : V} {e : Int × List Row} (h : TD H v (dEn e)) : ∃ q ra rows, v = .ref q ∧ H q = some (.tup [.int e.1, .ref ra]) ∧ H ra = some (.tup rows) ∧ TDs H rows (e.2.map dRow) := by
  obtain ⟨q, zs, rfl, hq, hzs⟩ := h.tup_inv
  cases hzs with | cons h1 hzs => ?_
  cases hzs with | cons h2 hzs => ?_
  cases hzs
  obtain ⟨ra, rows, rfl, h3, h4⟩ := h2.tup_inv
  rw [h1.int_inv] at hq
  exact ⟨q, ra, rows, rfl, hq, h3, h4⟩
theorem row_inv {H : Hp} {v : V} {a : Row} (h : TD H v (dRow a)) : ∃ q ra, v = .ref q ∧ H q = some (.tup [.ref ra, .int a.2]) ∧ H ra = some (.tup (a.1.map V.int)) := by
  obtain ⟨q, zs, rfl, hq, hzs⟩ := h.tup_inv
  cases hzs with | cons h1 hzs => ?_
  cases hzs with | cons h2 hzs => ?_
  cases hzs
  obtain ⟨ra, rfl, h3⟩ := h1.ints
  rw [h2.int_inv] at hq
  exact ⟨q, ra, rfl, hq, h3⟩
section
variable {P : Program} {w : World} {K : PySem.W.Frag} {mg : Str → Option Value} {base : Heap}
def spLate (K : PySem.W.Frag) : Sp := fun vs H Q _ => ∃ (p : Addr) (v : V) (g : Prg) (T : Tt) (n : Nat) (r : Rd), vs = [.ref p, v, .int (n : Int)] ∧ PrgAt K H p g ∧ g.Ok ∧ TD H v (dT T) ∧ TtB g T ∧ g.rs[n]? = some r ∧ lateB T r = true ∧
  ∀ a H', Same H H' → Q (.ref a) H'
/-! lateness: slots 0 program, 1 thing, 2 number, 3 reader, 4 read, 5 step, 6 one, 7 other, 8 place, 9 first, 10 second, 11 much; calls ['G_dot'] -/
abbrev N_lateness : List Str := ["program", "thing", "number", "reader", "read", "step", "one", "other", "place", "first", "second", "much"]
theorem sc_lateness : FnScope N_lateness ["program", "thing", "number"] (defScope s_lateness) := ⟨rfl, rfl, rfl, by decide +kernel, rfl, by decide +kernel, by decide +kernel⟩
theorem ok_lateness (W : Wd K mg) : Ok P w K mg base 2 "lateness" ["program", "thing", "number"] (spLate K) := by
  have sc := sc_lateness
  have G_dot : Ok P w K mg base 1 "dot" ["row", "step"] spDot := ok_dot W
  refine Ok.mk' W.F_lateness W.g_lateness sc (fun vs H Q E h => ?_) (fun _ _ _ _ _ _ us hl => match us, hl with | [_, _, _], _ => rfl) (fun cdv A outer s H vs Q E hr h => ?_)
  · obtain ⟨p, v, g, T, n, r, rfl, _⟩ := h
    rfl
  · obtain ⟨p, v, g, T, n, r, rfl, PA, gok, hv, tb, hr1, late, k⟩ := h
    obtain ⟨dx, ar, xr, A0⟩ := id PA
    obtain ⟨rx, ry, rl, rb⟩ := gok.rd r (List.mem_of_getElem? hr1)
    obtain ⟨q, sa, hq1, hq2, hq3⟩ := A0.rd hr1
    obtain ⟨at_, es, rfl, hat, hes⟩ := hv.tup_inv
    have tl := tb.len
    obtain ⟨ex, hex⟩ : ∃ e, T[r.x]? = some e := ⟨_, List.getElem?_eq_getElem (by omega)⟩
    obtain ⟨ey, hey⟩ : ∃ e, T[r.y]? = some e := ⟨_, List.getElem?_eq_getElem (by omega)⟩
    obtain ⟨vx, hvx, tvx⟩ := hes.get (i := r.x) (d := dEn ex) (by rw [List.getElem?_map, hex]; rfl)
    obtain ⟨vy, hvy, tvy⟩ := hes.get (i := r.y) (d := dEn ey) (by rw [List.getElem?_map, hey]; rfl)
    obtain ⟨qx, rax, rwx, rfl, hqx, hrx, hrwx⟩ := en_inv tvx
    obtain ⟨qy, ray, rwy, rfl, hqy, hry, hrwy⟩ := en_inv tvy
    have eN : tN T r.x = ex.1 ∧ tN T r.y = ey.1 ∧ tR T r.x = ex.2 ∧ tR T r.y = ey.2 := by
      unfold tN tR
      rw [List.getD_eq_getElem?_getD, List.getD_eq_getElem?_getD, hex, hey]
      exact ⟨rfl, rfl, rfl, rfl⟩
    unfold lateB at late
    rw [eN.1, eN.2.1, eN.2.2.1, eN.2.2.2] at late
    refine ⟨_, (pss_cons (ps_asg (pe_ix (k_ixt K) (k_fld K (pv 0) rfl) (pv 2) (fun _ _ => rfl)) (k_tup K rfl (pgs_cons (pg_name (i := 3) sc.nd rfl (Or.inl rfl)) (pgs_cons (pg_name (i := 4) sc.nd rfl (Or.inl rfl)) (pgs_cons (pg_name (i := 5) sc.nd rfl (Or.inl rfl)) pgs_nil)))))
    (pss_cons (ps_par (i := 6) (j := 7) rfl sc.nd rfl rfl (by decide) rfl rfl (pa_cons (pe_ix (k_ixt K) (pv 1) (pv 3) (fun _ _ => rfl)) (pa_cons (pe_ix (k_ixt K) (pv 1) (pv 4) (fun _ _ => rfl)) pa_nil)) rfl)
    (pss_cons (ps_if (pt_cmpR op_ne (pe_ix (k_ixt K) (pv 6) pe_int (fun _ _ => rfl)) (pe_ix (k_ixt K) (pv 7) pe_int (fun _ _ => rfl)) (nomark _))
      (pss_one (ps_ret (pe_ifExp (pt_cmpR op_gt (pe_ix (k_ixt K) (pv 6) pe_int (fun _ _ => rfl)) (pe_ix (k_ixt K) (pv 7) pe_int (fun _ _ => rfl)) (nomark _)) (pe_tup (pa_cons pe_int (pa_cons (pe_op op_sub (pe_ix (k_ixt K) (pv 6) pe_int (fun _ _ => rfl)) (pe_ix (k_ixt K) (pv 7) pe_int (fun _ _ => rfl))) pa_nil))) pe_non)))
      pss_nil)
    (pss_cons (ps_for PassesOwn.never rfl (k_enumZ K (by rfl) W.b_enumerate (by rfl) W.b_zip (pa_cons (pe_ix (k_ixt K) (pv 6) pe_int (fun _ _ => rfl)) (pa_cons (pe_ix (k_ixt K) (pv 7) pe_int (fun _ _ => rfl)) pa_nil))) (k_tup K rfl (pgs_cons (pg_name (i := 8) sc.nd rfl (Or.inl rfl)) (pgs_cons (k_tup K rfl (pgs_cons (pg_name (i := 9) sc.nd rfl (Or.inl rfl)) (pgs_cons (pg_name (i := 10) sc.nd rfl (Or.inl rfl)) pgs_nil))) pgs_nil)))
      (pss_cons (ps_set (i := 11) sc.nd rfl (Or.inl rfl) (pe_op op_sub (pe_op op_add (pe_c G_dot (hr.mono (by decide)) (by rfl) (pa_cons (pe_ix (k_ixt K) (pv 9) pe_int (fun _ _ => rfl)) (pa_cons (pv 5) pa_nil))) (pe_ix (k_ixt K) (pv 9) pe_int (fun _ _ => rfl))) (pe_ix (k_ixt K) (pv 10) pe_int (fun _ _ => rfl))))
      (pss_cons (ps_if (pt_cmpR (k_neD K hr.units) (pe_ix (k_ixt K) (pv 9) pe_int (fun _ _ => rfl)) (pe_ix (k_ixt K) (pv 10) pe_int (fun _ _ => rfl)) (nomark _))
        (pss_one (ps_ret pe_non))
        pss_nil)
      (pss_one (ps_if (pt_cmpR op_ne (pv 11) pe_int (nomark _))
        (pss_one (ps_ret (pe_ifExp (pt_cmpR op_gt (pv 11) pe_int (nomark _)) (pe_tup (pa_cons (pe_op op_add (pv 8) pe_int) (pa_cons (pv 11) pa_nil))) pe_non)))
        pss_nil)))))
    (pss_one (ps_ret pe_non)))))), ?_⟩
    refine ⟨_, rfl, p, _, _, _, _, rfl, A0.hp, W.cl_Program, W.n_Program_readings, pf_readings, ?_⟩
    refine ⟨_, rfl, r_tget (j := n) A0.ha hq1 ?_⟩
    refine ⟨q, _, rfl, SqT.of hq2, rfl, _, _, rfl, _, _, rfl, _, _, rfl, rfl, ?_⟩
    refine ⟨_, rfl, _, rfl, r_tget (j := r.x) hat hvx ?_⟩
    refine ⟨_, rfl, _, rfl, r_tget (j := r.y) hat hvy ?_⟩
    refine ⟨_, _, rfl, ?_⟩
    refine ⟨_, rfl, r_c (r_tgetI (j := 0) hqx rfl rfl ?_)⟩
    refine ⟨_, rfl, r_c (r_tgetI (j := 0) hqy rfl rfl ?_)⟩
    refine ⟨rfl, _, rfl, ?_⟩
    by_cases z : ex.1 = ey.1
    · rw [if_neg (by intro h; exact h z)] at late
      rw [z, decide_eq_true rfl]
      refine iteF ?_
      refine ⟨_, rfl, r_c (r_tgetI (j := 1) hqx rfl rfl ?_)⟩
      refine ⟨_, rfl, r_c (r_tgetI (j := 1) hqy rfl rfl ?_)⟩
      refine ⟨rax, ray, rwx, rwy, rfl, SqT.of hrx, SqT.of hry, ?_⟩
      have lx : rwx.length = ex.2.length := by rw [hrwx.length, List.length_map]
      have ly : rwy.length = ey.2.length := by rw [hrwy.length, List.length_map]
      refine for_enumZ (xs := rwx) (ys := rwy) (fun i σ H' => ∃ (v8 v9 v10 v11 : Option V), σ = [some (.ref p), some (.ref at_), some (.int (n : Int)), some (.int (r.x : Int)), some (.int (r.y : Int)), some (.ref sa), some (.ref qx), some (.ref qy), v8, v9, v10, v11] ∧ Same H H' ∧ rowsL (ex.2.drop i) (ey.2.drop i) r.s = true)
        ⟨_, _, _, _, rfl, fun _ _ h => h, late⟩ (fun i σ H' ⟨_, _, _, _, _, s, _⟩ => ⟨SqT.of (s _ _ hrx), SqT.of (s _ _ hry)⟩) ?_ ?_
      · rintro i x y T1 P1 σ H2 hx hy ⟨v8, v9, v10, v11, rfl, s2, lt⟩ hT hP nTP
        have hi : i < ex.2.length := by rw [← lx]; exact (List.getElem?_eq_some_iff.mp hx).1
        have hj : i < ey.2.length := by rw [← ly]; exact (List.getElem?_eq_some_iff.mp hy).1
        obtain ⟨dX, e1, e2⟩ := hrwx.get' hx
        obtain ⟨dY, e3, e4⟩ := hrwy.get' hy
        rw [List.getElem?_map, List.getElem?_eq_getElem hi] at e1
        rw [List.getElem?_map, List.getElem?_eq_getElem hj] at e3
        cases e1
        cases e3
        rw [List.drop_eq_getElem_cons hi, List.drop_eq_getElem_cons hj] at lt
        have mx := List.getElem_mem hi
        have my := List.getElem_mem hj
        have bx := tb.bits ex (List.mem_of_getElem? hex) _ mx
        have by_ := tb.bits ey (List.mem_of_getElem? hey) _ my
        have lrx := tb.rl ex (List.mem_of_getElem? hex) _ mx
        generalize ex.2[i] = ax at *
        generalize ey.2[i] = ay at *
        obtain ⟨px, pax, rfl, hpx, hpax⟩ := row_inv e2
        obtain ⟨py, pay, rfl, hpy, hpay⟩ := row_inv e4
        have s3 : Same H2 (upd (upd H2 T1 (.tup [.ref px, .ref py])) P1 (.tup [.int (i : Nat), .ref T1])) := (Same.upd hT).trans (Same.upd (by rw [upd_ne nTP.symm]; exact hP))
        have hT3 : (upd (upd H2 T1 (.tup [.ref px, .ref py])) P1 (.tup [.int (i : Nat), .ref T1])) T1 = some (.tup [.ref px, .ref py]) := by rw [upd_ne nTP, upd_same]
        have hP3 : (upd (upd H2 T1 (.tup [.ref px, .ref py])) P1 (.tup [.int (i : Nat), .ref T1])) P1 = some (.tup [.int (i : Nat), .ref T1]) := upd_same
        generalize upd (upd H2 T1 (.tup [.ref px, .ref py])) P1 (.tup [.int (i : Nat), .ref T1]) = H3 at *
        have s03 := s2.trans s3
        refine ⟨P1, _, rfl, SqT.of hP3, rfl, _, _, rfl, _, _, rfl, ?_⟩
        refine ⟨T1, _, rfl, SqT.of hT3, rfl, _, _, rfl, _, _, rfl, rfl, rfl, ?_⟩
        refine ⟨_, rfl, r_c (r_tgetI (j := 0) (s03 _ _ hpx) rfl rfl ?_)⟩
        have g4 := gok.s4
        refine ⟨_, rfl, pax, sa, ax.1, r.s, rfl, s03 _ _ hpax, s03 _ _ hq3, by omega, bx.2, fun b hb => ?_, fun H4 s4 => ?_⟩
        · have := rb b hb
          refine Nat.lt_of_lt_of_le (m := 2 ^ 41) ?_ (Nat.pow_le_pow_right (by decide) (by decide))
          omega
        have s04 := s03.trans s4
        refine ⟨_, rfl, r_c (r_tgetI (j := 1) (s04 _ _ hpx) rfl rfl ?_)⟩
        refine ⟨_, _, rfl, rfl, ?_⟩
        refine ⟨_, rfl, r_c (r_tgetI (j := 1) (s04 _ _ hpy) rfl rfl ?_)⟩
        refine ⟨_, _, rfl, rfl, ?_⟩
        unfold rowsL at lt
        have e0 : ax.1 = ay.1 := by
          by_cases q : ax.1 = ay.1
          · exact q
          · rw [if_pos q] at lt; cases lt
        rw [if_neg (by intro q; exact q e0)] at lt
        refine ⟨_, rfl, r_c (r_tgetI (j := 0) (s04 _ _ hpx) rfl rfl ?_)⟩
        refine ⟨_, rfl, r_c (r_tgetI (j := 0) (s04 _ _ hpy) rfl rfl ?_)⟩
        refine ⟨dI ax.1, dI ay.1, (TD.of_ints (s04 _ _ hpax)).dp, (TD.of_ints (s04 _ _ hpay)).dp, shaped_dI _, shaped_dI _, ?_⟩
        rw [eqv_dI, e0, decide_eq_true rfl]
        refine ⟨_, rfl, ?_⟩
        refine iteF ?_
        rw [← e0]
        refine ⟨_, rfl, rfl, _, rfl, ?_⟩
        by_cases z2 : dotI ax.1 r.s + ax.2 - ay.2 = 0
        · rw [if_neg (by intro h; exact h z2)] at lt
          rw [decide_eq_true (show (fun i j : Int => V.int (i - j)) (dotI ax.1 r.s + ax.2) ay.2 = V.int 0 from by show V.int (dotI ax.1 r.s + ax.2 - ay.2) = _; rw [z2])]
          refine iteF ?_
          exact ⟨_, _, _, _, rfl, s04, lt⟩
        · rw [if_pos z2] at lt
          rw [decide_eq_false (show ¬ (fun i j : Int => V.int (i - j)) (dotI ax.1 r.s + ax.2) ay.2 = V.int 0 from fun e => z2 (by have e : V.int (dotI ax.1 r.s + ax.2 - ay.2) = V.int 0 := e; injection e))]
          refine iteT ?_
          refine ⟨_, rfl, _, _, rfl, rfl, _, rfl, ?_⟩
          rw [lt]
          refine iteT ?_
          refine ⟨_, rfl, _, _, rfl, rfl, _, rfl, by show 2 ≤ sizeLine; decide, fun R hR => ?_⟩
          exact k R _ (s04.to_upd hR)
      · rintro σ H2 ⟨v8, v9, v10, v11, rfl, s2, lt⟩
        exfalso
        rw [lx, ly] at lt
        rcases Nat.le_total ex.2.length ey.2.length with h | h
        · rw [Nat.min_eq_left h, List.drop_length] at lt
          cases lt
        · rw [Nat.min_eq_right h, List.drop_length] at lt
          cases q : ex.2.drop ey.2.length <;> rw [q] at lt <;> cases lt
    · rw [if_pos z] at late
      rw [decide_eq_false (fun e => z (by injection e))]
      refine iteT ?_
      refine ⟨_, rfl, r_c (r_tgetI (j := 0) hqx rfl rfl ?_)⟩
      refine ⟨_, rfl, r_c (r_tgetI (j := 0) hqy rfl rfl ?_)⟩
      refine ⟨_, _, rfl, rfl, _, rfl, ?_⟩
      rw [late]
      refine iteT ?_
      refine ⟨_, rfl, r_c (r_tgetI (j := 0) hqx rfl rfl ?_)⟩
      refine ⟨_, rfl, r_c (r_tgetI (j := 0) hqy rfl rfl ?_)⟩
      refine ⟨_, _, rfl, rfl, by show 2 ≤ sizeLine; decide, fun R hR => ?_⟩
      exact k R _ (Same.upd hR)
end
end TN
set_option Elab.async false
set_option linter.all false
set_option maxRecDepth 100000
set_option maxHeartbeats 4000000
/-! W28: has_form, is_right, check_timetable, check_table, time_at. -/
namespace TN
open PySem PySem.Spec PyProof.Rows L2
section
variable {P : Program} {w : World} {K : PySem.W.Frag} {mg : Str → Option Value} {base : Heap}
def spRow (K : PySem.W.Frag) : Sp := fun vs H Q _ => ∃ (p : Addr) (v : V) (g : Prg) (a : Row), vs = [.ref p, .str "boxes", v] ∧ PrgAt K H p g ∧ g.Ok ∧ TD H v (dRow a) ∧ a.1.length = g.sides ∧ ∀ H', Same H H' → Q (.bl true) H'
/-! is_right_row: slots 0 program, 1 world, 2 thing, 3 part; calls ['G_are_integers', 'G_is_integer', 'G_is_pair'] -/
abbrev N_is_right_row : List Str := ["program", "world", "thing", "part"]
theorem sc_is_right_row : FnScope N_is_right_row ["program", "world", "thing"] (defScope s_is_right_row) := ⟨rfl, rfl, rfl, by decide +kernel, rfl, by decide +kernel, by decide +kernel⟩
theorem ok_is_right_row (W : Wd K mg) : Ok P w K mg base 3 "is_right_row" ["program", "world", "thing"] (spRow K) := by
  have sc := sc_is_right_row
  have G_is_pair : Ok P w K mg base 1 "is_pair" ["thing"] (spTup 2) := ok_is_pair W
  have G_are_integers : Ok P w K mg base 2 "are_integers" ["thing", "many"] spAreInts := ok_are_integers W
  have G_is_integer : Ok P w K mg base 1 "is_integer" ["thing"] spIsInt := ok_is_integer W
  refine Ok.mk' W.F_is_right_row W.g_is_right_row sc (fun vs H Q E h => ?_) (fun _ _ _ _ _ _ us hl => match us, hl with | [_, _, _], _ => rfl) (fun cdv A outer s H vs Q E hr h => ?_)
  · obtain ⟨p, v, g, a, rfl, _⟩ := h
    rfl
  · obtain ⟨p, v, g, a, rfl, PA, gok, hv, la, k⟩ := h
    obtain ⟨dx, ar, xr, A0⟩ := id PA
    obtain ⟨q, ra, rfl, hq, hra⟩ := row_inv hv
    have s4 := gok.s4
    refine ⟨_, (pss_cons (ps_if (PW.pt (pw_or (pt_not (pt_val (pe_c G_is_pair (hr.mono (by decide)) (by rfl) (pa_cons (pv 2) pa_nil)))) (pw_or (pt_not (pt_val (pe_c G_are_integers (hr.mono (by decide)) (by rfl) (pa_cons (pe_ix (k_ixt K) (pv 2) pe_int (fun _ _ => rfl)) (pa_cons (k_fld K (pv 0) rfl) pa_nil))))) (pw_or1 (pt_not (pt_val (pe_c G_is_integer (hr.mono (by decide)) (by rfl) (pa_cons (pe_ix (k_ixt K) (pv 2) pe_int (fun _ _ => rfl)) pa_nil))))))))
      (pss_one ps_never)
      pss_nil)
    (pss_one (ps_ret (pe_or (pe_cmpR op_eq (pv 1) (pe_gs (by rfl) W.x_BOXES) (nomark _)) (pe_one (pe_callB (k_all K rfl) (by rfl) W.b_all PyProof.Rows.boot_all (pa_cons (pe_lc (own := [("part", 3)]) (g := gName 3) rfl sc.nd (k_pit K (pe_ix (k_ixt K) (pv 2) pe_int (fun _ _ => rfl))) (blkOk_by (N := N_is_right_row) (sc := defScope s_is_right_row) (by decide +kernel))  (fun _ _ _ _ _ => (pg_name (i := 3) sc.nd rfl (Or.inl rfl))) (fun _ _ _ _ _ => pts_nil) (fun _ _ _ _ _ => (pe_cmpR op_ge (pv 3) pe_int (nomark _)))) pa_nil))))))), ?_⟩
    refine ⟨_, rfl, q, _, rfl, hq, ?_⟩
    refine ⟨_, rfl, ?_⟩
    refine iteF ?_
    refine ⟨_, rfl, r_c (r_tgetI (j := 0) hq rfl rfl ?_)⟩
    refine ⟨_, rfl, p, _, _, _, _, rfl, A0.hp, W.cl_Program, W.n_Program_sides, pf_sides, ?_⟩
    refine ⟨ra, a.1, _, rfl, hra, by omega, by omega, fun H1 s1 => ?_⟩
    refine ⟨_, rfl, ?_⟩
    refine iteF ?_
    refine ⟨_, rfl, r_c (r_tgetI (j := 1) (s1 _ _ hq) rfl rfl ?_)⟩
    refine ⟨_, rfl, ?_⟩
    refine ⟨_, rfl, ?_⟩
    refine iteF ?_
    refine ⟨_, rfl, rfl, _, rfl, ?_⟩
    rw [decide_eq_true rfl]
    refine iteT ?_
    exact k _ s1
def spForm (K : PySem.W.Frag) : Sp := fun vs H Q _ => ∃ (p : Addr) (v : V) (g : Prg) (T : Tt), vs = [.ref p, .str "boxes", v] ∧ PrgAt K H p g ∧ g.Ok ∧ TD H v (dT T) ∧ TtB g T ∧ ∀ H', Same H H' → Q (.bl true) H'
/-! has_form: slots 0 program, 1 world, 2 thing, 3 item, 4 number, 5 rows, 6 row; calls ['G_is_integer', 'G_is_pair', 'G_is_right_row'] -/
abbrev N_has_form : List Str := ["program", "world", "thing", "item", "number", "rows", "row"]
theorem sc_has_form : FnScope N_has_form ["program", "world", "thing"] (defScope s_has_form) := ⟨rfl, rfl, rfl, by decide +kernel, rfl, by decide +kernel, by decide +kernel⟩
theorem ok_has_form (W : Wd K mg) : Ok P w K mg base 4 "has_form" ["program", "world", "thing"] (spForm K) := by
  have sc := sc_has_form
  have G_is_pair : Ok P w K mg base 1 "is_pair" ["thing"] (spTup 2) := ok_is_pair W
  have G_is_right_row : Ok P w K mg base 3 "is_right_row" ["program", "world", "thing"] (spRow K) := ok_is_right_row W
  have G_is_integer : Ok P w K mg base 1 "is_integer" ["thing"] spIsInt := ok_is_integer W
  refine Ok.mk' W.F_has_form W.g_has_form sc (fun vs H Q E h => ?_) (fun _ _ _ _ _ _ us hl => match us, hl with | [_, _, _], _ => rfl) (fun cdv A outer s H vs Q E hr h => ?_)
  · obtain ⟨p, v, g, T, rfl, _⟩ := h
    rfl
  · obtain ⟨p, v, g, T, rfl, PA, gok, hv, tb, k⟩ := h
    obtain ⟨dx, ar, xr, A0⟩ := id PA
    obtain ⟨at_, es, rfl, hat, hes⟩ := hv.tup_inv
    have les : es.length = T.length := by rw [hes.length, List.length_map]
    have tl := tb.len
    have t8 := gok.t8
    refine ⟨_, (pss_cons (ps_if (PW.pt (pw_or (pt_not (pt_val (pe_callB (k_isi K) (by rfl) W.b_isinstance PyProof.Rows.boot_isinstance (pa_cons (pv 2) (pa_cons (pe_bltn (v := .ty "tuple") (by rfl) W.b_tuple PyProof.Rows.boot_tuple rfl) pa_nil))))) (pw_or (pt_cmpR op_ne (pe_callB (k_len K) (by rfl) W.b_len PySem.boot_len (pa_cons (pv 2) pa_nil)) (k_fld K (pv 0) rfl) (nomark _)) (pw_or1 (pt_not (pt_val (pe_callB (k_all K rfl) (by rfl) W.b_all PyProof.Rows.boot_all (pa_cons (pe_lc (own := [("item", 3)]) (g := gName 3) rfl sc.nd (k_pit K (pv 2)) (blkOk_by (N := N_has_form) (sc := defScope s_has_form) (by decide +kernel))  (fun _ _ _ _ _ => (pg_name (i := 3) sc.nd rfl (Or.inl rfl))) (fun _ _ _ _ _ => pts_nil) (fun _ _ _ _ _ => (pe_c G_is_pair (hr.mono (by decide)) (by rfl) (pa_cons (pv 3) pa_nil)))) pa_nil))))))))
      (pss_one ps_never)
      pss_nil)
    (pss_cons (ps_for PassesOwn.never rfl (k_pit K (pv 2)) (k_tup K rfl (pgs_cons (pg_name (i := 4) sc.nd rfl (Or.inl rfl)) (pgs_cons (pg_name (i := 5) sc.nd rfl (Or.inl rfl)) pgs_nil)))
      (pss_cons (ps_if (PW.pt (pw_or (pt_not (pt_val (pe_c G_is_integer (hr.mono (by decide)) (by rfl) (pa_cons (pv 4) pa_nil)))) (pw_or (pt_not (pt_val (pe_callB (k_isi K) (by rfl) W.b_isinstance PyProof.Rows.boot_isinstance (pa_cons (pv 5) (pa_cons (pe_bltn (v := .ty "tuple") (by rfl) W.b_tuple PyProof.Rows.boot_tuple rfl) pa_nil))))) (pw_or1 (pt_cmpR op_gt (pe_callB (k_len K) (by rfl) W.b_len PySem.boot_len (pa_cons (pv 5) pa_nil)) (pe_gi (by rfl) W.i_MOST_ROWS) (nomark _))))))
        (pss_one ps_never)
        pss_nil)
      (pss_one (ps_if (pt_not (pt_val (pe_callB (k_all K rfl) (by rfl) W.b_all PyProof.Rows.boot_all (pa_cons (pe_lc (own := [("row", 6)]) (g := gName 6) rfl sc.nd (k_pit K (pv 5)) (blkOk_by (N := N_has_form) (sc := defScope s_has_form) (by decide +kernel))  (fun _ _ _ _ _ => (pg_name (i := 6) sc.nd rfl (Or.inl rfl))) (fun _ _ _ _ _ => pts_nil) (fun _ _ _ _ _ => (pe_c G_is_right_row (hr.mono (by decide)) (by rfl) (pa_cons (pv 0) (pa_cons (pv 1) (pa_cons (pv 6) pa_nil)))))) pa_nil))))
        (pss_one ps_never)
        pss_nil))))
    (pss_one (ps_ret pe_bl)))), ?_⟩
    refine ⟨_, rfl, _, _, _, _, _, rfl, .ty _, .base (.tup hat), kit_tt, ?_⟩
    refine ⟨_, rfl, ?_⟩
    refine iteF ?_
    refine ⟨_, rfl, at_, es, rfl, .inr (SqT.of hat), ?_⟩
    refine ⟨_, rfl, p, _, _, _, _, rfl, A0.hp, W.cl_Program, W.n_Program_tables, pf_tables, ?_⟩
    refine ⟨rfl, _, rfl, ?_⟩
    rw [decide_eq_true (show V.int ((es.length : Nat) : Int) = V.int ((g.tables : Nat) : Int) by rw [les, tl])]
    refine iteF ?_
    refine ⟨_, rfl, at_, rfl, ⟨_, SqT.of hat⟩, fun D hD => ?_⟩
    refine lc_tupG (fun i v _ => v = .bl true) (SqT.of hat) hD (by omega) (fun _ _ _ _ _ h => h) (fun i x H1 acc Qy hx s1 hA z => ⟨rfl, ?_⟩) (fun H1 ys s1 hD1 hl hy => ?_)
    · obtain ⟨d, e1, e2⟩ := hes.get' hx
      rw [List.getElem?_map] at e1
      cases e : T[i]? with
      | none => rw [e] at e1; cases e1
      | some e' =>
        rw [e] at e1
        cases e1
        obtain ⟨q, ra, rows, rfl, hq, _, _⟩ := en_inv e2
        exact ⟨_, rfl, q, _, rfl, s1 _ _ hq, z _ _ Xt.refl hA rfl⟩
    refine ⟨D, List.replicate ys.length true, rfl, SqL.of (by rw [hD1, ← all_true rfl hy]), ?_⟩
    rw [show (List.replicate ys.length true).all id = true by simp]
    refine ⟨_, rfl, ?_⟩
    refine iteF ?_
    refine ⟨_, rfl, at_, rfl, ⟨_, SqT.of (s1 _ _ hat)⟩, ?_⟩
    refine for_tup (K := K) (a := at_) (xs := es) (fun i σ H' => ∃ (v3 v4 v5 v6 : Option V), σ = [some (.ref p), some (.str "boxes"), some (.ref at_), v3, v4, v5, v6] ∧ Same H H')
      ⟨_, _, _, _, rfl, s1⟩ (fun i σ H' _ ⟨_, _, _, _, _, s⟩ => SqT.of (s _ _ hat)) ?_ ?_
    · rintro i x σ H2 hx ⟨v3, v4, v5, v6, rfl, s2⟩
      obtain ⟨d, e1, e2⟩ := hes.get' hx
      rw [List.getElem?_map] at e1
      cases e : T[i]? with
      | none => rw [e] at e1; cases e1
      | some e' =>
        rw [e] at e1
        cases e1
        obtain ⟨q, ra, rows, rfl, hq, hra, hrows⟩ := en_inv e2
        have me := List.mem_of_getElem? e
        have l8 := tb.most e' me
        have lr : rows.length = e'.2.length := by rw [hrows.length, List.length_map]
        refine ⟨q, _, rfl, SqT.of (s2 _ _ hq), rfl, _, _, rfl, _, _, rfl, rfl, ?_⟩
        refine ⟨_, rfl, _, rfl, ?_⟩
        refine ⟨_, rfl, ?_⟩
        refine iteF ?_
        refine ⟨_, rfl, _, _, _, _, _, rfl, .ty _, .base (.tup (s2 _ _ hra)), kit_tt, ?_⟩
        refine ⟨_, rfl, ?_⟩
        refine iteF ?_
        refine ⟨_, rfl, ra, rows, rfl, .inr (SqT.of (s2 _ _ hra)), ?_⟩
        refine ⟨_, _, rfl, rfl, _, rfl, ?_⟩
        rw [decide_eq_false (show ¬ (8 : Int) < ((rows.length : Nat) : Int) by omega)]
        refine iteF ?_
        refine ⟨_, rfl, ra, rfl, ⟨_, SqT.of (s2 _ _ hra)⟩, fun D2 hD2 => ?_⟩
        refine lc_tupG (fun i v _ => v = .bl true) (SqT.of (s2 _ _ hra)) hD2 (by omega) (fun _ _ _ _ _ h => h) (fun j x3 H3 acc Qy hx3 s3 hA z => ⟨rfl, ?_⟩) (fun H3 ys3 s3 hD3 hl3 hy3 => ?_)
        · obtain ⟨d3, f1, f2⟩ := hrows.get' hx3
          rw [List.getElem?_map] at f1
          cases f : e'.2[j]? with
          | none => rw [f] at f1; cases f1
          | some a =>
            rw [f] at f1
            cases f1
            have s03 := s2.trans s3
            refine ⟨_, rfl, _, rfl, _, rfl, p, _, g, a, rfl, PA.mono s03, gok, f2.mono (Tsm.of s03), tb.rl e' me a (List.mem_of_getElem? f), fun H4 s4 => ?_⟩
            exact z _ _ (Xt.of s4) (s4 _ _ hA) rfl
        · refine ⟨D2, List.replicate ys3.length true, rfl, SqL.of (by rw [hD3, ← all_true rfl hy3]), ?_⟩
          rw [show (List.replicate ys3.length true).all id = true by simp]
          refine ⟨_, rfl, ?_⟩
          refine iteF ?_
          exact ⟨_, _, _, _, rfl, s2.trans s3⟩
    · rintro σ H2 ⟨v3, v4, v5, v6, rfl, s2⟩
      exact k _ s2
def spRight (K : PySem.W.Frag) : Sp := fun vs H Q _ => ∃ (p : Addr) (v : V) (g : Prg) (T : Tt), vs = [.ref p, .str "boxes", v] ∧ PrgAt K H p g ∧ g.Ok ∧ TD H v (dT T) ∧ TtB g T ∧ (∀ r ∈ g.rs, lateB T r = true) ∧ ∀ H', Same H H' → Q (.bl true) H'
/-! is_right: slots 0 program, 1 world, 2 thing, 3 number; calls ['G_every', 'G_has_form', 'G_lateness'] -/
abbrev N_is_right : List Str := ["program", "world", "thing", "number"]
theorem sc_is_right : FnScope N_is_right ["program", "world", "thing"] (defScope s_is_right) := ⟨rfl, rfl, rfl, by decide +kernel, rfl, by decide +kernel, by decide +kernel⟩
theorem ok_is_right (W : Wd K mg) : Ok P w K mg base 5 "is_right" ["program", "world", "thing"] (spRight K) := by
  have sc := sc_is_right
  have G_has_form : Ok P w K mg base 4 "has_form" ["program", "world", "thing"] (spForm K) := ok_has_form W
  have G_every : Ok P w K mg base 1 "every" ["program"] (spEvery K) := ok_every W
  have G_lateness : Ok P w K mg base 2 "lateness" ["program", "thing", "number"] (spLate K) := ok_lateness W
  refine Ok.mk' W.F_is_right W.g_is_right sc (fun vs H Q E h => ?_) (fun _ _ _ _ _ _ us hl => match us, hl with | [_, _, _], _ => rfl) (fun cdv A outer s H vs Q E hr h => ?_)
  · obtain ⟨p, v, g, T, rfl, _⟩ := h
    rfl
  · obtain ⟨p, v, g, T, rfl, PA, gok, hv, tb, late, k⟩ := h
    have g24 := gok.n
    refine ⟨_, (pss_cons (ps_if (pt_not (pt_val (pe_c G_has_form (hr.mono (by decide)) (by rfl) (pa_cons (pv 0) (pa_cons (pv 1) (pa_cons (pv 2) pa_nil))))))
      (pss_one ps_never)
      pss_nil)
    (pss_one (ps_ret (pe_callB (k_all K rfl) (by rfl) W.b_all PyProof.Rows.boot_all (pa_cons (pe_lc (own := [("number", 3)]) (g := gName 3) rfl sc.nd (k_pit K (pe_c G_every (hr.mono (by decide)) (by rfl) (pa_cons (pv 0) pa_nil))) (blkOk_by (N := N_is_right) (sc := defScope s_is_right) (by decide +kernel))  (fun _ _ _ _ _ => (pg_name (i := 3) sc.nd rfl (Or.inl rfl))) (fun _ _ _ _ _ => pts_nil) (fun _ _ _ _ _ => (pe_cmpR op_notN (pe_c G_lateness (hr.mono (by decide)) (by rfl) (pa_cons (pv 0) (pa_cons (pv 2) (pa_cons (pv 3) pa_nil)))) pe_non (nomark _)))) pa_nil))))), ?_⟩
    refine ⟨_, rfl, _, rfl, _, rfl, p, v, g, T, rfl, PA, gok, hv, tb, fun H1 s1 => ?_⟩
    refine ⟨_, rfl, ?_⟩
    refine iteF ?_
    refine ⟨_, rfl, p, g, rfl, PA.mono s1, gok, fun ve H2 s2 hve => ?_⟩
    obtain ⟨ae, rfl, hae⟩ := hve.ints
    have s12 := s1.trans s2
    refine ⟨ae, rfl, ⟨_, SqT.of hae⟩, fun D hD => ?_⟩
    refine lc_tupG (fun i v _ => v = .bl true) (SqT.of hae) hD (by simp; omega) (fun _ _ _ _ _ h => h) (fun i x H3 acc Qy hx s3 hA z => ⟨rfl, ?_⟩) (fun H3 ys s3 hD3 hl hy => ?_)
    · obtain ⟨n, hn, rfl⟩ := nats_at hx
      have hnl : n < g.rs.length := List.mem_range.mp (List.mem_of_getElem? hn)
      have s13 := s12.trans s3
      refine ⟨_, rfl, _, rfl, _, rfl, p, v, g, T, n, g.rs[n], rfl, PA.mono s13, gok, hv.mono (Tsm.of s13), tb, List.getElem?_eq_getElem hnl, late _ (List.getElem_mem hnl), fun a H4 s4 => ?_⟩
      refine ⟨rfl, ?_⟩
      exact z _ _ (Xt.of s4) (s4 _ _ hA) rfl
    · refine ⟨D, List.replicate ys.length true, rfl, SqL.of (by rw [hD3, ← all_true rfl hy]), ?_⟩
      rw [show (List.replicate ys.length true).all id = true by simp]
      exact k _ (s12.trans s3)
def spCheckT (K : PySem.W.Frag) : Sp := fun vs H Q _ => ∃ (p : Addr) (v : V) (g : Prg) (T : Tt), vs = [.ref p, v] ∧ PrgAt K H p g ∧ g.Ok ∧ TD H v (dT T) ∧ TtB g T ∧ (∀ r ∈ g.rs, lateB T r = true) ∧ ∀ H', Same H H' → Q .non H'
/-! check_timetable: slots 0 program, 1 thing; calls ['G_is_right'] -/
abbrev N_check_timetable : List Str := ["program", "thing"]
theorem sc_check_timetable : FnScope N_check_timetable ["program", "thing"] (defScope s_check_timetable) := ⟨rfl, rfl, rfl, by decide +kernel, rfl, by decide +kernel, by decide +kernel⟩
theorem ok_check_timetable (W : Wd K mg) : Ok P w K mg base 6 "check_timetable" ["program", "thing"] (spCheckT K) := by
  have sc := sc_check_timetable
  have G_is_right : Ok P w K mg base 5 "is_right" ["program", "world", "thing"] (spRight K) := ok_is_right W
  refine Ok.mk' W.F_check_timetable W.g_check_timetable sc (fun vs H Q E h => ?_) (fun _ _ _ _ _ _ us hl => match us, hl with | [_, _], _ => rfl) (fun cdv A outer s H vs Q E hr h => ?_)
  · obtain ⟨p, v, g, T, rfl, _⟩ := h
    rfl
  · obtain ⟨p, v, g, T, rfl, PA, gok, hv, tb, late, k⟩ := h
    refine ⟨_, (pss_one (ps_if (pt_not (pt_val (pe_c G_is_right (hr.mono (by decide)) (by rfl) (pa_cons (pv 0) (pa_cons (pe_gs (by rfl) W.x_BOXES) (pa_cons (pv 1) pa_nil))))))
      (pss_one ps_never)
      pss_nil)), ?_⟩
    refine ⟨_, rfl, _, rfl, p, v, g, T, rfl, PA, gok, hv, tb, late, fun H1 s1 => ?_⟩
    refine ⟨_, rfl, ?_⟩
    refine iteF ?_
    exact k _ s1
def spCheckB (K : PySem.W.Frag) : Sp := fun vs H Q _ => ∃ (p : Addr) (g : Prg) (t : Nat), vs = [.ref p, .int (t : Int)] ∧ PrgAt K H p g ∧ t < g.tables ∧ Q .non H
/-! check_table: slots 0 program, 1 thing; calls ['G_is_within'] -/
abbrev N_check_table : List Str := ["program", "thing"]
theorem sc_check_table : FnScope N_check_table ["program", "thing"] (defScope s_check_table) := ⟨rfl, rfl, rfl, by decide +kernel, rfl, by decide +kernel, by decide +kernel⟩
theorem ok_check_table (W : Wd K mg) : Ok P w K mg base 3 "check_table" ["program", "thing"] (spCheckB K) := by
  have sc := sc_check_table
  have G_is_within : Ok P w K mg base 2 "is_within" ["thing", "least", "most"] spIsWithin := ok_is_within W
  refine Ok.mk' W.F_check_table W.g_check_table sc (fun vs H Q E h => ?_) (fun _ _ _ _ _ _ us hl => match us, hl with | [_, _], _ => rfl) (fun cdv A outer s H vs Q E hr h => ?_)
  · obtain ⟨p, g, t, rfl, _⟩ := h
    rfl
  · obtain ⟨p, g, t, rfl, ⟨dx, ar, xr, A0⟩, ht, k⟩ := h
    refine ⟨_, (pss_one (ps_if (pt_not (pt_val (pe_c G_is_within (hr.mono (by decide)) (by rfl) (pa_cons (pv 1) (pa_cons pe_int (pa_cons (pe_op op_sub (k_fld K (pv 0) rfl) pe_int) pa_nil))))))
      (pss_one ps_never)
      pss_nil)), ?_⟩
    refine ⟨_, rfl, ?_⟩
    refine ⟨_, rfl, p, _, _, _, _, rfl, A0.hp, W.cl_Program, W.n_Program_tables, pf_tables, ?_⟩
    refine ⟨_, _, rfl, rfl, ?_⟩
    refine ⟨_, _, _, rfl, ?_⟩
    rw [decide_eq_true (show (0 : Int) ≤ (t : Int) ∧ (t : Int) ≤ ((g.tables : Nat) : Int) - 1 by omega)]
    refine ⟨_, rfl, ?_⟩
    refine iteF ?_
    exact k
def timeI (T : Tt) (t : Nat) (pt : List Int) : List Int := tN T t :: (tR T t).map fun a => dotI a.1 pt + a.2
def spTimeAt (K : PySem.W.Frag) : Sp := fun vs H Q _ => ∃ (p : Addr) (v u : V) (g : Prg) (T : Tt) (t : Nat) (pt : List Int), vs = [.ref p, v, .int (t : Int), u] ∧ PrgAt K H p g ∧ g.Ok ∧ TD H v (dT T) ∧ TtB g T ∧ (∀ r ∈ g.rs, lateB T r = true) ∧ t < g.tables ∧ TD H u (dI pt) ∧
  pt.length = g.sides ∧ (∀ x ∈ pt, Bits 400000 x) ∧ ∀ v' H', Same H H' → TD H' v' (dI (timeI T t pt)) → Q v' H'
/-! time_at: slots 0 program, 1 timetable, 2 table, 3 point, 4 number, 5 rows, 6 row, 7 more; calls ['G_are_integers', 'G_check_table', 'G_check_timetable', 'G_dot'] -/
abbrev N_time_at : List Str := ["program", "timetable", "table", "point", "number", "rows", "row", "more"]
theorem sc_time_at : FnScope N_time_at ["program", "timetable", "table", "point"] (defScope s_time_at) := ⟨rfl, rfl, rfl, by decide +kernel, rfl, by decide +kernel, by decide +kernel⟩
theorem ok_time_at (W : Wd K mg) : Ok P w K mg base 7 "time_at" ["program", "timetable", "table", "point"] (spTimeAt K) := by
  have sc := sc_time_at
  have G_are_integers : Ok P w K mg base 2 "are_integers" ["thing", "many"] spAreInts := ok_are_integers W
  have G_check_table : Ok P w K mg base 3 "check_table" ["program", "thing"] (spCheckB K) := ok_check_table W
  have G_check_timetable : Ok P w K mg base 6 "check_timetable" ["program", "thing"] (spCheckT K) := ok_check_timetable W
  have G_dot : Ok P w K mg base 1 "dot" ["row", "step"] spDot := ok_dot W
  refine Ok.mk' W.F_time_at W.g_time_at sc (fun vs H Q E h => ?_) (fun _ _ _ _ _ _ us hl => match us, hl with | [_, _, _, _], _ => rfl) (fun cdv A outer s H vs Q E hr h => ?_)
  · obtain ⟨p, v, u, g, T, t, pt, rfl, _⟩ := h
    rfl
  · obtain ⟨p, v, u, g, T, t, pt, rfl, PA, gok, hv, tb, late, ht, hu, lpt, bpt, k⟩ := h
    obtain ⟨at_, es, rfl, hat, hes⟩ := id hv.tup_inv
    obtain ⟨au, rfl, hau⟩ := id hu.ints
    have tl := tb.len
    have g4 := gok.s4
    obtain ⟨e, he⟩ : ∃ e, T[t]? = some e := ⟨_, List.getElem?_eq_getElem (by omega)⟩
    have me := List.mem_of_getElem? he
    obtain ⟨ve, hve, tve⟩ := hes.get (i := t) (d := dEn e) (by rw [List.getElem?_map, he]; rfl)
    obtain ⟨q, ra, rows, rfl, hq, hra, hrows⟩ := en_inv tve
    have lr : rows.length = e.2.length := by rw [hrows.length, List.length_map]
    have l8 := tb.most e me
    refine ⟨_, (pss_cons (ps_expr (pe_c G_check_timetable (hr.mono (by decide)) (by rfl) (pa_cons (pv 0) (pa_cons (pv 1) pa_nil))))
    (pss_cons (ps_expr (pe_c G_check_table (hr.mono (by decide)) (by rfl) (pa_cons (pv 0) (pa_cons (pv 2) pa_nil))))
    (pss_cons (ps_if (pt_not (pt_val (pe_c G_are_integers (hr.mono (by decide)) (by rfl) (pa_cons (pv 3) (pa_cons (k_fld K (pv 0) rfl) pa_nil)))))
      (pss_one ps_never)
      pss_nil)
    (pss_cons (ps_asg (pe_ix (k_ixt K) (pv 1) (pv 2) (fun _ _ => rfl)) (k_tup K rfl (pgs_cons (pg_name (i := 4) sc.nd rfl (Or.inl rfl)) (pgs_cons (pg_name (i := 5) sc.nd rfl (Or.inl rfl)) pgs_nil))))
    (pss_one (ps_ret (pe_op (k_catA K) (pe_tup (pa_cons (pv 4) pa_nil)) (pe_callTy (k_tupof K) (by rfl) W.b_tuple PyProof.Rows.boot_tuple (pa_cons (pe_lc (own := [("row", 6), ("more", 7)]) (g := gTup K 2 (gCons (gName 6) (gCons (gName 7) gNil))) rfl sc.nd (k_pit K (pv 5)) (blkOk_by (N := N_time_at) (sc := defScope s_time_at) (by decide +kernel))  (fun _ _ _ _ _ => (k_tup K rfl (pgs_cons (pg_name (i := 6) sc.nd rfl (Or.inl rfl)) (pgs_cons (pg_name (i := 7) sc.nd rfl (Or.inl rfl)) pgs_nil)))) (fun _ _ _ _ _ => pts_nil) (fun _ _ _ _ _ => (pe_op op_add (pe_c G_dot (hr.mono (by decide)) (by rfl) (pa_cons (pv 6) (pa_cons (pv 3) pa_nil))) (pv 7)))) pa_nil))))))))), ?_⟩
    refine ⟨_, rfl, _, rfl, p, _, g, T, rfl, PA, gok, hv, tb, late, fun H1 s1 => ?_⟩
    refine ⟨_, rfl, _, rfl, p, g, t, rfl, PA.mono s1, ht, ?_⟩
    obtain ⟨dx, ar, xr, A1⟩ := PA.mono s1
    refine ⟨_, rfl, ?_⟩
    refine ⟨_, rfl, p, _, _, _, _, rfl, A1.hp, W.cl_Program, W.n_Program_sides, pf_sides, ?_⟩
    refine ⟨au, pt, _, rfl, s1 _ _ hau, by omega, by omega, fun H2 s2 => ?_⟩
    have s12 := s1.trans s2
    refine ⟨_, rfl, ?_⟩
    refine iteF ?_
    refine ⟨_, rfl, _, rfl, r_tget (j := t) (s12 _ _ hat) hve ?_⟩
    refine ⟨q, _, rfl, SqT.of (s12 _ _ hq), rfl, _, _, rfl, _, _, rfl, rfl, ?_⟩
    refine ⟨_, rfl, by show 1 ≤ sizeLine; decide, fun N hN => ?_⟩
    have s3 : Same H2 (upd H2 N (.tup [.int e.1])) := Same.upd hN
    have hN3 : (upd H2 N (.tup [.int e.1])) N = some (.tup [.int e.1]) := upd_same
    generalize upd H2 N (.tup [.int e.1]) = H3 at *
    have s13 := s12.trans s3
    refine ⟨_, rfl, ra, rfl, ⟨_, SqT.of (s13 _ _ hra)⟩, fun D hD => ?_⟩
    refine lc_tupG (fun i v _ => ∃ a, e.2[i]? = some a ∧ v = .int (dotI a.1 pt + a.2)) (SqT.of (s13 _ _ hra)) hD (by omega) (fun _ _ _ _ _ h => h) (fun j x H4 acc Qy hx s4 hA z => ?_) (fun H4 ys s4 hD4 hl hy => ?_)
    · obtain ⟨d, f1, f2⟩ := hrows.get' hx
      rw [List.getElem?_map] at f1
      cases f : e.2[j]? with
      | none => rw [f] at f1; cases f1
      | some a =>
        rw [f] at f1
        cases f1
        have ma := List.mem_of_getElem? f
        obtain ⟨q2, ra2, rfl, hq2, hra2⟩ := row_inv f2
        have s14 := s13.trans s4
        have la := tb.rl e me a ma
        refine ⟨q2, _, rfl, SqT.of (s14 _ _ hq2), rfl, _, _, rfl, _, _, rfl, rfl, rfl, ?_⟩
        refine ⟨_, rfl, _, rfl, ra2, au, a.1, pt, rfl, s14 _ _ hra2, s14 _ _ hau, by omega, (tb.bits e me a ma).2, bpt, fun H5 s5 => ?_⟩
        refine ⟨_, rfl, _, _, rfl, rfl, ?_⟩
        exact z _ _ (Xt.of s5) (s5 _ _ hA) ⟨a, f, rfl⟩
    · have ey : ys = (e.2.map fun a => dotI a.1 pt + a.2).map V.int := by
        rw [List.map_map]
        exact eq_map (by rw [hl, lr]) fun j y w => let ⟨a, h1, h2⟩ := hy j y w; ⟨a, h1, h2⟩
      rw [ey] at hD4
      refine ⟨D, _, rfl, .inl ⟨SqL.of hD4, fun l hl2 => ?_⟩⟩
      have s5 : Same H4 (upd H4 l (.tup ((e.2.map fun a => dotI a.1 pt + a.2).map V.int))) := Same.upd hl2
      have hl5 : (upd H4 l (.tup ((e.2.map fun a => dotI a.1 pt + a.2).map V.int))) l = some (.tup ((e.2.map fun a => dotI a.1 pt + a.2).map V.int)) := upd_same
      generalize upd H4 l (.tup ((e.2.map fun a => dotI a.1 pt + a.2).map V.int)) = H5 at *
      have t1 : TD H5 (.ref N) (.tuple [.int e.1]) := .tup (s5 _ _ (s4 _ _ hN3)) (.cons (.int _) .nil)
      refine r_catD (K := K) t1 (.of_ints hl5) (by simp; omega) fun v' H6 s6 hv' => ?_
      refine k v' H6 (((s13.trans s4).trans s5).trans s6) ?_
      have et : timeI T t pt = e.1 :: e.2.map fun a => dotI a.1 pt + a.2 := by
        unfold timeI tN tR
        rw [List.getD_eq_getElem?_getD, he]; rfl
      rw [et]
      exact hv'
end
end TN
set_option Elab.async false
set_option linter.all false
set_option maxRecDepth 100000
set_option maxHeartbeats 4000000
/-! W29: is_reading, Program. -/
namespace TN
open PySem PySem.Spec PyProof.Rows L2
/-! ### item <= previous, of readings -/
def leI (ns ms : List Int) : Bool := Ob.lexAt (fun j => decide (ns.getD j 0 = ms.getD j 0)) (fun j => decide (ns.getD j 0 ≤ ms.getD j 0)) (decide (ns.length ≤ ms.length)) 0 (min ns.length ms.length)
def eRd (r r' : Rd) : Nat → Bool
  | 0 => decide ((r.x : Int) = r'.x)
  | 1 => decide ((r.y : Int) = r'.y)
  | _ => PyData.eqv (dI r.s) (dI r'.s)
def oRd (r r' : Rd) : Nat → Bool
  | 0 => decide ((r.x : Int) ≤ r'.x)
  | 1 => decide ((r.y : Int) ≤ r'.y)
  | _ => leI r.s r'.s
def leRd (r r' : Rd) : Bool := Ob.lexAt (eRd r r') (oRd r r') true 0 3
theorem int_eqAt {A : Around} {s : Shared} (a b : Int) (t u : Tok) : SeqAt.EqAt A s (.int a t) (.int b u) (decide (a = b)) := by
  have z : (a == b) = decide (a = b) := by
    by_cases q : a = b
    · rw [decide_eq_true q]; exact beq_iff_eq.mpr q
    · rw [decide_eq_false q]; exact beq_eq_false_iff_ne.mpr q
  rw [← z]
  exact SeqAt.EqAt.int_int _ _ _ _
theorem leInts {A : Around} {s : Shared} {l b : Addr} {its its2 : List Value} {ns ms : List Int} (h1 : s.heap.IsTuple l its.toArray) (h2 : s.heap.IsTuple b its2.toArray) (i1 : IntsAre its ns) (i2 : IntsAre its2 ms) (hu : A.units < cLine) : Ob.RcOp .LtE A s (.ref l) (.ref b) (leI ns ms) := by
  have e1 : its.toArray.size = ns.length := by rw [List.size_toArray]; exact i1.length
  have e2 : its2.toArray.size = ms.length := by rw [List.size_toArray]; exact i2.length
  have at1 : ∀ j (h1 : j < its.toArray.size), ∃ t, its.toArray[j] = .int (ns.getD j 0) t := fun j h1 => PyProof.Rows.IntsAre.int_at i1 _ _ (by simp at h1; simp [h1])
  have at2 : ∀ j (h1 : j < its2.toArray.size), ∃ t, its2.toArray[j] = .int (ms.getD j 0) t := fun j h1 => PyProof.Rows.IntsAre.int_at i2 _ _ (by simp at h1; simp [h1])
  have R := Ob.RcOp.tuples_le (A := A) (s := s) (e := fun j => decide (ns.getD j 0 = ms.getD j 0)) (r := fun j => decide (ns.getD j 0 ≤ ms.getD j 0)) h1 h2 hu (fun j h1 h2 => by
    obtain ⟨t, et⟩ := at1 j h1
    obtain ⟨t', et'⟩ := at2 j h2
    rw [et, et']
    exact int_eqAt _ _ _ _) (fun j h1 h2 _ => by
    obtain ⟨t, et⟩ := at1 j h1
    obtain ⟨t', et'⟩ := at2 j h2
    rw [et, et']
    exact Ob.RcOp.le_int _ _ _ _)
  rw [e1, e2] at R
  exact R
theorem alike_intsI (as bs : List Int) : PySem.W.alikeAll (as.map .int) (bs.map .int) = true := by
  induction as generalizing bs with
  | nil => cases bs <;> rfl
  | cons a as ih =>
    cases bs with
    | nil => rfl
    | cons b bs =>
      show (PySem.W.alike (.int _) (.int _) && PySem.W.alikeAll (as.map .int) (bs.map .int)) = true
      rw [ih]; rfl
theorem lexAt_shift (e r : Nat → Bool) (z : Bool) : ∀ k i, Ob.lexAt e r z (i + 1) k = Ob.lexAt (fun j => e (j + 1)) (fun j => r (j + 1)) z i k
  | 0, i => rfl
  | k + 1, i => by rw [Ob.lexAt_succ, Ob.lexAt_succ, lexAt_shift e r z k (i + 1)]
theorem leI_cons (a b : Int) (ns ms : List Int) : leI (a :: ns) (b :: ms) = if a = b then leI ns ms else decide (a ≤ b) := by
  unfold leI
  rw [show min (a :: ns).length (b :: ms).length = min ns.length ms.length + 1 by simp [List.length_cons], Ob.lexAt_succ, lexAt_shift]
  show (if decide (a = b) = true then _ else decide (a ≤ b)) = _
  by_cases z : a = b
  · rw [if_pos (decide_eq_true z), if_pos z]
    congr 1
    simp
  · rw [if_neg (by intro q; exact z (of_decide_eq_true q)), if_neg z]
theorem int_data (a b : Int) : PyData.eqv (.int a) (.int b) = decide (a = b) := by
  rw [PyData.eqv, Bool.eq_iff_iff]; simp
/-- of lists of ints of one length, not the same -/
theorem leI_lt : ∀ (ns ms : List Int), ns.length = ms.length → ns ≠ ms → leI ns ms = PySem.W.dataLt (dI ns) (dI ms)
  | [], [], _, h => (h rfl).elim
  | [], _ :: _, h, _ => by simp at h
  | _ :: _, [], h, _ => by simp at h
  | a :: ns, b :: ms, h, hn => by
    rw [leI_cons, PySem.W.dataLt_tuple, List.map_cons, List.map_cons]
    by_cases z : a = b
    · have e : PyData.eqv (.int a) (.int b) = true := by rw [int_data]; exact decide_eq_true z
      rw [if_pos z, PySem.W.dataLt_all_yes rfl e, leI_lt ns ms (by simpa using h) (fun q => hn (by rw [z, q])), PySem.W.dataLt_tuple]
    · have e : PyData.eqv (.int a) (.int b) = false := by rw [int_data]; exact decide_eq_false z
      rw [if_neg z, PySem.W.dataLt_all_no rfl e, PySem.W.dataLt_int]
      exact decide_eq_decide.mpr (by omega)
theorem leRd_lt {r r' : Rd} (hl : r.s.length = r'.s.length) (hn : dRd r ≠ dRd r') : leRd r r' = PySem.W.dataLt (dRd r) (dRd r') := by
  unfold leRd
  rw [Ob.lexAt_succ, Ob.lexAt_succ, Ob.lexAt_succ, Ob.lexAt_zero, PySem.W.dataLt_tuple]
  show (if decide ((r.x : Int) = r'.x) = true then (if decide ((r.y : Int) = r'.y) = true then (if PyData.eqv (dI r.s) (dI r'.s) = true then true else leI r.s r'.s) else decide ((r.y : Int) ≤ r'.y)) else decide ((r.x : Int) ≤ r'.x)) = _
  by_cases z : (r.x : Int) = r'.x
  · have e : PyData.eqv (.int (r.x : Int)) (.int (r'.x : Int)) = true := by rw [int_data]; exact decide_eq_true z
    rw [if_pos (decide_eq_true z), PySem.W.dataLt_all_yes rfl e]
    by_cases z2 : (r.y : Int) = r'.y
    · have e2 : PyData.eqv (.int (r.y : Int)) (.int (r'.y : Int)) = true := by rw [int_data]; exact decide_eq_true z2
      rw [if_pos (decide_eq_true z2), PySem.W.dataLt_all_yes rfl e2]
      have ns : r.s ≠ r'.s := fun q => hn (by show PyData.tuple [.int _, .int _, dI _] = .tuple [.int _, .int _, dI _]; rw [z, z2, q])
      have e3 : PyData.eqv (dI r.s) (dI r'.s) = false := by rw [eqv_dI]; exact decide_eq_false ns
      rw [if_neg (by rw [e3]; decide), PySem.W.dataLt_all_no (show PySem.W.alike (dI r.s) (dI r'.s) = true from alike_intsI _ _) e3]
      exact leI_lt _ _ hl ns
    · have e2 : PyData.eqv (.int (r.y : Int)) (.int (r'.y : Int)) = false := by rw [int_data]; exact decide_eq_false z2
      rw [if_neg (by intro q; exact z2 (of_decide_eq_true q)), PySem.W.dataLt_all_no rfl e2, PySem.W.dataLt_int]
      exact decide_eq_decide.mpr (by omega)
  · have e : PyData.eqv (.int (r.x : Int)) (.int (r'.x : Int)) = false := by rw [int_data]; exact decide_eq_false z
    rw [if_neg (by intro q; exact z (of_decide_eq_true q)), PySem.W.dataLt_all_no rfl e, PySem.W.dataLt_int]
    exact decide_eq_decide.mpr (by omega)
def rLeRd : R2 := fun x y H Q => ∃ r r', TD H x (dRd r) ∧ TD H y (dRd r') ∧ Q (.bl (leRd r r')) H
theorem op_leTD {X : Cx} {k : Nat} (hr : Room k X.A) : OpR X (compareOp .LtE) rLeRd := by
  intro pins s σ H x y v u Q I rx ry h
  obtain ⟨r, r', hx, hy, q⟩ := h
  obtain ⟨px, sx, rfl, hpx, hsx⟩ := rd_inv hx
  obtain ⟨py, sy, rfl, hpy, hsy⟩ := rd_inv hy
  cases rx
  cases ry
  have hu := hr.units
  obtain ⟨its, v1, p1, _⟩ := I.tuple (SqT.of hpx)
  obtain ⟨its2, v2, p2, _⟩ := I.tuple (SqT.of hpy)
  obtain ⟨js, w1, q1, _⟩ := I.tuple (SqT.of hsx)
  obtain ⟨js2, w2, q2, _⟩ := I.tuple (SqT.of hsy)
  cases v1 with | cons a1 v1 => ?_
  cases v1 with | cons a2 v1 => ?_
  cases v1 with | cons a3 v1 => ?_
  cases v1
  cases v2 with | cons b1 v2 => ?_
  cases v2 with | cons b2 v2 => ?_
  cases v2 with | cons b3 v2 => ?_
  cases v2
  obtain ⟨t1, rfl⟩ := a1
  obtain ⟨t2, rfl⟩ := a2
  cases a3
  obtain ⟨t1', rfl⟩ := b1
  obtain ⟨t2', rfl⟩ := b2
  cases b3
  obtain ⟨as, rd1⟩ := Dp.reads I (dI r.s) (.ref sx) (.ref sx) (TD.of_ints hsx).dp rfl
  obtain ⟨bs, rd2⟩ := Dp.reads I (dI r'.s) (.ref sy) (.ref sy) (TD.of_ints hsy).dp rfl
  have al : PySem.W.alike (dI r.s) (dI r'.s) = true := alike_intsI _ _
  have R := Ob.RcOp.tuples_le (A := X.A) (s := s) (e := eRd r r') (r := oRd r r') p1 p2 hr.units0 (fun j h1 h2 => by
    match j, h1 with
    | 0, _ => exact int_eqAt _ _ _ _
    | 1, _ => exact int_eqAt _ _ _ _
    | 2, _ => exact PySem.W.eqAt_alike _ _ _ _ _ _ _ _ rd1 rd2 al (by rw [depth_dI, depth_dI]; show X.A.units + 1 + min 1 1 < cLine; omega)
    | j + 3, h => have h3 : j + 3 < 3 := h; omega) (fun j h1 h2 _ => by
    match j, h1 with
    | 0, _ => exact Ob.RcOp.le_int _ _ _ _
    | 1, _ => exact Ob.RcOp.le_int _ _ _ _
    | 2, _ => exact leInts q1 q2 w1.ints w2.ints (by show X.A.units + 1 < cLine; omega)
    | j + 3, h => have h3 : j + 3 < 3 := h; omega)
  exact R X.prog X.w X.xe (EP X pins σ Q) ⟨.bl _, H, I, rfl, q⟩
section
variable {P : Program} {w : World} {K : PySem.W.Frag} {mg : Str → Option Value} {base : Heap}
def RdOk (sides tables : Nat) (r : Rd) : Prop := r.x < tables ∧ r.y < tables ∧ r.s.length = sides ∧ ∀ c ∈ r.s, -(10 ^ 12) ≤ c ∧ c ≤ 10 ^ 12
def spIsRd : Sp := fun vs H Q _ => ∃ (sides tables : Nat) (v : V) (r : Rd), vs = [.int (sides : Int), .int (tables : Int), v] ∧ TD H v (dRd r) ∧ RdOk sides tables r ∧ sides ≤ 4 ∧ ∀ H', Same H H' → Q (.bl true) H'
/-! is_reading: slots 0 sides, 1 tables, 2 thing; calls ['G_are_within', 'G_is_triple', 'G_is_within'] -/
abbrev N_is_reading : List Str := ["sides", "tables", "thing"]
theorem sc_is_reading : FnScope N_is_reading ["sides", "tables", "thing"] (defScope s_is_reading) := ⟨rfl, rfl, rfl, by decide +kernel, rfl, by decide +kernel, by decide +kernel⟩
theorem ok_is_reading (W : Wd K mg) : Ok P w K mg base 4 "is_reading" ["sides", "tables", "thing"] spIsRd := by
  have sc := sc_is_reading
  have G_is_triple : Ok P w K mg base 1 "is_triple" ["thing"] (spTup 3) := ok_is_triple W
  have G_is_within : Ok P w K mg base 2 "is_within" ["thing", "least", "most"] spIsWithin := ok_is_within W
  have G_are_within : Ok P w K mg base 3 "are_within" ["thing", "many", "least", "most"] spAreWithin := ok_are_within W
  refine Ok.mk' W.F_is_reading W.g_is_reading sc (fun vs H Q E h => ?_) (fun _ _ _ _ _ _ us hl => match us, hl with | [_, _, _], _ => rfl) (fun cdv A outer s H vs Q E hr h => ?_)
  · obtain ⟨sides, tables, v, r, rfl, _⟩ := h
    rfl
  · obtain ⟨sides, tables, v, r, rfl, hv, ⟨rx, ry, rl, rb⟩, s4, k⟩ := h
    obtain ⟨q, sa, rfl, hq, hsa⟩ := rd_inv hv
    refine ⟨_, (pss_cons (ps_if (PW.pt (pw_or (pt_not (pt_val (pe_c G_is_triple (hr.mono (by decide)) (by rfl) (pa_cons (pv 2) pa_nil)))) (pw_or (pt_not (pt_val (pe_c G_is_within (hr.mono (by decide)) (by rfl) (pa_cons (pe_ix (k_ixt K) (pv 2) pe_int (fun _ _ => rfl)) (pa_cons pe_int (pa_cons (pe_op op_sub (pv 1) pe_int) pa_nil)))))) (pw_or1 (pt_not (pt_val (pe_c G_is_within (hr.mono (by decide)) (by rfl) (pa_cons (pe_ix (k_ixt K) (pv 2) pe_int (fun _ _ => rfl)) (pa_cons pe_int (pa_cons (pe_op op_sub (pv 1) pe_int) pa_nil))))))))))
      (pss_one ps_never)
      pss_nil)
    (pss_one (ps_ret (pe_c G_are_within (hr.mono (by decide)) (by rfl) (pa_cons (pe_ix (k_ixt K) (pv 2) pe_int (fun _ _ => rfl)) (pa_cons (pv 0) (pa_cons (pe_un un_neg (pe_gi (by rfl) W.i_MOST_STEP)) (pa_cons (pe_gi (by rfl) W.i_MOST_STEP) pa_nil)))))))), ?_⟩
    refine ⟨_, rfl, q, _, rfl, hq, ?_⟩
    refine ⟨_, rfl, ?_⟩
    refine iteF ?_
    refine ⟨_, rfl, r_c (r_tgetI (j := 0) hq rfl rfl ?_)⟩
    refine ⟨_, rfl, _, _, rfl, rfl, _, _, _, rfl, ?_⟩
    rw [decide_eq_true (show (0 : Int) ≤ (r.x : Int) ∧ (r.x : Int) ≤ (tables : Int) - 1 by omega)]
    refine ⟨_, rfl, ?_⟩
    refine iteF ?_
    refine ⟨_, rfl, r_c (r_tgetI (j := 1) hq rfl rfl ?_)⟩
    refine ⟨_, rfl, _, _, rfl, rfl, _, _, _, rfl, ?_⟩
    rw [decide_eq_true (show (0 : Int) ≤ (r.y : Int) ∧ (r.y : Int) ≤ (tables : Int) - 1 by omega)]
    refine ⟨_, rfl, ?_⟩
    refine iteF ?_
    refine ⟨_, rfl, r_c (r_tgetI (j := 2) hq rfl rfl ?_)⟩
    refine ⟨_, rfl, ?_⟩
    refine ⟨_, rfl, ?_⟩
    refine ⟨sa, r.s, _, _, _, rfl, hsa, by omega, by omega, fun c hc => rb c hc, fun H' s' => ?_⟩
    exact k _ s'
/-- a loop over enumerate(tuple) -/
theorem for_enumT {K : PySem.W.Frag} {a : Addr} {xs : List V} {g : TG} {tb : L2.TS} {D : Ends} {σ : L2.St} {H : Hp} (Pv : Nat → L2.St → Hp → Prop) (h0 : Pv 0 σ H) (hq : ∀ i σ H, Pv i σ H → SqT K H a xs)
    (hs : ∀ (i : Nat) (x : V) (P : Addr) (σ : L2.St) (H : Hp), xs[i]? = some x → Pv i σ H → H P = none → g (.ref P) σ (upd H P (.tup [.int (i : Nat), x])) fun σ2 H2 => tb { D with nx := Pv (i + 1), ct := Pv (i + 1), bk := D.nx } σ2 H2)
    (hd : ∀ σ H, Pv xs.length σ H → D.nx σ H) :
    ∃ W : Nat → Nat → L2.St → Hp → Prop, (∃ m, W 0 m σ H) ∧ ∀ i m σ H, W i m σ H →
      ((ItEt K a).stop i H ∧ D.nx σ H) ∨ ((ItEt K a).go i H ∧ ∃ N : L2.St → Hp → Prop, (∀ σ' H', N σ' H' → ∃ m', m' < m ∧ W (i + 1) m' σ' H') ∧ ∀ v H', (ItEt K a).yld i H v H' → g v σ H' fun σ2 H2 => tb { D with nx := N, ct := N, bk := D.nx } σ2 H2) := by
  refine ⟨fun i m σ H => m = xs.length - i ∧ i ≤ xs.length ∧ Pv i σ H, ⟨xs.length, rfl, Nat.zero_le _, h0⟩, ?_⟩
  rintro i m σ H ⟨rfl, hi, p⟩
  have qx := hq i σ H p
  by_cases hlt : i < xs.length
  · have hx : xs[i]? = some xs[i] := List.getElem?_eq_getElem hlt
    refine .inr ⟨⟨xs, _, qx, hx⟩, Pv (i + 1), fun σ' H' p' => ⟨xs.length - (i + 1), by omega, rfl, hlt, p'⟩, fun v H' y => ?_⟩
    obtain ⟨P, x', G, ⟨e1, f1⟩, hP, e2, e3⟩ := y
    rw [e1] at hP e3
    subst e2 e3
    exact hs i x' P σ H (f1 xs qx) p hP
  · have e : i = xs.length := by omega
    subst e
    exact .inl ⟨⟨xs, qx, Nat.le_refl _⟩, hd σ H p⟩
theorem upd2 {H : Hp} {p : Addr} {a b : HO} : upd (upd H p a) p b = upd H p b := by
  funext x
  by_cases z : x = p
  · subst z; rw [upd_same, upd_same]
  · rw [upd_ne z, upd_ne z, upd_ne z]
def spKeep (K : PySem.W.Frag) : Sp := fun vs H Q _ => ∃ (p dx ar : Addr) (sides tables : Nat), vs = [.ref p, .int (sides : Int), .int (tables : Int), .ref ar] ∧ H p = some (.ins (He.ga K "Program") dx []) ∧ Q .non (upd H p (.ins (He.ga K "Program") dx (pfs sides tables ar)))
/-! Program.keep: slots 0 self, 1 sides, 2 tables, 3 readings; calls [] -/
abbrev N_Program_keep : List Str := ["self", "sides", "tables", "readings"]
theorem sc_Program_keep : FnScope N_Program_keep ["self", "sides", "tables", "readings"] (defScope s_Program_keep) := ⟨rfl, rfl, rfl, by decide +kernel, rfl, by decide +kernel, by decide +kernel⟩
theorem ok_Program_keep (W : Wd K mg) : OkM P w K mg base 1 "Program" "keep" ["self", "sides", "tables", "readings"] (spKeep K) := by
  have sc := sc_Program_keep
  refine OkM.mk' W.F_Program_keep sc (fun vs H Q E h => ?_) (fun _ _ _ _ _ _ us hl => match us, hl with | [_, _, _, _], _ => rfl) (fun cdv A outer s H vs Q E hr h => ?_)
  · obtain ⟨p, dx, ar, sides, tables, rfl, _⟩ := h
    rfl
  · obtain ⟨p, dx, ar, sides, tables, rfl, hp, k⟩ := h
    refine ⟨_, (pss_cons (ps_fld (pv 0) (pv 1) rfl)
    (pss_cons (ps_fld (pv 0) (pv 2) rfl)
    (pss_one (ps_fld (pv 0) (pv 3) rfl)))), ?_⟩
    refine ⟨_, rfl, _, rfl, p, _, _, _, rfl, hp, W.cl_Program, W.n_Program_sides, by decide, ?_⟩
    refine ⟨_, rfl, _, rfl, p, _, _, _, rfl, upd_same, W.cl_Program, W.n_Program_tables, (show 1 < 1000 by decide), ?_⟩
    refine ⟨_, rfl, _, rfl, p, _, _, _, rfl, upd_same, W.cl_Program, W.n_Program_readings, (show 2 < 1000 by decide), ?_⟩
    rw [upd2, upd2]
    exact k
def spPInit (K : PySem.W.Frag) : Sp := fun vs H Q _ => ∃ (G : Hp) (p dx : Addr) (v : V) (g : Prg), vs = [.ref p, .int (g.sides : Int), .int (g.tables : Int), v] ∧ Same G H ∧ G p = none ∧ H p = some (.ins (He.ga K "Program") dx []) ∧ TD G v (.tuple (g.rs.map dRd)) ∧ g.Ok ∧
  (∀ (i : Nat) (r r' : Rd), g.rs[i]? = some r → g.rs[i + 1]? = some r' → leRd r' r = false) ∧ ∀ H', Same G H' → PrgAt K H' p g → Q .non H'
/-! Program.__init__: slots 0 self, 1 sides, 2 tables, 3 readings, 4 number, 5 item; calls ['G_is_reading', 'G_is_within', 'M_Program_keep'] -/
abbrev N_Program_init : List Str := ["self", "sides", "tables", "readings", "number", "item"]
theorem sc_Program_init : FnScope N_Program_init ["self", "sides", "tables", "readings"] (defScope s_Program_init) := ⟨rfl, rfl, rfl, by decide +kernel, rfl, by decide +kernel, by decide +kernel⟩
theorem ok_Program_init (W : Wd K mg) : OkM P w K mg base 5 "Program" "__init__" ["self", "sides", "tables", "readings"] (spPInit K) := by
  have sc := sc_Program_init
  have G_is_within : Ok P w K mg base 2 "is_within" ["thing", "least", "most"] spIsWithin := ok_is_within W
  have G_is_reading : Ok P w K mg base 4 "is_reading" ["sides", "tables", "thing"] spIsRd := ok_is_reading W
  have M_Program_keep : OkM P w K mg base 1 "Program" "keep" ["self", "sides", "tables", "readings"] (spKeep K) := ok_Program_keep W
  refine OkM.mk' W.F_Program_init sc (fun vs H Q E h => ?_) (fun _ _ _ _ _ _ us hl => match us, hl with | [_, _, _, _], _ => rfl) (fun cdv A outer s H vs Q E hr h => ?_)
  · obtain ⟨G, p, dx, v, g, rfl, _⟩ := h
    rfl
  · obtain ⟨G, p, dx, v, g, rfl, S0, p0, hp, hv, gok, asc, k⟩ := h
    obtain ⟨ar, xr, rfl, har, hxr⟩ := id hv.tup_inv
    have lxr : xr.length = g.rs.length := by rw [hxr.length, List.length_map]
    have s1 := gok.s1
    have s4 := gok.s4
    have t1 := gok.t1
    have t8 := gok.t8
    have g24 := gok.n
    have har0 := S0 _ _ har
    refine ⟨_, (pss_cons (ps_if (pt_not (pt_val (pe_c G_is_within (hr.mono (by decide)) (by rfl) (pa_cons (pv 1) (pa_cons pe_int (pa_cons (pe_gi (by rfl) W.i_MOST_SIDES) pa_nil))))))
      (pss_one ps_never)
      pss_nil)
    (pss_cons (ps_if (pt_not (pt_val (pe_c G_is_within (hr.mono (by decide)) (by rfl) (pa_cons (pv 2) (pa_cons pe_int (pa_cons (pe_gi (by rfl) W.i_MOST_TABLES) pa_nil))))))
      (pss_one ps_never)
      pss_nil)
    (pss_cons (ps_if (PW.pt (pw_or (pt_not (pt_val (pe_callB (k_isi K) (by rfl) W.b_isinstance PyProof.Rows.boot_isinstance (pa_cons (pv 3) (pa_cons (pe_bltn (v := .ty "tuple") (by rfl) W.b_tuple PyProof.Rows.boot_tuple rfl) pa_nil))))) (pw_or1 (pt_cmpR op_gt (pe_callB (k_len K) (by rfl) W.b_len PySem.boot_len (pa_cons (pv 3) pa_nil)) (pe_gi (by rfl) W.i_MOST_READINGS) (nomark _)))))
      (pss_one ps_never)
      pss_nil)
    (pss_cons (ps_for PassesOwn.never rfl (k_enumT K (by rfl) W.b_enumerate (pa_cons (pv 3) pa_nil)) (k_tup K rfl (pgs_cons (pg_name (i := 4) sc.nd rfl (Or.inl rfl)) (pgs_cons (pg_name (i := 5) sc.nd rfl (Or.inl rfl)) pgs_nil)))
      (pss_one (ps_if (PW.pt (pw_or (pt_not (pt_val (pe_c G_is_reading (hr.mono (by decide)) (by rfl) (pa_cons (pv 1) (pa_cons (pv 2) (pa_cons (pv 5) pa_nil)))))) (pw_or1 (PW.pt (pw_and (pt_cmpR op_gt (pv 4) pe_int (nomark _)) (pw_and1 (pt_cmpR (op_leTD hr) (pv 5) (pe_ix (k_ixt K) (pv 3) (pe_op op_sub (pv 4) pe_int) (fun _ _ => rfl)) (nomark _))))))))
        (pss_one ps_never)
        pss_nil)))
    (pss_one (ps_expr (pe_m (pv 0) W.cl_Program W.m_Program_keep M_Program_keep (hr.mono (by decide)) (pa_cons (pv 1) (pa_cons (pv 2) (pa_cons (pv 3) pa_nil)))))))))), ?_⟩
    refine ⟨_, rfl, _, _, _, rfl, ?_⟩
    rw [decide_eq_true (show (1 : Int) ≤ (g.sides : Int) ∧ (g.sides : Int) ≤ 4 by omega)]
    refine ⟨_, rfl, ?_⟩
    refine iteF ?_
    refine ⟨_, rfl, _, _, _, rfl, ?_⟩
    rw [decide_eq_true (show (1 : Int) ≤ (g.tables : Int) ∧ (g.tables : Int) ≤ 8 by omega)]
    refine ⟨_, rfl, ?_⟩
    refine iteF ?_
    refine ⟨_, rfl, _, _, _, _, _, rfl, .ty _, .base (.tup har0), kit_tt, ?_⟩
    refine ⟨_, rfl, ?_⟩
    refine iteF ?_
    refine ⟨_, rfl, ar, xr, rfl, .inr (SqT.of har0), ?_⟩
    refine ⟨_, _, rfl, rfl, _, rfl, ?_⟩
    rw [decide_eq_false (show ¬ (24 : Int) < ((xr.length : Nat) : Int) by omega)]
    refine iteF ?_
    refine ⟨_, rfl, ar, xr, rfl, SqT.of har0, ?_⟩
    refine for_enumT (xs := xr) (fun i σ H' => ∃ (v4 v5 : Option V), σ = [some (.ref p), some (.int (g.sides : Int)), some (.int (g.tables : Int)), some (.ref ar), v4, v5] ∧ Same H H')
      ⟨_, _, rfl, fun _ _ h => h⟩ (fun i σ H' ⟨_, _, _, s⟩ => SqT.of (s _ _ har0)) ?_ ?_
    · rintro i x P1 σ H2 hx ⟨v4, v5, rfl, s2⟩ hP
      have hi : i < g.rs.length := by rw [← lxr]; exact (List.getElem?_eq_some_iff.mp hx).1
      have hri : g.rs[i]? = some g.rs[i] := List.getElem?_eq_getElem hi
      obtain ⟨d, e1, e2⟩ := hxr.get' hx
      rw [List.getElem?_map, hri] at e1
      cases e1
      have s3 : Same H2 (upd H2 P1 (.tup [.int (i : Nat), x])) := Same.upd hP
      have hP3 : (upd H2 P1 (.tup [.int (i : Nat), x])) P1 = some (.tup [.int (i : Nat), x]) := upd_same
      generalize upd H2 P1 (.tup [.int (i : Nat), x]) = H3 at *
      have s03 := s2.trans s3
      have sG3 := S0.trans s03
      refine ⟨P1, _, rfl, SqT.of hP3, rfl, _, _, rfl, _, _, rfl, rfl, ?_⟩
      refine ⟨_, rfl, _, rfl, _, rfl, g.sides, g.tables, x, g.rs[i], rfl, e2.mono (Tsm.of sG3), gok.rd _ (List.getElem_mem hi), s4, fun H4 s5 => ?_⟩
      have s04 := s03.trans s5
      have sG4 := sG3.trans s5
      refine ⟨_, rfl, ?_⟩
      refine iteF ?_
      refine ⟨_, rfl, _, _, rfl, rfl, _, rfl, ?_⟩
      refine ite2 (fun hc => ?_) (fun hc => ?_)
      · have hc : (0 : Int) < (i : Int) := of_decide_eq_true hc
        obtain ⟨j, rfl⟩ : ∃ j, i = j + 1 := ⟨i - 1, by omega⟩
        have hrj : g.rs[j]? = some (g.rs[j]'(by omega)) := List.getElem?_eq_getElem _
        obtain ⟨vj, hvj, tvj⟩ := hxr.get (i := j) (d := dRd (g.rs[j]'(by omega))) (by rw [List.getElem?_map, hrj]; rfl)
        refine ⟨_, rfl, _, rfl, _, rfl, _, _, rfl, rfl, r_tgetI (j := j) (sG4 _ _ har) (by omega) hvj ?_⟩
        refine ⟨_, _, e2.mono (Tsm.of sG4), tvj.mono (Tsm.of sG4), ?_⟩
        rw [asc j _ _ hrj hri]
        refine ⟨_, rfl, ?_⟩
        refine iteF ?_
        exact ⟨_, _, rfl, s04⟩
      · refine iteF ?_
        exact ⟨_, _, rfl, s04⟩
    · rintro σ H2 ⟨v4, v5, rfl, s2⟩
      refine ⟨_, rfl, p, dx, [], rfl, s2 _ _ hp, rfl, ?_⟩
      refine ⟨_, rfl, _, rfl, _, rfl, p, dx, ar, g.sides, g.tables, rfl, s2 _ _ hp, ?_⟩
      have sG2 := S0.trans s2
      refine k _ (fun b o e => by rw [upd_ne (ne_of_none e p0)]; exact sG2 _ _ e) ⟨dx, ar, xr, upd_same, ?_, ?_⟩
      · rw [upd_ne (ne_of_none har p0)]; exact sG2 _ _ har
      · exact hxr.mono fun b ys e => by rw [upd_ne (ne_of_none e p0)]; exact sG2 _ _ e
end
end TN
set_option Elab.async false
set_option linter.all false
set_option maxRecDepth 100000
set_option maxHeartbeats 4000000
/-! W30: the law's pool and draws. -/
namespace TN
open PySem PySem.Spec PyProof.Rows L2
structure PoolIs (H : Hp) (p pc : Addr) (c : Nat) (seed cnt : Int) (cells : List Int) : Prop where
  ne : p ≠ pc
  hp : H p = some (.lst [.int seed, .int cnt, .ref pc])
  hc : H pc = some (.lst (cells.map V.int))
  s0 : 0 ≤ seed
  s1 : seed < 2 ^ 31
  c0 : 0 ≤ cnt
  c1 : cnt ≤ c
def PoolAt (H : Hp) (p pc : Addr) (c : Nat) : Prop := ∃ seed cnt cells, PoolIs H p pc c seed cnt cells
/-- all but the pool is kept -/
def Fr (p pc : Addr) (H H' : Hp) : Prop := ∀ b o, b ≠ p → b ≠ pc → H b = some o → H' b = some o
theorem Fr.refl {p pc : Addr} {H : Hp} : Fr p pc H H := fun _ _ _ _ e => e
theorem Fr.trans {p pc : Addr} {H H1 H2 : Hp} (a : Fr p pc H H1) (b : Fr p pc H1 H2) : Fr p pc H H2 := fun c o n1 n2 e => b c o n1 n2 (a c o n1 n2 e)
theorem Fr.of {p pc : Addr} {H H' : Hp} (s : Same H H') : Fr p pc H H' := fun b o _ _ e => s b o e
theorem PoolAt.same {H H' : Hp} {p pc : Addr} {c : Nat} (P : PoolAt H p pc c) (s : Same H H') : PoolAt H' p pc c := let ⟨a, b, d, P⟩ := P; ⟨a, b, d, P.ne, s _ _ P.hp, s _ _ P.hc, P.s0, P.s1, P.c0, P.c1⟩
theorem PoolAt.up {H : Hp} {p pc : Addr} {c d : Nat} (P : PoolAt H p pc c) (h : c ≤ d) : PoolAt H p pc d := let ⟨a, b, e, P⟩ := P; ⟨a, b, e, P.ne, P.hp, P.hc, P.s0, P.s1, P.c0, by have := P.c1; omega⟩
theorem PoolAt.tsm {H H' : Hp} {p pc : Addr} {c : Nat} (P : PoolAt H p pc c) (f : Fr p pc H H') : Tsm H H' := fun b xs e => by
  obtain ⟨_, _, _, P⟩ := P
  exact f b _ (ne_of e P.hp (by intro z; cases z)) (ne_of e P.hc (by intro z; cases z)) e
section
variable {P : Program} {w : World} {K : PySem.W.Frag} {mg : Str → Option Value} {base : Heap}
def spDraw : Sp := fun vs H Q _ => ∃ (p pc : Addr) (many : Int) (c : Nat), vs = [.ref p, .int many] ∧ PoolAt H p pc c ∧ 0 < many ∧ many ≤ 10 ^ 9 ∧ c ≤ 10 ^ 9 ∧ ∀ d H', 0 ≤ d → d < many → PoolAt H' p pc (c + 1) → Fr p pc H H' → Q (.int d) H'
/-! _law_draw: slots 0 _law_pool_here, 1 _law_many, 2 _law_cells, 3 _law_digit, 4 _law_mixed; calls [] -/
abbrev N_law_draw : List Str := ["_law_pool_here", "_law_many", "_law_cells", "_law_digit", "_law_mixed"]
theorem sc_law_draw : FnScope N_law_draw ["_law_pool_here", "_law_many"] (defScope s_law_draw) := ⟨rfl, rfl, rfl, by decide +kernel, rfl, by decide +kernel, by decide +kernel⟩
theorem ok_law_draw (W : Wd K mg) : Ok P w K mg base 1 "_law_draw" ["_law_pool_here", "_law_many"] spDraw := by
  have sc := sc_law_draw
  refine Ok.mk' W.F_law_draw W.g_law_draw sc (fun vs H Q E h => ?_) (fun _ _ _ _ _ _ us hl => match us, hl with | [_, _], _ => rfl) (fun cdv A outer s H vs Q E hr h => ?_)
  · obtain ⟨p, pc, many, c, rfl, _⟩ := h
    rfl
  · obtain ⟨p, pc, many, c, rfl, ⟨seed, cnt, cells, ⟨ne, hp, hc, s0, s1, c0, c1⟩⟩, m0, m1, c9, k⟩ := h
    have hdiv : ∀ i, CDivW i many := fun i => wide_div (b := 31) m0 (by omega) (by decide) (by decide)
    refine ⟨_, (pss_cons (ps_asg (pe_op op_add (pe_ix (k_ixl K) (pv 0) pe_int (fun _ _ => rfl)) pe_int) (pg_sub (pv 0) pe_int set_list))
    (pss_cons (ps_set (i := 2) sc.nd rfl (Or.inl rfl) (pe_ix (k_ixl K) (pv 0) pe_int (fun _ _ => rfl)))
    (pss_cons (ps_if (pt_cmpR op_gt (pe_callB (k_len K) (by rfl) W.b_len PySem.boot_len (pa_cons (pv 2) pa_nil)) pe_int (nomark _))
      (pss_cons (ps_set (i := 3) sc.nd rfl (Or.inl rfl) (pe_op op_mod (pe_callTy call_int1 (by rfl) W.b_int PyProof.Rows.boot_int (pa_cons (pe_ix (k_ixl K) (pv 2) pe_int (fun _ _ => rfl)) pa_nil)) (pv 1)))
      (pss_cons (ps_asg (pe_op op_fdivW (pe_callTy call_int1 (by rfl) W.b_int PyProof.Rows.boot_int (pa_cons (pe_ix (k_ixl K) (pv 2) pe_int (fun _ _ => rfl)) pa_nil)) (pv 1)) (pg_sub (pv 2) pe_int set_list))
      (pss_cons (ps_if (pt_cmpR op_eq (pe_ix (k_ixl K) (pv 2) pe_int (fun _ _ => rfl)) pe_int (nomark _))
        (pss_one (ps_expr (k_bm K PySem.F.plainAttrs_list PySem.F.slot_list_pop PySem.F.type_list_pop mt_popAt (pv 2) (pa_cons pe_int pa_nil))))
        pss_nil)
      (pss_one (ps_ret (pv 3))))))
      pss_nil)
    (pss_cons (ps_set (i := 4) sc.nd rfl (Or.inl rfl) (pe_op op_mod (pe_callTy call_int1 (by rfl) W.b_int PyProof.Rows.boot_int (pa_cons (pe_op op_mulW (pe_op op_add (pe_ix (k_ixl K) (pv 0) pe_int (fun _ _ => rfl)) (pe_op op_mulW pe_int (pe_ix (k_ixl K) (pv 0) pe_int (fun _ _ => rfl)))) pe_int) pa_nil)) pe_int))
    (pss_cons (ps_set (i := 4) sc.nd rfl (Or.inl rfl) (pe_op op_mod (pe_callTy call_int1 (by rfl) W.b_int PyProof.Rows.boot_int (pa_cons (pe_op op_mulW (pv 4) (pe_op op_add (pe_op op_fdivW (pv 4) pe_int) pe_int)) pa_nil)) pe_int))
    (pss_cons (ps_set (i := 4) sc.nd rfl (Or.inl rfl) (pe_op op_mod (pe_callTy call_int1 (by rfl) W.b_int PyProof.Rows.boot_int (pa_cons (pe_op op_mulW (pv 4) (pe_op op_add (pe_op op_fdivW (pv 4) pe_int) pe_int)) pa_nil)) pe_int))
    (pss_one (ps_ret (pe_op op_mod (pe_callTy call_int1 (by rfl) W.b_int PyProof.Rows.boot_int (pa_cons (pe_op op_fdivW (pv 4) pe_int) pa_nil)) (pv 1)))))))))), ?_⟩
    refine ⟨_, rfl, r_c (r_lgetI (j := 1) hp rfl rfl ?_)⟩
    refine ⟨_, _, rfl, rfl, ?_⟩
    refine ⟨_, rfl, ?_⟩
    refine ⟨p, _, _, 1, rfl, rfl, hp, rfl, ?_⟩
    generalize hH1 : upd H p (HO.lst _) = H1
    have hp1 : H1 p = some (.lst [.int seed, .int (cnt + 1), .ref pc]) := by rw [← hH1, upd_same]; rfl
    have hc1 : H1 pc = some (.lst (cells.map V.int)) := by rw [← hH1, upd_ne ne.symm]; exact hc
    have f1 : Fr p pc H H1 := fun b o n1 _ e => by rw [← hH1, upd_ne n1]; exact e
    clear hH1
    refine ⟨_, rfl, r_c (r_lgetI (j := 2) hp1 rfl rfl ?_)⟩
    refine ⟨_, rfl, pc, _, rfl, .inl (SqL.of hc1), ?_⟩
    refine ⟨_, _, rfl, rfl, _, rfl, ?_⟩
    rw [List.length_map]
    refine ite2 (fun h0 => ?_) (fun h0 => ?_)
    · have h0 : (0 : Int) < ((cells.length : Nat) : Int) := of_decide_eq_true h0
      obtain ⟨x, cs, rfl⟩ : ∃ x cs, cells = x :: cs := by
        cases cells with
        | nil => simp at h0
        | cons x cs => exact ⟨x, cs, rfl⟩
      refine ⟨_, rfl, r_c (r_lgetI (j := 0) hc1 rfl rfl ?_)⟩
      refine .inl ⟨_, rfl, ?_⟩
      refine ⟨_, rfl, _, _, rfl, rfl, m0, ?_⟩
      refine ⟨_, rfl, r_c (r_lgetI (j := 0) hc1 rfl rfl ?_)⟩
      refine .inl ⟨_, rfl, ?_⟩
      refine ⟨_, rfl, _, _, rfl, rfl, hdiv _, ?_⟩
      refine ⟨_, rfl, ?_⟩
      refine ⟨pc, _, _, 0, rfl, rfl, hc1, by unfold ixN; rw [if_pos (by decide), if_pos (by simp)]; rfl, ?_⟩
      generalize hH2 : upd H1 pc (HO.lst _) = H2
      have hp2 : H2 p = some (.lst [.int seed, .int (cnt + 1), .ref pc]) := by rw [← hH2, upd_ne ne]; exact hp1
      have hc2 : H2 pc = some (.lst (((x / many) :: cs).map V.int)) := by rw [← hH2, upd_same]; rfl
      have f2 : Fr p pc H H2 := f1.trans fun b o _ n2 e => by rw [← hH2, upd_ne n2]; exact e
      clear hH2
      have d0 : 0 ≤ x % many := Int.emod_nonneg _ (by omega)
      have d1 : x % many < many := Int.emod_lt_of_pos _ m0
      refine ⟨_, rfl, r_c (r_lgetI (j := 0) hc2 rfl rfl ?_)⟩
      refine ⟨rfl, _, rfl, ?_⟩
      refine ite2 (fun hz => ?_) (fun hz => ?_)
      · refine ⟨_, rfl, .inl ⟨rfl, _, SqL.of hc2⟩, ?_⟩
        refine ⟨pc, _, 0, 0, _, rfl, rfl, hc2, by decide, by decide, by simp [seqIndex?], rfl, ?_⟩
        refine ⟨_, rfl, ?_⟩
        refine k _ _ d0 d1 ⟨seed, cnt + 1, cs, ne, by rw [upd_ne ne]; exact hp2, by rw [upd_same]; rfl, s0, s1, by omega, by omega⟩ (f2.trans fun b o _ n2 e => by rw [upd_ne n2]; exact e)
      · refine ⟨_, rfl, ?_⟩
        exact k _ _ d0 d1 ⟨seed, cnt + 1, (x / many) :: cs, ne, hp2, hc2, s0, s1, by omega, by omega⟩ f2
    · have dv : ∀ (i j : Int), 0 < j → j < 2 ^ 31 → CDivW i j := fun i j h1 h2 => wide_div (b := 31) h1 (by omega) (by decide) (by decide)
      have mw : ∀ (i j : Int), 0 ≤ i → i < 2 ^ 100 → 0 ≤ j → j < 2 ^ 100 → CMulW i j := fun i j a1 a2 b1 b2 => wide_mul (a := 100) (b := 100) (by omega) (by omega) (by decide) (by decide) (by decide)
      refine ⟨_, rfl, r_c (r_lgetI (j := 0) hp1 rfl rfl ?_)⟩
      refine ⟨_, rfl, r_c (r_lgetI (j := 1) hp1 rfl rfl ?_)⟩
      refine ⟨_, _, rfl, rfl, mw _ _ (by decide) (by decide) (by omega) (by omega), ?_⟩
      refine ⟨_, _, rfl, rfl, ?_⟩
      refine ⟨_, _, rfl, rfl, mw _ _ (by omega) (by omega) (by decide) (by decide), ?_⟩
      refine .inl ⟨_, rfl, ?_⟩
      refine ⟨_, _, rfl, rfl, (show (0 : Int) < 2147483647 by decide), ?_⟩
      have a1 : 0 ≤ (seed + 7901 * (cnt + 1)) * 48271 % 2147483647 := Int.emod_nonneg _ (by decide)
      have a2 : (seed + 7901 * (cnt + 1)) * 48271 % 2147483647 < 2147483647 := Int.emod_lt_of_pos _ (by decide)
      generalize (seed + 7901 * (cnt + 1)) * 48271 % 2147483647 = M1 at *
      have q1 : 0 ≤ M1 / 1019 := Int.ediv_nonneg a1 (by decide)
      have q2 : M1 / 1019 ≤ M1 := Int.ediv_le_self _ a1
      refine ⟨_, rfl, _, rfl, _, _, rfl, rfl, dv _ _ (by decide) (by decide), ?_⟩
      refine ⟨_, _, rfl, rfl, ?_⟩
      refine ⟨_, _, rfl, rfl, mw _ _ (by omega) (by omega) (by omega) (by omega), ?_⟩
      refine .inl ⟨_, rfl, ?_⟩
      refine ⟨_, _, rfl, rfl, (show (0 : Int) < 2147483629 by decide), ?_⟩
      have b1 : 0 ≤ M1 * (M1 / 1019 + 69623) % 2147483629 := Int.emod_nonneg _ (by decide)
      have b2 : M1 * (M1 / 1019 + 69623) % 2147483629 < 2147483629 := Int.emod_lt_of_pos _ (by decide)
      generalize M1 * (M1 / 1019 + 69623) % 2147483629 = M2 at *
      have q3 : 0 ≤ M2 / 2017 := Int.ediv_nonneg b1 (by decide)
      have q4 : M2 / 2017 ≤ M2 := Int.ediv_le_self _ b1
      refine ⟨_, rfl, _, rfl, _, _, rfl, rfl, dv _ _ (by decide) (by decide), ?_⟩
      refine ⟨_, _, rfl, rfl, ?_⟩
      refine ⟨_, _, rfl, rfl, mw _ _ (by omega) (by omega) (by omega) (by omega), ?_⟩
      refine .inl ⟨_, rfl, ?_⟩
      refine ⟨_, _, rfl, rfl, (show (0 : Int) < 2147483399 by decide), ?_⟩
      generalize M2 * (M2 / 2017 + 40693) % 2147483399 = M3
      refine ⟨_, rfl, _, _, rfl, rfl, dv _ _ (by decide) (by decide), ?_⟩
      refine .inl ⟨_, rfl, ?_⟩
      refine ⟨_, rfl, _, _, rfl, rfl, m0, ?_⟩
      exact k _ _ (Int.emod_nonneg _ (by omega)) (Int.emod_lt_of_pos _ m0) ⟨seed, cnt + 1, cells, ne, hp1, hc1, s0, s1, by omega, by omega⟩ f1
end
end TN
set_option Elab.async false
set_option linter.all false
set_option maxRecDepth 100000
set_option maxHeartbeats 4000000
/-! W31: order, row, pairs. -/
namespace TN
open PySem PySem.Spec PyProof.Rows L2
theorem PoolAt.off {H : Hp} {p pc a : Addr} {c : Nat} {o : HO} (P : PoolAt H p pc c) (h1 : p ≠ a) (h2 : pc ≠ a) : PoolAt (upd H a o) p pc c := let ⟨x, b, d, P⟩ := P; ⟨x, b, d, P.ne, by rw [upd_ne h1]; exact P.hp, by rw [upd_ne h2]; exact P.hc, P.s0, P.s1, P.c0, P.c1⟩
theorem PoolAt.nn {H : Hp} {p pc a : Addr} {c : Nat} (P : PoolAt H p pc c) (h : H a = none) : p ≠ a ∧ pc ≠ a := by obtain ⟨_, _, _, P⟩ := P; exact ⟨ne_of_none P.hp h, ne_of_none P.hc h⟩
theorem seq_nat {j n : Nat} (h : j < n) : seqIndex? (j : Int) n = some j := by
  unfold seqIndex?
  rw [show (if (j : Int) < 0 then (j : Int) + (n : Int) else (j : Int)) = (j : Int) from if_neg (by omega)]
  simp; omega
theorem map_eraseIdx {α β : Type} (f : α → β) : ∀ (l : List α) (j : Nat), (l.map f).eraseIdx j = (l.eraseIdx j).map f
  | [], _ => rfl
  | _ :: _, 0 => rfl
  | a :: l, j + 1 => congrArg (f a :: ·) (map_eraseIdx f l j)
/-- a comprehension over a range that draws -/
theorem lc_rangeR {lo : Int} {n : Nat} {g : TG} {te : TE} {vs : List Nat} {σ : L2.St} {H1 : Hp} {D : Addr} {Qd : Hp → Prop} (Pv : Nat → List V → Hp → Prop) (hn : n ≤ 1000000)
    (h0 : Pv 0 [] (L2.upd H1 D (.lst [])))
    (hs : ∀ (i : Nat) (H : Hp) (acc : List V) (Qy : V → Hp → Prop), i < n → H D = some (.lst acc) → Pv i acc H → (∀ y H4, H4 D = some (.lst acc) → Pv (i + 1) (acc ++ [y]) (L2.upd H4 D (.lst (acc ++ [y]))) → Qy y H4) →
      g (.int (lo + i)) (wipe σ vs) H fun σ2 H2 => wipe σ2 vs = wipe σ vs ∧ te σ2 H2 Qy)
    (hd : ∀ H ys, H D = some (.lst ys) → ys.length = n → Pv n ys H → Qd H) : LcW (Itr lo n) g te vs σ H1 D Qd := by
  refine ⟨fun i m H => m = n - i ∧ i ≤ n ∧ ∃ ys, H D = some (.lst ys) ∧ ys.length = i ∧ Pv i ys H, ⟨n, by simp, Nat.zero_le _, [], upd_same, rfl, h0⟩, ?_⟩
  rintro i m H ⟨rfl, hi, ys, h1, h2, h3⟩
  by_cases hlt : i < n
  · refine .inr ⟨hlt, fun H' => i + 1 ≤ n ∧ ∃ ys, H' D = some (.lst ys) ∧ ys.length = i + 1 ∧ Pv (i + 1) ys H', fun H' p => ⟨n - (i + 1), by omega, rfl, p⟩, fun x H' y => ?_⟩
    obtain ⟨e, y⟩ := y
    subst e y
    refine hs i _ ys _ hlt h1 h3 (fun y H4 e4 r4 => ?_)
    exact ⟨ys, e4, by rw [h2, sizeLine_eq]; omega, hlt, ys ++ [y], upd_same, by simp [h2], r4⟩
  · have e : i = n := by omega
    subst e
    exact .inl ⟨Nat.le_refl _, hd H ys h1 h2 h3⟩
section
variable {P : Program} {w : World} {K : PySem.W.Frag} {mg : Str → Option Value} {base : Heap}
def spOrder : Sp := fun vs H Q _ => ∃ (p pc : Addr) (n c : Nat), vs = [.ref p, .int (n : Int)] ∧ PoolAt H p pc c ∧ n ≤ 4 ∧ c + n ≤ 10 ^ 9 ∧
  ∀ a os H', Fr p pc H H' → PoolAt H' p pc (c + n) → H a = none → H' a = some (.lst ((nI os).map V.int)) → os.length = n → (∀ o ∈ os, o < n) → Q (.ref a) H'
/-! _law_order: slots 0 _law_pool_here, 1 _law_sides, 2 _law_left, 3 _law_again; calls ['G_law_draw'] -/
abbrev N_law_order : List Str := ["_law_pool_here", "_law_sides", "_law_left", "_law_again"]
theorem sc_law_order : FnScope N_law_order ["_law_pool_here", "_law_sides"] (defScope s_law_order) := ⟨rfl, rfl, rfl, by decide +kernel, rfl, by decide +kernel, by decide +kernel⟩
theorem ok_law_order (W : Wd K mg) : Ok P w K mg base 2 "_law_order" ["_law_pool_here", "_law_sides"] spOrder := by
  have sc := sc_law_order
  have G_law_draw : Ok P w K mg base 1 "_law_draw" ["_law_pool_here", "_law_many"] spDraw := ok_law_draw W
  refine Ok.mk' W.F_law_order W.g_law_order sc (fun vs H Q E h => ?_) (fun _ _ _ _ _ _ us hl => match us, hl with | [_, _], _ => rfl) (fun cdv A outer s H vs Q E hr h => ?_)
  · obtain ⟨p, pc, n, c, rfl, _⟩ := h
    rfl
  · obtain ⟨p, pc, n, c, rfl, pool, n4, c9, k⟩ := h
    refine ⟨_, (pss_cons (ps_set (i := 2) sc.nd rfl (Or.inr rfl) (pe_listRg rfl (by rfl) W.b_list (prg_1 (by rfl) W.b_range (pv 1))))
    (pss_one (ps_ret (pe_lc (own := [("_law_again", 3)]) (g := gName 3) rfl sc.nd (pi_range1 (by rfl) W.b_range (pa_cons (pv 1) pa_nil)) (blkOk_by (N := N_law_order) (sc := defScope s_law_order) (by decide +kernel))  (fun _ _ _ _ _ => (pg_name (i := 3) sc.nd rfl (Or.inl rfl))) (fun _ _ _ _ _ => pts_nil) (fun _ _ _ _ _ => (k_bm K PySem.F.plainAttrs_list PySem.F.slot_list_pop PySem.F.type_list_pop mt_popAt (pv 2) (pa_cons (pe_c G_law_draw (hr.mono (by decide)) (by rfl) (pa_cons (pv 0) (pa_cons (pe_callB (k_len K) (by rfl) W.b_len PySem.boot_len (pa_cons (pv 2) pa_nil)) pa_nil))) pa_nil))))))), ?_⟩
    refine ⟨_, rfl, _, rfl, RgOk.of_le (by decide) (by omega) (by decide) (by omega), fun L hL => ?_⟩
    have eL : rgV 0 (n : Int) = (nI (List.range n)).map V.int := by
      unfold rgV
      rw [List.map_map, show ((n : Int) - 0).toNat = n by omega]
      exact List.map_congr_left fun i _ => by show V.int (0 + (i : Int)) = V.int (i : Int); rw [Int.zero_add]
    rw [eL]
    have s1 : Same H (upd H L (.lst ((nI (List.range n)).map V.int))) := Same.upd hL
    have hL1 : (upd H L (.lst ((nI (List.range n)).map V.int))) L = some (.lst ((nI (List.range n)).map V.int)) := upd_same
    generalize upd H L (.lst ((nI (List.range n)).map V.int)) = H1 at *
    have pool1 := pool.same s1
    have npL : p ≠ L := by obtain ⟨_, _, _, P⟩ := pool; exact ne_of_none P.hp hL
    have ncL : pc ≠ L := by obtain ⟨_, _, _, P⟩ := pool; exact ne_of_none P.hc hL
    refine ⟨_, rfl, _, rfl, by omega, by omega, fun D hD => ?_⟩
    have npD : p ≠ D := by obtain ⟨_, _, _, P⟩ := pool1; exact ne_of_none P.hp hD
    have ncD : pc ≠ D := by obtain ⟨_, _, _, P⟩ := pool1; exact ne_of_none P.hc hD
    have nLD : L ≠ D := ne_of_none hL1 hD
    have hDn : H D = none := s1.free hD
    rw [show ((n : Nat) : Int).toNat = n by omega]
    refine lc_rangeR (lo := 0) (n := n) (fun i ys H' => ∃ os ls : List Nat, ys = (nI os).map V.int ∧ (∀ o ∈ os, o < n) ∧ H' L = some (.lst ((nI ls).map V.int)) ∧ ls.length = n - i ∧ (∀ o ∈ ls, o < n) ∧ PoolAt H' p pc (c + i) ∧ ∀ b o, b ≠ p → b ≠ pc → H b = some o → H' b = some o) (by omega)
      ⟨[], List.range n, rfl, fun o ho => (by cases ho), by rw [upd_ne nLD]; exact hL1, by simp, fun o ho => List.mem_range.mp ho, pool1.same (Same.upd hD), fun b o _ _ e => by rw [upd_ne (ne_of_none e hDn)]; exact s1 _ _ e⟩ (fun i H2 acc Qy hi hA ⟨os, ls, e1, e2, hL2, l1, l2, pool2, fr2⟩ z => ⟨rfl, ?_⟩) (fun H2 ys hD2 hl ⟨os, ls, e1, e2, hL2, l1, l2, pool2, fr2⟩ => ?_)
    · refine ⟨_, rfl, .inl ⟨rfl, _, SqL.of hL2⟩, ?_⟩
      refine ⟨_, rfl, _, rfl, L, _, rfl, .inl (SqL.of hL2), ?_⟩
      rw [List.length_map, List.length_map]
      refine ⟨p, pc, _, c + i, rfl, pool2, by omega, by omega, by omega, fun d H3 d0 d1 pool3 fr3 => ?_⟩
      obtain ⟨j, rfl⟩ : ∃ j : Nat, d = j := ⟨d.toNat, by omega⟩
      have hj : j < ls.length := by omega
      have hL3 := fr3 _ _ npL.symm ncL.symm hL2
      have hA3 := fr3 _ _ npD.symm ncD.symm hA
      refine ⟨L, _, _, j, .int ((ls[j] : Nat) : Int), rfl, rfl, hL3, by omega, by omega, ?_, ?_, ?_⟩
      · rw [List.length_map, List.length_map]
        exact seq_nat hj
      · rw [List.getElem?_map, List.getElem?_map, List.getElem?_eq_getElem hj]; rfl
      · refine z _ _ (by rw [upd_ne nLD.symm]; exact hA3) ⟨os ++ [ls[j]], ls.eraseIdx j, by rw [e1]; simp, fun o ho => ?_, ?_, ?_, fun o ho => l2 o (List.mem_of_mem_eraseIdx ho), ?_, fun b o n1 n2 e => ?_⟩
        · rcases List.mem_append.mp ho with ho | ho
          · exact e2 o ho
          · rw [List.mem_singleton.mp ho]; exact l2 _ (List.getElem_mem hj)
        · rw [upd_ne nLD, upd_same, map_eraseIdx]; unfold nI; rw [map_eraseIdx]
        · rw [List.length_eraseIdx_of_lt hj]; omega
        · rw [← Nat.add_assoc]
          exact (pool3.off npL ncL).off npD ncD
        · rw [upd_ne (ne_of_none e hDn), upd_ne (ne_of_none e hL)]
          exact fr3 _ _ n1 n2 (fr2 _ _ n1 n2 e)
    · rw [e1] at hD2
      exact k D os _ fr2 pool2 hDn hD2 (by rw [e1, List.length_map, List.length_map] at hl; exact hl) e2
end
end TN
set_option Elab.async false
set_option linter.all false
set_option maxRecDepth 100000
set_option maxHeartbeats 4000000
/-! W32: rows. -/
namespace TN
open PySem PySem.Spec PyProof.Rows L2
section
variable {P : Program} {w : World} {K : PySem.W.Frag} {mg : Str → Option Value} {base : Heap}
/-- small numbers, not below 0 in the corner -/
def Sm (far : Bool) (d : List Int) : Prop := ∀ x ∈ d, -3 ≤ x ∧ x ≤ 3 ∧ (far = true → 0 ≤ x)
theorem Sm.set {far : Bool} {d : List Int} (h : Sm far d) {o : Nat} {x : Int} (a : -3 ≤ x) (b : x ≤ 3) (z : far = true → 0 ≤ x) : Sm far (d.set o x) := fun y hy => by
  rcases List.mem_or_eq_of_mem_set hy with hy | rfl
  · exact h y hy
  · exact ⟨a, b, z⟩
def spLRow : Sp := fun vs H Q _ => ∃ (p pc a : Addr) (os : List Nat) (place : Nat) (far : Bool) (c : Nat), vs = [.ref p, .ref a, .int (place : Int), .str (wS far)] ∧ PoolAt H p pc c ∧ a ≠ p ∧ a ≠ pc ∧
  H a = some (.lst ((nI os).map V.int)) ∧ os.length ≤ 4 ∧ (∀ o ∈ os, o < os.length) ∧ place < os.length ∧ c + 8 ≤ 10 ^ 9 ∧
  ∀ v d H', Fr p pc H H' → PoolAt H' p pc (c + 8) → TD H' v (dI d) → d.length = os.length → Sm far d → Q v H'
/-! _law_row: slots 0 _law_pool_here, 1 _law_order_here, 2 _law_place, 3 _law_world, 4 _law_least, 5 _law_found, 6 _law_at, 7 _law_much; calls ['G_law_draw'] -/
abbrev N_law_row : List Str := ["_law_pool_here", "_law_order_here", "_law_place", "_law_world", "_law_least", "_law_found", "_law_at", "_law_much"]
theorem sc_law_row : FnScope N_law_row ["_law_pool_here", "_law_order_here", "_law_place", "_law_world"] (defScope s_law_row) := ⟨rfl, rfl, rfl, by decide +kernel, rfl, by decide +kernel, by decide +kernel⟩
theorem ok_law_row (W : Wd K mg) : Ok P w K mg base 2 "_law_row" ["_law_pool_here", "_law_order_here", "_law_place", "_law_world"] spLRow := by
  have sc := sc_law_row
  have G_law_draw : Ok P w K mg base 1 "_law_draw" ["_law_pool_here", "_law_many"] spDraw := ok_law_draw W
  refine Ok.mk' W.F_law_row W.g_law_row sc (fun vs H Q E h => ?_) (fun _ _ _ _ _ _ us hl => match us, hl with | [_, _, _, _], _ => rfl) (fun cdv A outer s H vs Q E hr h => ?_)
  · obtain ⟨p, pc, a, os, place, far, c, rfl, _⟩ := h
    rfl
  · obtain ⟨p, pc, a, os, place, far, c, rfl, pool, nap, napc, ha, o4, ol, pl, c9, k⟩ := h
    refine ⟨_, (pss_cons (ps_set (i := 4) sc.nd rfl (Or.inl rfl) (pe_ifExp (pt_cmpR op_eq (pv 3) pe_str (nomark _)) (pe_un un_neg pe_int) pe_int))
    (pss_cons (ps_set (i := 5) sc.nd rfl (Or.inl rfl) (pe_op op_rep (pe_lst (pa_cons pe_int pa_nil)) (pe_callB (k_len K) (by rfl) W.b_len PySem.boot_len (pa_cons (pv 1) pa_nil))))
    (pss_cons (ps_for PassesOwn.never rfl (pi_range1 (by rfl) W.b_range (pa_cons (pv 2) pa_nil)) (pg_name (i := 6) sc.nd rfl (Or.inl rfl))
      (pss_one (ps_asg (pe_op op_add (pv 4) (pe_c G_law_draw (hr.mono (by decide)) (by rfl) (pa_cons (pv 0) (pa_cons pe_int pa_nil)))) (pg_sub (pv 5) (pe_ix (k_ixl K) (pv 1) (pv 6) (fun _ _ => rfl)) set_list))))
    (pss_cons (ps_set (i := 7) sc.nd rfl (Or.inl rfl) (pe_op op_add pe_int (pe_c G_law_draw (hr.mono (by decide)) (by rfl) (pa_cons (pv 0) (pa_cons pe_int pa_nil)))))
    (pss_cons (ps_asg (pe_ifExp (PW.pt (pw_and (pt_cmpR op_eq (pe_c G_law_draw (hr.mono (by decide)) (by rfl) (pa_cons (pv 0) (pa_cons pe_int pa_nil))) pe_int (nomark _)) (pw_and1 (pt_cmpR op_eq (pv 3) pe_str (nomark _))))) (pe_un un_neg (pv 7)) (pv 7)) (pg_sub (pv 5) (pe_ix (k_ixl K) (pv 1) (pv 2) (fun _ _ => rfl)) set_list))
    (pss_one (ps_ret (pe_callTy (k_tupof K) (by rfl) W.b_tuple PyProof.Rows.boot_tuple (pa_cons (pv 5) pa_nil))))))))), ?_⟩
    obtain ⟨l, hl⟩ : ∃ l : Int, l = if far then 0 else -1 := ⟨_, rfl⟩
    refine ⟨_, rfl, ?_⟩
    refine ⟨rfl, _, rfl, ?_⟩
    have e1 : ∀ h : decide (V.str (wS far) = V.str "boxes") = true, (-1 : Int) = l := fun h => by
      rw [hl]; cases far with
      | true => exact absurd (V.str.inj (of_decide_eq_true h)) boxes_ne
      | false => rfl
    have e2 : ∀ h : ¬ decide (V.str (wS far) = V.str "boxes") = true, (0 : Int) = l := fun h => by
      rw [hl]; cases far with
      | true => rfl
      | false => exact absurd (decide_eq_true (p := V.str (wS false) = V.str "boxes") rfl) h
    refine (fun (m : True → _) => ite2 (fun h => ⟨_, rfl, (congrArg (fun z => gName 4 (V.int z) _ _ _) (e1 h)).mpr (m trivial)⟩) (fun h => (congrArg (fun z => gName 4 (V.int z) _ _ _) (e2 h)).mpr (m trivial))) ?main
    intro _
    have l0 : -1 ≤ l ∧ l ≤ 0 ∧ (far = true → 0 ≤ l) := by rw [hl]; cases far <;> simp
    clear hl
    refine ⟨by show 1 ≤ sizeLine; decide, fun D0 hD0 => ?_⟩
    have s1 : Same H (upd H D0 (.lst [.int 0])) := Same.upd hD0
    have e3 : (upd H D0 (.lst [.int 0])) D0 = some (.lst [.int 0]) := upd_same
    generalize upd H D0 (.lst [.int 0]) = H1 at *
    have pool1 := pool.same s1
    refine ⟨_, rfl, a, _, rfl, .inl (SqL.of (s1 _ _ ha)), ?_⟩
    rw [List.length_map, nI, List.length_map]
    refine ⟨D0, _, _, rfl, rfl, e3, by omega, by omega, by rw [sizeLine_eq]; simp; omega, fun F hF => ?_⟩
    have nF := pool1.nn hF
    have naF : a ≠ F := ne_of_none (s1 _ _ ha) hF
    have e4 : (List.replicate ((os.length : Nat) : Int).toNat [V.int 0]).flatten = (List.replicate os.length (0 : Int)).map V.int := by
      rw [rep_one, List.map_replicate, show ((os.length : Nat) : Int).toNat = os.length by omega]
    rw [e4]
    have s2 : Same H (upd H1 F (.lst ((List.replicate os.length (0 : Int)).map V.int))) := s1.trans (Same.upd hF)
    have f2 : (upd H1 F (.lst ((List.replicate os.length (0 : Int)).map V.int))) F = some (.lst ((List.replicate os.length (0 : Int)).map V.int)) := upd_same
    have hF0 : H F = none := s1.free hF
    generalize upd H1 F (.lst ((List.replicate os.length (0 : Int)).map V.int)) = H2 at *
    have pool2 := pool.same s2
    refine ⟨_, rfl, _, rfl, by omega, by omega, ?_⟩
    rw [show ((place : Nat) : Int).toNat = place by omega]
    refine for_range (lo := 0) (n := place) (fun i σ H' => ∃ (v6 : Option V) (d : List Int), σ = [some (.ref p), some (.ref a), some (.int (place : Int)), some (.str (wS far)), some (.int l), some (.ref F), v6, none] ∧
      PoolAt H' p pc (c + i) ∧ Fr p pc H H' ∧ H' F = some (.lst (d.map V.int)) ∧ d.length = os.length ∧ Sm far d)
      ⟨_, _, rfl, pool2, Fr.of s2, f2, List.length_replicate, fun x hx => by rw [(List.mem_replicate.mp hx).2]; omega⟩ ?_ ?_
    · rintro i σ H3 hi ⟨v6, d, rfl, pool3, fr3, hF3, dl, ds⟩
      obtain ⟨o, ho⟩ : ∃ o, os[i]? = some o := ⟨_, List.getElem?_eq_getElem (by omega)⟩
      have oL := ol o (List.mem_of_getElem? ho)
      refine ⟨_, rfl, _, rfl, p, pc, _, c + i, rfl, pool3, by decide, by decide, by omega, fun x H4 x0 x1 pool4 fr4 => ?_⟩
      have ha4 := fr4 _ _ nap napc (fr3 _ _ nap napc ha)
      have hF4 := fr4 _ _ nF.1.symm nF.2.symm hF3
      refine ⟨_, _, rfl, rfl, ?_⟩
      refine ⟨_, rfl, _, rfl, _, rfl, r_lgetI (j := i) (v := .int (o : Int)) ha4 (Int.zero_add _) (by rw [nI, List.map_map, List.getElem?_map, ho]; rfl) ?_⟩
      refine ⟨F, _, _, o, rfl, rfl, hF4, ?_, ?_⟩
      · rw [List.length_map, dl]; unfold ixN; rw [if_pos (by omega), if_pos (by omega)]; congr 1
      rw [← List.map_set]
      exact ⟨_, _, rfl, pool4.off nF.1 nF.2, fun b o' n1 n2 e => by rw [upd_ne (ne_of_none e hF0)]; exact fr4 _ _ n1 n2 (fr3 _ _ n1 n2 e), upd_same, by rw [List.length_set]; exact dl, ds.set (x := l + x) (by omega) (by omega) fun z => (by have := l0.2.2 z; omega : 0 ≤ l + x)⟩
    · rintro σ H3 ⟨v6, d, rfl, pool3, fr3, hF3, dl, ds⟩
      obtain ⟨o, ho⟩ : ∃ o, os[place]? = some o := ⟨_, List.getElem?_eq_getElem pl⟩
      have oL := ol o (List.mem_of_getElem? ho)
      refine ⟨_, rfl, p, pc, _, c + place, rfl, pool3, by decide, by decide, by omega, fun x H4 x0 x1 pool4 fr4 => ?_⟩
      refine ⟨_, _, rfl, rfl, ?_⟩
      -- much
      refine ⟨_, rfl, p, pc, _, c + place + 1, rfl, pool4, by decide, by decide, by omega, fun y H5 y0 y1 pool5 fr5 => ?_⟩
      refine ⟨rfl, _, rfl, ?_⟩
      have fr : Fr p pc H H5 := (fr3.trans fr4).trans fr5
      have hF5 := fr5 _ _ nF.1.symm nF.2.symm (fr4 _ _ nF.1.symm nF.2.symm hF3)
      have pool6 := pool5.up (d := c + 8) (by omega)
      refine (fun (m : ∀ z : Int, (-3 ≤ z ∧ z ≤ 3 ∧ (far = true → 0 ≤ z)) → gSub (tVar 5) (tOp (rIxL K) (tVar 1) (tVar 2)) rSetL (.int z)
          [some (.ref p), some (.ref a), some (.int (place : Int)), some (.str (wS far)), some (.int l), some (.ref F), v6, some (.int (1 + x))] H5 _) =>
        ite2 (fun h => ⟨_, rfl, rfl, _, rfl, ite2 (fun h2 => ⟨_, rfl, _, rfl, m _ ⟨by omega, by omega, fun z => by have := l0.2.2 z; have := e1 h2; omega⟩⟩) (fun h2 => ⟨_, rfl, m _ ⟨by omega, by omega, fun z => by omega⟩⟩)⟩)
          (fun h => ⟨_, rfl, m _ ⟨by omega, by omega, fun z => by omega⟩⟩)) ?fin2
      intro z hz
      refine ⟨_, rfl, _, rfl, _, rfl, r_lgetI (j := place) (v := .int (o : Int)) (fr _ _ nap napc ha) rfl (by rw [nI, List.map_map, List.getElem?_map, ho]; rfl) ?_⟩
      refine ⟨F, _, _, o, rfl, rfl, hF5, ?_, ?_⟩
      · rw [List.length_map, dl]; unfold ixN; rw [if_pos (by omega), if_pos (by omega)]; congr 1
      rw [← List.map_set]
      refine ⟨_, rfl, F, _, rfl, .inl ⟨SqL.of upd_same, fun T hT => ?_⟩⟩
      refine k _ (d.set o z) _ (fun b o' n1 n2 e => ?_) ?_ ?_ (by rw [List.length_set]; exact dl) (ds.set hz.1 hz.2.1 hz.2.2)
      · have g : upd H5 F (.lst ((d.set o z).map V.int)) b = some o' := by rw [upd_ne (ne_of_none e hF0)]; exact fr _ _ n1 n2 e
        rw [upd_ne (ne_of_none g hT)]; exact g
      · have pool7 := pool6.off (o := .lst ((d.set o z).map V.int)) nF.1 nF.2
        exact pool7.off (pool7.nn hT).1 (pool7.nn hT).2
      · exact TD.of_ints upd_same
end
end TN
set_option Elab.async false
set_option linter.all false
set_option maxRecDepth 100000
set_option maxHeartbeats 4000000
/-! W33: pairs. -/
namespace TN
open PySem PySem.Spec PyProof.Rows L2
theorem Fr.tsm {H H' : Hp} {p pc : Addr} {c : Nat} (f : Fr p pc H H') (P : PoolAt H p pc c) : Tsm H H' := P.tsm f
section
variable {P : Program} {w : World} {K : PySem.W.Frag} {mg : Str → Option Value} {base : Heap}
/-- a pair of a drawn timetable -/
def SmP (sides : Nat) (far : Bool) (a : Row) : Prop := a.1.length = sides ∧ (∀ x ∈ a.1, -2 ^ 80 ≤ x ∧ x ≤ 2 ^ 80 ∧ (far = true → 0 ≤ x)) ∧ -2 ^ 160 ≤ a.2 ∧ a.2 ≤ 2 ^ 160
theorem smP_mul {far : Bool} {s : Int} (s0 : 0 ≤ s) (s1 : s ≤ 2 ^ 70) {d : List Int} (h : Sm far d) : ∀ x ∈ d.map (s * ·), -2 ^ 80 ≤ x ∧ x ≤ 2 ^ 80 ∧ (far = true → 0 ≤ x) := fun y hy => by
  obtain ⟨x, hx, rfl⟩ := List.mem_map.mp hy
  obtain ⟨a, b, c⟩ := h x hx
  refine ⟨?_, ?_, fun z => Int.mul_nonneg s0 (c z)⟩
  · have := Int.mul_le_mul_of_nonneg_left a s0
    show _ ≤ s * x
    omega
  · have := Int.mul_le_mul_of_nonneg_left b s0
    show s * x ≤ _
    omega
def spPairs : Sp := fun vs H Q _ => ∃ (p pc a sa : Addr) (rows : List (List Int)) (scales : List Int) (fr : Int) (sides : Nat) (far : Bool) (c : Nat), vs = [.ref p, .ref a, .ref sa, .int fr] ∧ PoolAt H p pc c ∧ a ≠ p ∧ a ≠ pc ∧ sa ≠ p ∧ sa ≠ pc ∧
  LD H a (rows.map dI) ∧ H sa = some (.lst (scales.map V.int)) ∧ rows.length ≤ 4 ∧ rows.length ≤ scales.length ∧ (∀ s ∈ scales, 0 ≤ s ∧ s ≤ 2 ^ 70) ∧ 0 ≤ fr ∧ fr ≤ 2 ^ 70 ∧ (∀ d ∈ rows, d.length = sides ∧ Sm far d) ∧ sides ≤ 4 ∧ c + 8 ≤ 10 ^ 9 ∧
  ∀ v (es : List Row) H', Fr p pc H H' → PoolAt H' p pc (c + 8) → TD H' v (.tuple (es.map dRow)) → es.length = rows.length → (∀ a ∈ es, SmP sides far a) → Q v H'
/-! _law_pairs: slots 0 _law_pool_here, 1 _law_rows, 2 _law_scales, 3 _law_far, 4 _law_found, 5 _law_k, 6 _law_more, 7 _law_part; calls ['G_law_draw'] -/
abbrev N_law_pairs : List Str := ["_law_pool_here", "_law_rows", "_law_scales", "_law_far", "_law_found", "_law_k", "_law_more", "_law_part"]
theorem sc_law_pairs : FnScope N_law_pairs ["_law_pool_here", "_law_rows", "_law_scales", "_law_far"] (defScope s_law_pairs) := ⟨rfl, rfl, rfl, by decide +kernel, rfl, by decide +kernel, by decide +kernel⟩
theorem ok_law_pairs (W : Wd K mg) : Ok P w K mg base 2 "_law_pairs" ["_law_pool_here", "_law_rows", "_law_scales", "_law_far"] spPairs := by
  have sc := sc_law_pairs
  have G_law_draw : Ok P w K mg base 1 "_law_draw" ["_law_pool_here", "_law_many"] spDraw := ok_law_draw W
  refine Ok.mk' W.F_law_pairs W.g_law_pairs sc (fun vs H Q E h => ?_) (fun _ _ _ _ _ _ us hl => match us, hl with | [_, _, _, _], _ => rfl) (fun cdv A outer s H vs Q E hr h => ?_)
  · obtain ⟨p, pc, a, sa, rows, scales, fr, sides, far, c, rfl, _⟩ := h
    rfl
  · obtain ⟨p, pc, a, sa, rows, scales, fr, sides, far, c, rfl, pool, nap, napc, nsp, nspc, ⟨rv, ha, tra⟩, hsa, r4, rs, sb, f0, f1, rb, s4, c9, k⟩ := h
    refine ⟨_, (pss_cons (ps_set (i := 4) sc.nd rfl (Or.inl rfl) (pe_lst pa_nil))
    (pss_cons (ps_for PassesOwn.never rfl (pi_range1 (by rfl) W.b_range (pa_cons (pe_callB (k_len K) (by rfl) W.b_len PySem.boot_len (pa_cons (pv 1) pa_nil)) pa_nil)) (pg_name (i := 5) sc.nd rfl (Or.inr rfl))
      (pss_cons (ps_set (i := 6) sc.nd rfl (Or.inl rfl) (pe_ix (k_ixl K) (pe_lst (pa_cons pe_int (pa_cons pe_int (pa_cons pe_int (pa_cons pe_int (pa_cons (pe_un un_neg pe_int) (pa_cons pe_int pa_nil))))))) (pe_c G_law_draw (hr.mono (by decide)) (by rfl) (pa_cons (pv 0) (pa_cons pe_int pa_nil))) (fun _ _ => rfl)))
      (pss_one (ps_expr (k_bm K PySem.F.plainAttrs_list PySem.F.slot_list_append PySem.F.type_list_append mt_append (pv 4) (pa_cons (pe_tup (pa_cons (pe_callTy (k_tupof K) (by rfl) W.b_tuple PyProof.Rows.boot_tuple (pa_cons (pe_lc (own := [("_law_part", 7)]) (g := gName 7) rfl sc.nd (k_pit K (pe_ix (k_ixl K) (pv 1) (pv 5) (fun _ _ => rfl))) (blkOk_by (N := N_law_pairs) (sc := defScope s_law_pairs) (by decide +kernel))  (fun _ _ _ _ _ => (pg_name (i := 7) sc.nd rfl (Or.inl rfl))) (fun _ _ _ _ _ => pts_nil) (fun _ _ _ _ _ => (pe_op op_mulW (pe_ix (k_ixl K) (pv 2) (pv 5) (fun _ _ => rfl)) (pv 7)))) pa_nil)) (pa_cons (pe_op op_mulW (pe_op op_mulW (pe_ix (k_ixl K) (pv 2) (pv 5) (fun _ _ => rfl)) (pv 3)) (pv 6)) pa_nil))) pa_nil))))))
    (pss_one (ps_ret (pe_callTy (k_tupof K) (by rfl) W.b_tuple PyProof.Rows.boot_tuple (pa_cons (pv 4) pa_nil)))))), ?_⟩
    have rvl : rv.length = rows.length := by rw [tra.length, List.length_map]
    refine ⟨by show _ ≤ sizeLine; decide, fun F hF => ?_⟩
    have nF := pool.nn hF
    have s1 : Same H (upd H F (.lst [])) := Same.upd hF
    have e1 : (upd H F (.lst [])) F = some (.lst []) := upd_same
    generalize upd H F (.lst []) = H1 at *
    refine ⟨_, rfl, a, _, rfl, .inl (SqL.of (s1 _ _ ha)), ?_⟩
    rw [rvl]
    refine ⟨_, rfl, by omega, by omega, ?_⟩
    rw [show ((rows.length : Nat) : Int).toNat = rows.length by omega]
    refine for_range (lo := 0) (n := rows.length) (fun i σ H' => ∃ (v5 v6 : Option V) (xs : List V) (es : List Row), σ = [some (.ref p), some (.ref a), some (.ref sa), some (.int fr), some (.ref F), v5, v6, none] ∧
      PoolAt H' p pc (c + i) ∧ Fr p pc H H' ∧ H' F = some (.lst xs) ∧ TDs H' xs (es.map dRow) ∧ es.length = i ∧ ∀ a ∈ es, SmP sides far a)
      ⟨_, _, _, [], rfl, pool.same s1, Fr.of s1, e1, .nil, rfl, fun x hx => by cases hx⟩ ?_ ?_
    · rintro i σ H3 hi ⟨v5, v6, xs, es, rfl, pool3, fr3, hF3, tes, el, eb⟩
      obtain ⟨d, hd⟩ : ∃ d, rows[i]? = some d := ⟨_, List.getElem?_eq_getElem (by omega)⟩
      obtain ⟨vd, hvd, tvd⟩ := tra.get (i := i) (d := dI d) (by rw [List.getElem?_map, hd]; rfl)
      obtain ⟨sc', hsc⟩ : ∃ s, scales[i]? = some s := ⟨_, List.getElem?_eq_getElem (by omega)⟩
      obtain ⟨dl, ds⟩ := rb d (List.mem_of_getElem? hd)
      obtain ⟨sc0, sc1⟩ := sb sc' (List.mem_of_getElem? hsc)
      refine ⟨_, rfl, ?_⟩
      refine ⟨by show _ ≤ sizeLine; decide, fun M hM => ?_⟩
      have nM := pool3.nn hM
      have s3 : Same H3 (upd H3 M (.lst [.int 0, .int 0, .int 0, .int 1, .int (-1), .int 2])) := Same.upd hM
      have hM1 : (upd H3 M (.lst [.int 0, .int 0, .int 0, .int 1, .int (-1), .int 2])) M = some (.lst [.int 0, .int 0, .int 0, .int 1, .int (-1), .int 2]) := upd_same
      generalize upd H3 M (.lst [.int 0, .int 0, .int 0, .int 1, .int (-1), .int 2]) = H4 at *
      refine ⟨_, rfl, p, pc, _, c + i, rfl, pool3.same s3, by decide, by decide, by omega, fun x H5 x0 x1 pool5 fr5 => ?_⟩
      obtain ⟨m, hm, m0, m1⟩ : ∃ m : Int, ([.int 0, .int 0, .int 0, .int 1, .int (-1), .int 2] : List V)[x.toNat]? = some (.int m) ∧ -1 ≤ m ∧ m ≤ 2 := by
        have : x = 0 ∨ x = 1 ∨ x = 2 ∨ x = 3 ∨ x = 4 ∨ x = 5 := by omega
        rcases this with rfl | rfl | rfl | rfl | rfl | rfl
        all_goals exact ⟨_, rfl, by decide, by decide⟩
      refine r_lgetI (j := x.toNat) (fr5 _ _ nM.1.symm nM.2.symm hM1) (by omega) hm ?_
      have fr5' : Fr p pc H H5 := (fr3.trans (Fr.of s3)).trans fr5
      have hF5 := fr5 _ _ nF.1.symm nF.2.symm (s3 _ _ hF3)
      have tes5 := (tes.mono (Tsm.of s3)).mono ((pool3.same s3).tsm fr5)
      have tvd5 := tvd.mono (pool.tsm fr5')
      obtain ⟨ad, rfl, had⟩ := tvd5.ints
      refine ⟨_, rfl, .inl ⟨rfl, _, SqL.of hF5⟩, ?_⟩
      refine ⟨_, rfl, _, rfl, r_lgetI (j := i) (fr5' _ _ nap napc ha) (Int.zero_add _) hvd ⟨ad, rfl, ⟨_, SqT.of had⟩, fun D hD => ?_⟩⟩
      refine lc_tupG (fun j v _ => ∃ x, d[j]? = some x ∧ v = .int (sc' * x)) (SqT.of had) hD (by rw [List.length_map]; omega) (fun _ _ _ _ _ h => h) (fun j y H6 acc Qy hy s6 hA z => ⟨rfl, ?_⟩) (fun H6 ys s6 hD6 hl hys => ?_)
      · obtain ⟨x', hx', rfl⟩ : ∃ x', d[j]? = some x' ∧ y = V.int x' := by
          rw [List.getElem?_map] at hy
          cases e : d[j]? with
          | none => rw [e] at hy; cases hy
          | some b => rw [e] at hy; exact ⟨b, rfl, (Option.some.inj hy).symm⟩
        obtain ⟨q1, q2, _⟩ := ds x' (List.mem_of_getElem? hx')
        refine ⟨_, rfl, _, rfl, r_lgetI (j := i) (v := .int sc') (s6 _ _ (fr5' _ _ nsp nspc hsa)) (Int.zero_add _) (by rw [List.getElem?_map, hsc]; rfl) ?_⟩
        exact ⟨_, rfl, _, _, rfl, rfl, wide_mul (a := 100) (b := 100) (by omega) (by omega) (by decide) (by decide) (by decide), z _ _ Xt.refl hA ⟨_, hx', rfl⟩⟩
      have ey : ys = (d.map (sc' * ·)).map V.int := by
        rw [List.map_map]
        exact eq_map (by rw [hl, List.length_map]) fun j y e => by
          obtain ⟨r, h1, h2⟩ := hys j y e
          exact ⟨r, h1, h2⟩
      rw [ey] at hD6
      refine ⟨D, _, rfl, .inl ⟨SqL.of hD6, fun T hT => ?_⟩⟩
      have s7 : Same H5 (upd H6 T (.tup ((d.map (sc' * ·)).map V.int))) := s6.trans (Same.upd hT)
      have hT7 : (upd H6 T (.tup ((d.map (sc' * ·)).map V.int))) T = some (.tup ((d.map (sc' * ·)).map V.int)) := upd_same
      generalize upd H6 T (.tup ((d.map (sc' * ·)).map V.int)) = H7 at *
      refine ⟨_, rfl, _, rfl, r_lgetI (j := i) (v := .int sc') (s7 _ _ (fr5' _ _ nsp nspc hsa)) (Int.zero_add _) (by rw [List.getElem?_map, hsc]; rfl) ?_⟩
      have w1 : 0 ≤ sc' * fr := Int.mul_nonneg sc0 f0
      have w2 : sc' * fr ≤ 2 ^ 140 := Int.le_trans (Int.mul_le_mul sc1 f1 f0 (by decide)) (by decide)
      refine ⟨_, rfl, _, _, rfl, rfl, wide_mul (a := 100) (b := 100) (by omega) (by omega) (by decide) (by decide) (by decide), ?_⟩
      refine ⟨_, rfl, _, _, rfl, rfl, wide_mul (a := 200) (b := 100) (by omega) (by omega) (by decide) (by decide) (by decide), ?_⟩
      refine ⟨by rw [sizeLine_eq]; show 2 ≤ _; omega, fun T2 hT2 => ?_⟩
      have s8 : Same H5 (upd H7 T2 (.tup [.ref T, .int (sc' * fr * m)])) := s7.trans (Same.upd hT2)
      have hT8 : TD (upd H7 T2 (.tup [.ref T, .int (sc' * fr * m)])) (.ref T2) (dRow (d.map (sc' * ·), sc' * fr * m)) :=
        .tup upd_same (.cons (TD.of_ints (by rw [upd_ne (ne_of_none hT7 hT2)]; exact hT7)) (.cons (.int _) .nil))
      generalize upd H7 T2 (.tup [.ref T, .int (sc' * fr * m)]) = H8 at *
      have hF8 := s8 _ _ hF5
      have xl : xs.length = i := by rw [tes.length, List.length_map, el]
      refine ⟨F, _, _, rfl, rfl, hF8, by rw [sizeLine_eq]; omega, ?_⟩
      have ts : Tsm H8 (upd H8 F (.lst (xs ++ [.ref T2]))) := fun b o e => by rw [upd_ne (ne_of e hF8 (by intro z; cases z))]; exact e
      refine ⟨_, _, _, es ++ [(d.map (sc' * ·), sc' * fr * m)], rfl, ((pool5.same s8).off nF.1 nF.2), fun b o' n1 n2 e => ?_, upd_same, ?_, by rw [List.length_append, el]; rfl, fun b hb => ?_⟩
      · rw [upd_ne (ne_of_none e hF)]; exact s8 _ _ (fr5' _ _ n1 n2 e)
      · rw [List.map_append]
        exact ((tes5.mono (Tsm.of s8)).append (.cons hT8 .nil)).mono ts
      · rcases List.mem_append.mp hb with hb | hb
        · exact eb b hb
        · rw [List.mem_singleton.mp hb]
          have m1' : sc' * fr * m ≤ sc' * fr * 2 := Int.mul_le_mul_of_nonneg_left m1 w1
          have m0' : sc' * fr * (-1) ≤ sc' * fr * m := Int.mul_le_mul_of_nonneg_left m0 w1
          exact ⟨by show (d.map _).length = _; rw [List.length_map]; exact dl, smP_mul sc0 sc1 ds, by show _ ≤ sc' * fr * m; omega, by show sc' * fr * m ≤ _; omega⟩
    · rintro σ H3 ⟨v5, v6, xs, es, rfl, pool3, fr3, hF3, tes, el, eb⟩
      refine ⟨_, rfl, F, _, rfl, .inl ⟨SqL.of hF3, fun T hT => ?_⟩⟩
      refine k _ es _ (fun b o' n1 n2 e => ?_) ?_ ?_ el eb
      · have g := fr3 _ _ n1 n2 e
        rw [upd_ne (ne_of_none g hT)]; exact g
      · have pool7 := pool3.up (d := c + 8) (by omega)
        exact pool7.off (pool7.nn hT).1 (pool7.nn hT).2
      · exact .tup upd_same (tes.mono (Tsm.of (Same.upd hT)))
end
end TN
set_option Elab.async false
set_option linter.all false
set_option maxRecDepth 100000
set_option maxHeartbeats 4000000
/-! W34: dot, is_int, are_ints. -/
namespace TN
open PySem PySem.Spec PyProof.Rows L2
section
variable {P : Program} {w : World} {K : PySem.W.Frag} {mg : Str → Option Value} {base : Heap}
/-! _law_is_int: slots 0 _law_thing; calls [] -/
abbrev N_law_is_int : List Str := ["_law_thing"]
theorem sc_law_is_int : FnScope N_law_is_int ["_law_thing"] (defScope s_law_is_int) := ⟨rfl, rfl, rfl, by decide +kernel, rfl, by decide +kernel, by decide +kernel⟩
theorem ok_law_is_int (W : Wd K mg) : Ok P w K mg base 1 "_law_is_int" ["_law_thing"] spIsInt := by
  have sc := sc_law_is_int
  refine Ok.mk' W.F_law_is_int W.g_law_is_int sc (fun vs H Q E h => ?_) (fun _ _ _ _ _ _ us hl => match us, hl with | [_], _ => rfl) (fun cdv A outer s H vs Q E hr h => ?_)
  · obtain ⟨i, rfl, _⟩ := h
    rfl
  · obtain ⟨i, rfl, k⟩ := h
    refine ⟨_, (pss_one (ps_ret (pe_and (pe_callB (k_isi K) (by rfl) W.b_isinstance PyProof.Rows.boot_isinstance (pa_cons (pv 0) (pa_cons (pe_bltn (v := .ty "int") (by rfl) W.b_int PyProof.Rows.boot_int rfl) pa_nil))) (pe_one (pe_not (pe_callB (k_isi K) (by rfl) W.b_isinstance PyProof.Rows.boot_isinstance (pa_cons (pv 0) (pa_cons (pe_bltn (v := .ty "bool") (by rfl) W.b_bool PyProof.Rows.boot_bool rfl) pa_nil)))))))), ?_⟩
    refine ⟨_, rfl, _, _, _, _, _, rfl, .ty _, .base (.int i), kit_ii, _, rfl, ?_⟩
    refine iteT ?_
    refine ⟨_, rfl, _, _, _, _, _, rfl, .ty _, .base (.int i), kit_ib, _, rfl, ?_⟩
    exact k
/-! _law_are_ints: slots 0 _law_things, 1 _law_many, 2 _law_one; calls ['G_law_is_int'] -/
abbrev N_law_are_ints : List Str := ["_law_things", "_law_many", "_law_one"]
theorem sc_law_are_ints : FnScope N_law_are_ints ["_law_things", "_law_many"] (defScope s_law_are_ints) := ⟨rfl, rfl, rfl, by decide +kernel, rfl, by decide +kernel, by decide +kernel⟩
theorem ok_law_are_ints (W : Wd K mg) : Ok P w K mg base 2 "_law_are_ints" ["_law_things", "_law_many"] spAreInts := by
  have sc := sc_law_are_ints
  have G_law_is_int : Ok P w K mg base 1 "_law_is_int" ["_law_thing"] spIsInt := ok_law_is_int W
  refine Ok.mk' W.F_law_are_ints W.g_law_are_ints sc (fun vs H Q E h => ?_) (fun _ _ _ _ _ _ us hl => match us, hl with | [_, _], _ => rfl) (fun cdv A outer s H vs Q E hr h => ?_)
  · obtain ⟨p, ns, m, rfl, _⟩ := h
    rfl
  · obtain ⟨p, ns, m, rfl, hp, hm, hn, k⟩ := h
    refine ⟨_, (pss_one (ps_ret (pe_and (pe_callB (k_isi K) (by rfl) W.b_isinstance PyProof.Rows.boot_isinstance (pa_cons (pv 0) (pa_cons (pe_bltn (v := .ty "tuple") (by rfl) W.b_tuple PyProof.Rows.boot_tuple rfl) pa_nil))) (pe_and (pe_cmpR op_eq (pe_callB (k_len K) (by rfl) W.b_len PySem.boot_len (pa_cons (pv 0) pa_nil)) (pv 1) (nomark _)) (pe_one (pe_callB (k_all K rfl) (by rfl) W.b_all PyProof.Rows.boot_all (pa_cons (pe_lc (own := [("_law_one", 2)]) (g := gName 2) rfl sc.nd (k_pit K (pv 0)) (blkOk_by (N := N_law_are_ints) (sc := defScope s_law_are_ints) (by decide +kernel))  (fun _ _ _ _ _ => (pg_name (i := 2) sc.nd rfl (Or.inl rfl))) (fun _ _ _ _ _ => pts_nil) (fun _ _ _ _ _ => (pe_c G_law_is_int (hr.mono (by decide)) (by rfl) (pa_cons (pv 2) pa_nil)))) pa_nil))))))), ?_⟩
    refine ⟨_, rfl, _, _, _, _, _, rfl, .ty _, .base (.tup hp), kit_tt, _, rfl, iteT ?_⟩
    refine ⟨_, rfl, p, _, rfl, .inr (SqT.of hp), _, rfl, rfl, ?_⟩
    rw [List.length_map, hm]
    refine ⟨_, rfl, ?_⟩
    rw [decide_eq_true (show V.int m = V.int m from rfl)]
    refine iteT ?_
    refine ⟨_, rfl, p, rfl, ⟨_, SqT.of hp⟩, fun D hD => ?_⟩
    refine lc_tupG (fun _ v _ => v = .bl true) (SqT.of hp) hD (by simpa using hn) (fun _ _ _ _ _ h => h) (fun i x H1 acc Qy hx s1 hA q => ⟨rfl, ?_⟩) (fun H1 ys s1 hA hl hy => ?_)
    · obtain ⟨v, rfl⟩ : ∃ v, x = V.int v := by
        rw [List.getElem?_map] at hx
        cases e : ns[i]? with
        | none => rw [e] at hx; cases hx
        | some v => rw [e] at hx; exact ⟨v, (Option.some.inj hx).symm⟩
      exact ⟨_, rfl, v, rfl, q _ _ Xt.refl hA rfl⟩
    · refine ⟨D, List.replicate ys.length true, rfl, SqL.of (by rw [hA, ← all_true rfl hy]), ?_⟩
      rw [all_id]
      exact k _ s1
end
end TN
set_option Elab.async false
set_option linter.all false
set_option maxRecDepth 100000
set_option maxHeartbeats 4000000
/-! W35: numbers and points. -/
namespace TN
open PySem PySem.Spec PyProof.Rows L2
section
variable {P : Program} {w : World} {K : PySem.W.Frag} {mg : Str → Option Value} {base : Heap}
theorem pow_bd {a b : Int} (h : 0 ≤ a) (h2 : a ≤ b) : ∀ n : Nat, 0 ≤ a ^ n ∧ a ^ n ≤ b ^ n
  | 0 => by simp
  | n + 1 => by
    obtain ⟨p, q⟩ := pow_bd h h2 n
    rw [Int.pow_succ, Int.pow_succ]
    exact ⟨Int.mul_nonneg p h, Int.mul_le_mul q h2 h (Int.le_trans p q)⟩
def spNumber : Sp := fun vs H Q _ => ∃ (p pc : Addr) (c : Nat), vs = [.ref p] ∧ PoolAt H p pc c ∧ c + 2 ≤ 10 ^ 9 ∧ ∀ n H', Fr p pc H H' → PoolAt H' p pc (c + 2) → -2 ^ 230 ≤ n → n ≤ 2 ^ 230 → Q (.int n) H'
/-! _law_number: slots 0 _law_pool_here, 1 _law_much; calls ['G_law_draw'] -/
abbrev N_law_number : List Str := ["_law_pool_here", "_law_much"]
theorem sc_law_number : FnScope N_law_number ["_law_pool_here"] (defScope s_law_number) := ⟨rfl, rfl, rfl, by decide +kernel, rfl, by decide +kernel, by decide +kernel⟩
theorem ok_law_number (W : Wd K mg) : Ok P w K mg base 2 "_law_number" ["_law_pool_here"] spNumber := by
  have sc := sc_law_number
  have G_law_draw : Ok P w K mg base 1 "_law_draw" ["_law_pool_here", "_law_many"] spDraw := ok_law_draw W
  refine Ok.mk' W.F_law_number W.g_law_number sc (fun vs H Q E h => ?_) (fun _ _ _ _ _ _ us hl => match us, hl with | [_], _ => rfl) (fun cdv A outer s H vs Q E hr h => ?_)
  · obtain ⟨p, pc, c, rfl, _⟩ := h
    rfl
  · obtain ⟨p, pc, c, rfl, pool, c9, k⟩ := h
    refine ⟨_, (pss_cons (ps_set (i := 1) sc.nd rfl (Or.inl rfl) (pe_c G_law_draw (hr.mono (by decide)) (by rfl) (pa_cons (pv 0) (pa_cons (pe_op op_pow pe_int pe_int) pa_nil))))
    (pss_one (ps_ret (pe_ix (k_ixl K) (pe_lst (pa_cons pe_int (pa_cons pe_int (pa_cons (pe_op op_sub (pe_op op_mod (pv 1) pe_int) pe_int) (pa_cons (pv 1) (pa_cons (pe_un un_neg (pv 1)) (pa_cons (pe_op op_pow (pe_op op_add (pv 1) pe_int) pe_int) (pa_cons (pe_un un_neg (pe_op op_pow (pe_op op_add (pv 1) pe_int) pe_int)) pa_nil)))))))) (pe_c G_law_draw (hr.mono (by decide)) (by rfl) (pa_cons (pv 0) (pa_cons pe_int pa_nil))) (fun _ _ => rfl))))), ?_⟩
    refine ⟨_, rfl, ?_⟩
    have cp : ∀ (i : Int) (j : Int), 0 ≤ i → i ≤ 10 ^ 7 → 0 ≤ j → j ≤ 20 → CPow i j := fun i j a b d e => ⟨d, by omega, by omega⟩
    refine ⟨_, _, rfl, rfl, cp _ _ (by decide) (by decide) (by decide) (by decide), ?_⟩
    refine ⟨p, pc, (10 : Int) ^ (6 : Int).toNat, c, rfl, pool, by decide, by decide, by omega, fun m H1 m0 m1 pool1 fr1 => ?_⟩
    have m1 : m < 1000000 := m1
    refine ⟨_, rfl, _, _, rfl, rfl, (show (0 : Int) < 12 by decide), ?_⟩
    refine ⟨_, _, rfl, rfl, ?_⟩
    refine ⟨_, rfl, ?_⟩
    refine ⟨_, rfl, _, rfl, ?_⟩
    refine ⟨_, rfl, _, _, rfl, rfl, ?_⟩
    refine ⟨_, _, rfl, rfl, cp _ _ (by omega) (by omega) (by decide) (by decide), ?_⟩
    refine ⟨_, rfl, _, _, rfl, rfl, ?_⟩
    refine ⟨_, _, rfl, rfl, cp _ _ (by omega) (by omega) (by decide) (by decide), ?_⟩
    refine ⟨_, rfl, ?_⟩
    refine ⟨by rw [sizeLine_eq]; show 7 ≤ _; omega, fun M hM => ?_⟩
    have nM := pool1.nn hM
    obtain ⟨ns, hns⟩ : ∃ ns : List Int, [0, 1, m % 12 - 3, m, -m, (m + 1) ^ 11, -((m + 1) ^ 9)] = ns := ⟨_, rfl⟩
    have hv : [V.int 0, .int 1, .int (m % 12 - 3), .int m, .int (-m), .int ((m + 1) ^ 11), .int (-((m + 1) ^ 9))] = ns.map V.int := by rw [← hns]; rfl
    have nl : ns.length = 7 := by rw [← hns]; rfl
    have nb : ∀ n ∈ ns, -2 ^ 230 ≤ n ∧ n ≤ 2 ^ 230 := fun n hn => by
      have a := pow_bd (a := m + 1) (b := 2 ^ 20) (by omega) (by omega) 11
      have b := pow_bd (a := m + 1) (b := 2 ^ 20) (by omega) (by omega) 9
      rw [← hns] at hn
      simp only [List.mem_cons, List.not_mem_nil, or_false] at hn
      generalize (m + 1) ^ 11 = u at *
      generalize (m + 1) ^ 9 = v at *
      have e1 : (2 ^ 20 : Int) ^ 11 = 2 ^ 220 := by decide
      have e2 : (2 ^ 20 : Int) ^ 9 = 2 ^ 180 := by decide
      rw [e1] at a
      rw [e2] at b
      omega
    generalize hH2 : upd H1 M (HO.lst _) = H2
    have hM2 : H2 M = some (.lst (ns.map V.int)) := by rw [← hH2, upd_same]; exact congrArg (fun l => some (HO.lst l)) hv
    have s2 : Same H1 H2 := by rw [← hH2]; exact Same.upd hM
    refine ⟨_, rfl, p, pc, _, c + 1, rfl, pool1.same s2, by decide, by decide, by omega, fun x H3 x0 x1 pool3 fr3 => ?_⟩
    have xl : x.toNat < ns.length := by omega
    refine r_lgetI (j := x.toNat) (v := .int ns[x.toNat]) (fr3 _ _ nM.1.symm nM.2.symm hM2) (by omega) (by rw [List.getElem?_map, List.getElem?_eq_getElem xl]; rfl) ?_
    obtain ⟨b1, b2⟩ := nb _ (List.getElem_mem xl)
    exact k _ _ ((fr1.trans (Fr.of s2)).trans fr3) pool3 b1 b2
def spPoint : Sp := fun vs H Q _ => ∃ (p pc : Addr) (sides c : Nat), vs = [.ref p, .int (sides : Int)] ∧ PoolAt H p pc c ∧ sides ≤ 4 ∧ c + 8 ≤ 10 ^ 9 ∧
  ∀ v ns H', Fr p pc H H' → PoolAt H' p pc (c + 8) → TD H' v (dI ns) → ns.length = sides → (∀ n ∈ ns, -2 ^ 230 ≤ n ∧ n ≤ 2 ^ 230) → Q v H'
/-! _law_point: slots 0 _law_pool_here, 1 _law_sides, 2 _law_side; calls ['G_law_number'] -/
abbrev N_law_point : List Str := ["_law_pool_here", "_law_sides", "_law_side"]
theorem sc_law_point : FnScope N_law_point ["_law_pool_here", "_law_sides"] (defScope s_law_point) := ⟨rfl, rfl, rfl, by decide +kernel, rfl, by decide +kernel, by decide +kernel⟩
theorem ok_law_point (W : Wd K mg) : Ok P w K mg base 3 "_law_point" ["_law_pool_here", "_law_sides"] spPoint := by
  have sc := sc_law_point
  have G_law_number : Ok P w K mg base 2 "_law_number" ["_law_pool_here"] spNumber := ok_law_number W
  refine Ok.mk' W.F_law_point W.g_law_point sc (fun vs H Q E h => ?_) (fun _ _ _ _ _ _ us hl => match us, hl with | [_, _], _ => rfl) (fun cdv A outer s H vs Q E hr h => ?_)
  · obtain ⟨p, pc, sides, c, rfl, _⟩ := h
    rfl
  · obtain ⟨p, pc, sides, c, rfl, pool, s4, c9, k⟩ := h
    refine ⟨_, (pss_one (ps_ret (pe_callTy (k_tupof K) (by rfl) W.b_tuple PyProof.Rows.boot_tuple (pa_cons (pe_lc (own := [("_law_side", 2)]) (g := gName 2) rfl sc.nd (pi_range1 (by rfl) W.b_range (pa_cons (pv 1) pa_nil)) (blkOk_by (N := N_law_point) (sc := defScope s_law_point) (by decide +kernel))  (fun _ _ _ _ _ => (pg_name (i := 2) sc.nd rfl (Or.inl rfl))) (fun _ _ _ _ _ => pts_nil) (fun _ _ _ _ _ => (pe_c G_law_number (hr.mono (by decide)) (by rfl) (pa_cons (pv 0) pa_nil)))) pa_nil)))), ?_⟩
    refine ⟨_, rfl, _, rfl, by omega, by omega, fun D hD => ?_⟩
    have nD := pool.nn hD
    rw [show ((sides : Nat) : Int).toNat = sides by omega]
    refine lc_rangeR (lo := 0) (n := sides) (fun i ys H' => ∃ ns : List Int, ys = ns.map V.int ∧ ns.length = i ∧ (∀ n ∈ ns, -2 ^ 230 ≤ n ∧ n ≤ 2 ^ 230) ∧ PoolAt H' p pc (c + 2 * i) ∧ ∀ b o, b ≠ p → b ≠ pc → H b = some o → H' b = some o) (by omega)
      ⟨[], rfl, rfl, fun n hn => (by cases hn), pool.same (Same.upd hD), fun b o _ _ e => Same.upd hD _ _ e⟩ (fun i H2 acc Qy hi hA ⟨ns, e1, nl, nb, pool2, fr2⟩ z => ⟨rfl, ?_⟩) (fun H2 ys hD2 hl ⟨ns, e1, nl, nb, pool2, fr2⟩ => ?_)
    · refine ⟨_, rfl, p, pc, c + 2 * i, rfl, pool2, by omega, fun n H3 fr3 pool3 n0 n1 => ?_⟩
      refine z _ _ (fr3 _ _ nD.1.symm nD.2.symm hA) ⟨ns ++ [n], by rw [e1]; simp, by simp [nl], fun x hx => ?_, (pool3.up (by omega)).off nD.1 nD.2, fun b o n1 n2 e => by rw [upd_ne (ne_of_none e hD)]; exact fr3 _ _ n1 n2 (fr2 _ _ n1 n2 e)⟩
      rcases List.mem_append.mp hx with hx | hx
      · exact nb x hx
      · rw [List.mem_singleton.mp hx]; exact ⟨n0, n1⟩
    · rw [e1] at hD2
      refine ⟨D, _, rfl, .inl ⟨SqL.of hD2, fun T hT => ?_⟩⟩
      have pool7 := pool2.up (d := c + 8) (by omega)
      refine k _ ns _ (fun b o' n1 n2 e => ?_) (pool7.off (pool7.nn hT).1 (pool7.nn hT).2) (TD.of_ints upd_same) nl nb
      have g := fr2 _ _ n1 n2 e
      rw [upd_ne (ne_of_none g hT)]; exact g
end
end TN
set_option Elab.async false
set_option linter.all false
set_option maxRecDepth 100000
set_option maxHeartbeats 4000000
/-! W36: dot and time. -/
namespace TN
open PySem PySem.Spec PyProof.Rows L2
section
variable {P : Program} {w : World} {K : PySem.W.Frag} {mg : Str → Option Value} {base : Heap}
/-! _law_dot: slots 0 _law_row_here, 1 _law_step_here, 2 _law_one, 3 _law_other; calls [] -/
abbrev N_law_dot : List Str := ["_law_row_here", "_law_step_here", "_law_one", "_law_other"]
theorem sc_law_dot : FnScope N_law_dot ["_law_row_here", "_law_step_here"] (defScope s_law_dot) := ⟨rfl, rfl, rfl, by decide +kernel, rfl, by decide +kernel, by decide +kernel⟩
theorem ok_law_dot (W : Wd K mg) : Ok P w K mg base 1 "_law_dot" ["_law_row_here", "_law_step_here"] spDot := by
  have sc := sc_law_dot
  refine Ok.mk' W.F_law_dot W.g_law_dot sc (fun vs H Q E h => ?_) (fun _ _ _ _ _ _ us hl => match us, hl with | [_, _], _ => rfl) (fun cdv A outer s H vs Q E hr h => ?_)
  · obtain ⟨p, q, as, bs, rfl, _⟩ := h
    rfl
  · obtain ⟨p, q, as, bs, rfl, hp, hq, hn, ha, hb, k⟩ := h
    refine ⟨_, (pss_one (ps_ret (pe_callB (k_sum K rfl) (by rfl) W.b_sum PyProof.Rows.boot_sum (pa_cons (pe_lc (own := [("_law_one", 2), ("_law_other", 3)]) (g := gTup K 2 (gCons (gName 2) (gCons (gName 3) gNil))) rfl sc.nd (k_piz K (by rfl) W.b_zip (pa_cons (pv 0) (pa_cons (pv 1) pa_nil))) (blkOk_by (N := N_law_dot) (sc := defScope s_law_dot) (by decide +kernel))  (fun _ _ _ _ _ => (k_tup K rfl (pgs_cons (pg_name (i := 2) sc.nd rfl (Or.inl rfl)) (pgs_cons (pg_name (i := 3) sc.nd rfl (Or.inl rfl)) pgs_nil)))) (fun _ _ _ _ _ => pts_nil) (fun _ _ _ _ _ => (pe_op op_mulW (pv 2) (pv 3)))) pa_nil)))), ?_⟩
    refine ⟨_, rfl, _, rfl, p, q, _, _, rfl, .inr ⟨SqT.of hp, SqT.of hq, fun D hD => ?_⟩⟩
    refine lc_zipTG (fun i v _ => ∃ x y, as[i]? = some x ∧ bs[i]? = some y ∧ v = .int (x * y)) (SqT.of hp) (SqT.of hq) hD (by simpa using hn) (fun _ _ _ _ _ h => h) (fun i x y T H1 acc Qy hx hy s1 hA hT q => ?_) (fun H1 ys s1 hA hl hy => ?_)
    · obtain ⟨u, hu, rfl⟩ := ints_at hx
      obtain ⟨v, hv, rfl⟩ := ints_at hy
      refine ⟨T, _, rfl, SqT.of upd_same, rfl, _, _, rfl, _, _, rfl, rfl, rfl, ?_⟩
      refine ⟨_, rfl, _, rfl, _, _, rfl, rfl, wide_mul (ha u (List.mem_of_getElem? hu)) (hb v (List.mem_of_getElem? hv)) (by decide) (by decide) (by decide), ?_⟩
      exact q _ _ (Xt.new hT) (by rw [upd_ne (ne_of_none hA hT)]; exact hA) ⟨u, v, hu, hv, rfl⟩
    · have e : ys = ((as.zip bs).map fun p => p.1 * p.2).map V.int := by
        rw [List.map_map]
        refine eq_map (by rw [hl]; simp) fun j y q => ?_
        obtain ⟨u, v, hu, hv, rfl⟩ := hy j y q
        exact ⟨(u, v), by rw [List.getElem?_zip_eq_some]; exact ⟨hu, hv⟩, rfl⟩
      refine ⟨D, _, rfl, SqL.of (by rw [hA, e]), ?_⟩
      rw [dotI_sum]
      exact k _ s1
def spLTime : Sp := fun vs H Q _ => ∃ (v u : V) (g : Prg) (T : Tt) (t : Nat) (pt : List Int), vs = [v, .int (t : Int), u] ∧ g.Ok ∧ TD H v (dT T) ∧ TtB g T ∧ t < g.tables ∧ TD H u (dI pt) ∧
  (∀ x ∈ pt, Bits 400000 x) ∧ ∀ v' H', Same H H' → TD H' v' (dI (timeI T t pt)) → Q v' H'
/-! _law_time: slots 0 _law_made_here, 1 _law_table, 2 _law_point_here, 3 _law_number_here, 4 _law_pairs_here, 5 _law_pair; calls ['G_law_dot'] -/
abbrev N_law_time : List Str := ["_law_made_here", "_law_table", "_law_point_here", "_law_number_here", "_law_pairs_here", "_law_pair"]
theorem sc_law_time : FnScope N_law_time ["_law_made_here", "_law_table", "_law_point_here"] (defScope s_law_time) := ⟨rfl, rfl, rfl, by decide +kernel, rfl, by decide +kernel, by decide +kernel⟩
theorem ok_law_time (W : Wd K mg) : Ok P w K mg base 2 "_law_time" ["_law_made_here", "_law_table", "_law_point_here"] spLTime := by
  have sc := sc_law_time
  have G_law_dot : Ok P w K mg base 1 "_law_dot" ["_law_row_here", "_law_step_here"] spDot := ok_law_dot W
  refine Ok.mk' W.F_law_time W.g_law_time sc (fun vs H Q E h => ?_) (fun _ _ _ _ _ _ us hl => match us, hl with | [_, _, _], _ => rfl) (fun cdv A outer s H vs Q E hr h => ?_)
  · obtain ⟨v, u, g, T, t, pt, rfl, _⟩ := h
    rfl
  · obtain ⟨v, u, g, T, t, pt, rfl, gok, hv, tb, ht, hu, bpt, k⟩ := h
    obtain ⟨at_, es, rfl, hat, hes⟩ := id hv.tup_inv
    obtain ⟨au, rfl, hau⟩ := id hu.ints
    have tl := tb.len
    have g4 := gok.s4
    obtain ⟨e, he⟩ : ∃ e, T[t]? = some e := ⟨_, List.getElem?_eq_getElem (by omega)⟩
    have me := List.mem_of_getElem? he
    obtain ⟨ve, hve, tve⟩ := hes.get (i := t) (d := dEn e) (by rw [List.getElem?_map, he]; rfl)
    obtain ⟨q, ra, rows, rfl, hq, hra, hrows⟩ := en_inv tve
    have lr : rows.length = e.2.length := by rw [hrows.length, List.length_map]
    have l8 := tb.most e me
    refine ⟨_, (pss_cons (ps_asg (pe_ix (k_ixt K) (pv 0) (pv 1) (fun _ _ => rfl)) (k_tup K rfl (pgs_cons (pg_name (i := 3) sc.nd rfl (Or.inl rfl)) (pgs_cons (pg_name (i := 4) sc.nd rfl (Or.inl rfl)) pgs_nil))))
    (pss_one (ps_ret (pe_op (k_catA K) (pe_tup (pa_cons (pv 3) pa_nil)) (pe_callTy (k_tupof K) (by rfl) W.b_tuple PyProof.Rows.boot_tuple (pa_cons (pe_lc (own := [("_law_pair", 5)]) (g := gName 5) rfl sc.nd (k_pit K (pv 4)) (blkOk_by (N := N_law_time) (sc := defScope s_law_time) (by decide +kernel))  (fun _ _ _ _ _ => (pg_name (i := 5) sc.nd rfl (Or.inl rfl))) (fun _ _ _ _ _ => pts_nil) (fun _ _ _ _ _ => (pe_op op_add (pe_c G_law_dot (hr.mono (by decide)) (by rfl) (pa_cons (pe_ix (k_ixt K) (pv 5) pe_int (fun _ _ => rfl)) (pa_cons (pv 2) pa_nil))) (pe_ix (k_ixt K) (pv 5) pe_int (fun _ _ => rfl))))) pa_nil)))))), ?_⟩
    refine ⟨_, rfl, _, rfl, r_tget (j := t) hat hve ?_⟩
    refine ⟨q, _, rfl, SqT.of hq, rfl, _, _, rfl, _, _, rfl, rfl, ?_⟩
    refine ⟨_, rfl, by show 1 ≤ sizeLine; decide, fun N hN => ?_⟩
    have s13 : Same H (upd H N (.tup [.int e.1])) := Same.upd hN
    have hN3 : (upd H N (.tup [.int e.1])) N = some (.tup [.int e.1]) := upd_same
    generalize upd H N (.tup [.int e.1]) = H3 at *
    refine ⟨_, rfl, ra, rfl, ⟨_, SqT.of (s13 _ _ hra)⟩, fun D hD => ?_⟩
    refine lc_tupG (fun i v _ => ∃ a, e.2[i]? = some a ∧ v = .int (dotI a.1 pt + a.2)) (SqT.of (s13 _ _ hra)) hD (by omega) (fun _ _ _ _ _ h => h) (fun j x H4 acc Qy hx s4 hA z => ⟨rfl, ?_⟩) (fun H4 ys s4 hD4 hl hy => ?_)
    · obtain ⟨d, f1, f2⟩ := hrows.get' hx
      rw [List.getElem?_map] at f1
      cases f : e.2[j]? with
      | none => rw [f] at f1; cases f1
      | some a =>
        rw [f] at f1
        cases f1
        have ma := List.mem_of_getElem? f
        obtain ⟨q2, ra2, rfl, hq2, hra2⟩ := row_inv f2
        have s14 := s13.trans s4
        have la := tb.rl e me a ma
        refine ⟨_, rfl, r_c (r_tgetI (j := 0) (s14 _ _ hq2) rfl rfl ?_)⟩
        refine ⟨_, rfl, ra2, au, a.1, pt, rfl, s14 _ _ hra2, s14 _ _ hau, by omega, (tb.bits e me a ma).2, bpt, fun H5 s5 => ?_⟩
        refine ⟨_, rfl, r_c (r_tgetI (j := 1) (s5 _ _ (s14 _ _ hq2)) rfl rfl ?_)⟩
        refine ⟨_, _, rfl, rfl, ?_⟩
        exact z _ _ (Xt.of s5) (s5 _ _ hA) ⟨a, f, rfl⟩
    · have ey : ys = (e.2.map fun a => dotI a.1 pt + a.2).map V.int := by
        rw [List.map_map]
        exact eq_map (by rw [hl, lr]) fun j y w => let ⟨a, h1, h2⟩ := hy j y w; ⟨a, h1, h2⟩
      rw [ey] at hD4
      refine ⟨D, _, rfl, .inl ⟨SqL.of hD4, fun l hl2 => ?_⟩⟩
      have s5 : Same H4 (upd H4 l (.tup ((e.2.map fun a => dotI a.1 pt + a.2).map V.int))) := Same.upd hl2
      have hl5 : (upd H4 l (.tup ((e.2.map fun a => dotI a.1 pt + a.2).map V.int))) l = some (.tup ((e.2.map fun a => dotI a.1 pt + a.2).map V.int)) := upd_same
      generalize upd H4 l (.tup ((e.2.map fun a => dotI a.1 pt + a.2).map V.int)) = H5 at *
      have t1 : TD H5 (.ref N) (.tuple [.int e.1]) := .tup (s5 _ _ (s4 _ _ hN3)) (.cons (.int _) .nil)
      refine r_catD (K := K) t1 (.of_ints hl5) (by simp; omega) fun v' H6 s6 hv' => ?_
      refine k v' H6 (((s13.trans s4).trans s5).trans s6) ?_
      have et : timeI T t pt = e.1 :: e.2.map fun a => dotI a.1 pt + a.2 := by
        unfold timeI tN tR
        rw [List.getD_eq_getElem?_getD, he]; rfl
      rw [et]
      exact hv'
end
end TN
set_option Elab.async false
set_option linter.all false
set_option maxRecDepth 100000
set_option maxHeartbeats 4000000
/-! W37: is_pair and has_form of the law. -/
namespace TN
open PySem PySem.Spec PyProof.Rows L2
/-- min of a tuple of ints: one of them -/
def rMinT (K : PySem.W.Frag) : List V → Hp → VK → Prop := fun vs H Q => ∃ (a : Addr) (ns : List Int), vs = [V.ref a] ∧ SqT K H a (ns.map V.int) ∧ ns ≠ [] ∧ ∀ m, m ∈ ns → Q (.int m) H
theorem reads_ints {h : Heap} : ∀ {ns : List Int} {its : List Value}, Vals (ns.map V.int) its → ∃ as, ReadsAll h its (ns.map PyData.int) as
  | [], _, .nil => ⟨_, .nil⟩
  | n :: ns, _, .cons ⟨t, e⟩ r => by
    obtain ⟨as, q⟩ := reads_ints (h := h) r
    subst e
    exact ⟨_, .cons (.int _ _) q⟩
theorem cr_minT {X : Cx} (hu : X.A.units + 64 < cLine) (hc : X.calm = true) : CallR X (.builtin "min") (rMinT X.K) := by
  intro pins s σ H vs us Q I r h
  obtain ⟨a, ns, rfl, hs, hne, q⟩ := h
  obtain ⟨its, rv, hl, _⟩ := I.tuple hs
  rw [Vals.ref1 r]
  obtain ⟨as, rd⟩ := reads_ints (h := s.heap) rv
  cases ns with
  | nil => exact absurd rfl hne
  | cons n ns =>
    refine PySem.W.min_tuple_data (I.ok.hd hc) hl rd ?_ ?_ fun i v h' tk bs hi hr hk => ?_
    · refine ⟨fun x hx y hy => ?_, fun x hx => ?_⟩
      · obtain ⟨m, _, rfl⟩ := List.mem_map.mp (show x ∈ (n :: ns).map PyData.int from hx)
        obtain ⟨m', _, rfl⟩ := List.mem_map.mp (show y ∈ (n :: ns).map PyData.int from hy)
        simp only [PySem.W.alike]
      · obtain ⟨m, _, rfl⟩ := List.mem_map.mp (show x ∈ (n :: ns).map PyData.int from hx)
        intro z; cases z
    · rw [show PyData.int n :: ns.map PyData.int = (n :: ns).map PyData.int from rfl, depth_ints]; omega
    · have hi' : its[i]? = some v := by simpa using hi
      obtain ⟨x, e1, e2⟩ : ∃ x, ((n :: ns).map V.int)[i]? = some x ∧ RelV x v := by
        clear rd hl q hs hne r hr hk hi
        generalize (n :: ns).map V.int = xs at rv
        induction rv generalizing i with
        | nil => cases hi'
        | cons h1 h2 ih => cases i with
          | zero => cases hi'; exact ⟨_, rfl, h1⟩
          | succ i => exact ih i hi'
      obtain ⟨m, hm, rfl⟩ := ints_at e1
      exact ⟨.int m, H, I.kept hk, e2, q m (List.mem_of_getElem? hm)⟩
theorem k_minT (K : PySem.W.Frag) {X : Cx} (hu : X.A.units + 64 < cLine) (hc : X.calm = true) (h : X.K = K := by rfl) : CallR X (.builtin "min") (rMinT K) := by subst h; exact cr_minT hu hc
section
variable {P : Program} {w : World} {K : PySem.W.Frag} {mg : Str → Option Value} {base : Heap}
def spLPair : Sp := fun vs H Q _ => ∃ (v : V) (sides : Nat) (far : Bool) (a : Row), vs = [v, .int (sides : Int), .str (wS far)] ∧ TD H v (dRow a) ∧ a.1.length = sides ∧ 1 ≤ sides ∧ sides ≤ 4 ∧ (far = true → ∀ x ∈ a.1, 0 ≤ x) ∧ ∀ H', Same H H' → Q (.bl true) H'
/-! _law_is_pair: slots 0 _law_thing, 1 _law_sides, 2 _law_world; calls ['G_law_are_ints', 'G_law_is_int'] -/
abbrev N_law_is_pair : List Str := ["_law_thing", "_law_sides", "_law_world"]
theorem sc_law_is_pair : FnScope N_law_is_pair ["_law_thing", "_law_sides", "_law_world"] (defScope s_law_is_pair) := ⟨rfl, rfl, rfl, by decide +kernel, rfl, by decide +kernel, by decide +kernel⟩
theorem ok_law_is_pair (W : Wd K mg) : Ok P w K mg base 3 "_law_is_pair" ["_law_thing", "_law_sides", "_law_world"] spLPair := by
  have sc := sc_law_is_pair
  have G_law_is_int : Ok P w K mg base 1 "_law_is_int" ["_law_thing"] spIsInt := ok_law_is_int W
  have G_law_are_ints : Ok P w K mg base 2 "_law_are_ints" ["_law_things", "_law_many"] spAreInts := ok_law_are_ints W
  refine Ok.mk' W.F_law_is_pair W.g_law_is_pair sc (fun vs H Q E h => ?_) (fun _ _ _ _ _ _ us hl => match us, hl with | [_, _, _], _ => rfl) (fun cdv A outer s H vs Q E hr h => ?_)
  · obtain ⟨v, sides, far, a, rfl, _⟩ := h
    rfl
  · obtain ⟨v, sides, far, a, rfl, hv, la, l1, l4, hf, k⟩ := h
    obtain ⟨q, ra, rfl, hq, hra⟩ := row_inv hv
    refine ⟨_, (pss_cons (ps_if (PW.pt (pw_or (pt_not (pt_val (pe_callB (k_isi K) (by rfl) W.b_isinstance PyProof.Rows.boot_isinstance (pa_cons (pv 0) (pa_cons (pe_bltn (v := .ty "tuple") (by rfl) W.b_tuple PyProof.Rows.boot_tuple rfl) pa_nil))))) (pw_or (pt_cmpR op_ne (pe_callB (k_len K) (by rfl) W.b_len PySem.boot_len (pa_cons (pv 0) pa_nil)) pe_int (nomark _)) (pw_or1 (pt_not (pt_val (pe_c G_law_are_ints (hr.mono (by decide)) (by rfl) (pa_cons (pe_ix (k_ixt K) (pv 0) pe_int (fun _ _ => rfl)) (pa_cons (pv 1) pa_nil)))))))))
      (pss_one ps_never)
      pss_nil)
    (pss_one (ps_ret (pe_and (pe_c G_law_is_int (hr.mono (by decide)) (by rfl) (pa_cons (pe_ix (k_ixt K) (pv 0) pe_int (fun _ _ => rfl)) pa_nil)) (pe_one (pe_or (pe_cmpR op_eq (pv 2) pe_str (nomark _)) (pe_one (pe_cmpR op_ge (pe_callB (k_minT K hr.units rfl) (by rfl) W.b_min PyProof.Rows.boot_min (pa_cons (pe_ix (k_ixt K) (pv 0) pe_int (fun _ _ => rfl)) pa_nil)) pe_int (nomark _))))))))), ?_⟩
    refine ⟨_, rfl, _, _, _, _, _, rfl, .ty _, .base (.tup hq), kit_tt, ?_⟩
    refine ⟨_, rfl, ?_⟩
    refine iteF ?_
    refine ⟨_, rfl, q, _, rfl, .inr (SqT.of hq), ?_⟩
    refine ⟨rfl, _, rfl, ?_⟩
    refine iteF ?_
    refine ⟨_, rfl, r_c (r_tgetI (j := 0) hq rfl rfl ?_)⟩
    refine ⟨_, rfl, ra, a.1, _, rfl, hra, by omega, by omega, fun H1 s1 => ?_⟩
    refine ⟨_, rfl, ?_⟩
    refine iteF ?_
    refine ⟨_, rfl, r_c (r_tgetI (j := 1) (s1 _ _ hq) rfl rfl ?_)⟩
    refine ⟨_, rfl, _, rfl, iteT ?_⟩
    refine ⟨_, rfl, rfl, _, rfl, ?_⟩
    cases far with
    | false =>
      rw [decide_eq_true (show V.str (wS false) = V.str "boxes" from rfl)]
      exact iteT (k _ s1)
    | true =>
      refine ite2 (fun h => absurd (V.str.inj (of_decide_eq_true h)) boxes_ne) (fun _ => ?_)
      refine ⟨_, rfl, r_c (r_tgetI (j := 0) (s1 _ _ hq) rfl rfl ?_)⟩
      refine ⟨ra, a.1, rfl, SqT.of (s1 _ _ hra), fun z => ?_, fun m hm => ?_⟩
      · rw [z] at la; simp at la; omega
      · have m0 := hf rfl m hm
        refine ⟨_, _, rfl, rfl, ?_⟩
        show Q (.bl (decide (0 ≤ m))) H1
        rw [decide_eq_true m0]
        exact k _ s1
def spLForm : Sp := fun vs H Q _ => ∃ (v : V) (g : Prg) (far : Bool) (T : Tt), vs = [v, .int (g.sides : Int), .int (g.tables : Int), .str (wS far)] ∧ TD H v (dT T) ∧ g.Ok ∧ TtOk g far 4 T ∧ ∀ H', Same H H' → Q (.bl true) H'
/-! _law_has_form: slots 0 _law_thing, 1 _law_sides, 2 _law_tables, 3 _law_world, 4 _law_item, 5 _law_pair; calls ['G_law_is_int', 'G_law_is_pair'] -/
abbrev N_law_has_form : List Str := ["_law_thing", "_law_sides", "_law_tables", "_law_world", "_law_item", "_law_pair"]
theorem sc_law_has_form : FnScope N_law_has_form ["_law_thing", "_law_sides", "_law_tables", "_law_world"] (defScope s_law_has_form) := ⟨rfl, rfl, rfl, by decide +kernel, rfl, by decide +kernel, by decide +kernel⟩
theorem ok_law_has_form (W : Wd K mg) : Ok P w K mg base 4 "_law_has_form" ["_law_thing", "_law_sides", "_law_tables", "_law_world"] spLForm := by
  have sc := sc_law_has_form
  have G_law_is_int : Ok P w K mg base 1 "_law_is_int" ["_law_thing"] spIsInt := ok_law_is_int W
  have G_law_is_pair : Ok P w K mg base 3 "_law_is_pair" ["_law_thing", "_law_sides", "_law_world"] spLPair := ok_law_is_pair W
  refine Ok.mk' W.F_law_has_form W.g_law_has_form sc (fun vs H Q E h => ?_) (fun _ _ _ _ _ _ us hl => match us, hl with | [_, _, _, _], _ => rfl) (fun cdv A outer s H vs Q E hr h => ?_)
  · obtain ⟨v, g, far, T, rfl, _⟩ := h
    rfl
  · obtain ⟨v, g, far, T, rfl, hv, gok, tok, k⟩ := h
    obtain ⟨at_, es, rfl, hat, hes⟩ := hv.tup_inv
    have les : es.length = T.length := by rw [hes.length, List.length_map]
    have tl := tok.len
    have t8 := gok.t8
    have g1 := gok.s1
    have g4 := gok.s4
    refine ⟨_, (pss_cons (ps_if (PW.pt (pw_or (pt_not (pt_val (pe_callB (k_isi K) (by rfl) W.b_isinstance PyProof.Rows.boot_isinstance (pa_cons (pv 0) (pa_cons (pe_bltn (v := .ty "tuple") (by rfl) W.b_tuple PyProof.Rows.boot_tuple rfl) pa_nil))))) (pw_or1 (pt_cmpR op_ne (pe_callB (k_len K) (by rfl) W.b_len PySem.boot_len (pa_cons (pv 0) pa_nil)) (pv 2) (nomark _)))))
      (pss_one ps_never)
      pss_nil)
    (pss_cons (ps_for PassesOwn.never rfl (k_pit K (pv 0)) (pg_name (i := 4) sc.nd rfl (Or.inl rfl))
      (pss_cons (ps_if (PW.pt (pw_or (pt_not (pt_val (pe_callB (k_isi K) (by rfl) W.b_isinstance PyProof.Rows.boot_isinstance (pa_cons (pv 4) (pa_cons (pe_bltn (v := .ty "tuple") (by rfl) W.b_tuple PyProof.Rows.boot_tuple rfl) pa_nil))))) (pw_or (pt_cmpR op_ne (pe_callB (k_len K) (by rfl) W.b_len PySem.boot_len (pa_cons (pv 4) pa_nil)) pe_int (nomark _)) (pw_or1 (pt_not (pt_val (pe_c G_law_is_int (hr.mono (by decide)) (by rfl) (pa_cons (pe_ix (k_ixt K) (pv 4) pe_int (fun _ _ => rfl)) pa_nil))))))))
        (pss_one ps_never)
        pss_nil)
      (pss_cons (ps_if (PW.pt (pw_or (pt_not (pt_val (pe_callB (k_isi K) (by rfl) W.b_isinstance PyProof.Rows.boot_isinstance (pa_cons (pe_ix (k_ixt K) (pv 4) pe_int (fun _ _ => rfl)) (pa_cons (pe_bltn (v := .ty "tuple") (by rfl) W.b_tuple PyProof.Rows.boot_tuple rfl) pa_nil))))) (pw_or1 (pt_cmpR op_gt (pe_callB (k_len K) (by rfl) W.b_len PySem.boot_len (pa_cons (pe_ix (k_ixt K) (pv 4) pe_int (fun _ _ => rfl)) pa_nil)) pe_int (nomark _)))))
        (pss_one ps_never)
        pss_nil)
      (pss_one (ps_if (pt_not (pt_val (pe_callB (k_all K rfl) (by rfl) W.b_all PyProof.Rows.boot_all (pa_cons (pe_lc (own := [("_law_pair", 5)]) (g := gName 5) rfl sc.nd (k_pit K (pe_ix (k_ixt K) (pv 4) pe_int (fun _ _ => rfl))) (blkOk_by (N := N_law_has_form) (sc := defScope s_law_has_form) (by decide +kernel))  (fun _ _ _ _ _ => (pg_name (i := 5) sc.nd rfl (Or.inl rfl))) (fun _ _ _ _ _ => pts_nil) (fun _ _ _ _ _ => (pe_c G_law_is_pair (hr.mono (by decide)) (by rfl) (pa_cons (pv 5) (pa_cons (pv 1) (pa_cons (pv 3) pa_nil)))))) pa_nil))))
        (pss_one ps_never)
        pss_nil)))))
    (pss_one (ps_ret pe_bl)))), ?_⟩
    refine ⟨_, rfl, _, _, _, _, _, rfl, .ty _, .base (.tup hat), kit_tt, ?_⟩
    refine ⟨_, rfl, ?_⟩
    refine iteF ?_
    refine ⟨_, rfl, at_, es, rfl, .inr (SqT.of hat), ?_⟩
    refine ⟨_, rfl, rfl, _, rfl, ?_⟩
    rw [decide_eq_true (show V.int ((es.length : Nat) : Int) = V.int ((g.tables : Nat) : Int) by rw [les, tl])]
    refine iteF ?_
    refine ⟨_, rfl, at_, rfl, ⟨_, SqT.of hat⟩, ?_⟩
    refine for_tup (K := K) (a := at_) (xs := es) (fun i σ H' => ∃ (v4 v5 : Option V), σ = [some (.ref at_), some (.int (g.sides : Int)), some (.int (g.tables : Int)), some (.str (wS far)), v4, v5] ∧ Same H H')
      ⟨_, _, rfl, fun _ _ e => e⟩ (fun i σ H' _ ⟨_, _, _, s⟩ => SqT.of (s _ _ hat)) ?_ ?_
    · rintro i x σ H2 hx ⟨v4, v5, rfl, s2⟩
      obtain ⟨d, e1, e2⟩ := hes.get' hx
      rw [List.getElem?_map] at e1
      cases e : T[i]? with
      | none => rw [e] at e1; cases e1
      | some e' =>
        rw [e] at e1
        cases e1
        obtain ⟨q, ra, rows, rfl, hq, hra, hrows⟩ := en_inv e2
        have me := List.mem_of_getElem? e
        have l8 := tok.most e' me
        have lr : rows.length = e'.2.length := by rw [hrows.length, List.length_map]
        have hq2 := s2 _ _ hq
        refine ⟨_, rfl, _, _, _, _, _, rfl, .ty _, .base (.tup hq2), kit_tt, ?_⟩
        refine ⟨_, rfl, ?_⟩
        refine iteF ?_
        refine ⟨_, rfl, q, _, rfl, .inr (SqT.of hq2), ?_⟩
        refine ⟨rfl, _, rfl, ?_⟩
        refine iteF ?_
        refine ⟨_, rfl, r_c (r_tgetI (j := 0) hq2 rfl rfl ?_)⟩
        refine ⟨_, rfl, ?_⟩
        refine ⟨_, rfl, ?_⟩
        refine iteF ?_
        refine ⟨_, rfl, r_c (r_tgetI (j := 1) hq2 rfl rfl ?_)⟩
        refine ⟨_, _, _, _, _, rfl, .ty _, .base (.tup (s2 _ _ hra)), kit_tt, ?_⟩
        refine ⟨_, rfl, ?_⟩
        refine iteF ?_
        refine ⟨_, rfl, r_c (r_tgetI (j := 1) hq2 rfl rfl ?_)⟩
        refine ⟨ra, rows, rfl, .inr (SqT.of (s2 _ _ hra)), ?_⟩
        refine ⟨_, _, rfl, rfl, _, rfl, ?_⟩
        rw [decide_eq_false (show ¬ (8 : Int) < ((rows.length : Nat) : Int) by omega)]
        refine iteF ?_
        refine ⟨_, rfl, r_c (r_tgetI (j := 1) hq2 rfl rfl ?_)⟩
        refine ⟨ra, rfl, ⟨_, SqT.of (s2 _ _ hra)⟩, fun D2 hD2 => ?_⟩
        refine lc_tupG (fun i v _ => v = .bl true) (SqT.of (s2 _ _ hra)) hD2 (by omega) (fun _ _ _ _ _ h => h) (fun j x3 H3 acc Qy hx3 s3 hA z => ⟨rfl, ?_⟩) (fun H3 ys3 s3 hD3 hl3 hy3 => ?_)
        · obtain ⟨d3, f1, f2⟩ := hrows.get' hx3
          rw [List.getElem?_map] at f1
          cases f : e'.2[j]? with
          | none => rw [f] at f1; cases f1
          | some a =>
            rw [f] at f1
            cases f1
            have s03 := s2.trans s3
            have ma := List.mem_of_getElem? f
            refine ⟨_, rfl, _, rfl, _, rfl, _, g.sides, far, a, rfl, f2.mono (Tsm.of s03), tok.rl e' me a ma, g1, g4, fun hf => tok.far hf e' me a ma, fun H4 s4 => ?_⟩
            exact z _ _ (Xt.of s4) (s4 _ _ hA) rfl
        · refine ⟨D2, List.replicate ys3.length true, rfl, SqL.of (by rw [hD3, ← all_true rfl hy3]), ?_⟩
          rw [show (List.replicate ys3.length true).all id = true by simp]
          refine ⟨_, rfl, ?_⟩
          refine iteF ?_
          exact ⟨_, _, rfl, s2.trans s3⟩
    · rintro σ H2 ⟨v4, v5, rfl, s2⟩
      exact k _ s2
end
end TN
set_option Elab.async false
set_option linter.all false
set_option maxRecDepth 100000
set_option maxHeartbeats 4000000
/-! W38: lateness of the law. -/
namespace TN
open PySem PySem.Spec PyProof.Rows L2
theorem rowsL_cons (a b : Row) (as bs : List Row) (s : List Int) : rowsL (a :: as) (b :: bs) s = if a.1 ≠ b.1 then false else if dotI a.1 s + a.2 - b.2 ≠ 0 then decide (0 < dotI a.1 s + a.2 - b.2) else rowsL as bs s := rfl
section
variable {P : Program} {w : World} {K : PySem.W.Frag} {mg : Str → Option Value} {base : Heap}
def spLLate : Sp := fun vs H Q _ => ∃ (v u : V) (g : Prg) (T : Tt) (r : Rd), vs = [v, u] ∧ g.sides ≤ 4 ∧ TD H v (dT T) ∧ TtB g T ∧ TD H u (dRd r) ∧ RdOk g.sides g.tables r ∧
  (∀ a H', Same H H' → lateB T r = true → Q (.ref a) H') ∧ (∀ H', Same H H' → lateB T r = false → Q .non H')
/-! _law_lateness: slots 0 _law_made_here, 1 _law_reading, 2 _law_one, 3 _law_other, 4 _law_k, 5 _law_first, 6 _law_second, 7 _law_much; calls ['G_law_dot'] -/
abbrev N_law_lateness : List Str := ["_law_made_here", "_law_reading", "_law_one", "_law_other", "_law_k", "_law_first", "_law_second", "_law_much"]
theorem sc_law_lateness : FnScope N_law_lateness ["_law_made_here", "_law_reading"] (defScope s_law_lateness) := ⟨rfl, rfl, rfl, by decide +kernel, rfl, by decide +kernel, by decide +kernel⟩
theorem ok_law_lateness (W : Wd K mg) : Ok P w K mg base 2 "_law_lateness" ["_law_made_here", "_law_reading"] spLLate := by
  have sc := sc_law_lateness
  have G_law_dot : Ok P w K mg base 1 "_law_dot" ["_law_row_here", "_law_step_here"] spDot := ok_law_dot W
  refine Ok.mk' W.F_law_lateness W.g_law_lateness sc (fun vs H Q E h => ?_) (fun _ _ _ _ _ _ us hl => match us, hl with | [_, _], _ => rfl) (fun cdv A outer s H vs Q E hr h => ?_)
  · obtain ⟨v, u, g, T, r, rfl, _⟩ := h
    rfl
  · obtain ⟨v, u, g, T, r, rfl, g4, hv, tb, hu, ⟨rx, ry, rl, rb⟩, kt, kf⟩ := h
    obtain ⟨at_, es, rfl, hat, hes⟩ := hv.tup_inv
    obtain ⟨q, sa, rfl, hq, hq3⟩ := rd_inv hu
    have tl := tb.len
    obtain ⟨ex, hex⟩ : ∃ e, T[r.x]? = some e := ⟨_, List.getElem?_eq_getElem (by omega)⟩
    obtain ⟨ey, hey⟩ : ∃ e, T[r.y]? = some e := ⟨_, List.getElem?_eq_getElem (by omega)⟩
    obtain ⟨vx, hvx, tvx⟩ := hes.get (i := r.x) (d := dEn ex) (by rw [List.getElem?_map, hex]; rfl)
    obtain ⟨vy, hvy, tvy⟩ := hes.get (i := r.y) (d := dEn ey) (by rw [List.getElem?_map, hey]; rfl)
    obtain ⟨qx, rax, rwx, rfl, hqx, hrx, hrwx⟩ := en_inv tvx
    obtain ⟨qy, ray, rwy, rfl, hqy, hry, hrwy⟩ := en_inv tvy
    have eL : lateB T r = if ex.1 ≠ ey.1 then decide (ey.1 < ex.1) else rowsL ex.2 ey.2 r.s := by
      unfold lateB tN tR
      rw [List.getD_eq_getElem?_getD, List.getD_eq_getElem?_getD, hex, hey]; rfl
    rw [eL] at kt kf
    have mx := List.mem_of_getElem? hex
    have my := List.mem_of_getElem? hey
    have x8 := tb.most ex mx
    have y8 := tb.most ey my
    have lx : rwx.length = ex.2.length := by rw [hrwx.length, List.length_map]
    have ly : rwy.length = ey.2.length := by rw [hrwy.length, List.length_map]
    refine ⟨_, (pss_cons (ps_par (i := 2) (j := 3) rfl sc.nd rfl rfl (by decide) rfl rfl (pa_cons (pe_ix (k_ixt K) (pv 0) (pe_ix (k_ixt K) (pv 1) pe_int (fun _ _ => rfl)) (fun _ _ => rfl)) (pa_cons (pe_ix (k_ixt K) (pv 0) (pe_ix (k_ixt K) (pv 1) pe_int (fun _ _ => rfl)) (fun _ _ => rfl)) pa_nil)) rfl)
    (pss_cons (ps_if (pt_cmpR op_ne (pe_ix (k_ixt K) (pv 2) pe_int (fun _ _ => rfl)) (pe_ix (k_ixt K) (pv 3) pe_int (fun _ _ => rfl)) (nomark _))
      (pss_one (ps_ret (pe_ifExp (pt_cmpR op_gt (pe_ix (k_ixt K) (pv 2) pe_int (fun _ _ => rfl)) (pe_ix (k_ixt K) (pv 3) pe_int (fun _ _ => rfl)) (nomark _)) (pe_tup (pa_cons pe_int (pa_cons (pe_op op_sub (pe_ix (k_ixt K) (pv 2) pe_int (fun _ _ => rfl)) (pe_ix (k_ixt K) (pv 3) pe_int (fun _ _ => rfl))) pa_nil))) pe_non)))
      pss_nil)
    (pss_cons (ps_for PassesOwn.never rfl (pi_range1 (by rfl) W.b_range (pa_cons (pe_callB (call_min2 rfl) (by rfl) W.b_min PyProof.Rows.boot_min (pa_cons (pe_callB (k_len K) (by rfl) W.b_len PySem.boot_len (pa_cons (pe_ix (k_ixt K) (pv 2) pe_int (fun _ _ => rfl)) pa_nil)) (pa_cons (pe_callB (k_len K) (by rfl) W.b_len PySem.boot_len (pa_cons (pe_ix (k_ixt K) (pv 3) pe_int (fun _ _ => rfl)) pa_nil)) pa_nil))) pa_nil)) (pg_name (i := 4) sc.nd rfl (Or.inl rfl))
      (pss_cons (ps_par (i := 5) (j := 6) rfl sc.nd rfl rfl (by decide) rfl rfl (pa_cons (pe_ix (k_ixt K) (pe_ix (k_ixt K) (pv 2) pe_int (fun _ _ => rfl)) (pv 4) (fun _ _ => rfl)) (pa_cons (pe_ix (k_ixt K) (pe_ix (k_ixt K) (pv 3) pe_int (fun _ _ => rfl)) (pv 4) (fun _ _ => rfl)) pa_nil)) rfl)
      (pss_cons (ps_set (i := 7) sc.nd rfl (Or.inl rfl) (pe_op op_sub (pe_op op_add (pe_c G_law_dot (hr.mono (by decide)) (by rfl) (pa_cons (pe_ix (k_ixt K) (pv 5) pe_int (fun _ _ => rfl)) (pa_cons (pe_ix (k_ixt K) (pv 1) pe_int (fun _ _ => rfl)) pa_nil))) (pe_ix (k_ixt K) (pv 5) pe_int (fun _ _ => rfl))) (pe_ix (k_ixt K) (pv 6) pe_int (fun _ _ => rfl))))
      (pss_cons (ps_if (pt_cmpR (k_neD K hr.units) (pe_ix (k_ixt K) (pv 5) pe_int (fun _ _ => rfl)) (pe_ix (k_ixt K) (pv 6) pe_int (fun _ _ => rfl)) (nomark _))
        (pss_one (ps_ret pe_non))
        pss_nil)
      (pss_one (ps_if (pt_cmpR op_ne (pv 7) pe_int (nomark _))
        (pss_one (ps_ret (pe_ifExp (pt_cmpR op_gt (pv 7) pe_int (nomark _)) (pe_tup (pa_cons (pe_op op_add (pv 4) pe_int) (pa_cons (pv 7) pa_nil))) pe_non)))
        pss_nil))))))
    (pss_one (ps_ret pe_non))))), ?_⟩
    refine ⟨_, rfl, _, rfl, r_c (r_tgetI (j := 0) hq rfl rfl (r_tget (j := r.x) hat hvx ?_))⟩
    refine ⟨_, rfl, _, rfl, r_c (r_tgetI (j := 1) hq rfl rfl (r_tget (j := r.y) hat hvy ?_))⟩
    refine ⟨_, _, rfl, ?_⟩
    refine ⟨_, rfl, r_c (r_tgetI (j := 0) hqx rfl rfl ?_)⟩
    refine ⟨_, rfl, r_c (r_tgetI (j := 0) hqy rfl rfl ?_)⟩
    refine ⟨rfl, _, rfl, ?_⟩
    by_cases z : ex.1 = ey.1
    · rw [if_neg (by intro h; exact h z)] at kt kf
      rw [z, decide_eq_true rfl]
      refine iteF ?_
      refine ⟨_, rfl, r_c (r_tgetI (j := 1) hqx rfl rfl ?_)⟩
      refine ⟨rax, rwx, rfl, .inr (SqT.of hrx), ?_⟩
      refine ⟨_, rfl, r_c (r_tgetI (j := 1) hqy rfl rfl ?_)⟩
      refine ⟨ray, rwy, rfl, .inr (SqT.of hry), ?_⟩
      refine ⟨_, _, rfl, ?_⟩
      obtain ⟨n, hn⟩ : ∃ n : Nat, n = min ex.2.length ey.2.length := ⟨_, rfl⟩
      rw [show (if ((rwy.length : Nat) : Int) < ((rwx.length : Nat) : Int) then ((rwy.length : Nat) : Int) else ((rwx.length : Nat) : Int)) = (n : Int) by split <;> omega]
      refine ⟨_, rfl, by omega, by omega, ?_⟩
      rw [show ((n : Nat) : Int).toNat = n by omega]
      refine for_range (lo := 0) (n := n) (fun i σ H' => ∃ (v4 v5 v6 v7 : Option V), σ = [some (.ref at_), some (.ref q), some (.ref qx), some (.ref qy), v4, v5, v6, v7] ∧ Same H H' ∧ rowsL ex.2 ey.2 r.s = rowsL (ex.2.drop i) (ey.2.drop i) r.s)
        ⟨_, _, _, _, rfl, fun _ _ h => h, rfl⟩ ?_ ?_
      · rintro i σ H2 hi ⟨v4, v5, v6, v7, rfl, s2, lt⟩
        have hix : i < ex.2.length := by omega
        have hiy : i < ey.2.length := by omega
        obtain ⟨vX, hX, e2⟩ := hrwx.get (i := i) (d := dRow ex.2[i]) (by rw [List.getElem?_map, List.getElem?_eq_getElem hix]; rfl)
        obtain ⟨vY, hY, e4⟩ := hrwy.get (i := i) (d := dRow ey.2[i]) (by rw [List.getElem?_map, List.getElem?_eq_getElem hiy]; rfl)
        rw [List.drop_eq_getElem_cons hix, List.drop_eq_getElem_cons hiy] at lt
        have mxi := List.getElem_mem hix
        have myi := List.getElem_mem hiy
        have bx := tb.bits ex mx _ mxi
        have by_ := tb.bits ey my _ myi
        have lrx := tb.rl ex mx _ mxi
        generalize ex.2[i] = ax at *
        generalize ey.2[i] = ay at *
        obtain ⟨px, pax, rfl, hpx, hpax⟩ := row_inv e2
        obtain ⟨py, pay, rfl, hpy, hpay⟩ := row_inv e4
        refine ⟨_, rfl, r_c (r_tgetI (j := 1) (s2 _ _ hqx) rfl rfl ⟨_, rfl, r_tgetI (j := i) (s2 _ _ hrx) (Int.zero_add _) hX ?_⟩)⟩
        refine ⟨_, rfl, r_c (r_tgetI (j := 1) (s2 _ _ hqy) rfl rfl ⟨_, rfl, r_tgetI (j := i) (s2 _ _ hry) (Int.zero_add _) hY ?_⟩)⟩
        refine ⟨_, _, rfl, ?_⟩
        refine ⟨_, rfl, r_c (r_tgetI (j := 0) (s2 _ _ hpx) rfl rfl ?_)⟩
        refine ⟨_, rfl, r_c (r_tgetI (j := 2) (s2 _ _ hq) rfl rfl ?_)⟩
        refine ⟨pax, sa, ax.1, r.s, rfl, s2 _ _ hpax, s2 _ _ hq3, by omega, bx.2, fun b hb => ?_, fun H4 s4 => ?_⟩
        · have := rb b hb
          refine Nat.lt_of_lt_of_le (m := 2 ^ 41) ?_ (Nat.pow_le_pow_right (by decide) (by decide))
          omega
        have s04 := s2.trans s4
        refine ⟨_, rfl, r_c (r_tgetI (j := 1) (s04 _ _ hpx) rfl rfl ?_)⟩
        refine ⟨_, _, rfl, rfl, ?_⟩
        refine ⟨_, rfl, r_c (r_tgetI (j := 1) (s04 _ _ hpy) rfl rfl ?_)⟩
        refine ⟨_, _, rfl, rfl, ?_⟩
        rw [rowsL_cons] at lt
        refine ⟨_, rfl, r_c (r_tgetI (j := 0) (s04 _ _ hpx) rfl rfl ?_)⟩
        refine ⟨_, rfl, r_c (r_tgetI (j := 0) (s04 _ _ hpy) rfl rfl ?_)⟩
        refine ⟨dI ax.1, dI ay.1, (TD.of_ints (s04 _ _ hpax)).dp, (TD.of_ints (s04 _ _ hpay)).dp, shaped_dI _, shaped_dI _, ?_⟩
        rw [eqv_dI]
        refine ⟨_, rfl, ?_⟩
        by_cases e0 : ax.1 = ay.1
        · rw [if_neg (by intro q; exact q e0)] at lt
          rw [decide_eq_true e0]
          refine iteF ?_
          refine ⟨_, rfl, rfl, _, rfl, ?_⟩
          by_cases z2 : dotI ax.1 r.s + ax.2 - ay.2 = 0
          · rw [if_neg (by intro h; exact h z2)] at lt
            rw [decide_eq_true (show (fun i j : Int => V.int (i - j)) (dotI ax.1 r.s + ax.2) ay.2 = V.int 0 from by show V.int (dotI ax.1 r.s + ax.2 - ay.2) = _; rw [z2])]
            refine iteF ?_
            exact ⟨_, _, _, _, rfl, s04, lt⟩
          · rw [if_pos z2] at lt
            rw [decide_eq_false (show ¬ (fun i j : Int => V.int (i - j)) (dotI ax.1 r.s + ax.2) ay.2 = V.int 0 from fun e => z2 (by have e : V.int (dotI ax.1 r.s + ax.2 - ay.2) = V.int 0 := e; injection e))]
            refine iteT ?_
            refine ⟨_, rfl, _, _, rfl, rfl, _, rfl, ?_⟩
            refine ite2 (fun c => ?_) (fun c => ?_)
            · refine ⟨_, rfl, _, _, rfl, rfl, _, rfl, by show 2 ≤ sizeLine; decide, fun R hR => ?_⟩
              exact kt R _ (s04.to_upd hR) (lt.trans c)
            · exact kf _ s04 (lt.trans (Bool.eq_false_iff.mpr c))
        · rw [if_pos e0] at lt
          rw [decide_eq_false e0]
          refine iteT ?_
          exact kf _ s04 lt
      · rintro σ H2 ⟨v4, v5, v6, v7, rfl, s2, lt⟩
        refine kf _ s2 (lt.trans ?_)
        rcases Nat.le_total ex.2.length ey.2.length with h | h
        · rw [show n = ex.2.length by omega, List.drop_length]; rfl
        · rw [show n = ey.2.length by omega, List.drop_length]
          cases ex.2.drop ey.2.length <;> rfl
    · rw [if_pos z] at kt kf
      rw [decide_eq_false (fun e => z (by injection e))]
      refine iteT ?_
      refine ⟨_, rfl, r_c (r_tgetI (j := 0) hqx rfl rfl ?_)⟩
      refine ⟨_, rfl, r_c (r_tgetI (j := 0) hqy rfl rfl ?_)⟩
      refine ⟨_, _, rfl, rfl, _, rfl, ?_⟩
      refine ite2 (fun c => ?_) (fun c => ?_)
      · refine ⟨_, rfl, r_c (r_tgetI (j := 0) hqx rfl rfl ?_)⟩
        refine ⟨_, rfl, r_c (r_tgetI (j := 0) hqy rfl rfl ?_)⟩
        refine ⟨_, _, rfl, rfl, by show 2 ≤ sizeLine; decide, fun R hR => ?_⟩
        exact kt R _ (Same.upd hR) c
      · exact kf _ (fun _ _ e => e) (Bool.eq_false_iff.mpr c)
end
end TN
set_option Elab.async false
set_option linter.all false
set_option maxRecDepth 100000
set_option maxHeartbeats 4000000
/-! W39: steps. -/
namespace TN
open PySem PySem.Spec PyProof.Rows L2
section
variable {P : Program} {w : World} {K : PySem.W.Frag} {mg : Str → Option Value} {base : Heap}
def spLStep : Sp := fun vs H Q _ => ∃ (p pc : Addr) (sides : Nat) (fr : Int) (c : Nat), vs = [.ref p, .int (sides : Int), .int fr] ∧ PoolAt H p pc c ∧ 1 ≤ sides ∧ sides ≤ 4 ∧ 0 ≤ fr ∧ fr ≤ 400000000000 ∧ c + 8 ≤ 10 ^ 9 ∧
  ∀ v s H', Fr p pc H H' → PoolAt H' p pc (c + 8) → TD H' v (dI s) → s.length = sides → (∀ x ∈ s, -(10 ^ 12) ≤ x ∧ x ≤ 10 ^ 12) → Q v H'
theorem ixN_nat {n L : Nat} (h : n < L) : ixN L (n : Int) = some n := by
  unfold ixN
  rw [if_pos (by omega), if_pos (by omega)]; congr 1
theorem bd_set {l u : Int} {d : List Int} (h : ∀ x ∈ d, l ≤ x ∧ x ≤ u) {o : Nat} {x : Int} (a : l ≤ x) (b : x ≤ u) : ∀ y ∈ d.set o x, l ≤ y ∧ y ≤ u := fun y hy => by
  rcases List.mem_or_eq_of_mem_set hy with hy | rfl
  · exact h y hy
  · exact ⟨a, b⟩
theorem bd_rep {n : Nat} {l u : Int} (a : l ≤ 0) (b : 0 ≤ u) : ∀ x ∈ List.replicate n (0 : Int), l ≤ x ∧ x ≤ u := fun x hx => by
  rw [(List.mem_replicate.mp hx).2]; exact ⟨a, b⟩
/-! _law_step: slots 0 _law_pool_here, 1 _law_sides, 2 _law_far, 3 _law_kind, 4 _law_found, 5 _law_side, 6 _law_at, 7 _law_part; calls ['G_law_draw'] -/
abbrev N_law_step : List Str := ["_law_pool_here", "_law_sides", "_law_far", "_law_kind", "_law_found", "_law_side", "_law_at", "_law_part"]
theorem sc_law_step : FnScope N_law_step ["_law_pool_here", "_law_sides", "_law_far"] (defScope s_law_step) := ⟨rfl, rfl, rfl, by decide +kernel, rfl, by decide +kernel, by decide +kernel⟩
theorem ok_law_step (W : Wd K mg) : Ok P w K mg base 2 "_law_step" ["_law_pool_here", "_law_sides", "_law_far"] spLStep := by
  have sc := sc_law_step
  have G_law_draw : Ok P w K mg base 1 "_law_draw" ["_law_pool_here", "_law_many"] spDraw := ok_law_draw W
  refine Ok.mk' W.F_law_step W.g_law_step sc (fun vs H Q E h => ?_) (fun _ _ _ _ _ _ us hl => match us, hl with | [_, _, _], _ => rfl) (fun cdv A outer s H vs Q E hr h => ?_)
  · obtain ⟨p, pc, sides, fr, c, rfl, _⟩ := h
    rfl
  · obtain ⟨p, pc, sides, fr, c, rfl, pool, sd1, sd4, f0, f1, c9, k⟩ := h
    refine ⟨_, (pss_cons (ps_set (i := 3) sc.nd rfl (Or.inl rfl) (pe_c G_law_draw (hr.mono (by decide)) (by rfl) (pa_cons (pv 0) (pa_cons pe_int pa_nil))))
    (pss_cons (ps_set (i := 4) sc.nd rfl (Or.inl rfl) (pe_op op_rep (pe_lst (pa_cons pe_int pa_nil)) (pv 1)))
    (pss_cons (ps_if (pt_cmpR op_eq (pv 3) pe_int (nomark _))
      (pss_one (ps_setLc (i := 4) (own := [("_law_side", 5)]) (g := gName 5) rfl sc.nd rfl rfl (sw_true rfl rfl rfl (by decide +kernel)) (pi_range1 (by rfl) W.b_range (pa_cons (pv 1) pa_nil)) (blkOk_by (N := N_law_step) (sc := defScope s_law_step) (by decide +kernel))  (fun _ _ _ _ _ => (pg_name (i := 5) sc.nd rfl (Or.inl rfl))) (fun _ _ _ _ _ => pts_nil) (fun _ _ _ _ _ => (pe_op op_sub (pe_c G_law_draw (hr.mono (by decide)) (by rfl) (pa_cons (pv 0) (pa_cons pe_int pa_nil))) pe_int))))
      pss_nil)
    (pss_cons (ps_if (pt_cmpR (k_insq K) (pv 3) (pe_tup (pa_cons pe_int (pa_cons pe_int pa_nil))) (by rfl))
      (pss_one (ps_asg (pe_op op_add pe_int (pe_c G_law_draw (hr.mono (by decide)) (by rfl) (pa_cons (pv 0) (pa_cons pe_int pa_nil)))) (pg_sub (pv 4) (pe_c G_law_draw (hr.mono (by decide)) (by rfl) (pa_cons (pv 0) (pa_cons (pv 1) pa_nil))) set_list)))
      pss_nil)
    (pss_cons (ps_if (pt_cmpR op_eq (pv 3) pe_int (nomark _))
      (pss_cons (ps_set (i := 6) sc.nd rfl (Or.inl rfl) (pe_c G_law_draw (hr.mono (by decide)) (by rfl) (pa_cons (pv 0) (pa_cons (pv 1) pa_nil))))
      (pss_one (ps_asg (pe_op op_sub (pe_ix (k_ixl K) (pv 4) (pv 6) (fun _ _ => rfl)) pe_int) (pg_sub (pv 4) (pv 6) set_list))))
      pss_nil)
    (pss_one (ps_ret (pe_callTy (k_tupof K) (by rfl) W.b_tuple PyProof.Rows.boot_tuple (pa_cons (pe_lc (own := [("_law_part", 7)]) (g := gName 7) rfl sc.nd (k_pil K (pv 4)) (blkOk_by (N := N_law_step) (sc := defScope s_law_step) (by decide +kernel))  (fun _ _ _ _ _ => (pg_name (i := 7) sc.nd rfl (Or.inl rfl))) (fun _ _ _ _ _ => pts_nil) (fun _ _ _ _ _ => (pe_op op_mulW (pv 2) (pv 7)))) pa_nil))))))))), ?_⟩
    refine ⟨_, rfl, p, pc, _, c, rfl, pool, by decide, by decide, by omega, fun kd H1 k0 k1 pool1 fr1 => ?_⟩
    refine ⟨by show 1 ≤ sizeLine; decide, fun D0 hD0 => ?_⟩
    have s1 : Same H1 (upd H1 D0 (.lst [.int 0])) := Same.upd hD0
    have e3 : (upd H1 D0 (.lst [.int 0])) D0 = some (.lst [.int 0]) := upd_same
    generalize upd H1 D0 (.lst [.int 0]) = H2 at *
    have pool2 := pool1.same s1
    refine ⟨_, rfl, D0, _, _, rfl, rfl, e3, by omega, by omega, by rw [sizeLine_eq]; simp; omega, fun F0 hF0 => ?_⟩
    have nF0 := pool2.nn hF0
    have e4 : (List.replicate ((sides : Nat) : Int).toNat [V.int 0]).flatten = (List.replicate sides (0 : Int)).map V.int := by
      rw [rep_one, List.map_replicate, show ((sides : Nat) : Int).toNat = sides by omega]
    rw [e4]
    have fr2 : Fr p pc H H2 := fr1.trans (Fr.of s1)
    have fr3 : Fr p pc H (upd H2 F0 (.lst ((List.replicate sides (0 : Int)).map V.int))) := fr2.trans (Fr.of (Same.upd hF0))
    have f3 : (upd H2 F0 (.lst ((List.replicate sides (0 : Int)).map V.int))) F0 = some (.lst ((List.replicate sides (0 : Int)).map V.int)) := upd_same
    have pool3 := pool2.same (Same.upd (o := .lst ((List.replicate sides (0 : Int)).map V.int)) hF0)
    have frF : ∀ b o, b ≠ p → b ≠ pc → H b = some o → b ≠ F0 := fun b o n1 n2 e => ne_of_none (fr2 _ _ n1 n2 e) hF0
    generalize upd H2 F0 (.lst ((List.replicate sides (0 : Int)).map V.int)) = H3 at *
    refine ⟨_, rfl, rfl, _, rfl, ?_⟩
    by_cases k3 : kd = 3
    · subst k3
      refine iteT ?_
      refine ⟨_, rfl, _, rfl, by omega, by omega, fun F hF => ?_⟩
      have nF := pool3.nn hF
      rw [show ((sides : Nat) : Int).toNat = sides by omega]
      refine lc_rangeR (lo := 0) (n := sides) (fun i ys H' => ∃ ns : List Int, ys = ns.map V.int ∧ ns.length = i ∧ (∀ n ∈ ns, -2 ≤ n ∧ n ≤ 2) ∧ PoolAt H' p pc (c + 1 + i) ∧ ∀ b o, b ≠ p → b ≠ pc → H b = some o → H' b = some o) (by omega)
        ⟨[], rfl, rfl, fun n hn => (by cases hn), pool3.same (Same.upd hF), fun b o n1 n2 e => Same.upd hF _ _ (fr3 _ _ n1 n2 e)⟩ (fun i H4 acc Qy hi hA ⟨ns, e1, nl, nb, pool4, fr4⟩ z => ⟨rfl, ?_⟩) (fun H4 ys hD4 hl ⟨d, e1, dl, db, poolz, frz⟩ => ?_)
      · refine ⟨_, rfl, p, pc, _, c + 1 + i, rfl, pool4, by decide, by decide, by omega, fun x H5 x0 x1 pool5 fr5 => ?_⟩
        refine ⟨_, _, rfl, rfl, ?_⟩
        refine z _ _ (fr5 _ _ nF.1.symm nF.2.symm hA) ⟨ns ++ [x - 2], by rw [e1]; simp, by simp [nl], fun y hy => ?_, (pool5.up (by omega)).off nF.1 nF.2, fun b o n1 n2 e => ?_⟩
        · rcases List.mem_append.mp hy with hy | hy
          · exact nb y hy
          · rw [List.mem_singleton.mp hy]; omega
        · have g := fr5 _ _ n1 n2 (fr4 _ _ n1 n2 e)
          rw [upd_ne (ne_of_none (fr3 _ _ n1 n2 e) hF)]; exact g
      · rw [e1] at hD4
        have hFz := hD4
        refine ⟨_, rfl, by show 2 ≤ sizeLine; decide, fun U hU => ⟨_, _, rfl, .inr (SqT.of upd_same), rfl, rfl, ?_⟩⟩
        have frz : Fr p pc H (upd H4 U (.tup [.int 1, .int 2])) := fun b o n1 n2 e => Same.upd hU _ _ (frz _ _ n1 n2 e)
        have hFz := Same.upd (o := .tup [.int 1, .int 2]) hU _ _ hFz
        have poolz := poolz.same (Same.upd (o := .tup [.int 1, .int 2]) hU)
        generalize upd H4 U (.tup [.int 1, .int 2]) = H5 at *
        rw [show inV (.int 3) [.int 1, .int 2] = false by decide +kernel]
        refine ⟨_, rfl, ?_⟩
        refine iteF ?_
        refine ⟨_, rfl, rfl, _, rfl, ?_⟩
        refine iteF ?_
        refine ⟨_, rfl, F, rfl, ⟨_, SqL.of hFz⟩, fun D hD => ?_⟩
        have nD := poolz.nn hD
        refine lc_listG (fun j v _ => ∃ x, d[j]? = some x ∧ v = .int (fr * x)) (SqL.of hFz) hD (by rw [List.length_map, dl]; omega) (fun _ _ _ _ _ h => h) (fun j y H6 acc Qy hy s6 hA z => ⟨rfl, ?_⟩) (fun H6 ys s6 hD6 hl hys => ?_)
        · obtain ⟨x', hx', rfl⟩ := ints_at hy
          obtain ⟨q1, q2⟩ := db x' (List.mem_of_getElem? hx')
          exact ⟨_, rfl, _, rfl, _, _, rfl, rfl, wide_mul (a := 100) (b := 100) (by omega) (by omega) (by decide) (by decide) (by decide), z _ _ Xt.refl hA ⟨_, hx', rfl⟩⟩
        · have ey : ys = (d.map (fr * ·)).map V.int := by
            rw [List.map_map]
            exact eq_map (by rw [hl, List.length_map]) fun j y e => by
              obtain ⟨r, h1, h2⟩ := hys j y e
              exact ⟨r, h1, h2⟩
          rw [ey] at hD6
          refine ⟨D, _, rfl, .inl ⟨SqL.of hD6, fun T hT => ?_⟩⟩
          have pool6 := (poolz.same s6).up (d := c + 8) (by omega)
          refine k _ (d.map (fr * ·)) _ (fun b o' n1 n2 e => ?_) (pool6.off (pool6.nn hT).1 (pool6.nn hT).2) (TD.of_ints upd_same) (by rw [List.length_map]; exact dl) (fun x hx => ?_)
          · have g := s6 _ _ (frz _ _ n1 n2 e)
            rw [upd_ne (ne_of_none g hT)]; exact g
          · obtain ⟨y, hy, rfl⟩ := List.mem_map.mp hx
            obtain ⟨q1, q2⟩ := db y hy
            have h1 : fr * y ≤ fr * 2 := Int.mul_le_mul_of_nonneg_left q2 f0
            have h2 : fr * (-2) ≤ fr * y := Int.mul_le_mul_of_nonneg_left q1 f0
            show -(10 ^ 12) ≤ fr * y ∧ fr * y ≤ 10 ^ 12
            omega
    · rw [decide_eq_false (fun e => k3 (by injection e))]
      refine iteF ?_
      refine ⟨_, rfl, by show 2 ≤ sizeLine; decide, fun U hU => ⟨_, _, rfl, .inr (SqT.of upd_same), rfl, rfl, ?_⟩⟩
      have frz : Fr p pc H (upd H3 U (.tup [.int 1, .int 2])) := fun b o n1 n2 e => Same.upd hU _ _ (fr3 _ _ n1 n2 e)
      have hFz := Same.upd (o := .tup [.int 1, .int 2]) hU _ _ f3
      have poolz := pool3.same (Same.upd (o := .tup [.int 1, .int 2]) hU)
      generalize upd H3 U (.tup [.int 1, .int 2]) = H4 at *
      by_cases k12 : kd = 0
      · subst k12
        rw [show inV (.int 0) [.int 1, .int 2] = false by decide +kernel]
        refine ⟨_, rfl, ?_⟩
        refine iteF ?_
        refine ⟨_, rfl, rfl, _, rfl, ?_⟩
        refine iteF ?_
        have db : ∀ x ∈ List.replicate sides (0 : Int), -2 ≤ x ∧ x ≤ 2 := bd_rep (by decide) (by decide)
        have dl : (List.replicate sides (0 : Int)).length = sides := List.length_replicate
        generalize List.replicate sides (0 : Int) = d at *
        generalize F0 = F at *
        refine ⟨_, rfl, F, rfl, ⟨_, SqL.of hFz⟩, fun D hD => ?_⟩
        have nD := poolz.nn hD
        refine lc_listG (fun j v _ => ∃ x, d[j]? = some x ∧ v = .int (fr * x)) (SqL.of hFz) hD (by rw [List.length_map, dl]; omega) (fun _ _ _ _ _ h => h) (fun j y H6 acc Qy hy s6 hA z => ⟨rfl, ?_⟩) (fun H6 ys s6 hD6 hl hys => ?_)
        · obtain ⟨x', hx', rfl⟩ := ints_at hy
          obtain ⟨q1, q2⟩ := db x' (List.mem_of_getElem? hx')
          exact ⟨_, rfl, _, rfl, _, _, rfl, rfl, wide_mul (a := 100) (b := 100) (by omega) (by omega) (by decide) (by decide) (by decide), z _ _ Xt.refl hA ⟨_, hx', rfl⟩⟩
        · have ey : ys = (d.map (fr * ·)).map V.int := by
            rw [List.map_map]
            exact eq_map (by rw [hl, List.length_map]) fun j y e => by
              obtain ⟨r, h1, h2⟩ := hys j y e
              exact ⟨r, h1, h2⟩
          rw [ey] at hD6
          refine ⟨D, _, rfl, .inl ⟨SqL.of hD6, fun T hT => ?_⟩⟩
          have pool6 := (poolz.same s6).up (d := c + 8) (by omega)
          refine k _ (d.map (fr * ·)) _ (fun b o' n1 n2 e => ?_) (pool6.off (pool6.nn hT).1 (pool6.nn hT).2) (TD.of_ints upd_same) (by rw [List.length_map]; exact dl) (fun x hx => ?_)
          · have g := s6 _ _ (frz _ _ n1 n2 e)
            rw [upd_ne (ne_of_none g hT)]; exact g
          · obtain ⟨y, hy, rfl⟩ := List.mem_map.mp hx
            obtain ⟨q1, q2⟩ := db y hy
            have h1 : fr * y ≤ fr * 2 := Int.mul_le_mul_of_nonneg_left q2 f0
            have h2 : fr * (-2) ≤ fr * y := Int.mul_le_mul_of_nonneg_left q1 f0
            show -(10 ^ 12) ≤ fr * y ∧ fr * y ≤ 10 ^ 12
            omega
      · have ein : inV (.int kd) [.int 1, .int 2] = true := by
          rcases (show kd = 1 ∨ kd = 2 by omega) with rfl | rfl <;> decide +kernel
        rw [ein]
        refine ⟨_, rfl, ?_⟩
        refine iteT ?_
        refine ⟨_, rfl, p, pc, _, _, rfl, poolz, by decide, by decide, by omega, fun x H5 x0 x1 pool5 fr5 => ?_⟩
        refine ⟨_, _, rfl, rfl, ?_⟩
        refine ⟨_, rfl, _, rfl, _, rfl, p, pc, _, _, rfl, pool5, by omega, by omega, by omega, fun y H6 y0 y1 pool6 fr6 => ?_⟩
        have hF6 := fr6 _ _ nF0.1.symm nF0.2.symm (fr5 _ _ nF0.1.symm nF0.2.symm hFz)
        have frz := (frz.trans fr5).trans fr6
        obtain ⟨j, rfl⟩ : ∃ j : Nat, y = j := ⟨y.toNat, by omega⟩
        refine ⟨F0, _, _, j, rfl, rfl, hF6, by rw [List.length_map, List.length_replicate]; exact ixN_nat (by omega), ?_⟩
        rw [← List.map_set]
        have db : ∀ z ∈ (List.replicate sides (0 : Int)).set j (1 + x), -1 ≤ z ∧ z ≤ 2 := bd_set (bd_rep (by decide) (by decide)) (by omega) (by omega)
        have dl : ((List.replicate sides (0 : Int)).set j (1 + x)).length = sides := by rw [List.length_set, List.length_replicate]
        generalize (List.replicate sides (0 : Int)).set j (1 + x) = d1 at *
        have hFz : (upd H6 F0 (.lst (d1.map V.int))) F0 = some (.lst (d1.map V.int)) := upd_same
        have frz : Fr p pc H (upd H6 F0 (.lst (d1.map V.int))) := fun b o n1 n2 e => by rw [upd_ne (frF _ _ n1 n2 e)]; exact frz _ _ n1 n2 e
        have poolz := pool6.off (o := .lst (d1.map V.int)) nF0.1 nF0.2
        generalize upd H6 F0 (.lst (d1.map V.int)) = H7 at *
        refine ⟨_, rfl, rfl, _, rfl, ?_⟩
        by_cases k2 : kd = 2
        · subst k2
          refine iteT ?_
          refine ⟨_, rfl, _, rfl, p, pc, _, _, rfl, poolz, by omega, by omega, by omega, fun y2 H8 y0 y1 pool8 fr8 => ?_⟩
          obtain ⟨j2, rfl⟩ : ∃ j : Nat, y2 = j := ⟨y2.toNat, by omega⟩
          have hF8 := fr8 _ _ nF0.1.symm nF0.2.symm hFz
          have frz := frz.trans fr8
          have hj2 : j2 < d1.length := by omega
          refine ⟨_, rfl, _, rfl, r_lget (j := j2) (v := .int d1[j2]) hF8 (by rw [List.getElem?_map, List.getElem?_eq_getElem hj2]; rfl) ?_⟩
          refine ⟨_, _, rfl, rfl, ?_⟩
          refine ⟨_, rfl, _, rfl, F0, _, _, j2, rfl, rfl, hF8, by rw [List.length_map]; exact ixN_nat hj2, ?_⟩
          rw [← List.map_set]
          obtain ⟨b1, b2⟩ := db _ (List.getElem_mem hj2)
          have db : ∀ z ∈ d1.set j2 (d1[j2] - 1), -2 ≤ z ∧ z ≤ 2 := bd_set (fun z hz => by have := db z hz; omega) (by omega) (by omega)
          have dl : (d1.set j2 (d1[j2] - 1)).length = sides := by rw [List.length_set]; exact dl
          generalize d1.set j2 (d1[j2] - 1) = d at *
          have hFz : (upd H8 F0 (.lst (d.map V.int))) F0 = some (.lst (d.map V.int)) := upd_same
          have frz : Fr p pc H (upd H8 F0 (.lst (d.map V.int))) := fun b o n1 n2 e => by rw [upd_ne (frF _ _ n1 n2 e)]; exact frz _ _ n1 n2 e
          have poolz := pool8.off (o := .lst (d.map V.int)) nF0.1 nF0.2
          generalize upd H8 F0 (.lst (d.map V.int)) = H9 at *
          generalize F0 = F at *
          refine ⟨_, rfl, F, rfl, ⟨_, SqL.of hFz⟩, fun D hD => ?_⟩
          have nD := poolz.nn hD
          refine lc_listG (fun j v _ => ∃ x, d[j]? = some x ∧ v = .int (fr * x)) (SqL.of hFz) hD (by rw [List.length_map, dl]; omega) (fun _ _ _ _ _ h => h) (fun j y H6 acc Qy hy s6 hA z => ⟨rfl, ?_⟩) (fun H6 ys s6 hD6 hl hys => ?_)
          · obtain ⟨x', hx', rfl⟩ := ints_at hy
            obtain ⟨q1, q2⟩ := db x' (List.mem_of_getElem? hx')
            exact ⟨_, rfl, _, rfl, _, _, rfl, rfl, wide_mul (a := 100) (b := 100) (by omega) (by omega) (by decide) (by decide) (by decide), z _ _ Xt.refl hA ⟨_, hx', rfl⟩⟩
          · have ey : ys = (d.map (fr * ·)).map V.int := by
              rw [List.map_map]
              exact eq_map (by rw [hl, List.length_map]) fun j y e => by
                obtain ⟨r, h1, h2⟩ := hys j y e
                exact ⟨r, h1, h2⟩
            rw [ey] at hD6
            refine ⟨D, _, rfl, .inl ⟨SqL.of hD6, fun T hT => ?_⟩⟩
            have pool6 := (poolz.same s6).up (d := c + 8) (by omega)
            refine k _ (d.map (fr * ·)) _ (fun b o' n1 n2 e => ?_) (pool6.off (pool6.nn hT).1 (pool6.nn hT).2) (TD.of_ints upd_same) (by rw [List.length_map]; exact dl) (fun x hx => ?_)
            · have g := s6 _ _ (frz _ _ n1 n2 e)
              rw [upd_ne (ne_of_none g hT)]; exact g
            · obtain ⟨y, hy, rfl⟩ := List.mem_map.mp hx
              obtain ⟨q1, q2⟩ := db y hy
              have h1 : fr * y ≤ fr * 2 := Int.mul_le_mul_of_nonneg_left q2 f0
              have h2 : fr * (-2) ≤ fr * y := Int.mul_le_mul_of_nonneg_left q1 f0
              show -(10 ^ 12) ≤ fr * y ∧ fr * y ≤ 10 ^ 12
              omega
        · rw [decide_eq_false (fun e => k2 (by injection e))]
          refine iteF ?_
          have db : ∀ x ∈ d1, -2 ≤ x ∧ x ≤ 2 := fun z hz => by have := db z hz; omega
          generalize d1 = d at *
          generalize F0 = F at *
          refine ⟨_, rfl, F, rfl, ⟨_, SqL.of hFz⟩, fun D hD => ?_⟩
          have nD := poolz.nn hD
          refine lc_listG (fun j v _ => ∃ x, d[j]? = some x ∧ v = .int (fr * x)) (SqL.of hFz) hD (by rw [List.length_map, dl]; omega) (fun _ _ _ _ _ h => h) (fun j y H6 acc Qy hy s6 hA z => ⟨rfl, ?_⟩) (fun H6 ys s6 hD6 hl hys => ?_)
          · obtain ⟨x', hx', rfl⟩ := ints_at hy
            obtain ⟨q1, q2⟩ := db x' (List.mem_of_getElem? hx')
            exact ⟨_, rfl, _, rfl, _, _, rfl, rfl, wide_mul (a := 100) (b := 100) (by omega) (by omega) (by decide) (by decide) (by decide), z _ _ Xt.refl hA ⟨_, hx', rfl⟩⟩
          · have ey : ys = (d.map (fr * ·)).map V.int := by
              rw [List.map_map]
              exact eq_map (by rw [hl, List.length_map]) fun j y e => by
                obtain ⟨r, h1, h2⟩ := hys j y e
                exact ⟨r, h1, h2⟩
            rw [ey] at hD6
            refine ⟨D, _, rfl, .inl ⟨SqL.of hD6, fun T hT => ?_⟩⟩
            have pool6 := (poolz.same s6).up (d := c + 8) (by omega)
            refine k _ (d.map (fr * ·)) _ (fun b o' n1 n2 e => ?_) (pool6.off (pool6.nn hT).1 (pool6.nn hT).2) (TD.of_ints upd_same) (by rw [List.length_map]; exact dl) (fun x hx => ?_)
            · have g := s6 _ _ (frz _ _ n1 n2 e)
              rw [upd_ne (ne_of_none g hT)]; exact g
            · obtain ⟨y, hy, rfl⟩ := List.mem_map.mp hx
              obtain ⟨q1, q2⟩ := db y hy
              have h1 : fr * y ≤ fr * 2 := Int.mul_le_mul_of_nonneg_left q2 f0
              have h2 : fr * (-2) ≤ fr * y := Int.mul_le_mul_of_nonneg_left q1 f0
              show -(10 ^ 12) ≤ fr * y ∧ fr * y ≤ 10 ^ 12
              omega
end
end TN
set_option Elab.async false
set_option linter.all false
set_option maxRecDepth 100000
set_option maxHeartbeats 4000000
/-! W40: readings as data, their order. -/
namespace TN
open PySem PySem.Spec PyProof.Rows L2
theorem un65 {k : Nat} {A : Around} (hr : Room k A) : A.units + 65 < cLine := by have := hr.un; omega
theorem k_ninD (K : PySem.W.Frag) {X : Cx} (hu : X.A.units + 65 < cLine) (h : X.K = K := by rfl) : OpR X (compareOp .NotIn) (rNotInD K) := by subst h; exact op_notInD hu
theorem nI_inj {a b : Nat} (h : PyData.int (a : Int) = .int (b : Int)) : a = b := by injection h with h; omega
theorem dI_inj {a b : List Int} (h : dI a = dI b) : a = b := by
  have h1 : PyData.eqv (dI a) (dI b) = true := by rw [← h, eqv_dI]; exact decide_eq_true rfl
  rw [eqv_dI] at h1
  exact of_decide_eq_true h1
theorem dRd_inj {r r' : Rd} (h : dRd r = dRd r') : r = r' := by
  obtain ⟨x, y, s⟩ := r
  obtain ⟨x', y', s'⟩ := r'
  injection h with h
  injection h with h1 h
  injection h with h2 h
  injection h with h3 h
  have e1 : x = x' := nI_inj h1
  have e2 : y = y' := nI_inj h2
  have e3 : s = s' := dI_inj h3
  subst e1 e2 e3
  rfl
instance : DecidableEq Rd := fun a b => decidable_of_iff (a.x = b.x ∧ a.y = b.y ∧ a.s = b.s) ⟨fun ⟨h1, h2, h3⟩ => by
  obtain ⟨x, y, s⟩ := a
  obtain ⟨x', y', s'⟩ := b
  have h1 : x = x' := h1
  have h2 : y = y' := h2
  have h3 : s = s' := h3
  subst h1 h2 h3
  rfl, fun h => by subst h; exact ⟨rfl, rfl, rfl⟩⟩
open Classical in
noncomputable def decRd (d : PyData) : Rd := if h : ∃ r, dRd r = d then h.choose else ⟨0, 0, []⟩
theorem decRd_eq (r : Rd) : decRd (dRd r) = r := by
  have h : ∃ r', dRd r' = dRd r := ⟨r, rfl⟩
  unfold decRd
  rw [dif_pos h]
  exact dRd_inj h.choose_spec
theorem eqv_dRd (r r' : Rd) : PyData.eqv (dRd r) (dRd r') = decide (r = r') := by
  have e : PyData.eqv (dRd r) (dRd r') = (((r.x : Int) == (r'.x : Int)) && (((r.y : Int) == (r'.y : Int)) && (PyData.eqv (dI r.s) (dI r'.s) && true))) := by simp only [PyData.eqv, PyData.eqvAll]
  rw [e, eqv_dI, Bool.eq_iff_iff, Bool.and_eq_true, Bool.and_eq_true, Bool.and_eq_true, beq_iff_eq, beq_iff_eq, decide_eq_true_iff, decide_eq_true_iff]
  obtain ⟨x, y, s⟩ := r
  obtain ⟨x', y', s'⟩ := r'
  constructor
  · rintro ⟨h1, h2, h3, _⟩
    have h1 : (x : Int) = x' := h1
    have h2 : (y : Int) = y' := h2
    have h3 : s = s' := h3
    have e1 : x = x' := by omega
    have e2 : y = y' := by omega
    subst e1 e2 h3
    rfl
  · rintro h
    cases h
    exact ⟨rfl, rfl, rfl, rfl⟩
theorem depth_dRd (r : Rd) : PyData.depth (dRd r) = 2 := by
  show PyData.depth (.tuple [.int _, .int _, dI r.s]) = 2
  simp only [PyData.depth, PyData.depthAll, depth_ints]
  rfl
theorem lay_dRd (r : Rd) : PyData.canLay0 (dRd r) = true := by
  show PyData.canLay0 (.tuple [.int _, .int _, .tuple (r.s.map .int)]) = true
  simp only [PyData.canLay0, PyData.canLayAll0, lay_ints]
  rfl
theorem shaped_dRd (r : Rd) : SeqAt.shaped (dRd r) = true := by
  show ((dRd r).canLay0 && decide ((dRd r).depth ≤ 64)) = true
  rw [Bool.and_eq_true]
  exact ⟨lay_dRd r, decide_eq_true (by rw [depth_dRd]; decide)⟩
theorem shaped_dRds (rs : List Rd) : SeqAt.shaped (.list (rs.map dRd)) = true := by
  have h1 : PyData.depthAll (rs.map dRd) ≤ 2 := by
    induction rs with
    | nil => simp [PyData.depthAll]
    | cons r rs ih =>
      have := depth_dRd r
      simp only [List.map_cons, PyData.depthAll]
      omega
  have h2 : PyData.canLayAll0 (rs.map dRd) = true := by
    induction rs with
    | nil => simp [PyData.canLayAll0]
    | cons r rs ih =>
      have h1' : PyData.depthAll (rs.map dRd) ≤ 2 := by
        simp only [List.map_cons, PyData.depthAll] at h1
        omega
      have := lay_dRd r
      simp only [List.map_cons, PyData.canLayAll0, this, ih h1', Bool.and_self]
  show (PyData.canLay0 (.list (rs.map dRd)) && decide (PyData.depth (.list (rs.map dRd)) ≤ 64)) = true
  rw [Bool.and_eq_true]
  exact ⟨by simp only [PyData.canLay0]; exact h2, decide_eq_true (by simp only [PyData.depth]; omega)⟩
theorem alike_dRd (r r' : Rd) : PySem.W.alike (dRd r) (dRd r') = true := by
  show PySem.W.alikeAll [.int _, .int _, dI r.s] [.int _, .int _, dI r'.s] = true
  have := alike_intsI r.s r'.s
  simp only [PySem.W.alikeAll, PySem.W.alike, this]
  rfl
theorem any_dRd {rs : List Rd} {r : Rd} : ((rs.map dRd).any fun z => PyData.eqv z (dRd r)) = decide (r ∈ rs) := by
  rw [List.any_map, Bool.eq_iff_iff, List.any_eq_true, decide_eq_true_iff]
  constructor
  · rintro ⟨x, hx, e⟩
    have e : PyData.eqv (dRd x) (dRd r) = true := e
    rw [eqv_dRd] at e
    rw [← of_decide_eq_true e]; exact hx
  · intro h
    exact ⟨r, h, by show PyData.eqv (dRd r) (dRd r) = true; rw [eqv_dRd]; exact decide_eq_true rfl⟩
theorem TDs.zipped {H : Hp} : ∀ {xs : List V} {ds : List PyData}, TDs H xs ds → ∃ bs : List (V × PyData), bs.map (·.1) = xs ∧ bs.map (·.2) = ds ∧ ∀ b ∈ bs, TD H b.1 b.2
  | [], _, .nil => ⟨[], rfl, rfl, fun b hb => by cases hb⟩
  | x :: xs, _, .cons h hs => by
    obtain ⟨bs, e1, e2, e3⟩ := TDs.zipped hs
    refine ⟨(x, _) :: bs, by rw [List.map_cons, e1], by rw [List.map_cons, e2], fun b hb => ?_⟩
    rcases List.mem_cons.mp hb with rfl | hb
    · exact h
    · exact e3 b hb
theorem TDs.unzipped {H : Hp} : ∀ cs : List (V × PyData), (∀ c ∈ cs, TD H c.1 c.2) → TDs H (cs.map (·.1)) (cs.map (·.2))
  | [], _ => .nil
  | c :: cs, h => .cons (h c List.mem_cons_self) (TDs.unzipped cs fun c hc => h c (List.mem_cons_of_mem _ hc))
theorem maps_of {ds : List PyData} {l : List Rd} (h : ∀ d ∈ ds, d ∈ l.map dRd) : ∃ ps : List Rd, ds = ps.map dRd := by
  induction ds with
  | nil => exact ⟨[], rfl⟩
  | cons d ds ih =>
    obtain ⟨ps, e⟩ := ih fun d hd => h d (List.mem_cons_of_mem _ hd)
    obtain ⟨r, _, e2⟩ := List.mem_map.mp (h d List.mem_cons_self)
    exact ⟨r :: ps, by rw [List.map_cons, e2, ← e]⟩
/-- what sorted makes of readings, each of which stands once -/
theorem sort_rds {H : Hp} {bs : List (V × PyData)} {rs : List Rd} {sides : Nat} (e : bs.map (·.2) = rs.map dRd) (td : ∀ b ∈ bs, TD H b.1 b.2) (nd : rs.Nodup) (hl : ∀ r ∈ rs, r.s.length = sides) :
    ∃ ps : List Rd, TDs H ((bs.mergeSort (PySem.W.dataLe false (·.2))).map (·.1)) (ps.map dRd) ∧ ps.length = rs.length ∧ (∀ r ∈ ps, r ∈ rs) ∧ ∀ (i : Nat) (r r' : Rd), ps[i]? = some r → ps[i + 1]? = some r' → leRd r' r = false := by
  have pm : (bs.mergeSort (PySem.W.dataLe false (·.2))).Perm bs := List.mergeSort_perm _ _
  have p2 := pm.map (·.2)
  rw [e] at p2
  have pw : (bs.mergeSort (PySem.W.dataLe false (·.2))).Pairwise (fun a b => PySem.W.dataLe false (fun b : V × PyData => b.2) a b = true) := PySem.W.sort_pairwise (PySem.W.sortLe_total _ _ _) bs
  generalize bs.mergeSort (PySem.W.dataLe false (·.2)) = cs at *
  obtain ⟨ps, ep⟩ := maps_of (ds := cs.map (·.2)) (l := rs) fun d hd => p2.mem_iff.mp hd
  have tc := TDs.unzipped cs fun c hc => td c (pm.mem_iff.mp hc)
  rw [ep] at tc p2
  have p3 : ps.Perm rs := by
    have p4 := p2.map decRd
    have id_ : ∀ l : List Rd, (l.map dRd).map decRd = l := fun l => by
      rw [List.map_map]
      conv => rhs; rw [← List.map_id l]
      exact List.map_congr_left fun r _ => decRd_eq r
    rw [id_, id_] at p4
    exact p4
  have ndp : ps.Nodup := p3.nodup_iff.mpr nd
  refine ⟨ps, tc, p3.length_eq, fun r hr => p3.mem_iff.mp hr, fun i r r' h1 h2 => ?_⟩
  have hr := p3.mem_iff.mp (List.mem_of_getElem? h1)
  have hr' := p3.mem_iff.mp (List.mem_of_getElem? h2)
  have ne : r' ≠ r := fun q => by
    subst q
    obtain ⟨i1, g1⟩ := List.getElem?_eq_some_iff.mp h1
    obtain ⟨i2, g2⟩ := List.getElem?_eq_some_iff.mp h2
    have := (List.getElem_inj ndp).mp (g1.trans g2.symm)
    omega
  rw [leRd_lt ((hl r' hr').trans (hl r hr).symm) (fun q => ne (dRd_inj q))]
  obtain ⟨i2, _⟩ := List.getElem?_eq_some_iff.mp h2
  have lc : cs.length = ps.length := by rw [← List.length_map (f := (·.2)), ep, List.length_map]
  have g1 : (cs.map (·.2))[i]? = some (dRd r) := by rw [ep, List.getElem?_map, h1]; rfl
  have g2 : (cs.map (·.2))[i + 1]? = some (dRd r') := by rw [ep, List.getElem?_map, h2]; rfl
  have q := List.pairwise_iff_getElem.mp pw i (i + 1) (by omega) (by omega) (by omega)
  rw [PySem.W.dataLe_eq] at q
  rw [List.getElem?_map, List.getElem?_eq_getElem (by omega)] at g1 g2
  have g1 : cs[i].2 = dRd r := Option.some.inj g1
  have g2 : cs[i + 1].2 = dRd r' := Option.some.inj g2
  have q : (!PySem.W.dataLt cs[i + 1].2 cs[i].2) = true := q
  rw [g1, g2, Bool.not_eq_true'] at q
  exact q
end TN
set_option Elab.async false
set_option linter.all false
set_option maxRecDepth 100000
set_option maxHeartbeats 4000000
/-! W41: readings. -/
namespace TN
open PySem PySem.Spec PyProof.Rows L2
section
variable {P : Program} {w : World} {K : PySem.W.Frag} {mg : Str → Option Value} {base : Heap}
def RdL (g : Prg) (T : Tt) (r : Rd) : Prop := RdOk g.sides g.tables r ∧ lateB T r = true
def spLReads : Sp := fun vs H Q _ => ∃ (p pc : Addr) (v : V) (g : Prg) (T : Tt) (fr : Int) (c : Nat), vs = [.ref p, v, .int (g.sides : Int), .int fr, .int 7] ∧ PoolAt H p pc c ∧ TD H v (dT T) ∧ TtB g T ∧ 1 ≤ g.sides ∧ g.sides ≤ 4 ∧ 1 ≤ g.tables ∧ g.tables ≤ 8 ∧ 0 ≤ fr ∧ fr ≤ 400000000000 ∧ c + 100 ≤ 10 ^ 9 ∧
  ∀ v' (rs : List Rd) H', Fr p pc H H' → PoolAt H' p pc (c + 100) → TD H' v' (.tuple (rs.map dRd)) → rs.length ≤ 24 → (∀ r ∈ rs, RdL g T r) → (∀ (i : Nat) (r r' : Rd), rs[i]? = some r → rs[i + 1]? = some r' → leRd r' r = false) → Q v' H'
/-! _law_readings: slots 0 _law_pool_here, 1 _law_made_here, 2 _law_sides, 3 _law_far, 4 _law_most, 5 _law_found, 6 _law_again, 7 _law_reader, 8 _law_read, 9 _law_step_here, 10 _law_reading, 11 _law_part; calls ['G_law_draw', 'G_law_lateness', 'G_law_step'] -/
abbrev N_law_readings : List Str := ["_law_pool_here", "_law_made_here", "_law_sides", "_law_far", "_law_most", "_law_found", "_law_again", "_law_reader", "_law_read", "_law_step_here", "_law_reading", "_law_part"]
theorem sc_law_readings : FnScope N_law_readings ["_law_pool_here", "_law_made_here", "_law_sides", "_law_far", "_law_most"] (defScope s_law_readings) := ⟨rfl, rfl, rfl, by decide +kernel, rfl, by decide +kernel, by decide +kernel⟩
theorem ok_law_readings (W : Wd K mg) : Ok P w K mg base 3 "_law_readings" ["_law_pool_here", "_law_made_here", "_law_sides", "_law_far", "_law_most"] spLReads := by
  have sc := sc_law_readings
  have G_law_draw : Ok P w K mg base 1 "_law_draw" ["_law_pool_here", "_law_many"] spDraw := ok_law_draw W
  have G_law_step : Ok P w K mg base 2 "_law_step" ["_law_pool_here", "_law_sides", "_law_far"] spLStep := ok_law_step W
  have G_law_lateness : Ok P w K mg base 2 "_law_lateness" ["_law_made_here", "_law_reading"] spLLate := ok_law_lateness W
  refine Ok.mk' W.F_law_readings W.g_law_readings sc (fun vs H Q E h => ?_) (fun _ _ _ _ _ _ us hl => match us, hl with | [_, _, _, _, _], _ => rfl) (fun cdv A outer s H vs Q E hr h => ?_)
  · obtain ⟨p, pc, v, g, T, fr, c, rfl, _⟩ := h
    rfl
  · obtain ⟨p, pc, v, g, T, fr, c, rfl, pool, hv, tb, sd1, sd4, t1, t8, f0, f1, c9, k⟩ := h
    obtain ⟨at_, es, rfl, hat, hes⟩ := id hv.tup_inv
    have tl := tb.len
    have les : es.length = g.tables := by rw [hes.length, List.length_map, tl]
    refine ⟨_, (pss_cons (ps_set (i := 5) sc.nd rfl (Or.inl rfl) (pe_lst pa_nil))
    (pss_cons (ps_for PassesOwn.never rfl (pi_range1 (by rfl) W.b_range (pa_cons (pe_c G_law_draw (hr.mono (by decide)) (by rfl) (pa_cons (pv 0) (pa_cons (pe_op op_add (pv 4) pe_int) pa_nil))) pa_nil)) (pg_name (i := 6) sc.nd rfl (Or.inl rfl))
      (pss_cons (ps_set (i := 7) sc.nd rfl (Or.inl rfl) (pe_c G_law_draw (hr.mono (by decide)) (by rfl) (pa_cons (pv 0) (pa_cons (pe_callB (k_len K) (by rfl) W.b_len PySem.boot_len (pa_cons (pv 1) pa_nil)) pa_nil))))
      (pss_cons (ps_set (i := 8) sc.nd rfl (Or.inl rfl) (pe_ix (k_ixl K) (pe_lst (pa_cons (pv 7) (pa_cons (pe_c G_law_draw (hr.mono (by decide)) (by rfl) (pa_cons (pv 0) (pa_cons (pe_callB (k_len K) (by rfl) W.b_len PySem.boot_len (pa_cons (pv 1) pa_nil)) pa_nil))) pa_nil))) (pe_c G_law_draw (hr.mono (by decide)) (by rfl) (pa_cons (pv 0) (pa_cons pe_int pa_nil))) (fun _ _ => rfl)))
      (pss_cons (ps_set (i := 9) sc.nd rfl (Or.inl rfl) (pe_c G_law_step (hr.mono (by decide)) (by rfl) (pa_cons (pv 0) (pa_cons (pv 2) (pa_cons (pv 3) pa_nil)))))
      (pss_one (ps_for PassesOwn.never rfl (k_pit K (pe_tup (pa_cons (pe_tup (pa_cons (pv 7) (pa_cons (pv 8) (pa_cons (pv 9) pa_nil)))) (pa_cons (pe_tup (pa_cons (pv 8) (pa_cons (pv 7) (pa_cons (pe_callTy (k_tupof K) (by rfl) W.b_tuple PyProof.Rows.boot_tuple (pa_cons (pe_lc (own := [("_law_part", 11)]) (g := gName 11) rfl sc.nd (k_pit K (pv 9)) (blkOk_by (N := N_law_readings) (sc := defScope s_law_readings) (by decide +kernel))  (fun _ _ _ _ _ => (pg_name (i := 11) sc.nd rfl (Or.inl rfl))) (fun _ _ _ _ _ => pts_nil) (fun _ _ _ _ _ => (pe_un un_neg (pv 11)))) pa_nil)) pa_nil)))) pa_nil)))) (pg_name (i := 10) sc.nd rfl (Or.inl rfl))
        (pss_one (ps_if (PW.pt (pw_and (pt_cmpR (k_ninD K (un65 hr)) (pv 10) (pv 5) (by rfl)) (pw_and1 (pt_cmpR op_notN (pe_c G_law_lateness (hr.mono (by decide)) (by rfl) (pa_cons (pv 1) (pa_cons (pv 10) pa_nil))) pe_non (nomark _)))))
          (pss_one (ps_expr (k_bm K PySem.F.plainAttrs_list PySem.F.slot_list_append PySem.F.type_list_append mt_append (pv 5) (pa_cons (pv 10) pa_nil))))
          pss_nil))))))))
    (pss_one (ps_ret (pe_callTy (k_tupof K) (by rfl) W.b_tuple PyProof.Rows.boot_tuple (pa_cons (pe_callB (k_sortT K hr.units) (by rfl) W.b_sorted PyProof.Rows.boot_sorted (pa_cons (pv 5) pa_nil)) pa_nil)))))), ?_⟩
    refine ⟨by show _ ≤ sizeLine; decide, fun F hF => ?_⟩
    have nF := pool.nn hF
    have s1 : Same H (upd H F (.lst [])) := Same.upd hF
    have e1 : (upd H F (.lst [])) F = some (.lst []) := upd_same
    generalize upd H F (.lst []) = H1 at *
    refine ⟨_, rfl, _, rfl, _, _, rfl, rfl, p, pc, _, c, rfl, pool.same s1, by decide, by decide, by omega, fun n H2 n0 n1 pool2 fr2 => ?_⟩
    have n1 : n < 8 := n1
    refine ⟨_, rfl, by omega, by omega, ?_⟩
    obtain ⟨n, rfl⟩ : ∃ m : Nat, n = m := ⟨n.toNat, by omega⟩
    rw [show ((n : Nat) : Int).toNat = n by omega]
    have fr02 : Fr p pc H H2 := (Fr.of s1).trans fr2
    refine for_range (lo := 0) (n := n) (fun i σ H' => ∃ (v6 v7 v8 v9 v10 v11 : Option V) (xs : List V) (rs : List Rd), σ = [some (.ref p), some (.ref at_), some (.int (g.sides : Int)), some (.int fr), some (.int 7), some (.ref F), v6, v7, v8, v9, v10, v11] ∧
      PoolAt H' p pc (c + 1 + 11 * i) ∧ Fr p pc H H' ∧ H' F = some (.lst xs) ∧ TDs H' xs (rs.map dRd) ∧ rs.length ≤ 2 * i ∧ rs.Nodup ∧ ∀ r ∈ rs, RdL g T r)
      ⟨_, _, _, _, _, _, [], [], rfl, pool2, fr02, fr2 _ _ nF.1.symm nF.2.symm e1, .nil, by simp, List.nodup_nil, fun x hx => by cases hx⟩ ?_ ?_
    · rintro i σ H3 hi ⟨v6, v7, v8, v9, v10, v11, xs, rs, rfl, pool3, fr3, hF3, txs, rl, nd, rok⟩
      -- reader
      refine ⟨_, rfl, _, rfl, at_, es, rfl, .inr (SqT.of (pool.tsm fr3 _ _ hat)), ?_⟩
      rw [les]
      refine ⟨p, pc, _, _, rfl, pool3, by omega, by omega, by omega, fun x H4 x0 x1 pool4 fr4 => ?_⟩
      obtain ⟨x, rfl⟩ : ∃ m : Nat, x = m := ⟨x.toNat, by omega⟩
      have fr04 := fr3.trans fr4
      -- read
      refine ⟨_, rfl, _, rfl, _, rfl, at_, es, rfl, .inr (SqT.of (pool.tsm fr04 _ _ hat)), ?_⟩
      rw [les]
      refine ⟨p, pc, _, _, rfl, pool4, by omega, by omega, by omega, fun y H5 y0 y1 pool5 fr5 => ?_⟩
      obtain ⟨y, rfl⟩ : ∃ m : Nat, y = m := ⟨y.toNat, by omega⟩
      refine ⟨by show 2 ≤ sizeLine; decide, fun M hM => ?_⟩
      have nM := pool5.nn hM
      have s5 : Same H5 (upd H5 M (.lst [.int (x : Int), .int (y : Int)])) := Same.upd hM
      have hM6 : (upd H5 M (.lst [.int (x : Int), .int (y : Int)])) M = some (.lst [.int (x : Int), .int (y : Int)]) := upd_same
      generalize upd H5 M (.lst [.int (x : Int), .int (y : Int)]) = H6 at *
      refine ⟨_, rfl, p, pc, _, _, rfl, pool5.same s5, by decide, by decide, by omega, fun z H7 z0 z1 pool7 fr7 => ?_⟩
      obtain ⟨y2, hy2, y2t⟩ : ∃ m : Nat, ([.int (x : Int), .int (y : Int)] : List V)[z.toNat]? = some (.int (m : Int)) ∧ m < g.tables := by
        rcases (show z = 0 ∨ z = 1 by omega) with rfl | rfl
        · exact ⟨x, rfl, by omega⟩
        · exact ⟨y, rfl, by omega⟩
      refine r_lgetI (j := z.toNat) (fr7 _ _ nM.1.symm nM.2.symm hM6) (by omega) hy2 ?_
      have fr07 : Fr p pc H H7 := ((fr04.trans fr5).trans (Fr.of s5)).trans fr7
      have fr37 : Fr p pc H3 H7 := ((fr4.trans fr5).trans (Fr.of s5)).trans fr7
      -- step
      refine ⟨_, rfl, _, rfl, _, rfl, p, pc, g.sides, fr, _, rfl, pool7, sd1, sd4, f0, f1, by omega, fun vs s H8 fr8 pool8 hs sl sb => ?_⟩
      obtain ⟨sa, rfl, hsa⟩ := hs.ints
      have fr08 := fr07.trans fr8
      have fr38 := fr37.trans fr8
      have hF8 := fr38 _ _ nF.1.symm nF.2.symm hF3
      have txs8 := txs.mono (pool3.tsm fr38)
      have hv8 := hv.mono (pool.tsm fr08)
      -- the two readings
      refine ⟨_, rfl, _, rfl, _, rfl, by show 3 ≤ sizeLine; decide, fun T1 hT1 => ?_⟩
      have s8 : Same H8 (upd H8 T1 (.tup [.int (x : Int), .int (y2 : Int), .ref sa])) := Same.upd hT1
      have hT9 : (upd H8 T1 (.tup [.int (x : Int), .int (y2 : Int), .ref sa])) T1 = some (.tup [.int (x : Int), .int (y2 : Int), .ref sa]) := upd_same
      generalize upd H8 T1 (.tup [.int (x : Int), .int (y2 : Int), .ref sa]) = H9 at *
      refine ⟨_, rfl, _, rfl, _, rfl, _, rfl, ⟨_, SqT.of (s8 _ _ hsa)⟩, fun D hD => ?_⟩
      refine lc_tupG (fun j v _ => ∃ x, s[j]? = some x ∧ v = .int (-x)) (SqT.of (s8 _ _ hsa)) hD (by rw [List.length_map]; omega) (fun _ _ _ _ _ h => h) (fun j y H10 acc Qy hy s10 hA z => ⟨rfl, ?_⟩) (fun H10 ys s10 hD10 hl hys => ?_)
      · obtain ⟨x', hx', rfl⟩ := ints_at hy
        exact ⟨_, rfl, _, rfl, z _ _ Xt.refl hA ⟨_, hx', rfl⟩⟩
      have ey : ys = (s.map (- ·)).map V.int := by
        rw [List.map_map]
        exact eq_map (by rw [hl, List.length_map]) fun j y e => by
          obtain ⟨r, h1, h2⟩ := hys j y e
          exact ⟨r, h1, h2⟩
      rw [ey] at hD10
      refine ⟨D, _, rfl, .inl ⟨SqL.of hD10, fun N hN => ?_⟩⟩
      have s11 : Same H9 (upd H10 N (.tup ((s.map (- ·)).map V.int))) := s10.trans (Same.upd hN)
      have hN11 : (upd H10 N (.tup ((s.map (- ·)).map V.int))) N = some (.tup ((s.map (- ·)).map V.int)) := upd_same
      generalize upd H10 N (.tup ((s.map (- ·)).map V.int)) = H11 at *
      refine ⟨by show 3 ≤ sizeLine; decide, fun T2 hT2 => ?_⟩
      have s12 : Same H11 (upd H11 T2 (.tup [.int (y2 : Int), .int (x : Int), .ref N])) := Same.upd hT2
      have hT12 : (upd H11 T2 (.tup [.int (y2 : Int), .int (x : Int), .ref N])) T2 = some (.tup [.int (y2 : Int), .int (x : Int), .ref N]) := upd_same
      generalize upd H11 T2 (.tup [.int (y2 : Int), .int (x : Int), .ref N]) = H12 at *
      refine ⟨by show 2 ≤ sizeLine; decide, fun B hB => ?_⟩
      have s13 : Same H12 (upd H12 B (.tup [.ref T1, .ref T2])) := Same.upd hB
      have hB13 : (upd H12 B (.tup [.ref T1, .ref T2])) B = some (.tup [.ref T1, .ref T2]) := upd_same
      generalize upd H12 B (.tup [.ref T1, .ref T2]) = H13 at *
      have s8d : Same H8 H13 := ((s8.trans s11).trans s12).trans s13
      have td1 : TD H13 (.ref T1) (dRd ⟨x, y2, s⟩) := .tup (((s11.trans s12).trans s13) _ _ hT9) (.cons (.int _) (.cons (.int _) (.cons (TD.of_ints (s8d _ _ hsa)) .nil)))
      have td2 : TD H13 (.ref T2) (dRd ⟨y2, x, s.map (- ·)⟩) := .tup (s13 _ _ hT12) (.cons (.int _) (.cons (.int _) (.cons (TD.of_ints ((s12.trans s13) _ _ hN11)) .nil)))
      have rok1 : RdOk g.sides g.tables ⟨x, y2, s⟩ := ⟨by show x < g.tables; omega, y2t, sl, sb⟩
      have rok2 : RdOk g.sides g.tables ⟨y2, x, s.map (- ·)⟩ := ⟨y2t, by show x < g.tables; omega, by show (s.map _).length = _; rw [List.length_map]; exact sl, fun c hc => by
        obtain ⟨b, hb, rfl⟩ := List.mem_map.mp (show c ∈ s.map (- ·) from hc)
        have := sb b hb
        show -(10 ^ 12) ≤ -b ∧ -b ≤ 10 ^ 12
        omega⟩
      obtain ⟨rr, hrr⟩ : ∃ rr : List Rd, rr = [⟨x, y2, s⟩, ⟨y2, x, s.map (- ·)⟩] := ⟨_, rfl⟩
      have trr : TDs H13 [.ref T1, .ref T2] (rr.map dRd) := by rw [hrr]; exact .cons td1 (.cons td2 .nil)
      have okrr : ∀ r ∈ rr, RdOk g.sides g.tables r := fun r hr => by
        rw [hrr] at hr
        rcases List.mem_cons.mp hr with rfl | hr
        · exact rok1
        · rw [List.mem_singleton.mp hr]; exact rok2
      have lrr : rr.length = 2 := by rw [hrr]; rfl
      clear hrr td1 td2 rok1 rok2 hT12 hT9
      have hF13 := s8d _ _ hF8
      have txs13 := txs8.mono (Tsm.of s8d)
      have hv13 := hv8.mono (Tsm.of s8d)
      have pool13 := pool8.same s8d
      have fr013 : Fr p pc H H13 := fr08.trans (Fr.of s8d)
      have nFB : B ≠ F := fun e => by rw [e, hF13] at hB13; cases hB13
      refine ⟨_, rfl, ⟨_, SqT.of hB13⟩, ?_⟩
      refine for_tup (K := K) (a := B) (xs := [.ref T1, .ref T2]) (fun j σ H' => ∃ (v10 : Option V) (xs : List V) (rs : List Rd), σ = [some (.ref p), some (.ref at_), some (.int (g.sides : Int)), some (.int fr), some (.int 7), some (.ref F), some (.int (0 + (i : Int))), some (.int (x : Int)), some (.int (y2 : Int)), some (.ref sa), v10, v11] ∧
        Xt F H13 H' ∧ H' F = some (.lst xs) ∧ TDs H' xs (rs.map dRd) ∧ rs.length ≤ 2 * i + j ∧ rs.Nodup ∧ ∀ r ∈ rs, RdL g T r)
        ⟨_, xs, rs, rfl, Xt.refl, hF13, txs13, by omega, nd, rok⟩ (fun j σ H' _ ⟨_, _, _, _, xt, _⟩ => SqT.of (xt _ _ nFB hB13)) ?_ ?_
      · rintro j x2 σ H14 hx2 ⟨v10, xs, rs, rfl, xt, hF14, txs, rl, nd, rok⟩
        have hj : j < 2 := (List.getElem?_eq_some_iff.mp hx2).1
        obtain ⟨d, hd, tx2⟩ := trr.get' hx2
        rw [List.getElem?_map] at hd
        obtain ⟨r, hr1, rfl⟩ : ∃ r, rr[j]? = some r ∧ d = dRd r := by
          cases e : rr[j]? with
          | none => rw [e] at hd; cases hd
          | some b => rw [e] at hd; exact ⟨b, rfl, (Option.some.inj hd).symm⟩
        have rOk := okrr r (List.mem_of_getElem? hr1)
        have tsm14 : Tsm H13 H14 := xt.tsm hF13
        have tx14 := tx2.mono tsm14
        have xl : xs.length = rs.length := by rw [txs.length, List.length_map]
        refine ⟨_, rfl, _, rfl, dRd r, rs.map dRd, tx14.dp, .lst (SqL.of hF14) txs.dp, shaped_dRd r, shaped_dRds rs, ?_⟩
        rw [any_dRd]
        refine ⟨_, rfl, ?_⟩
        by_cases hin : r ∈ rs
        · rw [decide_eq_true hin]
          refine iteF ?_
          refine iteF ?_
          exact ⟨_, xs, rs, rfl, xt, hF14, txs, by omega, nd, rok⟩
        · rw [decide_eq_false hin]
          refine iteT ?_
          refine ⟨_, rfl, _, rfl, _, x2, g, T, r, rfl, sd4, hv13.mono tsm14, tb, tx14, rOk, fun a H15 s15 lt => ?_, fun H15 s15 lt => ?_⟩
          · refine ⟨rfl, _, rfl, ?_⟩
            rw [decide_eq_false (show ¬ V.ref a = V.non from fun z => nomatch z)]
            refine iteT ?_
            have hF15 := s15 _ _ hF14
            refine ⟨_, rfl, .inl ⟨rfl, _, SqL.of hF15⟩, ?_⟩
            refine ⟨_, rfl, F, _, _, rfl, rfl, hF15, by rw [sizeLine_eq]; omega, ?_⟩
            have ts : Tsm H15 (upd H15 F (.lst (xs ++ [x2]))) := fun b o e => by rw [upd_ne (ne_of e hF15 (by intro z; cases z))]; exact e
            refine ⟨_, xs ++ [x2], rs ++ [r], rfl, ((xt.trans (Xt.of s15)).at), upd_same, ?_, by rw [List.length_append]; show rs.length + 1 ≤ _; omega, ?_, fun b hb => ?_⟩
            · rw [List.map_append]
              exact ((txs.mono (Tsm.of s15)).append (.cons (tx14.mono (Tsm.of s15)) .nil)).mono ts
            · rw [List.nodup_append]
              exact ⟨nd, List.nodup_cons.mpr ⟨by simp, List.nodup_nil⟩, fun a ha b hb e => hin (by rw [← List.mem_singleton.mp hb, ← e]; exact ha)⟩
            · rcases List.mem_append.mp hb with hb | hb
              · exact rok b hb
              · rw [List.mem_singleton.mp hb]; exact ⟨rOk, lt⟩
          · refine ⟨rfl, _, rfl, ?_⟩
            rw [decide_eq_true (show V.non = V.non from rfl)]
            refine iteF ?_
            exact ⟨_, xs, rs, rfl, xt.trans (Xt.of s15), s15 _ _ hF14, txs.mono (Tsm.of s15), by omega, nd, rok⟩
      · rintro σ H14 ⟨v10, xs, rs, rfl, xt, hF14, txs, rl, nd, rok⟩
        refine ⟨_, _, _, _, _, _, xs, rs, rfl, ?_, fun b o n1 n2 e => xt _ _ (ne_of_none e hF) (fr013 _ _ n1 n2 e), hF14, txs, by show rs.length ≤ 2 * (i + 1); have rl : rs.length ≤ 2 * i + 2 := rl; omega, nd, rok⟩
        obtain ⟨a, b, d, PI⟩ := pool13
        exact PoolAt.up ⟨a, b, d, PI.ne, xt _ _ nF.1 PI.hp, xt _ _ nF.2 PI.hc, PI.s0, PI.s1, PI.c0, PI.c1⟩ (by omega)
    · rintro σ H3 ⟨v6, v7, v8, v9, v10, v11, xs, rs, rfl, pool3, fr3, hF3, txs, rl, nd, rok⟩
      obtain ⟨bs, b1, b2, btd⟩ := txs.zipped
      have lbs : bs.length = rs.length := by rw [← List.length_map (f := (·.2)), b2, List.length_map]
      refine ⟨_, rfl, F, bs, rfl, by rw [b1]; exact SqL.of hF3, btd, ?_, .inl ?_, by omega, ?_, fun q hq => ?_⟩
      · intro d hd d' hd'
        rw [b2] at hd hd'
        obtain ⟨r, _, rfl⟩ := List.mem_map.mp hd
        obtain ⟨r', _, rfl⟩ := List.mem_map.mp hd'
        exact alike_dRd _ _
      · intro d hd
        rw [b2] at hd
        obtain ⟨r, _, rfl⟩ := List.mem_map.mp hd
        exact ⟨_, _, rfl⟩
      · intro b hb
        have : b.2 ∈ bs.map (·.2) := List.mem_map.mpr ⟨b, hb, rfl⟩
        rw [b2] at this
        obtain ⟨r, _, e⟩ := List.mem_map.mp this
        rw [← e, depth_dRd]; decide
      · obtain ⟨ps, tps, pl, pm, asc⟩ := sort_rds b2 btd nd (fun r hr => (rok r hr).1.2.2.1)
        generalize (bs.mergeSort (PySem.W.dataLe false (·.2))).map (·.1) = zs at *
        refine ⟨q, _, rfl, .inl ⟨SqL.of upd_same, fun N hN => ?_⟩⟩
        have s4 : Same H3 (upd (upd H3 q (.lst zs)) N (.tup zs)) := (Same.upd hq).trans (Same.upd hN)
        refine k _ ps _ (fr3.trans (Fr.of s4)) ((pool3.same s4).up (by omega)) (.tup upd_same (tps.mono (Tsm.of s4))) (by omega) (fun r hr => rok r (pm r hr)) asc
end
end TN
set_option Elab.async false
set_option linter.all false
set_option maxRecDepth 100000
set_option maxHeartbeats 4000000
/-! W42: a drawn timetable. -/
namespace TN
open PySem PySem.Spec PyProof.Rows L2
section
variable {P : Program} {w : World} {K : PySem.W.Frag} {mg : Str → Option Value} {base : Heap}
def SmR (sides : Nat) (far : Bool) (d : List Int) : Prop := d.length = sides ∧ Sm far d
def EnOk (sides : Nat) (far : Bool) (e : Int × List Row) : Prop := e.2.length ≤ 4 ∧ ∀ a ∈ e.2, SmP sides far a
def spLMade : Sp := fun vs H Q _ => ∃ (p pc : Addr) (sides tables : Nat) (far : Bool) (fr : Int) (c : Nat), vs = [.ref p, .int (sides : Int), .int (tables : Int), .str (wS far), .int fr] ∧ PoolAt H p pc c ∧ 1 ≤ sides ∧ sides ≤ 3 ∧ tables ≤ 3 ∧ 0 ≤ fr ∧ fr ≤ 2 ^ 70 ∧ c + 300 ≤ 10 ^ 9 ∧
  ∀ v (T : Tt) H', Fr p pc H H' → PoolAt H' p pc (c + 300) → TD H' v (dT T) → T.length = tables → (∀ e ∈ T, EnOk sides far e) → Q v H'
/-! _law_made: slots 0 _law_pool_here, 1 _law_sides, 2 _law_tables, 3 _law_world, 4 _law_far, 5 _law_order_here, 6 _law_scales, 7 _law_place, 8 _law_shared, 9 _law_found, 10 _law_table, 11 _law_alike, 12 _law_rows, 13 _law_number_here; calls ['G_law_draw', 'G_law_order', 'G_law_pairs', 'G_law_row'] -/
abbrev N_law_made : List Str := ["_law_pool_here", "_law_sides", "_law_tables", "_law_world", "_law_far", "_law_order_here", "_law_scales", "_law_place", "_law_shared", "_law_found", "_law_table", "_law_alike", "_law_rows", "_law_number_here"]
theorem sc_law_made : FnScope N_law_made ["_law_pool_here", "_law_sides", "_law_tables", "_law_world", "_law_far"] (defScope s_law_made) := ⟨rfl, rfl, rfl, by decide +kernel, rfl, by decide +kernel, by decide +kernel⟩
theorem ok_law_made (W : Wd K mg) : Ok P w K mg base 3 "_law_made" ["_law_pool_here", "_law_sides", "_law_tables", "_law_world", "_law_far"] spLMade := by
  have sc := sc_law_made
  have G_law_draw : Ok P w K mg base 1 "_law_draw" ["_law_pool_here", "_law_many"] spDraw := ok_law_draw W
  have G_law_order : Ok P w K mg base 2 "_law_order" ["_law_pool_here", "_law_sides"] spOrder := ok_law_order W
  have G_law_row : Ok P w K mg base 2 "_law_row" ["_law_pool_here", "_law_order_here", "_law_place", "_law_world"] spLRow := ok_law_row W
  have G_law_pairs : Ok P w K mg base 2 "_law_pairs" ["_law_pool_here", "_law_rows", "_law_scales", "_law_far"] spPairs := ok_law_pairs W
  refine Ok.mk' W.F_law_made W.g_law_made sc (fun vs H Q E h => ?_) (fun _ _ _ _ _ _ us hl => match us, hl with | [_, _, _, _, _], _ => rfl) (fun cdv A outer s H vs Q E hr h => ?_)
  · obtain ⟨p, pc, sides, tables, far, fr, c, rfl, _⟩ := h
    rfl
  · obtain ⟨p, pc, sides, tables, far, fr, c, rfl, pool, sd1, sd3, t3, f0, f1, c9, k⟩ := h
    refine ⟨_, (pss_cons (ps_set (i := 5) sc.nd rfl (Or.inr rfl) (pe_c G_law_order (hr.mono (by decide)) (by rfl) (pa_cons (pv 0) (pa_cons (pv 1) pa_nil))))
    (pss_cons (ps_setLc (i := 6) (own := [("_law_place", 7)]) (g := gName 7) rfl sc.nd rfl rfl (sw_true rfl rfl rfl (by decide +kernel)) (pi_range1 (by rfl) W.b_range (pa_cons (pe_op op_add (pv 1) pe_int) pa_nil)) (blkOk_by (N := N_law_made) (sc := defScope s_law_made) (by decide +kernel))  (fun _ _ _ _ _ => (pg_name (i := 7) sc.nd rfl (Or.inl rfl))) (fun _ _ _ _ _ => pts_nil) (fun _ _ _ _ _ => (pe_ix (k_ixl K) (pe_lst (pa_cons pe_int (pa_cons pe_int (pa_cons pe_int (pa_cons (pe_op op_add pe_int (pe_op op_pow (pe_c G_law_draw (hr.mono (by decide)) (by rfl) (pa_cons (pv 0) (pa_cons (pe_op op_pow pe_int pe_int) pa_nil))) pe_int)) pa_nil))))) (pe_c G_law_draw (hr.mono (by decide)) (by rfl) (pa_cons (pv 0) (pa_cons pe_int pa_nil))) (fun _ _ => rfl))))
    (pss_cons (ps_setLc (i := 8) (own := [("_law_place", 7)]) (g := gName 7) rfl sc.nd rfl rfl (sw_true rfl rfl rfl (by decide +kernel)) (pi_range1 (by rfl) W.b_range (pa_cons (pv 1) pa_nil)) (blkOk_by (N := N_law_made) (sc := defScope s_law_made) (by decide +kernel))  (fun _ _ _ _ _ => (pg_name (i := 7) sc.nd rfl (Or.inl rfl))) (fun _ _ _ _ _ => pts_nil) (fun _ _ _ _ _ => (pe_c G_law_row (hr.mono (by decide)) (by rfl) (pa_cons (pv 0) (pa_cons (pv 5) (pa_cons (pv 7) (pa_cons (pv 3) pa_nil)))))))
    (pss_cons (ps_set (i := 9) sc.nd rfl (Or.inl rfl) (pe_lst pa_nil))
    (pss_cons (ps_for PassesOwn.never rfl (pi_range1 (by rfl) W.b_range (pa_cons (pv 2) pa_nil)) (pg_name (i := 10) sc.nd rfl (Or.inl rfl))
      (pss_cons (ps_set (i := 11) sc.nd rfl (Or.inl rfl) (pe_ix (k_ixl K) (pe_lst (pa_cons (pv 1) (pa_cons (pe_op op_add pe_int (pe_c G_law_draw (hr.mono (by decide)) (by rfl) (pa_cons (pv 0) (pa_cons (pv 1) pa_nil)))) (pa_cons (pe_c G_law_draw (hr.mono (by decide)) (by rfl) (pa_cons (pv 0) (pa_cons (pe_op op_add (pv 1) pe_int) pa_nil))) pa_nil)))) (pe_c G_law_draw (hr.mono (by decide)) (by rfl) (pa_cons (pv 0) (pa_cons pe_int pa_nil))) (fun _ _ => rfl)))
      (pss_cons (ps_set (i := 12) sc.nd rfl (Or.inl rfl) (pe_op op_cat (pe_slice (k_sll K) (pv 8) po_none (po_some (pv 11))) (pe_lc (own := [("_law_place", 7)]) (g := gName 7) rfl sc.nd (pi_range2 (by rfl) W.b_range (pa_cons (pv 11) (pa_cons (pv 1) pa_nil))) (blkOk_by (N := N_law_made) (sc := defScope s_law_made) (by decide +kernel))  (fun _ _ _ _ _ => (pg_name (i := 7) sc.nd rfl (Or.inl rfl))) (fun _ _ _ _ _ => pts_nil) (fun _ _ _ _ _ => (pe_c G_law_row (hr.mono (by decide)) (by rfl) (pa_cons (pv 0) (pa_cons (pv 5) (pa_cons (pv 7) (pa_cons (pv 3) pa_nil)))))))))
      (pss_cons (ps_set (i := 12) sc.nd rfl (Or.inl rfl) (pe_slice (k_sll K) (pv 12) po_none (po_some (pe_op op_sub (pv 1) (pe_ix (k_ixl K) (pe_lst (pa_cons pe_int (pa_cons pe_int (pa_cons pe_int (pa_cons pe_int pa_nil))))) (pe_c G_law_draw (hr.mono (by decide)) (by rfl) (pa_cons (pv 0) (pa_cons pe_int pa_nil))) (fun _ _ => rfl))))))
      (pss_cons (ps_if (pt_cmpR op_eq (pe_c G_law_draw (hr.mono (by decide)) (by rfl) (pa_cons (pv 0) (pa_cons pe_int pa_nil))) pe_int (nomark _))
        (pss_one (ps_expr (k_bm K PySem.F.plainAttrs_list PySem.F.slot_list_append PySem.F.type_list_append mt_append (pv 12) (pa_cons (pe_c G_law_row (hr.mono (by decide)) (by rfl) (pa_cons (pv 0) (pa_cons (pv 5) (pa_cons (pe_op op_sub (pv 1) pe_int) (pa_cons (pv 3) pa_nil))))) pa_nil))))
        pss_nil)
      (pss_cons (ps_set (i := 13) sc.nd rfl (Or.inl rfl) (pe_ix (k_ixl K) (pe_lst (pa_cons pe_int (pa_cons pe_int (pa_cons pe_int (pa_cons pe_int (pa_cons (pe_un un_neg pe_int) pa_nil)))))) (pe_c G_law_draw (hr.mono (by decide)) (by rfl) (pa_cons (pv 0) (pa_cons pe_int pa_nil))) (fun _ _ => rfl)))
      (pss_one (ps_expr (k_bm K PySem.F.plainAttrs_list PySem.F.slot_list_append PySem.F.type_list_append mt_append (pv 9) (pa_cons (pe_tup (pa_cons (pv 13) (pa_cons (pe_c G_law_pairs (hr.mono (by decide)) (by rfl) (pa_cons (pv 0) (pa_cons (pv 12) (pa_cons (pv 6) (pa_cons (pv 4) pa_nil))))) pa_nil))) pa_nil))))))))))
    (pss_one (ps_ret (pe_callTy (k_tupof K) (by rfl) W.b_tuple PyProof.Rows.boot_tuple (pa_cons (pv 9) pa_nil))))))))), ?_⟩
    -- order
    refine ⟨_, rfl, _, rfl, p, pc, sides, c, rfl, pool, by omega, by omega, fun O os H1 fr1 pool1 hO0 hO osl osb => ?_⟩
    have nO := pool.nn hO0
    -- scales
    refine ⟨_, rfl, _, _, rfl, rfl, _, rfl, by omega, by omega, fun S hS0 => ?_⟩
    have nS := pool1.nn hS0
    rw [show ((sides : Int) + 1).toNat = sides + 1 by omega]
    refine lc_rangeR (lo := 0) (n := sides + 1) (fun i ys H' => ∃ ns : List Int, ys = ns.map V.int ∧ ns.length = i ∧ (∀ n ∈ ns, 0 ≤ n ∧ n ≤ 2 ^ 70) ∧ PoolAt H' p pc (c + sides + 2 * i) ∧ ∀ b o, b ≠ p → b ≠ pc → H1 b = some o → H' b = some o) (by omega)
      ⟨[], rfl, rfl, fun n hn => (by cases hn), pool1.same (Same.upd hS0), fun b o n1 n2 e => Same.upd hS0 _ _ e⟩ (fun i H4 acc Qy hi hA ⟨ns, e1, nl, nb, pool4, fr4⟩ z => ⟨rfl, ?_⟩) (fun H2 ys hSb hl ⟨scs, e1, scl, scb, pool2, fr2⟩ => ?_)
    · refine ⟨_, rfl, ?_⟩
      refine ⟨_, _, rfl, rfl, ⟨by decide, by decide, by decide⟩, ?_⟩
      refine ⟨p, pc, (10 : Int) ^ (6 : Int).toNat, _, rfl, pool4, by decide, by decide, by omega, fun m H5 m0 m1 pool5 fr5 => ?_⟩
      have m1 : m < 1000000 := m1
      refine ⟨_, _, rfl, rfl, ⟨by decide, by omega, by omega⟩, ?_⟩
      refine ⟨_, _, rfl, rfl, ?_⟩
      obtain ⟨q0, q1⟩ := pow_bd (a := m) (b := 2 ^ 20) m0 (by omega) 3
      have q1 : m ^ (3 : Int).toNat ≤ 2 ^ 60 := q1
      have q0 : 0 ≤ m ^ (3 : Int).toNat := q0
      generalize m ^ (3 : Int).toNat = m3 at *
      refine ⟨by show 4 ≤ sizeLine; decide, fun M hM => ?_⟩
      have nM := pool5.nn hM
      have s5 : Same H5 (upd H5 M (.lst [.int 1, .int 1, .int 3, .int (1 + m3)])) := Same.upd hM
      have hM6 : (upd H5 M (.lst [.int 1, .int 1, .int 3, .int (1 + m3)])) M = some (.lst [.int 1, .int 1, .int 3, .int (1 + m3)]) := upd_same
      generalize upd H5 M (.lst [.int 1, .int 1, .int 3, .int (1 + m3)]) = H6 at *
      refine ⟨_, rfl, p, pc, _, _, rfl, pool5.same s5, by decide, by decide, by omega, fun x H7 x0 x1 pool7 fr7 => ?_⟩
      obtain ⟨y, hy, y0, y1⟩ : ∃ y : Int, ([.int 1, .int 1, .int 3, .int (1 + m3)] : List V)[x.toNat]? = some (.int y) ∧ 0 ≤ y ∧ y ≤ 2 ^ 70 := by
        rcases (show x = 0 ∨ x = 1 ∨ x = 2 ∨ x = 3 by omega) with rfl | rfl | rfl | rfl
        · exact ⟨_, rfl, by decide, by decide⟩
        · exact ⟨_, rfl, by decide, by decide⟩
        · exact ⟨_, rfl, by decide, by decide⟩
        · exact ⟨_, rfl, by omega, by omega⟩
      refine r_lgetI (j := x.toNat) (fr7 _ _ nM.1.symm nM.2.symm hM6) (by omega) hy ?_
      have fr47 : Fr p pc H4 H7 := (fr5.trans (Fr.of s5)).trans fr7
      refine z _ _ (fr47 _ _ nS.1.symm nS.2.symm hA) ⟨ns ++ [y], by rw [e1]; simp, by simp [nl], fun y' hy' => ?_, (pool7.up (by omega)).off nS.1 nS.2, fun b o n1 n2 e => ?_⟩
      · rcases List.mem_append.mp hy' with hy' | hy'
        · exact nb _ hy'
        · rw [List.mem_singleton.mp hy']; exact ⟨y0, y1⟩
      · rw [upd_ne (ne_of_none e hS0)]; exact fr47 _ _ n1 n2 (fr4 _ _ n1 n2 e)
    rw [e1] at hSb
    have fr2 : Fr p pc H1 H2 := fr2
    have fr02 := fr1.trans fr2
    have hO2 := fr2 _ _ nO.1.symm nO.2.symm hO
    -- shared
    refine ⟨_, rfl, _, rfl, by omega, by omega, fun Sh hSh0 => ?_⟩
    have nSh := pool2.nn hSh0
    rw [show ((sides : Nat) : Int).toNat = sides by omega]
    refine lc_rangeR (lo := 0) (n := sides) (fun i ys H' => ∃ ds : List (List Int), TDs H' ys (ds.map dI) ∧ ds.length = i ∧ (∀ d ∈ ds, SmR sides far d) ∧ PoolAt H' p pc (c + sides + 2 * (sides + 1) + 8 * i) ∧ ∀ b o, b ≠ p → b ≠ pc → H2 b = some o → H' b = some o) (by omega)
      ⟨[], .nil, rfl, fun n hn => (by cases hn), pool2.same (Same.upd hSh0), fun b o n1 n2 e => Same.upd hSh0 _ _ e⟩ (fun i H4 acc Qy hi hA ⟨ds, tds, dl, db, pool4, fr4⟩ z => ⟨rfl, ?_⟩) (fun H3 shv hShb hl ⟨sds, tsh, sdl, sdb, pool3, fr3⟩ => ?_)
    · have fr4 : Fr p pc H2 H4 := fr4
      refine ⟨_, rfl, _, rfl, _, rfl, _, rfl, p, pc, O, os, i, far, _, by rw [Int.zero_add]; rfl, pool4, nO.1.symm, nO.2.symm, fr4 _ _ nO.1.symm nO.2.symm hO2, by omega, fun o ho => by rw [osl]; exact osb o ho, by omega, by omega, fun vr d H5 fr5 pool5 hvr dl' ds' => ?_⟩
      have hA5 := fr5 _ _ nSh.1.symm nSh.2.symm hA
      have ts : Tsm H5 (upd H5 Sh (.lst (acc ++ [vr]))) := fun b o e => by rw [upd_ne (ne_of e hA5 (by intro z; cases z))]; exact e
      refine z _ _ hA5 ⟨ds ++ [d], ?_, by simp [dl], fun y hy => ?_, (pool5.up (by omega)).off nSh.1 nSh.2, fun b o n1 n2 e => ?_⟩
      · rw [List.map_append]
        exact ((tds.mono (pool4.tsm fr5)).append (.cons hvr .nil)).mono ts
      · rcases List.mem_append.mp hy with hy | hy
        · exact db _ hy
        · rw [List.mem_singleton.mp hy]; exact ⟨dl'.trans osl, ds'⟩
      · rw [upd_ne (ne_of_none e hSh0)]; exact fr5 _ _ n1 n2 (fr4 _ _ n1 n2 e)
    have fr3 : Fr p pc H2 H3 := fr3
    have fr03 := fr02.trans fr3
    have hO3 := fr3 _ _ nO.1.symm nO.2.symm hO2
    have hS3 := fr3 _ _ nS.1.symm nS.2.symm hSb
    have hSh3 := hShb
    have tsh3 := tsh
    have nS := pool1.nn hS0
    -- found
    refine ⟨by show _ ≤ sizeLine; decide, fun F hF => ?_⟩
    have nF := pool3.nn hF
    have s8F : Same H3 (upd H3 F (.lst [])) := Same.upd hF
    have hF8 : (upd H3 F (.lst [])) F = some (.lst []) := upd_same
    have hO8 := s8F _ _ hO3
    have hShb := s8F _ _ hShb
    have tsh := tsh.mono (Tsm.of s8F)
    have pool8 := pool3.same s8F
    have fr08 := fr03.trans (Fr.of s8F)
    have shl : shv.length = sides := by rw [tsh.length, List.length_map, sdl]
    refine ⟨_, rfl, _, rfl, by omega, by omega, ?_⟩
    rw [show ((tables : Nat) : Int).toNat = tables by omega]
    refine for_range (lo := 0) (n := tables) (fun i σ H' => ∃ (v7 v10 v11 v12 v13 : Option V) (xs : List V) (T : Tt), σ = [some (.ref p), some (.int (sides : Int)), some (.int (tables : Int)), some (.str (wS far)), some (.int fr), some (.ref O), some (.ref S), v7, some (.ref Sh), some (.ref F), v10, v11, v12, v13] ∧
      PoolAt H' p pc (c + 40 + 60 * i) ∧ (∀ b o, b ≠ p → b ≠ pc → H3 b = some o → H' b = some o) ∧ H' F = some (.lst xs) ∧ TDs H' xs (T.map dEn) ∧ T.length = i ∧ ∀ e ∈ T, EnOk sides far e)
      ⟨_, _, _, _, _, [], [], rfl, pool8.up (by omega), fun b o n1 n2 e => s8F _ _ e, hF8, .nil, rfl, fun x hx => by cases hx⟩ ?_ ?_
    · rintro i0 σ Hb hi ⟨v7, v10, v11, v12, v13, xs, T, rfl, poolb, frb, hFb, txs, tl, tok⟩
      have frb' : Fr p pc H3 Hb := frb
      have nfr : ∀ {b : Addr} {o : HO} {H' : Hp}, b ≠ p → b ≠ pc → H3 b = some o → Fr p pc Hb H' → H' b = some o := fun n1 n2 e f => f _ _ n1 n2 (frb' _ _ n1 n2 e)
      -- alike
      refine ⟨_, rfl, ?_⟩
      refine ⟨_, rfl, _, rfl, p, pc, _, _, rfl, poolb, by omega, by omega, by omega, fun a1 Hc a10 a11 poolc frc => ?_⟩
      refine ⟨_, _, rfl, rfl, ?_⟩
      refine ⟨_, rfl, _, rfl, _, _, rfl, rfl, p, pc, _, _, rfl, poolc, by omega, by omega, by omega, fun a2 Hd a20 a21 poold frd => ?_⟩
      refine ⟨by show 3 ≤ sizeLine; decide, fun M hM => ?_⟩
      have nM := poold.nn hM
      have sd : Same Hd (upd Hd M (.lst [.int (sides : Int), .int (1 + a1), .int a2])) := Same.upd hM
      have hMa : (upd Hd M (.lst [.int (sides : Int), .int (1 + a1), .int a2])) M = some (.lst [.int (sides : Int), .int (1 + a1), .int a2]) := upd_same
      generalize upd Hd M (.lst [.int (sides : Int), .int (1 + a1), .int a2]) = He at *
      refine ⟨_, rfl, p, pc, _, _, rfl, poold.same sd, by decide, by decide, by omega, fun x Hf x0 x1 poolf frf => ?_⟩
      obtain ⟨al, hal, alm⟩ : ∃ al : Nat, ([.int (sides : Int), .int (1 + a1), .int a2] : List V)[x.toNat]? = some (.int (al : Int)) ∧ al ≤ sides := by
        rcases (show x = 0 ∨ x = 1 ∨ x = 2 by omega) with rfl | rfl | rfl
        · exact ⟨sides, rfl, Nat.le_refl _⟩
        · exact ⟨(1 + a1).toNat, congrArg (fun z => some (V.int z)) (show 1 + a1 = (((1 + a1).toNat : Nat) : Int) by omega), by omega⟩
        · exact ⟨a2.toNat, congrArg (fun z => some (V.int z)) (show a2 = ((a2.toNat : Nat) : Int) by omega), by omega⟩
      refine r_lgetI (j := x.toNat) (frf _ _ nM.1.symm nM.2.symm hMa) (by omega) hal ?_
      have frbf : Fr p pc Hb Hf := ((frc.trans frd).trans (Fr.of sd)).trans frf
      -- rows
      refine ⟨_, rfl, _, rfl, _, rfl, Sh, shv, rfl, SqL.of (nfr nSh.1.symm nSh.2.symm hSh3 frbf), fun A hA => ?_⟩
      have nA := poolf.nn hA
      rw [cut_lo]
      have sf : Same Hf (upd Hf A (.lst (shv.take al))) := Same.upd hA
      have hAa : (upd Hf A (.lst (shv.take al))) A = some (.lst (shv.take al)) := upd_same
      generalize upd Hf A (.lst (shv.take al)) = Hg at *
      have poolg := poolf.same sf
      have frbg : Fr p pc Hb Hg := frbf.trans (Fr.of sf)
      have tshg : TDs Hg (shv.take al) ((sds.take al).map dI) := by
        rw [List.map_take]
        exact ((tsh3.mono (pool3.tsm frb')).mono (poolb.tsm frbg)).take al
      refine ⟨_, rfl, _, rfl, _, _, rfl, ⟨by omega, by omega, by omega, by omega⟩, fun D hD => ?_⟩
      have nD := poolg.nn hD
      rw [show ((sides : Int) - (al : Int)).toNat = sides - al by omega]
      refine lc_rangeR (lo := (al : Int)) (n := sides - al) (fun i ys H' => ∃ ds : List (List Int), TDs H' ys (ds.map dI) ∧ ds.length = i ∧ (∀ d ∈ ds, SmR sides far d) ∧ PoolAt H' p pc (c + 43 + 60 * i0 + 8 * i) ∧ ∀ b o, b ≠ p → b ≠ pc → Hg b = some o → H' b = some o) (by omega)
        ⟨[], .nil, rfl, fun n hn => (by cases hn), (poolg.same (Same.upd hD)).up (by omega), fun b o n1 n2 e => Same.upd hD _ _ e⟩ (fun i H4 acc Qy hi hA2 ⟨ds, tds, dl, db, pool4, fr4⟩ z => ⟨rfl, ?_⟩) (fun Hh dv hDa hl ⟨dds, tdd, ddl, ddb, poolh, frh⟩ => ?_)
      · have fr4 : Fr p pc Hg H4 := fr4
        refine ⟨_, rfl, _, rfl, _, rfl, _, rfl, p, pc, O, os, al + i, far, _, by rw [Int.natCast_add]; rfl, pool4, nO.1.symm, nO.2.symm, fr4 _ _ nO.1.symm nO.2.symm (nfr nO.1.symm nO.2.symm hO3 frbg), by omega, fun o ho => by rw [osl]; exact osb o ho, by omega, by omega, fun vr d H5 fr5 pool5 hvr dl' ds' => ?_⟩
        have hA5 := fr5 _ _ nD.1.symm nD.2.symm hA2
        have ts : Tsm H5 (upd H5 D (.lst (acc ++ [vr]))) := fun b o e => by rw [upd_ne (ne_of e hA5 (by intro z; cases z))]; exact e
        refine z _ _ hA5 ⟨ds ++ [d], ?_, by simp [dl], fun y hy => ?_, (pool5.up (by omega)).off nD.1 nD.2, fun b o n1 n2 e => ?_⟩
        · rw [List.map_append]
          exact ((tds.mono (pool4.tsm fr5)).append (.cons hvr .nil)).mono ts
        · rcases List.mem_append.mp hy with hy | hy
          · exact db _ hy
          · rw [List.mem_singleton.mp hy]; exact ⟨dl'.trans osl, ds'⟩
        · rw [upd_ne (ne_of_none e hD)]; exact fr5 _ _ n1 n2 (fr4 _ _ n1 n2 e)
      have frh : Fr p pc Hg Hh := frh
      have hAh := frh _ _ nA.1.symm nA.2.symm hAa
      have dvl : dv.length = sides - al := hl
      refine ⟨A, D, _, _, rfl, rfl, hAh, hDa, by rw [sizeLine_eq, List.length_take]; omega, fun R1 hR1 => ?_⟩
      have nR1 := poolh.nn hR1
      have sh_ : Same Hh (upd Hh R1 (.lst (shv.take al ++ dv))) := Same.upd hR1
      have hR1a : (upd Hh R1 (.lst (shv.take al ++ dv))) R1 = some (.lst (shv.take al ++ dv)) := upd_same
      have tr1 : TDs (upd Hh R1 (.lst (shv.take al ++ dv))) (shv.take al ++ dv) ((sds.take al ++ dds).map dI) := by
        rw [List.map_append]
        exact ((tshg.mono (poolg.tsm frh)).append tdd).mono (Tsm.of sh_)
      generalize upd Hh R1 (.lst (shv.take al ++ dv)) = Hi at *
      have rb1 : ∀ d ∈ sds.take al ++ dds, SmR sides far d := fun d hd => by
        rcases List.mem_append.mp hd with hd | hd
        · exact sdb d (List.mem_of_mem_take hd)
        · exact ddb d hd
      have rl1 : (sds.take al ++ dds).length = sides := by rw [List.length_append, List.length_take, sdl, ddl]; omega
      generalize shv.take al ++ dv = r1 at *
      generalize sds.take al ++ dds = ds1 at *
      have pooli := poolh.same sh_
      have frbi : Fr p pc Hb Hi := (frbg.trans frh).trans (Fr.of sh_)
      -- rows[:sides - ..]
      refine ⟨_, rfl, _, rfl, ?_⟩
      refine ⟨by show 4 ≤ sizeLine; decide, fun M3 hM3 => ?_⟩
      have nM3 := pooli.nn hM3
      have si : Same Hi (upd Hi M3 (.lst [.int 0, .int 0, .int 0, .int 1])) := Same.upd hM3
      have hM3a : (upd Hi M3 (.lst [.int 0, .int 0, .int 0, .int 1])) M3 = some (.lst [.int 0, .int 0, .int 0, .int 1]) := upd_same
      generalize upd Hi M3 (.lst [.int 0, .int 0, .int 0, .int 1]) = Hj at *
      refine ⟨_, rfl, p, pc, _, _, rfl, pooli.same si, by decide, by decide, by omega, fun y Hk y0 y1 poolk frk => ?_⟩
      obtain ⟨cu, hcu, cum⟩ : ∃ cu : Nat, ([.int 0, .int 0, .int 0, .int 1] : List V)[y.toNat]? = some (.int (cu : Int)) ∧ cu ≤ 1 := by
        rcases (show y = 0 ∨ y = 1 ∨ y = 2 ∨ y = 3 by omega) with rfl | rfl | rfl | rfl
        · exact ⟨0, rfl, by decide⟩
        · exact ⟨0, rfl, by decide⟩
        · exact ⟨0, rfl, by decide⟩
        · exact ⟨1, rfl, by decide⟩
      refine r_lgetI (j := y.toNat) (frk _ _ nM3.1.symm nM3.2.symm hM3a) (by omega) hcu ?_
      refine ⟨_, _, rfl, rfl, ?_⟩
      have frik : Fr p pc Hi Hk := (Fr.of si).trans frk
      have frbk : Fr p pc Hb Hk := frbi.trans frik
      refine ⟨_, rfl, R1, r1, rfl, SqL.of (frik _ _ nR1.1.symm nR1.2.symm hR1a), fun RR hRR => ?_⟩
      have nR := poolk.nn hRR
      have ecu : cutV r1 none (some ((sides : Int) - (cu : Int))) = r1.take (sides - cu) := by
        rw [show (sides : Int) - (cu : Int) = ((sides - cu : Nat) : Int) by omega, cut_lo]
      rw [ecu]
      have sk : Same Hk (upd Hk RR (.lst (r1.take (sides - cu)))) := Same.upd hRR
      have hRl : (upd Hk RR (.lst (r1.take (sides - cu)))) RR = some (.lst (r1.take (sides - cu))) := upd_same
      have trl : TDs (upd Hk RR (.lst (r1.take (sides - cu)))) (r1.take (sides - cu)) ((ds1.take (sides - cu)).map dI) := by
        rw [List.map_take]
        exact ((tr1.mono (pooli.tsm frik)).mono (Tsm.of sk)).take _
      generalize upd Hk RR (.lst (r1.take (sides - cu))) = Hl at *
      have rbl : ∀ d ∈ ds1.take (sides - cu), SmR sides far d := fun d hd => rb1 d (List.mem_of_mem_take hd)
      have rll : (ds1.take (sides - cu)).length ≤ sides := by rw [List.length_take]; omega
      generalize r1.take (sides - cu) = rl_ at *
      generalize ds1.take (sides - cu) = dsl at *
      have pooll := poolk.same sk
      have frbl : Fr p pc Hb Hl := frbk.trans (Fr.of sk)
      have nRF : RR ≠ F := fun e => by rw [e, frbk _ _ nF.1.symm nF.2.symm hFb] at hRR; cases hRR
      -- if draw == 0
      refine ⟨_, rfl, p, pc, _, _, rfl, pooll, by decide, by decide, by omega, fun d0 Hm d00 d01 poolm frm => ?_⟩
      refine ⟨rfl, _, rfl, ?_⟩
      have frbm : Fr p pc Hb Hm := frbl.trans frm
      have hRm := frm _ _ nR.1.symm nR.2.symm hRl
      have trm := trl.mono (pooll.tsm frm)
      have lrl : rl_.length = dsl.length := by rw [trm.length, List.length_map]
      refine ite2 (fun _ => ?_) (fun _ => ?_)
      · refine ⟨_, rfl, .inl ⟨rfl, _, SqL.of hRm⟩, ?_⟩
        refine ⟨_, rfl, _, rfl, _, rfl, _, _, rfl, rfl, ?_⟩
        refine ⟨_, rfl, p, pc, O, os, sides - 1, far, _, ?_, poolm, nO.1.symm, nO.2.symm, nfr nO.1.symm nO.2.symm hO3 frbm, by omega, fun o ho => by rw [osl]; exact osb o ho, by omega, by omega, fun vr d Hn frn pooln hvr dl' ds' => ?_⟩
        · rw [show ((sides - 1 : Nat) : Int) = (sides : Int) - 1 by omega]; rfl
        have hRn := frn _ _ nR.1.symm nR.2.symm hRm
        refine ⟨RR, _, _, rfl, rfl, hRn, by rw [sizeLine_eq]; omega, ?_⟩
        have ts : Tsm Hn (upd Hn RR (.lst (rl_ ++ [vr]))) := fun b o e => by rw [upd_ne (ne_of e hRn (by intro z; cases z))]; exact e
        have tzs : TDs (upd Hn RR (.lst (rl_ ++ [vr]))) (rl_ ++ [vr]) ((dsl ++ [d]).map dI) := by
          rw [List.map_append]
          exact ((trm.mono (poolm.tsm frn)).append (.cons hvr .nil)).mono ts
        have hRZ : (upd Hn RR (.lst (rl_ ++ [vr]))) RR = some (.lst (rl_ ++ [vr])) := upd_same
        have poolZ := pooln.off (o := .lst (rl_ ++ [vr])) nR.1 nR.2
        have hFZ : (upd Hn RR (.lst (rl_ ++ [vr]))) F = some (.lst xs) := by rw [upd_ne nRF.symm]; exact (frbm.trans frn) _ _ nF.1.symm nF.2.symm hFb
        have txsZ : TDs (upd Hn RR (.lst (rl_ ++ [vr]))) xs (T.map dEn) := (txs.mono (poolb.tsm (frbm.trans frn))).mono ts
        have frbZ : ∀ b o, b ≠ p → b ≠ pc → H3 b = some o → (upd Hn RR (.lst (rl_ ++ [vr]))) b = some o := fun b o n1 n2 e => by
          rw [upd_ne (fun z => ?_)]
          · exact (frbm.trans frn) _ _ n1 n2 (frb _ _ n1 n2 e)
          · subst z
            have := frbk _ _ n1 n2 (frb _ _ n1 n2 e)
            rw [hRR] at this; cases this
        have rszb : ∀ d' ∈ dsl ++ [d], d'.length = sides ∧ Sm far d' := fun d' hd => by
          rcases List.mem_append.mp hd with hd | hd
          · exact rbl d' hd
          · rw [List.mem_singleton.mp hd]; exact ⟨dl'.trans osl, ds'⟩
        have rszl : (dsl ++ [d]).length ≤ sides + 1 := by rw [List.length_append]; show dsl.length + 1 ≤ _; omega
        generalize upd Hn RR (.lst (rl_ ++ [vr])) = HZ at *
        generalize rl_ ++ [vr] = zs at *
        generalize dsl ++ [d] = rsz at *
        refine ⟨_, rfl, ?_⟩
        refine ⟨by show 5 ≤ sizeLine; decide, fun M2 hM2 => ?_⟩
        have nM2 := poolZ.nn hM2
        have sZ : Same HZ (upd HZ M2 (.lst [.int 0, .int 0, .int 0, .int 1, .int (-1)])) := Same.upd hM2
        have hM2a : (upd HZ M2 (.lst [.int 0, .int 0, .int 0, .int 1, .int (-1)])) M2 = some (.lst [.int 0, .int 0, .int 0, .int 1, .int (-1)]) := upd_same
        generalize upd HZ M2 (.lst [.int 0, .int 0, .int 0, .int 1, .int (-1)]) = HY at *
        refine ⟨_, rfl, p, pc, _, _, rfl, poolZ.same sZ, by decide, by decide, by omega, fun u HX u0 u1 poolX frX => ?_⟩
        obtain ⟨nb, hnb⟩ : ∃ m : Int, ([.int 0, .int 0, .int 0, .int 1, .int (-1)] : List V)[u.toNat]? = some (.int m) := by
          rcases (show u = 0 ∨ u = 1 ∨ u = 2 ∨ u = 3 ∨ u = 4 by omega) with rfl | rfl | rfl | rfl | rfl
          all_goals exact ⟨_, rfl⟩
        refine r_lgetI (j := u.toNat) (frX _ _ nM2.1.symm nM2.2.symm hM2a) (by omega) hnb ?_
        have frZX : Fr p pc HZ HX := (Fr.of sZ).trans frX
        have hFX := frZX _ _ nF.1.symm nF.2.symm hFZ
        refine ⟨_, rfl, .inl ⟨rfl, _, SqL.of hFX⟩, ?_⟩
        refine ⟨_, rfl, _, rfl, _, rfl, _, rfl, _, rfl, p, pc, RR, S, rsz, scs, fr, sides, far, _, rfl, poolX, nR.1.symm, nR.2.symm, nS.1.symm, nS.2.symm, ⟨zs, frZX _ _ nR.1.symm nR.2.symm hRZ, tzs.mono (poolZ.tsm frZX)⟩, frZX _ _ nS.1.symm nS.2.symm (frbZ _ _ nS.1.symm nS.2.symm hS3), by omega, by omega, scb, f0, f1, rszb, by omega, by omega, fun vv es HW frW poolW tes el eb => ?_⟩
        refine ⟨by show 2 ≤ sizeLine; decide, fun T2 hT2 => ?_⟩
        have nT2 := poolW.nn hT2
        have sW : Same HW (upd HW T2 (.tup [.int nb, vv])) := Same.upd hT2
        have tT2 : TD (upd HW T2 (.tup [.int nb, vv])) (.ref T2) (dEn (nb, es)) := .tup upd_same (.cons (.int _) (.cons (tes.mono (Tsm.of sW)) .nil))
        generalize upd HW T2 (.tup [.int nb, vv]) = HV at *
        have frZV : Fr p pc HZ HV := (frZX.trans frW).trans (Fr.of sW)
        have hFV := frZV _ _ nF.1.symm nF.2.symm hFZ
        have xl : xs.length = i0 := by rw [txs.length, List.length_map, tl]
        refine ⟨F, _, _, rfl, rfl, hFV, by rw [sizeLine_eq]; omega, ?_⟩
        have ts : Tsm HV (upd HV F (.lst (xs ++ [.ref T2]))) := fun b o e => by rw [upd_ne (ne_of e hFV (by intro z; cases z))]; exact e
        refine ⟨_, _, _, _, _, xs ++ [.ref T2], T ++ [(nb, es)], rfl, ((poolW.same sW).up (by omega)).off nF.1 nF.2, fun b o n1 n2 e => ?_, upd_same, ?_, by rw [List.length_append, tl]; rfl, fun b hb => ?_⟩
        · rw [upd_ne (ne_of_none e hF)]; exact frZV _ _ n1 n2 (frbZ _ _ n1 n2 e)
        · rw [List.map_append]
          exact ((txsZ.mono (poolZ.tsm frZV)).append (.cons tT2 .nil)).mono ts
        · rcases List.mem_append.mp hb with hb | hb
          · exact tok b hb
          · rw [List.mem_singleton.mp hb]
            exact ⟨by show es.length ≤ 4; omega, eb⟩
      · have tzs := trm
        have hRZ := hRm
        have poolZ := poolm
        have hFZ := frbm _ _ nF.1.symm nF.2.symm hFb
        have txsZ := txs.mono (poolb.tsm frbm)
        have frbZ : ∀ b o, b ≠ p → b ≠ pc → H3 b = some o → Hm b = some o := fun b o n1 n2 e => frbm _ _ n1 n2 (frb _ _ n1 n2 e)
        have rszb : ∀ d' ∈ dsl, d'.length = sides ∧ Sm far d' := rbl
        have rszl : dsl.length ≤ sides + 1 := by omega
        generalize Hm = HZ at *
        generalize rl_ = zs at *
        generalize dsl = rsz at *
        refine ⟨_, rfl, ?_⟩
        refine ⟨by show 5 ≤ sizeLine; decide, fun M2 hM2 => ?_⟩
        have nM2 := poolZ.nn hM2
        have sZ : Same HZ (upd HZ M2 (.lst [.int 0, .int 0, .int 0, .int 1, .int (-1)])) := Same.upd hM2
        have hM2a : (upd HZ M2 (.lst [.int 0, .int 0, .int 0, .int 1, .int (-1)])) M2 = some (.lst [.int 0, .int 0, .int 0, .int 1, .int (-1)]) := upd_same
        generalize upd HZ M2 (.lst [.int 0, .int 0, .int 0, .int 1, .int (-1)]) = HY at *
        refine ⟨_, rfl, p, pc, _, _, rfl, poolZ.same sZ, by decide, by decide, by omega, fun u HX u0 u1 poolX frX => ?_⟩
        obtain ⟨nb, hnb⟩ : ∃ m : Int, ([.int 0, .int 0, .int 0, .int 1, .int (-1)] : List V)[u.toNat]? = some (.int m) := by
          rcases (show u = 0 ∨ u = 1 ∨ u = 2 ∨ u = 3 ∨ u = 4 by omega) with rfl | rfl | rfl | rfl | rfl
          all_goals exact ⟨_, rfl⟩
        refine r_lgetI (j := u.toNat) (frX _ _ nM2.1.symm nM2.2.symm hM2a) (by omega) hnb ?_
        have frZX : Fr p pc HZ HX := (Fr.of sZ).trans frX
        have hFX := frZX _ _ nF.1.symm nF.2.symm hFZ
        refine ⟨_, rfl, .inl ⟨rfl, _, SqL.of hFX⟩, ?_⟩
        refine ⟨_, rfl, _, rfl, _, rfl, _, rfl, _, rfl, p, pc, RR, S, rsz, scs, fr, sides, far, _, rfl, poolX, nR.1.symm, nR.2.symm, nS.1.symm, nS.2.symm, ⟨zs, frZX _ _ nR.1.symm nR.2.symm hRZ, tzs.mono (poolZ.tsm frZX)⟩, frZX _ _ nS.1.symm nS.2.symm (frbZ _ _ nS.1.symm nS.2.symm hS3), by omega, by omega, scb, f0, f1, rszb, by omega, by omega, fun vv es HW frW poolW tes el eb => ?_⟩
        refine ⟨by show 2 ≤ sizeLine; decide, fun T2 hT2 => ?_⟩
        have nT2 := poolW.nn hT2
        have sW : Same HW (upd HW T2 (.tup [.int nb, vv])) := Same.upd hT2
        have tT2 : TD (upd HW T2 (.tup [.int nb, vv])) (.ref T2) (dEn (nb, es)) := .tup upd_same (.cons (.int _) (.cons (tes.mono (Tsm.of sW)) .nil))
        generalize upd HW T2 (.tup [.int nb, vv]) = HV at *
        have frZV : Fr p pc HZ HV := (frZX.trans frW).trans (Fr.of sW)
        have hFV := frZV _ _ nF.1.symm nF.2.symm hFZ
        have xl : xs.length = i0 := by rw [txs.length, List.length_map, tl]
        refine ⟨F, _, _, rfl, rfl, hFV, by rw [sizeLine_eq]; omega, ?_⟩
        have ts : Tsm HV (upd HV F (.lst (xs ++ [.ref T2]))) := fun b o e => by rw [upd_ne (ne_of e hFV (by intro z; cases z))]; exact e
        refine ⟨_, _, _, _, _, xs ++ [.ref T2], T ++ [(nb, es)], rfl, ((poolW.same sW).up (by omega)).off nF.1 nF.2, fun b o n1 n2 e => ?_, upd_same, ?_, by rw [List.length_append, tl]; rfl, fun b hb => ?_⟩
        · rw [upd_ne (ne_of_none e hF)]; exact frZV _ _ n1 n2 (frbZ _ _ n1 n2 e)
        · rw [List.map_append]
          exact ((txsZ.mono (poolZ.tsm frZV)).append (.cons tT2 .nil)).mono ts
        · rcases List.mem_append.mp hb with hb | hb
          · exact tok b hb
          · rw [List.mem_singleton.mp hb]
            exact ⟨by show es.length ≤ 4; omega, eb⟩
    · rintro σ H9 ⟨v7, v10, v11, v12, v13, xs, T, rfl, pool9, fr9, hF9, txs, tl, tok⟩
      refine ⟨_, rfl, F, _, rfl, .inl ⟨SqL.of hF9, fun N hN => ?_⟩⟩
      refine k _ T _ (fun b o' n1 n2 e => ?_) ?_ ?_ tl tok
      · have g := fr9 _ _ n1 n2 (fr03 _ _ n1 n2 e)
        rw [upd_ne (ne_of_none g hN)]; exact g
      · have pool7 := pool9.up (d := c + 300) (by omega)
        exact pool7.off (pool7.nn hN).1 (pool7.nn hN).2
      · exact .tup upd_same (txs.mono (Tsm.of (Same.upd hN)))
end
end TN
set_option Elab.async false
set_option linter.all false
set_option maxRecDepth 100000
set_option maxHeartbeats 4000000
/-! W43: the pool. -/
namespace TN
open PySem PySem.Spec PyProof.Rows L2
theorem cut63 {ns : List Int} (h : ns.length ≤ 63) : cutV (ns.map V.int) none (some 63) = ns.map V.int := by
  have e : cutV (ns.map V.int) none (some ((63 : Nat) : Int)) = (ns.map V.int).take 63 := cut_lo
  rw [List.take_of_length_le (by rw [List.length_map]; exact h)] at e
  exact e
/-- a comprehension with ifs over a list -/
theorem lc_listF {K : PySem.W.Frag} {a : Addr} {xs : List V} {g : TG} {tt : TT} {te : TE} {vs : List Nat} {σ : L2.St} {H1 : Hp} {D : Addr} {Qd : Hp → Prop} (Ip : Nat → List V → Prop) (hq : SqL K H1 a xs) (hD : H1 D = none) (hn : xs.length ≤ 1000000) (h0 : Ip 0 [])
    (hs : ∀ (i : Nat) (x : V) (H : Hp) (acc : List V) (Qy : V → Hp → Prop) (Qn : Hp → Prop), xs[i]? = some x → Same H1 H → H D = some (.lst acc) → Ip i acc → (∀ y H4, Same H1 H4 → H4 D = some (.lst acc) → Ip (i + 1) (acc ++ [y]) → Qy y H4) → (∀ H4, Same H1 H4 → H4 D = some (.lst acc) → Ip (i + 1) acc → Qn H4) →
      g x (wipe σ vs) H fun σ2 H2 => wipe σ2 vs = wipe σ vs ∧ tt σ2 H2 fun b H3 => if b = true then te σ2 H3 Qy else Qn H3)
    (hd : ∀ H zs, Same H1 H → H D = some (.lst zs) → Ip xs.length zs → Qd H) : LcF (Itl K a) g tt te vs σ H1 D Qd :=
  lc_genF (J := Itl K a) (g := g) (tt := tt) (te := te) (vs := vs) (σ := σ) (H1 := H1) (D := D) (Qd := Qd) xs.length Ip hD hn h0 (fun H s => ⟨xs, s.sqL hq, Nat.le_refl _⟩) (fun i H hi s => ⟨xs, xs[i], s.sqL hq, by simp [hi]⟩)
    (fun i H acc Qy Qn hi s hH hI k1 k2 x H' ⟨e, y⟩ => by
      subst e
      exact hs i x _ acc Qy Qn (y xs (s.sqL hq)) s hH hI k1 k2) hd
section
variable {P : Program} {w : World} {K : PySem.W.Frag} {mg : Str → Option Value} {base : Heap}
def spPool (K : PySem.W.Frag) : Sp := fun vs H Q _ => ∃ (a : Addr) (ns : List Int), vs = [.ref a] ∧ SqL K H a (ns.map V.int) ∧ ns.length ≤ 63 ∧ ∀ p pc H', Same H H' → PoolAt H' p pc 0 → Q (.ref p) H'
/-! _law_pool: slots 0 _law_script, 1 _law_seed, 2 _law_cell; calls [] -/
abbrev N_law_pool : List Str := ["_law_script", "_law_seed", "_law_cell"]
theorem sc_law_pool : FnScope N_law_pool ["_law_script"] (defScope s_law_pool) := ⟨rfl, rfl, rfl, by decide +kernel, rfl, by decide +kernel, by decide +kernel⟩
theorem ok_law_pool (W : Wd K mg) : Ok P w K mg base 1 "_law_pool" ["_law_script"] (spPool K) := by
  have sc := sc_law_pool
  refine Ok.mk' W.F_law_pool W.g_law_pool sc (fun vs H Q E h => ?_) (fun _ _ _ _ _ _ us hl => match us, hl with | [_], _ => rfl) (fun cdv A outer s H vs Q E hr h => ?_)
  · obtain ⟨a, ns, rfl, _⟩ := h
    rfl
  · obtain ⟨a, ns, rfl, hS, nl, k⟩ := h
    refine ⟨_, (pss_cons (ps_set (i := 1) sc.nd rfl (Or.inl rfl) (pe_op op_add (pe_callB (k_len K) (by rfl) W.b_len PySem.boot_len (pa_cons (pv 0) pa_nil)) pe_int))
    (pss_cons (ps_for PassesOwn.never rfl (k_pil K (pe_slice (k_sll K) (pv 0) po_none (po_some pe_int))) (pg_name (i := 2) sc.nd rfl (Or.inl rfl))
      (pss_one (ps_set (i := 1) sc.nd rfl (Or.inl rfl) (pe_op op_mod (pe_callTy call_int1 (by rfl) W.b_int PyProof.Rows.boot_int (pa_cons (pe_op op_add (pe_op op_add (pe_op op_mulW (pv 1) pe_int) (pe_op op_mod (pe_callTy call_int1 (by rfl) W.b_int PyProof.Rows.boot_int (pa_cons (pv 2) pa_nil)) pe_int)) pe_int) pa_nil)) pe_int))))
    (pss_one (ps_ret (pe_lst (pa_cons (pv 1) (pa_cons pe_int (pa_cons (pe_lc (own := [("_law_cell", 2)]) (g := gName 2) rfl sc.nd (k_pil K (pe_slice (k_sll K) (pv 0) po_none (po_some pe_int))) (blkOk_by (N := N_law_pool) (sc := defScope s_law_pool) (by decide +kernel))  (fun _ _ _ _ _ => (pg_name (i := 2) sc.nd rfl (Or.inl rfl))) (fun _ _ _ _ _ => (pts_one (pt_cmpR op_ge (pe_callB call_abs (by rfl) W.b_abs PyProof.Rows.boot_abs (pa_cons (pe_callTy call_int1 (by rfl) W.b_int PyProof.Rows.boot_int (pa_cons (pv 2) pa_nil)) pa_nil)) (pe_op op_pow pe_int pe_int) (nomark _)))) (fun _ _ _ _ _ => (pe_callB call_abs (by rfl) W.b_abs PyProof.Rows.boot_abs (pa_cons (pe_callTy call_int1 (by rfl) W.b_int PyProof.Rows.boot_int (pa_cons (pv 2) pa_nil)) pa_nil)))) pa_nil)))))))), ?_⟩
    refine ⟨_, rfl, a, _, rfl, .inl hS, ?_⟩
    rw [List.length_map]
    refine ⟨_, _, rfl, rfl, ?_⟩
    refine ⟨_, rfl, _, rfl, a, _, rfl, hS, fun B hB => ?_⟩
    rw [cut63 nl]
    have s1 : Same H (upd H B (.lst (ns.map V.int))) := Same.upd hB
    have hB1 : (upd H B (.lst (ns.map V.int))) B = some (.lst (ns.map V.int)) := upd_same
    generalize upd H B (.lst (ns.map V.int)) = H1 at *
    refine ⟨_, rfl, ⟨_, SqL.of hB1⟩, ?_⟩
    refine for_list (K := K) (a := B) (xs := ns.map V.int) (fun i σ H' => ∃ (sd : Int) (v2 : Option V), σ = [some (.ref a), some (.int sd), v2] ∧ 0 ≤ sd ∧ sd < 2 ^ 31 ∧ Same H1 H')
      ⟨_, _, rfl, by omega, by omega, fun _ _ e => e⟩ (fun i σ H' _ ⟨_, _, _, _, _, s⟩ => SqL.of (s _ _ hB1)) ?_ ?_
    · rintro i x σ H2 hx ⟨sd, v2, rfl, sd0, sd1, s2⟩
      obtain ⟨n, hn, rfl⟩ := ints_at hx
      refine ⟨_, rfl, _, _, rfl, rfl, wide_mul (a := 100) (b := 100) (by omega) (by omega) (by decide) (by decide) (by decide), ?_⟩
      refine ⟨_, rfl, .inl ⟨_, rfl, ?_⟩⟩
      refine ⟨_, _, rfl, rfl, (show (0 : Int) < 2147483629 by decide), ?_⟩
      refine ⟨_, _, rfl, rfl, ?_⟩
      refine ⟨_, _, rfl, rfl, ?_⟩
      refine .inl ⟨_, rfl, ?_⟩
      refine ⟨_, _, rfl, rfl, (show (0 : Int) < 2147483647 by decide), ?_⟩
      generalize sd * 40692 + n % 2147483629 + 5 = M
      have a1 : 0 ≤ M % 2147483647 := Int.emod_nonneg _ (by decide)
      have a2 : M % 2147483647 < 2147483647 := Int.emod_lt_of_pos _ (by decide)
      exact ⟨_, _, rfl, a1, by omega, s2⟩
    · rintro σ H2 ⟨sd, v2, rfl, sd0, sd1, s2⟩
      have s02 := s1.trans s2
      refine ⟨_, rfl, ?_⟩
      refine ⟨_, rfl, _, rfl, a, _, rfl, s02.sqL hS, fun B2 hB2 => ?_⟩
      rw [cut63 nl]
      have s3 : Same H2 (upd H2 B2 (.lst (ns.map V.int))) := Same.upd hB2
      have hB3 : (upd H2 B2 (.lst (ns.map V.int))) B2 = some (.lst (ns.map V.int)) := upd_same
      generalize upd H2 B2 (.lst (ns.map V.int)) = H3 at *
      refine ⟨_, rfl, ⟨_, SqL.of hB3⟩, fun D hD => ?_⟩
      refine lc_listF (fun _ acc => ∃ cs : List Int, acc = cs.map V.int) (SqL.of hB3) hD (by rw [List.length_map]; omega) ⟨[], rfl⟩ (fun i x H4 acc Qy Qn hx s4 hA ⟨cs, ec⟩ z1 z2 => ⟨rfl, ?_⟩) (fun H4 ys s4 hD4 ⟨cs, ec⟩ => ?_)
      · obtain ⟨n, hn, rfl⟩ := ints_at hx
        refine ⟨_, rfl, .inl ⟨_, rfl, ?_⟩⟩
        refine ⟨_, rfl, ?_⟩
        refine ⟨_, _, rfl, rfl, ⟨by decide, by decide, by decide⟩, ?_⟩
        refine ⟨_, _, rfl, rfl, _, rfl, ?_⟩
        refine ite2 (fun _ => ?_) (fun _ => ?_)
        · refine ⟨_, rfl, .inl ⟨_, rfl, ?_⟩⟩
          refine ⟨_, rfl, ?_⟩
          exact z1 _ _ s4 hA ⟨cs ++ [_], by rw [ec, List.map_append]; rfl⟩
        · exact z2 _ s4 hA ⟨cs, ec⟩
      · rw [ec] at hD4
        refine ⟨by show 3 ≤ sizeLine; decide, fun p hp => ?_⟩
        have s05 := (((s02.trans s3).trans s4).trans (Same.upd (o := .lst [.int sd, .int 0, .ref D]) hp))
        have nDp : p ≠ D := (ne_of_none hD4 hp).symm
        exact k p D _ s05 ⟨sd, 0, cs, nDp, upd_same, by rw [upd_ne nDp.symm]; exact hD4, sd0, sd1, by decide, by decide⟩
end
end TN
set_option Elab.async false
set_option linter.all false
set_option maxRecDepth 100000
set_option maxHeartbeats 4000000
/-! W44: the law. -/
namespace TN
open PySem PySem.Spec PyProof.Rows L2
theorem PrgAt.fr {K : PySem.W.Frag} {H H' : Hp} {p pc q : Addr} {g : Prg} {c : Nat} (A : PrgAt K H q g) (pool : PoolAt H p pc c) (f : Fr p pc H H') : PrgAt K H' q g := by
  obtain ⟨dx, a, xs, A⟩ := A
  have ts := pool.tsm f
  obtain ⟨_, _, _, PI⟩ := pool
  exact ⟨dx, a, xs, f _ _ (ne_of A.hp PI.hp (by intro z; cases z)) (ne_of A.hp PI.hc (by intro z; cases z)) A.hp, ts _ _ A.ha, A.td.mono ts⟩
theorem bits_of {x : Int} {n : Nat} (h0 : -2 ^ n ≤ x) (h1 : x ≤ 2 ^ n) (hn : n < 400000) : Bits 400000 x := by
  have e : ((2 ^ n : Nat) : Int) = 2 ^ n := by rw [Int.natCast_pow]; rfl
  have : x.natAbs ≤ 2 ^ n := by omega
  refine Nat.lt_of_le_of_lt this ?_
  exact Nat.pow_lt_pow_right (by decide) hn
section
variable {P : Program} {w : World} {K : PySem.W.Frag} {mg : Str → Option Value}
theorem fnok_of {base : Heap} {x qual : Str} {params : Arguments} {body : List Stmt} {scope : Scope} {ps N : List Str} {sp : Sp} {k : Nat} {f : Addr} {fd : FuncData} (F : FunD K x qual params body scope [] [] f fd) (S : FnScope N ps scope) (len : ∀ vs H Q E, sp vs H Q E → vs.length = ps.length)
    (hbody : ∀ (cdv : Value) (A : Around) (outer : List Env) (s : Shared) (H : Hp) (vs : List V) (Q : VK) (E : XK), Room k (A.deeper (envOfC qual scope s.heap.objs.size f cdv)) → sp vs H Q E →
      ∃ t, PSs (cxOf CX0 P w K mg base N qual scope f cdv A outer s H E).nox body t ∧ t { nx := fun _ H' => Q .non H', rt := Q } (start N vs) H) : FnOk P w K mg base CX0 (k + 1) f fd ps sp :=
  F.ok S len fun cdv A outer s H vs Q E hr h => let ⟨t, h1, h2⟩ := hbody cdv A outer s H vs Q E hr h; ⟨t, h1.nox, h2⟩
def spLaw (K : PySem.W.Frag) : Sp := fun vs H Q _ => ∃ (a : Addr) (ns : List Int), vs = [.ref a] ∧ SqL K H a (ns.map V.int) ∧ ns.length ≤ 63 ∧ ∀ H', Q (.bl true) H'
/-! law: slots 0 _law_script, 1 _law_pool_here, 2 _law_world, 3 _law_sides, 4 _law_tables, 5 _law_far, 6 _law_made_here, 7 _law_program, 8 _law_told, 9 _law_again, 10 _law_point_here, 11 _law_table, 12 _law_some, 13 _law_found, 14 _law_due; calls ['G_law_are_ints', 'G_law_draw', 'G_law_has_form', 'G_law_made', 'G_law_point', 'G_law_pool', 'G_law_readings', 'G_law_time', 'G_time_at', 'G_timetable', 'M_Program_init'] -/
abbrev N_law : List Str := ["_law_script", "_law_pool_here", "_law_world", "_law_sides", "_law_tables", "_law_far", "_law_made_here", "_law_program", "_law_told", "_law_again", "_law_point_here", "_law_table", "_law_some", "_law_found", "_law_due"]
theorem sc_law : FnScope N_law ["_law_script"] (defScope s_law) := ⟨rfl, rfl, rfl, by decide +kernel, rfl, by decide +kernel, by decide +kernel⟩
theorem ok_law (W : Wd K mg) : ∃ fd, FunD K "law" "law" (defArgs s_law) (defBody s_law) (defScope s_law) [] [] (He.fAd K ("law", none)) fd ∧ ∀ base : Heap, FnOk P w K mg base CX0 14 (He.ga K "law") fd ["_law_script"] (spLaw K) := by
  have sc := sc_law
  obtain ⟨fd, F⟩ := W.F_law
  refine ⟨fd, F, fun base => ?_⟩
  have G_law_pool : Ok P w K mg base 1 "_law_pool" ["_law_script"] (spPool K) := ok_law_pool W
  have G_law_draw : Ok P w K mg base 1 "_law_draw" ["_law_pool_here", "_law_many"] spDraw := ok_law_draw W
  have G_law_made : Ok P w K mg base 3 "_law_made" ["_law_pool_here", "_law_sides", "_law_tables", "_law_world", "_law_far"] spLMade := ok_law_made W
  have G_law_readings : Ok P w K mg base 3 "_law_readings" ["_law_pool_here", "_law_made_here", "_law_sides", "_law_far", "_law_most"] spLReads := ok_law_readings W
  have M_Program_init : OkM P w K mg base 5 "Program" "__init__" ["self", "sides", "tables", "readings"] (spPInit K) := ok_Program_init W
  have G_timetable : Ok P w K mg base 13 "timetable" ["program", "world"] (spTime K) := ok_timetable W
  have G_law_has_form : Ok P w K mg base 4 "_law_has_form" ["_law_thing", "_law_sides", "_law_tables", "_law_world"] spLForm := ok_law_has_form W
  have G_law_point : Ok P w K mg base 3 "_law_point" ["_law_pool_here", "_law_sides"] spPoint := ok_law_point W
  have G_time_at : Ok P w K mg base 7 "time_at" ["program", "timetable", "table", "point"] (spTimeAt K) := ok_time_at W
  have G_law_time : Ok P w K mg base 2 "_law_time" ["_law_made_here", "_law_table", "_law_point_here"] spLTime := ok_law_time W
  have G_law_are_ints : Ok P w K mg base 2 "_law_are_ints" ["_law_things", "_law_many"] spAreInts := ok_law_are_ints W
  refine fnok_of (k := 13) F sc (fun vs H Q E h => ?_) (fun cdv A outer s H vs Q E hr h => ?_)
  · obtain ⟨a, ns, rfl, _⟩ := h
    rfl
  · obtain ⟨a, ns, rfl, hS, nl, k⟩ := h
    refine ⟨_, (pss_cons (ps_set (i := 1) sc.nd rfl (Or.inl rfl) (pe_c G_law_pool (hr.mono (by decide)) (by rfl) (pa_cons (pv 0) pa_nil)))
    (pss_cons (ps_set (i := 2) sc.nd rfl (Or.inl rfl) (pe_ix (k_ixl K) (pe_lst (pa_cons pe_str (pa_cons pe_str pa_nil))) (pe_c G_law_draw (hr.mono (by decide)) (by rfl) (pa_cons (pv 1) (pa_cons pe_int pa_nil))) (fun _ _ => rfl)))
    (pss_cons (ps_set (i := 3) sc.nd rfl (Or.inl rfl) (pe_op op_add pe_int (pe_c G_law_draw (hr.mono (by decide)) (by rfl) (pa_cons (pv 1) (pa_cons pe_int pa_nil)))))
    (pss_cons (ps_set (i := 4) sc.nd rfl (Or.inl rfl) (pe_op op_add pe_int (pe_c G_law_draw (hr.mono (by decide)) (by rfl) (pa_cons (pv 1) (pa_cons pe_int pa_nil)))))
    (pss_cons (ps_set (i := 5) sc.nd rfl (Or.inl rfl) (pe_ix (k_ixl K) (pe_lst (pa_cons pe_int (pa_cons pe_int (pa_cons pe_int (pa_cons (pe_op op_add pe_int (pe_op op_mulW pe_int (pe_c G_law_draw (hr.mono (by decide)) (by rfl) (pa_cons (pv 1) (pa_cons (pe_op op_pow pe_int pe_int) pa_nil))))) pa_nil))))) (pe_c G_law_draw (hr.mono (by decide)) (by rfl) (pa_cons (pv 1) (pa_cons pe_int pa_nil))) (fun _ _ => rfl)))
    (pss_cons (ps_set (i := 6) sc.nd rfl (Or.inl rfl) (pe_c G_law_made (hr.mono (by decide)) (by rfl) (pa_cons (pv 1) (pa_cons (pv 3) (pa_cons (pv 4) (pa_cons (pv 2) (pa_cons (pv 5) pa_nil)))))))
    (pss_cons (ps_set (i := 7) sc.nd rfl (Or.inl rfl) (pe_mk W.mk_Program M_Program_init (hr.mono (by decide)) (by rfl) W.g_Program (pa_cons (pv 3) (pa_cons (pv 4) (pa_cons (pe_c G_law_readings (hr.mono (by decide)) (by rfl) (pa_cons (pv 1) (pa_cons (pv 6) (pa_cons (pv 3) (pa_cons (pv 5) (pa_cons pe_int pa_nil)))))) pa_nil)))))
    (pss_cons (ps_set (i := 8) sc.nd rfl (Or.inl rfl) (pe_c G_timetable (hr.mono (by decide)) (by rfl) (pa_cons (pv 7) (pa_cons (pv 2) pa_nil))))
    (pss_cons (ps_if (pt_not (pt_val (pe_c G_law_has_form (hr.mono (by decide)) (by rfl) (pa_cons (pv 8) (pa_cons (pv 3) (pa_cons (pv 4) (pa_cons (pv 2) pa_nil)))))))
      (pss_one ps_never)
      pss_nil)
    (pss_cons (ps_for PassesOwn.never rfl (pi_range1 (by rfl) W.b_range (pa_cons pe_int pa_nil)) (pg_name (i := 9) sc.nd rfl (Or.inl rfl))
      (pss_cons (ps_set (i := 10) sc.nd rfl (Or.inl rfl) (pe_c G_law_point (hr.mono (by decide)) (by rfl) (pa_cons (pv 1) (pa_cons (pv 3) pa_nil))))
      (pss_one (ps_for PassesOwn.never rfl (pi_range1 (by rfl) W.b_range (pa_cons (pv 4) pa_nil)) (pg_name (i := 11) sc.nd rfl (Or.inl rfl))
        (pss_one (ps_for PassesOwn.never rfl (k_pit K (pe_tup (pa_cons (pv 6) (pa_cons (pv 8) pa_nil)))) (pg_name (i := 12) sc.nd rfl (Or.inl rfl))
          (pss_cons (ps_set (i := 13) sc.nd rfl (Or.inl rfl) (pe_c G_time_at (hr.mono (by decide)) (by rfl) (pa_cons (pv 7) (pa_cons (pv 12) (pa_cons (pv 11) (pa_cons (pv 10) pa_nil))))))
          (pss_cons (ps_set (i := 14) sc.nd rfl (Or.inl rfl) (pe_c G_law_time (hr.mono (by decide)) (by rfl) (pa_cons (pv 12) (pa_cons (pv 11) (pa_cons (pv 10) pa_nil)))))
          (pss_one (ps_if (PW.pt (pw_or (pt_not (pt_val (pe_c G_law_are_ints (hr.mono (by decide)) (by rfl) (pa_cons (pv 13) (pa_cons (pe_callB (k_len K) (by rfl) W.b_len PySem.boot_len (pa_cons (pv 14) pa_nil)) pa_nil))))) (pw_or1 (pt_cmpR (k_neD K hr.units) (pv 13) (pv 14) (nomark _)))))
            (pss_one ps_never)
            pss_nil))))))))))
    (pss_one (ps_ret pe_bl)))))))))))), ?_⟩
    refine ⟨_, rfl, a, ns, rfl, hS, nl, fun p pc H1 s1 pool1 => ?_⟩
    -- world
    refine ⟨by show 2 ≤ sizeLine; decide, fun M hM => ?_⟩
    have nM := pool1.nn hM
    have s2 : Same H1 (upd H1 M (.lst [.str "boxes", .str "corner"])) := Same.upd hM
    have hM2 : (upd H1 M (.lst [.str "boxes", .str "corner"])) M = some (.lst [.str "boxes", .str "corner"]) := upd_same
    generalize upd H1 M (.lst [.str "boxes", .str "corner"]) = H2 at *
    refine ⟨_, rfl, p, pc, _, 0, rfl, pool1.same s2, by decide, by decide, by decide, fun x H3 x0 x1 pool3 fr3 => ?_⟩
    obtain ⟨far, hfar⟩ : ∃ far : Bool, ([.str "boxes", .str "corner"] : List V)[x.toNat]? = some (.str (wS far)) := by
      rcases (show x = 0 ∨ x = 1 by omega) with rfl | rfl
      · exact ⟨false, rfl⟩
      · exact ⟨true, rfl⟩
    refine r_lgetI (j := x.toNat) (fr3 _ _ nM.1.symm nM.2.symm hM2) (by omega) hfar ?_
    clear hM2 nM
    -- sides, tables
    refine ⟨_, rfl, p, pc, _, _, rfl, pool3, by decide, by decide, by decide, fun y H4 y0 y1 pool4 fr4 => ?_⟩
    refine ⟨_, _, rfl, rfl, ?_⟩
    obtain ⟨sd, hsd, sd1, sd3⟩ : ∃ sd : Nat, 1 + y = (sd : Int) ∧ 1 ≤ sd ∧ sd ≤ 3 := ⟨(1 + y).toNat, by omega, by omega, by omega⟩
    refine (congrArg (fun z => gName 3 (V.int z) _ _ _) hsd).mpr ?_
    refine ⟨_, rfl, p, pc, _, _, rfl, pool4, by decide, by decide, by decide, fun z H5 z0 z1 pool5 fr5 => ?_⟩
    refine ⟨_, _, rfl, rfl, ?_⟩
    obtain ⟨tb, htb, tb1, tb3⟩ : ∃ tb : Nat, 1 + z = (tb : Int) ∧ 1 ≤ tb ∧ tb ≤ 3 := ⟨(1 + z).toNat, by omega, by omega, by omega⟩
    refine (congrArg (fun z => gName 4 (V.int z) _ _ _) htb).mpr ?_
    -- far
    refine ⟨_, rfl, ?_⟩
    refine ⟨_, _, rfl, rfl, ⟨by decide, by decide, by decide⟩, ?_⟩
    refine ⟨p, pc, (10 : Int) ^ (6 : Int).toNat, _, rfl, pool5, by decide, by decide, by decide, fun m H6 m0 m1 pool6 fr6 => ?_⟩
    have m1 : m < 1000000 := m1
    refine ⟨_, _, rfl, rfl, wide_mul (a := 100) (b := 100) (by omega) (by omega) (by decide) (by decide) (by decide), ?_⟩
    refine ⟨_, _, rfl, rfl, ?_⟩
    refine ⟨by show 4 ≤ sizeLine; decide, fun N hN => ?_⟩
    have nN := pool6.nn hN
    have s6 : Same H6 (upd H6 N (.lst [.int 1, .int 1, .int 1, .int (1 + 400000 * m)])) := Same.upd hN
    have hN6 : (upd H6 N (.lst [.int 1, .int 1, .int 1, .int (1 + 400000 * m)])) N = some (.lst [.int 1, .int 1, .int 1, .int (1 + 400000 * m)]) := upd_same
    generalize upd H6 N (.lst [.int 1, .int 1, .int 1, .int (1 + 400000 * m)]) = H6' at *
    refine ⟨_, rfl, p, pc, _, _, rfl, pool6.same s6, by decide, by decide, by decide, fun u H7 u0 u1 pool7 fr7 => ?_⟩
    obtain ⟨fr, hfr, f0, f1⟩ : ∃ fr : Int, ([.int 1, .int 1, .int 1, .int (1 + 400000 * m)] : List V)[u.toNat]? = some (.int fr) ∧ 0 ≤ fr ∧ fr ≤ 400000000000 := by
      rcases (show u = 0 ∨ u = 1 ∨ u = 2 ∨ u = 3 by omega) with rfl | rfl | rfl | rfl
      · exact ⟨1, rfl, by decide, by decide⟩
      · exact ⟨1, rfl, by decide, by decide⟩
      · exact ⟨1, rfl, by decide, by decide⟩
      · exact ⟨1 + 400000 * m, rfl, by omega, by omega⟩
    refine r_lgetI (j := u.toNat) (fr7 _ _ nN.1.symm nN.2.symm hN6) (by omega) hfr ?_
    clear hN6 nN
    -- made
    refine ⟨_, rfl, _, rfl, _, rfl, _, rfl, _, rfl, p, pc, sd, tb, far, fr, _, rfl, pool7, sd1, sd3, tb3, f0, by omega, by decide, fun vm Tm H8 fr8 pool8 hm tml tmok => ?_⟩
    have bT : ∀ e ∈ Tm, ∀ a ∈ e.2, Bits 400000 a.2 ∧ ∀ x ∈ a.1, Bits 400000 x := fun e he a ha => by
      obtain ⟨_, q1, q2, q3⟩ := (tmok e he).2 a ha
      exact ⟨bits_of q2 q3 (by decide), fun x hx => bits_of (q1 x hx).1 (q1 x hx).2.1 (by decide)⟩
    have tbm : TtB ⟨sd, tb, []⟩ Tm := ⟨tml, fun e he a ha => ((tmok e he).2 a ha).1, fun e he => Nat.le_trans (tmok e he).1 (by decide), bT⟩
    -- readings, Program
    refine ⟨_, rfl, _, rfl, _, rfl, _, rfl, _, rfl, _, rfl, p, pc, vm, ⟨sd, tb, []⟩, Tm, fr, _, rfl, pool8, hm, tbm, sd1, (show sd ≤ 4 by omega), tb1, (show tb ≤ 8 by omega), f0, f1, by decide, fun vr rs H9 fr9 pool9 hvr rsl rsok asc => ?_⟩
    have hm9 := hm.mono (pool8.tsm fr9)
    obtain ⟨g, hg⟩ : ∃ g : Prg, g = ⟨sd, tb, rs⟩ := ⟨_, rfl⟩
    have egs : g.sides = sd := by rw [hg]
    have egt : g.tables = tb := by rw [hg]
    have egr : g.rs = rs := by rw [hg]
    have gok : g.Ok := ⟨by omega, by omega, by omega, by omega, by rw [egr]; exact rsl, fun r hr => by rw [egr] at hr; rw [egs, egt]; exact (rsok r hr).1⟩
    have tokm : TtOk g far 4 Tm := ⟨by rw [tml, egt], fun e he a ha => by rw [egs]; exact ((tmok e he).2 a ha).1, fun e he => (tmok e he).1, fun r hr => by rw [egr] at hr; exact (rsok r hr).2, fun hf e he a ha x hx => (((tmok e he).2 a ha).2.1 x hx).2.2 hf, bT⟩
    clear hg
    refine fun q dx hq0 hdx0 hne => ?_
    have S0 : Same H9 (upd (upd H9 dx (.own q)) q (.ins (He.ga K "Program") dx [])) := fun b o e => by
      rw [upd_ne (ne_of_none e hq0), upd_ne (ne_of_none e hdx0)]; exact e
    refine ⟨H9, q, dx, vr, g, by rw [egs, egt]; rfl, S0, hq0, upd_same, by rw [egr]; exact hvr, gok, by rw [egr]; exact asc, fun H10 s10 PA10 => ⟨rfl, ?_⟩⟩
    have pool10 := pool9.same s10
    have hm10 := hm9.mono (Tsm.of s10)
    -- timetable
    refine ⟨_, rfl, _, rfl, q, g, far, Tm, rfl, PA10, gok, tokm, fun v1 H11 T1 s11 hv1 tok1 => ?_⟩
    refine ⟨_, rfl, _, rfl, _, rfl, _, rfl, v1, g, far, T1, by rw [egs, egt]; rfl, hv1, gok, tok1, fun H12 s12 => ?_⟩
    refine ⟨_, rfl, ?_⟩
    refine iteF ?_
    have s1012 := s11.trans s12
    have PA12 := PA10.mono s1012
    have pool12 := pool10.same s1012
    have tds12 : TDs H12 [vm, v1] ([Tm, T1].map dT) := .cons (hm10.mono (Tsm.of s1012)) (.cons (hv1.mono (Tsm.of s12)) .nil)
    obtain ⟨Ts, hTs⟩ : ∃ Ts : List Tt, Ts = [Tm, T1] := ⟨_, rfl⟩
    have tdTs : TDs H12 [vm, v1] (Ts.map dT) := by rw [hTs]; exact tds12
    have okTs : ∀ T ∈ Ts, TtOk g far 4 T := fun T hT => by
      rw [hTs] at hT
      rcases List.mem_cons.mp hT with rfl | hT
      · exact tokm
      · rw [List.mem_singleton.mp hT]; exact tok1
    clear tds12 hTs
    refine ⟨_, rfl, by decide, by decide, ?_⟩
    rw [show (4 : Int).toNat = 4 from rfl]
    refine for_range (lo := 0) (n := 4) (fun i σ H' => ∃ (v9 v10 v11 v12 v13 v14 : Option V), σ = [some (.ref a), some (.ref p), some (.str (wS far)), some (.int (sd : Int)), some (.int (tb : Int)), some (.int fr), some vm, some (.ref q), some v1, v9, v10, v11, v12, v13, v14] ∧
      PoolAt H' p pc (1000 + 8 * i) ∧ Fr p pc H12 H')
      ⟨_, _, _, _, _, _, rfl, pool12.up (by decide), Fr.refl⟩ ?_ ?_
    · rintro i σ H13 hi ⟨v9, v10, v11, v12, v13, v14, rfl, pool13, fr13⟩
      refine ⟨_, rfl, _, rfl, p, pc, sd, _, rfl, pool13, by omega, by omega, fun vp pt H14 fr14 pool14 hp pl pb => ?_⟩
      have fr1214 := fr13.trans fr14
      have PA14 := PA12.fr pool12 fr1214
      have tdTs14 := tdTs.mono (pool12.tsm fr1214)
      have bpt : ∀ x ∈ pt, Bits 400000 x := fun x hx => bits_of (pb x hx).1 (pb x hx).2 (by decide)
      refine ⟨_, rfl, _, rfl, by omega, by omega, ?_⟩
      rw [show ((tb : Nat) : Int).toNat = tb by omega]
      refine for_range (lo := 0) (n := tb) (fun t σ H' => ∃ (v11 v12 v13 v14 : Option V), σ = [some (.ref a), some (.ref p), some (.str (wS far)), some (.int (sd : Int)), some (.int (tb : Int)), some (.int fr), some vm, some (.ref q), some v1, some (.int (0 + (i : Int))), some vp, v11, v12, v13, v14] ∧ Same H14 H')
        ⟨_, _, _, _, rfl, fun _ _ e => e⟩ ?_ ?_
      · rintro t σ H15 ht ⟨v11, v12, v13, v14, rfl, s15⟩
        refine ⟨_, rfl, _, rfl, by show 2 ≤ sizeLine; decide, fun B hB => ⟨B, rfl, ⟨_, SqT.of upd_same⟩, ?_⟩⟩
        have sB : Same H14 (upd H15 B (.tup [vm, v1])) := s15.trans (Same.upd hB)
        have hBB : (upd H15 B (.tup [vm, v1])) B = some (.tup [vm, v1]) := upd_same
        generalize upd H15 B (.tup [vm, v1]) = H16 at *
        refine for_tup (K := K) (a := B) (xs := [vm, v1]) (fun j σ H' => ∃ (v12 v13 v14 : Option V), σ = [some (.ref a), some (.ref p), some (.str (wS far)), some (.int (sd : Int)), some (.int (tb : Int)), some (.int fr), some vm, some (.ref q), some v1, some (.int (0 + (i : Int))), some vp, some (.int (0 + (t : Int))), v12, v13, v14] ∧ Same H16 H')
          ⟨_, _, _, rfl, fun _ _ e => e⟩ (fun j σ H' _ ⟨_, _, _, _, s⟩ => SqT.of (s _ _ hBB)) ?_ ?_
        · rintro j x σ H17 hx ⟨v12, v13, v14, rfl, s17⟩
          have s1417 := sB.trans s17
          obtain ⟨d, hd, tx⟩ := (tdTs14.mono (Tsm.of s1417)).get' hx
          rw [List.getElem?_map] at hd
          obtain ⟨T, hT, rfl⟩ : ∃ T, Ts[j]? = some T ∧ d = dT T := by
            cases e : Ts[j]? with
            | none => rw [e] at hd; cases hd
            | some b => rw [e] at hd; exact ⟨b, rfl, (Option.some.inj hd).symm⟩
          have tok := okTs T (List.mem_of_getElem? hT)
          have hp17 := hp.mono (Tsm.of s1417)
          have ltb : (timeI T t pt).length ≤ 9 := by
            unfold timeI
            rw [List.length_cons, List.length_map]
            unfold tR
            rw [List.getD_eq_getElem?_getD]
            cases e : T[t]? with
            | none => simp
            | some e' => have := tok.most e' (List.mem_of_getElem? e); show e'.2.length + 1 ≤ 9; omega
          refine ⟨_, rfl, _, rfl, _, rfl, _, rfl, q, x, vp, g, T, t, pt, by rw [Int.zero_add]; rfl, PA14.mono s1417, gok, tx, tok.b, tok.late, by omega, hp17, by omega, bpt, fun v2 H18 s18 h2 => ?_⟩
          refine ⟨_, rfl, _, rfl, _, rfl, x, vp, g, T, t, pt, by rw [Int.zero_add]; rfl, gok, tx.mono (Tsm.of s18), tok.b, by omega, hp17.mono (Tsm.of s18), bpt, fun v3 H19 s19 h3 => ?_⟩
          obtain ⟨a2, rfl, ha2⟩ := (h2.mono (Tsm.of s19)).ints
          obtain ⟨a3, rfl, ha3⟩ := h3.ints
          refine ⟨_, rfl, _, rfl, a3, _, rfl, .inr (SqT.of ha3), ?_⟩
          rw [List.length_map]
          refine ⟨a2, timeI T t pt, _, rfl, ha2, rfl, by omega, fun H20 s20 => ?_⟩
          refine ⟨_, rfl, ?_⟩
          refine iteF ?_
          refine ⟨_, rfl, _, rfl, dI (timeI T t pt), dI (timeI T t pt), (TD.of_ints (s20 _ _ ha2)).dp, (TD.of_ints (s20 _ _ ha3)).dp, shaped_dI _, shaped_dI _, ?_⟩
          rw [eqv_dI, decide_eq_true rfl]
          refine ⟨_, rfl, ?_⟩
          refine iteF ?_
          exact ⟨_, _, _, rfl, ((s17.trans s18).trans s19).trans s20⟩
        · rintro σ H17 ⟨v12, v13, v14, rfl, s17⟩
          exact ⟨_, _, _, _, rfl, sB.trans s17⟩
      · rintro σ H15 ⟨v11, v12, v13, v14, rfl, s15⟩
        exact ⟨_, _, _, _, _, _, rfl, (pool14.same s15).up (by omega), fr1214.trans (Fr.of s15)⟩
    · rintro σ H13 ⟨v9, v10, v11, v12, v13, v14, rfl, pool13, fr13⟩
      exact k _
end
end TN
set_option Elab.async false
set_option linter.all false
set_option maxRecDepth 100000
set_option maxHeartbeats 0
/-! W45: the head's run, the law holds. -/
namespace TN
open PySem PySem.Spec PyProof.Rows L2
theorem facts {P : Program} {w : World} {K : PySem.W.Frag} {h : Heap} {mg : Str → Option Value} {f : Addr} (X : K.In h) (G : h.Ns mainGlobals mg) (hfa : mg ("law" : Str) = some (.ref f)) (c : He.SaysD fa fn K) (e : ex K = true) :
    ∃ fd : FuncData, (∀ (s : Shared) (v : Value), BindsTo s fd ⟨[v], []⟩ [("_law_script", v)]) ∧ ∀ base : Heap, K.In base → base.Ns mainGlobals mg → FnOk P w K mg base CX0 14 f fd ["_law_script"] (spLaw K) := by
  have W := wd_of X G c e
  have e := hfa.symm.trans W.g_law
  cases e
  obtain ⟨fd, F, H⟩ := ok_law (P := P) (w := w) W
  have b := FunD.bindsA (ps := ["_law_script"]) F fun _ _ _ _ _ _ us hl => match us, hl with | [_], _ => rfl
  exact ⟨fd, fun s v => b s [v] rfl, fun base _ _ => H base⟩
end TN
open PySem PySem.W PySem.Calls PyProof.Rows
theorem PySem.Challenge.cw_turnsneeded_k58_whole_times_by_own_sums_holds : PySem.Challenge.rw_turnsneeded_k58_whole_times_by_own_sums.Holds := by
  w_on; o_law
  refine HandSHeadRun.head_any (r := OpenLaw.row PySem.Challenge.rw_turnsneeded_k58_whole_times_by_own_sums) (q := view (OpenLaw.row PySem.Challenge.rw_turnsneeded_k58_whole_times_by_own_sums).prog [79]) (H := TN.hk) (ob := TN.ob) (M := 6000) (loose := TN.lo) (d := HandSHeadRun.topDef (OpenLaw.row PySem.Challenge.rw_turnsneeded_k58_whole_times_by_own_sums).prog 79) (kwd := []) TN.ob_eq
    (by kernel_rfl) (fun s => by kernel_rfl) TN.run (by kernel_rfl) (by kernel_rfl) (by kernel_rfl) (by rfl) (by first | assumption | decide +kernel) (by decide +kernel) ⟨rfl, rfl, rfl, rfl, rfl, by decide +kernel⟩ ?hw ?hc
  case hw => w_witness2
  case hc =>
    refine L2.walk_ofE (l := PySem.Challenge.rw_turnsneeded_k58_whole_times_by_own_sums) (n := 63) (k := 14) (x := "_law_script") (CX := L2.CX0) rfl (by decide) (by kernel_rfl) ⟨rfl, by decide, by decide⟩ ?F (fun _ _ _ _ z => z)
    intro w mg fa h Y G hmg0
    obtain ⟨K, KX, c⟩ := Y
    have hmg : mg ("law" : PySem.Str) = some (.ref fa) := by
      have e : (HandSHeadRun.topDef (OpenLaw.row PySem.Challenge.rw_turnsneeded_k58_whole_times_by_own_sums).prog 79).name = ("law" : PySem.Str) := by kernel_rfl
      rw [← e]
      exact hmg0
    obtain ⟨fd, hb, hF⟩ := TN.facts (P := (PySem.Challenge.rw_turnsneeded_k58_whole_times_by_own_sums).prog) (w := w) KX G hmg c.t.d c.more
    exact ⟨K, fd, TN.spLaw K, KX, hb, fun H a ns hl _ hS => ⟨a, ns, rfl, hS, hl, fun _ => rfl⟩, hF⟩
