import PyProof.Rows.All
import Wide.All
import OpenK.AllK
import Wide.FinOn
import KE.KStateDown
import Lean
import HandS.ForMost
import HandS.Exc
import HandS.TryOnly
import HandS.TryMany
import HandS.ExcOwn
import HandS.More
import HandS.Defaults
import HandS.Star
import HandS.IsInst
import HandS.Head0
import HandS.Head1
import HandS.Head2
import HandS.HeadEnd
import HandS.HeadHook1
import HandS.HeadHook2
import HandS.HeadHook3
import HandS.HeadHook4
import HandS.DictComp
import HandS.Walk
import HandS.Conv
import HandS.Style
import HandS.TupAny
import HandS.Deep
import HandS.NoneIn
import HandS.SetKeys
import HandS.Wide
import KE.KDictZip
import KE.KDictSum
import HandS.Strs
import HandS.SetFor
import HandS.TupSets
import HandS.Zip
import HandS.OwnEq
import HandS.EndOwn
import HandS.EndBits
import HandS.HeadWalk
import PySem.Challenge.RW_plainstore_k77_whole_parted_by_edits_bet
set_option Elab.async false
set_option linter.all false
set_option maxRecDepth 100000
set_option maxHeartbeats 0
namespace PB
open PySem PySem.Spec PyProof.Rows L2
abbrev PG : Program := PySem.Challenge.pw_plainstore_k77_whole_parted_by_edits_bet
def top (i : Nat) : Stmt := PySem.Challenge.pw_plainstore_k77_whole_parted_by_edits_bet.main.body.getD i (.Pass ⟨0, 0, 0, 0⟩)
abbrev S_is_whole : Stmt := top 16
abbrev S_is_number : Stmt := top 17
abbrev S_is_line : Stmt := top 18
abbrev S_is_moment : Stmt := top 19
abbrev S_is_time : Stmt := top 20
abbrev S_is_key : Stmt := top 21
abbrev S_is_cell : Stmt := top 22
abbrev S_are_unlike : Stmt := top 23
abbrev S_is_name : Stmt := top 26
abbrev S_are_pairs : Stmt := top 28
abbrev S_has_word : Stmt := top 29
abbrev S_is_row_deed : Stmt := top 30
abbrev S_is_column_deed : Stmt := top 31
abbrev S_is_deed : Stmt := top 32
abbrev S_by_names : Stmt := top 33
abbrev S_in_name_order : Stmt := top 34
abbrev S_checked_deeds : Stmt := top 36
abbrev S_Past_init : Stmt := inClass (top 37) 0
abbrev S_Past_eq : Stmt := inClass (top 37) 5
abbrev S_Past_deeds : Stmt := inClass (top 37) 7
abbrev S_check_past : Stmt := top 38
abbrev S_check_time : Stmt := top 39
abbrev S_check_key : Stmt := top 40
abbrev S_behind_alter : Stmt := top 42
abbrev S_with_row : Stmt := top 43
abbrev S_table_by : Stmt := top 44
abbrev S_columns_at : Stmt := top 45
abbrev S_row_at : Stmt := top 46
abbrev S_is_test : Stmt := top 55
abbrev S_is_lead : Stmt := top 56
abbrev S_are_parts : Stmt := top 57
abbrev S_is_formed : Stmt := top 58
abbrev S_is_condition : Stmt := top 59
abbrev S_look_at_condition : Stmt := top 60
abbrev S_look_at_place : Stmt := top 61
abbrev S_look_at_asked : Stmt := top 62
abbrev S_parts_of : Stmt := top 63
abbrev S_tests_in : Stmt := top 64
abbrev S_names_in : Stmt := top 65
abbrev S_tests_of : Stmt := top 66
abbrev S_Log_init : Stmt := inClass (top 67) 0
abbrev S_Log_call : Stmt := inClass (top 67) 1
abbrev S_outcome_by : Stmt := top 68
abbrev S_cuts_in : Stmt := top 70
abbrev S_cuts_of : Stmt := top 71
abbrev S_region : Stmt := top 72
abbrev S_witness : Stmt := top 73
abbrev S_regions_there : Stmt := top 74
abbrev S_rows_of_choices : Stmt := top 75
abbrev S_pictures_by : Stmt := top 76
abbrev S_pictures : Stmt := top 77
abbrev S_Picture_init : Stmt := inClass (top 78) 0
abbrev S_Picture_call : Stmt := inClass (top 78) 1
abbrev S_picture_of : Stmt := top 79
abbrev S_is_seen_cell : Stmt := top 80
abbrev S_is_picture : Stmt := top 81
abbrev S_look_at_picture : Stmt := top 82
abbrev S_past_by : Stmt := top 83
abbrev S_past_of : Stmt := top 84
abbrev S_Mixed_init : Stmt := inClass (top 86) 0
abbrev S_Mixed_call : Stmt := inClass (top 86) 1
abbrev S_mixed_by : Stmt := top 87
abbrev S_mixed_outcome : Stmt := top 88
abbrev S_Run_init : Stmt := inClass (top 89) 0
abbrev S_late_firsts : Stmt := top 90
abbrev S_parted_at : Stmt := top 91
abbrev S_parted_by : Stmt := top 92
abbrev S_parted : Stmt := top 93
abbrev S_parted_paper : Stmt := top 94
abbrev S_past_of_deeds : Stmt := top 95
abbrev S_accepts_parted : Stmt := top 96
abbrev S_parted_over : Stmt := top 97
abbrev S_law_numbers : Stmt := top 99
abbrev S_law_opened : Stmt := top 100
abbrev S_law_draw : Stmt := top 101
abbrev S_law_pick : Stmt := top 102
abbrev S_law_by_moment : Stmt := top 103
abbrev S_law_fresh : Stmt := top 104
abbrev S_law_done : Stmt := top 105
abbrev S_law_table : Stmt := top 106
abbrev S_law_named : Stmt := top 107
abbrev S_law_run : Stmt := top 108
abbrev S_law_test : Stmt := top 109
abbrev S_law_condition : Stmt := top 110
abbrev S_law_mixed_run : Stmt := top 111
abbrev S_law_mixed_part : Stmt := top 112
abbrev S_law_first_parted : Stmt := top 113
abbrev S_law : Stmt := top 114
def fn : List He.DefD := [
  ⟨("is_whole", none), "is_whole", "is_whole", defArgs S_is_whole, defBody S_is_whole, defScope S_is_whole, [], []⟩,
  ⟨("is_number", none), "is_number", "is_number", defArgs S_is_number, defBody S_is_number, defScope S_is_number, [], []⟩,
  ⟨("is_line", none), "is_line", "is_line", defArgs S_is_line, defBody S_is_line, defScope S_is_line, [], []⟩,
  ⟨("is_moment", none), "is_moment", "is_moment", defArgs S_is_moment, defBody S_is_moment, defScope S_is_moment, [], []⟩,
  ⟨("is_time", none), "is_time", "is_time", defArgs S_is_time, defBody S_is_time, defScope S_is_time, [], []⟩,
  ⟨("is_key", none), "is_key", "is_key", defArgs S_is_key, defBody S_is_key, defScope S_is_key, [], []⟩,
  ⟨("is_cell", none), "is_cell", "is_cell", defArgs S_is_cell, defBody S_is_cell, defScope S_is_cell, [], []⟩,
  ⟨("are_unlike", none), "are_unlike", "are_unlike", defArgs S_are_unlike, defBody S_are_unlike, defScope S_are_unlike, [], []⟩,
  ⟨("is_name", none), "is_name", "is_name", defArgs S_is_name, defBody S_is_name, defScope S_is_name, [], []⟩,
  ⟨("are_pairs", none), "are_pairs", "are_pairs", defArgs S_are_pairs, defBody S_are_pairs, defScope S_are_pairs, [], []⟩,
  ⟨("has_word", none), "has_word", "has_word", defArgs S_has_word, defBody S_has_word, defScope S_has_word, [], []⟩,
  ⟨("is_row_deed", none), "is_row_deed", "is_row_deed", defArgs S_is_row_deed, defBody S_is_row_deed, defScope S_is_row_deed, [], []⟩,
  ⟨("is_column_deed", none), "is_column_deed", "is_column_deed", defArgs S_is_column_deed, defBody S_is_column_deed, defScope S_is_column_deed, [], []⟩,
  ⟨("is_deed", none), "is_deed", "is_deed", defArgs S_is_deed, defBody S_is_deed, defScope S_is_deed, [], []⟩,
  ⟨("by_names", none), "by_names", "by_names", defArgs S_by_names, defBody S_by_names, defScope S_by_names, [], []⟩,
  ⟨("in_name_order", none), "in_name_order", "in_name_order", defArgs S_in_name_order, defBody S_in_name_order, defScope S_in_name_order, [], []⟩,
  ⟨("checked_deeds", none), "checked_deeds", "checked_deeds", defArgs S_checked_deeds, defBody S_checked_deeds, defScope S_checked_deeds, [], []⟩,
  ⟨("Past", some "__init__"), "__init__", "Past.__init__", defArgs S_Past_init, defBody S_Past_init, defScope S_Past_init, [.adr (He.dflAt ("Past", some "__init__") 0)], []⟩,
  ⟨("Past", some "__eq__"), "__eq__", "Past.__eq__", defArgs S_Past_eq, defBody S_Past_eq, defScope S_Past_eq, [], []⟩,
  ⟨("Past", some "deeds"), "deeds", "Past.deeds", defArgs S_Past_deeds, defBody S_Past_deeds, defScope S_Past_deeds, [], []⟩,
  ⟨("check_past", none), "check_past", "check_past", defArgs S_check_past, defBody S_check_past, defScope S_check_past, [], []⟩,
  ⟨("check_time", none), "check_time", "check_time", defArgs S_check_time, defBody S_check_time, defScope S_check_time, [], []⟩,
  ⟨("check_key", none), "check_key", "check_key", defArgs S_check_key, defBody S_check_key, defScope S_check_key, [], []⟩,
  ⟨("behind_alter", none), "behind_alter", "behind_alter", defArgs S_behind_alter, defBody S_behind_alter, defScope S_behind_alter, [], []⟩,
  ⟨("with_row", none), "with_row", "with_row", defArgs S_with_row, defBody S_with_row, defScope S_with_row, [], []⟩,
  ⟨("table_by", none), "table_by", "table_by", defArgs S_table_by, defBody S_table_by, defScope S_table_by, [], []⟩,
  ⟨("columns_at", none), "columns_at", "columns_at", defArgs S_columns_at, defBody S_columns_at, defScope S_columns_at, [], []⟩,
  ⟨("row_at", none), "row_at", "row_at", defArgs S_row_at, defBody S_row_at, defScope S_row_at, [], []⟩,
  ⟨("is_test", none), "is_test", "is_test", defArgs S_is_test, defBody S_is_test, defScope S_is_test, [], []⟩,
  ⟨("is_lead", none), "is_lead", "is_lead", defArgs S_is_lead, defBody S_is_lead, defScope S_is_lead, [], []⟩,
  ⟨("are_parts", none), "are_parts", "are_parts", defArgs S_are_parts, defBody S_are_parts, defScope S_are_parts, [], []⟩,
  ⟨("is_formed", none), "is_formed", "is_formed", defArgs S_is_formed, defBody S_is_formed, defScope S_is_formed, [], []⟩,
  ⟨("is_condition", none), "is_condition", "is_condition", defArgs S_is_condition, defBody S_is_condition, defScope S_is_condition, [], []⟩,
  ⟨("look_at_condition", none), "look_at_condition", "look_at_condition", defArgs S_look_at_condition, defBody S_look_at_condition, defScope S_look_at_condition, [], []⟩,
  ⟨("look_at_place", none), "look_at_place", "look_at_place", defArgs S_look_at_place, defBody S_look_at_place, defScope S_look_at_place, [], []⟩,
  ⟨("look_at_asked", none), "look_at_asked", "look_at_asked", defArgs S_look_at_asked, defBody S_look_at_asked, defScope S_look_at_asked, [], []⟩,
  ⟨("parts_of", none), "parts_of", "parts_of", defArgs S_parts_of, defBody S_parts_of, defScope S_parts_of, [], []⟩,
  ⟨("tests_in", none), "tests_in", "tests_in", defArgs S_tests_in, defBody S_tests_in, defScope S_tests_in, [], []⟩,
  ⟨("names_in", none), "names_in", "names_in", defArgs S_names_in, defBody S_names_in, defScope S_names_in, [], []⟩,
  ⟨("tests_of", none), "tests_of", "tests_of", defArgs S_tests_of, defBody S_tests_of, defScope S_tests_of, [], []⟩,
  ⟨("Log", some "__init__"), "__init__", "Log.__init__", defArgs S_Log_init, defBody S_Log_init, defScope S_Log_init, [], []⟩,
  ⟨("Log", some "__call__"), "__call__", "Log.__call__", defArgs S_Log_call, defBody S_Log_call, defScope S_Log_call, [], []⟩,
  ⟨("outcome_by", none), "outcome_by", "outcome_by", defArgs S_outcome_by, defBody S_outcome_by, defScope S_outcome_by, [.int 0], []⟩,
  ⟨("cuts_in", none), "cuts_in", "cuts_in", defArgs S_cuts_in, defBody S_cuts_in, defScope S_cuts_in, [], []⟩,
  ⟨("cuts_of", none), "cuts_of", "cuts_of", defArgs S_cuts_of, defBody S_cuts_of, defScope S_cuts_of, [], []⟩,
  ⟨("region", none), "region", "region", defArgs S_region, defBody S_region, defScope S_region, [], []⟩,
  ⟨("witness", none), "witness", "witness", defArgs S_witness, defBody S_witness, defScope S_witness, [], []⟩,
  ⟨("regions_there", none), "regions_there", "regions_there", defArgs S_regions_there, defBody S_regions_there, defScope S_regions_there, [], []⟩,
  ⟨("rows_of_choices", none), "rows_of_choices", "rows_of_choices", defArgs S_rows_of_choices, defBody S_rows_of_choices, defScope S_rows_of_choices, [], []⟩,
  ⟨("pictures_by", none), "pictures_by", "pictures_by", defArgs S_pictures_by, defBody S_pictures_by, defScope S_pictures_by, [], []⟩,
  ⟨("pictures", none), "pictures", "pictures", defArgs S_pictures, defBody S_pictures, defScope S_pictures, [], []⟩,
  ⟨("Picture", some "__init__"), "__init__", "Picture.__init__", defArgs S_Picture_init, defBody S_Picture_init, defScope S_Picture_init, [], []⟩,
  ⟨("Picture", some "__call__"), "__call__", "Picture.__call__", defArgs S_Picture_call, defBody S_Picture_call, defScope S_Picture_call, [], []⟩,
  ⟨("picture_of", none), "picture_of", "picture_of", defArgs S_picture_of, defBody S_picture_of, defScope S_picture_of, [], []⟩,
  ⟨("is_seen_cell", none), "is_seen_cell", "is_seen_cell", defArgs S_is_seen_cell, defBody S_is_seen_cell, defScope S_is_seen_cell, [], []⟩,
  ⟨("is_picture", none), "is_picture", "is_picture", defArgs S_is_picture, defBody S_is_picture, defScope S_is_picture, [], []⟩,
  ⟨("look_at_picture", none), "look_at_picture", "look_at_picture", defArgs S_look_at_picture, defBody S_look_at_picture, defScope S_look_at_picture, [], []⟩,
  ⟨("past_by", none), "past_by", "past_by", defArgs S_past_by, defBody S_past_by, defScope S_past_by, [], []⟩,
  ⟨("past_of", none), "past_of", "past_of", defArgs S_past_of, defBody S_past_of, defScope S_past_of, [], []⟩,
  ⟨("Mixed", some "__init__"), "__init__", "Mixed.__init__", defArgs S_Mixed_init, defBody S_Mixed_init, defScope S_Mixed_init, [], []⟩,
  ⟨("Mixed", some "__call__"), "__call__", "Mixed.__call__", defArgs S_Mixed_call, defBody S_Mixed_call, defScope S_Mixed_call, [], []⟩,
  ⟨("mixed_by", none), "mixed_by", "mixed_by", defArgs S_mixed_by, defBody S_mixed_by, defScope S_mixed_by, [], []⟩,
  ⟨("mixed_outcome", none), "mixed_outcome", "mixed_outcome", defArgs S_mixed_outcome, defBody S_mixed_outcome, defScope S_mixed_outcome, [], []⟩,
  ⟨("Run", some "__init__"), "__init__", "Run.__init__", defArgs S_Run_init, defBody S_Run_init, defScope S_Run_init, [], []⟩,
  ⟨("late_firsts", none), "late_firsts", "late_firsts", defArgs S_late_firsts, defBody S_late_firsts, defScope S_late_firsts, [], []⟩,
  ⟨("parted_at", none), "parted_at", "parted_at", defArgs S_parted_at, defBody S_parted_at, defScope S_parted_at, [], []⟩,
  ⟨("parted_by", none), "parted_by", "parted_by", defArgs S_parted_by, defBody S_parted_by, defScope S_parted_by, [], []⟩,
  ⟨("parted", none), "parted", "parted", defArgs S_parted, defBody S_parted, defScope S_parted, [], []⟩,
  ⟨("parted_paper", none), "parted_paper", "parted_paper", defArgs S_parted_paper, defBody S_parted_paper, defScope S_parted_paper, [], []⟩,
  ⟨("past_of_deeds", none), "past_of_deeds", "past_of_deeds", defArgs S_past_of_deeds, defBody S_past_of_deeds, defScope S_past_of_deeds, [], []⟩,
  ⟨("accepts_parted", none), "accepts_parted", "accepts_parted", defArgs S_accepts_parted, defBody S_accepts_parted, defScope S_accepts_parted, [], []⟩,
  ⟨("parted_over", none), "parted_over", "parted_over", defArgs S_parted_over, defBody S_parted_over, defScope S_parted_over, [], []⟩,
  ⟨("_law_numbers", none), "_law_numbers", "_law_numbers", defArgs S_law_numbers, defBody S_law_numbers, defScope S_law_numbers, [], []⟩,
  ⟨("_law_opened", none), "_law_opened", "_law_opened", defArgs S_law_opened, defBody S_law_opened, defScope S_law_opened, [], []⟩,
  ⟨("_law_draw", none), "_law_draw", "_law_draw", defArgs S_law_draw, defBody S_law_draw, defScope S_law_draw, [], []⟩,
  ⟨("_law_pick", none), "_law_pick", "_law_pick", defArgs S_law_pick, defBody S_law_pick, defScope S_law_pick, [], []⟩,
  ⟨("_law_by_moment", none), "_law_by_moment", "_law_by_moment", defArgs S_law_by_moment, defBody S_law_by_moment, defScope S_law_by_moment, [], []⟩,
  ⟨("_law_fresh", none), "_law_fresh", "_law_fresh", defArgs S_law_fresh, defBody S_law_fresh, defScope S_law_fresh, [], []⟩,
  ⟨("_law_done", none), "_law_done", "_law_done", defArgs S_law_done, defBody S_law_done, defScope S_law_done, [], []⟩,
  ⟨("_law_table", none), "_law_table", "_law_table", defArgs S_law_table, defBody S_law_table, defScope S_law_table, [], []⟩,
  ⟨("_law_named", none), "_law_named", "_law_named", defArgs S_law_named, defBody S_law_named, defScope S_law_named, [], []⟩,
  ⟨("_law_run", none), "_law_run", "_law_run", defArgs S_law_run, defBody S_law_run, defScope S_law_run, [], []⟩,
  ⟨("_law_test", none), "_law_test", "_law_test", defArgs S_law_test, defBody S_law_test, defScope S_law_test, [], []⟩,
  ⟨("_law_condition", none), "_law_condition", "_law_condition", defArgs S_law_condition, defBody S_law_condition, defScope S_law_condition, [], []⟩,
  ⟨("_law_mixed_run", none), "_law_mixed_run", "_law_mixed_run", defArgs S_law_mixed_run, defBody S_law_mixed_run, defScope S_law_mixed_run, [], []⟩,
  ⟨("_law_mixed_part", none), "_law_mixed_part", "_law_mixed_part", defArgs S_law_mixed_part, defBody S_law_mixed_part, defScope S_law_mixed_part, [], []⟩,
  ⟨("_law_first_parted", none), "_law_first_parted", "_law_first_parted", defArgs S_law_first_parted, defBody S_law_first_parted, defScope S_law_first_parted, [], []⟩,
  ⟨("law", none), "law", "law", defArgs S_law, defBody S_law, defScope S_law, [], []⟩]
def fa : List He.Fa := [
  .glo "is_whole",
  .glo "is_number",
  .glo "is_line",
  .glo "is_moment",
  .glo "is_time",
  .glo "is_key",
  .glo "is_cell",
  .glo "are_unlike",
  .glo "is_name",
  .glo "are_pairs",
  .glo "has_word",
  .glo "is_row_deed",
  .glo "is_column_deed",
  .glo "is_deed",
  .glo "by_names",
  .glo "in_name_order",
  .glo "checked_deeds",
  .glo "check_past",
  .glo "check_time",
  .glo "check_key",
  .glo "behind_alter",
  .glo "with_row",
  .glo "table_by",
  .glo "columns_at",
  .glo "row_at",
  .glo "is_test",
  .glo "is_lead",
  .glo "are_parts",
  .glo "is_formed",
  .glo "is_condition",
  .glo "look_at_condition",
  .glo "look_at_place",
  .glo "look_at_asked",
  .glo "parts_of",
  .glo "tests_in",
  .glo "names_in",
  .glo "tests_of",
  .glo "outcome_by",
  .glo "cuts_in",
  .glo "cuts_of",
  .glo "region",
  .glo "witness",
  .glo "regions_there",
  .glo "rows_of_choices",
  .glo "pictures_by",
  .glo "pictures",
  .glo "picture_of",
  .glo "is_seen_cell",
  .glo "is_picture",
  .glo "look_at_picture",
  .glo "past_by",
  .glo "past_of",
  .glo "mixed_by",
  .glo "mixed_outcome",
  .glo "late_firsts",
  .glo "parted_at",
  .glo "parted_by",
  .glo "parted",
  .glo "parted_paper",
  .glo "past_of_deeds",
  .glo "accepts_parted",
  .glo "parted_over",
  .glo "_law_numbers",
  .glo "_law_opened",
  .glo "_law_draw",
  .glo "_law_pick",
  .glo "_law_by_moment",
  .glo "_law_fresh",
  .glo "_law_done",
  .glo "_law_table",
  .glo "_law_named",
  .glo "_law_run",
  .glo "_law_test",
  .glo "_law_condition",
  .glo "_law_mixed_run",
  .glo "_law_mixed_part",
  .glo "_law_first_parted",
  .glo "law",
  .glo "TESTS",
  .glo "TURNED",
  .glo "NoPast",
  .glo "NoMoment",
  .glo "NoKey",
  .glo "NoCount",
  .glo "NoCondition",
  .glo "NoPicture",
  .glo "TooMany",
  .glo "Past",
  .glo "Log",
  .glo "Picture",
  .glo "Mixed",
  .glo "Run",
  .free "len",
  .free "isinstance",
  .free "int",
  .free "all",
  .free "list",
  .free "tuple",
  .free "dict",
  .free "set",
  .free "sorted",
  .free "range",
  .free "enumerate",
  .free "zip",
  .free "str",
  .free "max",
  .free "min",
  .free "bool",
  .int "LAST_MOMENT" 999,
  .int "MOST_KEY" 9,
  .int "MOST_VALUE" 99,
  .int "MOST_DEEDS" 60,
  .int "MOST_PAIRS" 4,
  .int "MOST_TESTS" 8,
  .int "TEST_NAMES" 3,
  .int "TEST_VALUES" 3,
  .int "MOST_DEEP" 3,
  .int "PARTS_AT_MOST" 6,
  .str "LETTERS" "abcdefghijklmnopqrstuvwxyz",
  .cls "Past",
  .mkr "Past",
  .cls "Log",
  .mkr "Log",
  .cls "Picture",
  .mkr "Picture",
  .cls "Mixed",
  .mkr "Mixed",
  .cls "Run",
  .mkr "Run",
  .noat "Past" "by_moment",
  .noat "Log" "answer",
  .noat "Log" "rows",
  .noat "Picture" "cuts",
  .noat "Picture" "has_row",
  .noat "Picture" "cells",
  .noat "Mixed" "told",
  .noat "Mixed" "later",
  .noat "Mixed" "so_far",
  .noat "Run" "told",
  .noat "Run" "answer",
  .noat "Run" "outcome",
  .noat "Run" "answers",
  .meth "Past" "deeds",
  .meth "Past" "__eq__",
  .meth "Log" "__call__",
  .meth "Picture" "__call__",
  .meth "Mixed" "__call__"]
def ts : List He.Tab := [(fun K => He.ga K "TURNED", ["yes", "no", "fault"])]
def ex (K : PySem.W.Frag) : Bool := He.valsB K (He.ga K "TURNED") [("yes", .str "no"), ("no", .str "yes"), ("fault", .str "fault")] && He.tupB K "TESTS" [.str "row", .str "has", .str "eq", .str "less"]
  && PySem.W.fnIn K (He.ma K (He.ga K "Log") "__call__") && PySem.W.fnIn K (He.ma K (He.ga K "Picture") "__call__") && PySem.W.fnIn K (He.ma K (He.ga K "Mixed") "__call__")
  && He.eqO (PySem.W.findIn K (.ref (He.ga K "Past")) "__class__") (some (some (.builtin "object.__class__"))) && He.eqO (PySem.W.specialIn K (.builtin "object.__class__") "__get__") (some (some (.builtin "getset_descriptor.__get__")))
  && decide (PySem.W.takesIn K (.builtin "object.__class__") = some true) && decide (PySem.W.mroIn K (He.ga K "Past") (.type "object") = some true) && (decide (PySem.W.kitOne K (.ref (He.ga K "Past")) (.ref (He.ga K "Past")) = some true) && decide (PySem.W.kitOne K (.type "NoneType") (.ref (He.ga K "Past")) = some false))
abbrev R : PySem.W.OpenRow := PySem.W.OpenLaw.row PySem.Challenge.rw_plainstore_k77_whole_parted_by_edits_bet
structure Says (w : World) (K : PySem.W.Frag) : Prop where
  t : He.SaysT fa fn ts w K
  more : ex K = true
end PB
set_option maxHeartbeats 0
namespace PB
open PySem PySem.Spec PyProof.Rows L2
def as0 : List Addr := [3, 189, 196, 203, 210, 217, 224, 231, 236, 241, 253, 260, 267, 274, 281, 286, 293, 298, 378, 389, 396, 403, 408, 413, 418, 425, 432, 433, 434, 441, 448, 453, 460, 465, 472, 479, 486, 493, 500, 505]
def as1 : List Addr := [512, 536, 548, 553, 560, 565, 572, 577, 582, 587, 594, 618, 627, 634, 639, 646, 651, 658, 682, 691, 698, 713, 724, 729, 734, 741, 748, 755, 760, 765, 772, 779, 786, 793, 798, 805, 810, 817, 822, 827]
def as2 : List Addr := [834, 841, 848, 855, 862, 867, 188, 195, 202, 209, 216, 223, 230, 235, 240, 252, 259, 266, 273, 280, 285, 292, 297, 377, 388, 395, 402, 407, 412, 417, 424, 431, 440, 447, 452, 459, 464, 471, 478, 485]
def as3 : List Addr := [492, 499, 504, 511, 535, 547, 541, 552, 559, 564, 571, 576, 581, 586, 593, 617, 626, 633, 638, 645, 650, 657, 681, 690, 697, 712, 723, 728, 733, 740, 747, 754, 759, 764, 771, 778, 785, 792, 797, 804]
def as4 : List Addr := [809, 816, 821, 826, 833, 840, 847, 854, 861, 866, 314, 349, 361, 526, 533, 608, 615, 672, 679, 710, 313, 307, 348, 360, 525, 532, 607, 614, 671, 678, 709]
/-- the addresses that the facts look at -/
def as_ : List Addr := as0 ++ as1 ++ as2 ++ as3 ++ as4
abbrev AlP : Type := He.AlT × Bool
def obsP (g : Addr → Option Obj) : AlP := (He.obsT fa fn ts (He.frG g as_), ex (He.frG g as_))
def hk : PySem.W.Hook where
  α := AlP
  obs := fun s => obsP s.heap.get?
  val := fun w => (He.valT fn ts w, true)
  says := fun w h => ∃ K : PySem.W.Frag, K.In h ∧ Says w K
  of := fun _ _ e => ⟨_, He.frG_in, ⟨congrArg (fun z : AlP => z.1) e, congrArg (fun z : AlP => z.2) e⟩⟩
  keeps := fun _ _ _ ⟨K, hK, c⟩ k => ⟨K, PySem.W.Frag.In.keeps hK k, c⟩
def ob (s : PySem.W.SharedT) : AlP := obsP (HandSHeadRun.getT s)
theorem ob_eq (s : PySem.W.SharedT) : ob s = hk.obs s.abs := by
  have e : HandSHeadRun.getT s = s.abs.heap.get? := funext (HandSHeadRun.getT_eq s)
  show obsP (HandSHeadRun.getT s) = obsP s.abs.heap.get?
  rw [e]
def loose0 : List PySem.Str := ["_wall", "__name__", "StoreError", "NoPast", "NoMoment", "NoKey", "NoCount", "NoCondition", "NoPicture", "TooMany", "LAST_MOMENT", "MOST_KEY", "MOST_VALUE", "MOST_DEEDS", "LETTERS", "is_whole", "is_number", "is_line", "is_moment", "is_time", "is_key", "is_cell", "are_unlike", "MOST_PAIRS", "is_name", "is_pair", "are_pairs", "has_word", "is_row_deed", "is_column_deed"]
def loose1 : List PySem.Str := ["is_deed", "by_names", "in_name_order", "checked_deeds", "Past", "check_past", "check_time", "check_key", "behind_alter", "with_row", "table_by", "columns_at", "row_at", "MOST_TESTS", "TEST_NAMES", "TEST_VALUES", "MOST_DEEP", "PARTS_AT_MOST", "TESTS", "TURNED", "is_test", "is_lead", "are_parts", "is_formed", "is_condition", "look_at_condition", "look_at_place", "look_at_asked", "parts_of", "tests_in"]
def loose2 : List PySem.Str := ["names_in", "tests_of", "Log", "outcome_by", "cuts_in", "cuts_of", "region", "witness", "regions_there", "rows_of_choices", "pictures_by", "pictures", "Picture", "picture_of", "is_seen_cell", "is_picture", "look_at_picture", "past_by", "past_of", "Mixed", "mixed_by", "mixed_outcome", "Run", "late_firsts", "parted_at", "parted_by", "parted", "parted_paper", "past_of_deeds", "accepts_parted"]
def loose3 : List PySem.Str := ["parted_over", "_law_numbers", "_law_opened", "_law_draw", "_law_pick", "_law_by_moment", "_law_fresh", "_law_done", "_law_table", "_law_named", "_law_run", "_law_test", "_law_condition", "_law_mixed_run", "_law_mixed_part", "_law_first_parted"]
def loose : List PySem.Str := loose0 ++ loose1 ++ loose2 ++ loose3
abbrev qv : Program := PySem.W.view R.prog [114]
theorem runF (w : World) : HandSHeadRun.RunEq R qv hk ob 20000 loose (w.withFollow "special-get-raises" false) := by
  intro os
  kernel_rfl
theorem runT (w : World) : HandSHeadRun.RunEq R qv hk ob 20000 loose (w.withFollow "special-get-raises" true) := by
  intro os
  kernel_rfl
theorem runHd (w : World) : HandSHeadRun.RunEq R qv hk ob 20000 loose w := PySem.W.byRow2 "special-get-raises" (P := fun w => HandSHeadRun.RunEq R qv hk ob 20000 loose w) runF runT w
end PB
namespace PB
open PySem PySem.Spec PyProof.Rows L2
/-! ### steps: a reading turned into what is left of it, by its head -/
class Red (P : Prop) (R : outParam Prop) : Prop where
  imp : R → P
theorem red {P R : Prop} [h : Red P R] (r : R) : P := h.imp r
/-! ### heap facts as classes: at H a stands o; p is new to H; H1 has all of H0 -/
class At (H : Hp) (a : Addr) (o : outParam HO) : Prop where
  h : H a = some o
class New (H : Hp) (p : Addr) : Prop where
  h : H p = none
class Ext (H0 : outParam Hp) (H1 : Hp) : Prop where
  h : ∀ b o, H0 b = some o → H1 b = some o
instance (priority := high) at_top {H : Hp} {a : Addr} {o : HO} : At (upd H a o) a o := ⟨upd_same⟩
instance (priority := low) at_ext {H0 H1 : Hp} {a : Addr} {o : HO} [e : Ext H0 H1] [h : At H0 a o] : At H1 a o := ⟨e.h a o h.h⟩
instance (priority := low) ext_upd {H : Hp} {p : Addr} {o : HO} [n : New H p] : Ext H (upd H p o) := ⟨fun b u e => by rw [upd_ne (ne_of_none e n.h)]; exact e⟩
theorem Ext.refl (H : Hp) : Ext H H := ⟨fun _ _ h => h⟩
theorem Ext.trans {H H1 H2 : Hp} (a : Ext H H1) (b : Ext H1 H2) : Ext H H2 := ⟨fun x o h => b.h x o (a.h x o h)⟩
theorem Ext.new {H H1 : Hp} {p : Addr} {o : HO} (a : Ext H H1) (n : H1 p = none) : Ext H (upd H1 p o) := ⟨fun b u e => by rw [upd_ne (ne_of_none (a.h b u e) n)]; exact a.h b u e⟩
theorem Ext.mut {H H1 : Hp} {p : Addr} {o : HO} (a : Ext H H1) (n : H p = none) : Ext H (upd H1 p o) := ⟨fun b u e => by rw [upd_ne (ne_of_none e n)]; exact a.h b u e⟩
theorem Ext.back {H H1 : Hp} {p : Addr} (a : Ext H H1) (n : H1 p = none) : H p = none := by
  cases q : H p with
  | none => rfl
  | some o => rw [a.h p o q] at n; cases n
theorem Ext.at {H H1 : Hp} {a : Addr} {o : HO} (e : Ext H H1) (h : H a = some o) : H1 a = some o := e.h a o h
/-- what stands, all but p -/
structure ExtB (p : Addr) (H0 H1 : Hp) : Prop where
  h : ∀ b o, b ≠ p → H0 b = some o → H1 b = some o
/-! ### items, lengths, sequences -/
class Nth {α : Type} (xs : List α) (i : Int) (v : outParam α) : Prop where
  h : atI xs i = some v
instance nth0 {α : Type} {x : α} {r : List α} : Nth (x :: r) 0 x := ⟨by unfold atI ixN; rw [if_pos (by omega), if_pos (by simp only [List.length_cons]; omega)]; rfl⟩
instance nth1 {α : Type} {x y : α} {r : List α} : Nth (x :: y :: r) 1 y := ⟨by unfold atI ixN; rw [if_pos (by omega), if_pos (by simp only [List.length_cons]; omega)]; rfl⟩
instance nth2 {α : Type} {x y z : α} {r : List α} : Nth (x :: y :: z :: r) 2 z := ⟨by unfold atI ixN; rw [if_pos (by omega), if_pos (by simp only [List.length_cons]; omega)]; rfl⟩
instance nth3 {α : Type} {x y z u : α} {r : List α} : Nth (x :: y :: z :: u :: r) 3 u := ⟨by unfold atI ixN; rw [if_pos (by omega), if_pos (by simp only [List.length_cons]; omega)]; rfl⟩
class Short (xs : List V) : Prop where
  h : xs.length ≤ sizeLine
instance : Short [] := ⟨Nat.zero_le _⟩
instance {a : V} : Short [a] := ⟨(by show 1 ≤ sizeLine; decide)⟩
instance {a b : V} : Short [a, b] := ⟨(by show 2 ≤ sizeLine; decide)⟩
instance {a b c : V} : Short [a, b, c] := ⟨(by show 3 ≤ sizeLine; decide)⟩
instance {a b c d : V} : Short [a, b, c, d] := ⟨(by show 4 ≤ sizeLine; decide)⟩
instance {a b c d e : V} : Short [a, b, c, d, e] := ⟨(by show 5 ≤ sizeLine; decide)⟩
/-- a list or tuple that is read -/
class Seq (K : PySem.W.Frag) (H : Hp) (a : Addr) (xs : outParam (List V)) : Prop where
  h : SqL K H a xs ∨ SqT K H a xs
class TupA (K : PySem.W.Frag) (H : Hp) (a : Addr) (xs : outParam (List V)) : Prop where
  h : SqT K H a xs
class LstA (K : PySem.W.Frag) (H : Hp) (a : Addr) (xs : outParam (List V)) : Prop where
  h : SqL K H a xs
instance tup_at {K : PySem.W.Frag} {H : Hp} {a : Addr} {xs : List V} [h : At H a (.tup xs)] : TupA K H a xs := ⟨SqT.of h.h⟩
instance lst_at {K : PySem.W.Frag} {H : Hp} {a : Addr} {xs : List V} [h : At H a (.lst xs)] : LstA K H a xs := ⟨SqL.of h.h⟩
instance seq_tup {K : PySem.W.Frag} {H : Hp} {a : Addr} {xs : List V} [h : TupA K H a xs] : Seq K H a xs := ⟨.inr h.h⟩
instance seq_lst {K : PySem.W.Frag} {H : Hp} {a : Addr} {xs : List V} [h : LstA K H a xs] : Seq K H a xs := ⟨.inl h.h⟩
/-! ### named ends of readings -/
def kBool (x : V) (H : Hp) (Q : Bool → Hp → Prop) : Prop := ∃ k, x = .bl k ∧ Q k H
def kFld (K : PySem.W.Frag) (f : Str) (x : V) (H : Hp) (Q : VK) : Prop := ∃ a C dx fs v, x = .ref a ∧ H a = some (.ins C dx fs) ∧ Cls K C ∧ NoAttr K C f ∧ fs.lookup f = some v ∧ Q v H
def kNew (o : HO) (H : Hp) (Q : VK) : Prop := ∀ p, New H p → Q (.ref p) (upd H p o)
theorem k_var {i : Nat} {v : V} {σ : L2.St} {H : Hp} {Q : VK} (h : σ[i]? = some (some v)) (k : Q v H) : tVar i σ H Q := ⟨v, h, k⟩
theorem start_to {N : List Str} {vs : List V} {σ : L2.St} {t : TS} {D : Ends} {H : Hp} (e : start N vs = σ) (h : t D σ H) : t D (start N vs) H := e ▸ h
section
variable {K : PySem.W.Frag} {σ : L2.St} {H H1 : Hp} {Q : VK} {QB : Bool → Hp → Prop} {QL : List V → Hp → Prop} {ta tb tc te : TE} {x y v : V} {r r' : R2} {D : Ends} {t u : TS} {c ct cu : TT} {A B : Prop} {al ar : TA}
instance : Red (tC v σ H Q) (Q v H) := ⟨id⟩
instance : Red (tOp r ta tb σ H Q) (ta σ H fun x H1 => tb σ H1 fun y H2 => r x y H2 Q) := ⟨id⟩
instance {g : Int → V} : Red (tUn (rU g) ta σ H Q) (ta σ H fun x H1 => (rU g) x H1 Q) := ⟨id⟩
instance : Red (tSeq t u D σ H) (t { D with nx := u D } σ H) := ⟨id⟩
instance : Red (tNext D σ H) (D.nx σ H) := ⟨id⟩
instance : Red (tBreak D σ H) (D.bk σ H) := ⟨id⟩
instance : Red (tRet te D σ H) (te σ H D.rt) := ⟨id⟩
instance : Red (tRetN D σ H) (D.rt .non H) := ⟨id⟩
instance : Red (tDrop te D σ H) (te σ H fun _ H1 => D.nx σ H1) := ⟨id⟩
instance {g : TG} : Red (tAsg te g D σ H) (te σ H fun x H1 => g x σ H1 D.nx) := ⟨id⟩
instance {i : Nat} {QS : L2.St → Hp → Prop} : Red (gName i v σ H QS) (QS (σ.set i (some v)) H) := ⟨id⟩
instance : Red (tIfS c t u D σ H) (c σ H fun b H1 => if b = true then t D σ H1 else u D σ H1) := ⟨id⟩
instance : Red (tIf c ta tb σ H Q) (c σ H fun b H1 => if b = true then ta σ H1 Q else tb σ H1 Q) := ⟨id⟩
instance : Red (tTest te σ H QB) (te σ H fun x H' => kBool x H' QB) := ⟨id⟩
instance : Red (tB te σ H QB) (te σ H fun x H' => kBool x H' QB) := ⟨id⟩
instance {k : Bool} : Red (kBool (.bl k) H QB) (QB k H) := ⟨fun h => ⟨k, rfl, h⟩⟩
instance : Red (tAnd ct cu σ H QB) (ct σ H fun c H1 => if c = true then cu σ H1 QB else QB false H1) := ⟨id⟩
instance : Red (tOr ct cu σ H QB) (ct σ H fun c H1 => if c = true then QB true H1 else cu σ H1 QB) := ⟨id⟩
instance : Red (tNot ct σ H QB) (ct σ H fun c H1 => QB (!c) H1) := ⟨id⟩
instance : Red (tAndV ta tb σ H Q) (ta σ H fun x H1 => kBool x H1 fun c H1 => if c = true then tb σ H1 Q else Q (.bl false) H1) := ⟨fun h => h⟩
instance : Red (tOrV ta tb σ H Q) (ta σ H fun x H1 => kBool x H1 fun c H1 => if c = true then Q (.bl true) H1 else tb σ H1 Q) := ⟨fun h => h⟩
instance : Red (tNotV ta σ H Q) (ta σ H fun x H1 => kBool x H1 fun c H1 => Q (.bl (!c)) H1) := ⟨fun h => h⟩
instance red_ifT : Red (if true = true then A else B) A := ⟨iteT⟩
instance red_ifF : Red (if false = true then A else B) B := ⟨iteF⟩
instance red_ifNT : Red (if (!true) = true then A else B) B := ⟨iteF⟩
instance red_ifNF : Red (if (!false) = true then A else B) A := ⟨iteT⟩
instance : Red (tNil σ H QL) (QL [] H) := ⟨id⟩
instance : Red (tCons te ar σ H QL) (te σ H fun x H1 => ar σ H1 fun xs H2 => QL (x :: xs) H2) := ⟨id⟩
instance {f : Str} : Red (tFld K ta f σ H Q) (ta σ H fun x H1 => kFld K f x H1 Q) := ⟨id⟩
instance : Red (tTup al σ H Q) (al σ H fun xs H1 => xs.length ≤ sizeLine ∧ kNew (.tup xs) H1 Q) := ⟨fun h => (show al σ H _ from by
  have e : (fun (xs : List V) (H1 : Hp) => xs.length ≤ sizeLine ∧ kNew (.tup xs) H1 Q) = fun xs H1 => xs.length ≤ sizeLine ∧ ∀ p, H1 p = none → Q (.ref p) (upd H1 p (.tup xs)) := by
    funext xs H1
    exact propext ⟨fun z => ⟨z.1, fun p hp => z.2 p ⟨hp⟩⟩, fun z => ⟨z.1, fun p hp => z.2 p hp.h⟩⟩
  rw [e] at h
  exact h)⟩
instance : Red (tLst al σ H Q) (al σ H fun xs H1 => xs.length ≤ sizeLine ∧ kNew (.lst xs) H1 Q) := ⟨fun h => (show al σ H _ from by
  have e : (fun (xs : List V) (H1 : Hp) => xs.length ≤ sizeLine ∧ kNew (.lst xs) H1 Q) = fun xs H1 => xs.length ≤ sizeLine ∧ ∀ p, H1 p = none → Q (.ref p) (upd H1 p (.lst xs)) := by
    funext xs H1
    exact propext ⟨fun z => ⟨z.1, fun p hp => z.2 p ⟨hp⟩⟩, fun z => ⟨z.1, fun p hp => z.2 p hp.h⟩⟩
  rw [e] at h
  exact h)⟩
instance {xs : List V} [s : Short xs] : Red (xs.length ≤ sizeLine ∧ A) A := ⟨fun h => ⟨s.h, h⟩⟩
/-! operators by values -/
instance {g : Int → Int → V} {i j : Int} : Red (rI0 g (.int i) (.int j) H Q) (Q (g i j) H) := ⟨fun h => ⟨i, j, rfl, rfl, h⟩⟩
instance {g : Int → V} {i : Int} : Red (rU g (.int i) H Q) (Q (g i) H) := ⟨fun h => ⟨i, rfl, h⟩⟩
instance {C : Int → Int → Prop} {g : Int → Int → V} {i j : Int} : Red (rI C g (.int i) (.int j) H Q) (C i j ∧ Q (g i j) H) := ⟨fun h => ⟨i, j, rfl, rfl, h.1, h.2⟩⟩
end
end PB
namespace PB
open PySem PySem.Spec PyProof.Rows L2
/-- what the top has left -/
class Txt (w : outParam World) (K : PySem.W.Frag) (mg : outParam (Str → Option Value)) : Prop where
  ex : ∃ h : Heap, K.In h ∧ h.Ns mainGlobals mg ∧ Says w K
section
variable {w : World} {K : PySem.W.Frag} {mg : Str → Option Value} {base : Heap}
theorem Txt.g_is_whole (T : Txt w K mg) : mg "is_whole" = some (.ref (He.ga K "is_whole")) := by
  obtain ⟨h, X, G, c⟩ := T.ex
  exact He.glo_ok X G (c.t.d.fact 0 (f := .glo "is_whole") rfl)
theorem Txt.g_is_number (T : Txt w K mg) : mg "is_number" = some (.ref (He.ga K "is_number")) := by
  obtain ⟨h, X, G, c⟩ := T.ex
  exact He.glo_ok X G (c.t.d.fact 1 (f := .glo "is_number") rfl)
theorem Txt.g_is_line (T : Txt w K mg) : mg "is_line" = some (.ref (He.ga K "is_line")) := by
  obtain ⟨h, X, G, c⟩ := T.ex
  exact He.glo_ok X G (c.t.d.fact 2 (f := .glo "is_line") rfl)
theorem Txt.g_is_moment (T : Txt w K mg) : mg "is_moment" = some (.ref (He.ga K "is_moment")) := by
  obtain ⟨h, X, G, c⟩ := T.ex
  exact He.glo_ok X G (c.t.d.fact 3 (f := .glo "is_moment") rfl)
theorem Txt.g_is_time (T : Txt w K mg) : mg "is_time" = some (.ref (He.ga K "is_time")) := by
  obtain ⟨h, X, G, c⟩ := T.ex
  exact He.glo_ok X G (c.t.d.fact 4 (f := .glo "is_time") rfl)
theorem Txt.g_is_key (T : Txt w K mg) : mg "is_key" = some (.ref (He.ga K "is_key")) := by
  obtain ⟨h, X, G, c⟩ := T.ex
  exact He.glo_ok X G (c.t.d.fact 5 (f := .glo "is_key") rfl)
theorem Txt.g_is_cell (T : Txt w K mg) : mg "is_cell" = some (.ref (He.ga K "is_cell")) := by
  obtain ⟨h, X, G, c⟩ := T.ex
  exact He.glo_ok X G (c.t.d.fact 6 (f := .glo "is_cell") rfl)
theorem Txt.g_are_unlike (T : Txt w K mg) : mg "are_unlike" = some (.ref (He.ga K "are_unlike")) := by
  obtain ⟨h, X, G, c⟩ := T.ex
  exact He.glo_ok X G (c.t.d.fact 7 (f := .glo "are_unlike") rfl)
theorem Txt.g_is_name (T : Txt w K mg) : mg "is_name" = some (.ref (He.ga K "is_name")) := by
  obtain ⟨h, X, G, c⟩ := T.ex
  exact He.glo_ok X G (c.t.d.fact 8 (f := .glo "is_name") rfl)
theorem Txt.g_are_pairs (T : Txt w K mg) : mg "are_pairs" = some (.ref (He.ga K "are_pairs")) := by
  obtain ⟨h, X, G, c⟩ := T.ex
  exact He.glo_ok X G (c.t.d.fact 9 (f := .glo "are_pairs") rfl)
theorem Txt.g_has_word (T : Txt w K mg) : mg "has_word" = some (.ref (He.ga K "has_word")) := by
  obtain ⟨h, X, G, c⟩ := T.ex
  exact He.glo_ok X G (c.t.d.fact 10 (f := .glo "has_word") rfl)
theorem Txt.g_is_row_deed (T : Txt w K mg) : mg "is_row_deed" = some (.ref (He.ga K "is_row_deed")) := by
  obtain ⟨h, X, G, c⟩ := T.ex
  exact He.glo_ok X G (c.t.d.fact 11 (f := .glo "is_row_deed") rfl)
theorem Txt.g_is_column_deed (T : Txt w K mg) : mg "is_column_deed" = some (.ref (He.ga K "is_column_deed")) := by
  obtain ⟨h, X, G, c⟩ := T.ex
  exact He.glo_ok X G (c.t.d.fact 12 (f := .glo "is_column_deed") rfl)
theorem Txt.g_is_deed (T : Txt w K mg) : mg "is_deed" = some (.ref (He.ga K "is_deed")) := by
  obtain ⟨h, X, G, c⟩ := T.ex
  exact He.glo_ok X G (c.t.d.fact 13 (f := .glo "is_deed") rfl)
theorem Txt.g_by_names (T : Txt w K mg) : mg "by_names" = some (.ref (He.ga K "by_names")) := by
  obtain ⟨h, X, G, c⟩ := T.ex
  exact He.glo_ok X G (c.t.d.fact 14 (f := .glo "by_names") rfl)
theorem Txt.g_in_name_order (T : Txt w K mg) : mg "in_name_order" = some (.ref (He.ga K "in_name_order")) := by
  obtain ⟨h, X, G, c⟩ := T.ex
  exact He.glo_ok X G (c.t.d.fact 15 (f := .glo "in_name_order") rfl)
theorem Txt.g_checked_deeds (T : Txt w K mg) : mg "checked_deeds" = some (.ref (He.ga K "checked_deeds")) := by
  obtain ⟨h, X, G, c⟩ := T.ex
  exact He.glo_ok X G (c.t.d.fact 16 (f := .glo "checked_deeds") rfl)
theorem Txt.g_check_past (T : Txt w K mg) : mg "check_past" = some (.ref (He.ga K "check_past")) := by
  obtain ⟨h, X, G, c⟩ := T.ex
  exact He.glo_ok X G (c.t.d.fact 17 (f := .glo "check_past") rfl)
theorem Txt.g_check_time (T : Txt w K mg) : mg "check_time" = some (.ref (He.ga K "check_time")) := by
  obtain ⟨h, X, G, c⟩ := T.ex
  exact He.glo_ok X G (c.t.d.fact 18 (f := .glo "check_time") rfl)
theorem Txt.g_check_key (T : Txt w K mg) : mg "check_key" = some (.ref (He.ga K "check_key")) := by
  obtain ⟨h, X, G, c⟩ := T.ex
  exact He.glo_ok X G (c.t.d.fact 19 (f := .glo "check_key") rfl)
theorem Txt.g_behind_alter (T : Txt w K mg) : mg "behind_alter" = some (.ref (He.ga K "behind_alter")) := by
  obtain ⟨h, X, G, c⟩ := T.ex
  exact He.glo_ok X G (c.t.d.fact 20 (f := .glo "behind_alter") rfl)
theorem Txt.g_with_row (T : Txt w K mg) : mg "with_row" = some (.ref (He.ga K "with_row")) := by
  obtain ⟨h, X, G, c⟩ := T.ex
  exact He.glo_ok X G (c.t.d.fact 21 (f := .glo "with_row") rfl)
theorem Txt.g_table_by (T : Txt w K mg) : mg "table_by" = some (.ref (He.ga K "table_by")) := by
  obtain ⟨h, X, G, c⟩ := T.ex
  exact He.glo_ok X G (c.t.d.fact 22 (f := .glo "table_by") rfl)
theorem Txt.g_columns_at (T : Txt w K mg) : mg "columns_at" = some (.ref (He.ga K "columns_at")) := by
  obtain ⟨h, X, G, c⟩ := T.ex
  exact He.glo_ok X G (c.t.d.fact 23 (f := .glo "columns_at") rfl)
theorem Txt.g_row_at (T : Txt w K mg) : mg "row_at" = some (.ref (He.ga K "row_at")) := by
  obtain ⟨h, X, G, c⟩ := T.ex
  exact He.glo_ok X G (c.t.d.fact 24 (f := .glo "row_at") rfl)
theorem Txt.g_is_test (T : Txt w K mg) : mg "is_test" = some (.ref (He.ga K "is_test")) := by
  obtain ⟨h, X, G, c⟩ := T.ex
  exact He.glo_ok X G (c.t.d.fact 25 (f := .glo "is_test") rfl)
theorem Txt.g_is_lead (T : Txt w K mg) : mg "is_lead" = some (.ref (He.ga K "is_lead")) := by
  obtain ⟨h, X, G, c⟩ := T.ex
  exact He.glo_ok X G (c.t.d.fact 26 (f := .glo "is_lead") rfl)
theorem Txt.g_are_parts (T : Txt w K mg) : mg "are_parts" = some (.ref (He.ga K "are_parts")) := by
  obtain ⟨h, X, G, c⟩ := T.ex
  exact He.glo_ok X G (c.t.d.fact 27 (f := .glo "are_parts") rfl)
theorem Txt.g_is_formed (T : Txt w K mg) : mg "is_formed" = some (.ref (He.ga K "is_formed")) := by
  obtain ⟨h, X, G, c⟩ := T.ex
  exact He.glo_ok X G (c.t.d.fact 28 (f := .glo "is_formed") rfl)
theorem Txt.g_is_condition (T : Txt w K mg) : mg "is_condition" = some (.ref (He.ga K "is_condition")) := by
  obtain ⟨h, X, G, c⟩ := T.ex
  exact He.glo_ok X G (c.t.d.fact 29 (f := .glo "is_condition") rfl)
theorem Txt.g_look_at_condition (T : Txt w K mg) : mg "look_at_condition" = some (.ref (He.ga K "look_at_condition")) := by
  obtain ⟨h, X, G, c⟩ := T.ex
  exact He.glo_ok X G (c.t.d.fact 30 (f := .glo "look_at_condition") rfl)
theorem Txt.g_look_at_place (T : Txt w K mg) : mg "look_at_place" = some (.ref (He.ga K "look_at_place")) := by
  obtain ⟨h, X, G, c⟩ := T.ex
  exact He.glo_ok X G (c.t.d.fact 31 (f := .glo "look_at_place") rfl)
theorem Txt.g_look_at_asked (T : Txt w K mg) : mg "look_at_asked" = some (.ref (He.ga K "look_at_asked")) := by
  obtain ⟨h, X, G, c⟩ := T.ex
  exact He.glo_ok X G (c.t.d.fact 32 (f := .glo "look_at_asked") rfl)
theorem Txt.g_parts_of (T : Txt w K mg) : mg "parts_of" = some (.ref (He.ga K "parts_of")) := by
  obtain ⟨h, X, G, c⟩ := T.ex
  exact He.glo_ok X G (c.t.d.fact 33 (f := .glo "parts_of") rfl)
theorem Txt.g_tests_in (T : Txt w K mg) : mg "tests_in" = some (.ref (He.ga K "tests_in")) := by
  obtain ⟨h, X, G, c⟩ := T.ex
  exact He.glo_ok X G (c.t.d.fact 34 (f := .glo "tests_in") rfl)
theorem Txt.g_names_in (T : Txt w K mg) : mg "names_in" = some (.ref (He.ga K "names_in")) := by
  obtain ⟨h, X, G, c⟩ := T.ex
  exact He.glo_ok X G (c.t.d.fact 35 (f := .glo "names_in") rfl)
theorem Txt.g_tests_of (T : Txt w K mg) : mg "tests_of" = some (.ref (He.ga K "tests_of")) := by
  obtain ⟨h, X, G, c⟩ := T.ex
  exact He.glo_ok X G (c.t.d.fact 36 (f := .glo "tests_of") rfl)
theorem Txt.g_outcome_by (T : Txt w K mg) : mg "outcome_by" = some (.ref (He.ga K "outcome_by")) := by
  obtain ⟨h, X, G, c⟩ := T.ex
  exact He.glo_ok X G (c.t.d.fact 37 (f := .glo "outcome_by") rfl)
theorem Txt.g_cuts_in (T : Txt w K mg) : mg "cuts_in" = some (.ref (He.ga K "cuts_in")) := by
  obtain ⟨h, X, G, c⟩ := T.ex
  exact He.glo_ok X G (c.t.d.fact 38 (f := .glo "cuts_in") rfl)
theorem Txt.g_cuts_of (T : Txt w K mg) : mg "cuts_of" = some (.ref (He.ga K "cuts_of")) := by
  obtain ⟨h, X, G, c⟩ := T.ex
  exact He.glo_ok X G (c.t.d.fact 39 (f := .glo "cuts_of") rfl)
theorem Txt.g_region (T : Txt w K mg) : mg "region" = some (.ref (He.ga K "region")) := by
  obtain ⟨h, X, G, c⟩ := T.ex
  exact He.glo_ok X G (c.t.d.fact 40 (f := .glo "region") rfl)
theorem Txt.g_witness (T : Txt w K mg) : mg "witness" = some (.ref (He.ga K "witness")) := by
  obtain ⟨h, X, G, c⟩ := T.ex
  exact He.glo_ok X G (c.t.d.fact 41 (f := .glo "witness") rfl)
theorem Txt.g_regions_there (T : Txt w K mg) : mg "regions_there" = some (.ref (He.ga K "regions_there")) := by
  obtain ⟨h, X, G, c⟩ := T.ex
  exact He.glo_ok X G (c.t.d.fact 42 (f := .glo "regions_there") rfl)
theorem Txt.g_rows_of_choices (T : Txt w K mg) : mg "rows_of_choices" = some (.ref (He.ga K "rows_of_choices")) := by
  obtain ⟨h, X, G, c⟩ := T.ex
  exact He.glo_ok X G (c.t.d.fact 43 (f := .glo "rows_of_choices") rfl)
theorem Txt.g_pictures_by (T : Txt w K mg) : mg "pictures_by" = some (.ref (He.ga K "pictures_by")) := by
  obtain ⟨h, X, G, c⟩ := T.ex
  exact He.glo_ok X G (c.t.d.fact 44 (f := .glo "pictures_by") rfl)
theorem Txt.g_pictures (T : Txt w K mg) : mg "pictures" = some (.ref (He.ga K "pictures")) := by
  obtain ⟨h, X, G, c⟩ := T.ex
  exact He.glo_ok X G (c.t.d.fact 45 (f := .glo "pictures") rfl)
theorem Txt.g_picture_of (T : Txt w K mg) : mg "picture_of" = some (.ref (He.ga K "picture_of")) := by
  obtain ⟨h, X, G, c⟩ := T.ex
  exact He.glo_ok X G (c.t.d.fact 46 (f := .glo "picture_of") rfl)
theorem Txt.g_is_seen_cell (T : Txt w K mg) : mg "is_seen_cell" = some (.ref (He.ga K "is_seen_cell")) := by
  obtain ⟨h, X, G, c⟩ := T.ex
  exact He.glo_ok X G (c.t.d.fact 47 (f := .glo "is_seen_cell") rfl)
theorem Txt.g_is_picture (T : Txt w K mg) : mg "is_picture" = some (.ref (He.ga K "is_picture")) := by
  obtain ⟨h, X, G, c⟩ := T.ex
  exact He.glo_ok X G (c.t.d.fact 48 (f := .glo "is_picture") rfl)
theorem Txt.g_look_at_picture (T : Txt w K mg) : mg "look_at_picture" = some (.ref (He.ga K "look_at_picture")) := by
  obtain ⟨h, X, G, c⟩ := T.ex
  exact He.glo_ok X G (c.t.d.fact 49 (f := .glo "look_at_picture") rfl)
theorem Txt.g_past_by (T : Txt w K mg) : mg "past_by" = some (.ref (He.ga K "past_by")) := by
  obtain ⟨h, X, G, c⟩ := T.ex
  exact He.glo_ok X G (c.t.d.fact 50 (f := .glo "past_by") rfl)
theorem Txt.g_past_of (T : Txt w K mg) : mg "past_of" = some (.ref (He.ga K "past_of")) := by
  obtain ⟨h, X, G, c⟩ := T.ex
  exact He.glo_ok X G (c.t.d.fact 51 (f := .glo "past_of") rfl)
theorem Txt.g_mixed_by (T : Txt w K mg) : mg "mixed_by" = some (.ref (He.ga K "mixed_by")) := by
  obtain ⟨h, X, G, c⟩ := T.ex
  exact He.glo_ok X G (c.t.d.fact 52 (f := .glo "mixed_by") rfl)
theorem Txt.g_mixed_outcome (T : Txt w K mg) : mg "mixed_outcome" = some (.ref (He.ga K "mixed_outcome")) := by
  obtain ⟨h, X, G, c⟩ := T.ex
  exact He.glo_ok X G (c.t.d.fact 53 (f := .glo "mixed_outcome") rfl)
theorem Txt.g_late_firsts (T : Txt w K mg) : mg "late_firsts" = some (.ref (He.ga K "late_firsts")) := by
  obtain ⟨h, X, G, c⟩ := T.ex
  exact He.glo_ok X G (c.t.d.fact 54 (f := .glo "late_firsts") rfl)
theorem Txt.g_parted_at (T : Txt w K mg) : mg "parted_at" = some (.ref (He.ga K "parted_at")) := by
  obtain ⟨h, X, G, c⟩ := T.ex
  exact He.glo_ok X G (c.t.d.fact 55 (f := .glo "parted_at") rfl)
theorem Txt.g_parted_by (T : Txt w K mg) : mg "parted_by" = some (.ref (He.ga K "parted_by")) := by
  obtain ⟨h, X, G, c⟩ := T.ex
  exact He.glo_ok X G (c.t.d.fact 56 (f := .glo "parted_by") rfl)
theorem Txt.g_parted (T : Txt w K mg) : mg "parted" = some (.ref (He.ga K "parted")) := by
  obtain ⟨h, X, G, c⟩ := T.ex
  exact He.glo_ok X G (c.t.d.fact 57 (f := .glo "parted") rfl)
theorem Txt.g_parted_paper (T : Txt w K mg) : mg "parted_paper" = some (.ref (He.ga K "parted_paper")) := by
  obtain ⟨h, X, G, c⟩ := T.ex
  exact He.glo_ok X G (c.t.d.fact 58 (f := .glo "parted_paper") rfl)
theorem Txt.g_past_of_deeds (T : Txt w K mg) : mg "past_of_deeds" = some (.ref (He.ga K "past_of_deeds")) := by
  obtain ⟨h, X, G, c⟩ := T.ex
  exact He.glo_ok X G (c.t.d.fact 59 (f := .glo "past_of_deeds") rfl)
theorem Txt.g_accepts_parted (T : Txt w K mg) : mg "accepts_parted" = some (.ref (He.ga K "accepts_parted")) := by
  obtain ⟨h, X, G, c⟩ := T.ex
  exact He.glo_ok X G (c.t.d.fact 60 (f := .glo "accepts_parted") rfl)
theorem Txt.g_parted_over (T : Txt w K mg) : mg "parted_over" = some (.ref (He.ga K "parted_over")) := by
  obtain ⟨h, X, G, c⟩ := T.ex
  exact He.glo_ok X G (c.t.d.fact 61 (f := .glo "parted_over") rfl)
theorem Txt.g_law_numbers (T : Txt w K mg) : mg "_law_numbers" = some (.ref (He.ga K "_law_numbers")) := by
  obtain ⟨h, X, G, c⟩ := T.ex
  exact He.glo_ok X G (c.t.d.fact 62 (f := .glo "_law_numbers") rfl)
theorem Txt.g_law_opened (T : Txt w K mg) : mg "_law_opened" = some (.ref (He.ga K "_law_opened")) := by
  obtain ⟨h, X, G, c⟩ := T.ex
  exact He.glo_ok X G (c.t.d.fact 63 (f := .glo "_law_opened") rfl)
theorem Txt.g_law_draw (T : Txt w K mg) : mg "_law_draw" = some (.ref (He.ga K "_law_draw")) := by
  obtain ⟨h, X, G, c⟩ := T.ex
  exact He.glo_ok X G (c.t.d.fact 64 (f := .glo "_law_draw") rfl)
theorem Txt.g_law_pick (T : Txt w K mg) : mg "_law_pick" = some (.ref (He.ga K "_law_pick")) := by
  obtain ⟨h, X, G, c⟩ := T.ex
  exact He.glo_ok X G (c.t.d.fact 65 (f := .glo "_law_pick") rfl)
theorem Txt.g_law_by_moment (T : Txt w K mg) : mg "_law_by_moment" = some (.ref (He.ga K "_law_by_moment")) := by
  obtain ⟨h, X, G, c⟩ := T.ex
  exact He.glo_ok X G (c.t.d.fact 66 (f := .glo "_law_by_moment") rfl)
theorem Txt.g_law_fresh (T : Txt w K mg) : mg "_law_fresh" = some (.ref (He.ga K "_law_fresh")) := by
  obtain ⟨h, X, G, c⟩ := T.ex
  exact He.glo_ok X G (c.t.d.fact 67 (f := .glo "_law_fresh") rfl)
theorem Txt.g_law_done (T : Txt w K mg) : mg "_law_done" = some (.ref (He.ga K "_law_done")) := by
  obtain ⟨h, X, G, c⟩ := T.ex
  exact He.glo_ok X G (c.t.d.fact 68 (f := .glo "_law_done") rfl)
theorem Txt.g_law_table (T : Txt w K mg) : mg "_law_table" = some (.ref (He.ga K "_law_table")) := by
  obtain ⟨h, X, G, c⟩ := T.ex
  exact He.glo_ok X G (c.t.d.fact 69 (f := .glo "_law_table") rfl)
theorem Txt.g_law_named (T : Txt w K mg) : mg "_law_named" = some (.ref (He.ga K "_law_named")) := by
  obtain ⟨h, X, G, c⟩ := T.ex
  exact He.glo_ok X G (c.t.d.fact 70 (f := .glo "_law_named") rfl)
theorem Txt.g_law_run (T : Txt w K mg) : mg "_law_run" = some (.ref (He.ga K "_law_run")) := by
  obtain ⟨h, X, G, c⟩ := T.ex
  exact He.glo_ok X G (c.t.d.fact 71 (f := .glo "_law_run") rfl)
theorem Txt.g_law_test (T : Txt w K mg) : mg "_law_test" = some (.ref (He.ga K "_law_test")) := by
  obtain ⟨h, X, G, c⟩ := T.ex
  exact He.glo_ok X G (c.t.d.fact 72 (f := .glo "_law_test") rfl)
theorem Txt.g_law_condition (T : Txt w K mg) : mg "_law_condition" = some (.ref (He.ga K "_law_condition")) := by
  obtain ⟨h, X, G, c⟩ := T.ex
  exact He.glo_ok X G (c.t.d.fact 73 (f := .glo "_law_condition") rfl)
theorem Txt.g_law_mixed_run (T : Txt w K mg) : mg "_law_mixed_run" = some (.ref (He.ga K "_law_mixed_run")) := by
  obtain ⟨h, X, G, c⟩ := T.ex
  exact He.glo_ok X G (c.t.d.fact 74 (f := .glo "_law_mixed_run") rfl)
theorem Txt.g_law_mixed_part (T : Txt w K mg) : mg "_law_mixed_part" = some (.ref (He.ga K "_law_mixed_part")) := by
  obtain ⟨h, X, G, c⟩ := T.ex
  exact He.glo_ok X G (c.t.d.fact 75 (f := .glo "_law_mixed_part") rfl)
theorem Txt.g_law_first_parted (T : Txt w K mg) : mg "_law_first_parted" = some (.ref (He.ga K "_law_first_parted")) := by
  obtain ⟨h, X, G, c⟩ := T.ex
  exact He.glo_ok X G (c.t.d.fact 76 (f := .glo "_law_first_parted") rfl)
theorem Txt.g_law (T : Txt w K mg) : mg "law" = some (.ref (He.ga K "law")) := by
  obtain ⟨h, X, G, c⟩ := T.ex
  exact He.glo_ok X G (c.t.d.fact 77 (f := .glo "law") rfl)
theorem Txt.g_TESTS (T : Txt w K mg) : mg "TESTS" = some (.ref (He.ga K "TESTS")) := by
  obtain ⟨h, X, G, c⟩ := T.ex
  exact He.glo_ok X G (c.t.d.fact 78 (f := .glo "TESTS") rfl)
theorem Txt.c_TESTS (T : Txt w K mg) : ∃ u, mg "TESTS" = some u ∧ RelV (.ref (He.ga K "TESTS")) u := ⟨_, T.g_TESTS, rfl⟩
theorem Txt.g_TURNED (T : Txt w K mg) : mg "TURNED" = some (.ref (He.ga K "TURNED")) := by
  obtain ⟨h, X, G, c⟩ := T.ex
  exact He.glo_ok X G (c.t.d.fact 79 (f := .glo "TURNED") rfl)
theorem Txt.c_TURNED (T : Txt w K mg) : ∃ u, mg "TURNED" = some u ∧ RelV (.ref (He.ga K "TURNED")) u := ⟨_, T.g_TURNED, rfl⟩
theorem Txt.g_NoPast (T : Txt w K mg) : mg "NoPast" = some (.ref (He.ga K "NoPast")) := by
  obtain ⟨h, X, G, c⟩ := T.ex
  exact He.glo_ok X G (c.t.d.fact 80 (f := .glo "NoPast") rfl)
theorem Txt.cv_NoPast (T : Txt w K mg) : ∃ u, mg "NoPast" = some u ∧ RelV (.ref (He.ga K "NoPast")) u := ⟨_, T.g_NoPast, rfl⟩
theorem Txt.g_NoMoment (T : Txt w K mg) : mg "NoMoment" = some (.ref (He.ga K "NoMoment")) := by
  obtain ⟨h, X, G, c⟩ := T.ex
  exact He.glo_ok X G (c.t.d.fact 81 (f := .glo "NoMoment") rfl)
theorem Txt.cv_NoMoment (T : Txt w K mg) : ∃ u, mg "NoMoment" = some u ∧ RelV (.ref (He.ga K "NoMoment")) u := ⟨_, T.g_NoMoment, rfl⟩
theorem Txt.g_NoKey (T : Txt w K mg) : mg "NoKey" = some (.ref (He.ga K "NoKey")) := by
  obtain ⟨h, X, G, c⟩ := T.ex
  exact He.glo_ok X G (c.t.d.fact 82 (f := .glo "NoKey") rfl)
theorem Txt.cv_NoKey (T : Txt w K mg) : ∃ u, mg "NoKey" = some u ∧ RelV (.ref (He.ga K "NoKey")) u := ⟨_, T.g_NoKey, rfl⟩
theorem Txt.g_NoCount (T : Txt w K mg) : mg "NoCount" = some (.ref (He.ga K "NoCount")) := by
  obtain ⟨h, X, G, c⟩ := T.ex
  exact He.glo_ok X G (c.t.d.fact 83 (f := .glo "NoCount") rfl)
theorem Txt.cv_NoCount (T : Txt w K mg) : ∃ u, mg "NoCount" = some u ∧ RelV (.ref (He.ga K "NoCount")) u := ⟨_, T.g_NoCount, rfl⟩
theorem Txt.g_NoCondition (T : Txt w K mg) : mg "NoCondition" = some (.ref (He.ga K "NoCondition")) := by
  obtain ⟨h, X, G, c⟩ := T.ex
  exact He.glo_ok X G (c.t.d.fact 84 (f := .glo "NoCondition") rfl)
theorem Txt.cv_NoCondition (T : Txt w K mg) : ∃ u, mg "NoCondition" = some u ∧ RelV (.ref (He.ga K "NoCondition")) u := ⟨_, T.g_NoCondition, rfl⟩
theorem Txt.g_NoPicture (T : Txt w K mg) : mg "NoPicture" = some (.ref (He.ga K "NoPicture")) := by
  obtain ⟨h, X, G, c⟩ := T.ex
  exact He.glo_ok X G (c.t.d.fact 85 (f := .glo "NoPicture") rfl)
theorem Txt.cv_NoPicture (T : Txt w K mg) : ∃ u, mg "NoPicture" = some u ∧ RelV (.ref (He.ga K "NoPicture")) u := ⟨_, T.g_NoPicture, rfl⟩
theorem Txt.g_TooMany (T : Txt w K mg) : mg "TooMany" = some (.ref (He.ga K "TooMany")) := by
  obtain ⟨h, X, G, c⟩ := T.ex
  exact He.glo_ok X G (c.t.d.fact 86 (f := .glo "TooMany") rfl)
theorem Txt.cv_TooMany (T : Txt w K mg) : ∃ u, mg "TooMany" = some u ∧ RelV (.ref (He.ga K "TooMany")) u := ⟨_, T.g_TooMany, rfl⟩
theorem Txt.g_Past (T : Txt w K mg) : mg "Past" = some (.ref (He.ga K "Past")) := by
  obtain ⟨h, X, G, c⟩ := T.ex
  exact He.glo_ok X G (c.t.d.fact 87 (f := .glo "Past") rfl)
theorem Txt.cv_Past (T : Txt w K mg) : ∃ u, mg "Past" = some u ∧ RelV (.ref (He.ga K "Past")) u := ⟨_, T.g_Past, rfl⟩
theorem Txt.g_Log (T : Txt w K mg) : mg "Log" = some (.ref (He.ga K "Log")) := by
  obtain ⟨h, X, G, c⟩ := T.ex
  exact He.glo_ok X G (c.t.d.fact 88 (f := .glo "Log") rfl)
theorem Txt.cv_Log (T : Txt w K mg) : ∃ u, mg "Log" = some u ∧ RelV (.ref (He.ga K "Log")) u := ⟨_, T.g_Log, rfl⟩
theorem Txt.g_Picture (T : Txt w K mg) : mg "Picture" = some (.ref (He.ga K "Picture")) := by
  obtain ⟨h, X, G, c⟩ := T.ex
  exact He.glo_ok X G (c.t.d.fact 89 (f := .glo "Picture") rfl)
theorem Txt.cv_Picture (T : Txt w K mg) : ∃ u, mg "Picture" = some u ∧ RelV (.ref (He.ga K "Picture")) u := ⟨_, T.g_Picture, rfl⟩
theorem Txt.g_Mixed (T : Txt w K mg) : mg "Mixed" = some (.ref (He.ga K "Mixed")) := by
  obtain ⟨h, X, G, c⟩ := T.ex
  exact He.glo_ok X G (c.t.d.fact 90 (f := .glo "Mixed") rfl)
theorem Txt.cv_Mixed (T : Txt w K mg) : ∃ u, mg "Mixed" = some u ∧ RelV (.ref (He.ga K "Mixed")) u := ⟨_, T.g_Mixed, rfl⟩
theorem Txt.g_Run (T : Txt w K mg) : mg "Run" = some (.ref (He.ga K "Run")) := by
  obtain ⟨h, X, G, c⟩ := T.ex
  exact He.glo_ok X G (c.t.d.fact 91 (f := .glo "Run") rfl)
theorem Txt.cv_Run (T : Txt w K mg) : ∃ u, mg "Run" = some u ∧ RelV (.ref (He.ga K "Run")) u := ⟨_, T.g_Run, rfl⟩
theorem Txt.f_len (T : Txt w K mg) : mg "len" = none := by
  obtain ⟨h, X, G, c⟩ := T.ex
  exact He.free_ok X G (c.t.d.fact 92 (f := .free "len") rfl)
theorem Txt.f_isinstance (T : Txt w K mg) : mg "isinstance" = none := by
  obtain ⟨h, X, G, c⟩ := T.ex
  exact He.free_ok X G (c.t.d.fact 93 (f := .free "isinstance") rfl)
theorem Txt.f_int (T : Txt w K mg) : mg "int" = none := by
  obtain ⟨h, X, G, c⟩ := T.ex
  exact He.free_ok X G (c.t.d.fact 94 (f := .free "int") rfl)
theorem Txt.f_all (T : Txt w K mg) : mg "all" = none := by
  obtain ⟨h, X, G, c⟩ := T.ex
  exact He.free_ok X G (c.t.d.fact 95 (f := .free "all") rfl)
theorem Txt.f_list (T : Txt w K mg) : mg "list" = none := by
  obtain ⟨h, X, G, c⟩ := T.ex
  exact He.free_ok X G (c.t.d.fact 96 (f := .free "list") rfl)
theorem Txt.f_tuple (T : Txt w K mg) : mg "tuple" = none := by
  obtain ⟨h, X, G, c⟩ := T.ex
  exact He.free_ok X G (c.t.d.fact 97 (f := .free "tuple") rfl)
theorem Txt.f_dict (T : Txt w K mg) : mg "dict" = none := by
  obtain ⟨h, X, G, c⟩ := T.ex
  exact He.free_ok X G (c.t.d.fact 98 (f := .free "dict") rfl)
theorem Txt.f_set (T : Txt w K mg) : mg "set" = none := by
  obtain ⟨h, X, G, c⟩ := T.ex
  exact He.free_ok X G (c.t.d.fact 99 (f := .free "set") rfl)
theorem Txt.f_sorted (T : Txt w K mg) : mg "sorted" = none := by
  obtain ⟨h, X, G, c⟩ := T.ex
  exact He.free_ok X G (c.t.d.fact 100 (f := .free "sorted") rfl)
theorem Txt.f_range (T : Txt w K mg) : mg "range" = none := by
  obtain ⟨h, X, G, c⟩ := T.ex
  exact He.free_ok X G (c.t.d.fact 101 (f := .free "range") rfl)
theorem Txt.f_enumerate (T : Txt w K mg) : mg "enumerate" = none := by
  obtain ⟨h, X, G, c⟩ := T.ex
  exact He.free_ok X G (c.t.d.fact 102 (f := .free "enumerate") rfl)
theorem Txt.f_zip (T : Txt w K mg) : mg "zip" = none := by
  obtain ⟨h, X, G, c⟩ := T.ex
  exact He.free_ok X G (c.t.d.fact 103 (f := .free "zip") rfl)
theorem Txt.f_str (T : Txt w K mg) : mg "str" = none := by
  obtain ⟨h, X, G, c⟩ := T.ex
  exact He.free_ok X G (c.t.d.fact 104 (f := .free "str") rfl)
theorem Txt.f_max (T : Txt w K mg) : mg "max" = none := by
  obtain ⟨h, X, G, c⟩ := T.ex
  exact He.free_ok X G (c.t.d.fact 105 (f := .free "max") rfl)
theorem Txt.f_min (T : Txt w K mg) : mg "min" = none := by
  obtain ⟨h, X, G, c⟩ := T.ex
  exact He.free_ok X G (c.t.d.fact 106 (f := .free "min") rfl)
theorem Txt.f_bool (T : Txt w K mg) : mg "bool" = none := by
  obtain ⟨h, X, G, c⟩ := T.ex
  exact He.free_ok X G (c.t.d.fact 107 (f := .free "bool") rfl)
theorem Txt.c_LAST_MOMENT (T : Txt w K mg) : ∃ u, mg "LAST_MOMENT" = some u ∧ RelV (.int 999) u := by
  obtain ⟨h, X, G, c⟩ := T.ex
  obtain ⟨t, e⟩ := He.int_ok X G (c.t.d.fact 108 (f := .int "LAST_MOMENT" 999) rfl)
  exact ⟨_, e, t, rfl⟩
theorem Txt.c_MOST_KEY (T : Txt w K mg) : ∃ u, mg "MOST_KEY" = some u ∧ RelV (.int 9) u := by
  obtain ⟨h, X, G, c⟩ := T.ex
  obtain ⟨t, e⟩ := He.int_ok X G (c.t.d.fact 109 (f := .int "MOST_KEY" 9) rfl)
  exact ⟨_, e, t, rfl⟩
theorem Txt.c_MOST_VALUE (T : Txt w K mg) : ∃ u, mg "MOST_VALUE" = some u ∧ RelV (.int 99) u := by
  obtain ⟨h, X, G, c⟩ := T.ex
  obtain ⟨t, e⟩ := He.int_ok X G (c.t.d.fact 110 (f := .int "MOST_VALUE" 99) rfl)
  exact ⟨_, e, t, rfl⟩
theorem Txt.c_MOST_DEEDS (T : Txt w K mg) : ∃ u, mg "MOST_DEEDS" = some u ∧ RelV (.int 60) u := by
  obtain ⟨h, X, G, c⟩ := T.ex
  obtain ⟨t, e⟩ := He.int_ok X G (c.t.d.fact 111 (f := .int "MOST_DEEDS" 60) rfl)
  exact ⟨_, e, t, rfl⟩
theorem Txt.c_MOST_PAIRS (T : Txt w K mg) : ∃ u, mg "MOST_PAIRS" = some u ∧ RelV (.int 4) u := by
  obtain ⟨h, X, G, c⟩ := T.ex
  obtain ⟨t, e⟩ := He.int_ok X G (c.t.d.fact 112 (f := .int "MOST_PAIRS" 4) rfl)
  exact ⟨_, e, t, rfl⟩
theorem Txt.c_MOST_TESTS (T : Txt w K mg) : ∃ u, mg "MOST_TESTS" = some u ∧ RelV (.int 8) u := by
  obtain ⟨h, X, G, c⟩ := T.ex
  obtain ⟨t, e⟩ := He.int_ok X G (c.t.d.fact 113 (f := .int "MOST_TESTS" 8) rfl)
  exact ⟨_, e, t, rfl⟩
theorem Txt.c_TEST_NAMES (T : Txt w K mg) : ∃ u, mg "TEST_NAMES" = some u ∧ RelV (.int 3) u := by
  obtain ⟨h, X, G, c⟩ := T.ex
  obtain ⟨t, e⟩ := He.int_ok X G (c.t.d.fact 114 (f := .int "TEST_NAMES" 3) rfl)
  exact ⟨_, e, t, rfl⟩
theorem Txt.c_TEST_VALUES (T : Txt w K mg) : ∃ u, mg "TEST_VALUES" = some u ∧ RelV (.int 3) u := by
  obtain ⟨h, X, G, c⟩ := T.ex
  obtain ⟨t, e⟩ := He.int_ok X G (c.t.d.fact 115 (f := .int "TEST_VALUES" 3) rfl)
  exact ⟨_, e, t, rfl⟩
theorem Txt.c_MOST_DEEP (T : Txt w K mg) : ∃ u, mg "MOST_DEEP" = some u ∧ RelV (.int 3) u := by
  obtain ⟨h, X, G, c⟩ := T.ex
  obtain ⟨t, e⟩ := He.int_ok X G (c.t.d.fact 116 (f := .int "MOST_DEEP" 3) rfl)
  exact ⟨_, e, t, rfl⟩
theorem Txt.c_PARTS_AT_MOST (T : Txt w K mg) : ∃ u, mg "PARTS_AT_MOST" = some u ∧ RelV (.int 6) u := by
  obtain ⟨h, X, G, c⟩ := T.ex
  obtain ⟨t, e⟩ := He.int_ok X G (c.t.d.fact 117 (f := .int "PARTS_AT_MOST" 6) rfl)
  exact ⟨_, e, t, rfl⟩
theorem Txt.c_LETTERS (T : Txt w K mg) : ∃ u, mg "LETTERS" = some u ∧ RelV (.str "abcdefghijklmnopqrstuvwxyz") u := by
  obtain ⟨h, X, G, c⟩ := T.ex
  obtain ⟨t, e⟩ := He.str_ok X G (c.t.d.fact 118 (f := .str "LETTERS" "abcdefghijklmnopqrstuvwxyz") rfl)
  exact ⟨_, e, t, rfl⟩
theorem Txt.cls_Past (T : Txt w K mg) : Cls K (He.ga K "Past") := by
  obtain ⟨h, X, G, c⟩ := T.ex
  exact He.cls_ok (c.t.d.fact 119 (f := .cls "Past") rfl)
theorem Txt.mkr_Past (T : Txt w K mg) : Mk K (He.ga K "Past") (He.ma K (He.ga K "Past") "__init__") := by
  obtain ⟨h, X, G, c⟩ := T.ex
  exact He.mkr_ok (c.t.d.fact 120 (f := .mkr "Past") rfl)
theorem Txt.cls_Log (T : Txt w K mg) : Cls K (He.ga K "Log") := by
  obtain ⟨h, X, G, c⟩ := T.ex
  exact He.cls_ok (c.t.d.fact 121 (f := .cls "Log") rfl)
theorem Txt.mkr_Log (T : Txt w K mg) : Mk K (He.ga K "Log") (He.ma K (He.ga K "Log") "__init__") := by
  obtain ⟨h, X, G, c⟩ := T.ex
  exact He.mkr_ok (c.t.d.fact 122 (f := .mkr "Log") rfl)
theorem Txt.cls_Picture (T : Txt w K mg) : Cls K (He.ga K "Picture") := by
  obtain ⟨h, X, G, c⟩ := T.ex
  exact He.cls_ok (c.t.d.fact 123 (f := .cls "Picture") rfl)
theorem Txt.mkr_Picture (T : Txt w K mg) : Mk K (He.ga K "Picture") (He.ma K (He.ga K "Picture") "__init__") := by
  obtain ⟨h, X, G, c⟩ := T.ex
  exact He.mkr_ok (c.t.d.fact 124 (f := .mkr "Picture") rfl)
theorem Txt.cls_Mixed (T : Txt w K mg) : Cls K (He.ga K "Mixed") := by
  obtain ⟨h, X, G, c⟩ := T.ex
  exact He.cls_ok (c.t.d.fact 125 (f := .cls "Mixed") rfl)
theorem Txt.mkr_Mixed (T : Txt w K mg) : Mk K (He.ga K "Mixed") (He.ma K (He.ga K "Mixed") "__init__") := by
  obtain ⟨h, X, G, c⟩ := T.ex
  exact He.mkr_ok (c.t.d.fact 126 (f := .mkr "Mixed") rfl)
theorem Txt.cls_Run (T : Txt w K mg) : Cls K (He.ga K "Run") := by
  obtain ⟨h, X, G, c⟩ := T.ex
  exact He.cls_ok (c.t.d.fact 127 (f := .cls "Run") rfl)
theorem Txt.mkr_Run (T : Txt w K mg) : Mk K (He.ga K "Run") (He.ma K (He.ga K "Run") "__init__") := by
  obtain ⟨h, X, G, c⟩ := T.ex
  exact He.mkr_ok (c.t.d.fact 128 (f := .mkr "Run") rfl)
theorem Txt.na_Past_by_moment (T : Txt w K mg) : NoAttr K (He.ga K "Past") "by_moment" := by
  obtain ⟨h, X, G, c⟩ := T.ex
  exact He.noat_ok (c.t.d.fact 129 (f := .noat "Past" "by_moment") rfl)
theorem Txt.na_Log_answer (T : Txt w K mg) : NoAttr K (He.ga K "Log") "answer" := by
  obtain ⟨h, X, G, c⟩ := T.ex
  exact He.noat_ok (c.t.d.fact 130 (f := .noat "Log" "answer") rfl)
theorem Txt.na_Log_rows (T : Txt w K mg) : NoAttr K (He.ga K "Log") "rows" := by
  obtain ⟨h, X, G, c⟩ := T.ex
  exact He.noat_ok (c.t.d.fact 131 (f := .noat "Log" "rows") rfl)
theorem Txt.na_Picture_cuts (T : Txt w K mg) : NoAttr K (He.ga K "Picture") "cuts" := by
  obtain ⟨h, X, G, c⟩ := T.ex
  exact He.noat_ok (c.t.d.fact 132 (f := .noat "Picture" "cuts") rfl)
theorem Txt.na_Picture_has_row (T : Txt w K mg) : NoAttr K (He.ga K "Picture") "has_row" := by
  obtain ⟨h, X, G, c⟩ := T.ex
  exact He.noat_ok (c.t.d.fact 133 (f := .noat "Picture" "has_row") rfl)
theorem Txt.na_Picture_cells (T : Txt w K mg) : NoAttr K (He.ga K "Picture") "cells" := by
  obtain ⟨h, X, G, c⟩ := T.ex
  exact He.noat_ok (c.t.d.fact 134 (f := .noat "Picture" "cells") rfl)
theorem Txt.na_Mixed_told (T : Txt w K mg) : NoAttr K (He.ga K "Mixed") "told" := by
  obtain ⟨h, X, G, c⟩ := T.ex
  exact He.noat_ok (c.t.d.fact 135 (f := .noat "Mixed" "told") rfl)
theorem Txt.na_Mixed_later (T : Txt w K mg) : NoAttr K (He.ga K "Mixed") "later" := by
  obtain ⟨h, X, G, c⟩ := T.ex
  exact He.noat_ok (c.t.d.fact 136 (f := .noat "Mixed" "later") rfl)
theorem Txt.na_Mixed_so_far (T : Txt w K mg) : NoAttr K (He.ga K "Mixed") "so_far" := by
  obtain ⟨h, X, G, c⟩ := T.ex
  exact He.noat_ok (c.t.d.fact 137 (f := .noat "Mixed" "so_far") rfl)
theorem Txt.na_Run_told (T : Txt w K mg) : NoAttr K (He.ga K "Run") "told" := by
  obtain ⟨h, X, G, c⟩ := T.ex
  exact He.noat_ok (c.t.d.fact 138 (f := .noat "Run" "told") rfl)
theorem Txt.na_Run_answer (T : Txt w K mg) : NoAttr K (He.ga K "Run") "answer" := by
  obtain ⟨h, X, G, c⟩ := T.ex
  exact He.noat_ok (c.t.d.fact 139 (f := .noat "Run" "answer") rfl)
theorem Txt.na_Run_outcome (T : Txt w K mg) : NoAttr K (He.ga K "Run") "outcome" := by
  obtain ⟨h, X, G, c⟩ := T.ex
  exact He.noat_ok (c.t.d.fact 140 (f := .noat "Run" "outcome") rfl)
theorem Txt.na_Run_answers (T : Txt w K mg) : NoAttr K (He.ga K "Run") "answers" := by
  obtain ⟨h, X, G, c⟩ := T.ex
  exact He.noat_ok (c.t.d.fact 141 (f := .noat "Run" "answers") rfl)
theorem Txt.m_Past_deeds (T : Txt w K mg) : Meth K (He.ga K "Past") "deeds" (He.ma K (He.ga K "Past") "deeds") := by
  obtain ⟨h, X, G, c⟩ := T.ex
  exact He.meth_ok (c.t.d.fact 142 (f := .meth "Past" "deeds") rfl)
theorem Txt.m_Past_eq (T : Txt w K mg) : Meth K (He.ga K "Past") "__eq__" (He.ma K (He.ga K "Past") "__eq__") := by
  obtain ⟨h, X, G, c⟩ := T.ex
  exact He.meth_ok (c.t.d.fact 143 (f := .meth "Past" "__eq__") rfl)
theorem Txt.m_Log_call (T : Txt w K mg) : Meth K (He.ga K "Log") "__call__" (He.ma K (He.ga K "Log") "__call__") := by
  obtain ⟨h, X, G, c⟩ := T.ex
  exact He.meth_ok (c.t.d.fact 144 (f := .meth "Log" "__call__") rfl)
theorem Txt.m_Picture_call (T : Txt w K mg) : Meth K (He.ga K "Picture") "__call__" (He.ma K (He.ga K "Picture") "__call__") := by
  obtain ⟨h, X, G, c⟩ := T.ex
  exact He.meth_ok (c.t.d.fact 145 (f := .meth "Picture" "__call__") rfl)
theorem Txt.m_Mixed_call (T : Txt w K mg) : Meth K (He.ga K "Mixed") "__call__" (He.ma K (He.ga K "Mixed") "__call__") := by
  obtain ⟨h, X, G, c⟩ := T.ex
  exact He.meth_ok (c.t.d.fact 146 (f := .meth "Mixed" "__call__") rfl)
theorem ba9 {a b c d e f g h i : Bool} (z : (a && b && c && d && e && f && g && h && i) = true) : a = true ∧ b = true ∧ c = true ∧ d = true ∧ e = true ∧ f = true ∧ g = true ∧ h = true ∧ i = true := by
  simpa only [Bool.and_eq_true, and_assoc] using z
theorem and2 {a b : Bool} (z : (a && b) = true) : a = true ∧ b = true := by simpa only [Bool.and_eq_true] using z
theorem ba10 {a b c d e f g h i j : Bool} (z : (a && b && c && d && e && f && g && h && i && j) = true) : a = true ∧ b = true ∧ c = true ∧ d = true ∧ e = true ∧ f = true ∧ g = true ∧ h = true ∧ i = true ∧ j = true := by
  simpa only [Bool.and_eq_true, and_assoc] using z
theorem Txt.turned (T : Txt w K mg) {x y : Str} (h : (x, He.Dv.str y) ∈ [(("yes" : Str), He.Dv.str "no"), ("no", .str "yes"), ("fault", .str "fault")]) : KDct K w (He.ga K "TURNED") x (.str y) := by
  obtain ⟨_, X, G, c⟩ := T.ex
  obtain ⟨es, n, D⟩ := c.t.tab 0 (t := (fun K => He.ga K "TURNED", ["yes", "no", "fault"])) rfl
  have m := ba10 c.more
  obtain ⟨u, e, r⟩ := He.valsB_ok m.1 h
  exact ⟨es, n, u, D.at_, D.lit, e, r⟩
theorem Txt.tests (T : Txt w K mg) (H : Hp) : SqT K H (He.ga K "TESTS") [.str "row", .str "has", .str "eq", .str "less"] := by
  obtain ⟨_, X, G, c⟩ := T.ex
  exact He.tupB_ok (ba10 c.more).2.1 H
theorem Txt.fi_Log (T : Txt w K mg) : PySem.W.fnIn K (He.ma K (He.ga K "Log") "__call__") = true := by
  obtain ⟨_, X, G, c⟩ := T.ex
  exact (ba10 c.more).2.2.1
theorem Txt.fi_Picture (T : Txt w K mg) : PySem.W.fnIn K (He.ma K (He.ga K "Picture") "__call__") = true := by
  obtain ⟨_, X, G, c⟩ := T.ex
  exact (ba10 c.more).2.2.2.1
theorem Txt.fi_Mixed (T : Txt w K mg) : PySem.W.fnIn K (He.ma K (He.ga K "Mixed") "__call__") = true := by
  obtain ⟨_, X, G, c⟩ := T.ex
  exact (ba10 c.more).2.2.2.2.1
theorem Txt.past (T : Txt w K mg) : PySem.W.findIn K (.ref (He.ga K "Past")) "__class__" = some (some (.builtin "object.__class__")) ∧ PySem.W.specialIn K (.builtin "object.__class__") "__get__" = some (some (.builtin "getset_descriptor.__get__")) ∧
    PySem.W.takesIn K (.builtin "object.__class__") = some true ∧ PySem.W.mroIn K (He.ga K "Past") (.type "object") = some true ∧ PySem.W.kitOne K (.ref (He.ga K "Past")) (.ref (He.ga K "Past")) = some true := by
  obtain ⟨_, X, G, c⟩ := T.ex
  have m := (ba10 c.more).2.2.2.2.2
  exact ⟨He.eqO_ok m.1, He.eqO_ok m.2.1, of_decide_eq_true m.2.2.1, of_decide_eq_true m.2.2.2.1, of_decide_eq_true (and2 m.2.2.2.2).1⟩
theorem Txt.pastN (T : Txt w K mg) : PySem.W.kitOne K (.type "NoneType") (.ref (He.ga K "Past")) = some false := by
  obtain ⟨_, X, G, c⟩ := T.ex
  have m := (ba10 c.more).2.2.2.2.2
  exact of_decide_eq_true (and2 m.2.2.2.2).2
end
/-! ### promises: no exception; by the number of arguments -/
abbrev Sq := List V → Hp → VK → Prop
abbrev Sq.sp (s : Sq) : Sp := fun vs H Q _ => s vs H Q
def sp1 (p : V → Hp → VK → Prop) : Sq := fun vs H Q => ∃ a, vs = [a] ∧ p a H Q
def sp2 (p : V → V → Hp → VK → Prop) : Sq := fun vs H Q => ∃ a b, vs = [a, b] ∧ p a b H Q
def sp3 (p : V → V → V → Hp → VK → Prop) : Sq := fun vs H Q => ∃ a b c, vs = [a, b, c] ∧ p a b c H Q
def sp4 (p : V → V → V → V → Hp → VK → Prop) : Sq := fun vs H Q => ∃ a b c d, vs = [a, b, c, d] ∧ p a b c d H Q
class LenOk (s : Sq) (n : outParam Nat) : Prop where
  h : ∀ vs H Q, s vs H Q → vs.length = n
instance {p} : LenOk (sp1 p) 1 := ⟨fun vs H Q ⟨_, e, _⟩ => by rw [e]; rfl⟩
instance {p} : LenOk (sp2 p) 2 := ⟨fun vs H Q ⟨_, _, e, _⟩ => by rw [e]; rfl⟩
instance {p} : LenOk (sp3 p) 3 := ⟨fun vs H Q ⟨_, _, _, e, _⟩ => by rw [e]; rfl⟩
instance {p} : LenOk (sp4 p) 4 := ⟨fun vs H Q ⟨_, _, _, _, e, _⟩ => by rw [e]; rfl⟩
instance {p : V → Hp → VK → Prop} {a : V} {H : Hp} {Q : VK} : Red (sp1 p [a] H Q) (p a H Q) := ⟨fun h => ⟨a, rfl, h⟩⟩
instance {p : V → V → Hp → VK → Prop} {a b : V} {H : Hp} {Q : VK} : Red (sp2 p [a, b] H Q) (p a b H Q) := ⟨fun h => ⟨a, b, rfl, h⟩⟩
instance {p : V → V → V → Hp → VK → Prop} {a b c : V} {H : Hp} {Q : VK} : Red (sp3 p [a, b, c] H Q) (p a b c H Q) := ⟨fun h => ⟨a, b, c, rfl, h⟩⟩
instance {p : V → V → V → V → Hp → VK → Prop} {a b c d : V} {H : Hp} {Q : VK} : Red (sp4 p [a, b, c, d] H Q) (p a b c d H Q) := ⟨fun h => ⟨a, b, c, d, rfl, h⟩⟩
section
variable {P : Program} {w : World} {K : PySem.W.Frag} {mg : Str → Option Value} {base : Heap}
/-- a def of the module that may be called by its name -/
structure Cal (P : Program) (w : World) (K : PySem.W.Frag) (mg : Str → Option Value) (base : Heap) (k : Nat) (x : Str) (s : Sq) : Prop where
  ex : ∃ (f : Addr) (fd : FuncData) (ps : List Str), FnOk P w K mg base CX0 k f fd ps s.sp ∧ mg x = some (.ref f) ∧ PySem.W.keepIn K (.ref f) = true ∧ Binds K fd ps []
theorem Cal.mono {j k : Nat} {x : Str} {s : Sq} (c : Cal P w K mg base j x s) (h : j ≤ k) : Cal P w K mg base k x s := by
  obtain ⟨f, fd, ps, F, a, b, d⟩ := c.ex
  exact ⟨f, fd, ps, F.mono h, a, b, d⟩
/-- a class that may be made by its name; s: its __init__ -/
structure Mak (P : Program) (w : World) (K : PySem.W.Frag) (mg : Str → Option Value) (base : Heap) (k : Nat) (x : Str) (C : Addr) (s : Sq) : Prop where
  ex : ∃ (f : Addr) (fd : FuncData) (ps : List Str), Mk K C f ∧ FnOk P w K mg base CX0 k f fd ps s.sp ∧ mg x = some (.ref C) ∧ Binds K fd ps []
/-- a method of the class at C -/
structure Met (P : Program) (w : World) (K : PySem.W.Frag) (mg : Str → Option Value) (base : Heap) (k : Nat) (C : Addr) (m : Str) (s : Sq) : Prop where
  ex : ∃ (f : Addr) (fd : FuncData) (ps : List Str), Cls K C ∧ Meth K C m f ∧ FnOk P w K mg base CX0 k f fd ps s.sp ∧ Binds K fd ps []
theorem fn_mk {x qual : Str} {st : Stmt} {f : Addr} {fd : FuncData} {N ps : List Str} {dvs : List V} {k : Nat} {s : Sq} (F : FunD K x qual (defArgs st) (defBody st) (defScope st) dvs [] f fd) (S : FnScope N ps (defScope st)) {n : Nat} [len : LenOk s n]
    (hbody : ∀ (cdv : Value) (A : Around) (outer : List Env) (s0 : Shared) (H : Hp) (vs : List V) (Q : VK) (E : XK), Room k (A.deeper (envOfC qual (defScope st) s0.heap.objs.size f cdv)) → s vs H Q →
      ∃ t, PSs (cxOf CX0 P w K mg base N qual (defScope st) f cdv A outer s0 H E).nox (defBody st) t ∧ t { nx := fun _ H' => Q .non H', rt := Q } (start N vs) H) (hn : n = ps.length := by rfl) : FnOk P w K mg base CX0 (k + 1) f fd ps s.sp :=
  F.ok S (fun vs H Q _ h => (len.h vs H Q h).trans hn) fun cdv A outer s0 H vs Q E hr h => by
    obtain ⟨t, h1, h2⟩ := hbody cdv A outer s0 H vs Q E hr h
    exact ⟨t, h1.nox, h2⟩
theorem cal_mk {x : Str} {st : Stmt} {f : Addr} {fd : FuncData} {N ps : List Str} {k : Nat} {s : Sq} (F : FunD K x x (defArgs st) (defBody st) (defScope st) [] [] f fd) (g : mg x = some (.ref f)) (S : FnScope N ps (defScope st))
    (b : ∀ (kV doc pm : Value) (an : Option Addr) (cdv ct : Value) (us : List Value), us.length = ps.length → bindArgs (PySem.W.fnOf x x (defArgs st) (defBody st) (defScope st) .none kV doc pm an cdv ct) ⟨us, []⟩ = pure (ps.zip us)) {n : Nat} [len : LenOk s n]
    (hbody : ∀ (cdv : Value) (A : Around) (outer : List Env) (s0 : Shared) (H : Hp) (vs : List V) (Q : VK) (E : XK), Room k (A.deeper (envOfC x (defScope st) s0.heap.objs.size f cdv)) → s vs H Q →
      ∃ t, PSs (cxOf CX0 P w K mg base N x (defScope st) f cdv A outer s0 H E).nox (defBody st) t ∧ t { nx := fun _ H' => Q .non H', rt := Q } (start N vs) H) (hn : n = ps.length := by rfl) : Cal P w K mg base (k + 1) x s :=
  ⟨f, fd, ps, fn_mk F S hbody hn, g, F.kp, F.bindsN b⟩
end
/-! ### calls -/
def tCl (s : Sq) (t : TA) : TE := fun σ H Q => t σ H fun vs H1 => s vs H1 Q
def kMk (C : Addr) (s : Sq) (vs : List V) (H : Hp) (Q : VK) : Prop := ∀ x dx, New H x → New H dx → dx ≠ x → s (.ref x :: vs) (upd (upd H dx (.own x)) x (.ins C dx [])) (fun v H2 => v = .non ∧ Q (.ref x) H2)
def tMk (C : Addr) (s : Sq) (t : TA) : TE := fun σ H Q => t σ H fun vs H1 => kMk C s vs H1 Q
def kMt (C : Addr) (m : Str) (s : Sq) (x : V) (H : Hp) (Q : VK) : Prop := ∃ a dx fs, x = .ref a ∧ H a = some (.ins C dx fs) ∧ fs.lookup m = none ∧ s [x] H Q
def tMt (C : Addr) (m : Str) (s : Sq) (ta : TE) : TE := fun σ H Q => ta σ H fun x H1 => kMt C m s x H1 Q
section
variable {X : Cx} {k j : Nat} {C : Addr} {x m : Str} {s : Sq} {p pos apos : Pos} {e o : Expr} {es : List Expr} {ta : TE} {t : TA} {σ : L2.St} {H : Hp} {Q : VK}
theorem pe_never {e : Expr} : PE X e (fun _ _ _ => False) := ⟨fun _ _ _ _ _ _ h => h.elim⟩
theorem pe_or2 {e : Expr} {t u : TE} (h : PE X e t) (h' : PE X e u) : PE X e (fun σ H Q => t σ H Q ∨ u σ H Q) := ⟨fun pins s σ H Q I z => z.elim (h.run pins s σ H Q I) (h'.run pins s σ H Q I)⟩
theorem pe_as {e : Expr} {t u : TE} (h : PE X e t) (i : ∀ σ H Q, u σ H Q → t σ H Q) : PE X e u := ⟨fun pins s σ H Q I z => h.run pins s σ H Q I (i σ H Q z)⟩
theorem pe_cl (c : Cal X.prog X.w X.K X.mg X.base k x s) (hr : Room j X.A) (hk : k ≤ j) (hg : Gl X x) (ha : PA X (e :: es) t)
    (hdb : (x == ("__debug__" : Str)) = false := by decide) (he : starEach (e :: es) X.env = (false, eval e X.env) :: starEach es X.env := by rfl) (hpl : (backTo pos (starEach es X.env)).any (·.1) = false := by rfl) :
    PE X (.Call (.Name x p) (e :: es) [] pos) (tCl s t) := by
  obtain ⟨f, fd, ps, F, hm, kp, b⟩ := c.ex
  refine pe_as (pe_call F (hr.mono hk) hg hm kp b .nil pass0 ha hdb he hpl) fun σ H Q z => ?_
  have eq : (fun (vs : List V) (H1 : Hp) => s.sp (vs ++ []) H1 Q E0) = fun vs H1 => s vs H1 Q := by
    funext vs H1
    show s (vs ++ []) H1 Q = s vs H1 Q
    rw [List.append_nil]
  show t σ H fun vs H1 => s.sp (vs ++ []) H1 Q E0
  rw [eq]
  exact z
theorem pe_cl0 (c : Cal X.prog X.w X.K X.mg X.base k x s) (hr : Room j X.A) (hk : k ≤ j) (hg : Gl X x) (hdb : (x == ("__debug__" : Str)) = false := by decide) : PE X (.Call (.Name x p) [] [] pos) (tCl s tNil) := by
  obtain ⟨f, fd, ps, F, hm, kp, b⟩ := c.ex
  exact pe_call0 F (hr.mono hk) hg hm kp b .nil pass0 hdb
theorem pe_mkc (c : Mak X.prog X.w X.K X.mg X.base k x C s) (hr : Room j X.A) (hk : k + 1 ≤ j) (hg : Gl X x) (ha : PA X (e :: es) t)
    (hdb : (x == ("__debug__" : Str)) = false := by decide) (he : starEach (e :: es) X.env = (false, eval e X.env) :: starEach es X.env := by rfl) (hpl : (backTo pos (starEach es X.env)).any (·.1) = false := by rfl) :
    PE X (.Call (.Name x p) (e :: es) [] pos) (tMk C s t) := by
  obtain ⟨f, fd, ps, M, F, hm, b⟩ := c.ex
  refine pe_as (pe_make M F (hr.mono hk) hg hm b .nil pass0 ha hdb he hpl) fun σ H Q z => ?_
  have eq : (fun (vs : List V) (H1 : Hp) => ∀ x dx, H1 x = none → H1 dx = none → dx ≠ x → s.sp (.ref x :: (vs ++ [])) (upd (upd H1 dx (.own x)) x (.ins C dx [])) (fun v H2 => v = .non ∧ Q (.ref x) H2) E0) = fun vs H1 => kMk C s vs H1 Q := by
    funext vs H1
    refine propext ⟨fun z x dx a b c => ?_, fun z x dx a b c => ?_⟩
    · have q := z x dx a.h b.h c
      rw [List.append_nil] at q
      exact q
    · rw [List.append_nil]
      exact z x dx ⟨a⟩ ⟨b⟩ c
  show t σ H fun vs H1 => ∀ x dx, H1 x = none → H1 dx = none → dx ≠ x → s.sp (.ref x :: (vs ++ [])) (upd (upd H1 dx (.own x)) x (.ins C dx [])) (fun v H2 => v = .non ∧ Q (.ref x) H2) E0
  rw [eq]
  exact z
theorem pe_mtc {pl : Sem Bool} (c : Met X.prog X.w X.K X.mg X.base k C m s) (hr : Room j X.A) (hk : k ≤ j) (he : PE X o ta)
    (ht : eval (.Call (.Attribute o m apos) [] [] pos) X.env = (do
      let ov ← eval o X.env
      standAt apos.atName
      let (f, first) ← holding [ov] (getMethod ov m pl)
      callWith pos f first (backTo pos (starEach [] X.env)) (backToKw pos (keywordEach [] X.env))) := by rfl) : PE X (.Call (.Attribute o m apos) [] [] pos) (tMt C m s ta) := by
  obtain ⟨f, fd, ps, hc, hm, F, b⟩ := c.ex
  exact pe_as (pe_meth0 (pl := pl) he hc hm F (hr.mono hk) b .nil pass0 ht) fun σ H Q z => z
theorem pe_gv {v : V} (hg : Gl X x) (h : ∃ u, X.mg x = some u ∧ RelV v u) (hd : (x == ("__debug__" : Str)) = false := by decide) : PE X (.Name x pos) (tC v) := by
  obtain ⟨u, hm, r⟩ := h
  exact pe_glob hg hm r hd
theorem pe_ty {n : String} (hg : Gl X x) (hm : X.mg x = none) (hv : bootBuiltins x = some (.type n)) (hn : x ≠ "__name__" := by decide) (hd : (x == ("__debug__" : Str)) = false := by decide) : PE X (.Name x pos) (tC (.ty n)) := pe_bltn (v := .ty n) hg hm hv rfl hn hd
instance : Red (tCl s t σ H Q) (t σ H fun vs H1 => s vs H1 Q) := ⟨id⟩
instance : Red (tMk C s t σ H Q) (t σ H fun vs H1 => kMk C s vs H1 Q) := ⟨id⟩
instance : Red (tMt C m s ta σ H Q) (ta σ H fun x H1 => kMt C m s x H1 Q) := ⟨id⟩
end
instance {r r' : R2} {ta tb tc : TE} {σ : L2.St} {H : Hp} {Q : VK} : Red (tChain r r' ta tb tc σ H Q) (ta σ H fun x H1 => tb σ H1 fun y H2 => r x y H2 fun z H3 => kBool z H3 fun k H3 => if k = true then tc σ H3 fun w' H4 => r' y w' H4 Q else Q (.bl false) H3) := ⟨fun h => h⟩
/-! ### built-ins: isinstance, len, items, in -/
section
variable {X : Cx} {K : PySem.W.Frag} {H : Hp} {Q : VK} {x y v : V} {A B : Prop}
def rLenA (K : PySem.W.Frag) : List V → Hp → VK → Prop := fun xs H Q => (∃ p ys, xs = [.ref p] ∧ (SqL K H p ys ∨ SqT K H p ys) ∧ Q (.int ys.length) H) ∨ (∃ z, xs = [.str z] ∧ z.length ≤ sizeLine ∧ Q (.int z.length) H) ∨ ∃ a kvs, xs = [V.ref a] ∧ H a = some (.dK kvs) ∧ Q (.int kvs.length) H
theorem call_lenA : CallR X (.builtin "len") (rLenA X.K) := CallR.or call_len_seq (CallR.or call_len_str call_lenD)
def tCBn (r : List V → Hp → VK → Prop) (t : TA) : TE := tCB r t
instance {r : List V → Hp → VK → Prop} {t : TA} {σ : L2.St} : Red (tCB r t σ H Q) (t σ H fun vs H1 => r vs H1 Q) := ⟨id⟩
instance {a : Addr} {xs : List V} [s : Seq K H a xs] : Red (rLenA K [.ref a] H Q) (Q (.int (xs.length : Nat)) H) := ⟨fun h => .inl ⟨a, xs, rfl, s.h, h⟩⟩
instance {a : Addr} {kvs : List (Key × V)} [s : At H a (.dK kvs)] : Red (rLenA K [.ref a] H Q) (Q (.int (kvs.length : Nat)) H) := ⟨fun h => .inr (.inr ⟨a, kvs, rfl, s.h, h⟩)⟩
class ShortS (z : Str) : Prop where
  h : z.length ≤ sizeLine
instance {z : Str} [s : ShortS z] : Red (rLenA K [.str z] H Q) (Q (.int (z.length : Nat)) H) := ⟨fun h => .inr (.inl ⟨z, rfl, s.h, h⟩)⟩
/-- isinstance(x, n) -/
class Isi (K : PySem.W.Frag) (H : Hp) (x : V) (n : String) (b : outParam Bool) : Prop where
  h : ∃ t, TyX K H x t ∧ PySem.W.kitOne K t (.type n) = some b
instance {n : String} {b : Bool} [i : Isi K H x n b] : Red (rIsi K [x, .ty n] H Q) (Q (.bl b) H) := ⟨fun h => by
  obtain ⟨t, a, e⟩ := i.h
  exact ⟨x, .ty n, t, _, b, rfl, .ty n, a, e, h⟩⟩
instance {i : Int} : Isi K H (.int i) "int" true := ⟨_, .base (.int i), kit_ty (by decide +kernel)⟩
instance {i : Int} : Isi K H (.int i) "bool" false := ⟨_, .base (.int i), kit_ty (by decide +kernel)⟩
instance {i : Bool} : Isi K H (.bl i) "bool" true := ⟨_, .base (.bl i), kit_ty (by decide +kernel)⟩
instance {i : Str} : Isi K H (.str i) "str" true := ⟨_, .base (.str i), kit_ty (by decide +kernel)⟩
instance {a : Addr} {xs : List V} [h : At H a (.tup xs)] : Isi K H (.ref a) "tuple" true := ⟨_, .base (.tup h.h), kit_ty (by decide +kernel)⟩
/-- an item by its place -/
theorem ix_any : IxR X (rIx X.K) := ix_seq
instance {a : Addr} {xs : List V} {i : Int} [s : Seq K H a xs] [n : Nth xs i v] : Red (rIx K (.ref a) (.int i) H Q) (Q v H) := ⟨fun h => s.h.elim (fun z => .inl ⟨a, xs, i, v, rfl, rfl, z, n.h, h⟩) fun z => .inr (.inl ⟨a, xs, i, v, rfl, rfl, z, n.h, h⟩)⟩
/-- texts that are alike or not -/
class DecS (s t : Str) (b : outParam Bool) : Prop where
  h : decide (s = t) = b
theorem decV_str {s t : Str} : decide (V.str s = V.str t) = decide (s = t) := by
  by_cases e : s = t
  · subst e; simp
  · rw [decide_eq_false e, decide_eq_false fun z => e (by injection z)]
theorem decV_int {s t : Int} : decide (V.int s = V.int t) = decide (s = t) := by
  by_cases e : s = t
  · subst e; simp
  · rw [decide_eq_false e, decide_eq_false fun z => e (by injection z)]
instance {s t : Str} {b : Bool} [d : DecS s t b] : Red (rEq (.str s) (.str t) H Q) (Q (.bl b) H) := ⟨fun h => ⟨rfl, by rw [decV_str, d.h]; exact h⟩⟩
instance {s t : Str} {b : Bool} [d : DecS s t b] : Red (rNe (.str s) (.str t) H Q) (Q (.bl (!b)) H) := ⟨fun h => ⟨rfl, by rw [decV_str, d.h]; exact h⟩⟩
instance {s t : Int} : Red (rEq (.int s) (.int t) H Q) (Q (.bl (decide (s = t))) H) := ⟨fun h => ⟨rfl, by rw [decV_int]; exact h⟩⟩
instance {s t : Int} : Red (rNe (.int s) (.int t) H Q) (Q (.bl (!decide (s = t))) H) := ⟨fun h => ⟨rfl, by rw [decV_int]; exact h⟩⟩
/-- is a text among texts -/
class InS (s : Str) (xs : List V) (b : outParam Bool) : Prop where
  h : inV (.str s) xs = b
  f : xs.all flatV = true
instance {s : Str} : InS s [] false := ⟨rfl, rfl⟩
instance {s t : Str} {xs : List V} {b c : Bool} [d : DecS t s b] [i : InS s xs c] : InS s (.str t :: xs) (b || c) := ⟨by
  have e : inV (.str s) (.str t :: xs) = (eqV (.str t) (.str s) || inV (.str s) xs) := rfl
  have e2 : eqV (.str t) (.str s) = decide (t = s) := by
    show (t == s) = decide (t = s)
    exact Bool.beq_eq_decide_eq t s
  rw [e, e2, d.h, i.h], by
  show (true && xs.all flatV) = true
  rw [i.f]
  all_goals rfl⟩
instance {s : Str} {a : Addr} {xs : List V} {b : Bool} [q : Seq K H a xs] [i : InS s xs b] : Red (rIn K false (.str s) (.ref a) H Q) (Q (.bl b) H) := ⟨fun h => ⟨a, xs, rfl, q.h, rfl, i.f, by
  show Q (.bl (inV (.str s) xs)) H
  rw [i.h]; exact h⟩⟩
instance {s : Str} {a : Addr} {xs : List V} {b : Bool} [q : Seq K H a xs] [i : InS s xs b] : Red (rIn K true (.str s) (.ref a) H Q) (Q (.bl (!b)) H) := ⟨fun h => ⟨a, xs, rfl, q.h, rfl, i.f, by
  show Q (.bl (!inV (.str s) xs)) H
  rw [i.h]; exact h⟩⟩
instance red_orF {B : Bool} {A C : Prop} : Red (if (false || B) = true then A else C) (if B = true then A else C) := ⟨id⟩
instance red_orT {B : Bool} {A C : Prop} : Red (if (true || B) = true then A else C) A := ⟨iteT⟩
end

/-! the same rules, the written part named ahead (within a comprehension's block) -/
section
variable {X : Cx} {K : PySem.W.Frag}
theorem ix_anyK (h : X.K = K) : IxR X (rIx K) := h ▸ ix_seq
theorem op_inK (h : X.K = K) : OpR X (compareOp .In) (rIn K false) := h ▸ op_in_seq
theorem op_notInK (h : X.K = K) : OpR X (compareOp .NotIn) (rIn K true) := h ▸ op_notIn_seq
theorem call_lenK (h : X.K = K) : CallR X (.builtin "len") (rLenA K) := h ▸ call_lenA
theorem call_isiK2 (h : X.K = K) : CallR X (.builtin "isinstance") (rIsi K) := h ▸ call_isi
theorem pe_fldK {e : Expr} {f : Str} {ta : TE} {pos : Pos} (h : X.K = K) (he : PE X e ta) (hb : attributeBase e f X.env (eval e X.env) = eval e X.env := by rfl) : PE X (.Attribute e f pos) (tFld K ta f) := h ▸ pe_fld he hb
theorem pg_tupK {pos : Pos} {es : List Expr} {k : Nat} {t : TGs} {n : Nat} (hK : X.K = K) (hc : X.calm = true) (h : PGs X es t)
    (hn : (assignEach es X.env).length = n := by rfl) (hst : (assignEach es X.env).findIdx? (·.1) = none := by rfl) : L2.PG X (.Tuple es k pos) (gTup K n t) := hK ▸ pg_tup hc h hn hst
def kTup (K : PySem.W.Frag) (n : Nat) (t : TGs) (v : V) (σ : L2.St) (H : Hp) (QS : L2.St → Hp → Prop) : Prop := ∃ a xs, v = .ref a ∧ SqT K H a xs ∧ xs.length = n ∧ t xs σ H QS
class Len (xs : List V) (n : Nat) : Prop where
  h : xs.length = n
instance {a b : V} : Len [a, b] 2 := ⟨rfl⟩
instance {a b c : V} : Len [a, b, c] 3 := ⟨rfl⟩
instance {a b c d : V} : Len [a, b, c, d] 4 := ⟨rfl⟩
instance {t : TGs} {n : Nat} {v : V} {σ : L2.St} {H : Hp} {QS : L2.St → Hp → Prop} : Red (gTup K n t v σ H QS) (kTup K n t v σ H QS) := ⟨id⟩
instance {t : TGs} {n : Nat} {a : Addr} {xs : List V} {σ : L2.St} {H : Hp} {QS : L2.St → Hp → Prop} [s : TupA K H a xs] [l : Len xs n] : Red (kTup K n t (.ref a) σ H QS) (t xs σ H QS) := ⟨fun h => ⟨a, xs, rfl, s.h, l.h, h⟩⟩
instance {g : TG} {t : TGs} {v : V} {vs : List V} {σ : L2.St} {H : Hp} {QS : L2.St → Hp → Prop} : Red (gCons g t (v :: vs) σ H QS) (g v σ H fun σ1 H1 => t vs σ1 H1 QS) := ⟨fun h => ⟨v, vs, rfl, h⟩⟩
instance {σ : L2.St} {H : Hp} {QS : L2.St → Hp → Prop} : Red (gNil [] σ H QS) (QS σ H) := ⟨fun h => ⟨rfl, h⟩⟩
end

section
variable {w : World} {K : PySem.W.Frag} {mg : Str → Option Value} {base : Heap} {k : Nat} {N : List Str} {sp : Sp}
theorem Txt.d_is_whole (T : Txt w K mg) : ∃ fd, FunD K "is_whole" "is_whole" (defArgs S_is_whole) (defBody S_is_whole) (defScope S_is_whole) [] [] (He.fAd K ("is_whole", none)) fd := by
  obtain ⟨h, X, G, c⟩ := T.ex
  exact c.t.d.def_ 0 (d := ⟨("is_whole", none), "is_whole", "is_whole", defArgs S_is_whole, defBody S_is_whole, defScope S_is_whole, [], []⟩) rfl
theorem sc_is_whole : FnScope ["value"] ["value"] (defScope S_is_whole) := ⟨rfl, rfl, rfl, by decide +kernel, rfl, by decide +kernel, by decide +kernel⟩
theorem Txt.d_is_number (T : Txt w K mg) : ∃ fd, FunD K "is_number" "is_number" (defArgs S_is_number) (defBody S_is_number) (defScope S_is_number) [] [] (He.fAd K ("is_number", none)) fd := by
  obtain ⟨h, X, G, c⟩ := T.ex
  exact c.t.d.def_ 1 (d := ⟨("is_number", none), "is_number", "is_number", defArgs S_is_number, defBody S_is_number, defScope S_is_number, [], []⟩) rfl
theorem sc_is_number : FnScope ["value", "low", "high"] ["value", "low", "high"] (defScope S_is_number) := ⟨rfl, rfl, rfl, by decide +kernel, rfl, by decide +kernel, by decide +kernel⟩
theorem Txt.d_is_line (T : Txt w K mg) : ∃ fd, FunD K "is_line" "is_line" (defArgs S_is_line) (defBody S_is_line) (defScope S_is_line) [] [] (He.fAd K ("is_line", none)) fd := by
  obtain ⟨h, X, G, c⟩ := T.ex
  exact c.t.d.def_ 2 (d := ⟨("is_line", none), "is_line", "is_line", defArgs S_is_line, defBody S_is_line, defScope S_is_line, [], []⟩) rfl
theorem sc_is_line : FnScope ["value"] ["value"] (defScope S_is_line) := ⟨rfl, rfl, rfl, by decide +kernel, rfl, by decide +kernel, by decide +kernel⟩
theorem Txt.d_is_moment (T : Txt w K mg) : ∃ fd, FunD K "is_moment" "is_moment" (defArgs S_is_moment) (defBody S_is_moment) (defScope S_is_moment) [] [] (He.fAd K ("is_moment", none)) fd := by
  obtain ⟨h, X, G, c⟩ := T.ex
  exact c.t.d.def_ 3 (d := ⟨("is_moment", none), "is_moment", "is_moment", defArgs S_is_moment, defBody S_is_moment, defScope S_is_moment, [], []⟩) rfl
theorem sc_is_moment : FnScope ["value"] ["value"] (defScope S_is_moment) := ⟨rfl, rfl, rfl, by decide +kernel, rfl, by decide +kernel, by decide +kernel⟩
theorem Txt.d_is_time (T : Txt w K mg) : ∃ fd, FunD K "is_time" "is_time" (defArgs S_is_time) (defBody S_is_time) (defScope S_is_time) [] [] (He.fAd K ("is_time", none)) fd := by
  obtain ⟨h, X, G, c⟩ := T.ex
  exact c.t.d.def_ 4 (d := ⟨("is_time", none), "is_time", "is_time", defArgs S_is_time, defBody S_is_time, defScope S_is_time, [], []⟩) rfl
theorem sc_is_time : FnScope ["value"] ["value"] (defScope S_is_time) := ⟨rfl, rfl, rfl, by decide +kernel, rfl, by decide +kernel, by decide +kernel⟩
theorem Txt.d_is_key (T : Txt w K mg) : ∃ fd, FunD K "is_key" "is_key" (defArgs S_is_key) (defBody S_is_key) (defScope S_is_key) [] [] (He.fAd K ("is_key", none)) fd := by
  obtain ⟨h, X, G, c⟩ := T.ex
  exact c.t.d.def_ 5 (d := ⟨("is_key", none), "is_key", "is_key", defArgs S_is_key, defBody S_is_key, defScope S_is_key, [], []⟩) rfl
theorem sc_is_key : FnScope ["value"] ["value"] (defScope S_is_key) := ⟨rfl, rfl, rfl, by decide +kernel, rfl, by decide +kernel, by decide +kernel⟩
theorem Txt.d_is_cell (T : Txt w K mg) : ∃ fd, FunD K "is_cell" "is_cell" (defArgs S_is_cell) (defBody S_is_cell) (defScope S_is_cell) [] [] (He.fAd K ("is_cell", none)) fd := by
  obtain ⟨h, X, G, c⟩ := T.ex
  exact c.t.d.def_ 6 (d := ⟨("is_cell", none), "is_cell", "is_cell", defArgs S_is_cell, defBody S_is_cell, defScope S_is_cell, [], []⟩) rfl
theorem sc_is_cell : FnScope ["value"] ["value"] (defScope S_is_cell) := ⟨rfl, rfl, rfl, by decide +kernel, rfl, by decide +kernel, by decide +kernel⟩
theorem Txt.d_are_unlike (T : Txt w K mg) : ∃ fd, FunD K "are_unlike" "are_unlike" (defArgs S_are_unlike) (defBody S_are_unlike) (defScope S_are_unlike) [] [] (He.fAd K ("are_unlike", none)) fd := by
  obtain ⟨h, X, G, c⟩ := T.ex
  exact c.t.d.def_ 7 (d := ⟨("are_unlike", none), "are_unlike", "are_unlike", defArgs S_are_unlike, defBody S_are_unlike, defScope S_are_unlike, [], []⟩) rfl
theorem sc_are_unlike : FnScope ["some", "one"] ["some"] (defScope S_are_unlike) := ⟨rfl, rfl, rfl, by decide +kernel, rfl, by decide +kernel, by decide +kernel⟩
theorem Txt.d_is_name (T : Txt w K mg) : ∃ fd, FunD K "is_name" "is_name" (defArgs S_is_name) (defBody S_is_name) (defScope S_is_name) [] [] (He.fAd K ("is_name", none)) fd := by
  obtain ⟨h, X, G, c⟩ := T.ex
  exact c.t.d.def_ 8 (d := ⟨("is_name", none), "is_name", "is_name", defArgs S_is_name, defBody S_is_name, defScope S_is_name, [], []⟩) rfl
theorem sc_is_name : FnScope ["value", "sign"] ["value"] (defScope S_is_name) := ⟨rfl, rfl, rfl, by decide +kernel, rfl, by decide +kernel, by decide +kernel⟩
theorem Txt.d_are_pairs (T : Txt w K mg) : ∃ fd, FunD K "are_pairs" "are_pairs" (defArgs S_are_pairs) (defBody S_are_pairs) (defScope S_are_pairs) [] [] (He.fAd K ("are_pairs", none)) fd := by
  obtain ⟨h, X, G, c⟩ := T.ex
  exact c.t.d.def_ 9 (d := ⟨("are_pairs", none), "are_pairs", "are_pairs", defArgs S_are_pairs, defBody S_are_pairs, defScope S_are_pairs, [], []⟩) rfl
theorem sc_are_pairs : FnScope ["value", "name", "worth", "pair"] ["value"] (defScope S_are_pairs) := ⟨rfl, rfl, rfl, by decide +kernel, rfl, by decide +kernel, by decide +kernel⟩
theorem Txt.d_has_word (T : Txt w K mg) : ∃ fd, FunD K "has_word" "has_word" (defArgs S_has_word) (defBody S_has_word) (defScope S_has_word) [] [] (He.fAd K ("has_word", none)) fd := by
  obtain ⟨h, X, G, c⟩ := T.ex
  exact c.t.d.def_ 10 (d := ⟨("has_word", none), "has_word", "has_word", defArgs S_has_word, defBody S_has_word, defScope S_has_word, [], []⟩) rfl
theorem sc_has_word : FnScope ["value", "word", "many"] ["value", "word", "many"] (defScope S_has_word) := ⟨rfl, rfl, rfl, by decide +kernel, rfl, by decide +kernel, by decide +kernel⟩
theorem Txt.d_is_row_deed (T : Txt w K mg) : ∃ fd, FunD K "is_row_deed" "is_row_deed" (defArgs S_is_row_deed) (defBody S_is_row_deed) (defScope S_is_row_deed) [] [] (He.fAd K ("is_row_deed", none)) fd := by
  obtain ⟨h, X, G, c⟩ := T.ex
  exact c.t.d.def_ 11 (d := ⟨("is_row_deed", none), "is_row_deed", "is_row_deed", defArgs S_is_row_deed, defBody S_is_row_deed, defScope S_is_row_deed, [], []⟩) rfl
theorem sc_is_row_deed : FnScope ["value"] ["value"] (defScope S_is_row_deed) := ⟨rfl, rfl, rfl, by decide +kernel, rfl, by decide +kernel, by decide +kernel⟩
theorem Txt.d_is_column_deed (T : Txt w K mg) : ∃ fd, FunD K "is_column_deed" "is_column_deed" (defArgs S_is_column_deed) (defBody S_is_column_deed) (defScope S_is_column_deed) [] [] (He.fAd K ("is_column_deed", none)) fd := by
  obtain ⟨h, X, G, c⟩ := T.ex
  exact c.t.d.def_ 12 (d := ⟨("is_column_deed", none), "is_column_deed", "is_column_deed", defArgs S_is_column_deed, defBody S_is_column_deed, defScope S_is_column_deed, [], []⟩) rfl
theorem sc_is_column_deed : FnScope ["value"] ["value"] (defScope S_is_column_deed) := ⟨rfl, rfl, rfl, by decide +kernel, rfl, by decide +kernel, by decide +kernel⟩
theorem Txt.d_is_deed (T : Txt w K mg) : ∃ fd, FunD K "is_deed" "is_deed" (defArgs S_is_deed) (defBody S_is_deed) (defScope S_is_deed) [] [] (He.fAd K ("is_deed", none)) fd := by
  obtain ⟨h, X, G, c⟩ := T.ex
  exact c.t.d.def_ 13 (d := ⟨("is_deed", none), "is_deed", "is_deed", defArgs S_is_deed, defBody S_is_deed, defScope S_is_deed, [], []⟩) rfl
theorem sc_is_deed : FnScope ["value"] ["value"] (defScope S_is_deed) := ⟨rfl, rfl, rfl, by decide +kernel, rfl, by decide +kernel, by decide +kernel⟩
theorem Txt.d_by_names (T : Txt w K mg) : ∃ fd, FunD K "by_names" "by_names" (defArgs S_by_names) (defBody S_by_names) (defScope S_by_names) [] [] (He.fAd K ("by_names", none)) fd := by
  obtain ⟨h, X, G, c⟩ := T.ex
  exact c.t.d.def_ 14 (d := ⟨("by_names", none), "by_names", "by_names", defArgs S_by_names, defBody S_by_names, defScope S_by_names, [], []⟩) rfl
theorem sc_by_names : FnScope ["pairs", "known", "name", "word"] ["pairs"] (defScope S_by_names) := ⟨rfl, rfl, rfl, by decide +kernel, rfl, by decide +kernel, by decide +kernel⟩
theorem Txt.d_in_name_order (T : Txt w K mg) : ∃ fd, FunD K "in_name_order" "in_name_order" (defArgs S_in_name_order) (defBody S_in_name_order) (defScope S_in_name_order) [] [] (He.fAd K ("in_name_order", none)) fd := by
  obtain ⟨h, X, G, c⟩ := T.ex
  exact c.t.d.def_ 15 (d := ⟨("in_name_order", none), "in_name_order", "in_name_order", defArgs S_in_name_order, defBody S_in_name_order, defScope S_in_name_order, [], []⟩) rfl
theorem sc_in_name_order : FnScope ["deed"] ["deed"] (defScope S_in_name_order) := ⟨rfl, rfl, rfl, by decide +kernel, rfl, by decide +kernel, by decide +kernel⟩
theorem Txt.d_checked_deeds (T : Txt w K mg) : ∃ fd, FunD K "checked_deeds" "checked_deeds" (defArgs S_checked_deeds) (defBody S_checked_deeds) (defScope S_checked_deeds) [] [] (He.fAd K ("checked_deeds", none)) fd := by
  obtain ⟨h, X, G, c⟩ := T.ex
  exact c.t.d.def_ 16 (d := ⟨("checked_deeds", none), "checked_deeds", "checked_deeds", defArgs S_checked_deeds, defBody S_checked_deeds, defScope S_checked_deeds, [], []⟩) rfl
theorem sc_checked_deeds : FnScope ["deeds", "known", "index", "deed", "moment", "one"] ["deeds"] (defScope S_checked_deeds) := ⟨rfl, rfl, rfl, by decide +kernel, rfl, by decide +kernel, by decide +kernel⟩
theorem Txt.d_Past_init (T : Txt w K mg) : ∃ fd, FunD K "__init__" "Past.__init__" (defArgs S_Past_init) (defBody S_Past_init) (defScope S_Past_init) [V.ref (He.dflAt ("Past", some "__init__") 0 K)] [] (He.fAd K ("Past", some "__init__")) fd := by
  obtain ⟨h, X, G, c⟩ := T.ex
  exact c.t.d.def_ 17 (d := ⟨("Past", some "__init__"), "__init__", "Past.__init__", defArgs S_Past_init, defBody S_Past_init, defScope S_Past_init, [.adr (He.dflAt ("Past", some "__init__") 0)], []⟩) rfl
theorem sc_Past_init : FnScope ["self", "deeds"] ["self", "deeds"] (defScope S_Past_init) := ⟨rfl, rfl, rfl, by decide +kernel, rfl, by decide +kernel, by decide +kernel⟩
theorem Txt.d_Past_eq (T : Txt w K mg) : ∃ fd, FunD K "__eq__" "Past.__eq__" (defArgs S_Past_eq) (defBody S_Past_eq) (defScope S_Past_eq) [] [] (He.fAd K ("Past", some "__eq__")) fd := by
  obtain ⟨h, X, G, c⟩ := T.ex
  exact c.t.d.def_ 18 (d := ⟨("Past", some "__eq__"), "__eq__", "Past.__eq__", defArgs S_Past_eq, defBody S_Past_eq, defScope S_Past_eq, [], []⟩) rfl
theorem sc_Past_eq : FnScope ["self", "other"] ["self", "other"] (defScope S_Past_eq) := ⟨rfl, rfl, rfl, by decide +kernel, rfl, by decide +kernel, by decide +kernel⟩
theorem Txt.d_Past_deeds (T : Txt w K mg) : ∃ fd, FunD K "deeds" "Past.deeds" (defArgs S_Past_deeds) (defBody S_Past_deeds) (defScope S_Past_deeds) [] [] (He.fAd K ("Past", some "deeds")) fd := by
  obtain ⟨h, X, G, c⟩ := T.ex
  exact c.t.d.def_ 19 (d := ⟨("Past", some "deeds"), "deeds", "Past.deeds", defArgs S_Past_deeds, defBody S_Past_deeds, defScope S_Past_deeds, [], []⟩) rfl
theorem sc_Past_deeds : FnScope ["self", "moment"] ["self"] (defScope S_Past_deeds) := ⟨rfl, rfl, rfl, by decide +kernel, rfl, by decide +kernel, by decide +kernel⟩
theorem Txt.d_check_past (T : Txt w K mg) : ∃ fd, FunD K "check_past" "check_past" (defArgs S_check_past) (defBody S_check_past) (defScope S_check_past) [] [] (He.fAd K ("check_past", none)) fd := by
  obtain ⟨h, X, G, c⟩ := T.ex
  exact c.t.d.def_ 20 (d := ⟨("check_past", none), "check_past", "check_past", defArgs S_check_past, defBody S_check_past, defScope S_check_past, [], []⟩) rfl
theorem sc_check_past : FnScope ["past"] ["past"] (defScope S_check_past) := ⟨rfl, rfl, rfl, by decide +kernel, rfl, by decide +kernel, by decide +kernel⟩
theorem Txt.d_check_time (T : Txt w K mg) : ∃ fd, FunD K "check_time" "check_time" (defArgs S_check_time) (defBody S_check_time) (defScope S_check_time) [] [] (He.fAd K ("check_time", none)) fd := by
  obtain ⟨h, X, G, c⟩ := T.ex
  exact c.t.d.def_ 21 (d := ⟨("check_time", none), "check_time", "check_time", defArgs S_check_time, defBody S_check_time, defScope S_check_time, [], []⟩) rfl
theorem sc_check_time : FnScope ["t"] ["t"] (defScope S_check_time) := ⟨rfl, rfl, rfl, by decide +kernel, rfl, by decide +kernel, by decide +kernel⟩
theorem Txt.d_check_key (T : Txt w K mg) : ∃ fd, FunD K "check_key" "check_key" (defArgs S_check_key) (defBody S_check_key) (defScope S_check_key) [] [] (He.fAd K ("check_key", none)) fd := by
  obtain ⟨h, X, G, c⟩ := T.ex
  exact c.t.d.def_ 22 (d := ⟨("check_key", none), "check_key", "check_key", defArgs S_check_key, defBody S_check_key, defScope S_check_key, [], []⟩) rfl
theorem sc_check_key : FnScope ["key"] ["key"] (defScope S_check_key) := ⟨rfl, rfl, rfl, by decide +kernel, rfl, by decide +kernel, by decide +kernel⟩
theorem Txt.d_behind_alter (T : Txt w K mg) : ∃ fd, FunD K "behind_alter" "behind_alter" (defArgs S_behind_alter) (defBody S_behind_alter) (defScope S_behind_alter) [] [] (He.fAd K ("behind_alter", none)) fd := by
  obtain ⟨h, X, G, c⟩ := T.ex
  exact c.t.d.def_ 23 (d := ⟨("behind_alter", none), "behind_alter", "behind_alter", defArgs S_behind_alter, defBody S_behind_alter, defScope S_behind_alter, [], []⟩) rfl
theorem sc_behind_alter : FnScope ["columns", "rows", "deed", "names", "longer", "fewer", "calls", "other", "name", "fill", "key", "row"] ["columns", "rows", "deed"] (defScope S_behind_alter) := ⟨rfl, rfl, rfl, by decide +kernel, rfl, by decide +kernel, by decide +kernel⟩
theorem Txt.d_with_row (T : Txt w K mg) : ∃ fd, FunD K "with_row" "with_row" (defArgs S_with_row) (defBody S_with_row) (defScope S_with_row) [] [] (He.fAd K ("with_row", none)) fd := by
  obtain ⟨h, X, G, c⟩ := T.ex
  exact c.t.d.def_ 24 (d := ⟨("with_row", none), "with_row", "with_row", defArgs S_with_row, defBody S_with_row, defScope S_with_row, [], []⟩) rfl
theorem sc_with_row : FnScope ["rows", "key", "row", "found", "known", "told", "one"] ["rows", "key", "row"] (defScope S_with_row) := ⟨rfl, rfl, rfl, by decide +kernel, rfl, by decide +kernel, by decide +kernel⟩
theorem Txt.d_table_by (T : Txt w K mg) : ∃ fd, FunD K "table_by" "table_by" (defArgs S_table_by) (defBody S_table_by) (defScope S_table_by) [] [] (He.fAd K ("table_by", none)) fd := by
  obtain ⟨h, X, G, c⟩ := T.ex
  exact c.t.d.def_ 25 (d := ⟨("table_by", none), "table_by", "table_by", defArgs S_table_by, defBody S_table_by, defScope S_table_by, [], []⟩) rfl
theorem sc_table_by : FnScope ["deeds", "t", "columns", "rows", "deed", "pairs", "does", "name", "fill"] ["deeds", "t"] (defScope S_table_by) := ⟨rfl, rfl, rfl, by decide +kernel, rfl, by decide +kernel, by decide +kernel⟩
theorem Txt.d_columns_at (T : Txt w K mg) : ∃ fd, FunD K "columns_at" "columns_at" (defArgs S_columns_at) (defBody S_columns_at) (defScope S_columns_at) [] [] (He.fAd K ("columns_at", none)) fd := by
  obtain ⟨h, X, G, c⟩ := T.ex
  exact c.t.d.def_ 26 (d := ⟨("columns_at", none), "columns_at", "columns_at", defArgs S_columns_at, defBody S_columns_at, defScope S_columns_at, [], []⟩) rfl
theorem sc_columns_at : FnScope ["past", "t"] ["past", "t"] (defScope S_columns_at) := ⟨rfl, rfl, rfl, by decide +kernel, rfl, by decide +kernel, by decide +kernel⟩
theorem Txt.d_row_at (T : Txt w K mg) : ∃ fd, FunD K "row_at" "row_at" (defArgs S_row_at) (defBody S_row_at) (defScope S_row_at) [] [] (He.fAd K ("row_at", none)) fd := by
  obtain ⟨h, X, G, c⟩ := T.ex
  exact c.t.d.def_ 27 (d := ⟨("row_at", none), "row_at", "row_at", defArgs S_row_at, defBody S_row_at, defScope S_row_at, [], []⟩) rfl
theorem sc_row_at : FnScope ["past", "key", "t"] ["past", "key", "t"] (defScope S_row_at) := ⟨rfl, rfl, rfl, by decide +kernel, rfl, by decide +kernel, by decide +kernel⟩
theorem Txt.d_is_test (T : Txt w K mg) : ∃ fd, FunD K "is_test" "is_test" (defArgs S_is_test) (defBody S_is_test) (defScope S_is_test) [] [] (He.fAd K ("is_test", none)) fd := by
  obtain ⟨h, X, G, c⟩ := T.ex
  exact c.t.d.def_ 28 (d := ⟨("is_test", none), "is_test", "is_test", defArgs S_is_test, defBody S_is_test, defScope S_is_test, [], []⟩) rfl
theorem sc_is_test : FnScope ["value"] ["value"] (defScope S_is_test) := ⟨rfl, rfl, rfl, by decide +kernel, rfl, by decide +kernel, by decide +kernel⟩
theorem Txt.d_is_lead (T : Txt w K mg) : ∃ fd, FunD K "is_lead" "is_lead" (defArgs S_is_lead) (defBody S_is_lead) (defScope S_is_lead) [] [] (He.fAd K ("is_lead", none)) fd := by
  obtain ⟨h, X, G, c⟩ := T.ex
  exact c.t.d.def_ 29 (d := ⟨("is_lead", none), "is_lead", "is_lead", defArgs S_is_lead, defBody S_is_lead, defScope S_is_lead, [], []⟩) rfl
theorem sc_is_lead : FnScope ["part"] ["part"] (defScope S_is_lead) := ⟨rfl, rfl, rfl, by decide +kernel, rfl, by decide +kernel, by decide +kernel⟩
theorem Txt.d_are_parts (T : Txt w K mg) : ∃ fd, FunD K "are_parts" "are_parts" (defArgs S_are_parts) (defBody S_are_parts) (defScope S_are_parts) [] [] (He.fAd K ("are_parts", none)) fd := by
  obtain ⟨h, X, G, c⟩ := T.ex
  exact c.t.d.def_ 30 (d := ⟨("are_parts", none), "are_parts", "are_parts", defArgs S_are_parts, defBody S_are_parts, defScope S_are_parts, [], []⟩) rfl
theorem sc_are_parts : FnScope ["word", "value", "deep", "leads", "part"] ["word", "value", "deep"] (defScope S_are_parts) := ⟨rfl, rfl, rfl, by decide +kernel, rfl, by decide +kernel, by decide +kernel⟩
theorem Txt.d_is_formed (T : Txt w K mg) : ∃ fd, FunD K "is_formed" "is_formed" (defArgs S_is_formed) (defBody S_is_formed) (defScope S_is_formed) [] [] (He.fAd K ("is_formed", none)) fd := by
  obtain ⟨h, X, G, c⟩ := T.ex
  exact c.t.d.def_ 31 (d := ⟨("is_formed", none), "is_formed", "is_formed", defArgs S_is_formed, defBody S_is_formed, defScope S_is_formed, [], []⟩) rfl
theorem sc_is_formed : FnScope ["value", "deep"] ["value", "deep"] (defScope S_is_formed) := ⟨rfl, rfl, rfl, by decide +kernel, rfl, by decide +kernel, by decide +kernel⟩
theorem Txt.d_is_condition (T : Txt w K mg) : ∃ fd, FunD K "is_condition" "is_condition" (defArgs S_is_condition) (defBody S_is_condition) (defScope S_is_condition) [] [] (He.fAd K ("is_condition", none)) fd := by
  obtain ⟨h, X, G, c⟩ := T.ex
  exact c.t.d.def_ 32 (d := ⟨("is_condition", none), "is_condition", "is_condition", defArgs S_is_condition, defBody S_is_condition, defScope S_is_condition, [], []⟩) rfl
theorem sc_is_condition : FnScope ["value", "tests", "values", "test"] ["value"] (defScope S_is_condition) := ⟨rfl, rfl, rfl, by decide +kernel, rfl, by decide +kernel, by decide +kernel⟩
theorem Txt.d_look_at_condition (T : Txt w K mg) : ∃ fd, FunD K "look_at_condition" "look_at_condition" (defArgs S_look_at_condition) (defBody S_look_at_condition) (defScope S_look_at_condition) [] [] (He.fAd K ("look_at_condition", none)) fd := by
  obtain ⟨h, X, G, c⟩ := T.ex
  exact c.t.d.def_ 33 (d := ⟨("look_at_condition", none), "look_at_condition", "look_at_condition", defArgs S_look_at_condition, defBody S_look_at_condition, defScope S_look_at_condition, [], []⟩) rfl
theorem sc_look_at_condition : FnScope ["value"] ["value"] (defScope S_look_at_condition) := ⟨rfl, rfl, rfl, by decide +kernel, rfl, by decide +kernel, by decide +kernel⟩
theorem Txt.d_look_at_place (T : Txt w K mg) : ∃ fd, FunD K "look_at_place" "look_at_place" (defArgs S_look_at_place) (defBody S_look_at_place) (defScope S_look_at_place) [] [] (He.fAd K ("look_at_place", none)) fd := by
  obtain ⟨h, X, G, c⟩ := T.ex
  exact c.t.d.def_ 34 (d := ⟨("look_at_place", none), "look_at_place", "look_at_place", defArgs S_look_at_place, defBody S_look_at_place, defScope S_look_at_place, [], []⟩) rfl
theorem sc_look_at_place : FnScope ["key", "t"] ["key", "t"] (defScope S_look_at_place) := ⟨rfl, rfl, rfl, by decide +kernel, rfl, by decide +kernel, by decide +kernel⟩
theorem Txt.d_look_at_asked (T : Txt w K mg) : ∃ fd, FunD K "look_at_asked" "look_at_asked" (defArgs S_look_at_asked) (defBody S_look_at_asked) (defScope S_look_at_asked) [] [] (He.fAd K ("look_at_asked", none)) fd := by
  obtain ⟨h, X, G, c⟩ := T.ex
  exact c.t.d.def_ 35 (d := ⟨("look_at_asked", none), "look_at_asked", "look_at_asked", defArgs S_look_at_asked, defBody S_look_at_asked, defScope S_look_at_asked, [], []⟩) rfl
theorem sc_look_at_asked : FnScope ["condition", "past", "key", "t"] ["condition", "past", "key", "t"] (defScope S_look_at_asked) := ⟨rfl, rfl, rfl, by decide +kernel, rfl, by decide +kernel, by decide +kernel⟩
theorem Txt.d_parts_of (T : Txt w K mg) : ∃ fd, FunD K "parts_of" "parts_of" (defArgs S_parts_of) (defBody S_parts_of) (defScope S_parts_of) [] [] (He.fAd K ("parts_of", none)) fd := by
  obtain ⟨h, X, G, c⟩ := T.ex
  exact c.t.d.def_ 36 (d := ⟨("parts_of", none), "parts_of", "parts_of", defArgs S_parts_of, defBody S_parts_of, defScope S_parts_of, [], []⟩) rfl
theorem sc_parts_of : FnScope ["condition"] ["condition"] (defScope S_parts_of) := ⟨rfl, rfl, rfl, by decide +kernel, rfl, by decide +kernel, by decide +kernel⟩
theorem Txt.d_tests_in (T : Txt w K mg) : ∃ fd, FunD K "tests_in" "tests_in" (defArgs S_tests_in) (defBody S_tests_in) (defScope S_tests_in) [] [] (He.fAd K ("tests_in", none)) fd := by
  obtain ⟨h, X, G, c⟩ := T.ex
  exact c.t.d.def_ 37 (d := ⟨("tests_in", none), "tests_in", "tests_in", defArgs S_tests_in, defBody S_tests_in, defScope S_tests_in, [], []⟩) rfl
theorem sc_tests_in : FnScope ["condition", "found", "part"] ["condition"] (defScope S_tests_in) := ⟨rfl, rfl, rfl, by decide +kernel, rfl, by decide +kernel, by decide +kernel⟩
theorem Txt.d_names_in (T : Txt w K mg) : ∃ fd, FunD K "names_in" "names_in" (defArgs S_names_in) (defBody S_names_in) (defScope S_names_in) [] [] (He.fAd K ("names_in", none)) fd := by
  obtain ⟨h, X, G, c⟩ := T.ex
  exact c.t.d.def_ 38 (d := ⟨("names_in", none), "names_in", "names_in", defArgs S_names_in, defBody S_names_in, defScope S_names_in, [], []⟩) rfl
theorem sc_names_in : FnScope ["tests", "test"] ["tests"] (defScope S_names_in) := ⟨rfl, rfl, rfl, by decide +kernel, rfl, by decide +kernel, by decide +kernel⟩
theorem Txt.d_tests_of (T : Txt w K mg) : ∃ fd, FunD K "tests_of" "tests_of" (defArgs S_tests_of) (defBody S_tests_of) (defScope S_tests_of) [] [] (He.fAd K ("tests_of", none)) fd := by
  obtain ⟨h, X, G, c⟩ := T.ex
  exact c.t.d.def_ 39 (d := ⟨("tests_of", none), "tests_of", "tests_of", defArgs S_tests_of, defBody S_tests_of, defScope S_tests_of, [], []⟩) rfl
theorem sc_tests_of : FnScope ["condition"] ["condition"] (defScope S_tests_of) := ⟨rfl, rfl, rfl, by decide +kernel, rfl, by decide +kernel, by decide +kernel⟩
theorem Txt.d_Log_init (T : Txt w K mg) : ∃ fd, FunD K "__init__" "Log.__init__" (defArgs S_Log_init) (defBody S_Log_init) (defScope S_Log_init) [] [] (He.fAd K ("Log", some "__init__")) fd := by
  obtain ⟨h, X, G, c⟩ := T.ex
  exact c.t.d.def_ 40 (d := ⟨("Log", some "__init__"), "__init__", "Log.__init__", defArgs S_Log_init, defBody S_Log_init, defScope S_Log_init, [], []⟩) rfl
theorem sc_Log_init : FnScope ["self", "answer"] ["self", "answer"] (defScope S_Log_init) := ⟨rfl, rfl, rfl, by decide +kernel, rfl, by decide +kernel, by decide +kernel⟩
theorem Txt.d_Log_call (T : Txt w K mg) : ∃ fd, FunD K "__call__" "Log.__call__" (defArgs S_Log_call) (defBody S_Log_call) (defScope S_Log_call) [] [] (He.fAd K ("Log", some "__call__")) fd := by
  obtain ⟨h, X, G, c⟩ := T.ex
  exact c.t.d.def_ 41 (d := ⟨("Log", some "__call__"), "__call__", "Log.__call__", defArgs S_Log_call, defBody S_Log_call, defScope S_Log_call, [], []⟩) rfl
theorem sc_Log_call : FnScope ["self", "number", "test", "told"] ["self", "number", "test"] (defScope S_Log_call) := ⟨rfl, rfl, rfl, by decide +kernel, rfl, by decide +kernel, by decide +kernel⟩
theorem Txt.d_outcome_by (T : Txt w K mg) : ∃ fd, FunD K "outcome_by" "outcome_by" (defArgs S_outcome_by) (defBody S_outcome_by) (defScope S_outcome_by) [.int 0] [] (He.fAd K ("outcome_by", none)) fd := by
  obtain ⟨h, X, G, c⟩ := T.ex
  exact c.t.d.def_ 42 (d := ⟨("outcome_by", none), "outcome_by", "outcome_by", defArgs S_outcome_by, defBody S_outcome_by, defScope S_outcome_by, [.int 0], []⟩) rfl
theorem sc_outcome_by : FnScope ["condition", "answer", "first", "word", "end", "part", "told"] ["condition", "answer", "first"] (defScope S_outcome_by) := ⟨rfl, rfl, rfl, by decide +kernel, rfl, by decide +kernel, by decide +kernel⟩
theorem Txt.d_cuts_in (T : Txt w K mg) : ∃ fd, FunD K "cuts_in" "cuts_in" (defArgs S_cuts_in) (defBody S_cuts_in) (defScope S_cuts_in) [] [] (He.fAd K ("cuts_in", none)) fd := by
  obtain ⟨h, X, G, c⟩ := T.ex
  exact c.t.d.def_ 43 (d := ⟨("cuts_in", none), "cuts_in", "cuts_in", defArgs S_cuts_in, defBody S_cuts_in, defScope S_cuts_in, [], []⟩) rfl
theorem sc_cuts_in : FnScope ["tests", "found", "test", "name", "values"] ["tests"] (defScope S_cuts_in) := ⟨rfl, rfl, rfl, by decide +kernel, rfl, by decide +kernel, by decide +kernel⟩
theorem Txt.d_cuts_of (T : Txt w K mg) : ∃ fd, FunD K "cuts_of" "cuts_of" (defArgs S_cuts_of) (defBody S_cuts_of) (defScope S_cuts_of) [] [] (He.fAd K ("cuts_of", none)) fd := by
  obtain ⟨h, X, G, c⟩ := T.ex
  exact c.t.d.def_ 44 (d := ⟨("cuts_of", none), "cuts_of", "cuts_of", defArgs S_cuts_of, defBody S_cuts_of, defScope S_cuts_of, [], []⟩) rfl
theorem sc_cuts_of : FnScope ["condition"] ["condition"] (defScope S_cuts_of) := ⟨rfl, rfl, rfl, by decide +kernel, rfl, by decide +kernel, by decide +kernel⟩
theorem Txt.d_region (T : Txt w K mg) : ∃ fd, FunD K "region" "region" (defArgs S_region) (defBody S_region) (defScope S_region) [] [] (He.fAd K ("region", none)) fd := by
  obtain ⟨h, X, G, c⟩ := T.ex
  exact c.t.d.def_ 45 (d := ⟨("region", none), "region", "region", defArgs S_region, defBody S_region, defScope S_region, [], []⟩) rfl
theorem sc_region : FnScope ["cuts", "value", "less", "cut"] ["cuts", "value"] (defScope S_region) := ⟨rfl, rfl, rfl, by decide +kernel, rfl, by decide +kernel, by decide +kernel⟩
theorem Txt.d_witness (T : Txt w K mg) : ∃ fd, FunD K "witness" "witness" (defArgs S_witness) (defBody S_witness) (defScope S_witness) [] [] (He.fAd K ("witness", none)) fd := by
  obtain ⟨h, X, G, c⟩ := T.ex
  exact c.t.d.def_ 46 (d := ⟨("witness", none), "witness", "witness", defArgs S_witness, defBody S_witness, defScope S_witness, [], []⟩) rfl
theorem sc_witness : FnScope ["cuts", "region", "low", "high"] ["cuts", "region"] (defScope S_witness) := ⟨rfl, rfl, rfl, by decide +kernel, rfl, by decide +kernel, by decide +kernel⟩
theorem Txt.d_regions_there (T : Txt w K mg) : ∃ fd, FunD K "regions_there" "regions_there" (defArgs S_regions_there) (defBody S_regions_there) (defScope S_regions_there) [] [] (He.fAd K ("regions_there", none)) fd := by
  obtain ⟨h, X, G, c⟩ := T.ex
  exact c.t.d.def_ 47 (d := ⟨("regions_there", none), "regions_there", "regions_there", defArgs S_regions_there, defBody S_regions_there, defScope S_regions_there, [], []⟩) rfl
theorem sc_regions_there : FnScope ["cuts", "number"] ["cuts"] (defScope S_regions_there) := ⟨rfl, rfl, rfl, by decide +kernel, rfl, by decide +kernel, by decide +kernel⟩
theorem Txt.d_rows_of_choices (T : Txt w K mg) : ∃ fd, FunD K "rows_of_choices" "rows_of_choices" (defArgs S_rows_of_choices) (defBody S_rows_of_choices) (defScope S_rows_of_choices) [] [] (He.fAd K ("rows_of_choices", none)) fd := by
  obtain ⟨h, X, G, c⟩ := T.ex
  exact c.t.d.def_ 48 (d := ⟨("rows_of_choices", none), "rows_of_choices", "rows_of_choices", defArgs S_rows_of_choices, defBody S_rows_of_choices, defScope S_rows_of_choices, [], []⟩) rfl
theorem sc_rows_of_choices : FnScope ["choices", "found", "some", "row", "one"] ["choices"] (defScope S_rows_of_choices) := ⟨rfl, rfl, rfl, by decide +kernel, rfl, by decide +kernel, by decide +kernel⟩
theorem Txt.d_pictures_by (T : Txt w K mg) : ∃ fd, FunD K "pictures_by" "pictures_by" (defArgs S_pictures_by) (defBody S_pictures_by) (defScope S_pictures_by) [] [] (He.fAd K ("pictures_by", none)) fd := by
  obtain ⟨h, X, G, c⟩ := T.ex
  exact c.t.d.def_ 49 (d := ⟨("pictures_by", none), "pictures_by", "pictures_by", defArgs S_pictures_by, defBody S_pictures_by, defScope S_pictures_by, [], []⟩) rfl
theorem sc_pictures_by : FnScope ["cuts", "bare", "full", "name", "some", "row"] ["cuts"] (defScope S_pictures_by) := ⟨rfl, rfl, rfl, by decide +kernel, rfl, by decide +kernel, by decide +kernel⟩
theorem Txt.d_pictures (T : Txt w K mg) : ∃ fd, FunD K "pictures" "pictures" (defArgs S_pictures) (defBody S_pictures) (defScope S_pictures) [] [] (He.fAd K ("pictures", none)) fd := by
  obtain ⟨h, X, G, c⟩ := T.ex
  exact c.t.d.def_ 50 (d := ⟨("pictures", none), "pictures", "pictures", defArgs S_pictures, defBody S_pictures, defScope S_pictures, [], []⟩) rfl
theorem sc_pictures : FnScope ["condition"] ["condition"] (defScope S_pictures) := ⟨rfl, rfl, rfl, by decide +kernel, rfl, by decide +kernel, by decide +kernel⟩
theorem Txt.d_Picture_init (T : Txt w K mg) : ∃ fd, FunD K "__init__" "Picture.__init__" (defArgs S_Picture_init) (defBody S_Picture_init) (defScope S_Picture_init) [] [] (He.fAd K ("Picture", some "__init__")) fd := by
  obtain ⟨h, X, G, c⟩ := T.ex
  exact c.t.d.def_ 51 (d := ⟨("Picture", some "__init__"), "__init__", "Picture.__init__", defArgs S_Picture_init, defBody S_Picture_init, defScope S_Picture_init, [], []⟩) rfl
theorem sc_Picture_init : FnScope ["self", "cuts", "told"] ["self", "cuts", "told"] (defScope S_Picture_init) := ⟨rfl, rfl, rfl, by decide +kernel, rfl, by decide +kernel, by decide +kernel⟩
theorem Txt.d_Picture_call (T : Txt w K mg) : ∃ fd, FunD K "__call__" "Picture.__call__" (defArgs S_Picture_call) (defBody S_Picture_call) (defScope S_Picture_call) [] [] (He.fAd K ("Picture", some "__call__")) fd := by
  obtain ⟨h, X, G, c⟩ := T.ex
  exact c.t.d.def_ 52 (d := ⟨("Picture", some "__call__"), "__call__", "Picture.__call__", defArgs S_Picture_call, defBody S_Picture_call, defScope S_Picture_call, [], []⟩) rfl
theorem sc_Picture_call : FnScope ["self", "number", "test", "cell", "border", "is_so"] ["self", "number", "test"] (defScope S_Picture_call) := ⟨rfl, rfl, rfl, by decide +kernel, rfl, by decide +kernel, by decide +kernel⟩
theorem Txt.d_picture_of (T : Txt w K mg) : ∃ fd, FunD K "picture_of" "picture_of" (defArgs S_picture_of) (defBody S_picture_of) (defScope S_picture_of) [] [] (He.fAd K ("picture_of", none)) fd := by
  obtain ⟨h, X, G, c⟩ := T.ex
  exact c.t.d.def_ 53 (d := ⟨("picture_of", none), "picture_of", "picture_of", defArgs S_picture_of, defBody S_picture_of, defScope S_picture_of, [], []⟩) rfl
theorem sc_picture_of : FnScope ["condition", "past", "key", "t", "names", "row", "cuts", "name", "fill", "some"] ["condition", "past", "key", "t"] (defScope S_picture_of) := ⟨rfl, rfl, rfl, by decide +kernel, rfl, by decide +kernel, by decide +kernel⟩
theorem Txt.d_is_seen_cell (T : Txt w K mg) : ∃ fd, FunD K "is_seen_cell" "is_seen_cell" (defArgs S_is_seen_cell) (defBody S_is_seen_cell) (defScope S_is_seen_cell) [] [] (He.fAd K ("is_seen_cell", none)) fd := by
  obtain ⟨h, X, G, c⟩ := T.ex
  exact c.t.d.def_ 54 (d := ⟨("is_seen_cell", none), "is_seen_cell", "is_seen_cell", defArgs S_is_seen_cell, defBody S_is_seen_cell, defScope S_is_seen_cell, [], []⟩) rfl
theorem sc_is_seen_cell : FnScope ["cuts", "value"] ["cuts", "value"] (defScope S_is_seen_cell) := ⟨rfl, rfl, rfl, by decide +kernel, rfl, by decide +kernel, by decide +kernel⟩
theorem Txt.d_is_picture (T : Txt w K mg) : ∃ fd, FunD K "is_picture" "is_picture" (defArgs S_is_picture) (defBody S_is_picture) (defScope S_is_picture) [] [] (He.fAd K ("is_picture", none)) fd := by
  obtain ⟨h, X, G, c⟩ := T.ex
  exact c.t.d.def_ 55 (d := ⟨("is_picture", none), "is_picture", "is_picture", defArgs S_is_picture, defBody S_is_picture, defScope S_is_picture, [], []⟩) rfl
theorem sc_is_picture : FnScope ["cuts", "value", "some", "one"] ["cuts", "value"] (defScope S_is_picture) := ⟨rfl, rfl, rfl, by decide +kernel, rfl, by decide +kernel, by decide +kernel⟩
theorem Txt.d_look_at_picture (T : Txt w K mg) : ∃ fd, FunD K "look_at_picture" "look_at_picture" (defArgs S_look_at_picture) (defBody S_look_at_picture) (defScope S_look_at_picture) [] [] (He.fAd K ("look_at_picture", none)) fd := by
  obtain ⟨h, X, G, c⟩ := T.ex
  exact c.t.d.def_ 56 (d := ⟨("look_at_picture", none), "look_at_picture", "look_at_picture", defArgs S_look_at_picture, defBody S_look_at_picture, defScope S_look_at_picture, [], []⟩) rfl
theorem sc_look_at_picture : FnScope ["condition", "value", "cuts"] ["condition", "value"] (defScope S_look_at_picture) := ⟨rfl, rfl, rfl, by decide +kernel, rfl, by decide +kernel, by decide +kernel⟩
theorem Txt.d_past_by (T : Txt w K mg) : ∃ fd, FunD K "past_by" "past_by" (defArgs S_past_by) (defBody S_past_by) (defScope S_past_by) [] [] (He.fAd K ("past_by", none)) fd := by
  obtain ⟨h, X, G, c⟩ := T.ex
  exact c.t.d.def_ 57 (d := ⟨("past_by", none), "past_by", "past_by", defArgs S_past_by, defBody S_past_by, defScope S_past_by, [], []⟩) rfl
theorem sc_past_by : FnScope ["cuts", "told", "here", "deeds", "name", "cell"] ["cuts", "told"] (defScope S_past_by) := ⟨rfl, rfl, rfl, by decide +kernel, rfl, by decide +kernel, by decide +kernel⟩
theorem Txt.d_past_of (T : Txt w K mg) : ∃ fd, FunD K "past_of" "past_of" (defArgs S_past_of) (defBody S_past_of) (defScope S_past_of) [] [] (He.fAd K ("past_of", none)) fd := by
  obtain ⟨h, X, G, c⟩ := T.ex
  exact c.t.d.def_ 58 (d := ⟨("past_of", none), "past_of", "past_of", defArgs S_past_of, defBody S_past_of, defScope S_past_of, [], []⟩) rfl
theorem sc_past_of : FnScope ["condition", "picture"] ["condition", "picture"] (defScope S_past_of) := ⟨rfl, rfl, rfl, by decide +kernel, rfl, by decide +kernel, by decide +kernel⟩
theorem Txt.d_Mixed_init (T : Txt w K mg) : ∃ fd, FunD K "__init__" "Mixed.__init__" (defArgs S_Mixed_init) (defBody S_Mixed_init) (defScope S_Mixed_init) [] [] (He.fAd K ("Mixed", some "__init__")) fd := by
  obtain ⟨h, X, G, c⟩ := T.ex
  exact c.t.d.def_ 59 (d := ⟨("Mixed", some "__init__"), "__init__", "Mixed.__init__", defArgs S_Mixed_init, defBody S_Mixed_init, defScope S_Mixed_init, [], []⟩) rfl
theorem sc_Mixed_init : FnScope ["self", "told", "later"] ["self", "told", "later"] (defScope S_Mixed_init) := ⟨rfl, rfl, rfl, by decide +kernel, rfl, by decide +kernel, by decide +kernel⟩
theorem Txt.d_Mixed_call (T : Txt w K mg) : ∃ fd, FunD K "__call__" "Mixed.__call__" (defArgs S_Mixed_call) (defBody S_Mixed_call) (defScope S_Mixed_call) [] [] (He.fAd K ("Mixed", some "__call__")) fd := by
  obtain ⟨h, X, G, c⟩ := T.ex
  exact c.t.d.def_ 60 (d := ⟨("Mixed", some "__call__"), "__call__", "Mixed.__call__", defArgs S_Mixed_call, defBody S_Mixed_call, defScope S_Mixed_call, [], []⟩) rfl
theorem sc_Mixed_call : FnScope ["self", "number", "test"] ["self", "number", "test"] (defScope S_Mixed_call) := ⟨rfl, rfl, rfl, by decide +kernel, rfl, by decide +kernel, by decide +kernel⟩
theorem Txt.d_mixed_by (T : Txt w K mg) : ∃ fd, FunD K "mixed_by" "mixed_by" (defArgs S_mixed_by) (defBody S_mixed_by) (defScope S_mixed_by) [] [] (He.fAd K ("mixed_by", none)) fd := by
  obtain ⟨h, X, G, c⟩ := T.ex
  exact c.t.d.def_ 61 (d := ⟨("mixed_by", none), "mixed_by", "mixed_by", defArgs S_mixed_by, defBody S_mixed_by, defScope S_mixed_by, [], []⟩) rfl
theorem sc_mixed_by : FnScope ["condition", "one", "other", "count", "log", "told", "number", "answer"] ["condition", "one", "other", "count"] (defScope S_mixed_by) := ⟨rfl, rfl, rfl, by decide +kernel, rfl, by decide +kernel, by decide +kernel⟩
theorem Txt.d_mixed_outcome (T : Txt w K mg) : ∃ fd, FunD K "mixed_outcome" "mixed_outcome" (defArgs S_mixed_outcome) (defBody S_mixed_outcome) (defScope S_mixed_outcome) [] [] (He.fAd K ("mixed_outcome", none)) fd := by
  obtain ⟨h, X, G, c⟩ := T.ex
  exact c.t.d.def_ 62 (d := ⟨("mixed_outcome", none), "mixed_outcome", "mixed_outcome", defArgs S_mixed_outcome, defBody S_mixed_outcome, defScope S_mixed_outcome, [], []⟩) rfl
theorem sc_mixed_outcome : FnScope ["condition", "one", "other", "count", "cuts", "told"] ["condition", "one", "other", "count"] (defScope S_mixed_outcome) := ⟨rfl, rfl, rfl, by decide +kernel, rfl, by decide +kernel, by decide +kernel⟩
theorem Txt.d_Run_init (T : Txt w K mg) : ∃ fd, FunD K "__init__" "Run.__init__" (defArgs S_Run_init) (defBody S_Run_init) (defScope S_Run_init) [] [] (He.fAd K ("Run", some "__init__")) fd := by
  obtain ⟨h, X, G, c⟩ := T.ex
  exact c.t.d.def_ 63 (d := ⟨("Run", some "__init__"), "__init__", "Run.__init__", defArgs S_Run_init, defBody S_Run_init, defScope S_Run_init, [], []⟩) rfl
theorem sc_Run_init : FnScope ["self", "condition", "cuts", "told", "log", "number", "one"] ["self", "condition", "cuts", "told"] (defScope S_Run_init) := ⟨rfl, rfl, rfl, by decide +kernel, rfl, by decide +kernel, by decide +kernel⟩
theorem Txt.d_late_firsts (T : Txt w K mg) : ∃ fd, FunD K "late_firsts" "late_firsts" (defArgs S_late_firsts) (defBody S_late_firsts) (defScope S_late_firsts) [] [] (He.fAd K ("late_firsts", none)) fd := by
  obtain ⟨h, X, G, c⟩ := T.ex
  exact c.t.d.def_ 64 (d := ⟨("late_firsts", none), "late_firsts", "late_firsts", defArgs S_late_firsts, defBody S_late_firsts, defScope S_late_firsts, [], []⟩) rfl
theorem sc_late_firsts : FnScope ["condition", "position", "runs", "found", "at", "one", "late"] ["condition", "position", "runs"] (defScope S_late_firsts) := ⟨rfl, rfl, rfl, by decide +kernel, rfl, by decide +kernel, by decide +kernel⟩
theorem Txt.d_parted_at (T : Txt w K mg) : ∃ fd, FunD K "parted_at" "parted_at" (defArgs S_parted_at) (defBody S_parted_at) (defScope S_parted_at) [] [] (He.fAd K ("parted_at", none)) fd := by
  obtain ⟨h, X, G, c⟩ := T.ex
  exact c.t.d.def_ 65 (d := ⟨("parted_at", none), "parted_at", "parted_at", defArgs S_parted_at, defBody S_parted_at, defScope S_parted_at, [], []⟩) rfl
theorem sc_parted_at : FnScope ["condition", "runs", "count", "known", "one", "position", "places", "late", "place"] ["condition", "runs", "count"] (defScope S_parted_at) := ⟨rfl, rfl, rfl, by decide +kernel, rfl, by decide +kernel, by decide +kernel⟩
theorem Txt.d_parted_by (T : Txt w K mg) : ∃ fd, FunD K "parted_by" "parted_by" (defArgs S_parted_by) (defBody S_parted_by) (defScope S_parted_by) [] [] (He.fAd K ("parted_by", none)) fd := by
  obtain ⟨h, X, G, c⟩ := T.ex
  exact c.t.d.def_ 66 (d := ⟨("parted_by", none), "parted_by", "parted_by", defArgs S_parted_by, defBody S_parted_by, defScope S_parted_by, [], []⟩) rfl
theorem sc_parted_by : FnScope ["condition", "cuts", "runs", "count", "found", "told", "one"] ["condition", "cuts"] (defScope S_parted_by) := ⟨rfl, rfl, rfl, by decide +kernel, rfl, by decide +kernel, by decide +kernel⟩
theorem Txt.d_parted (T : Txt w K mg) : ∃ fd, FunD K "parted" "parted" (defArgs S_parted) (defBody S_parted) (defScope S_parted) [] [] (He.fAd K ("parted", none)) fd := by
  obtain ⟨h, X, G, c⟩ := T.ex
  exact c.t.d.def_ 67 (d := ⟨("parted", none), "parted", "parted", defArgs S_parted, defBody S_parted, defScope S_parted, [], []⟩) rfl
theorem sc_parted : FnScope ["condition"] ["condition"] (defScope S_parted) := ⟨rfl, rfl, rfl, by decide +kernel, rfl, by decide +kernel, by decide +kernel⟩
theorem Txt.d_parted_paper (T : Txt w K mg) : ∃ fd, FunD K "parted_paper" "parted_paper" (defArgs S_parted_paper) (defBody S_parted_paper) (defScope S_parted_paper) [] [] (He.fAd K ("parted_paper", none)) fd := by
  obtain ⟨h, X, G, c⟩ := T.ex
  exact c.t.d.def_ 68 (d := ⟨("parted_paper", none), "parted_paper", "parted_paper", defArgs S_parted_paper, defBody S_parted_paper, defScope S_parted_paper, [], []⟩) rfl
theorem sc_parted_paper : FnScope ["condition", "cuts", "found", "one", "other", "count"] ["condition"] (defScope S_parted_paper) := ⟨rfl, rfl, rfl, by decide +kernel, rfl, by decide +kernel, by decide +kernel⟩
theorem Txt.d_past_of_deeds (T : Txt w K mg) : ∃ fd, FunD K "past_of_deeds" "past_of_deeds" (defArgs S_past_of_deeds) (defBody S_past_of_deeds) (defScope S_past_of_deeds) [] [] (He.fAd K ("past_of_deeds", none)) fd := by
  obtain ⟨h, X, G, c⟩ := T.ex
  exact c.t.d.def_ 69 (d := ⟨("past_of_deeds", none), "past_of_deeds", "past_of_deeds", defArgs S_past_of_deeds, defBody S_past_of_deeds, defScope S_past_of_deeds, [], []⟩) rfl
theorem sc_past_of_deeds : FnScope ["value"] ["value"] (defScope S_past_of_deeds) := ⟨rfl, rfl, rfl, by decide +kernel, rfl, by decide +kernel, by decide +kernel⟩
theorem Txt.d_accepts_parted (T : Txt w K mg) : ∃ fd, FunD K "accepts_parted" "accepts_parted" (defArgs S_accepts_parted) (defBody S_accepts_parted) (defScope S_accepts_parted) [] [] (He.fAd K ("accepts_parted", none)) fd := by
  obtain ⟨h, X, G, c⟩ := T.ex
  exact c.t.d.def_ 70 (d := ⟨("accepts_parted", none), "accepts_parted", "accepts_parted", defArgs S_accepts_parted, defBody S_accepts_parted, defScope S_accepts_parted, [], []⟩) rfl
theorem sc_accepts_parted : FnScope ["condition", "paper", "pasts", "cuts", "one", "other", "value", "past"] ["condition", "paper"] (defScope S_accepts_parted) := ⟨rfl, rfl, rfl, by decide +kernel, rfl, by decide +kernel, by decide +kernel⟩
theorem Txt.d_parted_over (T : Txt w K mg) : ∃ fd, FunD K "parted_over" "parted_over" (defArgs S_parted_over) (defBody S_parted_over) (defScope S_parted_over) [] [] (He.fAd K ("parted_over", none)) fd := by
  obtain ⟨h, X, G, c⟩ := T.ex
  exact c.t.d.def_ 71 (d := ⟨("parted_over", none), "parted_over", "parted_over", defArgs S_parted_over, defBody S_parted_over, defScope S_parted_over, [], []⟩) rfl
theorem sc_parted_over : FnScope ["condition", "cuts", "found", "told"] ["condition"] (defScope S_parted_over) := ⟨rfl, rfl, rfl, by decide +kernel, rfl, by decide +kernel, by decide +kernel⟩
theorem Txt.d_law_numbers (T : Txt w K mg) : ∃ fd, FunD K "_law_numbers" "_law_numbers" (defArgs S_law_numbers) (defBody S_law_numbers) (defScope S_law_numbers) [] [] (He.fAd K ("_law_numbers", none)) fd := by
  obtain ⟨h, X, G, c⟩ := T.ex
  exact c.t.d.def_ 72 (d := ⟨("_law_numbers", none), "_law_numbers", "_law_numbers", defArgs S_law_numbers, defBody S_law_numbers, defScope S_law_numbers, [], []⟩) rfl
theorem sc_law_numbers : FnScope ["_law_cell", "_law_salt", "_law_often", "_law_whole", "_law_left", "_law_result", "_law_k", "_law_one"] ["_law_cell", "_law_salt", "_law_often"] (defScope S_law_numbers) := ⟨rfl, rfl, rfl, by decide +kernel, rfl, by decide +kernel, by decide +kernel⟩
theorem Txt.d_law_opened (T : Txt w K mg) : ∃ fd, FunD K "_law_opened" "_law_opened" (defArgs S_law_opened) (defBody S_law_opened) (defScope S_law_opened) [] [] (He.fAd K ("_law_opened", none)) fd := by
  obtain ⟨h, X, G, c⟩ := T.ex
  exact c.t.d.def_ 73 (d := ⟨("_law_opened", none), "_law_opened", "_law_opened", defArgs S_law_opened, defBody S_law_opened, defScope S_law_opened, [], []⟩) rfl
theorem sc_law_opened : FnScope ["_law_script", "_law_k", "_law_often", "_law_cell"] ["_law_script", "_law_k", "_law_often"] (defScope S_law_opened) := ⟨rfl, rfl, rfl, by decide +kernel, rfl, by decide +kernel, by decide +kernel⟩
theorem Txt.d_law_draw (T : Txt w K mg) : ∃ fd, FunD K "_law_draw" "_law_draw" (defArgs S_law_draw) (defBody S_law_draw) (defScope S_law_draw) [] [] (He.fAd K ("_law_draw", none)) fd := by
  obtain ⟨h, X, G, c⟩ := T.ex
  exact c.t.d.def_ 74 (d := ⟨("_law_draw", none), "_law_draw", "_law_draw", defArgs S_law_draw, defBody S_law_draw, defScope S_law_draw, [], []⟩) rfl
theorem sc_law_draw : FnScope ["_law_pool", "_law_often", "_law_at"] ["_law_pool", "_law_often"] (defScope S_law_draw) := ⟨rfl, rfl, rfl, by decide +kernel, rfl, by decide +kernel, by decide +kernel⟩
theorem Txt.d_law_pick (T : Txt w K mg) : ∃ fd, FunD K "_law_pick" "_law_pick" (defArgs S_law_pick) (defBody S_law_pick) (defScope S_law_pick) [] [] (He.fAd K ("_law_pick", none)) fd := by
  obtain ⟨h, X, G, c⟩ := T.ex
  exact c.t.d.def_ 75 (d := ⟨("_law_pick", none), "_law_pick", "_law_pick", defArgs S_law_pick, defBody S_law_pick, defScope S_law_pick, [], []⟩) rfl
theorem sc_law_pick : FnScope ["_law_pool", "_law_some"] ["_law_pool", "_law_some"] (defScope S_law_pick) := ⟨rfl, rfl, rfl, by decide +kernel, rfl, by decide +kernel, by decide +kernel⟩
theorem Txt.d_law_by_moment (T : Txt w K mg) : ∃ fd, FunD K "_law_by_moment" "_law_by_moment" (defArgs S_law_by_moment) (defBody S_law_by_moment) (defScope S_law_by_moment) [] [] (He.fAd K ("_law_by_moment", none)) fd := by
  obtain ⟨h, X, G, c⟩ := T.ex
  exact c.t.d.def_ 76 (d := ⟨("_law_by_moment", none), "_law_by_moment", "_law_by_moment", defArgs S_law_by_moment, defBody S_law_by_moment, defScope S_law_by_moment, [], []⟩) rfl
theorem sc_law_by_moment : FnScope ["_law_deeds", "_law_known", "_law_moment", "_law_deed"] ["_law_deeds"] (defScope S_law_by_moment) := ⟨rfl, rfl, rfl, by decide +kernel, rfl, by decide +kernel, by decide +kernel⟩
theorem Txt.d_law_fresh (T : Txt w K mg) : ∃ fd, FunD K "_law_fresh" "_law_fresh" (defArgs S_law_fresh) (defBody S_law_fresh) (defScope S_law_fresh) [] [] (He.fAd K ("_law_fresh", none)) fd := by
  obtain ⟨h, X, G, c⟩ := T.ex
  exact c.t.d.def_ 77 (d := ⟨("_law_fresh", none), "_law_fresh", "_law_fresh", defArgs S_law_fresh, defBody S_law_fresh, defScope S_law_fresh, [], []⟩) rfl
theorem sc_law_fresh : FnScope [] [] (defScope S_law_fresh) := ⟨rfl, rfl, rfl, by decide +kernel, rfl, by decide +kernel, by decide +kernel⟩
theorem Txt.d_law_done (T : Txt w K mg) : ∃ fd, FunD K "_law_done" "_law_done" (defArgs S_law_done) (defBody S_law_done) (defScope S_law_done) [] [] (He.fAd K ("_law_done", none)) fd := by
  obtain ⟨h, X, G, c⟩ := T.ex
  exact c.t.d.def_ 78 (d := ⟨("_law_done", none), "_law_done", "_law_done", defArgs S_law_done, defBody S_law_done, defScope S_law_done, [], []⟩) rfl
theorem sc_law_done : FnScope ["_law_table_here", "_law_deed", "_law_word", "_law_names", "_law_pairs", "_law_key", "_law_gone", "_law_column", "_law_one"] ["_law_table_here", "_law_deed"] (defScope S_law_done) := ⟨rfl, rfl, rfl, by decide +kernel, rfl, by decide +kernel, by decide +kernel⟩
theorem Txt.d_law_table (T : Txt w K mg) : ∃ fd, FunD K "_law_table" "_law_table" (defArgs S_law_table) (defBody S_law_table) (defScope S_law_table) [] [] (He.fAd K ("_law_table", none)) fd := by
  obtain ⟨h, X, G, c⟩ := T.ex
  exact c.t.d.def_ 79 (d := ⟨("_law_table", none), "_law_table", "_law_table", defArgs S_law_table, defBody S_law_table, defScope S_law_table, [], []⟩) rfl
theorem sc_law_table : FnScope ["_law_deeds", "_law_t", "_law_table_here", "_law_deed"] ["_law_deeds", "_law_t"] (defScope S_law_table) := ⟨rfl, rfl, rfl, by decide +kernel, rfl, by decide +kernel, by decide +kernel⟩
theorem Txt.d_law_named (T : Txt w K mg) : ∃ fd, FunD K "_law_named" "_law_named" (defArgs S_law_named) (defBody S_law_named) (defScope S_law_named) [] [] (He.fAd K ("_law_named", none)) fd := by
  obtain ⟨h, X, G, c⟩ := T.ex
  exact c.t.d.def_ 80 (d := ⟨("_law_named", none), "_law_named", "_law_named", defArgs S_law_named, defBody S_law_named, defScope S_law_named, [], []⟩) rfl
theorem sc_law_named : FnScope ["_law_table_here", "_law_key", "_law_one"] ["_law_table_here", "_law_key"] (defScope S_law_named) := ⟨rfl, rfl, rfl, by decide +kernel, rfl, by decide +kernel, by decide +kernel⟩
theorem Txt.d_law_run (T : Txt w K mg) : ∃ fd, FunD K "_law_run" "_law_run" (defArgs S_law_run) (defBody S_law_run) (defScope S_law_run) [] [] (He.fAd K ("_law_run", none)) fd := by
  obtain ⟨h, X, G, c⟩ := T.ex
  exact c.t.d.def_ 81 (d := ⟨("_law_run", none), "_law_run", "_law_run", defArgs S_law_run, defBody S_law_run, defScope S_law_run, [], []⟩) rfl
theorem sc_law_run : FnScope ["_law_query", "_law_table_here", "_law_key", "_law_word", "_law_names", "_law_row", "_law_here", "_law_stands", "_law_part", "_law_one"] ["_law_query", "_law_table_here", "_law_key"] (defScope S_law_run) := ⟨rfl, rfl, rfl, by decide +kernel, rfl, by decide +kernel, by decide +kernel⟩
theorem Txt.d_law_test (T : Txt w K mg) : ∃ fd, FunD K "_law_test" "_law_test" (defArgs S_law_test) (defBody S_law_test) (defScope S_law_test) [] [] (He.fAd K ("_law_test", none)) fd := by
  obtain ⟨h, X, G, c⟩ := T.ex
  exact c.t.d.def_ 82 (d := ⟨("_law_test", none), "_law_test", "_law_test", defArgs S_law_test, defBody S_law_test, defScope S_law_test, [], []⟩) rfl
theorem sc_law_test : FnScope ["_law_pool", "_law_word", "_law_name"] ["_law_pool"] (defScope S_law_test) := ⟨rfl, rfl, rfl, by decide +kernel, rfl, by decide +kernel, by decide +kernel⟩
theorem Txt.d_law_condition (T : Txt w K mg) : ∃ fd, FunD K "_law_condition" "_law_condition" (defArgs S_law_condition) (defBody S_law_condition) (defScope S_law_condition) [] [] (He.fAd K ("_law_condition", none)) fd := by
  obtain ⟨h, X, G, c⟩ := T.ex
  exact c.t.d.def_ 83 (d := ⟨("_law_condition", none), "_law_condition", "_law_condition", defArgs S_law_condition, defBody S_law_condition, defScope S_law_condition, [], []⟩) rfl
theorem sc_law_condition : FnScope ["_law_pool", "_law_deep", "_law_most", "_law_word", "_law_parts", "_law_step", "_law_part"] ["_law_pool", "_law_deep", "_law_most"] (defScope S_law_condition) := ⟨rfl, rfl, rfl, by decide +kernel, rfl, by decide +kernel, by decide +kernel⟩
theorem Txt.d_law_mixed_run (T : Txt w K mg) : ∃ fd, FunD K "_law_mixed_run" "_law_mixed_run" (defArgs S_law_mixed_run) (defBody S_law_mixed_run) (defScope S_law_mixed_run) [] [] (He.fAd K ("_law_mixed_run", none)) fd := by
  obtain ⟨h, X, G, c⟩ := T.ex
  exact c.t.d.def_ 84 (d := ⟨("_law_mixed_run", none), "_law_mixed_run", "_law_mixed_run", defArgs S_law_mixed_run, defBody S_law_mixed_run, defScope S_law_mixed_run, [], []⟩) rfl
theorem sc_law_mixed_run : FnScope ["_law_condition_here", "_law_one", "_law_other", "_law_count"] ["_law_condition_here", "_law_one", "_law_other", "_law_count"] (defScope S_law_mixed_run) := ⟨rfl, rfl, rfl, by decide +kernel, rfl, by decide +kernel, by decide +kernel⟩
theorem Txt.d_law_mixed_part (T : Txt w K mg) : ∃ fd, FunD K "_law_mixed_part" "_law_mixed_part" (defArgs S_law_mixed_part) (defBody S_law_mixed_part) (defScope S_law_mixed_part) [] [] (He.fAd K ("_law_mixed_part", none)) fd := by
  obtain ⟨h, X, G, c⟩ := T.ex
  exact c.t.d.def_ 85 (d := ⟨("_law_mixed_part", none), "_law_mixed_part", "_law_mixed_part", defArgs S_law_mixed_part, defBody S_law_mixed_part, defScope S_law_mixed_part, [], []⟩) rfl
theorem sc_law_mixed_part : FnScope ["_law_condition_here", "_law_one", "_law_other", "_law_left", "_law_word", "_law_table_here", "_law_part", "_law_told"] ["_law_condition_here", "_law_one", "_law_other", "_law_left"] (defScope S_law_mixed_part) := ⟨rfl, rfl, rfl, by decide +kernel, rfl, by decide +kernel, by decide +kernel⟩
theorem Txt.d_law_first_parted (T : Txt w K mg) : ∃ fd, FunD K "_law_first_parted" "_law_first_parted" (defArgs S_law_first_parted) (defBody S_law_first_parted) (defScope S_law_first_parted) [] [] (He.fAd K ("_law_first_parted", none)) fd := by
  obtain ⟨h, X, G, c⟩ := T.ex
  exact c.t.d.def_ 86 (d := ⟨("_law_first_parted", none), "_law_first_parted", "_law_first_parted", defArgs S_law_first_parted, defBody S_law_first_parted, defScope S_law_first_parted, [], []⟩) rfl
theorem sc_law_first_parted : FnScope ["_law_condition_here", "_law_some", "_law_tables", "_law_many", "_law_count", "_law_at", "_law_one", "_law_to", "_law_other", "_law_told"] ["_law_condition_here", "_law_some", "_law_tables", "_law_many"] (defScope S_law_first_parted) := ⟨rfl, rfl, rfl, by decide +kernel, rfl, by decide +kernel, by decide +kernel⟩
theorem Txt.d_law (T : Txt w K mg) : ∃ fd, FunD K "law" "law" (defArgs S_law) (defBody S_law) (defScope S_law) [] [] (He.fAd K ("law", none)) fd := by
  obtain ⟨h, X, G, c⟩ := T.ex
  exact c.t.d.def_ 87 (d := ⟨("law", none), "law", "law", defArgs S_law, defBody S_law, defScope S_law, [], []⟩) rfl
theorem sc_law : FnScope ["_law_script", "_law_k", "_law_pool", "_law_condition_here", "_law_some", "_law_tables", "_law_many", "_law_due", "_law_step", "_law_at", "_law_to", "_law_count", "_law_told", "_law_paper", "_law_word", "_law_first", "_law_last", "_law_one", "_law_other", "_law_ends_told", "_law_table_here"] ["_law_script"] (defScope S_law) := ⟨rfl, rfl, rfl, by decide +kernel, rfl, by decide +kernel, by decide +kernel⟩
end
end PB
namespace PB
open PySem PySem.Spec PyProof.Rows L2
local macro_rules | `(tactic| walk_at "rd") => `(tactic| (repeat refine red ?_))
local macro_rules | `(tactic| walk_at "go") => `(tactic| (repeat (first | refine red ?_ | ((with_reducible apply k_var); rfl) | refine k_new fun _ _ => ?_ | refine wp_and rfl ?_ | refine if_redT rfl ?_ | refine if_redF rfl ?_)))

local macro_rules | `(tactic| walk_at "ext") => `(tactic| (repeat (first | assumption | exact Ext.refl _ | refine Ext.newI ?_ | refine Ext.trans ?_ ‹Ext _ _›)))
local macro_rules | `(tactic| walk_at "rv") => `(tactic| (repeat (first | refine red ?_ | ((with_reducible apply k_var); rfl))))
/-! ### the data: tests, conditions, answers, pictures, cuts -/
inductive Tst where
  | row | has (x : Str) | eq (x : Str) (v : Int) | less (x : Str) (v : Int)
inductive Cond where
  | t (t : Tst) | not (c : Cond) | seq (w : Bool) (cs : List Cond)
inductive Ans where
  | yes | no | fault
  deriving DecidableEq
def Ans.s : Ans → Str
  | .yes => "yes"
  | .no => "no"
  | .fault => "fault"
def Ans.neg : Ans → Ans
  | .yes => .no
  | .no => .yes
  | .fault => .fault
def Tst.vs : Tst → List V
  | .row => [.str "row"]
  | .has x => [.str "has", .str x]
  | .eq x v => [.str "eq", .str x, .int v]
  | .less x v => [.str "less", .str x, .int v]
/-- the word of an all, an any; the outcome of a part with which it goes on -/
def wd (w : Bool) : Str := match w with
  | true => "all"
  | false => "any"
def cont (w : Bool) : Ans := match w with
  | true => .yes
  | false => .no
instance : DecS "row" "row" true := ⟨by decide +kernel⟩
instance : DecS "row" "has" false := ⟨by decide +kernel⟩
instance : DecS "row" "eq" false := ⟨by decide +kernel⟩
instance : DecS "row" "less" false := ⟨by decide +kernel⟩
instance : DecS "row" "not" false := ⟨by decide +kernel⟩
instance : DecS "row" "all" false := ⟨by decide +kernel⟩
instance : DecS "row" "any" false := ⟨by decide +kernel⟩
instance : DecS "row" "test" false := ⟨by decide +kernel⟩
instance : DecS "has" "row" false := ⟨by decide +kernel⟩
instance : DecS "has" "has" true := ⟨by decide +kernel⟩
instance : DecS "has" "eq" false := ⟨by decide +kernel⟩
instance : DecS "has" "less" false := ⟨by decide +kernel⟩
instance : DecS "has" "not" false := ⟨by decide +kernel⟩
instance : DecS "has" "all" false := ⟨by decide +kernel⟩
instance : DecS "has" "any" false := ⟨by decide +kernel⟩
instance : DecS "has" "test" false := ⟨by decide +kernel⟩
instance : DecS "eq" "row" false := ⟨by decide +kernel⟩
instance : DecS "eq" "has" false := ⟨by decide +kernel⟩
instance : DecS "eq" "eq" true := ⟨by decide +kernel⟩
instance : DecS "eq" "less" false := ⟨by decide +kernel⟩
instance : DecS "eq" "not" false := ⟨by decide +kernel⟩
instance : DecS "eq" "all" false := ⟨by decide +kernel⟩
instance : DecS "eq" "any" false := ⟨by decide +kernel⟩
instance : DecS "eq" "test" false := ⟨by decide +kernel⟩
instance : DecS "less" "row" false := ⟨by decide +kernel⟩
instance : DecS "less" "has" false := ⟨by decide +kernel⟩
instance : DecS "less" "eq" false := ⟨by decide +kernel⟩
instance : DecS "less" "less" true := ⟨by decide +kernel⟩
instance : DecS "less" "not" false := ⟨by decide +kernel⟩
instance : DecS "less" "all" false := ⟨by decide +kernel⟩
instance : DecS "less" "any" false := ⟨by decide +kernel⟩
instance : DecS "less" "test" false := ⟨by decide +kernel⟩
instance : DecS "not" "row" false := ⟨by decide +kernel⟩
instance : DecS "not" "has" false := ⟨by decide +kernel⟩
instance : DecS "not" "eq" false := ⟨by decide +kernel⟩
instance : DecS "not" "less" false := ⟨by decide +kernel⟩
instance : DecS "not" "not" true := ⟨by decide +kernel⟩
instance : DecS "not" "all" false := ⟨by decide +kernel⟩
instance : DecS "not" "any" false := ⟨by decide +kernel⟩
instance : DecS "not" "test" false := ⟨by decide +kernel⟩
instance : DecS "all" "row" false := ⟨by decide +kernel⟩
instance : DecS "all" "has" false := ⟨by decide +kernel⟩
instance : DecS "all" "eq" false := ⟨by decide +kernel⟩
instance : DecS "all" "less" false := ⟨by decide +kernel⟩
instance : DecS "all" "not" false := ⟨by decide +kernel⟩
instance : DecS "all" "all" true := ⟨by decide +kernel⟩
instance : DecS "all" "any" false := ⟨by decide +kernel⟩
instance : DecS "all" "test" false := ⟨by decide +kernel⟩
instance : DecS "any" "row" false := ⟨by decide +kernel⟩
instance : DecS "any" "has" false := ⟨by decide +kernel⟩
instance : DecS "any" "eq" false := ⟨by decide +kernel⟩
instance : DecS "any" "less" false := ⟨by decide +kernel⟩
instance : DecS "any" "not" false := ⟨by decide +kernel⟩
instance : DecS "any" "all" false := ⟨by decide +kernel⟩
instance : DecS "any" "any" true := ⟨by decide +kernel⟩
instance : DecS "any" "test" false := ⟨by decide +kernel⟩
instance : DecS "test" "row" false := ⟨by decide +kernel⟩
instance : DecS "test" "has" false := ⟨by decide +kernel⟩
instance : DecS "test" "eq" false := ⟨by decide +kernel⟩
instance : DecS "test" "less" false := ⟨by decide +kernel⟩
instance : DecS "test" "not" false := ⟨by decide +kernel⟩
instance : DecS "test" "all" false := ⟨by decide +kernel⟩
instance : DecS "test" "any" false := ⟨by decide +kernel⟩
instance : DecS "test" "test" true := ⟨by decide +kernel⟩
instance : DecS "yes" "yes" true := ⟨by decide +kernel⟩
instance : DecS "yes" "no" false := ⟨by decide +kernel⟩
instance : DecS "yes" "fault" false := ⟨by decide +kernel⟩
instance : DecS "no" "yes" false := ⟨by decide +kernel⟩
instance : DecS "no" "no" true := ⟨by decide +kernel⟩
instance : DecS "no" "fault" false := ⟨by decide +kernel⟩
instance : DecS "fault" "yes" false := ⟨by decide +kernel⟩
instance : DecS "fault" "no" false := ⟨by decide +kernel⟩
instance : DecS "fault" "fault" true := ⟨by decide +kernel⟩
instance : DecS "put" "put" true := ⟨by decide +kernel⟩
instance : DecS "put" "strike" false := ⟨by decide +kernel⟩
instance : DecS "put" "add" false := ⟨by decide +kernel⟩
instance : DecS "put" "drop" false := ⟨by decide +kernel⟩
instance : DecS "put" "rename" false := ⟨by decide +kernel⟩
instance : DecS "strike" "put" false := ⟨by decide +kernel⟩
instance : DecS "strike" "strike" true := ⟨by decide +kernel⟩
instance : DecS "strike" "add" false := ⟨by decide +kernel⟩
instance : DecS "strike" "drop" false := ⟨by decide +kernel⟩
instance : DecS "strike" "rename" false := ⟨by decide +kernel⟩
instance : DecS "add" "put" false := ⟨by decide +kernel⟩
instance : DecS "add" "strike" false := ⟨by decide +kernel⟩
instance : DecS "add" "add" true := ⟨by decide +kernel⟩
instance : DecS "add" "drop" false := ⟨by decide +kernel⟩
instance : DecS "add" "rename" false := ⟨by decide +kernel⟩
instance : DecS "drop" "put" false := ⟨by decide +kernel⟩
instance : DecS "drop" "strike" false := ⟨by decide +kernel⟩
instance : DecS "drop" "add" false := ⟨by decide +kernel⟩
instance : DecS "drop" "drop" true := ⟨by decide +kernel⟩
instance : DecS "drop" "rename" false := ⟨by decide +kernel⟩
instance : DecS "rename" "put" false := ⟨by decide +kernel⟩
instance : DecS "rename" "strike" false := ⟨by decide +kernel⟩
instance : DecS "rename" "add" false := ⟨by decide +kernel⟩
instance : DecS "rename" "drop" false := ⟨by decide +kernel⟩
instance : DecS "rename" "rename" true := ⟨by decide +kernel⟩
instance : DecS "parted" "parted" true := ⟨by decide +kernel⟩
instance : DecS "by_moment" "by_moment" true := ⟨by decide +kernel⟩
instance : DecS "answer" "answer" true := ⟨by decide +kernel⟩
instance : DecS "answer" "rows" false := ⟨by decide +kernel⟩
instance : DecS "rows" "answer" false := ⟨by decide +kernel⟩
instance : DecS "rows" "rows" true := ⟨by decide +kernel⟩
instance : DecS "cuts" "cuts" true := ⟨by decide +kernel⟩
instance : DecS "cuts" "has_row" false := ⟨by decide +kernel⟩
instance : DecS "cuts" "cells" false := ⟨by decide +kernel⟩
instance : DecS "has_row" "cuts" false := ⟨by decide +kernel⟩
instance : DecS "has_row" "has_row" true := ⟨by decide +kernel⟩
instance : DecS "has_row" "cells" false := ⟨by decide +kernel⟩
instance : DecS "cells" "cuts" false := ⟨by decide +kernel⟩
instance : DecS "cells" "has_row" false := ⟨by decide +kernel⟩
instance : DecS "cells" "cells" true := ⟨by decide +kernel⟩
instance : DecS "told" "told" true := ⟨by decide +kernel⟩
instance : DecS "told" "later" false := ⟨by decide +kernel⟩
instance : DecS "told" "so_far" false := ⟨by decide +kernel⟩
instance : DecS "later" "told" false := ⟨by decide +kernel⟩
instance : DecS "later" "later" true := ⟨by decide +kernel⟩
instance : DecS "later" "so_far" false := ⟨by decide +kernel⟩
instance : DecS "so_far" "told" false := ⟨by decide +kernel⟩
instance : DecS "so_far" "later" false := ⟨by decide +kernel⟩
instance : DecS "so_far" "so_far" true := ⟨by decide +kernel⟩
instance : DecS "told" "answer" false := ⟨by decide +kernel⟩
instance : DecS "told" "outcome" false := ⟨by decide +kernel⟩
instance : DecS "told" "answers" false := ⟨by decide +kernel⟩
instance : DecS "answer" "told" false := ⟨by decide +kernel⟩
instance : DecS "answer" "outcome" false := ⟨by decide +kernel⟩
instance : DecS "answer" "answers" false := ⟨by decide +kernel⟩
instance : DecS "outcome" "told" false := ⟨by decide +kernel⟩
instance : DecS "outcome" "answer" false := ⟨by decide +kernel⟩
instance : DecS "outcome" "outcome" true := ⟨by decide +kernel⟩
instance : DecS "outcome" "answers" false := ⟨by decide +kernel⟩
instance : DecS "answers" "told" false := ⟨by decide +kernel⟩
instance : DecS "answers" "answer" false := ⟨by decide +kernel⟩
instance : DecS "answers" "outcome" false := ⟨by decide +kernel⟩
instance : DecS "answers" "answers" true := ⟨by decide +kernel⟩
theorem Ans.s_inj {a b : Ans} : decide (a.s = b.s) = decide (a = b) := by
  cases a <;> cases b <;> decide +kernel
instance {a b : Ans} : DecS a.s b.s (decide (a = b)) := ⟨Ans.s_inj⟩
/-! a condition in the heap -/
mutual
def CA (H : Hp) : Cond → V → Prop
  | .t t, v => ∃ a, v = .ref a ∧ H a = some (.tup t.vs)
  | .not c, v => ∃ a b, v = .ref a ∧ H a = some (.tup [.str "not", b]) ∧ CA H c b
  | .seq w cs, v => ∃ a p vs, v = .ref a ∧ H a = some (.tup [.str (wd w), .ref p]) ∧ H p = some (.tup vs) ∧ CAs H cs vs
def CAs (H : Hp) : List Cond → List V → Prop
  | [], vs => vs = []
  | c :: cs, vs => ∃ v r, vs = v :: r ∧ CA H c v ∧ CAs H cs r
end
mutual
theorem CA.mono {H H' : Hp} (e : Ext H H') : ∀ (c : Cond) (v : V), CA H c v → CA H' c v
  | .t t, v, h => by
    obtain ⟨a, rfl, h⟩ := h
    exact ⟨a, rfl, e.at h⟩
  | .not c, v, h => by
    obtain ⟨a, b, rfl, h, h2⟩ := h
    exact ⟨a, b, rfl, e.at h, CA.mono e c b h2⟩
  | .seq w cs, v, h => by
    obtain ⟨a, p, vs, rfl, h, h2, h3⟩ := h
    exact ⟨a, p, vs, rfl, e.at h, e.at h2, CAs.mono e cs vs h3⟩
theorem CAs.mono {H H' : Hp} (e : Ext H H') : ∀ (cs : List Cond) (vs : List V), CAs H cs vs → CAs H' cs vs
  | [], vs, h => h
  | c :: cs, vs, h => by
    obtain ⟨v, r, rfl, h, h2⟩ := h
    exact ⟨v, r, rfl, CA.mono e c v h, CAs.mono e cs r h2⟩
end
class TstAt (H : Hp) (v : V) (t : outParam Tst) : Prop where
  h : ∃ a, v = .ref a ∧ H a = some (.tup t.vs)
instance (priority := low) tst_ext {H0 H1 : Hp} {v : V} {t : Tst} [e : Ext H0 H1] [h : TstAt H0 v t] : TstAt H1 v t := ⟨by
  obtain ⟨a, x, y⟩ := h.h
  exact ⟨a, x, e.at y⟩⟩
class CndAt (H : Hp) (v : V) (c : outParam Cond) : Prop where
  h : CA H c v
instance (priority := low) cnd_ext {H0 H1 : Hp} {v : V} {c : Cond} [e : Ext H0 H1] [h : CndAt H0 v c] : CndAt H1 v c := ⟨CA.mono e c v h.h⟩
/-- items one by one -/
def Each {α : Type} (R : Hp → V → α → Prop) (H : Hp) (vs : List V) (ds : List α) : Prop := Paired (R H) vs ds
theorem Each.mono {α : Type} {R : Hp → V → α → Prop} {H H' : Hp} {vs : List V} {ds : List α} (h : Each R H vs ds) (f : ∀ v d, R H v d → R H' v d) : Each R H' vs ds := Paired.mapP h f
theorem Each.len {α : Type} {R : Hp → V → α → Prop} {H : Hp} {vs : List V} {ds : List α} (h : Each R H vs ds) : vs.length = ds.length := Paired.length h
theorem Each.get {α : Type} {R : Hp → V → α → Prop} {H : Hp} : ∀ {vs : List V} {ds : List α} {i : Nat} {v : V}, Each R H vs ds → vs[i]? = some v → ∃ d, ds[i]? = some d ∧ R H v d
  | _, _, _, _, .nil, e => by simp at e
  | _, _, 0, _, .cons r _, e => by simp at e; subst e; exact ⟨_, rfl, r⟩
  | _, _, i + 1, v, .cons _ t, e => by
    obtain ⟨u, h1, h2⟩ := Each.get (i := i) (v := v) t (by simpa using e)
    exact ⟨u, by simpa using h1, h2⟩
theorem Each.getD {α : Type} {R : Hp → V → α → Prop} {H : Hp} : ∀ {vs : List V} {ds : List α} {i : Nat} {d : α}, Each R H vs ds → ds[i]? = some d → ∃ v, vs[i]? = some v ∧ R H v d
  | _, _, _, _, .nil, e => by simp at e
  | _, _, 0, _, .cons r _, e => by simp at e; subst e; exact ⟨_, rfl, r⟩
  | _, _, i + 1, v, .cons _ t, e => by
    obtain ⟨u, h1, h2⟩ := Each.getD (i := i) (d := v) t (by simpa using e)
    exact ⟨u, by simpa using h1, h2⟩
theorem Each.snoc {α : Type} {R : Hp → V → α → Prop} {H : Hp} {v : V} {d : α} : ∀ {vs : List V} {ds : List α}, Each R H vs ds → R H v d → Each R H (vs ++ [v]) (ds ++ [d])
  | _, _, .nil, r => .cons r .nil
  | _, _, .cons a t, r => .cons a (Each.snoc t r)
theorem Each.append {α : Type} {R : Hp → V → α → Prop} {H : Hp} {us : List V} {es : List α} : ∀ {vs : List V} {ds : List α}, Each R H vs ds → Each R H us es → Each R H (vs ++ us) (ds ++ es)
  | _, _, .nil, r => r
  | _, _, .cons a t, r => .cons a (Each.append t r)
/-! cuts, pictures -/
abbrev Cuts := List (Str × List Int)
structure Pic where
  row : Bool
  cells : List V
def CutR (H : Hp) (kv : Key × V) (c : Str × List Int) : Prop := kv.1 = Sum.inr c.1 ∧ ∃ a, kv.2 = .ref a ∧ H a = some (.tup (c.2.map V.int))
class CutsAt (H : Hp) (v : V) (cs : outParam Cuts) : Prop where
  h : ∃ d kvs, v = .ref d ∧ H d = some (.dK kvs) ∧ Paired (CutR H) kvs cs
instance (priority := low) cuts_ext {H0 H1 : Hp} {v : V} {cs : Cuts} [e : Ext H0 H1] [h : CutsAt H0 v cs] : CutsAt H1 v cs := ⟨by
  obtain ⟨d, kvs, x, y, z⟩ := h.h
  exact ⟨d, kvs, x, e.at y, Paired.mapP z fun p q ⟨a, b, c, d⟩ => ⟨a, b, c, e.at d⟩⟩⟩
def PicR (H : Hp) (v : V) (p : Pic) : Prop := ∃ a b, v = .ref a ∧ H a = some (.tup [.bl p.row, .ref b]) ∧ H b = some (.tup p.cells)
class PicAt (H : Hp) (v : V) (p : outParam Pic) : Prop where
  h : PicR H v p
theorem PicR.mono {H0 H1 : Hp} {v : V} {p : Pic} (e : Ext H0 H1) (h : PicR H0 v p) : PicR H1 v p := by
  obtain ⟨a, b, x, y, z⟩ := h
  exact ⟨a, b, x, e.at y, e.at z⟩
instance (priority := low) pic_ext {H0 H1 : Hp} {v : V} {p : Pic} [e : Ext H0 H1] [h : PicAt H0 v p] : PicAt H1 v p := ⟨h.h.mono e⟩
/-- what a call promises that leaves all as it was and gives a new thing -/
def Ret (H : Hp) (Q : VK) (R : V → Hp → Prop) : Prop := ∀ r H', Ext H H' → R r H' → Q r H'

end PB
namespace PB
open PySem PySem.Spec PyProof.Rows L2
local macro_rules | `(tactic| walk_at "rd") => `(tactic| (repeat refine red ?_))
local macro_rules | `(tactic| walk_at "go") => `(tactic| (repeat (first | refine red ?_ | ((with_reducible apply k_var); rfl) | refine k_new fun _ _ => ?_ | refine wp_and rfl ?_ | refine if_redT rfl ?_ | refine if_redF rfl ?_)))

local macro_rules | `(tactic| walk_at "ext") => `(tactic| (repeat (first | assumption | exact Ext.refl _ | refine Ext.newI ?_ | refine Ext.trans ?_ ‹Ext _ _›)))
local macro_rules | `(tactic| walk_at "rv") => `(tactic| (repeat (first | refine red ?_ | ((with_reducible apply k_var); rfl))))
/-! ### hidden addresses -/
def Hid (D : Addr) (H : Hp) : Hp := fun b => if b = D then none else H b
theorem Hid.at {D a : Addr} {H : Hp} {o : HO} (h : H a = some o) (n : a ≠ D) : Hid D H a = some o := by
  unfold Hid
  rw [if_neg n]
  exact h
theorem Hid.sub (D : Addr) (H : Hp) : Ext (Hid D H) H := ⟨fun b o h => by
  unfold Hid at h
  by_cases e : b = D
  · rw [if_pos e] at h; cases h
  · rw [if_neg e] at h; exact h⟩
theorem Hid.mono {D : Addr} {H H' : Hp} (e : Ext H H') : Ext (Hid D H) (Hid D H') := ⟨fun b o h => by
  unfold Hid at *
  by_cases z : b = D
  · rw [if_pos z] at h; cases h
  · rw [if_neg z] at *; exact e.at h⟩
theorem Hid.upd (D : Addr) (H : Hp) (o : HO) : Hid D (upd H D o) = Hid D H := by
  funext b
  unfold Hid
  by_cases e : b = D
  · rw [if_pos e, if_pos e]
  · rw [if_neg e, if_neg e, upd_ne e]
theorem Hid.new {D : Addr} {H : Hp} (h : H D = none) : Ext H (Hid D H) := ⟨fun b o e => Hid.at e (ne_of_none e h)⟩
theorem ne_of_at {H : Hp} {a b : Addr} {o o' : HO} (h : H a = some o) (h' : H b = some o') (n : o ≠ o') : a ≠ b := fun e => by
  subst e
  rw [h] at h'
  exact n (by injection h')
theorem rd_inj {H : Hp} {a : Addr} {o o' : HO} (h : H a = some o) (h' : H a = some o') : o = o' := by rw [h] at h'; injection h'
/-! ### a turn's ends, all sources alike -/
def kWk (a : Addr) (n : Nat) (Y : Nat → Hp → V → Hp → Prop) (R : It → Hp → Prop) (H : Hp) : Prop := ∀ (J : It) (G : Hp → Prop), Walk J n G Y → (∀ H' : Hp, (∀ o, H a = some o → H' a = some o) → G H') → R J H
def kSeq (K : PySem.W.Frag) (x : V) (H : Hp) (R : It → Hp → Prop) : Prop := ∃ a xs, x = .ref a ∧ ((SqL K H a xs ∧ R (Itl K a) H) ∨ (SqT K H a xs ∧ R (Itt K a) H))
def iSeq (K : PySem.W.Frag) (te : TE) : TI := fun σ H R => te σ H fun x H1 => kSeq K x H1 R
section
variable {K : PySem.W.Frag} {H : Hp} {a : Addr} {xs : List V}
theorem sqL_ext {H' : Hp} (h : SqL K H a xs) (e : Ext H H') : SqL K H' a xs :=
  h.elim (fun h => .inl (h.elim (fun h => .inl (e.at h)) fun ⟨o, h⟩ => .inr ⟨o, e.at h⟩)) fun h => .inr h
theorem sqL_sub {H' : Hp} (h : SqL K H a xs) (e : ∀ o, H a = some o → H' a = some o) : SqL K H' a xs :=
  h.elim (fun h => .inl (h.elim (fun h => .inl (e _ h)) fun ⟨o, h⟩ => .inr ⟨o, e _ h⟩)) fun h => .inr h
theorem sqT_sub {H' : Hp} (h : SqT K H a xs) (e : ∀ o, H a = some o → H' a = some o) : SqT K H' a xs :=
  h.elim (fun h => .inl (h.elim (fun h => .inl (e _ h)) fun ⟨o, h⟩ => .inr ⟨o, e _ h⟩)) fun h => .inr h
theorem sqT_ext {H' : Hp} (h : SqT K H a xs) (e : Ext H H') : SqT K H' a xs :=
  h.elim (fun h => .inl (h.elim (fun h => .inl (e.at h)) fun ⟨o, h⟩ => .inr ⟨o, e.at h⟩)) fun h => .inr h
end
theorem pi_seq {X : Cx} {tg e : Expr} {te : TE} (he : PE X e te) : PI X tg e (iSeq X.K te) := by
  refine ⟨fun pins s σ H R I h => ?_⟩
  refine thn (he.run pins s σ H _ I h) fun v s1 ⟨x, H1, I1, r1, a, xs, ex, q⟩ => ?_
  subst ex
  cases r1
  rcases q with ⟨hq, q⟩ | ⟨hq, q⟩
  · obtain ⟨its, rv, p, hz⟩ := I1.list hq
    refine wpAny_pyIter_list p.isList ?_
    refine ⟨s1.heap.objs.size, [s1.heap.objs.size], _, _, H1, rfl, I1.kept (t' := s1.toks) fun b o e => Heap.get?_push_of_some _ e, turn_list a _, ⟨_, Heap.get?_push_size _ rfl, rfl, rfl⟩, fun b hb => ?_, q⟩
    have e : b = s1.heap.objs.size := by simpa using hb
    subst e
    exact I1.fpOk (Nat.le_refl _) (I1.hok.fresh (Nat.le_refl _))
  · obtain ⟨its, rv, p, hz⟩ := I1.tuple hq
    refine wpAny_pyIter_tuple (show s1.heap.IsTuple a its.toArray from p) ?_
    refine ⟨s1.heap.objs.size, [s1.heap.objs.size], _, _, H1, rfl, I1.kept (t' := s1.toks) fun b o e => Heap.get?_push_of_some _ e, turn_tuple a _, ⟨_, Heap.get?_push_size _ rfl, rfl, rfl⟩, fun b hb => ?_, q⟩
    have e : b = s1.heap.objs.size := by simpa using hb
    subst e
    exact I1.fpOk (Nat.le_refl _) (I1.hok.fresh (Nat.le_refl _))
def kLc (g : TG) (tt : TT) (te : TE) (vs : List Nat) (σ : L2.St) (Q : VK) (J : It) (H1 : Hp) : Prop := ∀ D, H1 D = none → ∃ W : Nat → Nat → Hp → Prop, (∃ m, W 0 m (upd H1 D (.lst []))) ∧ ∀ i m H, W i m H →
  (J.stop i H ∧ Q (.ref D) H) ∨ (J.go i H ∧ ∃ Nx : Hp → Prop, (∀ H', Nx H' → ∃ m', m' < m ∧ W (i + 1) m' H') ∧ ∀ x H', J.yld i H x H' → g x (wipe σ vs) H' fun σ2 H2 => wipe σ2 vs = wipe σ vs ∧ tt σ2 H2 fun b H3 =>
    if b = true then te σ2 H3 fun y H4 => ∃ acc, H4 D = some (.lst acc) ∧ acc.length < sizeLine ∧ Nx (upd H4 D (.lst (acc ++ [y]))) else Nx H3)
def kDc (g : TG) (tt : TT) (tk tv : TE) (vs : List Nat) (σ : L2.St) (Q : VK) (J : It) (H1 : Hp) : Prop := ∀ D, H1 D = none → ∃ W : Nat → Nat → Hp → Prop, (∃ m, W 0 m (upd H1 D (.dK []))) ∧ ∀ i m H, W i m H →
  (J.stop i H ∧ Q (.ref D) H) ∨ (J.go i H ∧ ∃ Nx : Hp → Prop, (∀ H', Nx H' → ∃ m', m' < m ∧ W (i + 1) m' H') ∧ ∀ x H', J.yld i H x H' → g x (wipe σ vs) H' fun σ2 H2 => wipe σ2 vs = wipe σ vs ∧ tt σ2 H2 fun b H3 =>
    if b = true then tk σ2 H3 fun y H4 => tv σ2 H4 fun z H5 => ∃ kvs k, y = kV k ∧ H5 D = some (.dK kvs) ∧ kvs.length < sizeLine ∧ Nx (upd H5 D (.dK (putK kvs k z))) else Nx H3)
def kFor (g : TG) (tb : TS) (D : Ends) (σ : L2.St) (J : It) (H1 : Hp) : Prop := ∃ W : Nat → Nat → L2.St → Hp → Prop, (∃ m, W 0 m σ H1) ∧ ∀ i m σ H, W i m σ H →
  (J.stop i H ∧ D.nx σ H) ∨ (J.go i H ∧ ∃ N : L2.St → Hp → Prop, (∀ σ' H', N σ' H' → ∃ m', m' < m ∧ W (i + 1) m' σ' H') ∧ ∀ x H', J.yld i H x H' → g x σ H' fun σ2 H2 => tb { D with nx := N, ct := N, bk := D.nx } σ2 H2)
section
variable {K : PySem.W.Frag} {σ : L2.St} {H : Hp} {Q : VK} {g : TG} {tt : TT} {te tk tv : TE} {tb : TS} {D : Ends} {wi : TI} {vs : List Nat} {n : Nat} {Y : Nat → Hp → V → Hp → Prop} {R : It → Hp → Prop} {a : Addr} {xs : List V}
instance : Red (tLc wi g tt te vs σ H Q) (wi σ H (kLc g tt te vs σ Q)) := ⟨id⟩
instance : Red (tDc wi g tt tk tv vs σ H Q) (wi σ H (kDc g tt tk tv vs σ Q)) := ⟨id⟩
instance : Red (tFor wi g tb D σ H) (wi σ H (kFor g tb D σ)) := ⟨id⟩
instance : Red (iSeq K te σ H R) (te σ H fun x H1 => kSeq K x H1 R) := ⟨id⟩
instance [s : Seq K H a xs] : Red (kSeq K (.ref a) H R) (kWk a xs.length (YAt xs) R H) := ⟨fun h => ⟨a, xs, rfl, s.h.elim
  (fun z => .inl ⟨z, h _ _ walk_list fun H' e => sqL_sub z e⟩) fun z => .inr ⟨z, h _ _ walk_tup fun H' e => sqT_sub z e⟩⟩⟩
theorem range_fm {β : Type} {f : Nat → Option β} {i : Nat} : (List.range (i + 1)).filterMap f = (List.range i).filterMap f ++ (f i).toList := by
  rw [List.range_succ, List.filterMap_append]
  cases h : f i <;> simp [h]
theorem lc_go {β : Type} (R : Hp → V → β → Prop) (mono : ∀ {H H' : Hp} {v : V} {b : β}, Ext H H' → R H v b → R H' v b) (out : Nat → Option β) (hn : n ≤ sizeLine)
    (step : ∀ i x H1 H2 D, i < n → Ext H H1 → New H D → (∃ acc, H1 D = some (.lst acc)) → Y i H1 x H2 → ∀ (N1 : VK) (N2 : Hp → Prop), (∀ y H4 r, Ext H1 H4 → out i = some r → R (Hid D H4) y r → N1 y H4) → (∀ H3, Ext H1 H3 → out i = none → N2 H3) →
      g x (wipe σ vs) H2 fun σ2 H2 => wipe σ2 vs = wipe σ vs ∧ tt σ2 H2 fun b H3 => if b = true then te σ2 H3 N1 else N2 H3)
    (done : ∀ D H' ys, New H D → Ext H H' → H' D = some (.lst ys) → Each R (Hid D H') ys ((List.range n).filterMap out) → Q (.ref D) H') : kWk a n Y (kLc g tt te vs σ Q) H := by
  intro J G w hG D hD
  have e0 : Ext H (upd H D (.lst [])) := (Ext.refl H).new hD
  refine lc_it w (fun i H' => Ext H H' ∧ ∃ acc, H' D = some (.lst acc) ∧ acc.length ≤ i ∧ Each R (Hid D H') acc ((List.range i).filterMap out)) ⟨e0, [], upd_same, Nat.le_refl _, .nil⟩ (fun i H' _ p => hG H' fun o => p.1.h a o) ?_ ?_
  · rintro i x H1 H2 hi ⟨e1, acc, hA, hl, hE⟩ hy
    refine step i x H1 H2 D hi e1 ⟨hD⟩ ⟨acc, hA⟩ hy _ _ (fun y H4 r e4 ho hr => ⟨acc, e4.at hA, by omega, ?_⟩) fun H3 e3 ho => ⟨e1.trans e3, acc, e3.at hA, by omega, ?_⟩
    · refine ⟨(e1.trans e4).mut hD, acc ++ [y], upd_same, by simp; omega, ?_⟩
      rw [Hid.upd, range_fm, ho]
      exact Each.snoc (hE.mono fun v d => mono (Hid.mono e4)) hr
    · rw [range_fm, ho]
      show Each R (Hid D H3) acc ((List.range i).filterMap out ++ [])
      rw [List.append_nil]
      exact hE.mono fun v d => mono (Hid.mono e3)
  · rintro H' ⟨e1, acc, hA, _, hE⟩
    exact done D H' acc ⟨hD⟩ e1 hA hE
/-- putK by what is meant -/
def putB {β : Type} (kvs : List (Key × β)) (k : Key) (b : β) : List (Key × β) := if (kvs.any fun kv => decide (kv.1 = k)) = true then kvs.map (fun kv => if kv.1 = k then (kv.1, b) else kv) else kvs ++ [(k, b)]
def KR {β : Type} (R : Hp → V → β → Prop) (H : Hp) (kv : Key × V) (d : Key × β) : Prop := kv.1 = d.1 ∧ R H kv.2 d.2
theorem putB_ok {β : Type} {R : Hp → V → β → Prop} {H : Hp} {k : Key} {v : V} {b : β} (r : R H v b) {kvs : List (Key × V)} {ds : List (Key × β)} (h : Paired (KR R H) kvs ds) : Paired (KR R H) (putK kvs k v) (putB ds k b) := by
  have e : (kvs.any fun kv => decide (kv.1 = k)) = (ds.any fun kv => decide (kv.1 = k)) := by
    induction h with
    | nil => rfl
    | cons a _ ih => simp only [List.any_cons, ih, a.1]
  unfold putK putB
  rw [e]
  split
  · rename_i hx
    clear hx e
    induction h with
    | nil => exact .nil
    | @cons p q l1 l2 a _ ih =>
      refine .cons ?_ ih
      show KR R H (if p.1 = k then (p.1, v) else p) (if q.1 = k then (q.1, b) else q)
      rw [a.1]
      split
      · exact ⟨rfl, r⟩
      · exact a
  · exact Paired.snoc h ⟨rfl, r⟩
theorem range_fold {α : Type} {f : α → Nat → α} {a : α} {i : Nat} : (List.range (i + 1)).foldl f a = f ((List.range i).foldl f a) i := by
  rw [List.range_succ, List.foldl_append]; rfl
def dcB {β : Type} (out : Nat → Option (Key × β)) (acc : List (Key × β)) (i : Nat) : List (Key × β) := match out i with
  | some kb => putB acc kb.1 kb.2
  | none => acc
theorem dc_go {β : Type} (R : Hp → V → β → Prop) (mono : ∀ {H H' : Hp} {v : V} {b : β}, Ext H H' → R H v b → R H' v b) (out : Nat → Option (Key × β)) (hn : n ≤ sizeLine)
    (step : ∀ i x H1 H2 D, i < n → Ext H H1 → New H D → (∃ kvs, H1 D = some (.dK kvs)) → Y i H1 x H2 → ∀ (N1 : V → V → Hp → Prop) (N2 : Hp → Prop), (∀ k z H4 r, Ext H1 H4 → out i = some (k, r) → R (Hid D H4) z r → N1 (kV k) z H4) → (∀ H3, Ext H1 H3 → out i = none → N2 H3) →
      g x (wipe σ vs) H2 fun σ2 H2 => wipe σ2 vs = wipe σ vs ∧ tt σ2 H2 fun b H3 => if b = true then tk σ2 H3 fun y H4 => tv σ2 H4 (N1 y) else N2 H3)
    (done : ∀ D H' kvs, New H D → Ext H H' → H' D = some (.dK kvs) → Paired (KR R (Hid D H')) kvs ((List.range n).foldl (dcB out) []) → Q (.ref D) H') : kWk a n Y (kDc g tt tk tv vs σ Q) H := by
  intro J G w hG D hD
  have e0 : Ext H (upd H D (.dK [])) := (Ext.refl H).new hD
  have key : ∀ (Pv : Nat → Hp → Prop) (_ : Pv 0 (upd H D (.dK []))) (_ : ∀ i H, i ≤ n → Pv i H → G H)
    (_ : ∀ i x H H', i < n → Pv i H → Y i H x H' → g x (wipe σ vs) H' fun σ2 H2 => wipe σ2 vs = wipe σ vs ∧ tt σ2 H2 fun b H3 =>
      if b = true then tk σ2 H3 fun y H4 => tv σ2 H4 fun z H5 => ∃ kvs k, y = kV k ∧ H5 D = some (.dK kvs) ∧ kvs.length < sizeLine ∧ Pv (i + 1) (upd H5 D (.dK (putK kvs k z))) else Pv (i + 1) H3) (_ : ∀ H, Pv n H → Q (.ref D) H),
    ∃ W : Nat → Nat → Hp → Prop, (∃ m, W 0 m (upd H D (.dK []))) ∧ ∀ i m H, W i m H →
      (J.stop i H ∧ Q (.ref D) H) ∨ (J.go i H ∧ ∃ Nx : Hp → Prop, (∀ H', Nx H' → ∃ m', m' < m ∧ W (i + 1) m' H') ∧ ∀ x H', J.yld i H x H' → g x (wipe σ vs) H' fun σ2 H2 => wipe σ2 vs = wipe σ vs ∧ tt σ2 H2 fun b H3 =>
        if b = true then tk σ2 H3 fun y H4 => tv σ2 H4 fun z H5 => ∃ kvs k, y = kV k ∧ H5 D = some (.dK kvs) ∧ kvs.length < sizeLine ∧ Nx (upd H5 D (.dK (putK kvs k z))) else Nx H3) := by
    intro Pv h0 hG hs hd
    refine ⟨fun i m H => m = n - i ∧ i ≤ n ∧ Pv i H, ⟨n, by simp, Nat.zero_le _, h0⟩, ?_⟩
    rintro i m H ⟨rfl, hi, p⟩
    have q := hG i H hi p
    by_cases hlt : i < n
    · refine .inr ⟨w.goes i H hlt q, Pv (i + 1), fun H' p' => ⟨n - (i + 1), by omega, rfl, hlt, p'⟩, fun x H' y => hs i x H H' hlt p (w.yields i H x H' hlt q y)⟩
    · have e : i = n := by omega
      subst e
      exact .inl ⟨w.stops H q, hd H p⟩
  refine key (fun i H' => Ext H H' ∧ ∃ kvs, H' D = some (.dK kvs) ∧ kvs.length ≤ i ∧ Paired (KR R (Hid D H')) kvs ((List.range i).foldl (dcB out) [])) ⟨e0, [], upd_same, Nat.le_refl _, .nil⟩ (fun i H' _ p => hG H' fun o => p.1.h a o) ?_ ?_
  · rintro i x H1 H2 hi ⟨e1, kvs, hA, hl, hE⟩ hy
    refine step i x H1 H2 D hi e1 ⟨hD⟩ ⟨kvs, hA⟩ hy _ _ (fun k z H4 r e4 ho hr => ⟨kvs, k, rfl, e4.at hA, by omega, ?_⟩) fun H3 e3 ho => ⟨e1.trans e3, kvs, e3.at hA, by omega, ?_⟩
    · refine ⟨(e1.trans e4).mut hD, _, upd_same, by have := length_putK kvs k z; omega, ?_⟩
      rw [Hid.upd, range_fold]
      unfold dcB
      rw [ho]
      exact putB_ok hr (Paired.mapP hE fun v d q => ⟨q.1, mono (Hid.mono e4) q.2⟩)
    · rw [range_fold]
      unfold dcB
      rw [ho]
      exact Paired.mapP hE fun v d q => ⟨q.1, mono (Hid.mono e3) q.2⟩
  · rintro H' ⟨e1, acc, hA, _, hE⟩
    exact done D H' acc ⟨hD⟩ e1 hA hE
theorem for_go (Pv : Nat → L2.St → Hp → Prop) (h0 : Pv 0 σ H) (hE : ∀ i σ' H', i ≤ n → Pv i σ' H' → ∀ o, H a = some o → H' a = some o)
    (hs : ∀ i x σ' H1 H2, i < n → Pv i σ' H1 → Y i H1 x H2 → g x σ' H2 fun σ2 H3 => tb { D with nx := Pv (i + 1), ct := Pv (i + 1), bk := D.nx } σ2 H3) (hd : ∀ σ' H', Pv n σ' H' → D.nx σ' H') : kWk a n Y (kFor g tb D σ) H := by
  intro J G w hG
  exact for_it w Pv h0 (fun i σ' H' hi p => hG H' (hE i σ' H' hi p)) hs hd
end
/-! more readings by their heads -/
section
variable {K : PySem.W.Frag} {σ : L2.St} {H : Hp} {Q : VK} {td ty tx ta : TE} {x y v : V} {r : V → Option Int → Option Int → Hp → VK → Prop} {tl th : TO} {a : Addr} {kvs : List (Key × V)} {xs : List V}
def kDG (y : V) (x : V) (H : Hp) (Q : VK) : Prop := ∃ a v, x = .ref a ∧ DGet H a y (some v) ∧ Q v H
def kDI (f : Bool → Bool) (y : V) (x : V) (H : Hp) (Q : VK) : Prop := ∃ a o, x = .ref a ∧ DGet H a y o ∧ Q (.bl (f o.isSome)) H
instance : Red (tDGet td ty σ H Q) (td σ H fun x H1 => ty σ H1 fun y H2 => kDG y x H2 Q) := ⟨id⟩
instance : Red (tDIn ty td σ H Q) (ty σ H fun y H1 => td σ H1 fun x H2 => kDI id y x H2 Q) := ⟨id⟩
instance : Red (tDNotIn ty td σ H Q) (ty σ H fun y H1 => td σ H1 fun x H2 => kDI not y x H2 Q) := ⟨id⟩
instance : Red (tDNewK σ H Q) (kNew (.dK []) H Q) := ⟨fun h p hp => h p ⟨hp⟩⟩
instance : Red (tDNewT σ H Q) (kNew (.dT []) H Q) := ⟨fun h p hp => h p ⟨hp⟩⟩
instance : Red (tSl r ta tl th σ H Q) (ta σ H fun x H1 => tl σ H1 fun l H2 => th σ H2 fun u H3 => r x l u H3 Q) := ⟨id⟩
instance {QO : Option Int → Hp → Prop} : Red (tNoPart σ H QO) (QO none H) := ⟨id⟩
def kPt (x : V) (H : Hp) (QO : Option Int → Hp → Prop) : Prop := ∃ i, x = .int i ∧ QO (some i) H
instance {QO : Option Int → Hp → Prop} : Red (tPart ta σ H QO) (ta σ H fun x H1 => kPt x H1 QO) := ⟨id⟩
instance {i : Int} {QO : Option Int → Hp → Prop} : Red (kPt (.int i) H QO) (QO (some i) H) := ⟨fun h => ⟨i, rfl, h⟩⟩
/-- what a dict holds at a key -/
class DVal (kvs : List (Key × V)) (y : V) (o : outParam (Option V)) : Prop where
  h : ∃ k, y = kV k ∧ valV kvs k = o
instance [s : At H a (.dK kvs)] [d : DVal kvs y (some v)] : Red (kDG y (.ref a) H Q) (Q v H) := ⟨fun h => by
  obtain ⟨k, rfl, e⟩ := d.h
  exact ⟨a, v, rfl, e ▸ DGet.k s.h, h⟩⟩
instance {f : Bool → Bool} {o : Option V} [s : At H a (.dK kvs)] [d : DVal kvs y o] : Red (kDI f y (.ref a) H Q) (Q (.bl (f o.isSome)) H) := ⟨fun h => by
  obtain ⟨k, rfl, e⟩ := d.h
  exact ⟨a, o, rfl, e ▸ DGet.k s.h, h⟩⟩
instance {i : Int} : DVal [] (.int i) none := ⟨.inl i, rfl, rfl⟩
instance {z : Str} : DVal [] (.str z) none := ⟨.inr z, rfl, rfl⟩
end
/-! isinstance with list, tuple -/
instance isiT_lst {K : PySem.W.Frag} {H : Hp} {Q : VK} {a p : Addr} {xs : List V} [s : At H a (.lst xs)] [t : At H p (.tup [.ty "list", .ty "tuple"])] : Red (rIsiT K [.ref a, .ref p] H Q) (Q (.bl true) H) := ⟨fun h =>
  ⟨.ref a, p, _, _, _, true, rfl, t.h, .cons (.ty "list") (.cons (.ty "tuple") .nil), .base (.lst s.h), kitAny_cons (kit_ty (show _ = some true by decide +kernel)) (fun e => by cases e) (fun _ => rfl), h⟩⟩
/-! new things -/
theorem k_new {o : HO} {H : Hp} {Q : VK} (h : ∀ p, New H p → Q (.ref p) (upd H p o)) : kNew o H Q := h
theorem Ext.newI {H H1 : Hp} {p : Addr} {o : HO} [n : New H1 p] (a : Ext H H1) : Ext H (upd H1 p o) := a.new n.h
/-! comprehensions over nothing -/
section
variable {a : Addr} {σ : L2.St} {H : Hp} {Q : VK} {g : TG} {tt : TT} {te tk tv : TE} {tb : TS} {D : Ends} {vs : List Nat} {Y : Nat → Hp → V → Hp → Prop}
theorem dc_nil (h : kNew (.dK []) H Q) : kWk a 0 Y (kDc g tt tk tv vs σ Q) H := by
  intro J G w hG D hD
  exact ⟨fun i m H' => i = 0 ∧ H' = upd H D (.dK []), ⟨0, rfl, rfl⟩, fun i m H' z => by
    obtain ⟨rfl, rfl⟩ := z
    exact .inl ⟨w.stops _ (hG _ fun o => ((Ext.refl H).new hD).h a o), h D ⟨hD⟩⟩⟩
theorem lc_nil (h : kNew (.lst []) H Q) : kWk a 0 Y (kLc g tt te vs σ Q) H := by
  intro J G w hG D hD
  exact ⟨fun i m H' => i = 0 ∧ H' = upd H D (.lst []), ⟨0, rfl, rfl⟩, fun i m H' z => by
    obtain ⟨rfl, rfl⟩ := z
    exact .inl ⟨w.stops _ (hG _ fun o => ((Ext.refl H).new hD).h a o), h D ⟨hD⟩⟩⟩
theorem for_nil (h : D.nx σ H) : kWk a 0 Y (kFor g tb D σ) H := by
  intro J G w hG
  exact ⟨fun i m σ' H' => i = 0 ∧ H' = H ∧ σ' = σ, ⟨0, rfl, rfl, rfl⟩, fun i m σ' H' z => by
    obtain ⟨rfl, rfl, rfl⟩ := z
    exact .inl ⟨w.stops _ (hG _ fun _ h => h), h⟩⟩
end
theorem if_redT {b : Bool} {A B : Prop} (e : b = true) (h : A) : if b = true then A else B := by subst e; exact iteT h
theorem if_redF {b : Bool} {A B : Prop} (e : b = false) (h : B) : if b = true then A else B := by subst e; exact iteF h
/-! values from a list that is made -/
def VR {β : Type} (f : β → V) : Hp → V → β → Prop := fun _ v b => v = f b
theorem each_val {β : Type} {f : β → V} {H : Hp} : ∀ {ys : List V} {bs : List β}, Each (VR f) H ys bs → ys = bs.map f
  | _, _, .nil => rfl
  | _, _, .cons a t => by rw [List.map_cons, ← each_val t, a]
theorem each_of {β : Type} {f : β → V} {H : Hp} : ∀ {bs : List β}, Each (VR f) H (bs.map f) bs
  | [] => .nil
  | _ :: _ => .cons rfl each_of
section
variable {K : PySem.W.Frag} {H : Hp} {Q : VK} {x : Str} {R : It → Hp → Prop}
def kStr (v : V) (H : Hp) (R : It → Hp → Prop) : Prop := ∃ x, v = .str x ∧ R (Its x) H
def YStr (z : Str) : Nat → Hp → V → Hp → Prop := fun i H v H' => H' = H ∧ ∃ c, z.cps[i]? = some c ∧ v = .str ⟨#[c]⟩
instance {te : TE} {σ : L2.St} : Red (iStr te σ H R) (te σ H fun v H1 => kStr v H1 R) := ⟨id⟩
instance : Red (kStr (.str x) H R) (kWk 0 x.cps.size (YStr x) R H) := ⟨fun h => ⟨x, rfl, h _ _ walk_str fun _ _ => True.intro⟩⟩
/-- all of a list of truths -/
theorem all_true {a : Addr} {ys : List V} (h : H a = some (.lst ys)) (t : ∀ v, v ∈ ys → v = .bl true) (q : Q (.bl true) H) : rAll K [.ref a] H Q := by
  have e : ys = (List.replicate ys.length true).map V.bl := by
    clear h
    induction ys with
    | nil => rfl
    | cons y r ih =>
      have e1 := t y List.mem_cons_self
      have e2 := ih fun v m => t v (List.mem_cons_of_mem _ m)
      subst e1
      show V.bl true :: r = V.bl true :: (List.replicate r.length true).map V.bl
      rw [← e2]
  have e2 : ∀ n, (List.replicate n true).all id = true := fun n => by
    induction n with
    | zero => rfl
    | succ n ih => rw [List.replicate_succ, List.all_cons, ih]; rfl
  refine ⟨a, List.replicate ys.length true, rfl, .inl (.inl ?_), ?_⟩
  · rw [← e]; exact h
  · rw [e2]; exact q
end
theorem mem_fm_true {n : Nat} {ys : List V} {H : Hp} (h : Each (VR V.bl) H ys ((List.range n).filterMap fun _ => some true)) : ∀ v, v ∈ ys → v = .bl true := by
  rw [each_val h]
  intro v m
  obtain ⟨b, hb, rfl⟩ := List.mem_map.mp m
  obtain ⟨i, _, e⟩ := List.mem_filterMap.mp hb
  injection e with e
  rw [← e]
theorem wp_and {σ σ' : L2.St} {P : Prop} (e : σ = σ') (h : P) : σ = σ' ∧ P := ⟨e, h⟩
instance {σ : L2.St} {H : Hp} {QB : Bool → Hp → Prop} : Red (tYes σ H QB) (QB true H) := ⟨id⟩
/-- is a sign among the signs of a text -/
def kSign (x y : V) (H : Hp) (Q : VK) : Prop := ∃ (c : Nat) (z : Str), x = V.str ⟨#[c]⟩ ∧ y = V.str z ∧ Q (.bl (decide (c ∈ z.cps.toList))) H
theorem op_sign {X : Cx} : OpR X (compareOp .In) kSign := op_in_sign
instance {c : Nat} {z : Str} {H : Hp} {Q : VK} : Red (kSign (.str ⟨#[c]⟩) (.str z) H Q) (Q (.bl (decide (c ∈ z.cps.toList))) H) := ⟨fun h => ⟨c, z, rfl, rfl, h⟩⟩
/-! ### dicts that are walked -/
def kUn (d : Addr) (o u : HO) (Q : VK) : VK := fun v H' => H' d = some o ∧ Q v (upd H' d u)
theorem lock_in {t : TE} {σ : L2.St} {H : Hp} {Q : VK} {d : Addr} {kvs : List (Key × V)} (hd : H d = some (.dK kvs))
    (h : ∀ od, t σ (upd H d (.frz od (.dK kvs))) (kUn d (.frz od (.dK kvs)) (.dK kvs) Q)) : tLockE t σ H Q := ⟨d, .dK kvs, hd, True.intro, h⟩
theorem lock_inS {t : TS} {σ : L2.St} {H : Hp} {D : Ends} {d : Addr} {kvs : List (Key × V)} (hd : H d = some (.dK kvs))
    (h : ∀ od, t ⟨fun σ' H' => H' d = some (.frz od (.dK kvs)) ∧ D.nx σ' (upd H' d (.dK kvs)), fun v H' => H' d = some (.frz od (.dK kvs)) ∧ D.rt v (upd H' d (.dK kvs)), fun σ' H' => H' d = some (.frz od (.dK kvs)) ∧ D.bk σ' (upd H' d (.dK kvs)), fun σ' H' => H' d = some (.frz od (.dK kvs)) ∧ D.ct σ' (upd H' d (.dK kvs))⟩ σ (upd H d (.frz od (.dK kvs)))) : tLock t D σ H := ⟨d, .dK kvs, hd, True.intro, h⟩
theorem unlock {H H' : Hp} {d : Addr} {o u : HO} (hd : H d = some u) (e : Ext (upd H d o) H') : Ext H (upd H' d u) := ⟨fun b v hb => by
  by_cases z : b = d
  · subst z
    rw [upd_same]
    rw [hd] at hb
    exact hb
  · rw [upd_ne z]
    exact e.at (by rw [upd_ne z]; exact hb)⟩
theorem unlock_at {H H' : Hp} {d D : Addr} {o u x : HO} (n : New (upd H d o) D) (h : H' D = some x) : At (upd H' d u) D x := ⟨by
  have z : D ≠ d := fun z => by
    have q := n.h
    rw [z, upd_same] at q
    cases q
  rw [upd_ne z]
  exact h⟩
theorem hid_unlock (d : Addr) (H : Hp) (u : HO) : Ext (Hid d H) (upd H d u) := ⟨fun b v hb => by
  unfold Hid at hb
  by_cases z : b = d
  · rw [if_pos z] at hb; cases hb
  · rw [if_neg z] at hb
    rw [upd_ne z]
    exact hb⟩
instance (priority := low) ext_hid {d : Addr} {H : Hp} {u : HO} : Ext (Hid d H) (upd H d u) := hid_unlock d H u
theorem at_hid {H : Hp} {d a : Addr} {o u : HO} (h : H a = some o) (hd : H d = some u) (n : o ≠ u) : At (Hid d H) a o := ⟨Hid.at h (ne_of_at h hd n)⟩
section
variable {K : PySem.W.Frag} {σ : L2.St} {H : Hp} {R : It → Hp → Prop} {td : TE} {d : Addr} {od : Obj} {kvs : List (Key × V)} {ta : TA}
def YKeys (kvs : List (Key × V)) : Nat → Hp → V → Hp → Prop := fun i H x H' => H' = H ∧ ∃ k v, kvs[i]? = some (k, v) ∧ x = kV k
def YVals (kvs : List (Key × V)) : Nat → Hp → V → Hp → Prop := fun i H x H' => H' = H ∧ ∃ k, kvs[i]? = some (k, x)
def YItems (kvs : List (Key × V)) : Nat → Hp → V → Hp → Prop := fun i H v H' => ∃ T k x, v = .ref T ∧ New H T ∧ H' = upd H T (.tup [kV k, x]) ∧ kvs[i]? = some (k, x)
def kKeys (x : V) (H : Hp) (R : It → Hp → Prop) : Prop := ∃ d o, x = .ref d ∧ ((∃ kvs, H d = some (.frz o (.dK kvs)) ∧ R (Itk d o kvs) H) ∨ ∃ kvs, H d = some (.frz o (.dT kvs)) ∧ R (Itkt d o kvs) H)
def kVals (x : V) (H : Hp) (R : It → Hp → Prop) : Prop := ∃ d o kvs, x = .ref d ∧ H d = some (.frz o (.dK kvs)) ∧ R (Itd d o kvs) H
def kItems (x : V) (H : Hp) (R : It → Hp → Prop) : Prop := ∃ d o kvs, x = .ref d ∧ H d = some (.frz o (.dK kvs)) ∧ R (Iti d o kvs) H
instance : Red (iKeys td σ H R) (td σ H fun x H1 => kKeys x H1 R) := ⟨id⟩
instance : Red (iVals td σ H R) (td σ H fun x H1 => kVals x H1 R) := ⟨id⟩
instance : Red (iItems td σ H R) (td σ H fun x H1 => kItems x H1 R) := ⟨id⟩
instance [s : At H d (.frz od (.dK kvs))] : Red (kKeys (.ref d) H R) (kWk d kvs.length (YKeys kvs) R H) := ⟨fun h => ⟨d, od, rfl, .inl ⟨kvs, s.h, h _ _ walk_keys fun _ e => e _ s.h⟩⟩⟩
instance [s : At H d (.frz od (.dK kvs))] : Red (kVals (.ref d) H R) (kWk d kvs.length (YVals kvs) R H) := ⟨fun h => ⟨d, od, kvs, rfl, s.h, h _ _ walk_values fun _ e => e _ s.h⟩⟩
instance [s : At H d (.frz od (.dK kvs))] : Red (kItems (.ref d) H R) (kWk d kvs.length (YItems kvs) R H) := ⟨fun h => ⟨d, od, kvs, rfl, s.h, h _ _ (walk_items.mono (fun _ h => h) fun i H x H' _ _ y => by
  obtain ⟨T, a, b, e1, e2, e3, e4, e5⟩ := y
  dsimp only at e4 e5
  cases q : kvs[i]? with
  | none => rw [q] at e4; cases e4
  | some p =>
    rw [q] at e4 e5
    cases e4
    cases e5
    exact ⟨T, p.1, p.2, e1, ⟨e2⟩, e3, q⟩) fun _ e => e _ s.h⟩⟩
/-! enumerate -/
def YEnum (xs : List V) : Nat → Hp → V → Hp → Prop := fun i H v H' => ∃ T x, v = .ref T ∧ New H T ∧ H' = upd H T (.tup [.int (i : Nat), x]) ∧ xs[i]? = some x
def kEnum (K : PySem.W.Frag) (vs : List V) (H : Hp) (R : It → Hp → Prop) : Prop := ∃ a xs, vs = [.ref a] ∧ SqL K H a xs ∧ R (Ite K a) H
instance : Red (iEnum K ta σ H R) (ta σ H fun vs H1 => kEnum K vs H1 R) := ⟨id⟩
instance {a : Addr} {xs : List V} [s : LstA K H a xs] : Red (kEnum K [.ref a] H R) (kWk a xs.length (YEnum xs) R H) := ⟨fun h => ⟨a, xs, rfl, s.h, h _ _ (walk_enum.mono (fun _ h => h) fun i H x H' _ _ y => by
  obtain ⟨T, a, b, e1, e2, e3, e4, e5⟩ := y
  cases e4
  exact ⟨T, b, e1, ⟨e2⟩, e3, e5⟩) fun _ e => sqL_sub s.h e⟩⟩
/-! range -/
def YRng (lo : Int) : Nat → Hp → V → Hp → Prop := YFn fun i => .int (lo + i)
def kRng1 (vs : List V) (H : Hp) (R : It → Hp → Prop) : Prop := ∃ j : Int, vs = [.int j] ∧ -(2 ^ 62) ≤ j ∧ j < 2 ^ 62 ∧ R (Itr 0 j.toNat) H
def kRng2 (vs : List V) (H : Hp) (R : It → Hp → Prop) : Prop := ∃ i j : Int, vs = [.int i, .int j] ∧ (-(2 ^ 62) ≤ i ∧ i < 2 ^ 62 ∧ -(2 ^ 62) ≤ j ∧ j < 2 ^ 62) ∧ R (Itr i (j - i).toNat) H
instance : Red (iRng1 ta σ H R) (ta σ H fun vs H1 => kRng1 vs H1 R) := ⟨id⟩
instance : Red (iRng2 ta σ H R) (ta σ H fun vs H1 => kRng2 vs H1 R) := ⟨id⟩
instance {j : Int} : Red (kRng1 [.int j] H R) ((-(2 ^ 62) ≤ j ∧ j < 2 ^ 62) ∧ kWk 0 j.toNat (YRng 0) R H) := ⟨fun h => ⟨j, rfl, h.1.1, h.1.2, h.2 _ _ walk_range fun _ _ => True.intro⟩⟩
instance {i j : Int} : Red (kRng2 [.int i, .int j] H R) ((-(2 ^ 62) ≤ i ∧ i < 2 ^ 62 ∧ -(2 ^ 62) ≤ j ∧ j < 2 ^ 62) ∧ kWk 0 (j - i).toNat (YRng i) R H) := ⟨fun h => ⟨i, j, rfl, h.1, h.2 _ _ walk_range fun _ _ => True.intro⟩⟩
end
theorem hid_new {d D : Addr} {H : Hp} {o u : HO} (hd : H d = some u) (n : New (upd H d o) D) : New H D := ⟨by
  have q := n.h
  by_cases z : D = d
  · rw [z, upd_same] at q; cases q
  · rw [upd_ne z] at q; exact q⟩
/-- the end of a walk over a dict: the heap as it is then -/
theorem unlkH {H H' : Hp} {d D : Addr} {o u x : HO} {Q : VK} (hd : H d = some u) (n : New (upd H d o) D) (e : Ext (upd H d o) H') (hD : H' D = some x) (h : ∀ H'', New H D → Ext H H'' → H'' D = some x → Ext (Hid d H') H'' → Q (.ref D) H'') : kUn d o u Q (.ref D) H' :=
  ⟨e.at upd_same, h _ (hid_new hd n) (unlock hd e) (unlock_at n hD).h (hid_unlock d H' u)⟩
theorem unlk {H H' : Hp} {d D : Addr} {o u x : HO} {Q : VK} (hd : H d = some u) (n : New (upd H d o) D) (e : Ext (upd H d o) H') (hD : H' D = some x) (h : ∀ H'', New H D → Ext H H'' → H'' D = some x → Q (.ref D) H'') : kUn d o u Q (.ref D) H' :=
  unlkH hd n e hD fun H'' a b c _ => h H'' a b c

theorem sub_at {H H' : Hp} {a : Addr} {x : HO} (h : H a = some x) (h' : H' a = some x) : ∀ o, H a = some o → H' a = some o := fun o e => by
  rw [h] at e
  rw [← e]
  exact h'
theorem fm_idx {α β : Type} (f : α → Option β) : ∀ l : List α, (List.range l.length).filterMap (fun i => l[i]?.bind f) = l.filterMap f
  | [] => rfl
  | a :: l => by
    rw [List.length_cons, List.range_succ_eq_map, List.filterMap_cons, List.filterMap_cons, List.filterMap_map]
    have e : ((fun i => (a :: l)[i]?.bind f) ∘ Nat.succ) = fun i => l[i]?.bind f := by
      funext i
      simp
    rw [e, fm_idx f l]
    simp
def dcF {α β : Type} (f : α → Option (Key × β)) (acc : List (Key × β)) (d : α) : List (Key × β) := match f d with
  | some kb => putB acc kb.1 kb.2
  | none => acc
theorem fold_idx {α β : Type} (f : α → Option (Key × β)) : ∀ (l : List α) (acc : List (Key × β)), (List.range l.length).foldl (dcB (fun i => l[i]?.bind f)) acc = l.foldl (dcF f) acc
  | [], _ => rfl
  | a :: l, acc => by
    rw [List.length_cons, List.range_succ_eq_map, List.foldl_cons, List.foldl_cons, List.foldl_map]
    have e : (fun (x : List (Key × β)) (y : Nat) => dcB (fun i => (a :: l)[i]?.bind f) x (y + 1)) = dcB (fun i => l[i]?.bind f) := by
      funext x i
      unfold dcB
      simp
    have e2 : dcB (fun i => (a :: l)[i]?.bind f) acc 0 = dcF f acc a := by
      unfold dcB dcF
      simp
    rw [← fold_idx f l, e2, ← e]
section
variable {a : Addr} {σ : L2.St} {H : Hp} {Q : VK} {g : TG} {tt : TT} {te tk tv : TE} {vs : List Nat} {n : Nat} {Y : Nat → Hp → V → Hp → Prop}
theorem lc_ds {α β : Type} (ds : List α) (f : α → Option β) (R : Hp → V → β → Prop) (mono : ∀ {H H' : Hp} {v : V} {b : β}, Ext H H' → R H v b → R H' v b) (hl : n = ds.length) (hn : n ≤ sizeLine)
    (step : ∀ i x d H1 H2 D, ds[i]? = some d → Ext H H1 → New H D → (∃ acc, H1 D = some (.lst acc)) → Y i H1 x H2 → ∀ (N1 : VK) (N2 : Hp → Prop), (∀ y H4 r, Ext H1 H4 → f d = some r → R (Hid D H4) y r → N1 y H4) → (∀ H3, Ext H1 H3 → f d = none → N2 H3) →
      g x (wipe σ vs) H2 fun σ2 H2 => wipe σ2 vs = wipe σ vs ∧ tt σ2 H2 fun b H3 => if b = true then te σ2 H3 N1 else N2 H3)
    (done : ∀ D H' ys, New H D → Ext H H' → H' D = some (.lst ys) → Each R (Hid D H') ys (ds.filterMap f) → Q (.ref D) H') : kWk a n Y (kLc g tt te vs σ Q) H := by
  subst hl
  refine lc_go R mono (fun i => ds[i]?.bind f) hn (fun i x H1 H2 D hi e1 nD hA hy N1 N2 k1 k2 => ?_) fun D H' ys nD e hD hE => done D H' ys nD e hD (by rw [← fm_idx]; exact hE)
  have hd : ds[i]? = some ds[i] := List.getElem?_eq_getElem hi
  refine step i x ds[i] H1 H2 D hd e1 nD hA hy N1 N2 (fun y H4 r a b c => k1 y H4 r a (by rw [hd]; exact b) c) fun H3 a b => k2 H3 a (by rw [hd]; exact b)
theorem dc_ds {α β : Type} (ds : List α) (f : α → Option (Key × β)) (R : Hp → V → β → Prop) (mono : ∀ {H H' : Hp} {v : V} {b : β}, Ext H H' → R H v b → R H' v b) (hl : n = ds.length) (hn : n ≤ sizeLine)
    (step : ∀ i x d H1 H2 D, ds[i]? = some d → Ext H H1 → New H D → (∃ kvs, H1 D = some (.dK kvs)) → Y i H1 x H2 → ∀ (N1 : V → V → Hp → Prop) (N2 : Hp → Prop), (∀ k z H4 r, Ext H1 H4 → f d = some (k, r) → R (Hid D H4) z r → N1 (kV k) z H4) → (∀ H3, Ext H1 H3 → f d = none → N2 H3) →
      g x (wipe σ vs) H2 fun σ2 H2 => wipe σ2 vs = wipe σ vs ∧ tt σ2 H2 fun b H3 => if b = true then tk σ2 H3 fun y H4 => tv σ2 H4 (N1 y) else N2 H3)
    (done : ∀ D H' kvs, New H D → Ext H H' → H' D = some (.dK kvs) → Paired (KR R (Hid D H')) kvs (ds.foldl (dcF f) []) → Q (.ref D) H') : kWk a n Y (kDc g tt tk tv vs σ Q) H := by
  subst hl
  refine dc_go R mono (fun i => ds[i]?.bind f) hn (fun i x H1 H2 D hi e1 nD hA hy N1 N2 k1 k2 => ?_) fun D H' ys nD e hD hE => done D H' ys nD e hD (by rw [← fold_idx]; exact hE)
  have hd : ds[i]? = some ds[i] := List.getElem?_eq_getElem hi
  refine step i x ds[i] H1 H2 D hd e1 nD hA hy N1 N2 (fun k z H4 r a b c => k1 k z H4 r a (by rw [hd]; exact b) c) fun H3 a b => k2 H3 a (by rw [hd]; exact b)
end
theorem putB_new {β : Type} {kvs : List (Key × β)} {k : Key} (b : β) (h : ∀ p, p ∈ kvs → p.1 ≠ k) : putB kvs k b = kvs ++ [(k, b)] := by
  unfold putB
  rw [if_neg]
  intro z
  obtain ⟨p, hp, e⟩ := List.any_eq_true.mp z
  exact h p hp (by simpa using e)
/-- keys that are all unlike: as they come -/
theorem fold_nodup {α β : Type} (f : α → Option (Key × β)) : ∀ (l : List α) (acc : List (Key × β)), ((acc ++ l.filterMap f).map (·.1)).Nodup → l.foldl (dcF f) acc = acc ++ l.filterMap f
  | [], acc, _ => by simp
  | a :: l, acc, h => by
    rw [List.foldl_cons]
    unfold dcF
    cases e : f a with
    | none =>
      have e2 : (a :: l).filterMap f = l.filterMap f := by simp [e]
      rw [e2] at h ⊢
      exact fold_nodup f l acc h
    | some kb =>
      have e2 : (a :: l).filterMap f = kb :: l.filterMap f := by simp [e]
      rw [e2] at h ⊢
      have h2 : ∀ p, p ∈ acc → p.1 ≠ kb.1 := by
        intro p hp z
        rw [List.map_append, List.nodup_append] at h
        exact h.2.2 p.1 (List.mem_map_of_mem hp) kb.1 (by simp) z
      show List.foldl (dcF f) (putB acc kb.1 kb.2) l = _
      rw [putB_new _ h2, fold_nodup f l _ (by simpa using h)]
      simp
theorem noTup_lst {xs : List V} {o : HO} (e : o = .lst xs) : (∀ xs, o ≠ .tup xs) ∧ ∀ ob xs, o ≠ .frz ob (.tup xs) := by subst e; exact ⟨fun _ z => (nomatch z), fun _ _ z => (nomatch z)⟩
theorem noTup_dK {xs : List (Key × V)} {o : HO} (e : o = .dK xs) : (∀ xs, o ≠ .tup xs) ∧ ∀ ob xs, o ≠ .frz ob (.tup xs) := by subst e; exact ⟨fun _ z => (nomatch z), fun _ _ z => (nomatch z)⟩
theorem noTup_fK {xs : List (Key × V)} {ob : Obj} {o : HO} (e : o = .frz ob (.dK xs)) : (∀ xs, o ≠ .tup xs) ∧ ∀ ob xs, o ≠ .frz ob (.tup xs) := by subst e; exact ⟨fun _ z => (nomatch z), fun _ _ z => (nomatch z)⟩
/-- two orders of the same whole numbers -/
theorem perm_sorted : ∀ {xs ys : List Int}, xs.Perm ys → xs.Pairwise (· ≤ ·) → ys.Pairwise (· ≤ ·) → xs = ys
  | [], ys, p, _, _ => (List.nil_perm.mp p).symm
  | x :: xs, [], p, _, _ => absurd (List.perm_nil.mp p) (by simp)
  | x :: xs, y :: ys, p, h1, h2 => by
    have a1 : x ∈ y :: ys := p.mem_iff.mp List.mem_cons_self
    have a2 : y ∈ x :: xs := p.mem_iff.mpr List.mem_cons_self
    have e : x = y := by
      rw [List.pairwise_cons] at h1 h2
      rcases List.mem_cons.mp a1 with e | a1
      · exact e
      · rcases List.mem_cons.mp a2 with e | a2
        · exact e.symm
        · have b1 := h1.1 y a2
          have b2 := h2.1 x a1
          omega
    subst e
    rw [perm_sorted (List.Perm.cons_inv p) (List.pairwise_cons.mp h1).2 (List.pairwise_cons.mp h2).2]
theorem getP {α β : Type} {F : α → β → Prop} : ∀ {l : List α} {m : List β} {i : Nat} {a : α}, Paired F l m → l[i]? = some a → ∃ b, m[i]? = some b ∧ F a b
  | _, _, _, _, .nil, e => by simp at e
  | _, _, 0, _, .cons r _, e => by simp at e; subst e; exact ⟨_, rfl, r⟩
  | _, _, i + 1, a, .cons _ t, e => by
    obtain ⟨u, h1, h2⟩ := getP (i := i) (a := a) t (by simpa using e)
    exact ⟨u, by simpa using h1, h2⟩
theorem getPD {α β : Type} {F : α → β → Prop} : ∀ {l : List α} {m : List β} {i : Nat} {b : β}, Paired F l m → m[i]? = some b → ∃ a, l[i]? = some a ∧ F a b
  | _, _, _, _, .nil, e => by simp at e
  | _, _, 0, _, .cons r _, e => by simp at e; subst e; exact ⟨_, rfl, r⟩
  | _, _, i + 1, a, .cons _ t, e => by
    obtain ⟨u, h1, h2⟩ := getPD (i := i) (b := a) t (by simpa using e)
    exact ⟨u, by simpa using h1, h2⟩
theorem fm_map {α β : Type} (g : α → β) : ∀ l : List α, l.filterMap (fun d => some (g d)) = l.map g
  | [] => rfl
  | a :: l => by rw [List.filterMap_cons, List.map_cons, fm_map g l]
theorem kV_int {i : Int} : kV (.inl i : Key) = .int i := rfl
theorem kV_str {z : Str} : kV (.inr z : Key) = .str z := rfl
theorem paired_keys {β : Type} {R : Hp → V → β → Prop} {H : Hp} : ∀ {kvs : List (Key × V)} {ds : List (Key × β)}, Paired (KR R H) kvs ds → kvs.map (fun kv => kV kv.1) = ds.map fun d => kV d.1
  | _, _, .nil => rfl
  | _, _, .cons a t => by rw [List.map_cons, List.map_cons, paired_keys t, a.1]
/-- what a dict holds, by what is meant -/
theorem val_paired {β : Type} {R : Hp → V → β → Prop} {H : Hp} {k : Key} : ∀ {kvs : List (Key × V)} {ds : List (Key × β)}, Paired (KR R H) kvs ds → ∀ b, (ds.find? fun kv => decide (kv.1 = k)) = some b → ∃ v, valV kvs k = some v ∧ R H v b.2
  | _, _, .nil, b, e => by simp at e
  | _, _, .cons (a := p) (b := q) h t, b, e => by
    rw [List.find?_cons] at e
    by_cases z : q.1 = k
    · rw [decide_eq_true z] at e
      cases e
      exact ⟨p.2, valV_pos (h.1.trans z), h.2⟩
    · rw [decide_eq_false z] at e
      obtain ⟨v, a1, a2⟩ := val_paired t b e
      exact ⟨v, by rw [valV_neg (fun y => z (h.1.symm.trans y))]; exact a1, a2⟩
theorem val_none {β : Type} {R : Hp → V → β → Prop} {H : Hp} {k : Key} : ∀ {kvs : List (Key × V)} {ds : List (Key × β)}, Paired (KR R H) kvs ds → (∀ p, p ∈ ds → p.1 ≠ k) → valV kvs k = none
  | _, _, .nil, _ => rfl
  | _, _, .cons (a := p) (b := q) h t, e => by
    rw [valV_neg (fun y => e q List.mem_cons_self (h.1.symm.trans y))]
    exact val_none t fun p hp => e p (List.mem_cons_of_mem _ hp)
theorem find_nodup {β : Type} {ds : List (Key × β)} (h : (ds.map (·.1)).Nodup) {i : Nat} {b : Key × β} (e : ds[i]? = some b) : (ds.find? fun kv => decide (kv.1 = b.1)) = some b := by
  induction ds generalizing i with
  | nil => simp at e
  | cons q l ih =>
    rw [List.map_cons, List.nodup_cons] at h
    cases i with
    | zero => simp at e; subst e; simp
    | succ i =>
      have e2 : l[i]? = some b := by simpa using e
      rw [List.find?_cons, decide_eq_false]
      · exact ih h.2 e2
      · intro z
        exact h.1 (by rw [z]; exact List.mem_map_of_mem (List.mem_of_getElem? e2))
theorem for_one {a : Addr} {σ : L2.St} {H : Hp} {g : TG} {tb : TS} {D : Ends} {v : V} (P : L2.St → Hp → Prop) (hsub : ∀ σ' H', P σ' H' → ∀ o, H a = some o → H' a = some o)
    (hs : g v σ H fun σ2 H2 => tb { D with nx := P, ct := P, bk := D.nx } σ2 H2) (hd : ∀ σ' H', P σ' H' → D.nx σ' H') : kWk a 1 (YAt [v]) (kFor g tb D σ) H := by
  refine for_go (fun i σ' H' => (i = 0 → σ' = σ ∧ H' = H) ∧ (i = 1 → P σ' H')) ⟨fun _ => ⟨rfl, rfl⟩, fun h => by cases h⟩ (fun i σ' H' hi p => ?_) (fun i x σ' H1 H2 hi p y => ?_) fun σ' H' p => hd σ' H' (p.2 rfl)
  · cases i with
    | zero => obtain ⟨rfl, rfl⟩ := p.1 rfl; exact fun _ h => h
    | succ i => exact hsub σ' H' (p.2 (by omega))
  · have e : i = 0 := by omega
    subst e
    obtain ⟨rfl, rfl⟩ := p.1 rfl
    obtain ⟨rfl, hx⟩ := y
    simp at hx
    subst hx
    have e2 : ∀ (σ0 : L2.St) (H0 : Hp), (fun (σ' : L2.St) (H' : Hp) => ((0 : Nat) + 1 = 0 → σ' = σ0 ∧ H' = H0) ∧ ((0 : Nat) + 1 = 1 → P σ' H')) = P := by
      intro σ0 H0
      funext σ' H'
      exact propext ⟨fun h => h.2 rfl, fun h => ⟨(fun z => absurd z (by omega)), fun _ => h⟩⟩
    rw [e2]
    exact hs

end PB
namespace PB
open PySem PySem.Spec PyProof.Rows L2
local macro_rules | `(tactic| walk_at "rd") => `(tactic| (repeat refine red ?_))
local macro_rules | `(tactic| walk_at "go") => `(tactic| (repeat (first | refine red ?_ | ((with_reducible apply k_var); rfl) | refine k_new fun _ _ => ?_ | refine wp_and rfl ?_ | refine if_redT rfl ?_ | refine if_redF rfl ?_)))

local macro_rules | `(tactic| walk_at "ext") => `(tactic| (repeat (first | assumption | exact Ext.refl _ | refine Ext.newI ?_ | refine Ext.trans ?_ ‹Ext _ _›)))
local macro_rules | `(tactic| walk_at "rv") => `(tactic| (repeat (first | refine red ?_ | ((with_reducible apply k_var); rfl))))
/-! ### fields of own classes -/
class FldOk (K : PySem.W.Frag) (C : Addr) (f : Str) : Prop where
  c : Cls K C
  n : NoAttr K C f
section
variable {w : World} {K : PySem.W.Frag} {mg : Str → Option Value}
instance [T : Txt w K mg] : FldOk K (He.ga K "Past") "by_moment" := ⟨T.cls_Past, T.na_Past_by_moment⟩
instance [T : Txt w K mg] : FldOk K (He.ga K "Log") "answer" := ⟨T.cls_Log, T.na_Log_answer⟩
instance [T : Txt w K mg] : FldOk K (He.ga K "Log") "rows" := ⟨T.cls_Log, T.na_Log_rows⟩
instance [T : Txt w K mg] : FldOk K (He.ga K "Picture") "cuts" := ⟨T.cls_Picture, T.na_Picture_cuts⟩
instance [T : Txt w K mg] : FldOk K (He.ga K "Picture") "has_row" := ⟨T.cls_Picture, T.na_Picture_has_row⟩
instance [T : Txt w K mg] : FldOk K (He.ga K "Picture") "cells" := ⟨T.cls_Picture, T.na_Picture_cells⟩
instance [T : Txt w K mg] : FldOk K (He.ga K "Mixed") "told" := ⟨T.cls_Mixed, T.na_Mixed_told⟩
instance [T : Txt w K mg] : FldOk K (He.ga K "Mixed") "later" := ⟨T.cls_Mixed, T.na_Mixed_later⟩
instance [T : Txt w K mg] : FldOk K (He.ga K "Mixed") "so_far" := ⟨T.cls_Mixed, T.na_Mixed_so_far⟩
instance [T : Txt w K mg] : FldOk K (He.ga K "Run") "told" := ⟨T.cls_Run, T.na_Run_told⟩
instance [T : Txt w K mg] : FldOk K (He.ga K "Run") "answer" := ⟨T.cls_Run, T.na_Run_answer⟩
instance [T : Txt w K mg] : FldOk K (He.ga K "Run") "outcome" := ⟨T.cls_Run, T.na_Run_outcome⟩
instance [T : Txt w K mg] : FldOk K (He.ga K "Run") "answers" := ⟨T.cls_Run, T.na_Run_answers⟩
end
class Lk (fs : List (Str × V)) (f : Str) (v : outParam V) : Prop where
  h : fs.lookup f = some v
instance lk_here {f : Str} {v : V} {r : List (Str × V)} : Lk ((f, v) :: r) f v := ⟨by simp [List.lookup]⟩
instance lk_next {f g : Str} {v z : V} {r : List (Str × V)} [d : DecS g f false] [l : Lk r f v] : Lk ((g, z) :: r) f v := ⟨by
  have e : ¬ f = g := fun e => by
    have q := d.h
    rw [e] at q
    simp at q
  rw [List.lookup, show (f == g) = false from by simpa using e]
  exact l.h⟩
class PutF (fs : List (Str × V)) (f : Str) (v : V) (fs' : outParam (List (Str × V))) : Prop where
  h : putF f v fs = fs'
instance {f : Str} {v : V} : PutF [] f v [(f, v)] := ⟨rfl⟩
instance (priority := high) {f : Str} {v z : V} {r : List (Str × V)} : PutF ((f, z) :: r) f v ((f, v) :: r) := ⟨by unfold putF; rw [if_pos rfl]⟩
instance {f g : Str} {v z : V} {r r' : List (Str × V)} [d : DecS g f false] [p : PutF r f v r'] : PutF ((g, z) :: r) f v ((g, z) :: r') := ⟨by
  unfold putF
  rw [if_neg (of_decide_eq_false d.h), p.h]⟩
class Few (fs : List (Str × V)) : Prop where
  h : fs.length < 1000
instance : Few [] := ⟨by decide⟩
instance {a} : Few [a] := ⟨by show 1 < 1000; decide⟩
instance {a b} : Few [a, b] := ⟨by show 2 < 1000; decide⟩
instance {a b c} : Few [a, b, c] := ⟨by show 3 < 1000; decide⟩
instance {a b c d} : Few [a, b, c, d] := ⟨by show 4 < 1000; decide⟩
section
variable {K : PySem.W.Frag} {σ : L2.St} {H : Hp} {Q : VK} {D : Ends} {ta tv : TE} {a C dx : Addr} {fs fs' : List (Str × V)} {f : Str} {x y v : V}
instance fld_red [s : At H a (.ins C dx fs)] [k : FldOk K C f] [l : Lk fs f v] : Red (kFld K f (.ref a) H Q) (Q v H) := ⟨fun h => ⟨a, C, dx, fs, v, rfl, s.h, k.c, k.n, l.h, h⟩⟩
def kSet (K : PySem.W.Frag) (f : Str) (y x : V) (H : Hp) (N : Hp → Prop) : Prop := ∃ a C dx fs, x = .ref a ∧ H a = some (.ins C dx fs) ∧ Cls K C ∧ NoAttr K C f ∧ fs.length < 1000 ∧ N (upd H a (.ins C dx (putF f y fs)))
instance : Red (sFld K ta tv f D σ H) (tv σ H fun y H1 => ta σ H1 fun x H2 => kSet K f y x H2 (D.nx σ)) := ⟨id⟩
instance {N : Hp → Prop} [s : At H a (.ins C dx fs)] [k : FldOk K C f] [l : Few fs] [p : PutF fs f y fs'] : Red (kSet K f y (.ref a) H N) (N (upd H a (.ins C dx fs'))) := ⟨fun h => ⟨a, C, dx, fs, rfl, s.h, k.c, k.n, l.h, by rw [p.h]; exact h⟩⟩
end
/-- a thing that is made, and what stood -/
theorem upd2 {H : Hp} {a : Addr} {o o' : HO} : upd (upd H a o) a o' = upd H a o' := by
  funext b
  by_cases e : b = a
  · rw [e, upd_same, upd_same]
  · rw [upd_ne e, upd_ne e, upd_ne e]
/-! dict put; conversions -/
section
variable {X : Cx} {K : PySem.W.Frag} {σ : L2.St} {H : Hp} {Q : VK} {D : Ends} {td ty tv ta tx : TE} {a : Addr} {kvs : List (Key × V)} {x y v : V}
def kPut (v x y : V) (H : Hp) (N : Hp → Prop) : Prop := ∃ a H', x = .ref a ∧ DPut H a y v H' ∧ N H'
instance : Red (sDPut td ty tv D σ H) (tv σ H fun v H1 => td σ H1 fun x H2 => ty σ H2 fun y H3 => kPut v x y H3 (D.nx σ)) := ⟨fun h => h⟩
class KeyV (y : V) (k : outParam Key) : Prop where
  h : y = kV k
instance {i : Int} : KeyV (.int i) (.inl i) := ⟨rfl⟩
instance {z : Str} : KeyV (.str z) (.inr z) := ⟨rfl⟩
class ShortD (kvs : List (Key × V)) : Prop where
  h : kvs.length < sizeLine
instance put_red {k : Key} {N : Hp → Prop} [s : At H a (.dK kvs)] [q : KeyV y k] [l : ShortD kvs] : Red (kPut v (.ref a) y H N) (N (upd H a (.dK (putK kvs k v)))) := ⟨fun h => ⟨a, _, rfl, by rw [q.h]; exact DPut.k s.h l.h, h⟩⟩
def kInt (xs : List V) (H : Hp) (Q : VK) : Prop := (∃ i, xs = [V.int i] ∧ Q (V.int i) H) ∨ ∃ k, xs = [V.bl k] ∧ Q (V.int (if k = true then 1 else 0)) H
theorem call_intK : CallR X (.type "int") kInt := call_int1
instance {i : Int} : Red (kInt [.int i] H Q) (Q (.int i) H) := ⟨fun h => .inl ⟨i, rfl, h⟩⟩
def kListOf (K : PySem.W.Frag) (xs : List V) (H : Hp) (Q : VK) : Prop := ∃ p ys, xs = [.ref p] ∧ (SqL K H p ys ∨ SqT K H p ys) ∧ ∀ l, H l = none → Q (.ref l) (upd H l (.lst ys))
theorem call_listK (h : X.K = K) : CallR X (.type "list") (kListOf K) := h ▸ call_list_of
instance {xs : List V} [s : Seq K H a xs] : Red (kListOf K [.ref a] H Q) (kNew (.lst xs) H Q) := ⟨fun h => ⟨a, xs, rfl, s.h, fun l hl => h l ⟨hl⟩⟩⟩
instance listD_red [s : At H a (.dK kvs)] : Red (rListD [.ref a] H Q) (kNew (.lst (kvs.map fun kv => kV kv.1)) H Q) := ⟨fun h => ⟨a, kvs, rfl, s.h, fun l hl => h l ⟨hl⟩⟩⟩
def kTupOf (K : PySem.W.Frag) (xs : List V) (H : Hp) (Q : VK) : Prop := ∃ p ys, xs = [.ref p] ∧ ((SqL K H p ys ∧ ∀ l, H l = none → Q (.ref l) (upd H l (.tup ys))) ∨ (SqT K H p ys ∧ Q (.ref p) H))
theorem call_tupK (h : X.K = K) : CallR X (.type "tuple") (kTupOf K) := h ▸ call_tuple_of
instance {xs : List V} [s : LstA K H a xs] : Red (kTupOf K [.ref a] H Q) (kNew (.tup xs) H Q) := ⟨fun h => ⟨a, xs, rfl, .inl ⟨s.h, fun l hl => h l ⟨hl⟩⟩⟩⟩
/-! get with what it gives otherwise -/
def kIsD (x : V) (H : Hp) (A : Addr → Prop) : Prop := ∃ a, x = .ref a ∧ IsD H a ∧ A a
def kGet2 (a : Addr) (y z : V) (H : Hp) (Q : VK) : Prop := ∃ o, DGet H a y o ∧ Q (o.getD z) H
instance : Red (tDGet2 td ty tx σ H Q) (td σ H fun x H1 => kIsD x H1 fun a => ty σ H1 fun y H2 => tx σ H2 fun z H3 => kGet2 a y z H3 Q) := ⟨fun h => h⟩
instance {A : Addr → Prop} [s : At H a (.dK kvs)] : Red (kIsD (.ref a) H A) (A a) := ⟨fun h => ⟨a, rfl, .inl ⟨kvs, .inl s.h⟩, h⟩⟩
instance {o : Option V} {z : V} [s : At H a (.dK kvs)] [d : DVal kvs y o] : Red (kGet2 a y z H Q) (Q (o.getD z) H) := ⟨fun h => by
  obtain ⟨k, rfl, e⟩ := d.h
  exact ⟨o, e ▸ DGet.k s.h, h⟩⟩
end
instance kdg_frz {H : Hp} {Q : VK} {a : Addr} {od : Obj} {kvs : List (Key × V)} {y v : V} [s : At H a (.frz od (.dK kvs))] [d : DVal kvs y (some v)] : Red (kDG y (.ref a) H Q) (Q v H) := ⟨fun h => by
  obtain ⟨k, rfl, e⟩ := d.h
  exact ⟨a, v, rfl, .inl ⟨kvs, k, .inr ⟨od, s.h⟩, rfl, e.symm⟩, h⟩⟩
/-! is None -/
class IsNon (x : V) (b : outParam Bool) : Prop where
  h : decide (x = V.non) = b
instance : IsNon .non true := ⟨rfl⟩
instance {a : Addr} : IsNon (.ref a) false := ⟨rfl⟩
instance {i : Int} : IsNon (.int i) false := ⟨rfl⟩
instance {z : Str} : IsNon (.str z) false := ⟨rfl⟩
instance {k : Bool} : IsNon (.bl k) false := ⟨rfl⟩
def kIsN (f : Bool → Bool) (x y : V) (H : Hp) (Q : VK) : Prop := y = V.non ∧ Q (.bl (f (decide (x = V.non)))) H
theorem op_isNK {X : Cx} : OpR X (compareOp .Is) (kIsN id) := op_isN
theorem op_notNK {X : Cx} : OpR X (compareOp .IsNot) (kIsN not) := op_notN
instance isn_red {f : Bool → Bool} {x : V} {b : Bool} {H : Hp} {Q : VK} [n : IsNon x b] : Red (kIsN f x .non H Q) (Q (.bl (f b)) H) := ⟨fun h => ⟨rfl, by rw [n.h]; exact h⟩⟩
/-! methods of lists -/
section
variable {K : PySem.W.Frag} {σ : L2.St} {H : Hp} {Q : VK} {ta : TE} {t : TA} {a b : Addr} {xs zs : List V} {y : V} {T : String} {r : V → List V → Hp → VK → Prop}
def kTy (K : PySem.W.Frag) (T : String) (x : V) (H : Hp) (P : Prop) : Prop := tyV K T x H ∧ P
instance : Red (tBM K T r ta t σ H Q) (ta σ H fun x H1 => kTy K T x H1 (t σ H1 fun xs H2 => r x xs H2 Q)) := ⟨id⟩
instance {P : Prop} [s : LstA K H a xs] : Red (kTy K "list" (.ref a) H P) P := ⟨fun h => ⟨.inl ⟨rfl, xs, s.h⟩, h⟩⟩
instance extend_red [s : At H a (.lst xs)] [z : At H b (.lst zs)] : Red (rExtend (.ref a) [.ref b] H Q) (xs.length + zs.length ≤ sizeLine ∧ Q .non (upd H a (.lst (xs ++ zs)))) := ⟨fun h => ⟨a, b, xs, zs, rfl, rfl, s.h, z.h, h.1, h.2⟩⟩
instance append_red [s : At H a (.lst xs)] : Red (rAppend (.ref a) [y] H Q) (xs.length < sizeLine ∧ Q .non (upd H a (.lst (xs ++ [y])))) := ⟨fun h => ⟨a, xs, y, rfl, rfl, s.h, h.1, h.2⟩⟩
end

end PB
namespace PB
open PySem PySem.Spec PyProof.Rows L2
local macro_rules | `(tactic| walk_at "rd") => `(tactic| (repeat refine red ?_))
local macro_rules | `(tactic| walk_at "go") => `(tactic| (repeat (first | refine red ?_ | ((with_reducible apply k_var); rfl) | refine k_new fun _ _ => ?_ | refine wp_and rfl ?_ | refine if_redT rfl ?_ | refine if_redF rfl ?_)))

local macro_rules | `(tactic| walk_at "ext") => `(tactic| (repeat (first | assumption | exact Ext.refl _ | refine Ext.newI ?_ | refine Ext.trans ?_ ‹Ext _ _›)))
local macro_rules | `(tactic| walk_at "rv") => `(tactic| (repeat (first | refine red ?_ | ((with_reducible apply k_var); rfl))))
section
variable {w : World} {K : PySem.W.Frag} {mg : Str → Option Value} {base : Heap}
/-- is_whole of an int -/
def pWhole (v : V) (H : Hp) (Q : VK) : Prop := ∃ i : Int, v = .int i ∧ Q (.bl true) H
instance {i : Int} {H : Hp} {Q : VK} : Red (pWhole (.int i) H Q) (Q (.bl true) H) := ⟨fun h => ⟨i, rfl, h⟩⟩
theorem ok_is_whole  (T : Txt w K mg) : Cal PG w K mg base (0 + 1) "is_whole" (sp1 pWhole) := by
  obtain ⟨fd, F⟩ := T.d_is_whole
  refine cal_mk F T.g_is_whole sc_is_whole (fun _ _ _ _ _ _ us hl => match us, hl with | [_], _ => rfl) fun cdv A outer s0 H vs Q E hr h => ?_
  obtain ⟨_, rfl, i, rfl, h⟩ := h
  refine ⟨_, pss_one (ps_ret (pe_and (pe_callB (call_isiK2 (K := K) rfl) (by rfl) T.f_isinstance (by decide +kernel) (pa_cons (pv 0) (pa_cons (pe_ty (n := "int") (by rfl) T.f_int (by decide +kernel)) pa_nil))) (pe_one (pe_not (pe_callB (call_isiK2 (K := K) rfl) (by rfl) T.f_isinstance (by decide +kernel) (pa_cons (pv 0) (pa_cons (pe_ty (n := "bool") (by rfl) T.f_bool (by decide +kernel)) pa_nil))))))), ?_⟩
  refine start_to (σ := [some _]) rfl ?_
  try dsimp only [cxOf]
  walk_at "rv"
  exact h
def pNumber (v lo hi : V) (H : Hp) (Q : VK) : Prop := ∃ i l u : Int, v = .int i ∧ lo = .int l ∧ hi = .int u ∧ l ≤ i ∧ i ≤ u ∧ Q (.bl true) H
instance {i l u : Int} {H : Hp} {Q : VK} : Red (pNumber (.int i) (.int l) (.int u) H Q) (l ≤ i ∧ i ≤ u ∧ Q (.bl true) H) := ⟨fun h => ⟨i, l, u, rfl, rfl, rfl, h⟩⟩
theorem ok_is_number  (T : Txt w K mg) : Cal PG w K mg base (1 + 1) "is_number" (sp3 pNumber) := by
  obtain ⟨fd, F⟩ := T.d_is_number
  refine cal_mk F T.g_is_number sc_is_number (fun _ _ _ _ _ _ us hl => match us, hl with | [_, _, _], _ => rfl) fun cdv A outer s0 H vs Q E hr h => ?_
  obtain ⟨_, _, _, rfl, i, l, u, rfl, rfl, rfl, h1, h2, h⟩ := h
  have c_is_whole := ok_is_whole (base := base) T
  refine ⟨_, pss_one (ps_ret (pe_and (pe_cl c_is_whole hr (by first | decide | omega) rfl (pa_cons (pv 0) pa_nil)) (pe_one (pe_chain op_le op_le (pv 1) (pv 0) (pv 2))))), ?_⟩
  refine start_to (σ := [some _, some _, some _]) rfl ?_
  try dsimp only [cxOf]
  walk_at "rv"
  rw [decide_eq_true h1]
  walk_at "rv"
  rw [decide_eq_true h2]
  exact h
def pNum (lo hi : Int) (v : V) (H : Hp) (Q : VK) : Prop := ∃ i : Int, v = .int i ∧ lo ≤ i ∧ i ≤ hi ∧ Q (.bl true) H
instance {lo hi i : Int} {H : Hp} {Q : VK} : Red (pNum lo hi (.int i) H Q) (lo ≤ i ∧ i ≤ hi ∧ Q (.bl true) H) := ⟨fun h => ⟨i, rfl, h⟩⟩
theorem ok_is_moment  (T : Txt w K mg) : Cal PG w K mg base (2 + 1) "is_moment" (sp1 (pNum 1 999)) := by
  obtain ⟨fd, F⟩ := T.d_is_moment
  refine cal_mk F T.g_is_moment sc_is_moment (fun _ _ _ _ _ _ us hl => match us, hl with | [_], _ => rfl) fun cdv A outer s0 H vs Q E hr h => ?_
  obtain ⟨_, rfl, i, rfl, h1, h2, h⟩ := h
  have c_is_number := ok_is_number (base := base) T
  refine ⟨_, pss_one (ps_ret (pe_cl c_is_number hr (by first | decide | omega) rfl (pa_cons (pv 0) (pa_cons (pe_int) (pa_cons (pe_gv rfl T.c_LAST_MOMENT) pa_nil))))), ?_⟩
  refine start_to (σ := [some _]) rfl ?_
  try dsimp only [cxOf]
  walk_at "rv"
  exact ⟨h1, h2, h⟩
theorem ok_is_time  (T : Txt w K mg) : Cal PG w K mg base (2 + 1) "is_time" (sp1 (pNum 0 999)) := by
  obtain ⟨fd, F⟩ := T.d_is_time
  refine cal_mk F T.g_is_time sc_is_time (fun _ _ _ _ _ _ us hl => match us, hl with | [_], _ => rfl) fun cdv A outer s0 H vs Q E hr h => ?_
  obtain ⟨_, rfl, i, rfl, h1, h2, h⟩ := h
  have c_is_number := ok_is_number (base := base) T
  refine ⟨_, pss_one (ps_ret (pe_cl c_is_number hr (by first | decide | omega) rfl (pa_cons (pv 0) (pa_cons (pe_int) (pa_cons (pe_gv rfl T.c_LAST_MOMENT) pa_nil))))), ?_⟩
  refine start_to (σ := [some _]) rfl ?_
  try dsimp only [cxOf]
  walk_at "rv"
  exact ⟨h1, h2, h⟩
theorem ok_is_key  (T : Txt w K mg) : Cal PG w K mg base (2 + 1) "is_key" (sp1 (pNum 0 9)) := by
  obtain ⟨fd, F⟩ := T.d_is_key
  refine cal_mk F T.g_is_key sc_is_key (fun _ _ _ _ _ _ us hl => match us, hl with | [_], _ => rfl) fun cdv A outer s0 H vs Q E hr h => ?_
  obtain ⟨_, rfl, i, rfl, h1, h2, h⟩ := h
  have c_is_number := ok_is_number (base := base) T
  refine ⟨_, pss_one (ps_ret (pe_cl c_is_number hr (by first | decide | omega) rfl (pa_cons (pv 0) (pa_cons (pe_int) (pa_cons (pe_gv rfl T.c_MOST_KEY) pa_nil))))), ?_⟩
  refine start_to (σ := [some _]) rfl ?_
  try dsimp only [cxOf]
  walk_at "rv"
  exact ⟨h1, h2, h⟩
theorem ok_is_cell  (T : Txt w K mg) : Cal PG w K mg base (2 + 1) "is_cell" (sp1 (pNum 0 99)) := by
  obtain ⟨fd, F⟩ := T.d_is_cell
  refine cal_mk F T.g_is_cell sc_is_cell (fun _ _ _ _ _ _ us hl => match us, hl with | [_], _ => rfl) fun cdv A outer s0 H vs Q E hr h => ?_
  obtain ⟨_, rfl, i, rfl, h1, h2, h⟩ := h
  have c_is_number := ok_is_number (base := base) T
  refine ⟨_, pss_one (ps_ret (pe_cl c_is_number hr (by first | decide | omega) rfl (pa_cons (pv 0) (pa_cons (pe_int) (pa_cons (pe_gv rfl T.c_MOST_VALUE) pa_nil))))), ?_⟩
  refine start_to (σ := [some _]) rfl ?_
  try dsimp only [cxOf]
  walk_at "rv"
  exact ⟨h1, h2, h⟩
/-- is_line of a list -/
def pLine (v : V) (H : Hp) (Q : VK) : Prop := ∃ a xs, v = .ref a ∧ H a = some (.lst xs) ∧ ∀ H', Ext H H' → Q (.bl true) H'
instance {a : Addr} {xs : List V} {H : Hp} {Q : VK} [s : At H a (.lst xs)] : Red (pLine (.ref a) H Q) (∀ H', Ext H H' → Q (.bl true) H') := ⟨fun h => ⟨a, xs, rfl, s.h, h⟩⟩
theorem ok_is_line  (T : Txt w K mg) : Cal PG w K mg base (0 + 1) "is_line" (sp1 pLine) := by
  obtain ⟨fd, F⟩ := T.d_is_line
  refine cal_mk F T.g_is_line sc_is_line (fun _ _ _ _ _ _ us hl => match us, hl with | [_], _ => rfl) fun cdv A outer s0 H vs Q E hr h => ?_
  obtain ⟨_, rfl, a, xs, rfl, hA, h⟩ := h
  have : At H a (.lst xs) := ⟨hA⟩
  refine ⟨_, pss_one (ps_ret (pe_callB call_isiT (by rfl) T.f_isinstance (by decide +kernel) (pa_cons (pv 0) (pa_cons (pe_tup (pa_cons (pe_ty (n := "list") (by rfl) T.f_list (by decide +kernel)) (pa_cons (pe_ty (n := "tuple") (by rfl) T.f_tuple (by decide +kernel)) pa_nil))) pa_nil)))), ?_⟩
  refine start_to (σ := [some _]) rfl ?_
  try dsimp only [cxOf]
  walk_at "go"
  exact h _ (by walk_at "ext")
/-- are_unlike of an empty list -/
def pUnlike (v : V) (H : Hp) (Q : VK) : Prop := ∃ a, v = .ref a ∧ H a = some (.lst []) ∧ ∀ H', Ext H H' → Q (.bl true) H'
theorem ok_are_unlike  (T : Txt w K mg) : Cal PG w K mg base (0 + 1) "are_unlike" (sp1 pUnlike) := by
  obtain ⟨fd, F⟩ := T.d_are_unlike
  refine cal_mk F T.g_are_unlike sc_are_unlike (fun _ _ _ _ _ _ us hl => match us, hl with | [_], _ => rfl) fun cdv A outer s0 H vs Q E hr h => ?_
  obtain ⟨_, rfl, a, rfl, hA, h⟩ := h
  have : At H a (.lst []) := ⟨hA⟩
  refine ⟨_, pss_one (ps_ret (pe_cmpR op_eq (pe_callB (call_lenK (K := K) rfl) (by rfl) T.f_len (by decide +kernel) (pa_cons (pe_dc (own := [("one", 1)]) rfl sc_are_unlike.nd (pi_seq (pv 0)) (blkOk_by (own := [("one", 1)]) (N := ["some", "one"]) (sc := defScope S_are_unlike) (by decide +kernel)) (fun _ _ _ _ _ => (pg_name (i := 1) sc_are_unlike.nd rfl (by first | exact Or.inl rfl | exact Or.inr rfl))) (fun _ _ _ _ _ => pts_nil) (fun _ _ _ _ _ => (pv 1)) (fun _ _ _ _ _ => (pe_bl))) pa_nil)) (pe_callB (call_lenK (K := K) rfl) (by rfl) T.f_len (by decide +kernel) (pa_cons (pv 0) pa_nil)) (nomark _))), ?_⟩
  refine start_to (σ := [some _, none]) rfl ?_
  try dsimp only [cxOf]
  walk_at "go"
  refine dc_nil ?_
  walk_at "go"
  exact h _ (by walk_at "ext")
end

end PB
namespace PB
open PySem PySem.Spec PyProof.Rows L2
local macro_rules | `(tactic| walk_at "rd") => `(tactic| (repeat refine red ?_))
local macro_rules | `(tactic| walk_at "go") => `(tactic| (repeat (first | refine red ?_ | ((with_reducible apply k_var); rfl) | refine k_new fun _ _ => ?_ | refine wp_and rfl ?_ | refine if_redT rfl ?_ | refine if_redF rfl ?_)))

local macro_rules | `(tactic| walk_at "ext") => `(tactic| (repeat (first | assumption | exact Ext.refl _ | refine Ext.newI ?_ | refine Ext.trans ?_ ‹Ext _ _›)))
local macro_rules | `(tactic| walk_at "rv") => `(tactic| (repeat (first | refine red ?_ | ((with_reducible apply k_var); rfl))))
/-! ### the empty tuple, whose object is known: a dict of it -/
class EmpT (H : Hp) (e : Addr) : Prop where
  h : ∃ (o : Obj) (n : Nat), H e = some (.frz o (.tup [])) ∧ o.cls = .type "tuple" ∧ o.dict = none ∧ o.data = .seq #[] n
instance (priority := high) emp_ext {H0 H : Hp} {e : Addr} [x : Ext H0 H] [h : EmpT H0 e] : EmpT H e := ⟨by
  obtain ⟨o, n, a, b⟩ := h.h
  exact ⟨o, n, x.at a, b⟩⟩
instance emp_tup {K : PySem.W.Frag} {H : Hp} {e : Addr} [h : EmpT H e] : TupA K H e [] := ⟨by
  obtain ⟨o, n, a, b⟩ := h.h
  exact .inl (.inr ⟨o, a⟩)⟩
instance emp_isi {K : PySem.W.Frag} {H : Hp} {e : Addr} [h : EmpT H e] : Isi K H (.ref e) "tuple" true := ⟨by
  obtain ⟨o, n, a, b⟩ := h.h
  exact ⟨_, .fTuple a, kit_ty (by decide +kernel)⟩⟩
def kEmp (H : Hp) (Q : VK) : Prop := ∀ p o, New H p → EmpT (upd H p (.frz o (.tup []))) p → Q (.ref p) (upd H p (.frz o (.tup [])))
section
variable {X : Cx} {H : Hp} {Q : VK} {a : Addr}
theorem pe_tupF {x1} {pos : Pos} : PE X (.Tuple [] x1 pos) (fun _ H Q => kEmp H Q) := by
  refine ⟨fun pins s σ H Q I hq => ?_⟩
  refine wpAny_Tuple_spliced (thn (pa_nil.run pos pins s σ H (fun xs H1 => xs = [] ∧ H1 = H) I ⟨rfl, rfl⟩) fun us s1 ⟨xs, H1, I1, r, e1, e2⟩ => ?_)
  subst e1
  cases r
  refine ⟨Nat.zero_le _, ?_⟩
  subst e2
  have hf := I1.hok.fresh (Nat.le_refl _)
  refine ⟨.ref s1.heap.objs.size, upd _ s1.heap.objs.size (.frz { cls := .type "tuple", data := .seq #[] } (.tup [])), I1.laid (t' := s1.toks) (fun b u e => Heap.get?_push_of_some _ e) (Nat.le_refl _) ?_, rfl, hq _ _ ⟨hf⟩ ⟨⟨_, _, upd_same, rfl, rfl, rfl⟩⟩⟩
  exact ⟨Heap.get?_push_size _ rfl, Nat.zero_le _, [], .nil, ⟨_, Heap.get?_push_size _ rfl, rfl, _, rfl⟩⟩
/-- tuple of an empty list -/
def rTupF (K : PySem.W.Frag) : List V → Hp → VK → Prop := fun xs H Q => ∃ p, xs = [.ref p] ∧ SqL K H p [] ∧ kEmp H Q
theorem call_tupleF : CallR X (.type "tuple") (rTupF X.K) := by
  intro pins s σ H xs us Q I r h
  obtain ⟨p, rfl, hq, q⟩ := h
  obtain ⟨u, rfl, rx⟩ := vals1 r
  cases rx
  obtain ⟨its, r', pl, hz⟩ := I.list hq
  cases r'
  refine call_tuple_list pl.isList (fun h' kp => ?_) (by simp)
  have I1 : Inv X pins σ H { s with heap := h' } := I.kept (t' := s.toks) kp
  have hf : H h'.objs.size = none := I1.hok.fresh (Nat.le_refl _)
  have I2 : Inv X pins σ (upd H h'.objs.size (.frz { cls := .type "tuple", data := .seq #[] } (.tup []))) { s with heap := h'.push { cls := .type "tuple", data := .seq #[] } } :=
    I1.laid (t' := s.toks) (fun b o e => Heap.get?_push_of_some _ e) (Nat.le_refl _) ⟨Heap.get?_push_size _ rfl, Nat.zero_le _, [], .nil, ⟨_, Heap.get?_push_size _ rfl, rfl, _, rfl⟩⟩
  exact ⟨.ref h'.objs.size, _, I2, rfl, q _ _ ⟨hf⟩ ⟨⟨_, _, upd_same, rfl, rfl, rfl⟩⟩⟩
instance {K : PySem.W.Frag} [s : At H a (.lst [])] : Red (rTupF K [.ref a] H Q) (kEmp H Q) := ⟨fun h => ⟨a, rfl, SqL.of s.h, h⟩⟩
/-- dict of an empty tuple -/
def rDictE : List V → Hp → VK → Prop := fun xs H Q => ∃ p, xs = [.ref p] ∧ EmpT H p ∧ kNew (.dK []) H Q
theorem call_dictE (hc : X.calm = true) : CallR X (.type "dict") rDictE := by
  intro pins s σ H xs us Q I r h
  obtain ⟨p, rfl, ⟨o, n, e, c, d, dd⟩, q⟩ := h
  obtain ⟨u, rfl, rx⟩ := vals1 r
  cases rx
  have he : s.heap.get? p = some o := (I.hok p _ e).1
  refine PySem.call_dict_pairs (knd := mixKind X.prog X.w) (kvs := []) (PySem.PairArg.tuple p #[] (fun _ => 0) []) (I.ok.hd hc) ⟨⟨o, n, he, c, d, dd⟩, rfl, fun j k v e => by simp at e⟩ ?_ (Nat.zero_le _) fun h' tk hd' k => ?_
  · exact ⟨rfl, fun i key v e => by simp [PySem.PairRel] at e⟩
  · have hm : (s.heap.objs.size == sysModules) = false := beq_eq_false_iff_ne.mpr (Nat.ne_of_gt I.big)
    have hf : H s.heap.objs.size = none := I.hok.fresh (Nat.le_refl _)
    exact ⟨.ref s.heap.objs.size, upd H s.heap.objs.size (.dK []), I.laid (t' := tk) (fun b u e => k b u (by simp) e) (Nat.le_refl _) (show ObjOk X.prog X.w _ _ _ (.dK []) from ⟨Nat.zero_le _, hm, [], .nil, hd'⟩), rfl, q _ ⟨hf⟩⟩
instance [s : EmpT H a] : Red (rDictE [.ref a] H Q) (kNew (.dK []) H Q) := ⟨fun h => ⟨a, rfl, s, h⟩⟩
end
instance sorted_nil {K : PySem.W.Frag} {H : Hp} {Q : VK} {a : Addr} [s : At H a (.lst [])] : Red (rSorted K [.ref a] H Q) (kNew (.lst []) H Q) := ⟨fun h => ⟨a, [], rfl, SqL.of s.h, by decide, fun ns' p e _ hp => by
  have z : ns' = [] := List.perm_nil.mp e
  subst z
  exact h p ⟨hp⟩⟩⟩
theorem k_emp {H : Hp} {Q : VK} (h : ∀ p o, New H p → EmpT (upd H p (.frz o (.tup []))) p → Q (.ref p) (upd H p (.frz o (.tup [])))) : kEmp H Q := h
/-! ### *d, d a dict -/
theorem star_dK {X : Cx} {pins : List (Addr × Obj)} {σ : L2.St} {H : Hp} {s : Shared} {a : Addr} {kvs : List (Key × V)} {E : Value → Shared → Prop} {Q : List Value → Shared → Prop} (hc : X.calm = true) (I : Inv X pins σ H s) (h : H a = some (.dK kvs))
    (hQ : ∀ us s', Inv X pins σ H s' → Vals (kvs.map fun kv => kV kv.1) us → Q us s') : PySem.W.StarOf (model X.prog X.w) X.A E (.ref a) Q s := by
  obtain ⟨z, lo, vs, rk, hd⟩ := (show ObjOk X.prog X.w H s.heap a (.dK kvs) from I.hok a _ h)
  obtain ⟨ep, hat⟩ := hd.dictAt
  have hl : kvs.length = vs.length := Paired.length rk
  have y : wpAny (model X.prog X.w) X.A (collect (.ref a)) Q E s := by
    refine PySem.W.kdu_collect (PySem.W.kdl_dict (knd := mixKind X.prog X.w) (kvs := vs) (ep := ep) lo) (I.ok.hd hc) hat (by rw [← hl]; exact z) fun h' tk acc hk hacc => ?_
    refine hQ _ _ (I.kept (t' := tk) hk) ?_
    have el : acc.toList.length = acc.size := by simp
    refine vals_of_at (by rw [List.length_map, el, hacc.1, hl]) fun j x w h1 h2 => ?_
    obtain ⟨k, y, hky, hi⟩ := hacc.2 j w (by rw [← Array.getElem?_toList]; exact h2)
    have e1 : (kvs.map (·.1))[j]? = some k := by
      rw [KV.keys rk, List.getElem?_map, hky] <;> rfl
    have e2 : (kvs.map fun kv => kV kv.1)[j]? = some (kV k) := by
      have e3 : (kvs.map fun kv => kV kv.1) = (kvs.map (·.1)).map kV := by rw [List.map_map] <;> rfl
      rw [e3, List.getElem?_map, e1] <;> rfl
    rw [e2] at h1
    cases h1
    exact keyIs_rel hi
  unfold PySem.W.StarOf notIterableAtAll
  exact wpAny_bind (wpAny_specialOf hd.mapOf.typeIs PySem.F.slot_dict_iter.lookup (wpAny_pure ⟨rfl, y⟩))
def tStarD (te : TE) (t : TA) : TA := fun σ H Q => te σ H fun x H1 => ∃ p kvs, x = V.ref p ∧ H1 p = some (.dK kvs) ∧ t σ H1 fun ys H2 => Q ((kvs.map fun kv => kV kv.1) ++ ys) H2
theorem pa_starD {X : Cx} {e : Expr} {es : List Expr} {te : TE} {t : TA} {p : Pos} (hc : X.calm = true) (he : PE X e te) (hr : PA X es t) (hs : starEach (.Starred e p :: es) X.env = (true, eval e X.env) :: starEach es X.env := by rfl) : PA X (.Starred e p :: es) (tStarD te t) := by
  refine ⟨fun pos pins s σ H Q I h => ?_⟩
  refine PySem.W.items_star (thn (he.run pins s σ H _ I h) fun v s1 ⟨y, H1, I1, ry, a, xs, ey, hx, q⟩ => ?_) hs
  subst ey
  obtain rfl : v = Value.ref a := ry
  refine star_dK hc I1 hx fun us s2 I2 rv => ?_
  refine thn (hr.run pos pins s2 σ H1 _ I2 q) fun us2 s3 ⟨vs, H3, I3, r3, q3⟩ => ?_
  exact ⟨_, H3, I3, rv.append r3, q3⟩
section
variable {K : PySem.W.Frag} {σ : L2.St} {H : Hp} {te ta : TE} {t al : TA} {QL : List V → Hp → Prop} {D : Ends} {a : Addr} {xs : List V} {kvs : List (Key × V)}
def kStar (K : PySem.W.Frag) (x : V) (H : Hp) (N : List V → Prop) : Prop := ∃ p xs, x = V.ref p ∧ (SqT K H p xs ∨ SqL K H p xs) ∧ N xs
def kStarD (x : V) (H : Hp) (N : List V → Prop) : Prop := ∃ p kvs, x = V.ref p ∧ H p = some (.dK kvs) ∧ N (kvs.map fun kv => kV kv.1)
instance : Red (StX.tStar K te t σ H QL) (te σ H fun x H1 => kStar K x H1 fun xs => t σ H1 fun ys H2 => QL (xs ++ ys) H2) := ⟨id⟩
instance : Red (tStarD te t σ H QL) (te σ H fun x H1 => kStarD x H1 fun xs => t σ H1 fun ys H2 => QL (xs ++ ys) H2) := ⟨fun h => by
  have e : (fun x H1 => kStarD x H1 fun xs => t σ H1 fun ys H2 => QL (xs ++ ys) H2) = fun x H1 => ∃ p kvs, x = V.ref p ∧ H1 p = some (.dK kvs) ∧ t σ H1 fun ys H2 => QL ((kvs.map fun kv => kV kv.1) ++ ys) H2 := by
    funext x H1
    exact propext ⟨fun ⟨p, kvs, a, b, c⟩ => ⟨p, kvs, a, b, c⟩, fun ⟨p, kvs, a, b, c⟩ => ⟨p, kvs, a, b, c⟩⟩
  show te σ H _
  rw [← e]
  exact h⟩
instance {N : List V → Prop} [s : Seq K H a xs] : Red (kStar K (.ref a) H N) (N xs) := ⟨fun h => ⟨a, xs, rfl, s.h.symm, h⟩⟩
instance {N : List V → Prop} [s : At H a (.dK kvs)] : Red (kStarD (.ref a) H N) (N (kvs.map fun kv => kV kv.1)) := ⟨fun h => ⟨a, kvs, rfl, s.h, h⟩⟩
def kPar (i j : Nat) (vs : List V) (σ : L2.St) (H : Hp) (N : L2.St → Hp → Prop) : Prop := ∃ v w, vs = [v, w] ∧ N ((σ.set i (some v)).set j (some w)) H
def kPar3 (i j l : Nat) (vs : List V) (σ : L2.St) (H : Hp) (N : L2.St → Hp → Prop) : Prop := ∃ u v w, vs = [u, v, w] ∧ N (((σ.set i (some u)).set j (some v)).set l (some w)) H
instance {i j : Nat} : Red (tPar i j t D σ H) (t σ H fun vs H1 => kPar i j vs σ H1 D.nx) := ⟨id⟩
instance {i j l : Nat} : Red (tPar3 i j l t D σ H) (t σ H fun vs H1 => kPar3 i j l vs σ H1 D.nx) := ⟨id⟩
instance {i j : Nat} {v w' : V} {N : L2.St → Hp → Prop} : Red (kPar i j [v, w'] σ H N) (N ((σ.set i (some v)).set j (some w')) H) := ⟨fun h => ⟨v, w', rfl, h⟩⟩
instance {i j l : Nat} {u v w' : V} {N : L2.St → Hp → Prop} : Red (kPar3 i j l [u, v, w'] σ H N) (N (((σ.set i (some u)).set j (some v)).set l (some w')) H) := ⟨fun h => ⟨u, v, w', rfl, h⟩⟩
end
/-! ### len(set(l)), l a list of tuples of texts and ints, all unlike, four at most -/
def kLenSetT (K : PySem.W.Frag) (x : V) (H : Hp) (Q : VK) : Prop := ∃ (l : Addr) (ts : List Addr) (ks : List (List Key)), x = .ref l ∧ SqL K H l (ts.map V.ref) ∧ Paired (fun t (k : List Key) => H t = some (.tup (k.map kV))) ts ks ∧ ks.Nodup ∧ ts.length ≤ 4 ∧ Q (.int (ts.length : Nat)) H
def tLenSetT (K : PySem.W.Frag) (ta : TE) : TE := fun σ H Q => ta σ H fun x H1 => kLenSetT K x H1 Q
instance {K : PySem.W.Frag} {ta : TE} {σ : L2.St} {H : Hp} {Q : VK} : Red (tLenSetT K ta σ H Q) (ta σ H fun x H1 => kLenSetT K x H1 Q) := ⟨id⟩
theorem hu65 {k : Nat} {A : Around} (r : Room k A) : A.units + 65 < cLine := by have := r.un; omega
section
variable {X : Cx}
/-- name = {..: .. for ..} on one line, the name a local -/
theorem ps_setDc {i : Nat} {y : Str} {py : Pos} {kx vx tg iter : Expr} {ifs : List Expr} {scope : Scope} {own : List (Str × Nat)} {pos spos : Pos} {wi : TI} {g : TG} {tt : TT} {tk tv : TE} (hc : X.calm = true) (hN : X.N.Nodup) (hy : X.N[i]? = some y) (hyl : X.env.scope.names.lookup y = some .local)
    (hsw : swapsWith (.DictComp kx vx [⟨tg, iter, ifs, 0⟩] scope pos) (some (.Name y py)) spos.line X.env = pure true) (hi : PI X tg iter wi) (ok : BlkOk X.N X.env.scope scope own)
    (hg : ∀ (s : Shared) (H : Hp) (C : Addr) (cl : List (Str × Addr)) (fp : List Addr), L2.PG (X.blk s H scope (compEnvC scope cl C X.env) fp) tg g) (ht : ∀ (s : Shared) (H : Hp) (C : Addr) (cl : List (Str × Addr)) (fp : List Addr), PTs (X.blk s H scope (compEnvC scope cl C X.env) fp) ifs tt)
    (hk : ∀ (s : Shared) (H : Hp) (C : Addr) (cl : List (Str × Addr)) (fp : List Addr), PE (X.blk s H scope (compEnvC scope cl C X.env) fp) kx tk)
    (he : ∀ (s : Shared) (H : Hp) (C : Addr) (cl : List (Str × Addr)) (fp : List Addr), PE (X.blk s H scope (compEnvC scope cl C X.env) fp) vx tv) (hs : ∀ x, foldedSetIterable iter X.env x = pure x := by intro _; rfl) :
    PS X (.Assign [.Name y py] (.DictComp kx vx [⟨tg, iter, ifs, 0⟩] scope pos) spos) (tAsg (tDc wi g tt tk tv (own.map (·.2))) (gName i)) := by
  refine ⟨fun pins s σ H D I h => ?_⟩
  rw [exec_Assign_Name_used _ _ _ _ hsw]
  refine wpAny_bind (wpAny_standAt (wpAny_bind ?_))
  show wpAny _ X.A (do let _ ← comprehension (.DictComp kx vx [⟨tg, iter, ifs, 0⟩] scope pos) scope X.env (firstIterPos [⟨tg, iter, ifs, 0⟩] pos) newDict false (eval iter X.env) (some (assign (.Name y py) X.env))) _ _ s
  have h : tDc wi g tt tk tv (own.map (·.2)) σ H (fun x H1 => gName i x σ H1 D.nx) := h
  refine wpAny_bind (thn (dc_core (Qf := fun _ s' => SP X pins D .next s') hc hN I hi ok hg ht hk he hs h fun L C s' m H' I' q hn f => ?_) fun _ s' hq => wpAny_pure (wpAny_pure hq))
  show wpAny _ _ (assign (.Name y py) X.env (.ref L)) _ _ _
  refine wpAny_assign_Name (store_ok2 (v := V.ref L) I' hN hy (.inl hyl) rfl (fun s2 I2 ⟨a, sb, ha⟩ => ?_) (.inr hyl))
  obtain ⟨f0, f1, f2, f3, f4, f5⟩ := f
  have haC : C ≠ a := by
    rcases ha with z | z
    · rw [z]; exact f1
    · exact fun e => f4 y a z e.symm
  refine ⟨m, hn.sameBut sb haC, fun h3 sb3 => ?_⟩
  exact ⟨_, H', I2.turned (t' := s2.toks) (fun b o hb e => (sb3.2 b hb).trans e) f0 f1 f3 f4 f5, q⟩
theorem sw_trueD {kx vx : Expr} {gs : List Comprehension} {scope : Scope} {pos py : Pos} {y : Str} {l : Nat} {env : Env} (hk : env.scope.kind = .function) (hy : env.scope.names.lookup y = some .local) (hl : (py.line == pos.line) = true)
    (ha : (scope.names.any fun (n, k) => n == y && (k == .local || k == .cell)) = false) : swapsWith (.DictComp kx vx gs scope pos) (some (.Name y py)) l env = pure true := by
  have ky : env.kindOf y = some .local := hy
  have hb : env.blockKind = .function := by unfold Env.blockKind; rw [hk]; rfl
  unfold swapsWith
  simp only [hb, ky, ha, Expr.pos, hl]
  rfl
end

end PB
namespace PB
open PySem PySem.Spec PyProof.Rows L2
local macro_rules | `(tactic| walk_at "rd") => `(tactic| (repeat refine red ?_))
local macro_rules | `(tactic| walk_at "go") => `(tactic| (repeat (first | refine red ?_ | ((with_reducible apply k_var); rfl) | refine k_new fun _ _ => ?_ | refine wp_and rfl ?_ | refine if_redT rfl ?_ | refine if_redF rfl ?_)))

local macro_rules | `(tactic| walk_at "ext") => `(tactic| (repeat (first | assumption | exact Ext.refl _ | refine Ext.newI ?_ | refine Ext.trans ?_ ‹Ext _ _›)))
local macro_rules | `(tactic| walk_at "rv") => `(tactic| (repeat (first | refine red ?_ | ((with_reducible apply k_var); rfl))))
/-! ### deeds -/
inductive Deed where
  | add (m : Int) (x : Str) (v : Int) | put (m : Int)
def Deed.m : Deed → Int
  | .add m _ _ => m
  | .put m => m
def Nm (x : Str) : Prop := x = "a" ∨ x = "b" ∨ x = "cc"
def Deed.ok : Deed → Prop
  | .add m x v => 1 ≤ m ∧ m ≤ 999 ∧ Nm x ∧ 0 ≤ v ∧ v ≤ 99
  | .put m => 1 ≤ m ∧ m ≤ 999
def DeedR (H : Hp) (v : V) : Deed → Prop
  | .add m x k => ∃ a, v = .ref a ∧ H a = some (.tup [.int m, .str "add", .str x, .int k])
  | .put m => ∃ a e, v = .ref a ∧ H a = some (.tup [.int m, .str "put", .int 0, .ref e]) ∧ EmpT H e
theorem DeedR.mono {H H' : Hp} {v : V} {d : Deed} (e : Ext H H') (h : DeedR H v d) : DeedR H' v d := by
  cases d with
  | add => obtain ⟨a, x, y⟩ := h; exact ⟨a, x, e.at y⟩
  | put => obtain ⟨a, b, x, y, z⟩ := h; exact ⟨a, b, x, e.at y, inferInstance⟩
/-- not a tuple, not a locked tuple -/
def NoTup (o : HO) : Prop := (∀ xs, o ≠ .tup xs) ∧ ∀ ob xs, o ≠ .frz ob (.tup xs)
theorem EmpT.hid {H : Hp} {e D : Addr} {o : HO} (h : EmpT H e) (hD : H D = some o) (ho : NoTup o) : EmpT (Hid D H) e := ⟨by
  obtain ⟨ob, n, a, b⟩ := h.h
  exact ⟨ob, n, Hid.at a (ne_of_at a hD fun z => ho.2 _ _ z.symm), b⟩⟩
theorem DeedR.hid {H : Hp} {v : V} {d : Deed} {D : Addr} {o : HO} (h : DeedR H v d) (hD : H D = some o) (ho : NoTup o) : DeedR (Hid D H) v d := by
  cases d with
  | add => obtain ⟨a, x, y⟩ := h; exact ⟨a, x, Hid.at y (ne_of_at y hD fun z => ho.1 _ z.symm)⟩
  | put => obtain ⟨a, b, x, y, z⟩ := h; exact ⟨a, b, x, Hid.at y (ne_of_at y hD fun z => ho.1 _ z.symm), z.hid hD ho⟩
section
variable {w : World} {K : PySem.W.Frag} {mg : Str → Option Value} {base : Heap}
theorem Nm.len {x : Str} (h : Nm x) : x.length = 1 ∨ x.length = 2 := by
  rcases h with rfl | rfl | rfl
  · exact .inl (by decide +kernel)
  · exact .inl (by decide +kernel)
  · exact .inr (by decide +kernel)
theorem Nm.sign {x : Str} (h : Nm x) : ∀ c, c ∈ x.cps.toList → c ∈ (Str.ofString "abcdefghijklmnopqrstuvwxyz").cps.toList := by
  rcases h with rfl | rfl | rfl <;> decide +kernel
def pName (v : V) (H : Hp) (Q : VK) : Prop := ∃ x, v = .str x ∧ Nm x ∧ ∀ H', Ext H H' → Q (.bl true) H'
instance {x : Str} {H : Hp} {Q : VK} : Red (pName (.str x) H Q) (Nm x ∧ ∀ H', Ext H H' → Q (.bl true) H') := ⟨fun h => ⟨x, rfl, h⟩⟩
theorem ok_is_name  (T : Txt w K mg) : Cal PG w K mg base (0 + 1) "is_name" (sp1 pName) := by
  obtain ⟨fd, F⟩ := T.d_is_name
  refine cal_mk F T.g_is_name sc_is_name (fun _ _ _ _ _ _ us hl => match us, hl with | [_], _ => rfl) fun cdv A outer s0 H vs Q E hr h => ?_
  obtain ⟨_, rfl, x, rfl, hx, h⟩ := h
  have hl := hx.len
  have : ShortS x := ⟨by show x.length ≤ 2 ^ 24; omega⟩
  refine ⟨_, pss_one (ps_ret (pe_and (pe_callB (call_isiK2 (K := K) rfl) (by rfl) T.f_isinstance (by decide +kernel) (pa_cons (pv 0) (pa_cons (pe_ty (n := "str") (by rfl) T.f_str (by decide +kernel)) pa_nil))) (pe_and (pe_chain op_le op_le (pe_int) (pe_callB (call_lenK (K := K) rfl) (by rfl) T.f_len (by decide +kernel) (pa_cons (pv 0) pa_nil)) (pe_int)) (pe_one (pe_callB (cr_all rfl) (by rfl) T.f_all (by decide +kernel) (pa_cons (pe_lc (own := [("sign", 1)]) rfl sc_is_name.nd ((pi_str (pv 0))) (blkOk_by (own := [("sign", 1)]) (N := ["value", "sign"]) (sc := defScope S_is_name) (by decide +kernel)) (fun _ _ _ _ _ => (pg_name (i := 1) sc_is_name.nd rfl (by first | exact Or.inl rfl | exact Or.inr rfl))) (fun _ _ _ _ _ => pts_nil) (fun _ _ _ _ _ => (pe_cmpR op_sign (pv 1) (pe_gv rfl T.c_LETTERS) (by rfl)))) pa_nil)))))), ?_⟩
  refine start_to (σ := [some _, none]) rfl ?_
  try dsimp only [cxOf]
  walk_at "go"
  rw [decide_eq_true (show (1 : Int) ≤ (x.length : Nat) by omega)]
  walk_at "go"
  rw [decide_eq_true (show ((x.length : Nat) : Int) ≤ 4 by omega)]
  walk_at "go"
  refine lc_go (VR V.bl) (fun _ h => h) (fun _ => some true) (by show x.length ≤ 2 ^ 24; omega) ?_ ?_
  · intro i v H1 H2 D hi e1 nD acc y N1 N2 k1 k2
    obtain ⟨rfl, c, hc, rfl⟩ := y
    walk_at "go"
    rw [decide_eq_true (hx.sign c (by simpa using Array.mem_of_getElem? hc))]
    exact k1 _ _ true (Ext.refl _) rfl rfl
  · intro D H' ys nD e hD hE
    walk_at "go"
    refine all_true hD (mem_fm_true hE) ?_
    exact h _ (by walk_at "ext")
/-- the tests of a deed's word and length -/
def pHas (v wd many : V) (H : Hp) (Q : VK) : Prop := ∃ a m s c d u n, v = .ref a ∧ H a = some (.tup [.int m, .str s, c, d]) ∧ wd = .str u ∧ many = .int n ∧ 1 ≤ m ∧ m ≤ 999 ∧ Q (.bl (decide ((4 : Int) = n) && decide (s = u))) H
class DeedTup (H : Hp) (a : Addr) (m : outParam Int) (s : outParam Str) (c d : outParam V) : Prop where
  h : H a = some (.tup [.int m, .str s, c, d])
  lo : 1 ≤ m
  hi : m ≤ 999
instance deed_at {H : Hp} {a : Addr} {m : Int} {s : Str} {c d : V} [t : DeedTup H a m s c d] : At H a (.tup [.int m, .str s, c, d]) := ⟨t.h⟩
instance (priority := low) deed_ext {H H0 : Hp} {a : Addr} {m : Int} {s : Str} {c d : V} [e : Ext H0 H] [t : DeedTup H0 a m s c d] : DeedTup H a m s c d := ⟨e.at t.h, t.lo, t.hi⟩
instance has4 {a : Addr} {m : Int} {s u : Str} {c d : V} {b : Bool} {H : Hp} {Q : VK} [t : DeedTup H a m s c d] [k : DecS s u b] : Red (pHas (.ref a) (.str u) (.int 4) H Q) (Q (.bl b) H) :=
  ⟨fun h => ⟨a, m, s, c, d, u, 4, rfl, t.h, rfl, rfl, t.lo, t.hi, by rw [k.h]; exact h⟩⟩
instance has3 {a : Addr} {m : Int} {s u : Str} {c d : V} {H : Hp} {Q : VK} [t : DeedTup H a m s c d] : Red (pHas (.ref a) (.str u) (.int 3) H Q) (Q (.bl false) H) :=
  ⟨fun h => ⟨a, m, s, c, d, u, 3, rfl, t.h, rfl, rfl, t.lo, t.hi, h⟩⟩
theorem ok_has_word  (T : Txt w K mg) : Cal PG w K mg base (3 + 1) "has_word" (sp3 pHas) := by
  obtain ⟨fd, F⟩ := T.d_has_word
  refine cal_mk F T.g_has_word sc_has_word (fun _ _ _ _ _ _ us hl => match us, hl with | [_, _, _], _ => rfl) fun cdv A outer s0 H vs Q E hr h => ?_
  obtain ⟨_, _, _, rfl, a, m, s, c, d, u, n, rfl, hA, rfl, rfl, h1, h2, h⟩ := h
  have : At H a (.tup [.int m, .str s, c, d]) := ⟨hA⟩
  have : DecS s u (decide (s = u)) := ⟨rfl⟩
  have c_is_moment := ok_is_moment (base := base) T
  refine ⟨_, pss_cons (ps_if (PW.pt (pw_or (pt_not (pt_val (pe_callB (call_isiK2 (K := K) rfl) (by rfl) T.f_isinstance (by decide +kernel) (pa_cons (pv 0) (pa_cons (pe_ty (n := "tuple") (by rfl) T.f_tuple (by decide +kernel)) pa_nil))))) (pw_or (pt_cmpR op_ne (pe_callB (call_lenK (K := K) rfl) (by rfl) T.f_len (by decide +kernel) (pa_cons (pv 0) pa_nil)) (pv 2) (nomark _)) (pw_or1 (pt_not (pt_val (pe_cl c_is_moment hr (by first | decide | omega) rfl (pa_cons (pe_ix (ix_anyK (K := K) rfl) (pv 0) (pe_int) (fun _ _ => rfl)) pa_nil)))))))) (pss_one (ps_ret (pe_bl))) pss_nil)
      (pss_one (ps_ret (pe_and (pe_callB (call_isiK2 (K := K) rfl) (by rfl) T.f_isinstance (by decide +kernel) (pa_cons (pe_ix (ix_anyK (K := K) rfl) (pv 0) (pe_int) (fun _ _ => rfl)) (pa_cons (pe_ty (n := "str") (by rfl) T.f_str (by decide +kernel)) pa_nil))) (pe_one (pe_cmpR op_eq (pe_ix (ix_anyK (K := K) rfl) (pv 0) (pe_int) (fun _ _ => rfl)) (pv 1) (nomark _)))))), ?_⟩
  refine start_to (σ := [some _, some _, some _]) rfl ?_
  try dsimp only [cxOf]
  walk_at "go"
  by_cases e : (4 : Int) = n
  · subst e
    walk_at "go"
    refine ⟨h1, h2, ?_⟩
    walk_at "go"
    exact h
  · rw [decide_eq_false (show ¬ (((([V.int m, V.str s, c, d] : List V).length : Nat) : Int) = n) from e)]
    walk_at "go"
    rw [decide_eq_false e] at h
    exact h
def pPairs (v : V) (H : Hp) (Q : VK) : Prop := ∃ a, v = .ref a ∧ EmpT H a ∧ ∀ H', Ext H H' → Q (.bl true) H'
instance {a : Addr} {H : Hp} {Q : VK} [s : EmpT H a] : Red (pPairs (.ref a) H Q) (∀ H', Ext H H' → Q (.bl true) H') := ⟨fun h => ⟨a, rfl, s, h⟩⟩
theorem ok_are_pairs  (T : Txt w K mg) : Cal PG w K mg base (3 + 1) "are_pairs" (sp1 pPairs) := by
  obtain ⟨fd, F⟩ := T.d_are_pairs
  refine cal_mk F T.g_are_pairs sc_are_pairs (fun _ _ _ _ _ _ us hl => match us, hl with | [_], _ => rfl) fun cdv A outer s0 H vs Q E hr h => ?_
  obtain ⟨_, rfl, a, rfl, hA, h⟩ := h
  have c_are_unlike := (ok_are_unlike (base := base) T).mono (show 1 ≤ 3 by omega)
  refine ⟨_, pss_cons (ps_if (PW.pt (pw_or (pt_not (pt_val (pe_callB (call_isiK2 (K := K) rfl) (by rfl) T.f_isinstance (by decide +kernel) (pa_cons (pv 0) (pa_cons (pe_ty (n := "tuple") (by rfl) T.f_tuple (by decide +kernel)) pa_nil))))) (pw_or (pt_cmpR op_gt (pe_callB (call_lenK (K := K) rfl) (by rfl) T.f_len (by decide +kernel) (pa_cons (pv 0) pa_nil)) (pe_gv rfl T.c_MOST_PAIRS) (nomark _)) (pw_or1 (pt_not (pt_val (pe_callB (cr_all rfl) (by rfl) T.f_all (by decide +kernel) (pa_cons (pe_lc (own := [("pair", 3)]) rfl sc_are_pairs.nd (pi_seq (pv 0)) (blkOk_by (own := [("pair", 3)]) (N := ["value", "name", "worth", "pair"]) (sc := defScope S_are_pairs) (by decide +kernel)) (fun _ _ _ _ _ => (pg_name (i := 3) sc_are_pairs.nd rfl (by first | exact Or.inl rfl | exact Or.inr rfl))) (fun _ _ _ _ _ => pts_nil) (fun _ _ _ _ _ => (pe_never))) pa_nil)))))))) (pss_one (ps_ret (pe_bl))) pss_nil)
      (pss_one (ps_ret (pe_cl c_are_unlike hr (by first | decide | omega) rfl (pa_cons (pe_lc (own := [("name", 1), ("worth", 2)]) rfl sc_are_pairs.nd (pi_seq (pv 0)) (blkOk_by (own := [("name", 1), ("worth", 2)]) (N := ["value", "name", "worth", "pair"]) (sc := defScope S_are_pairs) (by decide +kernel)) (fun _ _ _ _ _ => (pg_tupK (K := K) (n := 2) rfl rfl (pgs_cons (pg_name (i := 1) sc_are_pairs.nd rfl (by first | exact Or.inl rfl | exact Or.inr rfl)) (pgs_cons (pg_name (i := 2) sc_are_pairs.nd rfl (by first | exact Or.inl rfl | exact Or.inr rfl)) pgs_nil)))) (fun _ _ _ _ _ => pts_nil) (fun _ _ _ _ _ => (pv 1))) pa_nil)))), ?_⟩
  refine start_to (σ := [some _, none, none, none]) rfl ?_
  try dsimp only [cxOf]
  walk_at "go"
  refine lc_nil ?_
  walk_at "go"
  refine all_true At.h (fun v m => by cases m) ?_
  walk_at "go"
  refine lc_nil ?_
  walk_at "go"
  refine ⟨_, rfl, At.h, ?_⟩
  intro H' e'
  exact h _ (by walk_at "ext")
/-- is_row_deed, is_column_deed, is_deed of a deed that may be done -/
class DeedAt (H : Hp) (v : V) (d : outParam Deed) : Prop where
  h : DeedR H v d
  ok : d.ok
def pRow (v : V) (H : Hp) (Q : VK) : Prop := ∃ d, DeedR H v d ∧ d.ok ∧ ∀ H', Ext H H' → Q (.bl (match d with | .put _ => true | .add .. => false)) H'
instance {v : V} {d : Deed} {H : Hp} {Q : VK} [s : DeedAt H v d] : Red (pRow v H Q) (∀ H', Ext H H' → Q (.bl (match d with | .put _ => true | .add .. => false)) H') := ⟨fun h => ⟨d, s.h, s.ok, h⟩⟩
theorem ok_is_row_deed  (T : Txt w K mg) : Cal PG w K mg base (4 + 1) "is_row_deed" (sp1 pRow) := by
  obtain ⟨fd, F⟩ := T.d_is_row_deed
  refine cal_mk F T.g_is_row_deed sc_is_row_deed (fun _ _ _ _ _ _ us hl => match us, hl with | [_], _ => rfl) fun cdv A outer s0 H vs Q E hr h => ?_
  obtain ⟨_, rfl, d, hR, ok, h⟩ := h
  have c_has_word := ok_has_word (base := base) T
  have c_is_key := (ok_is_key (base := base) T).mono (show 3 ≤ 4 by omega)
  have c_are_pairs := (ok_are_pairs (base := base) T)
  refine ⟨_, pss_cons (ps_if (pt_val (pe_cl c_has_word hr (by first | decide | omega) rfl (pa_cons (pv 0) (pa_cons (pe_str) (pa_cons (pe_int) pa_nil))))) (pss_one (ps_ret (pe_and (pe_cl c_is_key hr (by first | decide | omega) rfl (pa_cons (pe_ix (ix_anyK (K := K) rfl) (pv 0) (pe_int) (fun _ _ => rfl)) pa_nil)) (pe_one (pe_cl c_are_pairs hr (by first | decide | omega) rfl (pa_cons (pe_ix (ix_anyK (K := K) rfl) (pv 0) (pe_int) (fun _ _ => rfl)) pa_nil)))))) pss_nil)
      (pss_one (ps_ret (pe_and (pe_cl c_has_word hr (by first | decide | omega) rfl (pa_cons (pv 0) (pa_cons (pe_str) (pa_cons (pe_int) pa_nil)))) (pe_one (pe_cl c_is_key hr (by first | decide | omega) rfl (pa_cons (pe_ix (ix_anyK (K := K) rfl) (pv 0) (pe_int) (fun _ _ => rfl)) pa_nil)))))), ?_⟩
  refine start_to (σ := [some _]) rfl ?_
  try dsimp only [cxOf]
  cases d with
  | add m x k =>
    obtain ⟨a, rfl, hA⟩ := hR
    have : DeedTup H a m "add" (.str x) (.int k) := ⟨hA, ok.1, ok.2.1⟩
    walk_at "go"
    exact h _ (by walk_at "ext")
  | put m =>
    obtain ⟨a, e, rfl, hA, hE⟩ := hR
    have : DeedTup H a m "put" (.int 0) (.ref e) := ⟨hA, ok.1, ok.2⟩
    walk_at "go"
    refine ⟨by omega, by omega, ?_⟩
    walk_at "go"
    intro H' e'
    exact h _ (by walk_at "ext")
def pCol (v : V) (H : Hp) (Q : VK) : Prop := ∃ m x k, DeedR H v (.add m x k) ∧ (Deed.add m x k).ok ∧ ∀ H', Ext H H' → Q (.bl true) H'
instance {v : V} {m k : Int} {x : Str} {H : Hp} {Q : VK} [s : DeedAt H v (.add m x k)] : Red (pCol v H Q) (∀ H', Ext H H' → Q (.bl true) H') := ⟨fun h => ⟨m, x, k, s.h, s.ok, h⟩⟩
theorem ok_is_column_deed  (T : Txt w K mg) : Cal PG w K mg base (4 + 1) "is_column_deed" (sp1 pCol) := by
  obtain ⟨fd, F⟩ := T.d_is_column_deed
  refine cal_mk F T.g_is_column_deed sc_is_column_deed (fun _ _ _ _ _ _ us hl => match us, hl with | [_], _ => rfl) fun cdv A outer s0 H vs Q E hr h => ?_
  obtain ⟨_, rfl, m, x, k, hR, ok, h⟩ := h
  have c_has_word := ok_has_word (base := base) T
  have c_is_name := (ok_is_name (base := base) T).mono (show 1 ≤ 4 by omega)
  have c_is_cell := (ok_is_cell (base := base) T).mono (show 3 ≤ 4 by omega)
  refine ⟨_, pss_cons (ps_if (pt_val (pe_cl c_has_word hr (by first | decide | omega) rfl (pa_cons (pv 0) (pa_cons (pe_str) (pa_cons (pe_int) pa_nil))))) (pss_one (ps_ret (pe_and (pe_cl c_is_name hr (by first | decide | omega) rfl (pa_cons (pe_ix (ix_anyK (K := K) rfl) (pv 0) (pe_int) (fun _ _ => rfl)) pa_nil)) (pe_one (pe_cl c_is_cell hr (by first | decide | omega) rfl (pa_cons (pe_ix (ix_anyK (K := K) rfl) (pv 0) (pe_int) (fun _ _ => rfl)) pa_nil)))))) pss_nil)
      (pss_cons (ps_if (pt_val (pe_cl c_has_word hr (by first | decide | omega) rfl (pa_cons (pv 0) (pa_cons (pe_str) (pa_cons (pe_int) pa_nil))))) (pss_one (ps_ret (pe_and (pe_cl c_is_name hr (by first | decide | omega) rfl (pa_cons (pe_ix (ix_anyK (K := K) rfl) (pv 0) (pe_int) (fun _ _ => rfl)) pa_nil)) (pe_one (pe_cl c_is_name hr (by first | decide | omega) rfl (pa_cons (pe_ix (ix_anyK (K := K) rfl) (pv 0) (pe_int) (fun _ _ => rfl)) pa_nil)))))) pss_nil)
      (pss_one (ps_ret (pe_and (pe_cl c_has_word hr (by first | decide | omega) rfl (pa_cons (pv 0) (pa_cons (pe_str) (pa_cons (pe_int) pa_nil)))) (pe_one (pe_cl c_is_name hr (by first | decide | omega) rfl (pa_cons (pe_ix (ix_anyK (K := K) rfl) (pv 0) (pe_int) (fun _ _ => rfl)) pa_nil))))))), ?_⟩
  refine start_to (σ := [some _]) rfl ?_
  try dsimp only [cxOf]
  obtain ⟨a, rfl, hA⟩ := hR
  have : DeedTup H a m "add" (.str x) (.int k) := ⟨hA, ok.1, ok.2.1⟩
  walk_at "go"
  refine ⟨ok.2.2.1, ?_⟩
  intro H' e'
  walk_at "go"
  refine ⟨ok.2.2.2.1, ok.2.2.2.2, ?_⟩
  exact h _ (by walk_at "ext")
def pDeed (v : V) (H : Hp) (Q : VK) : Prop := ∃ d, DeedR H v d ∧ d.ok ∧ ∀ H', Ext H H' → Q (.bl true) H'
instance {v : V} {d : Deed} {H : Hp} {Q : VK} [s : DeedAt H v d] : Red (pDeed v H Q) (∀ H', Ext H H' → Q (.bl true) H') := ⟨fun h => ⟨d, s.h, s.ok, h⟩⟩
instance (priority := low) deedAt_ext {v : V} {d : Deed} {H0 H : Hp} [e : Ext H0 H] [s : DeedAt H0 v d] : DeedAt H v d := ⟨s.h.mono e, s.ok⟩
theorem ok_is_deed  (T : Txt w K mg) : Cal PG w K mg base (5 + 1) "is_deed" (sp1 pDeed) := by
  obtain ⟨fd, F⟩ := T.d_is_deed
  refine cal_mk F T.g_is_deed sc_is_deed (fun _ _ _ _ _ _ us hl => match us, hl with | [_], _ => rfl) fun cdv A outer s0 H vs Q E hr h => ?_
  obtain ⟨_, rfl, d, hR, ok, h⟩ := h
  have c_is_row_deed := ok_is_row_deed (base := base) T
  have c_is_column_deed := ok_is_column_deed (base := base) T
  refine ⟨_, pss_one (ps_ret (pe_or (pe_cl c_is_row_deed hr (by first | decide | omega) rfl (pa_cons (pv 0) pa_nil)) (pe_one (pe_cl c_is_column_deed hr (by first | decide | omega) rfl (pa_cons (pv 0) pa_nil))))), ?_⟩
  refine start_to (σ := [some _]) rfl ?_
  try dsimp only [cxOf]
  have : DeedAt H _ d := ⟨hR, ok⟩
  walk_at "go"
  intro H' e'
  cases d with
  | add m x k =>
    walk_at "go"
    intro H' e'
    exact h _ (by walk_at "ext")
  | put m =>
    walk_at "go"
    exact h _ (by walk_at "ext")
/-- by_names of an empty tuple -/
def pByNames (v : V) (H : Hp) (Q : VK) : Prop := ∃ a, v = .ref a ∧ EmpT H a ∧ ∀ r H', Ext H H' → EmpT H' r → Q (.ref r) H'
instance {a : Addr} {H : Hp} {Q : VK} [s : EmpT H a] : Red (pByNames (.ref a) H Q) (∀ r H', Ext H H' → EmpT H' r → Q (.ref r) H') := ⟨fun h => ⟨a, rfl, s, h⟩⟩
theorem ok_by_names  (T : Txt w K mg) : Cal PG w K mg base (0 + 1) "by_names" (sp1 pByNames) := by
  obtain ⟨fd, F⟩ := T.d_by_names
  refine cal_mk F T.g_by_names sc_by_names (fun _ _ _ _ _ _ us hl => match us, hl with | [_], _ => rfl) fun cdv A outer s0 H vs Q E hr h => ?_
  obtain ⟨_, rfl, a, rfl, hA, h⟩ := h
  refine ⟨_, pss_cons (ps_set (i := 1) sc_by_names.nd rfl (by first | exact Or.inl rfl | exact Or.inr rfl) (pe_callTy (call_dictE rfl) (by rfl) T.f_dict (by decide +kernel) (pa_cons (pv 0) pa_nil)))
      (pss_one (ps_ret (pe_callTy call_tupleF (by rfl) T.f_tuple (by decide +kernel) (pa_cons (pe_lc (own := [("name", 2)]) rfl sc_by_names.nd (pi_seq (pe_callB cr_sorted (by rfl) T.f_sorted (by decide +kernel) (pa_cons (pe_lock ((pe_lc (own := [("word", 3)]) rfl sc_by_names.nd ((pi_keys (pv 1))) (blkOk_by (own := [("word", 3)]) (N := ["pairs", "known", "name", "word"]) (sc := defScope S_by_names) (by decide +kernel)) (fun _ _ _ _ _ => (pg_name (i := 3) sc_by_names.nd rfl (by first | exact Or.inl rfl | exact Or.inr rfl))) (fun _ _ _ _ _ => pts_nil) (fun _ _ _ _ _ => (pe_never))))) pa_nil))) (blkOk_by (own := [("name", 2)]) (N := ["pairs", "known", "name", "word"]) (sc := defScope S_by_names) (by decide +kernel)) (fun _ _ _ _ _ => (pg_name (i := 2) sc_by_names.nd rfl (by first | exact Or.inl rfl | exact Or.inr rfl))) (fun _ _ _ _ _ => pts_nil) (fun _ _ _ _ _ => (pe_tup (pa_cons (pv 2) (pa_cons (pe_never) pa_nil))))) pa_nil)))), ?_⟩
  refine start_to (σ := [some _, none, none, none]) rfl ?_
  try dsimp only [cxOf]
  walk_at "go"
  refine lock_in upd_same fun od => ?_
  walk_at "go"
  refine lc_nil (k_new fun D n => ?_)
  refine unlk upd_same n ?_ upd_same fun H'' n e hD => ?_
  · walk_at "ext"
  have : At H'' D (.lst []) := ⟨hD⟩
  walk_at "go"
  refine lc_nil ?_
  walk_at "go"
  refine k_emp fun p o hn he => ?_
  exact h _ _ (by walk_at "ext") he
def pInOrder (v : V) (H : Hp) (Q : VK) : Prop := ∃ d, DeedR H v d ∧ ∀ r H', Ext H H' → DeedR H' r d → Q r H'
instance {v : V} {d : Deed} {H : Hp} {Q : VK} [s : DeedAt H v d] : Red (pInOrder v H Q) (∀ r H', Ext H H' → DeedR H' r d → Q r H') := ⟨fun h => ⟨d, s.h, h⟩⟩
theorem ok_in_name_order  (T : Txt w K mg) : Cal PG w K mg base (1 + 1) "in_name_order" (sp1 pInOrder) := by
  obtain ⟨fd, F⟩ := T.d_in_name_order
  refine cal_mk F T.g_in_name_order sc_in_name_order (fun _ _ _ _ _ _ us hl => match us, hl with | [_], _ => rfl) fun cdv A outer s0 H vs Q E hr h => ?_
  obtain ⟨_, rfl, d, hR, h⟩ := h
  have c_by_names := ok_by_names (base := base) T
  refine ⟨_, pss_one (ps_ret (pe_ifExp (pt_cmpR op_eq (pe_ix (ix_anyK (K := K) rfl) (pv 0) (pe_int) (fun _ _ => rfl)) (pe_str) (nomark _)) (pe_tup (pa_cons (pe_ix (ix_anyK (K := K) rfl) (pv 0) (pe_int) (fun _ _ => rfl)) (pa_cons (pe_str) (pa_cons (pe_ix (ix_anyK (K := K) rfl) (pv 0) (pe_int) (fun _ _ => rfl)) (pa_cons (pe_cl c_by_names hr (by first | decide | omega) rfl (pa_cons (pe_ix (ix_anyK (K := K) rfl) (pv 0) (pe_int) (fun _ _ => rfl)) pa_nil)) pa_nil))))) (pv 0))), ?_⟩
  refine start_to (σ := [some _]) rfl ?_
  try dsimp only [cxOf]
  cases d with
  | add m x k =>
    obtain ⟨a, rfl, hA⟩ := hR
    have : At H a (.tup [.int m, .str "add", .str x, .int k]) := ⟨hA⟩
    walk_at "go"
    exact h _ _ (by walk_at "ext") ⟨a, rfl, hA⟩
  | put m =>
    obtain ⟨a, e, rfl, hA, hE⟩ := hR
    have : At H a (.tup [.int m, .str "put", .int 0, .ref e]) := ⟨hA⟩
    walk_at "go"
    intro r H' e' hr
    walk_at "go"
    exact h _ _ (by walk_at "ext") ⟨_, r, rfl, At.h, inferInstance⟩
end

end PB
namespace PB
open PySem PySem.Spec PyProof.Rows L2
local macro_rules | `(tactic| walk_at "rd") => `(tactic| (repeat refine red ?_))
local macro_rules | `(tactic| walk_at "go") => `(tactic| (repeat (first | refine red ?_ | ((with_reducible apply k_var); rfl) | refine k_new fun _ _ => ?_ | refine wp_and rfl ?_ | refine if_redT rfl ?_ | refine if_redF rfl ?_)))

local macro_rules | `(tactic| walk_at "ext") => `(tactic| (repeat (first | assumption | exact Ext.refl _ | refine Ext.newI ?_ | refine Ext.trans ?_ ‹Ext _ _›)))
local macro_rules | `(tactic| walk_at "rv") => `(tactic| (repeat (first | refine red ?_ | ((with_reducible apply k_var); rfl))))
def DsOk (ds : List Deed) : Prop := ds.length ≤ 10 ∧ (∀ d, d ∈ ds → d.ok) ∧ (ds.map Deed.m).Pairwise (· < ·)
def dkv (d : Deed) : Key × Deed := (.inl d.m, d)
theorem DeedR.head {H : Hp} {v : V} {d : Deed} (h : DeedR H v d) : ∃ b r, v = .ref b ∧ H b = some (.tup (.int d.m :: r)) := by
  cases d with
  | add => obtain ⟨a, x, y⟩ := h; exact ⟨a, _, x, y⟩
  | put => obtain ⟨a, b, x, y, z⟩ := h; exact ⟨a, _, x, y⟩
/-- keys that are smaller -/
theorem val_new {H : Hp} {ds : List Deed} {kvs : List (Key × V)} {d : Deed} {i : Nat} (hP : Paired (KR DeedR H) kvs ((ds.take i).map dkv)) (hpw : (ds.map Deed.m).Pairwise (· < ·)) (hd : ds[i]? = some d) : valV kvs (.inl d.m) = none := by
  have key : ∀ e, e ∈ ds.take i → e.m < d.m := by
    intro e he
    obtain ⟨j, hj, he2⟩ := List.getElem_of_mem he
    have hj2 : j < i := by simp at hj; omega
    have hlt : i < ds.length := (List.getElem?_eq_some_iff.mp hd).1
    rw [List.pairwise_iff_getElem] at hpw
    have q := hpw j i (by simp; omega) (by simpa using hlt) hj2
    simp only [List.getElem_map] at q
    rw [List.getElem_take] at he2
    rw [he2] at q
    have e3 : ds[i] = d := (List.getElem?_eq_some_iff.mp hd).2
    rw [e3] at q
    exact q
  revert key
  generalize hq : (ds.take i) = es at hP
  intro key
  clear hq hd hpw
  generalize hz : es.map dkv = zs at hP
  induction hP generalizing es with
  | nil => rfl
  | @cons p q l1 l2 a t ih =>
    cases es with
    | nil => simp at hz
    | cons e es =>
      simp only [List.map_cons, List.cons.injEq] at hz
      obtain ⟨e1, e2⟩ := hz
      rw [valV_neg]
      · exact ih es (fun e he => key e (List.mem_cons_of_mem _ he)) e2
      · rw [a.1, ← e1]
        have := key e List.mem_cons_self
        intro z
        have z2 : e.m = d.m := by injection z
        omega
section
variable {w : World} {K : PySem.W.Frag} {mg : Str → Option Value} {base : Heap}
def pChecked (v : V) (H : Hp) (Q : VK) : Prop := ∃ a vs ds, v = .ref a ∧ H a = some (.lst vs) ∧ Each DeedR H vs ds ∧ DsOk ds ∧ ∀ r H' kvs, Ext H H' → H' r = some (.dK kvs) → Paired (KR DeedR H') kvs (ds.map dkv) → Q (.ref r) H'
theorem bindsPast {f : Addr} {fd : FuncData} (F : FunD K "__init__" "Past.__init__" (defArgs S_Past_init) (defBody S_Past_init) (defScope S_Past_init) [V.ref (He.dflAt ("Past", some "__init__") 0 K)] [] f fd) : Binds K fd ["self", "deeds"] [] := by
  obtain ⟨ds, h1, h2⟩ := F.binds1 (ps := ["self", "deeds"]) 2 1 (by simp) rfl (fun T kV doc pm an cdv ct us its hl hl2 => match us, its, hl, hl2 with
    | [_, _], [_], _, _ => ⟨_, rfl, rfl⟩)
  cases h1
  exact h2
theorem ok_checked_deeds  (T : Txt w K mg) : Cal PG w K mg base (6 + 1) "checked_deeds" (sp1 pChecked) := by
  obtain ⟨fd, F⟩ := T.d_checked_deeds
  refine cal_mk F T.g_checked_deeds sc_checked_deeds (fun _ _ _ _ _ _ us hl => match us, hl with | [_], _ => rfl) fun cdv A outer s0 H vs Q E hr h => ?_
  obtain ⟨_, rfl, a, vs, ds, rfl, hA, hE, ⟨hl, hok, hpw⟩, h⟩ := h
  have : At H a (.lst vs) := ⟨hA⟩
  have hlen := hE.len
  have c_is_line := (ok_is_line (base := base) T).mono (show 1 ≤ 6 by omega)
  have c_is_deed := (ok_is_deed (base := base) T)
  have c_in_name_order := (ok_in_name_order (base := base) T).mono (show 2 ≤ 6 by omega)
  refine ⟨_, pss_cons (ps_if (pt_not (pt_val (pe_cl c_is_line hr (by first | decide | omega) rfl (pa_cons (pv 0) pa_nil)))) (pss_one ps_never) pss_nil)
      (pss_cons (ps_set (i := 1) sc_checked_deeds.nd rfl (by first | exact Or.inl rfl | exact Or.inr rfl) (pe_dnewK))
      (pss_cons (ps_for PassesOwn.never rfl (pi_enum (by rfl) T.f_enumerate (pa_cons (pv 0) pa_nil)) (pg_tupK (K := K) (n := 2) rfl rfl (pgs_cons (pg_name (i := 2) sc_checked_deeds.nd rfl (by first | exact Or.inl rfl | exact Or.inr rfl)) (pgs_cons (pg_name (i := 3) sc_checked_deeds.nd rfl (by first | exact Or.inl rfl | exact Or.inr rfl)) pgs_nil))) (pss_cons (ps_if (PW.pt (pw_or (pt_not (pt_val (pe_cl c_is_deed hr (by first | decide | omega) rfl (pa_cons (pv 3) pa_nil)))) (pw_or1 (pt_cmp (pc_din (hu_of hr) (pe_ix (ix_anyK (K := K) rfl) (pv 3) (pe_int) (fun _ _ => rfl)) (pv 1)))))) (pss_one ps_never) pss_nil)
      (pss_one (ps_dput (hu_of hr) (pv 1) (pe_ix (ix_anyK (K := K) rfl) (pv 3) (pe_int) (fun _ _ => rfl)) (pe_cl c_in_name_order hr (by first | decide | omega) rfl (pa_cons (pv 3) pa_nil)) rfl))))
      (pss_cons (ps_if (pt_cmpR op_gt (pe_callB (call_lenK (K := K) rfl) (by rfl) T.f_len (by decide +kernel) (pa_cons (pv 1) pa_nil)) (pe_gv rfl T.c_MOST_DEEDS) (nomark _)) (pss_one ps_never) pss_nil)
      (pss_one (ps_ret (pe_dc (own := [("moment", 4)]) rfl sc_checked_deeds.nd (pi_seq (pe_callB cr_sorted (by rfl) T.f_sorted (by decide +kernel) (pa_cons (pe_lock ((pe_lc (own := [("one", 5)]) rfl sc_checked_deeds.nd (pi_keys (pv 1)) (blkOk_by (own := [("one", 5)]) (N := ["deeds", "known", "index", "deed", "moment", "one"]) (sc := defScope S_checked_deeds) (by decide +kernel)) (fun _ _ _ _ _ => (pg_name (i := 5) sc_checked_deeds.nd rfl (by first | exact Or.inl rfl | exact Or.inr rfl))) (fun _ _ _ _ _ => pts_nil) (fun _ _ _ _ _ => (pe_callTy call_intK (by rfl) T.f_int (by decide +kernel) (pa_cons (pv 5) pa_nil)))))) pa_nil))) (blkOk_by (own := [("moment", 4)]) (N := ["deeds", "known", "index", "deed", "moment", "one"]) (sc := defScope S_checked_deeds) (by decide +kernel)) (fun _ _ _ _ _ => (pg_name (i := 4) sc_checked_deeds.nd rfl (by first | exact Or.inl rfl | exact Or.inr rfl))) (fun _ _ _ _ _ => pts_nil) (fun _ _ _ _ _ => (pv 4)) (fun _ _ _ _ _ => (pe_dget (hu_of hr) (pv 1) (pv 4) (fun _ _ => rfl))))))))), ?_⟩
  refine start_to (σ := [some _, none, none, none, none, none]) rfl ?_
  try dsimp only [cxOf]
  walk_at "go"
  intro H1 e1
  walk_at "go"
  rename_i p hp
  have hE1 : Each DeedR H1 vs ds := hE.mono fun v d => DeedR.mono e1
  refine for_go (fun i σ' H' => (∃ x y, σ' = [some (V.ref a), some (V.ref p), x, y, none, none]) ∧ Ext H1 H' ∧ ∃ kvs, H' p = some (.dK kvs) ∧ Paired (KR DeedR (Hid p H')) kvs ((ds.take i).map dkv)) ⟨⟨none, none, rfl⟩, (by walk_at "ext"), [], upd_same, .nil⟩ (fun i σ' H' _ q => sub_at (At.h (o := .lst vs)) (q.2.1.at (e1.at hA))) ?_ ?_
  · rintro i x σ' H2 H3 hi ⟨⟨x0, y0, rfl⟩, e2, kvs, hk, hP⟩ ⟨t, v, rfl, nt, rfl, hv⟩
    obtain ⟨d, hd, hdR⟩ := hE1.get hv
    have hdm : d ∈ ds := List.mem_of_getElem? hd
    have hdR2 : DeedR H2 v d := hdR.mono e2
    have : DeedAt H2 v d := ⟨hdR2, hok d hdm⟩
    have : At H2 p (.dK kvs) := ⟨hk⟩
    obtain ⟨b, rr, rfl, hb⟩ := hdR2.head
    have : At H2 b (.tup (.int d.m :: rr)) := ⟨hb⟩
    have : DVal kvs (.int d.m) none := ⟨_, rfl, val_new hP hpw hd⟩
    have hkl : kvs.length ≤ i := by have := Paired.length hP; simp at this; omega
    have : ShortD kvs := ⟨by show kvs.length < 2 ^ 24; omega⟩
    walk_at "go"
    intro H4 e4
    walk_at "go"
    intro r H5 e5 hr
    walk_at "go"
    refine ⟨⟨_, _, rfl⟩, ?_, _, upd_same, ?_⟩
    · exact Ext.mut (by walk_at "ext") hp.h
    · rw [Hid.upd, putK_new _ (val_new hP hpw hd), List.take_add_one, hd, List.map_append]
      have e6 : Ext H2 H5 := by walk_at "ext"
      exact Paired.snoc (Paired.mapP hP fun v d q => ⟨q.1, q.2.mono (Hid.mono e6)⟩) ⟨rfl, hr.hid (e6.at hk) (noTup_dK rfl)⟩
  · rintro σ' H' ⟨⟨x0, y0, rfl⟩, e2, kvs, hk, hP⟩
    have : At H' p (.dK kvs) := ⟨hk⟩
    have hl2 : ds.take vs.length = ds := List.take_of_length_le (by omega)
    rw [hl2] at hP
    have hkl : kvs.length = ds.length := by have := Paired.length hP; simpa using this
    walk_at "go"
    rw [decide_eq_false (show ¬ (60 : Int) < (kvs.length : Nat) by omega)]
    walk_at "go"
    refine lock_in hk fun od => ?_
    walk_at "go"
    refine lc_ds ds (fun d => some d.m) (VR V.int) (fun _ h => h) hkl (by show kvs.length ≤ 2 ^ 24; omega) ?_ ?_
    · intro i x d H2 H3 D hd e2 nD hA hy N1 N2 k1 k2
      obtain ⟨rfl, k, v, hkv, rfl⟩ := hy
      have hk2 : k = .inl d.m := by
        obtain ⟨q, hq, hq2⟩ := getP hP hkv
        rw [List.getElem?_map, hd] at hq
        cases hq
        exact hq2.1
      subst hk2
      rw [kV_int]
      walk_at "go"
      exact k1 _ _ d.m (Ext.refl _) rfl rfl
    · intro D H2 ys nD e2 hD hE2
      refine unlk hk nD e2 hD fun H3 nD e3 hD => ?_
      have hys := each_val hE2
      rw [fm_map] at hys
      have : At H3 D (.lst ys) := ⟨hD⟩
      walk_at "go"
      refine ⟨D, ds.map Deed.m, rfl, SqL.of (by rw [← hys]; exact hD), by simp; omega, fun ns' p2 hpm hpw2 hp2 => ?_⟩
      have hle : (ds.map Deed.m).Pairwise (· ≤ ·) := hpw.imp fun h => Int.le_of_lt h
      have e5 := perm_sorted hpm hpw2 hle
      subst e5
      have : New H3 p2 := ⟨hp2⟩
      walk_at "go"
      refine dc_ds ds (fun d => some (dkv d)) DeedR (fun e h => h.mono e) (by simp) (by simp; show ds.length ≤ 2 ^ 24; omega) ?_ ?_
      · intro i x d H4 H5 D2 hd e4 nD2 hA2 hy N1 N2 k1 k2
        obtain ⟨rfl, hx⟩ := hy
        rw [List.getElem?_map, List.getElem?_map, hd] at hx
        cases hx
        have e6 : Ext H' H5 := by walk_at "ext"
        have hdk : (ds.map dkv)[i]? = some (dkv d) := by rw [List.getElem?_map, hd]; rfl
        have hnd : ((ds.map dkv).map (·.1)).Nodup := by
          rw [List.map_map]
          have : (ds.map ((·.1) ∘ dkv)) = (ds.map Deed.m).map (Sum.inl : Int → Key) := by rw [List.map_map]; rfl
          rw [this]
          exact List.Pairwise.map _ (fun a b h z => by cases z; omega) hpw
        obtain ⟨v, hv, hr⟩ := val_paired hP _ (find_nodup hnd hdk)
        have : At H5 p (.dK kvs) := ⟨e6.at hk⟩
        have : DVal kvs (.int d.m) (some v) := ⟨_, rfl, hv⟩
        walk_at "go"
        obtain ⟨acc, hA2⟩ := hA2
        exact k1 (.inl d.m) _ _ d (Ext.refl _) rfl ((hr.mono (((Hid.sub p H').trans e6))).hid hA2 (noTup_dK rfl))
      · intro D2 H4 kvs2 nD2 e4 hD2 hE4
        rw [fold_nodup] at hE4
        · rw [List.nil_append, fm_map] at hE4
          exact h _ _ _ (by walk_at "ext") hD2 (Paired.mapP hE4 fun v d q => ⟨q.1, q.2.mono (Hid.sub _ _)⟩)
        · rw [List.nil_append, fm_map, List.map_map]
          have : (ds.map ((·.1) ∘ dkv)) = (ds.map Deed.m).map (Sum.inl : Int → Key) := by rw [List.map_map]; rfl
          rw [this]
          exact List.Pairwise.map _ (fun a b h z => by cases z; omega) hpw
end

end PB
namespace PB
open PySem PySem.Spec PyProof.Rows L2
local macro_rules | `(tactic| walk_at "rd") => `(tactic| (repeat refine red ?_))
local macro_rules | `(tactic| walk_at "go") => `(tactic| (repeat (first | refine red ?_ | ((with_reducible apply k_var); rfl) | refine k_new fun _ _ => ?_ | refine wp_and rfl ?_ | refine if_redT rfl ?_ | refine if_redF rfl ?_)))

local macro_rules | `(tactic| walk_at "ext") => `(tactic| (repeat (first | assumption | exact Ext.refl _ | refine Ext.newI ?_ | refine Ext.trans ?_ ‹Ext _ _›)))
local macro_rules | `(tactic| walk_at "rv") => `(tactic| (repeat (first | refine red ?_ | ((with_reducible apply k_var); rfl))))
/-- a Past in the heap -/
def PastR (K : PySem.W.Frag) (H : Hp) (v : V) (ds : List Deed) : Prop := ∃ a dx b kvs, v = .ref a ∧ H a = some (.ins (He.ga K "Past") dx [("by_moment", .ref b)]) ∧ H b = some (.dK kvs) ∧ Paired (KR DeedR H) kvs (ds.map dkv)
theorem PastR.mono {K : PySem.W.Frag} {H H' : Hp} {v : V} {ds : List Deed} (e : Ext H H') (h : PastR K H v ds) : PastR K H' v ds := by
  obtain ⟨a, dx, b, kvs, h1, h2, h3, h4⟩ := h
  exact ⟨a, dx, b, kvs, h1, e.at h2, e.at h3, Paired.mapP h4 fun v d q => ⟨q.1, q.2.mono e⟩⟩
class PastAt (K : PySem.W.Frag) (H : Hp) (v : V) (ds : outParam (List Deed)) : Prop where
  h : PastR K H v ds
  ok : DsOk ds
instance (priority := low) past_ext {K : PySem.W.Frag} {H H' : Hp} {v : V} {ds : List Deed} [e : Ext H H'] [p : PastAt K H v ds] : PastAt K H' v ds := ⟨p.h.mono e, p.ok⟩
section
variable {w : World} {K : PySem.W.Frag} {mg : Str → Option Value} {base : Heap}
/-- an __init__: the thing as it is made, what stood; then what stands -/
def NewX (C : Addr) (v : V) (H0 H : Hp) : Prop := ∃ x dx, v = .ref x ∧ New H0 x ∧ New H0 dx ∧ dx ≠ x ∧ H = upd (upd H0 dx (.own x)) x (.ins C dx [])
def pInitPast (K : PySem.W.Frag) (self v : V) (H : Hp) (Q : VK) : Prop := ∃ H0 a vs ds, NewX (He.ga K "Past") self H0 H ∧ v = .ref a ∧ H0 a = some (.lst vs) ∧ Each DeedR H0 vs ds ∧ DsOk ds ∧ ∀ H', Ext H0 H' → PastR K H' self ds → Q .non H'
theorem mak_Past  (T : Txt w K mg) : Mak PG w K mg base (7 + 1) "Past" (He.ga K "Past") (sp2 (pInitPast K)) := by
  obtain ⟨fd, F⟩ := T.d_Past_init
  refine ⟨_, fd, ["self", "deeds"], T.mkr_Past, fn_mk F sc_Past_init (fun cdv A outer s0 H vs Q E hr h => ?_), T.g_Past, bindsPast F⟩
  obtain ⟨_, _, rfl, H0, a, vs, ds, ⟨x, dx, rfl, n1, n2, ne, rfl⟩, rfl, hA, hE, ok, h⟩ := h
  have c_checked_deeds := ok_checked_deeds (base := base) T
  have n3 : New (upd H0 dx (.own x)) x := ⟨by rw [upd_ne ne.symm]; exact n1.h⟩
  have e0 : Ext H0 (upd (upd H0 dx (.own x)) x (.ins (He.ga K "Past") dx [])) := by walk_at "ext"
  refine ⟨_, pss_one (ps_fld (pv 0) (pe_cl c_checked_deeds hr (by first | decide | omega) rfl (pa_cons (pv 1) pa_nil)) rfl), ?_⟩
  refine start_to (σ := [some _, some _]) rfl ?_
  try dsimp only [cxOf]
  walk_at "go"
  refine ⟨a, vs, ds, rfl, e0.at hA, hE.mono fun v d => DeedR.mono e0, ok, fun r H' kvs e1 hr hP => ?_⟩
  walk_at "go"
  have e2 : Ext H0 (upd H' x (.ins (He.ga K "Past") dx [("by_moment", .ref r)])) := (e0.trans e1).mut n1.h
  have hxr : r ≠ x := ne_of_at hr (e1.at upd_same) (fun z => nomatch z)
  have hx1 : H' x = some (.ins (He.ga K "Past") dx []) := e1.at upd_same
  have hid : Ext (Hid x H') (upd H' x (.ins (He.ga K "Past") dx [("by_moment", .ref r)])) := hid_unlock _ _ _
  exact h _ e2 ⟨x, dx, r, kvs, rfl, upd_same, by rw [upd_ne hxr]; exact hr, Paired.mapP hP fun v d q => ⟨q.1, (q.2.hid hx1 ⟨fun _ z => (nomatch z), fun _ _ z => (nomatch z)⟩).mono hid⟩⟩
instance mk_past {a : Addr} {H : Hp} {Q : VK} : Red (kMk (He.ga K "Past") (sp2 (pInitPast K)) [.ref a] H Q) (∃ vs ds, H a = some (.lst vs) ∧ Each DeedR H vs ds ∧ DsOk ds ∧ ∀ x H', Ext H H' → PastAt K H' (.ref x) ds → Q (.ref x) H') := ⟨fun ⟨vs, ds, hA, hE, ok, h⟩ => fun x dx n1 n2 ne => ⟨_, _, rfl, H, a, vs, ds, ⟨x, dx, rfl, n1, n2, ne, rfl⟩, rfl, hA, hE, ok, fun H' e r => ⟨rfl, h x H' e ⟨r, ok⟩⟩⟩⟩
def pDeeds (K : PySem.W.Frag) (self : V) (H : Hp) (Q : VK) : Prop := ∃ ds, PastR K H self ds ∧ DsOk ds ∧ ∀ r vs H', Ext H H' → New H r → H' r = some (.lst vs) → Each DeedR H' vs ds → Q (.ref r) H'
theorem met_Past_deeds  (T : Txt w K mg) : Met PG w K mg base (1 + 1) (He.ga K "Past") "deeds" (sp1 (pDeeds K)) := by
  obtain ⟨fd, F⟩ := T.d_Past_deeds
  refine ⟨_, fd, ["self"], T.cls_Past, T.m_Past_deeds, fn_mk F sc_Past_deeds (fun cdv A outer s0 H vs Q E hr h => ?_), F.bindsN (fun _ _ _ _ _ _ us hl => match us, hl with | [_], _ => rfl)⟩
  obtain ⟨_, rfl, ds, ⟨a, dx, b, kvs, rfl, hA, hb, hP⟩, ok, h⟩ := h
  have : At H a (.ins (He.ga K "Past") dx [("by_moment", .ref b)]) := ⟨hA⟩
  refine ⟨_, pss_one (ps_ret (pe_lock ((pe_lc (own := [("moment", 1)]) rfl sc_Past_deeds.nd (pi_keys (pe_fldK (K := K) rfl (pv 0))) (blkOk_by (own := [("moment", 1)]) (N := ["self", "moment"]) (sc := defScope S_Past_deeds) (by decide +kernel)) (fun _ _ _ _ _ => (pg_name (i := 1) sc_Past_deeds.nd rfl (by first | exact Or.inl rfl | exact Or.inr rfl))) (fun _ _ _ _ _ => pts_nil) (fun _ _ _ _ _ => (pe_dget (hu_of hr) (pe_fldK (K := K) rfl (pv 0)) (pv 1) (fun _ _ => rfl))))))), ?_⟩
  refine start_to (σ := [some _, none]) rfl ?_
  try dsimp only [cxOf]
  walk_at "go"
  refine lock_in hb fun od => ?_
  have hab : At (upd H b (.frz od (.dK kvs))) a (.ins (He.ga K "Past") dx [("by_moment", .ref b)]) := ⟨by rw [upd_ne (ne_of_at hA hb (fun z => nomatch z))]; exact hA⟩
  walk_at "go"
  have hkl : kvs.length = ds.length := by have := Paired.length hP; simpa using this
  refine lc_ds ds some (fun H v d => DeedR (Hid b H) v d) (fun e h => h.mono (Hid.mono e)) hkl (by show kvs.length ≤ 2 ^ 24; have := ok.1; omega) ?_ ?_
  · intro i x d H2 H3 D hd e2 nD hA2 hy N1 N2 k1 k2
    obtain ⟨rfl, k, v, hkv, rfl⟩ := hy
    obtain ⟨q, hq, hk2, hr⟩ := getP hP hkv
    rw [List.getElem?_map, hd] at hq
    cases hq
    cases hk2
    have hnd : (kvs.map (·.1)).Nodup := by
      have e1 : kvs.map (·.1) = (ds.map Deed.m).map (Sum.inl : Int → Key) := by
        have := Paired.length hP
        apply List.ext_getElem?
        intro j
        rw [List.getElem?_map, List.getElem?_map, List.getElem?_map]
        cases hj : kvs[j]? with
        | none =>
          have : ds[j]? = none := by rw [List.getElem?_eq_none_iff] at hj ⊢; omega
          rw [this]; rfl
        | some p =>
          obtain ⟨q, hq, hk, _⟩ := getP hP hj
          rw [List.getElem?_map] at hq
          cases hq2 : ds[j]? with
          | none => rw [hq2] at hq; cases hq
          | some e => rw [hq2] at hq; cases hq; exact congrArg some hk
      rw [e1]
      exact List.Pairwise.map _ (fun a b h z => by cases z; omega) ok.2.2
    have hv : valV kvs (.inl d.m) = some v := val_nodup hnd (.inl d.m, v) (List.mem_of_getElem? hkv)
    have : DVal kvs (.int d.m) (some v) := ⟨_, rfl, hv⟩
    rw [kV_int]
    walk_at "go"
    obtain ⟨acc, hA2⟩ := hA2
    have r1 : DeedR (Hid b H) v d := hr.hid hb (noTup_dK rfl)
    have e5 : Ext (Hid b H) (Hid b (Hid D H3)) := ⟨fun c o hc => by
      have hcb : c ≠ b := fun z => by subst z; unfold Hid at hc; simp at hc
      have hc2 : H3 c = some o := e2.at (by rw [upd_ne hcb]; exact (Hid.sub b H).at hc)
      have hcD : c ≠ D := fun z => by
        subst z
        have q := nD.h
        rw [upd_ne hcb, (Hid.sub b H).at hc] at q
        cases q
      exact Hid.at (Hid.at hc2 hcD) hcb⟩
    exact k1 _ _ d (Ext.refl _) rfl (r1.mono e5)
  · intro D H2 vs nD e2 hD hE2
    rw [List.filterMap_some] at hE2
    refine unlkH hb nD e2 hD fun H3 nD e3 hD3 e4 => ?_
    exact h D vs H3 e3 nD hD3 (Paired.mapP hE2 fun v d r => DeedR.mono ((Hid.mono (Hid.sub D H2)).trans e4) r)
instance red_deeds {a : Addr} {H : Hp} {Q : VK} {ds : List Deed} [p : PastAt K H (.ref a) ds] : Red (kMt (He.ga K "Past") "deeds" (sp1 (pDeeds K)) (.ref a) H Q) (∀ r vs H', Ext H H' → New H r → H' r = some (.lst vs) → Each DeedR H' vs ds → Q (.ref r) H') := ⟨fun h => by
  obtain ⟨a', dx, b, kvs, e1, h2, h3, h4⟩ := p.h
  cases e1
  exact ⟨a, dx, _, rfl, h2, (by show (match (("deeds" : Str) == "by_moment") with | true => some (V.ref b) | false => none) = none; rw [show (("deeds" : Str) == "by_moment") = false by decide +kernel]), _, rfl, ds, ⟨a, dx, b, kvs, rfl, h2, h3, h4⟩, p.ok, h⟩⟩
def pCkPast (K : PySem.W.Frag) (v : V) (H : Hp) (Q : VK) : Prop := ∃ a ds, v = .ref a ∧ PastAt K H (.ref a) ds ∧ Q .non H
instance {a : Addr} {H : Hp} {Q : VK} {ds : List Deed} [p : PastAt K H (.ref a) ds] : Red (pCkPast K (.ref a) H Q) (Q .non H) := ⟨fun h => ⟨a, ds, rfl, p, h⟩⟩
instance isi_past [T : Txt w K mg] {a : Addr} {H : Hp} {Q : VK} {ds : List Deed} [p : PastAt K H (.ref a) ds] : Red (rIsi K [.ref a, .ref (He.ga K "Past")] H Q) (Q (.bl true) H) := ⟨fun h => by
  obtain ⟨a', dx, b, kvs, e1, h2, h3, h4⟩ := p.h
  cases e1
  obtain ⟨f1, f2, f3, f4, f5⟩ := T.past
  exact ⟨_, _, _, _, true, rfl, .own _, .base (.ins h2 T.cls_Past f1 f2 f3 f4), f5, h⟩⟩
theorem ok_check_past  (T : Txt w K mg) : Cal PG w K mg base (0 + 1) "check_past" (sp1 (pCkPast K)) := by
  obtain ⟨fd, F⟩ := T.d_check_past
  refine cal_mk F T.g_check_past sc_check_past (fun _ _ _ _ _ _ us hl => match us, hl with | [_], _ => rfl) fun cdv A outer s0 H vs Q E hr h => ?_
  obtain ⟨_, rfl, a, ds, rfl, p, h⟩ := h
  refine ⟨_, pss_one (ps_if (pt_not (pt_val (pe_callB (call_isiK2 (K := K) rfl) (by rfl) T.f_isinstance (by decide +kernel) (pa_cons (pv 0) (pa_cons (pe_gv rfl T.cv_Past) pa_nil))))) (pss_one ps_never) pss_nil), ?_⟩
  refine start_to (σ := [some _]) rfl ?_
  try dsimp only [cxOf]
  walk_at "go"
  exact h
def pCkN (lo hi : Int) (v : V) (H : Hp) (Q : VK) : Prop := ∃ i : Int, v = .int i ∧ lo ≤ i ∧ i ≤ hi ∧ Q .non H
instance {lo hi i : Int} {H : Hp} {Q : VK} : Red (pCkN lo hi (.int i) H Q) (lo ≤ i ∧ i ≤ hi ∧ Q .non H) := ⟨fun h => ⟨i, rfl, h⟩⟩
theorem ok_check_time  (T : Txt w K mg) : Cal PG w K mg base (3 + 1) "check_time" (sp1 (pCkN 0 999)) := by
  obtain ⟨fd, F⟩ := T.d_check_time
  refine cal_mk F T.g_check_time sc_check_time (fun _ _ _ _ _ _ us hl => match us, hl with | [_], _ => rfl) fun cdv A outer s0 H vs Q E hr h => ?_
  obtain ⟨_, rfl, i, rfl, h1, h2, h⟩ := h
  have c_is_time := ok_is_time (base := base) T
  refine ⟨_, pss_one (ps_if (pt_not (pt_val (pe_cl c_is_time hr (by first | decide | omega) rfl (pa_cons (pv 0) pa_nil)))) (pss_one ps_never) pss_nil), ?_⟩
  refine start_to (σ := [some _]) rfl ?_
  try dsimp only [cxOf]
  walk_at "go"
  refine ⟨h1, h2, ?_⟩
  walk_at "go"
  exact h
theorem ok_check_key  (T : Txt w K mg) : Cal PG w K mg base (3 + 1) "check_key" (sp1 (pCkN 0 9)) := by
  obtain ⟨fd, F⟩ := T.d_check_key
  refine cal_mk F T.g_check_key sc_check_key (fun _ _ _ _ _ _ us hl => match us, hl with | [_], _ => rfl) fun cdv A outer s0 H vs Q E hr h => ?_
  obtain ⟨_, rfl, i, rfl, h1, h2, h⟩ := h
  have c_is_key := ok_is_key (base := base) T
  refine ⟨_, pss_one (ps_if (pt_not (pt_val (pe_cl c_is_key hr (by first | decide | omega) rfl (pa_cons (pv 0) pa_nil)))) (pss_one ps_never) pss_nil), ?_⟩
  refine start_to (σ := [some _]) rfl ?_
  try dsimp only [cxOf]
  walk_at "go"
  refine ⟨h1, h2, ?_⟩
  walk_at "go"
  exact h
end

end PB
namespace PB
open PySem PySem.Spec PyProof.Rows L2
local macro_rules | `(tactic| walk_at "rd") => `(tactic| (repeat refine red ?_))
local macro_rules | `(tactic| walk_at "go") => `(tactic| (repeat (first | refine red ?_ | ((with_reducible apply k_var); rfl) | refine k_new fun _ _ => ?_ | refine wp_and rfl ?_ | refine if_redT rfl ?_ | refine if_redF rfl ?_)))

local macro_rules | `(tactic| walk_at "ext") => `(tactic| (repeat (first | assumption | exact Ext.refl _ | refine Ext.newI ?_ | refine Ext.trans ?_ ‹Ext _ _›)))
local macro_rules | `(tactic| walk_at "rv") => `(tactic| (repeat (first | refine red ?_ | ((with_reducible apply k_var); rfl))))
/-! ### comprehensions of two clauses -/
def kLc2 (g : TG) (tt : TT) (wi1 : TI) (g1 : TG) (tt1 : TT) (te : TE) (vs vs1 : List Nat) (σ : L2.St) (Q : VK) (J : It) (H1 : Hp) : Prop := ∀ D, H1 D = none → ∃ W : Nat → Nat → Hp → Prop, (∃ m, W 0 m (upd H1 D (.lst []))) ∧ ∀ i m H, W i m H →
  (J.stop i H ∧ Q (.ref D) H) ∨ (J.go i H ∧ ∃ Nx : Hp → Prop, (∀ H', Nx H' → ∃ m', m' < m ∧ W (i + 1) m' H') ∧ ∀ x H', J.yld i H x H' → g x (wipe σ vs) H' fun σ2 H2 => wipe σ2 vs = wipe σ vs ∧ tt σ2 H2 fun b H3 =>
    if b = true then wi1 σ2 H3 fun J1 H4 => ∃ W1 : Nat → Nat → Hp → Prop, (∃ m, W1 0 m H4) ∧ ∀ j k H, W1 j k H →
      (J1.stop j H ∧ Nx H) ∨ (J1.go j H ∧ ∃ Nx1 : Hp → Prop, (∀ H', Nx1 H' → ∃ k', k' < k ∧ W1 (j + 1) k' H') ∧ ∀ x H', J1.yld j H x H' → g1 x (wipe σ2 vs1) H' fun σ3 H5 => wipe σ3 vs1 = wipe σ2 vs1 ∧ tt1 σ3 H5 fun b H6 =>
        if b = true then te σ3 H6 fun y H7 => ∃ acc, H7 D = some (.lst acc) ∧ acc.length < sizeLine ∧ Nx1 (upd H7 D (.lst (acc ++ [y]))) else Nx1 H6)
    else Nx H3)
/-- the inner loop -/
def kIn2 (D : Addr) (g1 : TG) (tt1 : TT) (te : TE) (vs1 : List Nat) (σ2 : L2.St) (Nx : Hp → Prop) (J1 : It) (H4 : Hp) : Prop := ∃ W1 : Nat → Nat → Hp → Prop, (∃ m, W1 0 m H4) ∧ ∀ j k H, W1 j k H →
      (J1.stop j H ∧ Nx H) ∨ (J1.go j H ∧ ∃ Nx1 : Hp → Prop, (∀ H', Nx1 H' → ∃ k', k' < k ∧ W1 (j + 1) k' H') ∧ ∀ x H', J1.yld j H x H' → g1 x (wipe σ2 vs1) H' fun σ3 H5 => wipe σ3 vs1 = wipe σ2 vs1 ∧ tt1 σ3 H5 fun b H6 =>
        if b = true then te σ3 H6 fun y H7 => ∃ acc, H7 D = some (.lst acc) ∧ acc.length < sizeLine ∧ Nx1 (upd H7 D (.lst (acc ++ [y]))) else Nx1 H6)
section
variable {a : Addr} {σ : L2.St} {H : Hp} {Q : VK} {g g1 : TG} {tt tt1 : TT} {te : TE} {wi wi1 : TI} {vs vs1 : List Nat} {n : Nat} {Y : Nat → Hp → V → Hp → Prop}
instance : Red (tLc2 wi g tt wi1 g1 tt1 te vs vs1 σ H Q) (wi σ H (kLc2 g tt wi1 g1 tt1 te vs vs1 σ Q)) := ⟨id⟩
/-- ds: the outer items, es: the inner ones (each time the same) -/
theorem lc2_ds {α γ β : Type} (ds : List α) (es : List γ) (f : α → γ → β) (R : Hp → V → β → Prop) (mono : ∀ {H H' : Hp} {v : V} {b : β}, Ext H H' → R H v b → R H' v b) (hl : n = ds.length) (hn : ds.length * es.length ≤ sizeLine)
    (step : ∀ i x d H1 H2 D, ds[i]? = some d → Ext H H1 → New H D → (∃ acc, H1 D = some (.lst acc)) → Y i H1 x H2 → ∀ (Nx : Hp → Prop), (∀ H', Ext H1 H' → Nx H' → True) →
      (∀ (σ2 : L2.St) (J1 : It) (H4 : Hp) (a1 : Addr) (Y1 : Nat → Hp → V → Hp → Prop) (G1 : Hp → Prop), Walk J1 es.length G1 Y1 → (∀ H' : Hp, (∀ o, H4 a1 = some o → H' a1 = some o) → G1 H') → a1 ≠ D → Ext H1 H4 →
        (∀ j y e H5 H6, es[j]? = some e → Ext (Hid D H4) H5 → (∃ acc, H5 D = some (.lst acc)) → Y1 j H5 y H6 → ∀ (N1 : VK), (∀ z H7, Ext H5 H7 → R (Hid D H7) z (f d e) → N1 z H7) → ∀ (N2 : Hp → Prop), g1 y (wipe σ2 vs1) H6 fun σ3 H5 => wipe σ3 vs1 = wipe σ2 vs1 ∧ tt1 σ3 H5 fun b H6 => if b = true then te σ3 H6 N1 else N2 H6) →
        kIn2 D g1 tt1 te vs1 σ2 Nx J1 H4) →
      g x (wipe σ vs) H2 fun σ2 H2 => wipe σ2 vs = wipe σ vs ∧ tt σ2 H2 fun b H3 => if b = true then wi1 σ2 H3 (kIn2 D g1 tt1 te vs1 σ2 Nx) else Nx H3)
    (done : ∀ D H' ys, New H D → Ext H H' → H' D = some (.lst ys) → Each R (Hid D H') ys (ds.flatMap fun d => es.map (f d)) → Q (.ref D) H') : kWk a n Y (kLc2 g tt wi1 g1 tt1 te vs vs1 σ Q) H := by
  subst hl
  intro J G w hG D hD
  have e0 : Ext H (upd H D (.lst [])) := (Ext.refl H).new hD
  refine ⟨fun i m H' => m = ds.length - i ∧ i ≤ ds.length ∧ Ext H H' ∧ ∃ acc, H' D = some (.lst acc) ∧ acc.length = i * es.length ∧ Each R (Hid D H') acc ((ds.take i).flatMap fun d => es.map (f d)), ⟨ds.length, by simp, Nat.zero_le _, e0, [], upd_same, by simp, .nil⟩, ?_⟩
  rintro i m H1 ⟨rfl, hi, e1, acc, hA, hl, hE⟩
  have q := hG H1 fun o => e1.h a o
  by_cases hlt : i < ds.length
  · refine .inr ⟨w.goes i H1 hlt q, _, fun H' p' => ⟨ds.length - (i + 1), by omega, rfl, hlt, p'⟩, fun x H2 y => ?_⟩
    have hd : ds[i]? = some ds[i] := List.getElem?_eq_getElem hlt
    refine step i x ds[i] H1 H2 D hd e1 ⟨hD⟩ ⟨acc, hA⟩ (w.yields i H1 x H2 hlt q y) _ (fun _ _ _ => True.intro) fun σ2 J1 H4 a1 Y1 G1 w1 hG1 hne e4 hs => ?_
    have hmul : (i + 1) * es.length ≤ ds.length * es.length := Nat.mul_le_mul_right _ hlt
    have hmul2 : (i + 1) * es.length = i * es.length + es.length := Nat.succ_mul _ _
    refine ⟨fun j k H5 => k = es.length - j ∧ j ≤ es.length ∧ Ext (Hid D H4) H5 ∧ Ext H H5 ∧ ∃ acc, H5 D = some (.lst acc) ∧ acc.length = i * es.length + j ∧ Each R (Hid D H5) acc (((ds.take i).flatMap fun d => es.map (f d)) ++ (es.take j).map (f ds[i])), ⟨es.length, by simp, Nat.zero_le _, Hid.sub _ _, e1.trans e4, acc, e4.at hA, by omega, ?_⟩, ?_⟩
    · simp only [List.take_zero, List.map_nil, List.append_nil]
      exact hE.mono fun v d => mono (Hid.mono e4)
    · rintro j k H5 ⟨rfl, hj, e5, e50, acc5, hA5, hl5, hE5⟩
      have q1 : G1 H5 := hG1 H5 fun o ho => e5.at (Hid.at ho hne)
      by_cases hlt1 : j < es.length
      · refine .inr ⟨w1.goes j H5 hlt1 q1, _, fun H' p' => ⟨es.length - (j + 1), by omega, rfl, hlt1, p'⟩, fun x2 H6 y2 => ?_⟩
        have he : es[j]? = some es[j] := List.getElem?_eq_getElem hlt1
        refine hs j x2 es[j] H5 H6 he e5 ⟨acc5, hA5⟩ (w1.yields j H5 x2 H6 hlt1 q1 y2) _ (fun z H7 e7 hr => ?_) _
        refine ⟨acc5, e7.at hA5, by omega, ?_⟩
        refine ⟨(e5.trans e7).mut (by unfold Hid; rw [if_pos rfl]), (e50.trans e7).mut hD, acc5 ++ [z], upd_same, by simp; omega, ?_⟩
        rw [Hid.upd, List.take_add_one, he]
        simp only [Option.toList, List.map_append, List.map_cons, List.map_nil]
        rw [← List.append_assoc]
        exact Each.snoc (hE5.mono fun v d => mono (Hid.mono e7)) hr
      · have ej : j = es.length := by omega
        subst ej
        refine .inl ⟨w1.stops H5 q1, e50, acc5, hA5, by omega, ?_⟩
        rw [List.take_length] at hE5
        rw [List.take_add_one, hd]
        simp only [Option.toList, List.flatMap_append, List.flatMap_cons, List.flatMap_nil, List.append_nil]
        exact hE5
  · have e : i = ds.length := by omega
    subst e
    rw [List.take_length] at hE
    exact .inl ⟨w.stops H1 q, done D H1 acc ⟨hD⟩ e1 hA hE⟩
end
theorem pi_seqK {X : Cx} {K : PySem.W.Frag} {tg e : Expr} {te : TE} (h : X.K = K) (he : PE X e te) : PI X tg e (iSeq K te) := h ▸ pi_seq he
theorem op_catK {X : Cx} : OpR X (binaryOp .Add) rCat := op_cat
instance cat_red {H : Hp} {Q : VK} {a b : Addr} {xs zs : List V} [s : At H a (.lst xs)] [z : At H b (.lst zs)] : Red (rCat (.ref a) (.ref b) H Q) (xs.length + zs.length ≤ sizeLine ∧ kNew (.lst (xs ++ zs)) H Q) := ⟨fun h => ⟨a, b, xs, zs, rfl, rfl, s.h, z.h, h.1, fun p hp => h.2 p ⟨hp⟩⟩⟩
theorem pa_starK {X : Cx} {K : PySem.W.Frag} {e : Expr} {es : List Expr} {te : TE} {t : TA} {p : Pos} (h : X.K = K) (he : PE X e te) (hr : PA X es t) (hs : starEach (.Starred e p :: es) X.env = (true, eval e X.env) :: starEach es X.env := by rfl) : PA X (.Starred e p :: es) (StX.tStar K te t) := h ▸ StX.pa_star he hr hs

end PB
namespace PB
open PySem PySem.Spec PyProof.Rows L2
local macro_rules | `(tactic| walk_at "rd") => `(tactic| (repeat refine red ?_))
local macro_rules | `(tactic| walk_at "go") => `(tactic| (repeat (first | refine red ?_ | ((with_reducible apply k_var); rfl) | refine k_new fun _ _ => ?_ | refine wp_and rfl ?_ | refine if_redT rfl ?_ | refine if_redF rfl ?_)))

local macro_rules | `(tactic| walk_at "ext") => `(tactic| (repeat (first | assumption | exact Ext.refl _ | refine Ext.newI ?_ | refine Ext.trans ?_ ‹Ext _ _›)))
local macro_rules | `(tactic| walk_at "rv") => `(tactic| (repeat (first | refine red ?_ | ((with_reducible apply k_var); rfl))))
/-! ### the plain columns and rows -/
abbrev Adds := List (Str × Int)
/-- the deeds: the adds, one a moment, and then a put -/
def dsAdd (i : Nat) : Adds → List Deed
  | [] => []
  | (x, v) :: r => .add ((i : Nat) + 1) x v :: dsAdd (i + 1) r
def dsOf (adds : Adds) (row : Bool) : List Deed := dsAdd 0 adds ++ (if row = true then [.put ((adds.length : Nat) + 1)] else [])
def AddsOk (adds : Adds) : Prop := adds.length ≤ 3 ∧ (∀ p, p ∈ adds → Nm p.1 ∧ 0 ≤ p.2 ∧ p.2 ≤ 99) ∧ (adds.map (·.1)).Nodup
def ColR (H : Hp) (v : V) (p : Str × Int) : Prop := ∃ a, v = .ref a ∧ H a = some (.tup [.str p.1, .int p.2])
theorem ColR.mono {H H' : Hp} {v : V} {p : Str × Int} (e : Ext H H') (h : ColR H v p) : ColR H' v p := by
  obtain ⟨a, x, y⟩ := h
  exact ⟨a, x, e.at y⟩
section
variable {w : World} {K : PySem.W.Frag} {mg : Str → Option Value} {base : Heap}
def pWithRow (rows key row : V) (H : Hp) (Q : VK) : Prop := ∃ r q, rows = .ref r ∧ H r = some (.dK []) ∧ key = .int 0 ∧ row = .ref q ∧ ∀ d H', Ext H H' → H' d = some (.dK [(.inl 0, .ref q)]) → Q (.ref d) H'
theorem ok_with_row  (T : Txt w K mg) : Cal PG w K mg base (0 + 1) "with_row" (sp3 pWithRow) := by
  obtain ⟨fd, F⟩ := T.d_with_row
  refine cal_mk F T.g_with_row sc_with_row (fun _ _ _ _ _ _ us hl => match us, hl with | [_, _, _], _ => rfl) fun cdv A outer s0 H vs Q E hr h => ?_
  obtain ⟨_, _, _, rfl, r, q, rfl, hr1, rfl, rfl, h⟩ := h
  have : At H r (.dK []) := ⟨hr1⟩
  refine ⟨_, pss_cons (ps_set (i := 3) sc_with_row.nd rfl (by first | exact Or.inl rfl | exact Or.inr rfl) (pe_dnewK))
      (pss_cons (ps_for PassesOwn.never rfl (pi_seq (pe_callB cr_sorted (by rfl) T.f_sorted (by decide +kernel) (pa_cons (pe_lc (own := [("one", 6)]) rfl sc_with_row.nd (pi_seq (pe_lst (pa_starD rfl (pv 0) (pa_starK (K := K) rfl (pe_lc (own := [("one", 6)]) rfl sc_with_row.nd (pi_seq (pe_lst (pa_cons (pv 1) pa_nil))) (blkOk_by (own := [("one", 6)]) (N := ["rows", "key", "row", "found", "known", "told", "one"]) (sc := defScope S_with_row) (by decide +kernel)) (fun _ _ _ _ _ => (pg_name (i := 6) sc_with_row.nd rfl (by first | exact Or.inl rfl | exact Or.inr rfl))) (fun _ _ _ _ _ => pts_one (pt_cmp (pc_dnotin (hu_of hr) (pv 6) (pv 0)))) (fun _ _ _ _ _ => (pv 1))) pa_nil)))) (blkOk_by (own := [("one", 6)]) (N := ["rows", "key", "row", "found", "known", "told", "one"]) (sc := defScope S_with_row) (by decide +kernel)) (fun _ _ _ _ _ => (pg_name (i := 6) sc_with_row.nd rfl (by first | exact Or.inl rfl | exact Or.inr rfl))) (fun _ _ _ _ _ => pts_nil) (fun _ _ _ _ _ => (pe_callTy call_intK (by rfl) T.f_int (by decide +kernel) (pa_cons (pv 6) pa_nil)))) pa_nil))) (pg_name (i := 4) sc_with_row.nd rfl (by first | exact Or.inl rfl | exact Or.inr rfl)) (pss_cons (ps_set (i := 5) sc_with_row.nd rfl (by first | exact Or.inl rfl | exact Or.inr rfl) (pe_ifExp (pt_cmpR op_eq (pv 4) (pv 1) (nomark _)) (pv 2) (pe_dget (hu_of hr) (pv 0) (pv 4) (fun _ _ => rfl))))
      (pss_one (ps_if (pt_cmpR op_notNK (pv 5) (pe_non) (nomark _)) (pss_one (ps_dput (hu_of hr) (pv 3) (pv 4) (pv 5) rfl)) pss_nil))))
      (pss_one (ps_ret (pv 3)))), ?_⟩
  refine start_to (σ := [some _, some _, some _, none, none, none, none]) rfl ?_
  try dsimp only [cxOf]
  walk_at "go"
  rename_i f hf l hl
  refine lc_ds [(0 : Int)] some (VR V.int) (fun _ h => h) rfl (by decide) ?_ ?_
  · intro i x d H1 H2 D hd e1 nD hA hy N1 N2 k1 k2
    obtain ⟨rfl, hx⟩ := hy
    have hi : i = 0 := by cases i with | zero => rfl | succ i => simp at hd
    subst hi
    simp at hd hx
    subst hd hx
    walk_at "go"
    exact k1 _ _ 0 (Ext.refl _) rfl rfl
  · intro D H1 ys nD e1 hD hE
    have e2 := each_val hE
    rw [List.filterMap_some] at e2
    subst e2
    have : At H1 D (.lst [V.int 0]) := ⟨hD⟩
    walk_at "go"
    refine ⟨by decide, ?_⟩
    walk_at "go"
    refine lc_ds [(0 : Int)] some (VR V.int) (fun _ h => h) rfl (by decide) ?_ ?_
    · intro i x d H1 H2 D hd e1 nD hA hy N1 N2 k1 k2
      obtain ⟨rfl, hx⟩ := hy
      have hi : i = 0 := by cases i with | zero => rfl | succ i => simp at hd
      subst hi
      simp at hd hx
      subst hd hx
      walk_at "go"
      exact k1 _ _ 0 (Ext.refl _) rfl rfl
    · intro D2 H2 ys nD2 e2 hD2 hE2
      have e3 := each_val hE2
      rw [List.filterMap_some] at e3
      subst e3
      have : At H2 D2 (.lst [V.int 0]) := ⟨hD2⟩
      walk_at "go"
      refine ⟨D2, [0], rfl, SqL.of hD2, by decide, fun ns' p2 hpm _ hp2 => ?_⟩
      rw [List.perm_singleton] at hpm
      subst hpm
      have : New H2 p2 := ⟨hp2⟩
      walk_at "go"
      have ee : Ext H (upd H2 p2 (.lst [V.int 0])) := by walk_at "ext"
      have ef : Ext (upd H f (.dK [])) H2 := by walk_at "ext"
      have hfp : f ≠ p2 := fun z => by
        have q := hp2
        rw [← z, ef.at upd_same] at q
        cases q
      have : At (upd H2 p2 (.lst [V.int 0])) f (.dK []) := ⟨by rw [upd_ne hfp]; exact ef.at upd_same⟩
      have : ShortD [] := ⟨by decide⟩
      refine for_one (fun σ' H' => (∃ x y z, σ' = [some (V.ref r), some (V.int 0), some (V.ref q), some (V.ref f), x, y, z]) ∧ Ext H H' ∧ H' f = some (.dK [(.inl 0, .ref q)]) ∧ H' p2 = some (.lst [V.int 0])) (fun σ' H' q => sub_at upd_same q.2.2.2) ?_ ?_
      · walk_at "go"
        refine ⟨⟨_, _, _, rfl⟩, ee.mut hf.h, upd_same, ?_⟩
        rw [upd_ne hfp.symm, upd_same]
        rfl
      · rintro σ' H' ⟨⟨x, y, z, rfl⟩, e, h1, h2⟩
        walk_at "go"
        exact h f H' e h1
instance {r q : Addr} {H : Hp} {Q : VK} [s : At H r (.dK [])] : Red (pWithRow (.ref r) (.int 0) (.ref q) H Q) (∀ d H', Ext H H' → H' d = some (.dK [(.inl 0, .ref q)]) → Q (.ref d) H') := ⟨fun h => ⟨r, q, rfl, s.h, rfl, rfl, h⟩⟩
/-- behind_alter of an add, no row there yet -/
def pAlter (cols rows deed : V) (H : Hp) (Q : VK) : Prop := ∃ c cvs cs r d m x v, cols = .ref c ∧ H c = some (.lst cvs) ∧ Each ColR H cvs cs ∧ cs.length ≤ 10 ∧ rows = .ref r ∧ H r = some (.dK []) ∧ deed = .ref d ∧ H d = some (.tup [.int m, .str "add", .str x, .int v]) ∧ (¬ x ∈ cs.map (·.1)) ∧
  ∀ t c' r' cvs' H', Ext H H' → H' t = some (.tup [.ref c', .ref r', .bl true]) → H' c' = some (.lst cvs') → H' r' = some (.dK []) → Each ColR H' cvs' (cs ++ [(x, v)]) → Q (.ref t) H'
theorem inV_strs {x : Str} : ∀ {xs : List Str}, ¬ x ∈ xs → inV (.str x) (xs.map V.str) = false
  | [], _ => rfl
  | y :: r, h => by
    have e : inV (.str x) ((y :: r).map V.str) = (eqV (.str y) (.str x) || inV (.str x) (r.map V.str)) := rfl
    have e2 : eqV (.str y) (.str x) = false := by
      show (y == x) = false
      simp only [beq_eq_false_iff_ne]
      intro z
      exact h (by rw [z]; exact List.mem_cons_self)
    rw [e, e2, inV_strs fun m => h (List.mem_cons_of_mem _ m)]
    rfl
theorem inV_strsT {x : Str} : ∀ {xs : List Str}, x ∈ xs → inV (.str x) (xs.map V.str) = true
  | y :: r, h => by
    have e : inV (.str x) ((y :: r).map V.str) = (eqV (.str y) (.str x) || inV (.str x) (r.map V.str)) := rfl
    rw [e]
    by_cases z : y = x
    · have e2 : eqV (.str y) (.str x) = true := by
        show (y == x) = true
        simpa using z
      rw [e2]
      rfl
    · rw [inV_strsT ((List.mem_cons.mp h).resolve_left fun q => z q.symm), Bool.or_true]
theorem flat_strs : ∀ {xs : List Str}, (xs.map V.str).all flatV = true
  | [] => rfl
  | _ :: r => by
    show (true && (r.map V.str).all flatV) = true
    rw [flat_strs]
    rfl
theorem ok_behind_alter  (T : Txt w K mg) : Cal PG w K mg base (0 + 1) "behind_alter" (sp3 pAlter) := by
  obtain ⟨fd, F⟩ := T.d_behind_alter
  refine cal_mk F T.g_behind_alter sc_behind_alter (fun _ _ _ _ _ _ us hl => match us, hl with | [_, _, _], _ => rfl) fun cdv A outer s0 H vs Q E hr h => ?_
  obtain ⟨_, _, _, rfl, c, cvs, cs, r, d, m, x, v, rfl, hc, hE, hl, rfl, hr1, rfl, hd, hx, h⟩ := h
  have : At H c (.lst cvs) := ⟨hc⟩
  have : At H r (.dK []) := ⟨hr1⟩
  have : At H d (.tup [.int m, .str "add", .str x, .int v]) := ⟨hd⟩
  have hlen := hE.len
  refine ⟨_, pss_cons (ps_setLc (i := 3) (own := [("name", 8), ("fill", 9)]) rfl sc_behind_alter.nd rfl rfl (sw_true rfl rfl rfl (by decide +kernel)) (pi_seq (pv 0)) (blkOk_by (own := [("name", 8), ("fill", 9)]) (N := ["columns", "rows", "deed", "names", "longer", "fewer", "calls", "other", "name", "fill", "key", "row"]) (sc := defScope S_behind_alter) (by decide +kernel)) (fun _ _ _ _ _ => (pg_tupK (K := K) (n := 2) rfl rfl (pgs_cons (pg_name (i := 8) sc_behind_alter.nd rfl (by first | exact Or.inl rfl | exact Or.inr rfl)) (pgs_cons (pg_name (i := 9) sc_behind_alter.nd rfl (by first | exact Or.inl rfl | exact Or.inr rfl)) pgs_nil)))) (fun _ _ _ _ _ => pts_nil) (fun _ _ _ _ _ => (pv 8)))
      (pss_cons (ps_if (PW.pt (pw_and (pt_cmpR op_eq (pe_ix (ix_anyK (K := K) rfl) (pv 2) (pe_int) (fun _ _ => rfl)) (pe_str) (nomark _)) (pw_and1 (pt_cmpR (op_notInK (K := K) rfl) (pe_ix (ix_anyK (K := K) rfl) (pv 2) (pe_int) (fun _ _ => rfl)) (pv 3) (by rfl))))) (pss_cons (ps_set (i := 4) sc_behind_alter.nd rfl (by first | exact Or.inl rfl | exact Or.inr rfl) (pe_lst (pa_starK (K := K) rfl (pv 0) (pa_cons (pe_tup (pa_cons (pe_ix (ix_anyK (K := K) rfl) (pv 2) (pe_int) (fun _ _ => rfl)) (pa_cons (pe_ix (ix_anyK (K := K) rfl) (pv 2) (pe_int) (fun _ _ => rfl)) pa_nil))) pa_nil))))
      (pss_one (ps_ret (pe_tup (pa_cons (pv 4) (pa_cons (pe_lock ((pe_dc (own := [("key", 10), ("row", 11)]) rfl sc_behind_alter.nd ((pi_items (pv 1))) (blkOk_by (own := [("key", 10), ("row", 11)]) (N := ["columns", "rows", "deed", "names", "longer", "fewer", "calls", "other", "name", "fill", "key", "row"]) (sc := defScope S_behind_alter) (by decide +kernel)) (fun _ _ _ _ _ => (pg_tupK (K := K) (n := 2) rfl rfl (pgs_cons (pg_name (i := 10) sc_behind_alter.nd rfl (by first | exact Or.inl rfl | exact Or.inr rfl)) (pgs_cons (pg_name (i := 11) sc_behind_alter.nd rfl (by first | exact Or.inl rfl | exact Or.inr rfl)) pgs_nil)))) (fun _ _ _ _ _ => pts_nil) (fun _ _ _ _ _ => (pv 10)) (fun _ _ _ _ _ => (pe_never))))) (pa_cons (pe_bl) pa_nil))))))) pss_nil)
      (pss_cons (ps_never)
      (pss_cons (ps_never)
      (pss_one (ps_never))))), ?_⟩
  refine start_to (σ := [some _, some _, some _, none, none, none, none, none, none, none, none, none]) rfl ?_
  try dsimp only [cxOf]
  walk_at "go"
  refine lc_ds cs (fun p => some p.1) (VR V.str) (fun _ h => h) hlen (by show cvs.length ≤ 2 ^ 24; omega) ?_ ?_
  · intro i y p H1 H2 D hp e1 nD hA hy N1 N2 k1 k2
    obtain ⟨rfl, hy⟩ := hy
    obtain ⟨p', hp', a, rfl, ha⟩ := hE.get hy
    rw [hp] at hp'
    cases hp'
    have : At H2 a (.tup [.str p.1, .int p.2]) := ⟨e1.at ha⟩
    walk_at "go"
    exact k1 _ _ p.1 (Ext.refl _) rfl rfl
  · intro D H1 ys nD e1 hD hE1
    have hys := each_val hE1
    rw [fm_map] at hys
    subst hys
    have : At H1 D (.lst ((cs.map (·.1)).map V.str)) := ⟨hD⟩
    walk_at "go"
    refine ⟨D, _, rfl, .inl (SqL.of hD), rfl, flat_strs, ?_⟩
    rw [inV_strs hx]
    walk_at "go"
    refine ⟨by simp; show cvs.length + 1 ≤ 2 ^ 24; omega, ?_⟩
    walk_at "go"
    rename_i t0 ht0 l0 hl0
    refine lock_in (d := r) (kvs := []) At.h fun od => ?_
    walk_at "go"
    refine dc_nil (k_new fun D2 n2 => ?_)
    refine unlk (d := r) (u := .dK []) At.h n2 ?_ upd_same fun H3 n3 e3 hD2 => ?_
    · walk_at "ext"
    walk_at "go"
    have e4 : Ext H1 H3 := Ext.trans (by walk_at "ext") e3
    have e5 : Ext H H3 := e1.trans e4
    refine h _ l0 D2 (cvs ++ [.ref t0]) _ (by walk_at "ext") At.h (Ext.at (by walk_at "ext") (e3.at upd_same)) (Ext.at (by walk_at "ext") hD2) ?_
    refine Each.snoc (hE.mono fun v d => ColR.mono (by walk_at "ext")) ⟨t0, rfl, ?_⟩
    have : At H3 t0 (.tup [.str x, .int v]) := ⟨e3.at (by rw [upd_ne]; exact upd_same; intro z; have q := hl0.h; rw [← z, upd_same] at q; cases q)⟩
    exact At.h
instance {c r d : Addr} {cvs : List V} {m v : Int} {x : Str} {H : Hp} {Q : VK} [s1 : At H c (.lst cvs)] [s2 : At H r (.dK [])] [s3 : At H d (.tup [.int m, .str "add", .str x, .int v])] : Red (pAlter (.ref c) (.ref r) (.ref d) H Q) (∃ cs, Each ColR H cvs cs ∧ cs.length ≤ 10 ∧ (¬ x ∈ cs.map (·.1)) ∧
  ∀ t c' r' cvs' H', Ext H H' → H' t = some (.tup [.ref c', .ref r', .bl true]) → H' c' = some (.lst cvs') → H' r' = some (.dK []) → Each ColR H' cvs' (cs ++ [(x, v)]) → Q (.ref t) H') := ⟨fun ⟨cs, a, b, e, f⟩ => ⟨c, cvs, cs, r, d, m, x, v, rfl, s1.h, a, b, rfl, s2.h, rfl, s3.h, e, f⟩⟩
/-- what table_by gives: the columns' list, the rows' dict -/
def RowsR (H : Hp) (r : Addr) (cs : Adds) (row : Bool) : Prop := match row with
  | false => H r = some (.dK [])
  | true => ∃ q kvs, H r = some (.dK [(.inl 0, .ref q)]) ∧ H q = some (.dK kvs) ∧ kvs = cs.map fun p => (.inr p.1, .int p.2)
theorem RowsR.mono {H H' : Hp} {r : Addr} {cs : Adds} {row : Bool} (h : RowsR H r cs row) (e : Ext H H') : RowsR H' r cs row := by
  cases row with
  | false => exact e.at h
  | true => obtain ⟨q, kvs, a, b, c⟩ := h; exact ⟨q, kvs, e.at a, e.at b, c⟩
theorem dsAdd_len : ∀ (i : Nat) (adds : Adds), (dsAdd i adds).length = adds.length
  | _, [] => rfl
  | i, (x, v) :: r => by
    show (dsAdd (i + 1) r).length + 1 = _
    rw [dsAdd_len (i + 1) r]
    rfl
theorem dsOf_len {adds : Adds} {row : Bool} : (dsOf adds row).length = adds.length + (if row = true then 1 else 0) := by
  unfold dsOf
  rw [List.length_append, dsAdd_len]
  cases row <;> rfl
theorem dsAdd_get : ∀ (adds : Adds) (i j : Nat) (d : Deed), (dsAdd i adds)[j]? = some d → ∃ p, adds[j]? = some p ∧ d = .add ((i + j : Nat) + 1) p.1 p.2
  | [], _, _, _, h => by simp [dsAdd] at h
  | (x, v) :: r, i, 0, d, h => by
    simp [dsAdd] at h
    exact ⟨(x, v), rfl, h.symm⟩
  | (x, v) :: r, i, j + 1, d, h => by
    have h2 : (dsAdd (i + 1) r)[j]? = some d := by simpa [dsAdd] using h
    obtain ⟨p, a, b⟩ := dsAdd_get r (i + 1) j d h2
    refine ⟨p, by simpa using a, ?_⟩
    rw [b, show i + 1 + j = i + (j + 1) by omega]
theorem dsOf_get {adds : Adds} {row : Bool} {i : Nat} {d : Deed} (h : (dsOf adds row)[i]? = some d) : (∃ p, adds[i]? = some p ∧ d = .add ((i : Nat) + 1) p.1 p.2) ∨ (row = true ∧ i = adds.length ∧ d = .put ((adds.length : Nat) + 1)) := by
  unfold dsOf at h
  by_cases z : i < (dsAdd 0 adds).length
  · rw [List.getElem?_append_left z] at h
    obtain ⟨p, a, b⟩ := dsAdd_get adds 0 i d h
    exact .inl ⟨p, a, by rw [b, Nat.zero_add]⟩
  · rw [List.getElem?_append_right (by omega), dsAdd_len] at h
    rw [dsAdd_len] at z
    cases row with
    | false => simp at h
    | true =>
      have e : i - adds.length = 0 := by
        have := (List.getElem?_eq_some_iff.mp h).1
        simp at this
        omega
      rw [e] at h
      simp at h
      exact .inr ⟨rfl, by omega, h.symm⟩
theorem dk_vals {H : Hp} : ∀ {kvs : List (Key × V)} {cs : Adds}, Paired (KR (VR V.int) H) kvs (cs.map fun p => (.inr p.1, p.2)) → kvs = cs.map fun p => (.inr p.1, .int p.2)
  | [], [], _ => rfl
  | kv :: r, c :: cs, .cons a t => by
    rw [List.map_cons, ← dk_vals t]
    obtain ⟨k, v⟩ := kv
    have a1 := a.1
    have a2 := a.2
    simp only at a1 a2
    rw [a1, a2]
def pTable (dsv t : V) (H : Hp) (Q : VK) : Prop := ∃ a vs adds row, dsv = .ref a ∧ H a = some (.lst vs) ∧ Each DeedR H vs (dsOf adds row) ∧ AddsOk adds ∧ t = .int 999 ∧
  ∀ p c r cvs H', Ext H H' → H' p = some (.tup [.ref c, .ref r]) → H' c = some (.lst cvs) → Each ColR H' cvs adds → RowsR H' r adds row → Q (.ref p) H'
theorem ok_table_by  (T : Txt w K mg) : Cal PG w K mg base (1 + 1) "table_by" (sp2 pTable) := by
  obtain ⟨fd, F⟩ := T.d_table_by
  refine cal_mk F T.g_table_by sc_table_by (fun _ _ _ _ _ _ us hl => match us, hl with | [_, _], _ => rfl) fun cdv A outer s0 H vs Q E hr h => ?_
  obtain ⟨_, _, rfl, a, vs, adds, row, rfl, hA, hE, ⟨ok1, ok2, ok3⟩, rfl, h⟩ := h
  have : At H a (.lst vs) := ⟨hA⟩
  have c_with_row := (ok_with_row (base := base) T)
  have c_behind_alter := (ok_behind_alter (base := base) T)
  refine ⟨_, pss_cons (ps_par (i := 2) (j := 3) rfl sc_table_by.nd rfl rfl (by decide) rfl rfl (pa_cons (pe_lst pa_nil) (pa_cons (pe_dnewK) pa_nil)) (by rfl))
      (pss_cons (ps_for PassesOwn.never rfl (pi_seq (pv 0)) (pg_name (i := 4) sc_table_by.nd rfl (by first | exact Or.inl rfl | exact Or.inr rfl)) (pss_cons (ps_if (pt_cmpR op_gt (pe_ix (ix_anyK (K := K) rfl) (pv 4) (pe_int) (fun _ _ => rfl)) (pv 1) (nomark _)) (pss_one (ps_ret (pe_tup (pa_cons (pv 2) (pa_cons (pv 3) pa_nil))))) pss_nil)
      (pss_one (ps_if (pt_cmpR op_eq (pe_ix (ix_anyK (K := K) rfl) (pv 4) (pe_int) (fun _ _ => rfl)) (pe_str) (nomark _)) (pss_cons (ps_set (i := 5) sc_table_by.nd rfl (by first | exact Or.inl rfl | exact Or.inr rfl) (pe_callTy (call_dictE rfl) (by rfl) T.f_dict (by decide +kernel) (pa_cons (pe_ix (ix_anyK (K := K) rfl) (pv 4) (pe_int) (fun _ _ => rfl)) pa_nil)))
      (pss_one (ps_set (i := 3) sc_table_by.nd rfl (by first | exact Or.inl rfl | exact Or.inr rfl) (pe_cl c_with_row hr (by first | decide | omega) rfl (pa_cons (pv 3) (pa_cons (pe_ix (ix_anyK (K := K) rfl) (pv 4) (pe_int) (fun _ _ => rfl)) (pa_cons (pe_dc (own := [("name", 7), ("fill", 8)]) rfl sc_table_by.nd (pi_seq (pv 2)) (blkOk_by (own := [("name", 7), ("fill", 8)]) (N := ["deeds", "t", "columns", "rows", "deed", "pairs", "does", "name", "fill"]) (sc := defScope S_table_by) (by decide +kernel)) (fun _ _ _ _ _ => (pg_tupK (K := K) (n := 2) rfl rfl (pgs_cons (pg_name (i := 7) sc_table_by.nd rfl (by first | exact Or.inl rfl | exact Or.inr rfl)) (pgs_cons (pg_name (i := 8) sc_table_by.nd rfl (by first | exact Or.inl rfl | exact Or.inr rfl)) pgs_nil)))) (fun _ _ _ _ _ => pts_nil) (fun _ _ _ _ _ => (pv 7)) (fun _ _ _ _ _ => (pe_dget2 (hu_of hr) (pv 5) (pv 7) (pv 8) ⟨rfl, rfl, rfl, rfl⟩))) pa_nil))))))) (pss_one (ps_if (pt_cmpR op_eq (pe_ix (ix_anyK (K := K) rfl) (pv 4) (pe_int) (fun _ _ => rfl)) (pe_str) (nomark _)) (pss_one (ps_set (i := 3) sc_table_by.nd rfl (by first | exact Or.inl rfl | exact Or.inr rfl) (pe_never))) (pss_one (ps_asg (pe_cl c_behind_alter hr (by first | decide | omega) rfl (pa_cons (pv 2) (pa_cons (pv 3) (pa_cons (pv 4) pa_nil)))) (pg_tupK (K := K) (n := 3) rfl rfl (pgs_cons (pg_name (i := 2) sc_table_by.nd rfl (by first | exact Or.inl rfl | exact Or.inr rfl)) (pgs_cons (pg_name (i := 3) sc_table_by.nd rfl (by first | exact Or.inl rfl | exact Or.inr rfl)) (pgs_cons (pg_name (i := 6) sc_table_by.nd rfl (by first | exact Or.inl rfl | exact Or.inr rfl)) pgs_nil))))))))))))
      (pss_one (ps_ret (pe_tup (pa_cons (pv 2) (pa_cons (pv 3) pa_nil)))))), ?_⟩
  refine start_to (σ := [some _, some _, none, none, none, none, none, none, none]) rfl ?_
  try dsimp only [cxOf]
  walk_at "go"
  rename_i c0 hc0 r0 hr0
  have hlen := hE.len
  have e0 : Ext H (upd (upd H c0 (.lst [])) r0 (.dK [])) := by walk_at "ext"
  refine for_go (fun i σ' H' => (∃ c r x y z u v cvs, σ' = [some (V.ref a), some (V.int 999), some (V.ref c), some (V.ref r), x, y, z, u, v] ∧ H' c = some (.lst cvs) ∧ Each ColR H' cvs (adds.take i) ∧ RowsR H' r adds (decide (adds.length < i))) ∧ Ext H H') ⟨⟨c0, r0, _, _, _, _, _, [], rfl, ?_, .nil, ?_⟩, e0⟩ (fun i σ' H' _ q => sub_at (At.h (o := .lst vs)) (q.2.at hA)) ?_ ?_
  · rw [upd_ne]
    · exact upd_same
    · intro z
      have q := hr0.h
      rw [← z, upd_same] at q
      cases q
  · rw [decide_eq_false (by omega)]
    exact upd_same
  · rintro i x σ' H1 H2 hi ⟨⟨c, r, x0, y0, z0, u0, v0, cvs, rfl, hc, hC, hR⟩, e1⟩ ⟨rfl, hx⟩
    obtain ⟨d, hd, hdR⟩ := hE.get hx
    have hdR2 : DeedR H2 x d := hdR.mono e1
    have : At H2 c (.lst cvs) := ⟨hc⟩
    rcases dsOf_get hd with ⟨p, hp, rfl⟩ | ⟨hrow, hi2, rfl⟩
    · obtain ⟨b, rfl, hb⟩ := hdR2
      have hilt : i < adds.length := (List.getElem?_eq_some_iff.mp hp).1
      rw [decide_eq_false (by omega)] at hR
      have : At H2 r (.dK []) := ⟨hR⟩
      have : At H2 b (.tup [.int ((i : Nat) + 1), .str "add", .str p.1, .int p.2]) := ⟨hb⟩
      walk_at "go"
      rw [decide_eq_false (show ¬ (999 : Int) < (i : Nat) + 1 by omega)]
      walk_at "go"
      have hnew : ¬ p.1 ∈ (adds.take i).map (·.1) := by
        intro hm
        obtain ⟨q, hq, hq2⟩ := List.mem_map.mp hm
        obtain ⟨j, hj, hj2⟩ := List.getElem_of_mem hq
        have hji : j < i := by simp at hj; omega
        rw [List.getElem_take] at hj2
        have hnd := List.pairwise_iff_getElem.mp ok3 j i (by simp; omega) (by simp; omega) hji
        simp only [List.getElem_map] at hnd
        rw [hj2, hq2] at hnd
        have h3 := (List.getElem?_eq_some_iff.mp hp).2
        rw [h3] at hnd
        exact hnd rfl
      refine ⟨adds.take i, hC, by simp; omega, hnew, fun t c' r' cvs' H3 e3 ht hc' hr' hE' => ?_⟩
      have : At H3 t (.tup [.ref c', .ref r', .bl true]) := ⟨ht⟩
      walk_at "go"
      refine ⟨⟨c', r', _, _, _, _, _, cvs', rfl, hc', ?_, ?_⟩, e1.trans e3⟩
      · rw [List.take_add_one, hp]
        exact hE'
      · rw [decide_eq_false (by omega)]
        exact hr'
    · obtain ⟨b, e, rfl, hb, he⟩ := hdR2
      subst hi2
      rw [decide_eq_false (by omega)] at hR
      have : At H2 r (.dK []) := ⟨hR⟩
      have : At H2 b (.tup [.int ((adds.length : Nat) + 1), .str "put", .int 0, .ref e]) := ⟨hb⟩
      have hcl := hC.len
      walk_at "go"
      rw [decide_eq_false (show ¬ (999 : Int) < (adds.length : Nat) + 1 by omega)]
      walk_at "go"
      rename_i f hf
      rw [List.take_of_length_le (Nat.le_refl _)] at hC hcl
      refine dc_ds adds (fun p => some (.inr p.1, p.2)) (VR V.int) (fun _ h => h) hcl (by show cvs.length ≤ 2 ^ 24; omega) ?_ ?_
      · intro i y p H3 H4 D hp e3 nD hA2 hy N1 N2 k1 k2
        obtain ⟨rfl, hy⟩ := hy
        obtain ⟨p', hp', b2, rfl, hb2⟩ := hC.get hy
        rw [hp] at hp'
        cases hp'
        have e4 : Ext H2 H4 := by walk_at "ext"
        have : At H4 b2 (.tup [.str p.1, .int p.2]) := ⟨e4.at hb2⟩
        have : At H4 f (.dK []) := ⟨e3.at upd_same⟩
        walk_at "go"
        exact k1 (.inr p.1) _ _ p.2 (Ext.refl _) rfl rfl
      · intro D H3 kvs nD e3 hD hK
        rw [fold_nodup] at hK
        · rw [List.nil_append, fm_map] at hK
          have : At H3 r (.dK []) := ⟨e3.at (Ext.at (by walk_at "ext") hR)⟩
          walk_at "go"
          intro d2 H4 e4 hd2
          walk_at "go"
          refine ⟨⟨c, d2, _, _, _, _, _, cvs, rfl, Ext.at (by walk_at "ext") hc, ?_, ?_⟩, by walk_at "ext"⟩
          · rw [List.take_of_length_le (by omega)]
            exact hC.mono fun v d => ColR.mono (by walk_at "ext")
          · rw [decide_eq_true (by omega)]
            exact ⟨D, kvs, hd2, e4.at hD, dk_vals hK⟩
        · rw [List.nil_append, fm_map, List.map_map]
          have : (adds.map ((·.1) ∘ fun p : Str × Int => ((.inr p.1, p.2) : Key × Int))) = (adds.map (·.1)).map (Sum.inr : Str → Key) := by rw [List.map_map]; rfl
          rw [this]
          exact List.Pairwise.map _ (fun a b h z => h (by injection z)) ok3
  · rintro σ' H1 ⟨⟨c, r, x0, y0, z0, u0, v0, cvs, rfl, hc, hC, hR⟩, e1⟩
    walk_at "go"
    have hdl : vs.length = adds.length + (if row = true then 1 else 0) := by rw [hlen]; exact dsOf_len
    rw [List.take_of_length_le (by omega)] at hC
    refine h _ c r cvs _ (by walk_at "ext") At.h (Ext.at (by walk_at "ext") hc) (hC.mono fun v d => ColR.mono (by walk_at "ext")) ?_
    have hrow : decide (adds.length < vs.length) = row := by
      rw [hdl]
      cases row <;> simp
    rw [hrow] at hR
    exact hR.mono (by walk_at "ext")
end

end PB
namespace PB
open PySem PySem.Spec PyProof.Rows L2
local macro_rules | `(tactic| walk_at "rd") => `(tactic| (repeat refine red ?_))
local macro_rules | `(tactic| walk_at "go") => `(tactic| (repeat (first | refine red ?_ | ((with_reducible apply k_var); rfl) | refine k_new fun _ _ => ?_ | refine wp_and rfl ?_ | refine if_redT rfl ?_ | refine if_redF rfl ?_)))

local macro_rules | `(tactic| walk_at "ext") => `(tactic| (repeat (first | assumption | exact Ext.refl _ | refine Ext.newI ?_ | refine Ext.trans ?_ ‹Ext _ _›)))
local macro_rules | `(tactic| walk_at "rv") => `(tactic| (repeat (first | refine red ?_ | ((with_reducible apply k_var); rfl))))
theorem dsAdd_m : ∀ (adds : Adds) (i : Nat), (dsAdd i adds).map Deed.m = (List.range adds.length).map fun j => ((i + j : Nat) : Int) + 1
  | [], _ => rfl
  | (x, v) :: r, i => by
    rw [List.length_cons, List.range_succ_eq_map, List.map_cons, List.map_map]
    show (((i : Nat) : Int) + 1) :: (dsAdd (i + 1) r).map Deed.m = _
    rw [dsAdd_m r (i + 1)]
    congr 1
    apply List.map_congr_left
    intro j _
    show ((i + 1 + j : Nat) : Int) + 1 = ((i + (j + 1) : Nat) : Int) + 1
    omega
theorem dsOf_ok {adds : Adds} {row : Bool} (h : AddsOk adds) : DsOk (dsOf adds row) := by
  refine ⟨?_, ?_, ?_⟩
  · rw [dsOf_len]
    have := h.1
    split <;> omega
  · intro d hd
    obtain ⟨i, hi, e⟩ := List.getElem_of_mem hd
    have h2 : (dsOf adds row)[i]? = some d := by rw [List.getElem?_eq_getElem hi, e]
    have hl := h.1
    rcases dsOf_get h2 with ⟨p, hp, rfl⟩ | ⟨_, _, rfl⟩
    · have := (List.getElem?_eq_some_iff.mp hp).1
      obtain ⟨a, b, c⟩ := h.2.1 p (List.mem_of_getElem? hp)
      exact ⟨by omega, by omega, a, b, c⟩
    · exact ⟨by omega, by omega⟩
  · unfold dsOf
    rw [List.map_append, dsAdd_m, List.pairwise_append]
    refine ⟨?_, ?_, ?_⟩
    · rw [List.pairwise_map]
      exact List.pairwise_lt_range.imp fun h => by omega
    · cases row <;> simp
    · intro a ha b hb
      obtain ⟨j, hj, rfl⟩ := List.mem_map.mp ha
      have := List.mem_range.mp hj
      cases row with
      | false => simp at hb
      | true => simp [Deed.m] at hb; subst hb; omega
section
variable {w : World} {K : PySem.W.Frag} {mg : Str → Option Value} {base : Heap}
/-- a Past of adds and, perhaps, a put -/
class PastOf (K : PySem.W.Frag) (H : Hp) (v : V) (adds : outParam Adds) (row : outParam Bool) : Prop where
  h : PastR K H v (dsOf adds row)
  ok : AddsOk adds
instance (priority := low) pastof_ext {H H' : Hp} {v : V} {adds : Adds} {row : Bool} [e : Ext H H'] [p : PastOf K H v adds row] : PastOf K H' v adds row := ⟨p.h.mono e, p.ok⟩
instance pastof_at {H : Hp} {v : V} {adds : Adds} {row : Bool} [p : PastOf K H v adds row] : PastAt K H v (dsOf adds row) := ⟨p.h, dsOf_ok p.ok⟩
def pColsAt (K : PySem.W.Frag) (past t : V) (H : Hp) (Q : VK) : Prop := ∃ a adds row, past = .ref a ∧ PastOf K H (.ref a) adds row ∧ t = .int 999 ∧ ∀ c cvs H', Ext H H' → H' c = some (.lst cvs) → Each ColR H' cvs adds → Q (.ref c) H'
instance {a : Addr} {adds : Adds} {row : Bool} {H : Hp} {Q : VK} [p : PastOf K H (.ref a) adds row] : Red (pColsAt K (.ref a) (.int 999) H Q) (∀ c cvs H', Ext H H' → H' c = some (.lst cvs) → Each ColR H' cvs adds → Q (.ref c) H') := ⟨fun h => ⟨a, adds, row, rfl, p, rfl, h⟩⟩
theorem ok_columns_at  (T : Txt w K mg) : Cal PG w K mg base (4 + 1) "columns_at" (sp2 (pColsAt K)) := by
  obtain ⟨fd, F⟩ := T.d_columns_at
  refine cal_mk F T.g_columns_at sc_columns_at (fun _ _ _ _ _ _ us hl => match us, hl with | [_, _], _ => rfl) fun cdv A outer s0 H vs Q E hr h => ?_
  obtain ⟨_, _, rfl, a, adds, row, rfl, p, rfl, h⟩ := h
  have c_check_past := (ok_check_past (base := base) T).mono (show 1 ≤ 4 by omega)
  have c_check_time := (ok_check_time (base := base) T)
  have c_table_by := (ok_table_by (base := base) T).mono (show 2 ≤ 4 by omega)
  have m_deeds := met_Past_deeds (base := base) T
  refine ⟨_, pss_cons (ps_expr (pe_cl c_check_past hr (by first | decide | omega) rfl (pa_cons (pv 0) pa_nil)))
      (pss_cons (ps_expr (pe_cl c_check_time hr (by first | decide | omega) rfl (pa_cons (pv 1) pa_nil)))
      (pss_one (ps_ret (pe_ix (ix_anyK (K := K) rfl) (pe_cl c_table_by hr (by first | decide | omega) rfl (pa_cons (pe_mtc m_deeds hr (by first | decide | omega) (pv 0)) (pa_cons (pv 1) pa_nil))) (pe_int) (fun _ _ => rfl))))), ?_⟩
  refine start_to (σ := [some _, some _]) rfl ?_
  try dsimp only [cxOf]
  walk_at "go"
  refine ⟨by omega, by omega, ?_⟩
  walk_at "go"
  intro r vs H1 e1 nr hr1 hE
  walk_at "go"
  refine ⟨r, vs, adds, row, rfl, hr1, hE, p.ok, rfl, fun t c r' cvs H2 e2 ht hc hC hR => ?_⟩
  have : At H2 t (.tup [.ref c, .ref r']) := ⟨ht⟩
  walk_at "go"
  exact h c cvs H2 (by walk_at "ext") hc hC
def pRowAt (K : PySem.W.Frag) (past key t : V) (H : Hp) (Q : VK) : Prop := ∃ a adds row, past = .ref a ∧ PastOf K H (.ref a) adds row ∧ key = .int 0 ∧ t = .int 999 ∧
  ((row = false → ∀ H', Ext H H' → Q .non H') ∧ (row = true → ∀ q H', Ext H H' → H' q = some (.dK (adds.map fun p => (.inr p.1, .int p.2))) → Q (.ref q) H'))
theorem ok_row_at  (T : Txt w K mg) : Cal PG w K mg base (4 + 1) "row_at" (sp3 (pRowAt K)) := by
  obtain ⟨fd, F⟩ := T.d_row_at
  refine cal_mk F T.g_row_at sc_row_at (fun _ _ _ _ _ _ us hl => match us, hl with | [_, _, _], _ => rfl) fun cdv A outer s0 H vs Q E hr h => ?_
  obtain ⟨_, _, _, rfl, a, adds, row, rfl, p, rfl, rfl, h1, h2⟩ := h
  have c_check_past := (ok_check_past (base := base) T).mono (show 1 ≤ 4 by omega)
  have c_check_time := (ok_check_time (base := base) T)
  have c_check_key := (ok_check_key (base := base) T)
  have c_table_by := (ok_table_by (base := base) T).mono (show 2 ≤ 4 by omega)
  have m_deeds := met_Past_deeds (base := base) T
  refine ⟨_, pss_cons (ps_expr (pe_cl c_check_past hr (by first | decide | omega) rfl (pa_cons (pv 0) pa_nil)))
      (pss_cons (ps_expr (pe_cl c_check_key hr (by first | decide | omega) rfl (pa_cons (pv 1) pa_nil)))
      (pss_cons (ps_expr (pe_cl c_check_time hr (by first | decide | omega) rfl (pa_cons (pv 2) pa_nil)))
      (pss_one (ps_ret (pe_dget2 (hu_of hr) (pe_ix (ix_anyK (K := K) rfl) (pe_cl c_table_by hr (by first | decide | omega) rfl (pa_cons (pe_mtc m_deeds hr (by first | decide | omega) (pv 0)) (pa_cons (pv 2) pa_nil))) (pe_int) (fun _ _ => rfl)) (pv 1) (pe_non) ⟨rfl, rfl, rfl, rfl⟩))))), ?_⟩
  refine start_to (σ := [some _, some _, some _]) rfl ?_
  try dsimp only [cxOf]
  walk_at "go"
  refine ⟨by omega, by omega, ?_⟩
  walk_at "go"
  refine ⟨by omega, by omega, ?_⟩
  walk_at "go"
  intro r vs H1 e1 nr hr1 hE
  walk_at "go"
  refine ⟨r, vs, adds, row, rfl, hr1, hE, p.ok, rfl, fun t c r' cvs H2 e2 ht hc hC hR => ?_⟩
  have : At H2 t (.tup [.ref c, .ref r']) := ⟨ht⟩
  cases row with
  | false =>
    have : At H2 r' (.dK []) := ⟨hR⟩
    walk_at "go"
    exact h1 rfl H2 (by walk_at "ext")
  | true =>
    obtain ⟨q, kvs, hq, hk, rfl⟩ := hR
    have : At H2 r' (.dK [(.inl 0, .ref q)]) := ⟨hq⟩
    have : DVal [(.inl 0, .ref q)] (.int 0) (some (.ref q)) := ⟨.inl 0, rfl, rfl⟩
    walk_at "go"
    exact h2 rfl q H2 (by walk_at "ext") hk
end

end PB
namespace PB
open PySem PySem.Spec PyProof.Rows L2
local macro_rules | `(tactic| walk_at "rd") => `(tactic| (repeat refine red ?_))
local macro_rules | `(tactic| walk_at "go") => `(tactic| (repeat (first | refine red ?_ | ((with_reducible apply k_var); rfl) | refine k_new fun _ _ => ?_ | refine wp_and rfl ?_ | refine if_redT rfl ?_ | refine if_redF rfl ?_)))

local macro_rules | `(tactic| walk_at "ext") => `(tactic| (repeat (first | assumption | exact Ext.refl _ | refine Ext.newI ?_ | refine Ext.trans ?_ ‹Ext _ _›)))
local macro_rules | `(tactic| walk_at "rv") => `(tactic| (repeat (first | refine red ?_ | ((with_reducible apply k_var); rfl))))
/-! ### conditions: what is asked of them -/
def Tst.name : Tst → Option Str
  | .row => none
  | .has x => some x
  | .eq x _ => some x
  | .less x _ => some x
def Tst.val : Tst → Option Int
  | .row => none
  | .has _ => none
  | .eq _ v => some v
  | .less _ v => some v
def Tst.word : Tst → Str
  | .row => "row"
  | .has _ => "has"
  | .eq _ _ => "eq"
  | .less _ _ => "less"
def Cond.word : Cond → Str
  | .t q => q.word
  | .not _ => "not"
  | .seq w _ => wd w
def Vl (v : Int) : Prop := v = 1 ∨ v = 2 ∨ v = 50
def Tst.ok (t : Tst) : Prop := (∀ x, t.name = some x → Nm x) ∧ ∀ v, t.val = some v → Vl v
mutual
def Cond.dep : Cond → Nat
  | .t _ => 0
  | .not c => c.dep + 1
  | .seq _ cs => depL cs + 1
def depL : List Cond → Nat
  | [] => 0
  | c :: cs => max c.dep (depL cs)
end
mutual
def Cond.ts : Cond → List Tst
  | .t q => [q]
  | .not c => c.ts
  | .seq _ cs => tsL cs
def tsL : List Cond → List Tst
  | [] => []
  | c :: cs => c.ts ++ tsL cs
end
/-- the key of a lead -/
def Cond.lead : Cond → Option (List Key)
  | .t .row => some [.inr "row"]
  | .t (.has x) => some [.inr "has", .inr x]
  | _ => none
mutual
def Cond.ok : Cond → Prop
  | .t q => q.ok
  | .not c => c.ok
  | .seq w cs => 1 ≤ cs.length ∧ cs.length ≤ 2 ∧ (w = true → (cs.filterMap Cond.lead).Nodup) ∧ okL cs
def okL : List Cond → Prop
  | [] => True
  | c :: cs => c.ok ∧ okL cs
end
theorem okL_get : ∀ {cs : List Cond} {i : Nat} {c : Cond}, okL cs → cs[i]? = some c → c.ok
  | [], _, _, _, h => by simp at h
  | _ :: _, 0, _, h, e => by simp at e; subst e; exact h.1
  | _ :: _, i + 1, _, h, e => okL_get (i := i) h.2 (by simpa using e)
theorem depL_get : ∀ {cs : List Cond} {i : Nat} {c : Cond}, cs[i]? = some c → c.dep ≤ depL cs
  | [], _, _, h => by simp at h
  | _ :: _, 0, _, e => by simp at e; subst e; unfold depL; omega
  | _ :: cs, i + 1, c, e => by
    have := depL_get (cs := cs) (i := i) (c := c) (by simpa using e)
    unfold depL
    omega
theorem CAs.each {H : Hp} : ∀ {cs : List Cond} {vs : List V}, CAs H cs vs → Paired (fun v c => CA H c v) vs cs
  | [], vs, h => by
    have e : vs = [] := h
    subst e
    exact .nil
  | c :: cs, vs, h => by
    obtain ⟨v, r, rfl, h1, h2⟩ := h
    exact .cons h1 (CAs.each h2)
theorem CA.head {H : Hp} {c : Cond} {v : V} (h : CA H c v) : ∃ a r, v = .ref a ∧ H a = some (.tup (.str c.word :: r)) := by
  cases c with
  | t t =>
    obtain ⟨a, rfl, h⟩ := h
    cases t <;> exact ⟨a, _, rfl, h⟩
  | not c =>
    obtain ⟨a, b, rfl, h, _⟩ := h
    exact ⟨a, _, rfl, h⟩
  | seq w cs =>
    obtain ⟨a, p, vs, rfl, h, _⟩ := h
    exact ⟨a, _, rfl, h⟩
theorem CAs.len {H : Hp} {cs : List Cond} {vs : List V} (h : CAs H cs vs) : vs.length = cs.length := Paired.length (CAs.each h)
/-- a test in the heap -/
def TstR (H : Hp) (v : V) (t : Tst) : Prop := ∃ a, v = .ref a ∧ H a = some (.tup t.vs)
theorem TstR.mono {H H' : Hp} {v : V} {t : Tst} (e : Ext H H') (h : TstR H v t) : TstR H' v t := by
  obtain ⟨a, x, y⟩ := h
  exact ⟨a, x, e.at y⟩
section
variable {w : World} {K : PySem.W.Frag} {mg : Str → Option Value} {base : Heap}
instance [T : Txt w K mg] {H : Hp} : TupA K H (He.ga K "TESTS") [.str "row", .str "has", .str "eq", .str "less"] := ⟨T.tests H⟩
def pTest (v : V) (H : Hp) (Q : VK) : Prop := ∃ (a : Addr) (t : Tst), v = .ref a ∧ H a = some (.tup t.vs) ∧ t.ok ∧ ∀ H', Ext H H' → Q (.bl true) H'
theorem ok_is_test  (T : Txt w K mg) : Cal PG w K mg base (3 + 1) "is_test" (sp1 pTest) := by
  obtain ⟨fd, F⟩ := T.d_is_test
  refine cal_mk F T.g_is_test sc_is_test (fun _ _ _ _ _ _ us hl => match us, hl with | [_], _ => rfl) fun cdv A outer s0 H vs Q E hr h => ?_
  obtain ⟨_, rfl, a, t, rfl, hA, ok, h⟩ := h
  have c_is_name := (ok_is_name (base := base) T).mono (show 1 ≤ 3 by omega)
  have c_is_cell := (ok_is_cell (base := base) T)
  refine ⟨_, pss_cons (ps_if (pt_cmpR op_eq (pe_ix (ix_anyK (K := K) rfl) (pv 0) (pe_int) (fun _ _ => rfl)) (pe_str) (nomark _)) (pss_one (ps_ret (pe_cmpR op_eq (pe_callB (call_lenK (K := K) rfl) (by rfl) T.f_len (by decide +kernel) (pa_cons (pv 0) pa_nil)) (pe_int) (nomark _)))) pss_nil)
      (pss_cons (ps_if (pt_cmpR op_eq (pe_ix (ix_anyK (K := K) rfl) (pv 0) (pe_int) (fun _ _ => rfl)) (pe_str) (nomark _)) (pss_one (ps_ret (pe_and (pe_cmpR op_eq (pe_callB (call_lenK (K := K) rfl) (by rfl) T.f_len (by decide +kernel) (pa_cons (pv 0) pa_nil)) (pe_int) (nomark _)) (pe_one (pe_cl c_is_name hr (by first | decide | omega) rfl (pa_cons (pe_ix (ix_anyK (K := K) rfl) (pv 0) (pe_int) (fun _ _ => rfl)) pa_nil)))))) pss_nil)
      (pss_cons (ps_if (PW.pt (pw_or (pt_cmpR (op_notInK (K := K) rfl) (pe_ix (ix_anyK (K := K) rfl) (pv 0) (pe_int) (fun _ _ => rfl)) (pe_tup (pa_cons (pe_str) (pa_cons (pe_str) pa_nil))) (by rfl)) (pw_or1 (pt_cmpR op_ne (pe_callB (call_lenK (K := K) rfl) (by rfl) T.f_len (by decide +kernel) (pa_cons (pv 0) pa_nil)) (pe_int) (nomark _))))) (pss_one (ps_ret (pe_bl))) pss_nil)
      (pss_one (ps_ret (pe_and (pe_cl c_is_name hr (by first | decide | omega) rfl (pa_cons (pe_ix (ix_anyK (K := K) rfl) (pv 0) (pe_int) (fun _ _ => rfl)) pa_nil)) (pe_one (pe_cl c_is_cell hr (by first | decide | omega) rfl (pa_cons (pe_ix (ix_anyK (K := K) rfl) (pv 0) (pe_int) (fun _ _ => rfl)) pa_nil)))))))), ?_⟩
  refine start_to (σ := [some _]) rfl ?_
  try dsimp only [cxOf]
  cases t with
  | row =>
    have : At H a (.tup [.str "row"]) := ⟨hA⟩
    walk_at "go"
    exact h _ (Ext.refl _)
  | has x =>
    have : At H a (.tup [.str "has", .str x]) := ⟨hA⟩
    walk_at "go"
    refine ⟨ok.1 x rfl, ?_⟩
    exact h
  | eq x v =>
    have : At H a (.tup [.str "eq", .str x, .int v]) := ⟨hA⟩
    have hv := ok.2 v rfl
    walk_at "go"
    refine ⟨ok.1 x rfl, ?_⟩
    intro H' e
    walk_at "go"
    refine ⟨by rcases hv with rfl | rfl | rfl <;> decide, by rcases hv with rfl | rfl | rfl <;> decide, ?_⟩
    exact h _ (by walk_at "ext")
  | less x v =>
    have : At H a (.tup [.str "less", .str x, .int v]) := ⟨hA⟩
    have hv := ok.2 v rfl
    walk_at "go"
    refine ⟨ok.1 x rfl, ?_⟩
    intro H' e
    walk_at "go"
    refine ⟨by rcases hv with rfl | rfl | rfl <;> decide, by rcases hv with rfl | rfl | rfl <;> decide, ?_⟩
    exact h _ (by walk_at "ext")
def pLead (v : V) (H : Hp) (Q : VK) : Prop := ∃ c, CA H c v ∧ ∀ H', Ext H H' → Q (.bl c.lead.isSome) H'
instance {v : V} {c : Cond} {H : Hp} {Q : VK} [k : CndAt H v c] : Red (pLead v H Q) (∀ H', Ext H H' → Q (.bl c.lead.isSome) H') := ⟨fun h => ⟨c, k.h, h⟩⟩
theorem ok_is_lead  (T : Txt w K mg) : Cal PG w K mg base (0 + 1) "is_lead" (sp1 pLead) := by
  obtain ⟨fd, F⟩ := T.d_is_lead
  refine cal_mk F T.g_is_lead sc_is_lead (fun _ _ _ _ _ _ us hl => match us, hl with | [_], _ => rfl) fun cdv A outer s0 H vs Q E hr h => ?_
  obtain ⟨_, rfl, c, hc, h⟩ := h
  obtain ⟨a, r, rfl, hA⟩ := hc.head
  have : At H a (.tup (.str c.word :: r)) := ⟨hA⟩
  refine ⟨_, pss_one (ps_ret (pe_cmpR (op_inK (K := K) rfl) (pe_ix (ix_anyK (K := K) rfl) (pv 0) (pe_int) (fun _ _ => rfl)) (pe_tup (pa_cons (pe_str) (pa_cons (pe_str) pa_nil))) (by rfl))), ?_⟩
  refine start_to (σ := [some _]) rfl ?_
  try dsimp only [cxOf]
  cases c with
  | t t =>
    cases t with
    | row =>
      have : At H a (.tup (.str "row" :: r)) := ⟨hA⟩
      walk_at "go"
      exact h _ (by walk_at "ext")
    | has x =>
      have : At H a (.tup (.str "has" :: r)) := ⟨hA⟩
      walk_at "go"
      exact h _ (by walk_at "ext")
    | eq x v =>
      have : At H a (.tup (.str "eq" :: r)) := ⟨hA⟩
      walk_at "go"
      exact h _ (by walk_at "ext")
    | less x v =>
      have : At H a (.tup (.str "less" :: r)) := ⟨hA⟩
      walk_at "go"
      exact h _ (by walk_at "ext")
  | not c =>
    have : At H a (.tup (.str "not" :: r)) := ⟨hA⟩
    walk_at "go"
    exact h _ (by walk_at "ext")
  | seq w cs =>
    cases w with
    | true =>
      have : At H a (.tup (.str "all" :: r)) := ⟨hA⟩
      walk_at "go"
      exact h _ (by walk_at "ext")
    | false =>
      have : At H a (.tup (.str "any" :: r)) := ⟨hA⟩
      walk_at "go"
      exact h _ (by walk_at "ext")
end

end PB
namespace PB
open PySem PySem.Spec PyProof.Rows L2
local macro_rules | `(tactic| walk_at "rd") => `(tactic| (repeat refine red ?_))
local macro_rules | `(tactic| walk_at "go") => `(tactic| (repeat (first | refine red ?_ | ((with_reducible apply k_var); rfl) | refine k_new fun _ _ => ?_ | refine wp_and rfl ?_ | refine if_redT rfl ?_ | refine if_redF rfl ?_)))

local macro_rules | `(tactic| walk_at "ext") => `(tactic| (repeat (first | assumption | exact Ext.refl _ | refine Ext.newI ?_ | refine Ext.trans ?_ ‹Ext _ _›)))
local macro_rules | `(tactic| walk_at "rv") => `(tactic| (repeat (first | refine red ?_ | ((with_reducible apply k_var); rfl))))
/-! ### set(l), l a list: the loop that fills it apart -/
/-- the new set's object -/
abbrev set0 (w : World) : Obj := { cls := .type "set", dict := none, data := .set #[] 0 (.fresh 0 0 (!w.params.followText "set-order")) }
set_option maxHeartbeats 3200000 in
theorem set_of_list {P : Program} {w : World} {A : Around} {E : Value → Shared → Prop} {s : Shared} {l : Addr} {items : Array Value} {Q : Value → Shared → Prop} (Post : Heap → Nat → Prop) (hh : A.handled = none) (hl : s.heap.IsList l items)
    (loop : ∀ (R : Result → Shared → Prop), (∀ s' : Shared, s'.gens = s.gens → s'.drawn = s.drawn → s'.os = s.os → Post s'.heap s'.toks → R (.ok (.ret .none)) s') →
      codeAny (model P w) A.in1.in1 (.builtin "set.update.loop" ⟨[.ref s.heap.objs.size, .ref (s.heap.objs.size + 1)], []⟩) R { s with heap := (s.heap.push (set0 w)).push { cls := .type "list_iterator", data := .fields #[.ref l, .int 0 0] } })
    (h : ∀ (h' : Heap) (tk : Nat), Post h' tk → Q (.ref s.heap.objs.size) { s with heap := h', toks := tk }) :
    wpAny (model P w) A (call (.type "set") [.ref l]) Q E s := by
  obtain ⟨c, tl, hmro⟩ := F.called_set.mro
  have hmade := F.called_set.made
  have hsub := F.called_set.sub
  refine wpAny_call (codeAny_of_tree ?_)
  show wpAny _ _ (callAny (.type "set") _) _ _ _
  refine wpAny_pure ⟨Code.quiet_builtin _ (by decide +kernel), codeAny_builtin F.entry_type_call ?_⟩
  rw [Around.under_plain (weight_type_call_type "set" [.ref l] []) rfl]
  have h1 := F.called_set.notType
  have h2 := F.called_set.canCreate
  have hct := F.typeCall_set_1 (.ref l)
  repeat (any_goals (first | assumption | wp_step))
  refine codeAny_mono (code_set_led1 (.ref l) (E := E) (Q₁ := fun obj s₁ => obj = .ref s.heap.objs.size ∧ s₁ = { s with heap := s.heap.push (set0 w) }) ⟨rfl, rfl⟩) fun r s₁ hr => ?_
  cases r with
  | error e => exact hr
  | ok fl =>
    cases fl with
    | ret obj =>
      obtain ⟨rfl, rfl⟩ := hr
      have hS : (s.heap.push (set0 w)).get? s.heap.objs.size = some (set0 w) := Heap.get?_push_size _ rfl
      have hT : Shared.TypeIs { s with heap := s.heap.push (set0 w) } (.ref s.heap.objs.size) "set" := ⟨_, hS, rfl⟩
      have hli := F.called_set.init.lookup
      have hbi := F.called_set.init.bind (.ref s.heap.objs.size)
      repeat (any_goals (first | assumption | wp_step))
      refine codeAny_mono (codeAny_call_builtin (R := wants (fun r s₂ => r = .none ∧ ∃ h' tk, s₂ = { s with heap := h', toks := tk } ∧ Post h' tk) E) F.called_set.init.plain F.entry_set_init (check_set_init_1 hT ?_)) fun r₂ s₂ hr₂ => ?_
      · obtain ⟨ol, hol, hcl, nl, hdl⟩ := hl
        obtain ⟨ocls, odict, odata, oslots⟩ := ol
        simp only at hcl hdl
        subst hcl; subst hdl
        have hol' : (s.heap.push (set0 w)).get? l = some { cls := .type "list", dict := odict, data := .seq items nl, slots := oslots } := Heap.get?_push_of_some _ hol
        have hsls := F.sub_list_set
        have hslf := F.sub_list_frozenset
        have hne : (Value.type "list" == Value.type "dict") = false := by decide
        have hl1 : (s.heap.push (set0 w)).IsList l items := ⟨_, hol', rfl, nl, rfl⟩
        unfold Builtin.«set.__init__» noKeywords Builtin.Frozenset.updateFrom
        generalize hPI : pyIter = PI
        wp_walk
        subst hPI
        refine wpAny_pyIter_list hl1 ?_
        refine wpAny_bind (wpAny_runValue ?_)
        have hz1 : (s.heap.push (set0 w)).objs.size = s.heap.objs.size + 1 := Heap.size_push ..
        rw [hz1]
        refine loop _ fun s' eg ed eo hp => ?_
        obtain ⟨h', g2, d', tk', os'⟩ := s'
        dsimp only at eg ed eo hp
        subst eg; subst ed; subst eo
        show wpAny _ _ _ _ _ _
        refine wpAny_pure ?_
        show wpAny _ _ (ret Value.none) _ _ _
        exact wpAny_pure ⟨rfl, h', tk', rfl, hp⟩
      · cases r₂ with
        | error e => exact hr₂
        | ok fl₂ =>
          cases fl₂ with
          | ret r =>
            obtain ⟨rfl, h', tk, rfl, hp⟩ := hr₂
            repeat (any_goals (first | assumption | wp_step))
            exact h _ _ hp
          | _ => exact hr₂.elim
    | _ => exact hr.elim

end PB
namespace PB
open PySem PySem.Spec PyProof.Rows L2
local macro_rules | `(tactic| walk_at "rd") => `(tactic| (repeat refine red ?_))
local macro_rules | `(tactic| walk_at "go") => `(tactic| (repeat (first | refine red ?_ | ((with_reducible apply k_var); rfl) | refine k_new fun _ _ => ?_ | refine wp_and rfl ?_ | refine if_redT rfl ?_ | refine if_redF rfl ?_)))

local macro_rules | `(tactic| walk_at "ext") => `(tactic| (repeat (first | assumption | exact Ext.refl _ | refine Ext.newI ?_ | refine Ext.trans ?_ ‹Ext _ _›)))
local macro_rules | `(tactic| walk_at "rv") => `(tactic| (repeat (first | refine red ?_ | ((with_reducible apply k_var); rfl))))
/-! ### small sets of tuples of texts and ints, all unlike -/
section
variable {P : Program} {w : World} {A : Around} {E : Value → Shared → Prop} {s : Shared}
abbrev IsK (P : Program) (w : World) (h : Heap) (k : List Key) (a : Addr) : Prop := IsTupleKey (mixKind P w) h k a
abbrev khash (P : Program) (w : World) (k : List Key) : Int := tupleKeyHash (mixKind P w) k
theorem items_scal {k : List Key} {vs : List Value} (h : ItemsAre (mixKind P w) k vs) : ∀ v ∈ vs, (∃ i t, v = Value.int i t) ∨ ∃ x t, v = Value.str x t := by
  induction h with
  | nil => intro v hv; cases hv
  | @cons k0 v' ks vs h1 _ ih =>
    intro v hv
    rcases List.mem_cons.mp hv with e | hv
    · rcases keyIs_shape (show keyIs k0 v' = true from h1) with ⟨i, t, _, e2⟩ | ⟨x, t, _, e2⟩
      · exact .inl ⟨i, t, e.trans e2⟩
      · exact .inr ⟨x, t, e.trans e2⟩
    · exact ih v hv
theorem ofAClass_k {k : List Key} {b : Addr} {Q : Bool → Shared → Prop} (hk : IsK P w s.heap k b) (h : Q false s) : wpAny (model P w) A (ofAClassStatement 8 (.ref b)) Q E s := by
  have hT := hk.typeIs
  obtain ⟨o, items, n, ho, _, hd, hi⟩ := hk
  unfold ofAClassStatement
  refine wpAny_bind (wpAny_typeOf hT ?_)
  dsimp only
  have e : (("tuple" : String) == "tuple") = true := by decide
  simp only [e, if_true, Bool.not_true, Bool.false_eq_true, if_false]
  try refine wpAny_bind (wpAny_pure ?_)
  try simp only [Bool.not_true, Bool.false_eq_true, if_false]
  show wpAny _ _ (seqItems? (.ref b) >>= _) _ _ s
  refine wpAny_bind (wpAny_seqItems ho hd ?_)
  dsimp only
  refine wpAny_bind ?_
  show wpAny _ _ (forIn items _ _) _ _ s
  rw [← Array.forIn_toList]
  refine wpAny_forIn_list _ (fun rest r s' => r.1 = none ∧ s' = s ∧ ∀ v ∈ rest, (∃ i t, v = Value.int i t) ∨ ∃ x t, v = Value.str x t) _ ?_ ?_ _ _ ⟨rfl, rfl, items_scal hi⟩
  · rintro v rest r s' ⟨hr, rfl, hall⟩
    have e0 : ofAClassStatement 7 v = pure false := by
      rcases hall v List.mem_cons_self with ⟨i, t, rfl⟩ | ⟨x, t, rfl⟩ <;> rfl
    rw [e0]
    refine wpAny_bind (wpAny_pure ?_)
    simp only [Bool.false_eq_true, if_false]
    exact wpAny_pure ⟨rfl, rfl, fun u hu' => hall u (List.mem_cons_of_mem _ hu')⟩
  · rintro ⟨r1, r2⟩ s' ⟨hr, rfl, _⟩
    simp only at hr
    subst hr
    exact wpAny_pure h
theorem hashBy_k {k : List Key} {b : Addr} {Q : Bool → Shared → Prop} (hk : IsK P w s.heap k b) (h : ∀ r, Q r s) : wpAny (model P w) A (hashByValue 8 (.ref b)) Q E s := by
  have hT := hk.typeIs
  obtain ⟨o, items, n, ho, _, hd, hi⟩ := hk
  unfold hashByValue
  refine wpAny_bind (wpAny_specialOf hT F.slot_tuple_hash.lookup ?_)
  show wpAny _ _ (seqItems? (.ref b) >>= _) _ _ s
  refine wpAny_bind (wpAny_seqItems ho hd ?_)
  refine wpAny_bind ?_
  show wpAny _ _ (forIn items _ _) _ _ s
  rw [← Array.forIn_toList]
  refine wpAny_forIn_list _ (fun rest r s' => r.1 = none ∧ s' = s ∧ ∀ v ∈ rest, (∃ i t, v = Value.int i t) ∨ ∃ x t, v = Value.str x t) _ ?_ ?_ _ _ ⟨rfl, rfl, items_scal hi⟩
  · rintro v rest r s' ⟨hr, rfl, hall⟩
    rcases hall v List.mem_cons_self with ⟨i, t, rfl⟩ | ⟨x, t, rfl⟩
    · rw [show hashByValue 7 (Value.int i t) = pure true from rfl]
      refine wpAny_bind (wpAny_pure ?_)
      simp only [Bool.not_true, Bool.false_eq_true, if_false]
      exact wpAny_pure ⟨rfl, rfl, fun u hu' => hall u (List.mem_cons_of_mem _ hu')⟩
    · rw [show hashByValue 7 (Value.str x t) = pure false from rfl]
      refine wpAny_bind (wpAny_pure ?_)
      simp only [Bool.not_false, if_true]
      exact wpAny_pure (wpAny_pure (h false))
  · rintro ⟨r1, r2⟩ s' ⟨hr, rfl, _⟩
    simp only at hr
    subst hr
    exact wpAny_pure (h true)
theorem seen_k {k : List Key} {b : Addr} {Q : Bool → Shared → Prop} (hk : IsK P w s.heap k b) {ys : List Value} (hy : ∀ y ∈ ys, ∃ k' c, y = Value.ref c ∧ IsK P w s.heap k' c) (h : Q false s) :
    wpAny (model P w) A (searchCouldBeSeen (.ref b) ys) Q E s := by
  unfold searchCouldBeSeen
  refine wpAny_bind ?_
  refine wpAny_forIn_list _ (fun rest r s' => r.1 = none ∧ s' = s ∧ ∀ y ∈ rest, ∃ k' c, y = Value.ref c ∧ IsK P w s.heap k' c) _ ?_ ?_ _ _ ⟨rfl, rfl, hy⟩
  · rintro v rest r s' ⟨hr, rfl, hall⟩
    obtain ⟨k', c, rfl, hc⟩ := hall v List.mem_cons_self
    have rest' : ∀ y ∈ rest, ∃ k' c, y = Value.ref c ∧ IsK P w s'.heap k' c := fun u hu' => hall u (List.mem_cons_of_mem _ hu')
    dsimp only
    by_cases hv : (b == c || (carriedByValue (.ref b) && carriedByValue (.ref c))) = true
    · refine wp_if_pos hv ?_
      exact wpAny_pure ⟨rfl, rfl, rest'⟩
    · refine wp_if_neg hv ?_
      refine wpAny_bind (wpAny_eqIsQuiet_tuple hk ?_)
      simp only [Bool.not_true, Bool.false_eq_true, if_false]
      refine wpAny_bind (wpAny_eqIsQuiet_tuple hc ?_)
      simp only [Bool.not_true, Bool.false_eq_true, if_false]
      refine wpAny_bind (ofAClass_k hk ?_)
      simp only [Bool.false_eq_true, if_false]
      refine wpAny_bind (ofAClass_k hc ?_)
      simp only [Bool.false_eq_true, if_false]
      exact wpAny_pure ⟨rfl, rfl, rest'⟩
  · rintro ⟨r1, r2⟩ s' ⟨hr, rfl, _⟩
    simp only at hr
    subst hr
    exact wpAny_pure h
/-- the set at a holds the tuples L, each once -/
structure SmallS (P : Program) (w : World) (h : Heap) (a : Addr) (L : List (Addr × List Key)) : Prop where
  ex : ∃ o es ep t, h.get? a = some o ∧ o.ExactSet ∧ o.data = .set es ep t ∧ es.size = L.length ∧ (∀ (i : Nat) x, es[i]? = some x → ∃ p, p ∈ L ∧ x = (khash P w p.2, Value.ref p.1)) ∧ TabOk t (es.toList.map (·.1)) ∧ t.mask = 7 ∧
    (∀ p ∈ L, IsK P w h p.2 p.1) ∧ L.length ≤ 4
theorem fits7 {es : Array (Int × Value)} {t : SetTable} (T : TabOk t (es.toList.map (·.1))) (h7 : t.mask = 7) (h4 : es.size ≤ 4) : t.fits es.size = true := by
  have h1 := T.sz
  rw [List.length_map, Array.length_toList] at h1
  unfold SetTable.fits SetTable.fill
  rw [T.dm, Bool.and_eq_true, beq_iff_eq, decide_eq_true_eq]
  show t.place.size = es.size ∧ t.place.size + 0 ≤ t.mask
  omega
/-- the search for a tuple that is not there: it ends at the first empty slot -/
theorem small_search {a : Addr} {o : Obj} {es : Array (Int × Value)} {ep : Nat} {t : SetTable} {L : List (Addr × List Key)} (ho : s.heap.get? a = some o) (hd : o.data = .set es ep t) (hrow : ∀ (i : Nat) x, es[i]? = some x → ∃ p, p ∈ L ∧ x = (khash P w p.2, Value.ref p.1))
    (T : TabOk t (es.toList.map (·.1))) (h7 : t.mask = 7) (h4 : es.size ≤ 4) (tup : ∀ p ∈ L, IsK P w s.heap p.2 p.1) {x : Addr} {k : List Key} (hx : IsK P w s.heap k x) (hne : ∀ p ∈ L, p.2 ≠ k) (hu : A.units < cLine) {K : Nat} (hKf : K < 10 * SetTable.turns t.mask)
    (hK : way t.mask (khash P w k) K ∉ t.place.toList) (hKb : ∀ c, c < K → way t.mask (khash P w k) c ∈ t.place.toList) {Q : SetFound → Shared → Prop} (hout : Q (.free (way t.mask (khash P w k) K) false) s) :
    ∀ (f c : Nat) (stand : Option SetTable.Probe), stand.getD (t.probeStart (khash P w k)) = nth t.mask (runAt t.mask (SetTable.bits (khash P w k) % (t.mask + 1)) (SetTable.bits (khash P w k))) c → c ≤ K → K - c < f →
      wpAny (model P w) A (setSearchFrom a (.ref x) (khash P w k) true f stand) Q E s
  | 0, c, stand, _, _, hf => absurd hf (Nat.not_lt_zero _)
  | f + 1, c, stand, hst, hc, hf => by
    have hfits := fits7 T h7 h4
    rw [setSearchFrom_succ]
    refine wpAny_bind (wpAny_setState_of ho hd hfits ?_)
    dsimp only
    have hgw : ¬ t.gaveWay = true := by
      unfold SetTable.gaveWay
      rw [mask_odd T.mok]
      decide
    refine wp_if_neg hgw ?_
    try refine wpAny_bind (wpAny_pure ?_)
    have hnd : (nth t.mask (runAt t.mask (SetTable.bits (khash P w k) % (t.mask + 1)) (SetTable.bits (khash P w k))) c).dummy = none := by
      have key : ∀ (n : Nat) (p : SetTable.Probe), p.dummy = none → (nth t.mask p n).dummy = none := by
        intro n
        induction n with
        | zero => intro p h; exact h
        | succ n ih =>
          intro p h
          refine ih (adv t.mask p) ?_
          unfold adv
          split <;> exact h
      exact key c _ rfl
    have sh : ∀ q, nth t.mask (nth t.mask (runAt t.mask (SetTable.bits (khash P w k) % (t.mask + 1)) (SetTable.bits (khash P w k))) c) q = nth t.mask (runAt t.mask (SetTable.bits (khash P w k) % (t.mask + 1)) (SetTable.bits (khash P w k))) (c + q) := by
      intro q
      have key : ∀ (n : Nat) (p : SetTable.Probe) (m : Nat), nth t.mask (nth t.mask p n) m = nth t.mask p (n + m) := by
        intro n
        induction n with
        | zero => intro p m; rw [Nat.zero_add]; rfl
        | succ n ih => intro p m; rw [Nat.succ_add]; exact ih (adv t.mask p) m
      exact key c _ q
    have e1 : ∀ q, (nth t.mask (nth t.mask (runAt t.mask (SetTable.bits (khash P w k) % (t.mask + 1)) (SetTable.bits (khash P w k))) c) q).j = way t.mask (khash P w k) (c + q) := fun q => congrArg SetTable.Probe.j (sh q)
    have spec := go_spec t T.ris T.dm (fun i => (es[i]?.map (·.1)).getD 0) (khash P w k) (10 * SetTable.turns t.mask) (K - c) _ hnd (by omega)
      (fun q hq => by rw [e1]; exact hKb (c + q) (by omega)) (by rw [e1, show c + (K - c) = K by omega]; exact hK)
    rcases spec with ⟨q, i, hq, hi, hh, hno, hpr⟩ | ⟨hno, hpr⟩
    · have hpr' : t.probe (fun i => (es[i]?.map (·.1)).getD 0) (khash P w k) (stand.getD (t.probeStart (khash P w k))) = some (.candidate (way t.mask (khash P w k) (c + q)) i (nth t.mask (runAt t.mask (SetTable.bits (khash P w k) % (t.mask + 1)) (SetTable.bits (khash P w k))) (c + (q + 1)))) := by
        rw [hst, ← e1, ← sh]
        exact hpr
      rw [hpr']
      dsimp only
      rw [e1] at hi
      have hil : i < es.size := by
        have h1 : i < t.place.toList.length := (List.getElem?_eq_some_iff.mp hi).1
        have h2 := T.sz
        rw [List.length_map, Array.length_toList] at h2
        rw [Array.length_toList] at h1
        omega
      have hp : es[i]? = some es[i] := Array.getElem?_eq_getElem hil
      obtain ⟨p, hmem, hpe⟩ := hrow i es[i] hp
      rw [hpe] at hp
      have hpt := tup p hmem
      have hkk := hne p hmem
      have rest : wpAny (model P w) A (searchRest a (.ref x) (khash P w k) true f es t (way t.mask (khash P w k) (c + q)) i (nth t.mask (runAt t.mask (SetTable.bits (khash P w k) % (t.mask + 1)) (SetTable.bits (khash P w k))) (c + (q + 1)))) Q E s := by
        unfold searchRest
        rw [hp]
        dsimp only
        refine wpAny_bind (wpAny_holding (wpAny_eqBool_tuple hu hpt hx ?_))
        refine wpAny_bind (wpAny_setState_of ho hd hfits ?_)
        dsimp only
        refine wp_if_neg (by simp [hkk]) ?_
        try refine wpAny_bind (wpAny_pure ?_)
        rw [sameMem]
        dsimp only
        have hsl : t.slot (way t.mask (khash P w k) (c + q)) = .live i := slot_live T.ris hi
        simp only [if_true, hsl, hp]
        refine wpAny_bind (wpAny_isSame_ref_self (wpAny_bind (wpAny_pure ?_)))
        simp only [if_true]
        refine wp_if_neg (by simp [hkk]) ?_
        exact small_search ho hd hrow T h7 h4 tup hx hne hu hKf hK hKb hout f (c + (q + 1)) _ rfl (by omega) (by omega)
      by_cases hl : t.led = true
      · refine wp_if_neg (by simp [hl]) ?_
        try refine wpAny_bind (wpAny_pure ?_)
        exact rest
      · refine wp_if_pos (by simp [hl]) ?_
        refine wpAny_bind (seen_k hx (fun y hy => ?_) ?_)
        · obtain ⟨e, he, ee⟩ := List.mem_map.mp hy
          have he1 : e ∈ es ∧ e.1 = khash P w k := by simpa using he
          obtain ⟨i2, hi2, e2⟩ := Array.getElem_of_mem he1.1
          obtain ⟨p2, hp2, e3⟩ := hrow i2 e (by rw [Array.getElem?_eq_getElem hi2, e2])
          refine ⟨p2.2, p2.1, ?_, tup p2 hp2⟩
          rw [← ee, e3]
        · refine wp_if_neg (by decide) ?_
          try refine wpAny_bind (wpAny_pure ?_)
          exact rest
    · have hpr' : t.probe (fun i => (es[i]?.map (·.1)).getD 0) (khash P w k) (stand.getD (t.probeStart (khash P w k))) = some (.empty (way t.mask (khash P w k) K) none) := by
        have e2 : way t.mask (khash P w k) K = (nth t.mask (nth t.mask (runAt t.mask (SetTable.bits (khash P w k) % (t.mask + 1)) (SetTable.bits (khash P w k))) c) (K - c)).j := by
          rw [e1, show c + (K - c) = K by omega]
        rw [hst, e2]
        exact hpr
      rw [hpr']
      dsimp only
      exact wpAny_pure hout
theorem isK_same {h h' : Heap} {k : List Key} {a b : Addr} {o : Obj} {es : Array (Int × Value)} {ep : Nat} {t : SetTable} (hb : IsK P w h k b) (ho : h.get? a = some o) (hd : o.data = .set es ep t) (hs : Heap.SameBut a h h') : IsK P w h' k b := by
  obtain ⟨o', items, n, ho', hc, hd', hi⟩ := hb
  have hne : b ≠ a := by
    rintro rfl
    obtain rfl : o' = o := Option.some.inj (ho'.symm.trans ho)
    rw [hd] at hd'
    exact nomatch hd'
  exact ⟨o', items, n, (hs.2 b hne).trans ho', hc, hd', hi⟩
theorem tab_plain {t : SetTable} {hs : List Int} (T : TabOk t hs) (b : Bool) : TabOk { t with plain := b } hs := ⟨T.ris, T.dm, T.sz, T.mok, T.bd, T.reach⟩
theorem small_add {a : Addr} {L : List (Addr × List Key)} (R : SmallS P w s.heap a L) {x : Addr} {k : List Key} (hx : IsK P w s.heap k x) (hne : ∀ p ∈ L, p.2 ≠ k) (hl : L.length < 4) (hu : A.units < cLine) {Q : Bool → Shared → Prop}
    (hQ : ∀ h', Heap.SameBut a s.heap h' → SmallS P w h' a ((x, k) :: L) → Q true { s with heap := h' }) : wpAny (model P w) A (setAddHashed a (.ref x) (khash P w k)) Q E s := by
  obtain ⟨o, es, ep, t, ho, hex, hd, hsz, hrow, T, h7, tup, h4⟩ := R.ex
  have h4' : es.size ≤ 4 := by omega
  have hfits := fits7 T h7 h4'
  have hts := T.sz
  rw [List.length_map, Array.length_toList] at hts
  obtain ⟨K, hKf, hK, hKb⟩ := T.first (by rw [List.length_map, Array.length_toList]; omega) (khash P w k)
  have hbig : K < 100000 := by
    have : 10 * SetTable.turns t.mask ≤ 1420 := by
      unfold SetTable.turns
      rw [h7]
      omega
    omega
  unfold setAddHashed
  refine wpAny_holding ?_
  rw [show (100000 : Nat) = 99999 + 1 from rfl, setAddHashedIn_succ]
  refine wpAny_bind (wpAny_setState_of ho hd hfits ?_)
  dsimp only
  refine wp_if_neg (by simp [byScan, Value.scannable]) ?_
  try refine wpAny_bind (wpAny_pure ?_)
  refine wpAny_bind ?_
  unfold setSearch
  refine small_search ho hd hrow T h7 h4' tup hx hne hu hKf hK hKb ?_ 100000 0 none rfl (Nat.zero_le _) (by omega)
  dsimp only
  refine wpAny_bind (wpAny_setState_of ho hd hfits ?_)
  dsimp only
  obtain ⟨q1, q2, q3, q4, q5, q6, q7, q8, q9⟩ := T.put hK hKb
  generalize hpt : t.put (way t.mask (khash P w k) K) = pt at q1 q3 q4 q5 q6 q7 q8 q9 ⊢
  obtain ⟨t1, p⟩ := pt
  dsimp only at q1 q3 q4 q5 q6 q7 q8 q9 ⊢
  subst q1
  have fin : ∀ t2 : SetTable, TabOk t2 ((es.toList.map (·.1)).take (SetTable.below t.place (way t.mask (khash P w k) K)) ++ khash P w k :: (es.toList.map (·.1)).drop (SetTable.below t.place (way t.mask (khash P w k) K))) → t2.mask = 7 → t2.fill = es.size + 1 →
      wpAny (model P w) A (do
        storeSet a (SetTable.insertAt es (SetTable.below t.place (way t.mask (khash P w k) K)) (khash P w k, Value.ref x)) t2
        if !false && t2.tooFull then setRelay a (SetTable.grown (es.size + 1))
        return true) Q E s := by
    intro t2 T2 hm2 hf2
    have hes : (SetTable.insertAt es (SetTable.below t.place (way t.mask (khash P w k) K)) (khash P w k, Value.ref x)).toList = es.toList.take (SetTable.below t.place (way t.mask (khash P w k) K)) ++ (khash P w k, Value.ref x) :: es.toList.drop (SetTable.below t.place (way t.mask (khash P w k) K)) := SetTable.toList_insertAt ..
    generalize hes1 : SetTable.insertAt es (SetTable.below t.place (way t.mask (khash P w k) K)) (khash P w k, Value.ref x) = es1 at hes ⊢
    have hbl : SetTable.below t.place (way t.mask (khash P w k) K) ≤ es.size := by rw [List.length_map, Array.length_toList] at q2; exact q2
    have hes1sz : es1.size = es.size + 1 := by
      have h := congrArg List.length hes
      rw [Array.length_toList, List.length_append, List.length_cons, List.length_take, List.length_drop, Array.length_toList] at h
      omega
    refine wpAny_bind (wpAny_storeSet_of ho hd ?_ (by rw [hes1sz, sizeLine_eq]; omega))
    have sb : Heap.SameBut a s.heap (s.heap.update a (Obj.putSet es1 t2)) := Heap.SameBut.update ..
    have ho1 := store_at (es' := es1) (t' := t2) ho hd
    generalize s.heap.update a (Obj.putSet es1 t2) = h1 at sb ho1 ⊢
    have hnf : t2.tooFull = false := by
      unfold SetTable.tooFull
      rw [hf2, hm2]
      rw [decide_eq_false_iff_not]
      omega
    have last : Q true { s with heap := h1 } := by
      refine hQ h1 sb ⟨⟨_, es1, ep + 1, t2, ho1, ⟨hex.1, hex.2.1, hex.2.2⟩, rfl, by rw [hes1sz, hsz]; rfl, fun i y hy => ?_, ?_, hm2, fun p hp => ?_, by rw [List.length_cons]; omega⟩⟩
      · have hmem : y ∈ es1.toList := by
          rw [← Array.getElem?_toList] at hy
          exact List.mem_of_getElem? hy
        rw [hes] at hmem
        have : y = (khash P w k, Value.ref x) ∨ y ∈ es.toList := by
          rcases List.mem_append.mp hmem with m | m
          · exact .inr (List.mem_of_mem_take m)
          · rcases List.mem_cons.mp m with m | m
            · exact .inl m
            · exact .inr (List.mem_of_mem_drop m)
        rcases this with e | m
        · exact ⟨(x, k), List.mem_cons_self, e⟩
        · obtain ⟨i2, hi2, e2⟩ := List.getElem_of_mem m
          obtain ⟨p, hp, e3⟩ := hrow i2 y (by rw [← Array.getElem?_toList, List.getElem?_eq_getElem hi2, e2])
          exact ⟨p, List.mem_cons_of_mem _ hp, e3⟩
      · rw [hes, List.map_append, List.map_cons, List.map_take, List.map_drop]
        exact T2
      · rcases List.mem_cons.mp hp with e | hp
        · rw [e]; exact isK_same hx ho hd sb
        · exact isK_same (tup p hp) ho hd sb
    first
      | (refine wp_if_neg (by simp [hnf]) ?_; exact wpAny_pure last)
      | (refine wpAny_bind ?_; refine wp_if_neg (by simp [hnf]) ?_; exact wpAny_pure (wpAny_pure last))
  have hfill : t1.fill = es.size + 1 := by rw [q9, List.length_map, Array.length_toList]
  have g : ∀ r : Bool, wpAny (model P w) A (do
        storeSet a (SetTable.insertAt es (SetTable.below t.place (way t.mask (khash P w k) K)) (khash P w k, Value.ref x)) (if r = true then t1 else { t1 with plain := false })
        if !false && (if r = true then t1 else { t1 with plain := false }).tooFull then setRelay a (SetTable.grown (es.size + 1))
        return true) Q E s := by
    intro r
    cases r with
    | true => exact fin t1 q3 (q4.trans h7) hfill
    | false => exact fin { t1 with plain := false } (tab_plain q3 false) (q4.trans h7) hfill
  by_cases hp : t1.plain = true
  · first
      | (refine wpAny_bind ?_; refine wp_if_pos hp ?_; exact hashBy_k hx g)
      | exact wp_if_pos hp (wpAny_bind (hashBy_k hx g))
  · first
      | (refine wpAny_bind ?_; refine wp_if_neg hp ?_; exact wpAny_pure (g true))
      | exact wp_if_neg hp (wpAny_bind (wpAny_pure (g true)))
theorem small_keep {h h' : Heap} {a : Addr} {L : List (Addr × List Key)} (R : SmallS P w h a L) (k : ∀ b o, h.get? b = some o → h'.get? b = some o) : SmallS P w h' a L := by
  obtain ⟨o, es, ep, t, ho, hex, hd, hsz, hrow, T, h7, tup, h4⟩ := R.ex
  refine ⟨o, es, ep, t, k a o ho, hex, hd, hsz, hrow, T, h7, fun p hp => ?_, h4⟩
  obtain ⟨o', items, n, ho', r⟩ := tup p hp
  exact ⟨o', items, n, k _ _ ho', r⟩
theorem isK_keep {h h' : Heap} {a : Addr} {k : List Key} (R : IsK P w h k a) (kp : ∀ o, h.get? a = some o → h'.get? a = some o) : IsK P w h' k a := by
  obtain ⟨o', items, n, ho', r⟩ := R
  exact ⟨o', items, n, kp _ ho', r⟩
theorem small_fresh {h : Heap} {a : Addr} (ho : h.get? a = some (set0 w)) : SmallS P w h a [] :=
  ⟨_, #[], 0, _, ho, ⟨rfl, rfl, rfl⟩, rfl, rfl, fun i x e => by simp at e, ⟨List.Pairwise.nil, rfl, rfl, .inl rfl, fun x hx => (by cases hx), fun i h j hi => (by simp at hi)⟩, rfl, fun p hp => (by cases hp), by simp⟩
/-- the loop that fills the set -/
theorem small_loop {I S l : Addr} {items : Array Value} {R : Result → Shared → Prop} {h0 : Heap} (hlI : l ≠ I) (hSI : S ≠ I) (hSl : S ≠ l) (hh : A.in1.handled = none) (ks : List (Addr × List Key)) (hit : items.toList = ks.map fun p => Value.ref p.1) (hn : (ks.map (·.2)).Nodup) (h4 : ks.length ≤ 4)
    (hk : ∀ p ∈ ks, IsK P w h0 p.2 p.1 ∧ p.1 ≠ S ∧ p.1 ≠ I) (hu : A.in1.units < cLine) :
    ∀ (rest : List (Addr × List Key)) (i : Nat) (s : Shared) (L : List (Addr × List Key)), ks.drop i = rest → i ≤ ks.length → L.length = i → (∀ p ∈ L, p ∈ ks.take i) → s.heap.IsListIter I l i → s.heap.IsList l items → SmallS P w s.heap S L → (∀ b o, b ≠ S → b ≠ I → h0.get? b = some o → s.heap.get? b = some o) →
      (∀ (s' : Shared) (L : List (Addr × List Key)), s'.gens = s.gens → s'.drawn = s.drawn → s'.os = s.os → SmallS P w s'.heap S L → L.length = ks.length → (∀ b o, b ≠ S → b ≠ I → h0.get? b = some o → s'.heap.get? b = some o) → R (.ok (.ret .none)) s') →
      codeAny (model P w) A (.builtin "set.update.loop" ⟨[.ref S, .ref I], []⟩) R s
  | [], i, s, L, hr, hik, hL, hsub, hi, hl, hS, hkp, hR => by
    have hlen : ks.length ≤ i := by
      have := congrArg List.length hr
      simp at this
      omega
    have hLk : L.length = ks.length := by omega
    refine codeAny_builtin F.entry_set_update_loop ?_
    rw [Around.under_plainId F.plain_set_update_loop _]
    show wpAny _ A.in1 (pyNext (.ref I) >>= _) _ _ s
    have hisz : items.size = ks.length := by
      have q := congrArg List.length hit
      rw [Array.length_toList, List.length_map] at q
      exact q
    refine wpAny_bind (wpAny_pyNext_list_end hh hi hl (by rw [Array.getElem?_eq_none (by omega)]) fun h' he => ?_)
    show wpAny _ A.in1 (ret Value.none) _ _ _
    refine wpAny_pure (hR { s with heap := h' } L rfl rfl rfl ?_ hLk fun b o h1 h2 e => he b o h2 (hkp b o h1 h2 e))
    obtain ⟨o, es, ep, t, ho, hex, hd, hsz, hrow, T, h7, tup, h4⟩ := hS.ex
    refine ⟨o, es, ep, t, he S o hSI ho, hex, hd, hsz, hrow, T, h7, fun p hp => ?_, h4⟩
    exact isK_keep (tup p hp) fun o e => he _ o (hk p (List.mem_of_mem_take (hsub p hp))).2.2 e
  | p :: rest, i, s, L, hr, hik, hL, hsub, hi, hl, hS, hkp, hR => by
    have hlt : i < ks.length := by
      have := congrArg List.length hr
      simp at this
      omega
    have hp : ks[i]? = some p := by
      have := congrArg (fun l => l[0]?) hr
      simpa using this
    have hpm : p ∈ ks := List.mem_of_getElem? hp
    refine codeAny_builtin F.entry_set_update_loop ?_
    rw [Around.under_plainId F.plain_set_update_loop _]
    show wpAny _ A.in1 (pyNext (.ref I) >>= _) _ _ s
    refine wpAny_bind (wpAny_pyNext_list_item (x := .ref p.1) hi hl (by rw [← Array.getElem?_toList, hit, List.getElem?_map, hp]; rfl) fun h1 hit1 hs1 => ?_)
    have hS1 : SmallS P w h1 S L := by
      obtain ⟨o, es, ep, t, ho, hex, hd, hsz, hrow, T, h7, tup, h4⟩ := hS.ex
      refine ⟨o, es, ep, t, hs1.extBut S o hSI ho, hex, hd, hsz, hrow, T, h7, fun p hp => ?_, h4⟩
      exact isK_keep (tup p hp) fun o e => hs1.extBut _ o (hk p (List.mem_of_mem_take (hsub p hp))).2.2 e
    have hx : IsK P w h1 p.2 p.1 := isK_keep (hk p hpm).1 fun o e => hs1.extBut _ o (hk p hpm).2.2 (hkp _ o (hk p hpm).2.1 (hk p hpm).2.2 e)
    have hne : ∀ q ∈ L, q.2 ≠ p.2 := fun q hq z => by
      have hq2 := hsub q hq
      obtain ⟨j, hj, e⟩ := List.getElem_of_mem hq2
      have hji : j < i := by simp at hj; omega
      rw [List.getElem_take] at e
      have hnd := List.pairwise_iff_getElem.mp hn j i (by simp; omega) (by simpa using hlt) hji
      simp only [List.getElem_map] at hnd
      rw [e] at hnd
      have e3 : ks[i] = p := (List.getElem?_eq_some_iff.mp hp).2
      rw [e3] at hnd
      exact hnd z
    show wpAny _ A.in1 (holding [Value.ref p.1] (setAdd S (.ref p.1)) >>= _) _ _ _
    refine wpAny_bind (wpAny_holding ?_)
    unfold setAdd
    refine wpAny_holding ?_
    refine wpAny_bind (wpAny_pyHash_tuple hu hx ?_)
    refine small_add (s := { s with heap := h1, toks := s.toks + (p.2.length + 1) }) hS1 hx hne (by omega) hu fun h2 sb hS2 => ?_
    have hl1 : h1.IsList l items := hl.extBut hs1.extBut hlI
    refine wpAny_pure ⟨plainId_quiet F.plain_set_update_loop _, small_loop hlI hSI hSl hh ks hit hn h4 hk hu rest (i + 1) _ (p :: L) ?_ hlt (by rw [List.length_cons]; omega) (fun q hq => ?_) (hit1.extBut sb.extBut (Ne.symm hSI)) (hl1.extBut sb.extBut (Ne.symm hSl)) hS2 (fun b o h1' h2' e => sb.extBut b o h1' (hs1.extBut b o h2' (hkp b o h1' h2' e))) fun s' L' g d os hS' hL' hk' => hR s' L' g d os hS' hL' hk'⟩
    · have := congrArg List.tail hr
      rw [List.tail_drop] at this
      simpa using this
    · rw [List.take_add_one, hp]
      rcases List.mem_cons.mp hq with e | hq
      · rw [e]; simp
      · exact List.mem_append_left _ (hsub q hq)
end
section
variable {X : Cx}
theorem pe_lenSetT2 {a : Expr} {ta : TE} {p p2 q pos : Pos} (hc : X.calm = true) (hu : X.A.units + 65 < cLine) (hg : Gl X "len") (hm : X.mg "len" = none) (hg2 : Gl X "set") (hm2 : X.mg "set" = none) (ha : PE X a ta)
    (na : starEach [a] X.env = (false, eval a X.env) :: starEach [] X.env := by rfl) : PE X (.Call (.Name "len" p) [.Call (.Name "set" p2) [a] [] q] [] pos) (tLenSetT X.K ta) := by
  refine ⟨fun pins s σ H Q I h => ?_⟩
  refine Call_ (ld_blt I hg hm boot_len ?_)
  refine PyProof.Rows.callWith_builtin1 (PyProof.Rows.args_cons ?_ rfl) rfl rfl
  refine Call_ (ld_blt I hg2 hm2 boot_set ?_)
  refine PyProof.Rows.callWith_type1 (PyProof.Rows.args_cons (thn (ha.run pins s σ H _ I h) fun v s1 ⟨x, H1, I1, r1, q1⟩ => PyProof.Rows.args_nil ?_) na) na rfl
  obtain ⟨l, ts, ks, rfl, hq, hP, hn, h4, q1⟩ := q1
  cases r1
  obtain ⟨its, rv, pl, hz⟩ := I1.list hq
  have hls : l < s1.heap.objs.size := pl.lt
  have hh := I1.ok.hd hc
  have hits := refs_at rv
  subst hits
  have hkl : ts.length = ks.length := Paired.length hP
  have hIs : ∀ p ∈ ts.zip ks, IsK X.prog X.w s1.heap p.2 p.1 := fun p hp => by
    obtain ⟨i, hi, e⟩ := List.getElem_of_mem hp
    have hi2 : i < ts.length := by simp at hi; omega
    obtain ⟨k, hk, hr⟩ := getP hP (List.getElem?_eq_getElem hi2)
    have e2 : p = (ts[i], k) := by
      rw [← e, List.getElem_zip]
      congr 1
      rw [List.getElem?_eq_getElem (by omega)] at hk
      exact Option.some.inj hk
    rw [e2]
    exact key_of I1.hok hr
  refine set_of_list (w := X.w) (items := (ts.map Value.ref).toArray) (fun h' tk => (∃ L, SmallS X.prog X.w h' s1.heap.objs.size L ∧ L.length = ts.length) ∧ ∀ b o, s1.heap.get? b = some o → h'.get? b = some o) hh pl.isList (fun R hR => ?_) fun h' tk ⟨⟨L, hS, hL⟩, hk⟩ => ?_
  · have hI : ((s1.heap.push (set0 X.w)).push { cls := .type "list_iterator", data := .fields #[.ref l, .int 0 0] }).get? (s1.heap.objs.size + 1) = some { cls := .type "list_iterator", data := .fields #[.ref l, .int 0 0] } := by
      have e : (s1.heap.push (set0 X.w)).objs.size = s1.heap.objs.size + 1 := Heap.size_push ..
      rw [← e]
      exact Heap.get?_push_size _ rfl
    have hS0 : ((s1.heap.push (set0 X.w)).push { cls := .type "list_iterator", data := .fields #[.ref l, .int 0 0] }).get? s1.heap.objs.size = some (set0 X.w) := Heap.get?_push_of_some _ (Heap.get?_push_size _ rfl)
    refine small_loop (P := X.prog) (w := X.w) (h0 := s1.heap) (items := (ts.map Value.ref).toArray) (l := l) (Nat.ne_of_lt (Nat.lt_succ_of_lt hls)) (Nat.ne_of_lt (Nat.lt_succ_self _)) (Nat.ne_of_gt hls) (by simp [hh]) (ts.zip ks) ?_ ?_ (by simp; omega) (fun p hp => ⟨hIs p hp, ?_⟩) (by show X.A.units + 3 < cLine; omega) _ 0 _ [] rfl (Nat.zero_le _) rfl (fun _ h => by cases h)
      ⟨_, hI, rfl, rfl⟩ ((pl.isList.push _).push _) (small_fresh hS0) (fun b o _ _ e => Heap.get?_push_of_some _ (Heap.get?_push_of_some _ e)) fun s' L g d os hS hL hk => ?_
    · rw [List.toList_toArray]
      have e : ∀ (ts : List Addr) (ks : List (List Key)), ts.length = ks.length → ts.map Value.ref = (ts.zip ks).map fun p => Value.ref p.1 := by
        intro ts
        induction ts with
        | nil => intro ks _; rfl
        | cons t r ih =>
          intro ks hl
          cases ks with
          | nil => simp at hl
          | cons k ks => rw [List.zip_cons_cons, List.map_cons, List.map_cons, ih ks (by simpa using hl)]
      exact e ts ks hkl
    · have e : (ts.zip ks).map (·.2) = ks := by
        rw [← List.unzip_snd, List.unzip_zip_right (by omega)]
      rw [e]
      exact hn
    · have hlt : p.1 < s1.heap.objs.size := by
        obtain ⟨o, _, _, ho, _⟩ := hIs p hp
        exact Heap.lt_size ho
      exact ⟨Nat.ne_of_lt hlt, Nat.ne_of_lt (Nat.lt_succ_of_lt hlt)⟩
    · refine hR s' g d os ⟨⟨L, hS, by rw [hL, List.length_zip]; omega⟩, fun b o e => ?_⟩
      have hb0 : b < s1.heap.objs.size := Heap.lt_size e
      exact hk b o (Nat.ne_of_lt hb0) (Nat.ne_of_lt (Nat.lt_succ_of_lt hb0)) e
  · refine PyProof.Rows.args_nil ?_
    obtain ⟨o, es, ep, t, ho, hex, hd, hsz, hrow, T, h7, tup, h4'⟩ := hS.ex
    have I2 : Inv X pins σ H1 { s1 with heap := h', toks := tk } := I1.kept hk
    refine call_len_set ho hex hd (fits7 T h7 (by omega)) (by omega) ⟨.int (ts.length : Nat), H1, I2.tok _, ⟨_, by rw [hsz, hL]⟩, q1⟩
end

end PB
namespace PB
open PySem PySem.Spec PyProof.Rows L2
local macro_rules | `(tactic| walk_at "rd") => `(tactic| (repeat refine red ?_))
local macro_rules | `(tactic| walk_at "go") => `(tactic| (repeat (first | refine red ?_ | ((with_reducible apply k_var); rfl) | refine k_new fun _ _ => ?_ | refine wp_and rfl ?_ | refine if_redT rfl ?_ | refine if_redF rfl ?_)))

local macro_rules | `(tactic| walk_at "ext") => `(tactic| (repeat (first | assumption | exact Ext.refl _ | refine Ext.newI ?_ | refine Ext.trans ?_ ‹Ext _ _›)))
local macro_rules | `(tactic| walk_at "rv") => `(tactic| (repeat (first | refine red ?_ | ((with_reducible apply k_var); rfl))))
section
variable {w : World} {K : PySem.W.Frag} {mg : Str → Option Value} {base : Heap}
/-- is_formed of a condition of depth n at most -/
def pFormed (n : Nat) (v deep : V) (H : Hp) (Q : VK) : Prop := ∃ (c : Cond) (d : Nat), CA H c v ∧ c.ok ∧ c.dep ≤ n ∧ d + c.dep ≤ 3 ∧ deep = .int (d : Nat) ∧ ∀ H', Ext H H' → Q (.bl true) H'
def pParts (n : Nat) (word v deep : V) (H : Hp) (Q : VK) : Prop := ∃ (w : Bool) (cs : List Cond) (d : Nat) (p : Addr) (vs : List V), word = .str (wd w) ∧ v = .ref p ∧ H p = some (.tup vs) ∧ CAs H cs vs ∧ Cond.ok (.seq w cs) ∧ depL cs ≤ n ∧ d + depL cs ≤ 3 ∧ deep = .int (d : Nat) ∧ ∀ H', Ext H H' → Q (.bl true) H'
/-- a condition in the heap without the addresses of others -/
theorem lead_at {H : Hp} {c : Cond} {v : V} {k : List Key} (h : CA H c v) (e : c.lead = some k) : ∃ a, v = .ref a ∧ H a = some (.tup (k.map kV)) := by
  cases c with
  | t q =>
    obtain ⟨a, rfl, h⟩ := h
    cases q with
    | row => cases e; exact ⟨a, rfl, h⟩
    | has x => cases e; exact ⟨a, rfl, h⟩
    | eq x v => cases e
    | less x v => cases e
  | not c => cases e
  | seq w cs => cases e
def LeadR (H : Hp) (v : V) (k : List Key) : Prop := ∃ a, v = .ref a ∧ H a = some (.tup (k.map kV))
theorem leads_refs {H : Hp} : ∀ {ys : List V} {ks : List (List Key)}, Each LeadR H ys ks → ∃ ts : List Addr, ys = ts.map V.ref ∧ Paired (fun t (k : List Key) => H t = some (.tup (k.map kV))) ts ks
  | _, _, .nil => ⟨[], rfl, .nil⟩
  | _, _, .cons h t => by
    obtain ⟨a, rfl, ha⟩ := h
    obtain ⟨ts, rfl, p⟩ := leads_refs t
    exact ⟨a :: ts, rfl, .cons ha p⟩
theorem parts_step (n : Nat) (T : Txt w K mg) (c_is_formed : Cal PG w K mg base (5 + 2 * n) "is_formed" (sp2 (pFormed n))) : Cal PG w K mg base (5 + 2 * n + 1) "are_parts" (sp3 (pParts n)) := by
  obtain ⟨fd, F⟩ := T.d_are_parts
  refine cal_mk F T.g_are_parts sc_are_parts (fun _ _ _ _ _ _ us hl => match us, hl with | [_, _, _], _ => rfl) fun cdv A outer s0 H vs Q E hr h => ?_
  obtain ⟨_, _, _, rfl, wb, cs, d, p, vs, rfl, rfl, hp, hC, ⟨ok1, ok2, ok3, ok4⟩, hd1, hd2, rfl, h⟩ := h
  have c_is_lead := (ok_is_lead (base := base) T).mono (show 1 ≤ 5 + 2 * n by omega)
  have hE := CAs.each hC
  have hlen := CAs.len hC
  have : At H p (.tup vs) := ⟨hp⟩
  refine ⟨_, pss_cons (ps_if (PW.pt (pw_or (pt_not (pt_val (pe_callB (call_isiK2 (K := K) rfl) (by rfl) T.f_isinstance (by decide +kernel) (pa_cons (pv 1) (pa_cons (pe_ty (n := "tuple") (by rfl) T.f_tuple (by decide +kernel)) pa_nil))))) (pw_or1 (pt_not (pt_chain op_le op_le (pe_int) (pe_callB (call_lenK (K := K) rfl) (by rfl) T.f_len (by decide +kernel) (pa_cons (pv 1) pa_nil)) (pe_gv rfl T.c_PARTS_AT_MOST)))))) (pss_one (ps_ret (pe_bl))) pss_nil)
      (pss_cons (ps_if (pt_not (pt_val (pe_callB (cr_all rfl) (by rfl) T.f_all (by decide +kernel) (pa_cons (pe_lc (own := [("part", 4)]) rfl sc_are_parts.nd (pi_seq (pv 1)) (blkOk_by (own := [("part", 4)]) (N := ["word", "value", "deep", "leads", "part"]) (sc := defScope S_are_parts) (by decide +kernel)) (fun _ _ _ _ _ => (pg_name (i := 4) sc_are_parts.nd rfl (by first | exact Or.inl rfl | exact Or.inr rfl))) (fun _ _ _ _ _ => pts_nil) (fun _ _ _ _ _ => (pe_cl c_is_formed hr (by first | decide | omega) rfl (pa_cons (pv 4) (pa_cons (pv 2) pa_nil))))) pa_nil)))) (pss_one (ps_ret (pe_bl))) pss_nil)
      (pss_cons (ps_setLc (i := 3) (own := [("part", 4)]) rfl sc_are_parts.nd rfl rfl (sw_true rfl rfl rfl (by decide +kernel)) (pi_seq (pv 1)) (blkOk_by (own := [("part", 4)]) (N := ["word", "value", "deep", "leads", "part"]) (sc := defScope S_are_parts) (by decide +kernel)) (fun _ _ _ _ _ => (pg_name (i := 4) sc_are_parts.nd rfl (by first | exact Or.inl rfl | exact Or.inr rfl))) (fun _ _ _ _ _ => pts_one (pt_val (pe_cl c_is_lead hr (by first | decide | omega) rfl (pa_cons (pv 4) pa_nil)))) (fun _ _ _ _ _ => (pv 4)))
      (pss_one (ps_ret (pe_or (pe_cmpR op_eq (pv 0) (pe_str) (nomark _)) (pe_one (pe_cmpR op_eq (pe_lenSetT2 rfl (hu65 hr) rfl T.f_len rfl T.f_set (pv 3)) (pe_callB (call_lenK (K := K) rfl) (by rfl) T.f_len (by decide +kernel) (pa_cons (pv 3) pa_nil)) (nomark _)))))))), ?_⟩
  refine start_to (σ := [some _, some _, some _, none, none]) rfl ?_
  try dsimp only [cxOf]
  walk_at "go"
  rw [decide_eq_true (show (1 : Int) ≤ (vs.length : Nat) by omega)]
  walk_at "go"
  rw [decide_eq_true (show ((vs.length : Nat) : Int) ≤ 6 by omega)]
  walk_at "go"
  refine lc_ds cs (fun _ => some true) (VR V.bl) (fun _ h => h) hlen (by show vs.length ≤ 2 ^ 24; omega) ?_ ?_
  · intro i x c H1 H2 D hc e1 nD hA hy N1 N2 k1 k2
    obtain ⟨rfl, hx⟩ := hy
    obtain ⟨c', hc', hR⟩ := getP hE hx
    rw [hc] at hc'
    cases hc'
    walk_at "go"
    refine ⟨c, d, CA.mono e1 c x hR, okL_get ok4 hc, by have := depL_get hc; omega, by have := depL_get hc; omega, rfl, fun H' e => ?_⟩
    exact k1 _ _ true e rfl rfl
  · intro D H1 ys nD e1 hD hE1
    walk_at "go"
    refine all_true hD ?_ ?_
    · rw [each_val hE1]
      intro v m
      obtain ⟨b, hb, rfl⟩ := List.mem_map.mp m
      obtain ⟨i, _, e⟩ := List.mem_filterMap.mp hb
      cases e
      rfl
    · walk_at "go"
      refine lc_ds cs Cond.lead LeadR (fun e ⟨a, h1, h2⟩ => ⟨a, h1, e.at h2⟩) hlen (by show vs.length ≤ 2 ^ 24; omega) ?_ ?_
      · intro i x c H2 H3 D2 hc e2 nD2 hA hy N1 N2 k1 k2
        obtain ⟨rfl, hx⟩ := hy
        obtain ⟨c', hc', hR⟩ := getP hE hx
        rw [hc] at hc'
        cases hc'
        have : CndAt H3 x c := ⟨CA.mono (e1.trans e2) c x hR⟩
        walk_at "go"
        intro H4 e4
        cases hl : c.lead with
        | none =>
          walk_at "go"
          exact k2 H4 e4 hl
        | some k =>
          walk_at "go"
          obtain ⟨a, rfl, ha⟩ := lead_at (CA.mono ((e1.trans e2).trans e4) c x hR) hl
          obtain ⟨acc, hA⟩ := hA
          exact k1 _ _ k e4 hl ⟨a, rfl, Hid.at ha (ne_of_at ha (e4.at hA) fun z => nomatch z)⟩
      · intro D2 H2 ys2 nD2 e2 hD2 hE2
        have hE3 : Each LeadR H2 ys2 (cs.filterMap Cond.lead) := hE2.mono fun v k ⟨a, x, y⟩ => ⟨a, x, (Hid.sub _ _).at y⟩
        obtain ⟨ts, rfl, hts⟩ := leads_refs hE3
        have : At H2 D2 (.lst (ts.map V.ref)) := ⟨hD2⟩
        cases wb with
        | false =>
          rw [show wd false = "any" from rfl]
          walk_at "go"
          exact h _ (e1.trans e2)
        | true =>
          rw [show wd true = "all" from rfl]
          walk_at "go"
          refine ⟨D2, ts, _, rfl, SqL.of hD2, hts, ok3 rfl, ?_, ?_⟩
          · have := Paired.length hts
            have h3 := List.length_filterMap_le Cond.lead cs
            omega
          · walk_at "go"
            rw [show (List.map V.ref ts).length = ts.length by simp]
            rw [decide_eq_true (rfl : ((ts.length : Nat) : Int) = (ts.length : Nat))]
            exact h _ (e1.trans e2)
theorem tst_word {t : Tst} {H : Hp} {a : Addr} (h : H a = some (.tup t.vs)) : ∃ r, At H a (.tup (.str t.word :: r)) := by
  cases t <;> exact ⟨_, ⟨h⟩⟩
theorem formed0 (T : Txt w K mg) : Cal PG w K mg base (4 + 1) "is_formed" (sp2 (pFormed 0)) := by
  obtain ⟨fd, F⟩ := T.d_is_formed
  refine cal_mk F T.g_is_formed sc_is_formed (fun _ _ _ _ _ _ us hl => match us, hl with | [_, _], _ => rfl) fun cdv A outer s0 H vs Q E hr h => ?_
  obtain ⟨_, _, rfl, c, d, hc, ok, hd, hd2, rfl, h⟩ := h
  have c_is_test := (ok_is_test (base := base) T)
  refine ⟨_, pss_cons (ps_if (PW.pt (pw_or (pt_not (pt_val (pe_callB (call_isiK2 (K := K) rfl) (by rfl) T.f_isinstance (by decide +kernel) (pa_cons (pv 0) (pa_cons (pe_ty (n := "tuple") (by rfl) T.f_tuple (by decide +kernel)) pa_nil))))) (pw_or (pt_cmpR op_eq (pe_callB (call_lenK (K := K) rfl) (by rfl) T.f_len (by decide +kernel) (pa_cons (pv 0) pa_nil)) (pe_int) (nomark _)) (pw_or1 (pt_not (pt_val (pe_callB (call_isiK2 (K := K) rfl) (by rfl) T.f_isinstance (by decide +kernel) (pa_cons (pe_ix (ix_anyK (K := K) rfl) (pv 0) (pe_int) (fun _ _ => rfl)) (pa_cons (pe_ty (n := "str") (by rfl) T.f_str (by decide +kernel)) pa_nil))))))))) (pss_one (ps_ret (pe_bl))) pss_nil)
      (pss_cons (ps_if (pt_cmpR (op_inK (K := K) rfl) (pe_ix (ix_anyK (K := K) rfl) (pv 0) (pe_int) (fun _ _ => rfl)) (pe_gv rfl T.c_TESTS) (by rfl)) (pss_one (ps_ret (pe_cl c_is_test hr (by first | decide | omega) rfl (pa_cons (pv 0) pa_nil)))) pss_nil)
      (pss_cons (ps_if (PW.pt (pw_or (pt_cmpR op_eq (pv 1) (pe_gv rfl T.c_MOST_DEEP) (nomark _)) (pw_or1 (pt_cmpR op_ne (pe_callB (call_lenK (K := K) rfl) (by rfl) T.f_len (by decide +kernel) (pa_cons (pv 0) pa_nil)) (pe_int) (nomark _))))) (pss_one (ps_ret (pe_bl))) pss_nil)
      (pss_cons (ps_if (pt_cmpR op_eq (pe_ix (ix_anyK (K := K) rfl) (pv 0) (pe_int) (fun _ _ => rfl)) (pe_str) (nomark _)) (pss_one (ps_ret (pe_never))) pss_nil)
      (pss_one (ps_ret (pe_and (pe_cmpR (op_inK (K := K) rfl) (pe_ix (ix_anyK (K := K) rfl) (pv 0) (pe_int) (fun _ _ => rfl)) (pe_tup (pa_cons (pe_str) (pa_cons (pe_str) pa_nil))) (by rfl)) (pe_one (pe_never)))))))), ?_⟩
  refine start_to (σ := [some _, some _]) rfl ?_
  try dsimp only [cxOf]
  cases c with
  | t q =>
    obtain ⟨a, rfl, ha⟩ := hc
    cases q with
    | row =>
      have : At H a (.tup [.str "row"]) := ⟨ha⟩
      walk_at "go"
      exact ⟨a, .row, rfl, ha, ok, h⟩
    | has x =>
      have : At H a (.tup [.str "has", .str x]) := ⟨ha⟩
      walk_at "go"
      exact ⟨a, .has x, rfl, ha, ok, h⟩
    | eq x v =>
      have : At H a (.tup [.str "eq", .str x, .int v]) := ⟨ha⟩
      walk_at "go"
      exact ⟨a, .eq x v, rfl, ha, ok, h⟩
    | less x v =>
      have : At H a (.tup [.str "less", .str x, .int v]) := ⟨ha⟩
      walk_at "go"
      exact ⟨a, .less x v, rfl, ha, ok, h⟩
  | not c => simp [Cond.dep] at hd
  | seq w cs => simp [Cond.dep] at hd
theorem formedS (n : Nat) (T : Txt w K mg) (c_is_formed : Cal PG w K mg base (5 + 2 * n) "is_formed" (sp2 (pFormed n))) : Cal PG w K mg base (5 + 2 * n + 1 + 1) "is_formed" (sp2 (pFormed (n + 1))) := by
  have c_are_parts := parts_step n T c_is_formed
  have c_is_test := (ok_is_test (base := base) T).mono (show 4 ≤ 5 + 2 * n + 1 by omega)
  obtain ⟨fd, F⟩ := T.d_is_formed
  refine cal_mk F T.g_is_formed sc_is_formed (fun _ _ _ _ _ _ us hl => match us, hl with | [_, _], _ => rfl) fun cdv A outer s0 H vs Q E hr h => ?_
  obtain ⟨_, _, rfl, c, d, hc, ok, hd, hd2, rfl, h⟩ := h
  refine ⟨_, pss_cons (ps_if (PW.pt (pw_or (pt_not (pt_val (pe_callB (call_isiK2 (K := K) rfl) (by rfl) T.f_isinstance (by decide +kernel) (pa_cons (pv 0) (pa_cons (pe_ty (n := "tuple") (by rfl) T.f_tuple (by decide +kernel)) pa_nil))))) (pw_or (pt_cmpR op_eq (pe_callB (call_lenK (K := K) rfl) (by rfl) T.f_len (by decide +kernel) (pa_cons (pv 0) pa_nil)) (pe_int) (nomark _)) (pw_or1 (pt_not (pt_val (pe_callB (call_isiK2 (K := K) rfl) (by rfl) T.f_isinstance (by decide +kernel) (pa_cons (pe_ix (ix_anyK (K := K) rfl) (pv 0) (pe_int) (fun _ _ => rfl)) (pa_cons (pe_ty (n := "str") (by rfl) T.f_str (by decide +kernel)) pa_nil))))))))) (pss_one (ps_ret (pe_bl))) pss_nil)
      (pss_cons (ps_if (pt_cmpR (op_inK (K := K) rfl) (pe_ix (ix_anyK (K := K) rfl) (pv 0) (pe_int) (fun _ _ => rfl)) (pe_gv rfl T.c_TESTS) (by rfl)) (pss_one (ps_ret (pe_cl c_is_test hr (by first | decide | omega) rfl (pa_cons (pv 0) pa_nil)))) pss_nil)
      (pss_cons (ps_if (PW.pt (pw_or (pt_cmpR op_eq (pv 1) (pe_gv rfl T.c_MOST_DEEP) (nomark _)) (pw_or1 (pt_cmpR op_ne (pe_callB (call_lenK (K := K) rfl) (by rfl) T.f_len (by decide +kernel) (pa_cons (pv 0) pa_nil)) (pe_int) (nomark _))))) (pss_one (ps_ret (pe_bl))) pss_nil)
      (pss_cons (ps_if (pt_cmpR op_eq (pe_ix (ix_anyK (K := K) rfl) (pv 0) (pe_int) (fun _ _ => rfl)) (pe_str) (nomark _)) (pss_one (ps_ret (pe_cl c_is_formed hr (by first | decide | omega) rfl (pa_cons (pe_ix (ix_anyK (K := K) rfl) (pv 0) (pe_int) (fun _ _ => rfl)) (pa_cons (pe_op op_add (pv 1) (pe_int)) pa_nil))))) pss_nil)
      (pss_one (ps_ret (pe_and (pe_cmpR (op_inK (K := K) rfl) (pe_ix (ix_anyK (K := K) rfl) (pv 0) (pe_int) (fun _ _ => rfl)) (pe_tup (pa_cons (pe_str) (pa_cons (pe_str) pa_nil))) (by rfl)) (pe_one (pe_cl c_are_parts hr (by first | decide | omega) rfl (pa_cons (pe_ix (ix_anyK (K := K) rfl) (pv 0) (pe_int) (fun _ _ => rfl)) (pa_cons (pe_ix (ix_anyK (K := K) rfl) (pv 0) (pe_int) (fun _ _ => rfl)) (pa_cons (pe_op op_add (pv 1) (pe_int)) pa_nil))))))))))), ?_⟩
  refine start_to (σ := [some _, some _]) rfl ?_
  try dsimp only [cxOf]
  cases c with
  | t q =>
    obtain ⟨a, rfl, ha⟩ := hc
    cases q with
    | row =>
      have : At H a (.tup [.str "row"]) := ⟨ha⟩
      walk_at "go"
      exact ⟨a, .row, rfl, ha, ok, h⟩
    | has x =>
      have : At H a (.tup [.str "has", .str x]) := ⟨ha⟩
      walk_at "go"
      exact ⟨a, .has x, rfl, ha, ok, h⟩
    | eq x v =>
      have : At H a (.tup [.str "eq", .str x, .int v]) := ⟨ha⟩
      walk_at "go"
      exact ⟨a, .eq x v, rfl, ha, ok, h⟩
    | less x v =>
      have : At H a (.tup [.str "less", .str x, .int v]) := ⟨ha⟩
      walk_at "go"
      exact ⟨a, .less x v, rfl, ha, ok, h⟩
  | not c =>
    obtain ⟨a, b, rfl, ha, hb⟩ := hc
    have : At H a (.tup [.str "not", b]) := ⟨ha⟩
    simp only [Cond.dep] at hd hd2
    walk_at "go"
    rw [decide_eq_false (show ¬ ((d : Nat) : Int) = 3 by omega)]
    walk_at "go"
    exact ⟨c, d + 1, hb, ok, by omega, by omega, by simp, h⟩
  | seq wb cs =>
    obtain ⟨a, p, vs, rfl, ha, hp, hC⟩ := hc
    simp only [Cond.dep] at hd hd2
    cases wb with
    | true =>
      have : At H a (.tup [.str "all", .ref p]) := ⟨ha⟩
      walk_at "go"
      rw [decide_eq_false (show ¬ ((d : Nat) : Int) = 3 by omega)]
      walk_at "go"
      refine ⟨true, cs, d + 1, p, vs, rfl, rfl, Ext.at (by walk_at "ext") hp, CAs.mono (by walk_at "ext") cs vs hC, ok, by omega, by omega, by simp, ?_⟩
      intro H' e
      exact h _ (by walk_at "ext")
    | false =>
      have : At H a (.tup [.str "any", .ref p]) := ⟨ha⟩
      walk_at "go"
      rw [decide_eq_false (show ¬ ((d : Nat) : Int) = 3 by omega)]
      walk_at "go"
      refine ⟨false, cs, d + 1, p, vs, rfl, rfl, Ext.at (by walk_at "ext") hp, CAs.mono (by walk_at "ext") cs vs hC, ok, by omega, by omega, by simp, ?_⟩
      intro H' e
      exact h _ (by walk_at "ext")
theorem ok_is_formed (n : Nat) (T : Txt w K mg) : Cal PG w K mg base (5 + 2 * n) "is_formed" (sp2 (pFormed n)) := by
  induction n with
  | zero => exact formed0 T
  | succ n ih => exact formedS n T ih
/-! a condition stands though a list is hidden -/
mutual
theorem CA_hid {H : Hp} {D : Addr} {xs : List V} : ∀ {c : Cond} {v : V}, CA H c v → H D = some (.lst xs) → CA (Hid D H) c v
  | .t q, v, h, hD => by
    obtain ⟨a, rfl, h⟩ := h
    exact ⟨a, rfl, Hid.at h (ne_of_at h hD fun z => nomatch z)⟩
  | .not c, v, h, hD => by
    obtain ⟨a, b, rfl, h, h2⟩ := h
    exact ⟨a, b, rfl, Hid.at h (ne_of_at h hD fun z => nomatch z), CA_hid h2 hD⟩
  | .seq w cs, v, h, hD => by
    obtain ⟨a, p, vs, rfl, h, h2, h3⟩ := h
    exact ⟨a, p, vs, rfl, Hid.at h (ne_of_at h hD fun z => nomatch z), Hid.at h2 (ne_of_at h2 hD fun z => nomatch z), CAs_hid h3 hD⟩
theorem CAs_hid {H : Hp} {D : Addr} {xs : List V} : ∀ {cs : List Cond} {vs : List V}, CAs H cs vs → H D = some (.lst xs) → CAs (Hid D H) cs vs
  | [], vs, h, _ => h
  | c :: cs, vs, h, hD => by
    obtain ⟨v, r, rfl, h, h2⟩ := h
    exact ⟨v, r, rfl, CA_hid h hD, CAs_hid h2 hD⟩
end
/-! tests_in -/
def Cond.parts : Cond → List Cond
  | .t _ => []
  | .not c => [c]
  | .seq _ cs => cs
def pPartsOf (v : V) (H : Hp) (Q : VK) : Prop := ∃ c, CA H c v ∧ (∀ q, c ≠ .t q) ∧ ∀ p vs H', Ext H H' → H' p = some (.tup vs) → CAs H' c.parts vs → Q (.ref p) H'
theorem ok_parts_of  (T : Txt w K mg) : Cal PG w K mg base (0 + 1) "parts_of" (sp1 pPartsOf) := by
  obtain ⟨fd, F⟩ := T.d_parts_of
  refine cal_mk F T.g_parts_of sc_parts_of (fun _ _ _ _ _ _ us hl => match us, hl with | [_], _ => rfl) fun cdv A outer s0 H vs Q E hr h => ?_
  obtain ⟨_, rfl, c, hc, hn, h⟩ := h
  refine ⟨_, pss_cons (ps_if (pt_cmpR (op_inK (K := K) rfl) (pe_ix (ix_anyK (K := K) rfl) (pv 0) (pe_int) (fun _ _ => rfl)) (pe_gv rfl T.c_TESTS) (by rfl)) (pss_one (ps_ret (pe_tup pa_nil))) pss_nil)
      (pss_one (ps_ret (pe_ifExp (pt_cmpR op_eq (pe_ix (ix_anyK (K := K) rfl) (pv 0) (pe_int) (fun _ _ => rfl)) (pe_str) (nomark _)) (pe_tup (pa_cons (pe_ix (ix_anyK (K := K) rfl) (pv 0) (pe_int) (fun _ _ => rfl)) pa_nil)) (pe_ix (ix_anyK (K := K) rfl) (pv 0) (pe_int) (fun _ _ => rfl))))), ?_⟩
  refine start_to (σ := [some _]) rfl ?_
  try dsimp only [cxOf]
  cases c with
  | t q => exact absurd rfl (hn q)
  | not c =>
    obtain ⟨a, b, rfl, ha, hb⟩ := hc
    have : At H a (.tup [.str "not", b]) := ⟨ha⟩
    walk_at "go"
    exact h _ _ _ (by walk_at "ext") upd_same ⟨b, [], rfl, CA.mono (by walk_at "ext") c b hb, rfl⟩
  | seq wb cs =>
    obtain ⟨a, p, vs, rfl, ha, hp, hC⟩ := hc
    cases wb with
    | true =>
      have : At H a (.tup [.str "all", .ref p]) := ⟨ha⟩
      walk_at "go"
      exact h p vs H (Ext.refl _) hp hC
    | false =>
      have : At H a (.tup [.str "any", .ref p]) := ⟨ha⟩
      walk_at "go"
      exact h p vs H (Ext.refl _) hp hC
/-- tests_in -/
def pTests (n : Nat) (v : V) (H : Hp) (Q : VK) : Prop := ∃ c, CA H c v ∧ c.dep ≤ n ∧ c.ts.length ≤ 1000 ∧ ∀ r vs H', Ext H H' → New H r → H' r = some (.lst vs) → Each TstR H' vs c.ts → Q (.ref r) H'
theorem TstR.hid {H : Hp} {v : V} {t : Tst} {D : Addr} {xs : List V} (h : TstR H v t) (hD : H D = some (.lst xs)) : TstR (Hid D H) v t := by
  obtain ⟨a, x, y⟩ := h
  exact ⟨a, x, Hid.at y (ne_of_at y hD fun z => nomatch z)⟩
theorem tests0 (T : Txt w K mg) : Cal PG w K mg base (1 + 1) "tests_in" (sp1 (pTests 0)) := by
  obtain ⟨fd, F⟩ := T.d_tests_in
  refine cal_mk F T.g_tests_in sc_tests_in (fun _ _ _ _ _ _ us hl => match us, hl with | [_], _ => rfl) fun cdv A outer s0 H vs Q E hr h => ?_
  obtain ⟨_, rfl, c, hc, hd, hl, h⟩ := h
  have c_parts_of := (ok_parts_of (base := base) T)
  refine ⟨_, pss_cons (ps_if (pt_cmpR (op_inK (K := K) rfl) (pe_ix (ix_anyK (K := K) rfl) (pv 0) (pe_int) (fun _ _ => rfl)) (pe_gv rfl T.c_TESTS) (by rfl)) (pss_one (ps_ret (pe_lst (pa_cons (pv 0) pa_nil)))) pss_nil)
      (pss_cons (ps_set (i := 1) sc_tests_in.nd rfl (by first | exact Or.inl rfl | exact Or.inr rfl) (pe_lst pa_nil))
      (pss_cons (ps_for PassesOwn.never rfl (pi_seq (pe_cl c_parts_of hr (by first | decide | omega) rfl (pa_cons (pv 0) pa_nil))) (pg_name (i := 2) sc_tests_in.nd rfl (by first | exact Or.inl rfl | exact Or.inr rfl)) (pss_one (ps_expr (pe_bm PySem.F.plainAttrs_list PySem.F.slot_list_extend PySem.F.type_list_extend mt_extend (pv 1) (pa_cons (pe_never) pa_nil)))))
      (pss_one (ps_ret (pv 1))))), ?_⟩
  refine start_to (σ := [some _, none, none]) rfl ?_
  try dsimp only [cxOf]
  cases c with
  | t q =>
    obtain ⟨a, rfl, ha⟩ := hc
    cases q with
    | row =>
      have : At H a (.tup [.str "row"]) := ⟨ha⟩
      walk_at "go"
      exact h _ _ _ (by walk_at "ext") (by assumption) upd_same (.cons ⟨a, rfl, At.h⟩ .nil)
    | has x =>
      have : At H a (.tup [.str "has", .str x]) := ⟨ha⟩
      walk_at "go"
      exact h _ _ _ (by walk_at "ext") (by assumption) upd_same (.cons ⟨a, rfl, At.h⟩ .nil)
    | eq x v =>
      have : At H a (.tup [.str "eq", .str x, .int v]) := ⟨ha⟩
      walk_at "go"
      exact h _ _ _ (by walk_at "ext") (by assumption) upd_same (.cons ⟨a, rfl, At.h⟩ .nil)
    | less x v =>
      have : At H a (.tup [.str "less", .str x, .int v]) := ⟨ha⟩
      walk_at "go"
      exact h _ _ _ (by walk_at "ext") (by assumption) upd_same (.cons ⟨a, rfl, At.h⟩ .nil)
  | not c => simp [Cond.dep] at hd
  | seq w cs => simp [Cond.dep] at hd
theorem tsL_parts {c : Cond} (h : ∀ q, c ≠ .t q) : c.ts = tsL c.parts := by
  cases c with
  | t q => exact absurd rfl (h q)
  | not c => show c.ts = c.ts ++ []; rw [List.append_nil]
  | seq w cs => rfl
theorem dep_parts {c d : Cond} {i : Nat} (h : c.parts[i]? = some d) : d.dep + 1 ≤ c.dep := by
  cases c with
  | t q => simp [Cond.parts] at h
  | not c =>
    cases i with
    | zero => simp [Cond.parts] at h; subst h; simp [Cond.dep]
    | succ i => simp [Cond.parts] at h
  | seq w cs =>
    have := depL_get h
    simp [Cond.dep]
    exact this
theorem tsL_app : ∀ {cs ds : List Cond}, tsL (cs ++ ds) = tsL cs ++ tsL ds
  | [], _ => rfl
  | c :: cs, ds => by
    show c.ts ++ tsL (cs ++ ds) = (c.ts ++ tsL cs) ++ tsL ds
    rw [tsL_app, List.append_assoc]
theorem tsL_take {cs : List Cond} {i : Nat} {c : Cond} (h : cs[i]? = some c) : tsL (cs.take (i + 1)) = tsL (cs.take i) ++ c.ts := by
  rw [List.take_add_one, h, tsL_app]
  show _ ++ (c.ts ++ []) = _
  rw [List.append_nil]
theorem tsL_len_take {cs : List Cond} {i : Nat} : (tsL (cs.take i)).length ≤ (tsL cs).length := by
  have e : tsL cs = tsL (cs.take i) ++ tsL (cs.drop i) := by rw [← tsL_app, List.take_append_drop]
  rw [e, List.length_append]
  omega
theorem ts_get_len {cs : List Cond} {i : Nat} {c : Cond} (h : cs[i]? = some c) : (tsL (cs.take i)).length + c.ts.length ≤ (tsL cs).length := by
  have := tsL_len_take (cs := cs) (i := i + 1)
  rw [tsL_take h, List.length_append] at this
  exact this
/-- a word that is no test's -/
theorem CA.notT {H : Hp} {c : Cond} {v : V} (h : CA H c v) (hn : ∀ q, c ≠ .t q) : ∃ a b, v = .ref a ∧ (H a = some (.tup [.str "not", b]) ∨ H a = some (.tup [.str "all", b]) ∨ H a = some (.tup [.str "any", b])) := by
  cases c with
  | t q => exact absurd rfl (hn q)
  | not c =>
    obtain ⟨a, b, rfl, ha, hb⟩ := h
    exact ⟨a, b, rfl, .inl ha⟩
  | seq w cs =>
    obtain ⟨a, p, vs, rfl, ha, _⟩ := h
    cases w with
    | true => exact ⟨a, _, rfl, .inr (.inl ha)⟩
    | false => exact ⟨a, _, rfl, .inr (.inr ha)⟩
theorem testsS (n : Nat) (T : Txt w K mg) (c_tests_in : Cal PG w K mg base (2 + n) "tests_in" (sp1 (pTests n))) : Cal PG w K mg base (2 + n + 1) "tests_in" (sp1 (pTests (n + 1))) := by
  have c_parts_of := (ok_parts_of (base := base) T).mono (show 1 ≤ 2 + n by omega)
  obtain ⟨fd, F⟩ := T.d_tests_in
  refine cal_mk F T.g_tests_in sc_tests_in (fun _ _ _ _ _ _ us hl => match us, hl with | [_], _ => rfl) fun cdv A outer s0 H vs Q E hr h => ?_
  obtain ⟨_, rfl, c, hc, hd, hl, h⟩ := h
  refine ⟨_, pss_cons (ps_if (pt_cmpR (op_inK (K := K) rfl) (pe_ix (ix_anyK (K := K) rfl) (pv 0) (pe_int) (fun _ _ => rfl)) (pe_gv rfl T.c_TESTS) (by rfl)) (pss_one (ps_ret (pe_lst (pa_cons (pv 0) pa_nil)))) pss_nil)
      (pss_cons (ps_set (i := 1) sc_tests_in.nd rfl (by first | exact Or.inl rfl | exact Or.inr rfl) (pe_lst pa_nil))
      (pss_cons (ps_for PassesOwn.never rfl (pi_seq (pe_cl c_parts_of hr (by first | decide | omega) rfl (pa_cons (pv 0) pa_nil))) (pg_name (i := 2) sc_tests_in.nd rfl (by first | exact Or.inl rfl | exact Or.inr rfl)) (pss_one (ps_expr (pe_bm PySem.F.plainAttrs_list PySem.F.slot_list_extend PySem.F.type_list_extend mt_extend (pv 1) (pa_cons (pe_cl c_tests_in hr (by first | decide | omega) rfl (pa_cons (pv 2) pa_nil)) pa_nil)))))
      (pss_one (ps_ret (pv 1))))), ?_⟩
  refine start_to (σ := [some _, none, none]) rfl ?_
  try dsimp only [cxOf]
  have goal2 : ∀ (a : Addr), (∃ r, At H a (.tup (.str c.word :: r))) → (∀ q, c ≠ .t q) → CA H c (.ref a) → ∀ (f : Addr), New H f → pPartsOf (.ref a) (upd H f (.lst [])) (fun x H1 => kSeq K x H1
      (kFor (gName 2) (tDrop (tBM K "list" rExtend (tVar 1) (tCons (tCl (sp1 (pTests n)) (tCons (tVar 2) tNil)) tNil)))
        ({ nx := tRet (tVar 1) ({ nx := fun x H' => Q V.non H', rt := Q } : Ends), rt := Q } : Ends)
        ([some (V.ref a), none, none].set 1 (some (V.ref f))))) := by
    intro a ha hn hc f hf
    refine ⟨c, CA.mono (by walk_at "ext") c _ hc, hn, fun p vs H1 e1 hp hC => ?_⟩
    have : At H1 p (.tup vs) := ⟨hp⟩
    have hE := CAs.each hC
    have hlen := CAs.len hC
    rw [tsL_parts hn] at hl h
    have hf1 : H1 f = some (.lst []) := e1.at upd_same
    have hpf : p ≠ f := ne_of_at hp hf1 fun z => nomatch z
    walk_at "go"
    refine for_go (fun i σ' H' => (∃ x, σ' = [some (V.ref a), some (V.ref f), x]) ∧ Ext (Hid f H1) H' ∧ Ext H H' ∧ ∃ acc, H' f = some (.lst acc) ∧ Each TstR (Hid f H') acc (tsL (c.parts.take i))) ⟨⟨_, rfl⟩, Hid.sub f H1, Ext.trans (by walk_at "ext") e1, [], hf1, .nil⟩ (fun i σ' H' _ q => sub_at hp (q.2.1.at (Hid.at hp hpf))) ?_ ?_
    · rintro i x σ' H2 H3 hi ⟨⟨x0, rfl⟩, e2, e0, acc, hacc, hE2⟩ ⟨rfl, hx⟩
      obtain ⟨d, hd2, hR⟩ := getP hE hx
      have hdep := dep_parts hd2
      have htl := ts_get_len hd2
      have hal := hE2.len
      have hR2 : CA H3 d x := CA.mono (e2) d x (CA_hid hR hf1)
      have : At H3 f (.lst acc) := ⟨hacc⟩
      walk_at "go"
      refine ⟨d, hR2, by omega, by omega, fun r vs2 H4 e4 nr hr hE4 => ?_⟩
      have : At H4 r (.lst vs2) := ⟨hr⟩
      have hvl := hE4.len
      walk_at "go"
      refine ⟨by show acc.length + vs2.length ≤ 2 ^ 24; omega, ?_⟩
      walk_at "go"
      have hf4 : H4 f = some (.lst acc) := e4.at hacc
      refine ⟨⟨_, rfl⟩, ?_, Ext.mut (e0.trans e4) hf.h, _, upd_same, ?_⟩
      · exact Ext.mut (e2.trans e4) (by unfold Hid; rw [if_pos rfl])
      · rw [Hid.upd, tsL_take hd2]
        exact Each.append (Paired.mapP hE2 fun v t q => TstR.mono (Hid.mono e4) q) (Paired.mapP hE4 fun v t q => TstR.hid q hf4)
    · rintro σ' H2 ⟨⟨x0, rfl⟩, e2, e0, acc, hacc, hE2⟩
      walk_at "go"
      rw [List.take_of_length_le (by omega)] at hE2
      exact h f acc H2 e0 hf hacc (Paired.mapP hE2 fun v t q => TstR.mono (Hid.sub _ _) q)
  cases c with
  | t q =>
    obtain ⟨a, rfl, ha⟩ := hc
    cases q with
    | row =>
      have : At H a (.tup [.str "row"]) := ⟨ha⟩
      walk_at "go"
      exact h _ _ _ (by walk_at "ext") (by assumption) upd_same (.cons ⟨a, rfl, At.h⟩ .nil)
    | has x =>
      have : At H a (.tup [.str "has", .str x]) := ⟨ha⟩
      walk_at "go"
      exact h _ _ _ (by walk_at "ext") (by assumption) upd_same (.cons ⟨a, rfl, At.h⟩ .nil)
    | eq x v =>
      have : At H a (.tup [.str "eq", .str x, .int v]) := ⟨ha⟩
      walk_at "go"
      exact h _ _ _ (by walk_at "ext") (by assumption) upd_same (.cons ⟨a, rfl, At.h⟩ .nil)
    | less x v =>
      have : At H a (.tup [.str "less", .str x, .int v]) := ⟨ha⟩
      walk_at "go"
      exact h _ _ _ (by walk_at "ext") (by assumption) upd_same (.cons ⟨a, rfl, At.h⟩ .nil)
  | not c =>
    obtain ⟨a, b, rfl, ha, hb⟩ := id hc
    have hat : At H a (.tup [.str "not", b]) := ⟨ha⟩
    walk_at "go"
    exact goal2 a ⟨_, hat⟩ (fun q z => nomatch z) hc _ (by assumption)
  | seq wb cs =>
    obtain ⟨a, p, vs, rfl, ha, hp, hC⟩ := id hc
    cases wb with
    | true =>
      have hat : At H a (.tup [.str "all", .ref p]) := ⟨ha⟩
      walk_at "go"
      exact goal2 a ⟨_, hat⟩ (fun q z => nomatch z) hc _ (by assumption)
    | false =>
      have hat : At H a (.tup [.str "any", .ref p]) := ⟨ha⟩
      walk_at "go"
      exact goal2 a ⟨_, hat⟩ (fun q z => nomatch z) hc _ (by assumption)
theorem ok_tests_in (n : Nat) (T : Txt w K mg) : Cal PG w K mg base (2 + n) "tests_in" (sp1 (pTests n)) := by
  induction n with
  | zero => exact tests0 T
  | succ n ih => exact testsS n T ih
end

end PB
namespace PB
open PySem PySem.Spec PyProof.Rows L2
local macro_rules | `(tactic| walk_at "rd") => `(tactic| (repeat refine red ?_))
local macro_rules | `(tactic| walk_at "go") => `(tactic| (repeat (first | refine red ?_ | ((with_reducible apply k_var); rfl) | refine k_new fun _ _ => ?_ | refine wp_and rfl ?_ | refine if_redT rfl ?_ | refine if_redF rfl ?_)))

local macro_rules | `(tactic| walk_at "ext") => `(tactic| (repeat (first | assumption | exact Ext.refl _ | refine Ext.newI ?_ | refine Ext.trans ?_ ‹Ext _ _›)))
local macro_rules | `(tactic| walk_at "rv") => `(tactic| (repeat (first | refine red ?_ | ((with_reducible apply k_var); rfl))))
def nameAcc (acc : List Str) (t : Tst) : List Str := match t.name with
  | none => acc
  | some x => if x ∈ acc then acc else acc ++ [x]
def namesOf (ts : List Tst) : List Str := ts.foldl nameAcc []
def valAcc (acc : List Int) (t : Tst) : List Int := match t.val with
  | none => acc
  | some x => if x ∈ acc then acc else acc ++ [x]
def valsOf (ts : List Tst) : List Int := ts.foldl valAcc []
theorem putB_keys {κ β : Type} [DecidableEq κ] {g : κ → Key} (hg : ∀ a b, g a = g b → a = b) {kvs : List (Key × β)} {ks : List κ} {k : κ} {b : β} (h : kvs.map (·.1) = ks.map g) : (putB kvs (g k) b).map (·.1) = (if k ∈ ks then ks else ks ++ [k]).map g := by
  have e : (kvs.any fun kv => decide (kv.1 = g k)) = decide (k ∈ ks) := by
    rw [Bool.eq_iff_iff, List.any_eq_true, decide_eq_true_iff]
    constructor
    · rintro ⟨p, hp, hq⟩
      have : p.1 ∈ ks.map g := by rw [← h]; exact List.mem_map_of_mem hp
      obtain ⟨a, ha, e⟩ := List.mem_map.mp this
      have e2 : a = k := hg a k (by rw [e]; simpa using hq)
      rw [← e2]; exact ha
    · intro hk
      have : g k ∈ kvs.map (·.1) := by rw [h]; exact List.mem_map_of_mem hk
      obtain ⟨p, hp, e⟩ := List.mem_map.mp this
      exact ⟨p, hp, by simpa using e⟩
  unfold putB
  rw [e]
  by_cases hk : k ∈ ks
  · rw [if_pos (by simpa using hk), if_pos hk, List.map_map, ← h]
    apply List.map_congr_left
    intro p _
    show (if p.1 = g k then (p.1, b) else p).1 = p.1
    split <;> rfl
  · rw [if_neg (by simpa using hk), if_neg hk, List.map_append, List.map_append, h]
    rfl
theorem names_fold (ts : List Tst) : ∀ (kvs : List (Key × Unit)) (ks : List Str), kvs.map (·.1) = ks.map Sum.inr → (ts.foldl (dcF fun t => t.name.map fun x => ((.inr x, ()) : Key × Unit)) kvs).map (·.1) = (ts.foldl nameAcc ks).map Sum.inr := by
  induction ts with
  | nil => intro kvs ks h; exact h
  | cons t r ih =>
    intro kvs ks h
    rw [List.foldl_cons, List.foldl_cons]
    refine ih _ _ ?_
    unfold dcF nameAcc
    dsimp only
    cases t.name with
    | none => exact h
    | some x => exact putB_keys (fun a b e => by injection e) h
theorem vals_fold (ts : List Tst) : ∀ (kvs : List (Key × Unit)) (ks : List Int), kvs.map (·.1) = ks.map Sum.inl → (ts.foldl (dcF fun t => t.val.map fun x => ((.inl x, ()) : Key × Unit)) kvs).map (·.1) = (ts.foldl valAcc ks).map Sum.inl := by
  induction ts with
  | nil => intro kvs ks h; exact h
  | cons t r ih =>
    intro kvs ks h
    rw [List.foldl_cons, List.foldl_cons]
    refine ih _ _ ?_
    unfold dcF valAcc
    dsimp only
    cases t.val with
    | none => exact h
    | some x => exact putB_keys (fun a b e => by injection e) h
theorem names_inv (ts : List Tst) : ∀ (ks : List Str), ks.Nodup → (∀ x, x ∈ ks → Nm x) → (∀ t, t ∈ ts → t.ok) → (ts.foldl nameAcc ks).Nodup ∧ ∀ x, x ∈ ts.foldl nameAcc ks → Nm x := by
  induction ts with
  | nil => intro ks h1 h2 _; exact ⟨h1, h2⟩
  | cons t r ih =>
    intro ks h1 h2 h3
    rw [List.foldl_cons]
    have hr := fun t ht => h3 t (List.mem_cons_of_mem _ ht)
    unfold nameAcc
    cases e : t.name with
    | none => exact ih ks h1 h2 hr
    | some x =>
      have hx : Nm x := (h3 t List.mem_cons_self).1 x e
      by_cases hm : x ∈ ks
      · simp only [if_pos hm]
        exact ih ks h1 h2 hr
      · simp only [if_neg hm]
        refine ih _ ?_ ?_ hr
        · rw [List.nodup_append]
          exact ⟨h1, by simp, fun a ha b hb z => hm (by simp at hb; subst hb; rw [← z]; exact ha)⟩
        · intro y hy
          rcases List.mem_append.mp hy with hy | hy
          · exact h2 y hy
          · simp at hy; subst hy; exact hx
theorem vals_inv (ts : List Tst) : ∀ (ks : List Int), ks.Nodup → (∀ x, x ∈ ks → Vl x) → (∀ t, t ∈ ts → t.ok) → (ts.foldl valAcc ks).Nodup ∧ ∀ x, x ∈ ts.foldl valAcc ks → Vl x := by
  induction ts with
  | nil => intro ks h1 h2 _; exact ⟨h1, h2⟩
  | cons t r ih =>
    intro ks h1 h2 h3
    rw [List.foldl_cons]
    have hr := fun t ht => h3 t (List.mem_cons_of_mem _ ht)
    unfold valAcc
    cases e : t.val with
    | none => exact ih ks h1 h2 hr
    | some x =>
      have hx : Vl x := (h3 t List.mem_cons_self).2 x e
      by_cases hm : x ∈ ks
      · simp only [if_pos hm]
        exact ih ks h1 h2 hr
      · simp only [if_neg hm]
        refine ih _ ?_ ?_ hr
        · rw [List.nodup_append]
          exact ⟨h1, by simp, fun a ha b hb z => hm (by simp at hb; subst hb; rw [← z]; exact ha)⟩
        · intro y hy
          rcases List.mem_append.mp hy with hy | hy
          · exact h2 y hy
          · simp at hy; subst hy; exact hx
theorem nodup_len {α : Type} [DecidableEq α] : ∀ (m l : List α), l.Nodup → (∀ x, x ∈ l → x ∈ m) → l.length ≤ m.length
  | [], l, _, h => by
    cases l with
    | nil => simp
    | cons a r => exact absurd (h a List.mem_cons_self) (by simp)
  | a :: m, l, hn, h => by
    have h2 := nodup_len m (l.erase a) (hn.erase a) fun x hx => by
      have := h x (List.mem_of_mem_erase hx)
      rcases List.mem_cons.mp this with e | e
      · subst e
        exact absurd hx (hn.not_mem_erase)
      · exact e
    have h3 : l.length ≤ (l.erase a).length + 1 := by
      rw [List.length_erase]
      split <;> omega
    simp
    omega
theorem namesOf_ok {ts : List Tst} (h : ∀ t, t ∈ ts → t.ok) : (namesOf ts).Nodup ∧ (∀ x, x ∈ namesOf ts → Nm x) ∧ (namesOf ts).length ≤ 3 := by
  obtain ⟨a, b⟩ := names_inv ts [] List.nodup_nil (fun x hx => by cases hx) h
  exact ⟨a, b, nodup_len ([("a" : Str), "b", "cc"]) _ a fun x hx => by rcases b x hx with rfl | rfl | rfl <;> simp⟩
theorem valsOf_ok {ts : List Tst} (h : ∀ t, t ∈ ts → t.ok) : (valsOf ts).length ≤ 3 := by
  obtain ⟨a, b⟩ := vals_inv ts [] List.nodup_nil (fun x hx => by cases hx) h
  exact nodup_len ([1, 2, 50] : List Int) _ a fun x hx => by rcases b x hx with rfl | rfl | rfl <;> simp
mutual
theorem ts_ok : ∀ {c : Cond}, c.ok → ∀ t, t ∈ c.ts → t.ok
  | .t q, h, t, m => by simp [Cond.ts] at m; subst m; exact h
  | .not c, h, t, m => ts_ok (c := c) h t m
  | .seq _ cs, h, t, m => tsL_ok (cs := cs) h.2.2.2 t m
theorem tsL_ok : ∀ {cs : List Cond}, okL cs → ∀ t, t ∈ tsL cs → t.ok
  | [], _, t, m => by simp [tsL] at m
  | c :: cs, h, t, m => by
    rcases List.mem_append.mp (show t ∈ c.ts ++ tsL cs from m) with m | m
    · exact ts_ok h.1 t m
    · exact tsL_ok h.2 t m
end
section
variable {w : World} {K : PySem.W.Frag} {mg : Str → Option Value} {base : Heap}
def pNames (v : V) (H : Hp) (Q : VK) : Prop := ∃ a vs ts, v = .ref a ∧ H a = some (.lst vs) ∧ Each TstR H vs ts ∧ ts.length ≤ 1000 ∧ ∀ r H', Ext H H' → New H r → H' r = some (.lst ((namesOf ts).map V.str)) → Q (.ref r) H'
theorem ok_names_in  (T : Txt w K mg) : Cal PG w K mg base (0 + 1) "names_in" (sp1 pNames) := by
  obtain ⟨fd, F⟩ := T.d_names_in
  refine cal_mk F T.g_names_in sc_names_in (fun _ _ _ _ _ _ us hl => match us, hl with | [_], _ => rfl) fun cdv A outer s0 H vs Q E hr h => ?_
  obtain ⟨_, rfl, a, vs, ts, rfl, hA, hE, hl, h⟩ := h
  have : At H a (.lst vs) := ⟨hA⟩
  have hlen := hE.len
  refine ⟨_, pss_one (ps_ret (pe_callTy (call_list_dK rfl) (by rfl) T.f_list (by decide +kernel) (pa_cons (pe_dc (own := [("test", 1)]) rfl sc_names_in.nd (pi_seq (pv 0)) (blkOk_by (own := [("test", 1)]) (N := ["tests", "test"]) (sc := defScope S_names_in) (by decide +kernel)) (fun _ _ _ _ _ => (pg_name (i := 1) sc_names_in.nd rfl (by first | exact Or.inl rfl | exact Or.inr rfl))) (fun _ _ _ _ _ => pts_one (pt_cmpR op_gt (pe_callB (call_lenK (K := K) rfl) (by rfl) T.f_len (by decide +kernel) (pa_cons (pv 1) pa_nil)) (pe_int) (nomark _))) (fun _ _ _ _ _ => (pe_ix (ix_anyK (K := K) rfl) (pv 1) (pe_int) (fun _ _ => rfl))) (fun _ _ _ _ _ => (pe_bl))) pa_nil))), ?_⟩
  refine start_to (σ := [some _, none]) rfl ?_
  try dsimp only [cxOf]
  walk_at "go"
  refine dc_ds ts (fun t => t.name.map fun x => ((.inr x, ()) : Key × Unit)) (fun _ v _ => v = .bl true) (fun _ h => h) hlen (by show vs.length ≤ 2 ^ 24; omega) ?_ ?_
  · intro i x t H1 H2 D ht e1 nD hA hy N1 N2 k1 k2
    obtain ⟨rfl, hx⟩ := hy
    obtain ⟨t', ht', b, rfl, hb⟩ := hE.get hx
    rw [ht] at ht'
    cases ht'
    cases t with
    | row =>
      have : At H2 b (.tup [.str "row"]) := ⟨e1.at hb⟩
      walk_at "go"
      exact k2 _ (Ext.refl _) rfl
    | has x =>
      have : At H2 b (.tup [.str "has", .str x]) := ⟨e1.at hb⟩
      walk_at "go"
      exact k1 (.inr x) _ _ () (Ext.refl _) rfl rfl
    | eq x v =>
      have : At H2 b (.tup [.str "eq", .str x, .int v]) := ⟨e1.at hb⟩
      walk_at "go"
      exact k1 (.inr x) _ _ () (Ext.refl _) rfl rfl
    | less x v =>
      have : At H2 b (.tup [.str "less", .str x, .int v]) := ⟨e1.at hb⟩
      walk_at "go"
      exact k1 (.inr x) _ _ () (Ext.refl _) rfl rfl
  · intro D H1 kvs nD e1 hD hK
    have : At H1 D (.dK kvs) := ⟨hD⟩
    walk_at "go"
    rename_i r hr1
    refine h _ _ (by walk_at "ext") ⟨e1.back hr1.h⟩ ?_
    rw [upd_same, paired_keys hK]
    have e := names_fold ts [] [] rfl
    have e2 : (ts.foldl (dcF fun t => t.name.map fun x => ((.inr x, ()) : Key × Unit)) []).map (fun d => kV d.1) = ((ts.foldl (dcF fun t => t.name.map fun x => ((.inr x, ()) : Key × Unit)) []).map (·.1)).map kV := by rw [List.map_map]; rfl
    rw [e2, e, List.map_map]
    rfl
/-- a good condition -/
def Good (c : Cond) : Prop := c.ok ∧ c.dep ≤ 3 ∧ c.ts.length ≤ 4
def pCond (v : V) (H : Hp) (Q : VK) : Prop := ∃ c, CA H c v ∧ Good c ∧ ∀ H', Ext H H' → Q (.bl true) H'
theorem ok_is_condition  (T : Txt w K mg) : Cal PG w K mg base (11 + 1) "is_condition" (sp1 pCond) := by
  obtain ⟨fd, F⟩ := T.d_is_condition
  refine cal_mk F T.g_is_condition sc_is_condition (fun _ _ _ _ _ _ us hl => match us, hl with | [_], _ => rfl) fun cdv A outer s0 H vs Q E hr h => ?_
  obtain ⟨_, rfl, c, hc, ⟨ok, hd, hl⟩, h⟩ := h
  have c_is_formed := (ok_is_formed (base := base) 3 T)
  have c_tests_in := (ok_tests_in (base := base) 3 T).mono (show 2 + 3 ≤ 11 by omega)
  have c_names_in := (ok_names_in (base := base) T).mono (show 1 ≤ 11 by omega)
  refine ⟨_, pss_cons (ps_if (pt_not (pt_val (pe_cl c_is_formed hr (by first | decide | omega) rfl (pa_cons (pv 0) (pa_cons (pe_int) pa_nil))))) (pss_one (ps_ret (pe_bl))) pss_nil)
      (pss_cons (ps_set (i := 1) sc_is_condition.nd rfl (by first | exact Or.inl rfl | exact Or.inr rfl) (pe_cl c_tests_in hr (by first | decide | omega) rfl (pa_cons (pv 0) pa_nil)))
      (pss_cons (ps_setDc (i := 2) (own := [("test", 3)]) rfl sc_is_condition.nd rfl rfl (sw_trueD rfl rfl rfl (by decide +kernel)) (pi_seq (pv 1)) (blkOk_by (own := [("test", 3)]) (N := ["value", "tests", "values", "test"]) (sc := defScope S_is_condition) (by decide +kernel)) (fun _ _ _ _ _ => (pg_name (i := 3) sc_is_condition.nd rfl (by first | exact Or.inl rfl | exact Or.inr rfl))) (fun _ _ _ _ _ => pts_one (pt_cmpR op_eq (pe_callB (call_lenK (K := K) rfl) (by rfl) T.f_len (by decide +kernel) (pa_cons (pv 3) pa_nil)) (pe_int) (nomark _))) (fun _ _ _ _ _ => (pe_ix (ix_anyK (K := K) rfl) (pv 3) (pe_int) (fun _ _ => rfl))) (fun _ _ _ _ _ => (pe_bl)))
      (pss_one (ps_ret (pe_and (pe_cmpR op_le (pe_callB (call_lenK (K := K) rfl) (by rfl) T.f_len (by decide +kernel) (pa_cons (pv 1) pa_nil)) (pe_gv rfl T.c_MOST_TESTS) (nomark _)) (pe_and (pe_cmpR op_le (pe_callB (call_lenK (K := K) rfl) (by rfl) T.f_len (by decide +kernel) (pa_cons (pe_cl c_names_in hr (by first | decide | omega) rfl (pa_cons (pv 1) pa_nil)) pa_nil)) (pe_gv rfl T.c_TEST_NAMES) (nomark _)) (pe_one (pe_cmpR op_le (pe_callB (call_lenK (K := K) rfl) (by rfl) T.f_len (by decide +kernel) (pa_cons (pv 2) pa_nil)) (pe_gv rfl T.c_TEST_VALUES) (nomark _))))))))), ?_⟩
  refine start_to (σ := [some _, none, none, none]) rfl ?_
  try dsimp only [cxOf]
  walk_at "go"
  refine ⟨c, 0, hc, ok, hd, by omega, rfl, fun H1 e1 => ?_⟩
  walk_at "go"
  refine ⟨c, CA.mono e1 c _ hc, hd, by omega, fun r vs H2 e2 nr hr hE => ?_⟩
  have : At H2 r (.lst vs) := ⟨hr⟩
  have hlen := hE.len
  walk_at "go"
  refine dc_ds c.ts (fun t => t.val.map fun x => ((.inl x, ()) : Key × Unit)) (fun _ v _ => v = .bl true) (fun _ h => h) hlen (by show vs.length ≤ 2 ^ 24; omega) ?_ ?_
  · intro i x t H3 H4 D ht e3 nD hA hy N1 N2 k1 k2
    obtain ⟨rfl, hx⟩ := hy
    obtain ⟨t', ht', b, rfl, hb⟩ := hE.get hx
    rw [ht] at ht'
    cases ht'
    cases t with
    | row =>
      have : At H4 b (.tup [.str "row"]) := ⟨e3.at hb⟩
      walk_at "go"
      exact k2 _ (Ext.refl _) rfl
    | has x =>
      have : At H4 b (.tup [.str "has", .str x]) := ⟨e3.at hb⟩
      walk_at "go"
      exact k2 _ (Ext.refl _) rfl
    | eq x v =>
      have : At H4 b (.tup [.str "eq", .str x, .int v]) := ⟨e3.at hb⟩
      walk_at "go"
      exact k1 (.inl v) _ _ () (Ext.refl _) rfl rfl
    | less x v =>
      have : At H4 b (.tup [.str "less", .str x, .int v]) := ⟨e3.at hb⟩
      walk_at "go"
      exact k1 (.inl v) _ _ () (Ext.refl _) rfl rfl
  · intro D H3 kvs nD e3 hD hK
    have : At H3 D (.dK kvs) := ⟨hD⟩
    walk_at "go"
    rw [decide_eq_true (show ((vs.length : Nat) : Int) ≤ 8 by omega)]
    walk_at "go"
    refine ⟨r, vs, c.ts, rfl, e3.at hr, Paired.mapP hE fun v t q => TstR.mono e3 q, by omega, fun r2 H4 e4 nr2 hr2 => ?_⟩
    have : At H4 r2 (.lst ((namesOf c.ts).map V.str)) := ⟨hr2⟩
    walk_at "go"
    have hn := (namesOf_ok (ts_ok ok)).2.2
    rw [decide_eq_true (show (((((namesOf c.ts).map V.str).length : Nat)) : Int) ≤ 3 by rw [List.length_map]; omega)]
    walk_at "go"
    have hk : kvs.length ≤ 3 := by
      have e := vals_fold c.ts [] [] rfl
      have := congrArg List.length e
      rw [List.length_map, List.length_map, ← Paired.length hK] at this
      rw [this]
      exact valsOf_ok (ts_ok ok)
    rw [decide_eq_true (show ((kvs.length : Nat) : Int) ≤ 3 by omega)]
    exact h _ (by walk_at "ext")
def pLookC (v : V) (H : Hp) (Q : VK) : Prop := ∃ c, CA H c v ∧ Good c ∧ ∀ H', Ext H H' → Q .non H'
theorem ok_look_at_condition  (T : Txt w K mg) : Cal PG w K mg base (12 + 1) "look_at_condition" (sp1 pLookC) := by
  obtain ⟨fd, F⟩ := T.d_look_at_condition
  refine cal_mk F T.g_look_at_condition sc_look_at_condition (fun _ _ _ _ _ _ us hl => match us, hl with | [_], _ => rfl) fun cdv A outer s0 H vs Q E hr h => ?_
  obtain ⟨_, rfl, c, hc, good, h⟩ := h
  have c_is_condition := (ok_is_condition (base := base) T)
  refine ⟨_, pss_one (ps_if (pt_not (pt_val (pe_cl c_is_condition hr (by first | decide | omega) rfl (pa_cons (pv 0) pa_nil)))) (pss_one ps_never) pss_nil), ?_⟩
  refine start_to (σ := [some _]) rfl ?_
  try dsimp only [cxOf]
  walk_at "go"
  refine ⟨c, hc, good, fun H1 e1 => ?_⟩
  walk_at "go"
  exact h _ e1
def pPlace (key t : V) (H : Hp) (Q : VK) : Prop := key = .int 0 ∧ t = .int 999 ∧ Q .non H
instance {H : Hp} {Q : VK} : Red (pPlace (.int 0) (.int 999) H Q) (Q .non H) := ⟨fun h => ⟨rfl, rfl, h⟩⟩
theorem ok_look_at_place  (T : Txt w K mg) : Cal PG w K mg base (4 + 1) "look_at_place" (sp2 pPlace) := by
  obtain ⟨fd, F⟩ := T.d_look_at_place
  refine cal_mk F T.g_look_at_place sc_look_at_place (fun _ _ _ _ _ _ us hl => match us, hl with | [_, _], _ => rfl) fun cdv A outer s0 H vs Q E hr h => ?_
  obtain ⟨_, _, rfl, rfl, rfl, h⟩ := h
  have c_check_key := (ok_check_key (base := base) T)
  have c_check_time := (ok_check_time (base := base) T)
  refine ⟨_, pss_cons (ps_expr (pe_cl c_check_key hr (by first | decide | omega) rfl (pa_cons (pv 0) pa_nil)))
      (pss_one (ps_expr (pe_cl c_check_time hr (by first | decide | omega) rfl (pa_cons (pv 1) pa_nil)))), ?_⟩
  refine start_to (σ := [some _, some _]) rfl ?_
  try dsimp only [cxOf]
  walk_at "go"
  refine ⟨by omega, by omega, ?_⟩
  walk_at "go"
  refine ⟨by omega, by omega, ?_⟩
  walk_at "go"
  exact h
def pAsked (K : PySem.W.Frag) (v past key t : V) (H : Hp) (Q : VK) : Prop := ∃ c a ds, CA H c v ∧ Good c ∧ past = .ref a ∧ PastAt K H (.ref a) ds ∧ key = .int 0 ∧ t = .int 999 ∧ ∀ H', Ext H H' → Q .non H'
theorem ok_look_at_asked  (T : Txt w K mg) : Cal PG w K mg base (13 + 1) "look_at_asked" (sp4 (pAsked K)) := by
  obtain ⟨fd, F⟩ := T.d_look_at_asked
  refine cal_mk F T.g_look_at_asked sc_look_at_asked (fun _ _ _ _ _ _ us hl => match us, hl with | [_, _, _, _], _ => rfl) fun cdv A outer s0 H vs Q E hr h => ?_
  obtain ⟨_, _, _, _, rfl, c, a, ds, hc, good, rfl, p, rfl, rfl, h⟩ := h
  have c_check_past := (ok_check_past (base := base) T).mono (show 1 ≤ 13 by omega)
  have c_look_at_condition := (ok_look_at_condition (base := base) T)
  have c_look_at_place := (ok_look_at_place (base := base) T).mono (show 5 ≤ 13 by omega)
  refine ⟨_, pss_cons (ps_expr (pe_cl c_check_past hr (by first | decide | omega) rfl (pa_cons (pv 1) pa_nil)))
      (pss_cons (ps_expr (pe_cl c_look_at_condition hr (by first | decide | omega) rfl (pa_cons (pv 0) pa_nil)))
      (pss_one (ps_expr (pe_cl c_look_at_place hr (by first | decide | omega) rfl (pa_cons (pv 2) (pa_cons (pv 3) pa_nil)))))), ?_⟩
  refine start_to (σ := [some _, some _, some _, some _]) rfl ?_
  try dsimp only [cxOf]
  walk_at "go"
  refine ⟨c, hc, good, fun H1 e1 => ?_⟩
  walk_at "go"
  exact h _ e1
def pTestsOf (v : V) (H : Hp) (Q : VK) : Prop := ∃ c, CA H c v ∧ Good c ∧ ∀ r vs H', Ext H H' → New H r → H' r = some (.lst vs) → Each TstR H' vs c.ts → Q (.ref r) H'
theorem ok_tests_of  (T : Txt w K mg) : Cal PG w K mg base (13 + 1) "tests_of" (sp1 pTestsOf) := by
  obtain ⟨fd, F⟩ := T.d_tests_of
  refine cal_mk F T.g_tests_of sc_tests_of (fun _ _ _ _ _ _ us hl => match us, hl with | [_], _ => rfl) fun cdv A outer s0 H vs Q E hr h => ?_
  obtain ⟨_, rfl, c, hc, good, h⟩ := h
  have c_look_at_condition := (ok_look_at_condition (base := base) T)
  have c_tests_in := (ok_tests_in (base := base) 3 T).mono (show 2 + 3 ≤ 13 by omega)
  refine ⟨_, pss_cons (ps_expr (pe_cl c_look_at_condition hr (by first | decide | omega) rfl (pa_cons (pv 0) pa_nil)))
      (pss_one (ps_ret (pe_cl c_tests_in hr (by first | decide | omega) rfl (pa_cons (pv 0) pa_nil)))), ?_⟩
  refine start_to (σ := [some _]) rfl ?_
  try dsimp only [cxOf]
  walk_at "go"
  refine ⟨c, hc, good, fun H1 e1 => ?_⟩
  walk_at "go"
  refine ⟨c, CA.mono e1 c _ hc, good.2.1, by have := good.2.2; omega, fun r vs H2 e2 nr hr hE => ?_⟩
  exact h r vs H2 (e1.trans e2) ⟨e1.back nr.h⟩ hr hE
end

end PB
namespace PB
open PySem PySem.Spec PyProof.Rows L2
local macro_rules | `(tactic| walk_at "rd") => `(tactic| (repeat refine red ?_))
local macro_rules | `(tactic| walk_at "go") => `(tactic| (repeat (first | refine red ?_ | ((with_reducible apply k_var); rfl) | refine k_new fun _ _ => ?_ | refine wp_and rfl ?_ | refine if_redT rfl ?_ | refine if_redF rfl ?_)))

local macro_rules | `(tactic| walk_at "ext") => `(tactic| (repeat (first | assumption | exact Ext.refl _ | refine Ext.newI ?_ | refine Ext.trans ?_ ‹Ext _ _›)))
local macro_rules | `(tactic| walk_at "rv") => `(tactic| (repeat (first | refine red ?_ | ((with_reducible apply k_var); rfl))))
/-! ### instances that are called -/
structure Clb (P : Program) (w : World) (K : PySem.W.Frag) (mg : Str → Option Value) (base : Heap) (k : Nat) (C : Addr) (s : Sq) : Prop where
  ex : ∃ (g : Addr) (fd : FuncData) (ps : List Str), StX.CallO K C g ∧ FnOk P w K mg base CX0 k g fd ps s.sp ∧ Binds K fd ps []
theorem Clb.of {P : Program} {w : World} {K : PySem.W.Frag} {mg : Str → Option Value} {base : Heap} {k : Nat} {C : Addr} {s : Sq} (m : Met P w K mg base k C "__call__" s) (fi : ∀ f, Meth K C "__call__" f → PySem.W.fnIn K f = true) : Clb P w K mg base k C s := by
  obtain ⟨f, fd, ps, hc, hm, F, b⟩ := m.ex
  exact ⟨f, fd, ps, ⟨hm.at_, hm.fn, fi f hm⟩, F, b⟩
def kClo (C : Addr) (s : Sq) (y : V) (vs : List V) (H : Hp) (Q : VK) : Prop := ∃ a dx fs, y = .ref a ∧ H a = some (.ins C dx fs) ∧ s (.ref a :: vs) H Q
def tClo (C : Addr) (s : Sq) (tf : TE) (t : TA) : TE := fun σ H Q => tf σ H fun y H1 => t σ H1 fun vs H2 => kClo C s y vs H2 Q
def tFlo (K : PySem.W.Frag) (C : Addr) (s : Sq) (m : Str) (ta : TE) (t : TA) : TE := fun σ H Q => ta σ H fun x H1 => kFld K m x H1 fun y H1 => t σ H1 fun vs H2 => kClo C s y vs H2 Q
section
variable {X : Cx} {C : Addr} {s : Sq} {j k : Nat} {fe e o : Expr} {es : List Expr} {tf ta : TE} {t : TA} {pos apos : Pos} {m : Str} {σ : L2.St} {H : Hp} {Q : VK} {K : PySem.W.Frag}
theorem run_clo {pins : List (Addr × Obj)} {sh : Shared} (c : Clb X.prog X.w X.K X.mg X.base j C s) (hr : Room k X.A) (hk : j ≤ k) (he : starEach (e :: es) X.env = (false, eval e X.env) :: starEach es X.env) (hpl : (backTo pos (starEach es X.env)).any (·.1) = false)
    (ha : PA X (e :: es) t) (I : Inv X pins σ H sh) {y : V} {u : Value} (ry : RelV y u) (hy : ∃ a, y = .ref a) (q : t σ H fun vs H2 => kClo C s y vs H2 Q) :
    wpAny (model X.prog X.w) X.A (callWith pos u [] (backTo pos (starEach (e :: es) X.env)) []) (EP X pins σ Q) X.xe sh := by
  obtain ⟨g, fd, ps, co, F, b⟩ := c.ex
  obtain ⟨a, rfl⟩ := hy
  obtain rfl : u = Value.ref a := ry
  refine StX.callO_with (thn (ha.run pos pins sh σ H _ I q) fun us s2 ⟨vs, H2, I2, r, a', dx, fs, ea, hi, q2⟩ => ?_) he hpl
  cases ea
  obtain ⟨ox, od, J, hd⟩ := StX.insC_at (X := X) I2 (.inr ⟨dx, fs, hi⟩)
  refine ⟨⟨C, ox, od, J, hd⟩, StX.run_callO (X := X) co (F.raw b .nil) (hr.mono hk) pass0 I2 (.inr ⟨dx, fs, hi⟩) r ?_⟩
  show s (V.ref a :: vs ++ []) H2 Q
  rw [List.append_nil]
  exact q2
/-- f(e, ..), f a name that holds an instance -/
theorem pe_clo (hf : PE X fe tf) (c : Clb X.prog X.w X.K X.mg X.base j C s) (hr : Room k X.A) (hk : j ≤ k) (ha : PA X (e :: es) t)
    (ht : eval (.Call fe (e :: es) [] pos) X.env = (do callWith pos (← eval fe X.env) [] (backTo pos (starEach (e :: es) X.env)) (backToKw pos (keywordEach [] X.env))) := by rfl)
    (he : starEach (e :: es) X.env = (false, eval e X.env) :: starEach es X.env := by rfl) (hpl : (backTo pos (starEach es X.env)).any (·.1) = false := by rfl) : PE X (.Call fe (e :: es) [] pos) (fun σ H Q => tf σ H fun y H1 => (∃ a, y = .ref a) ∧ t σ H1 fun vs H2 => kClo C s y vs H2 Q) := by
  refine ⟨fun pins sh σ H Q I h => ?_⟩
  exact Call_ (thn (hf.run pins sh σ H _ I h) fun u s1 ⟨y, H1, I1, ry, hy, q⟩ => run_clo c hr hk he hpl ha I1 ry hy q) ht
/-- self.f(e, ..), the field f holds an instance -/
theorem pe_flo {pl : Sem Bool} (ho : PE X o ta) (c : Clb X.prog X.w X.K X.mg X.base j C s) (hr : Room k X.A) (hk : j ≤ k) (ha : PA X (e :: es) t)
    (ht : eval (.Call (.Attribute o m apos) (e :: es) [] pos) X.env = (do
      let ov ← eval o X.env
      standAt apos.atName
      let (f, first) ← holding [ov] (getMethod ov m pl)
      callWith pos f first (backTo pos (starEach (e :: es) X.env)) (backToKw pos (keywordEach [] X.env))) := by rfl)
    (he : starEach (e :: es) X.env = (false, eval e X.env) :: starEach es X.env := by rfl) (hpl : (backTo pos (starEach es X.env)).any (·.1) = false := by rfl) :
    PE X (.Call (.Attribute o m apos) (e :: es) [] pos) (fun σ H Q => ta σ H fun x H1 => kFld X.K m x H1 fun y H1 => (∃ a, y = .ref a) ∧ t σ H1 fun vs H2 => kClo C s y vs H2 Q) := by
  refine ⟨fun pins sh σ H Q I h => ?_⟩
  refine PySem.W.methodCall_KW (pl := pl) (thn (ho.run pins sh σ H _ I h) fun u s1 ⟨x, H1, I1, rx, a, C2, dx, fs, y, ex, ea, cl, na, l, hy, q⟩ => ?_) ht
  subst ex
  obtain rfl : u = Value.ref a := rx
  obtain ⟨mA, O, _⟩ := ins_get I1.hok ea
  obtain ⟨od, J, _⟩ := O.look
  refine PySem.W.method_usual I1.kIn J (PySem.W.plainGet_of (cl.get m)).1 (PySem.W.plainGet_of (cl.get m)).2 na rfl (getattr_ok I1 ea cl na l fun u' s2 I2 ru => ?_)
  exact run_clo c hr hk he hpl ha I2 ru hy q
class IsRef (y : V) : Prop where
  h : ∃ a, y = .ref a
instance {a : Addr} : IsRef (.ref a) := ⟨⟨a, rfl⟩⟩
instance {a : Addr} {P : Prop} : Red ((∃ b, V.ref a = .ref b) ∧ P) P := ⟨fun h => ⟨⟨a, rfl⟩, h⟩⟩
instance {a dx : Addr} {fs : List (Str × V)} {vs : List V} [h : At H a (.ins C dx fs)] : Red (kClo C s (.ref a) vs H Q) (s (.ref a :: vs) H Q) := ⟨fun q => ⟨a, dx, fs, rfl, h.h, q⟩⟩
end
theorem k_aug {i : Nat} {te : TE} {ti : TIp} {D : Ends} {σ : L2.St} {H : Hp} {x : V} (h : σ[i]? = some (some x)) (k : te σ H fun y H1 => ti x y H1 fun z H2 => D.nx (σ.set i (some z)) H2) : tAug i te ti D σ H := ⟨x, h, k⟩
instance {f : Int → Int → Int} {i j : Int} {H : Hp} {Q : VK} : Red (ipI f (.int i) (.int j) H Q) (Q (.int (f i j)) H) := ⟨fun h => ⟨i, j, rfl, rfl, h⟩⟩

end PB
namespace PB
open PySem PySem.Spec PyProof.Rows L2
local macro_rules | `(tactic| walk_at "rd") => `(tactic| (repeat refine red ?_))
local macro_rules | `(tactic| walk_at "go") => `(tactic| (repeat (first | refine red ?_ | ((with_reducible apply k_var); rfl) | refine k_new fun _ _ => ?_ | refine wp_and rfl ?_ | refine if_redT rfl ?_ | refine if_redF rfl ?_)))
local macro_rules | `(tactic| walk_at "ga") => `(tactic| (repeat (first | refine red ?_ | ((with_reducible apply k_var); rfl) | ((with_reducible apply k_aug); rfl) | refine k_new fun _ _ => ?_ | refine wp_and rfl ?_ | refine if_redT rfl ?_ | refine if_redF rfl ?_)))
local macro_rules | `(tactic| walk_at "ext") => `(tactic| (repeat (first | assumption | exact Ext.refl _ | refine Ext.newI ?_ | refine Ext.trans ?_ ‹Ext _ _›)))
local macro_rules | `(tactic| walk_at "rv") => `(tactic| (repeat (first | refine red ?_ | ((with_reducible apply k_var); rfl))))
/-! ### what a condition answers, the answers being given one by one -/
mutual
def run (f : Nat → Tst → Ans) : Cond → List Ans → Ans × List Ans
  | .t q, l => (f l.length q, l ++ [f l.length q])
  | .not c, l => ((run f c l).1.neg, (run f c l).2)
  | .seq w cs, l => runL f w cs l
def runL (f : Nat → Tst → Ans) (w : Bool) : List Cond → List Ans → Ans × List Ans
  | [], l => (cont w, l)
  | c :: cs, l => if (run f c l).1 = cont w then runL f w cs (run f c l).2 else run f c l
end
mutual
theorem run_len (f : Nat → Tst → Ans) : ∀ (c : Cond) (l : List Ans), (run f c l).2.length ≤ l.length + c.ts.length
  | .t q, l => by simp [run, Cond.ts]
  | .not c, l => by
    have := run_len f c l
    simpa [run, Cond.ts] using this
  | .seq w cs, l => by
    have := runL_len f w cs l
    simpa [run, Cond.ts] using this
theorem runL_len (f : Nat → Tst → Ans) (w : Bool) : ∀ (cs : List Cond) (l : List Ans), (runL f w cs l).2.length ≤ l.length + (tsL cs).length
  | [], l => by simp [runL, tsL]
  | c :: cs, l => by
    have h1 := run_len f c l
    have h2 := runL_len f w cs (run f c l).2
    unfold runL tsL
    rw [List.length_append]
    split
    · omega
    · omega
end
structure Answ (s : Sq) (o C : Addr) (H0 : Hp) (f : Nat → Tst → Ans) (I : List Ans → Hp → Prop) (P : Tst → Prop) : Prop where
  ins : ∀ l H, I l H → ∃ dx fs, H o = some (.ins C dx fs)
  mono : ∀ l H H', Ext H H' → I l H → I l H'
  step : ∀ (l : List Ans) (H : Hp) (n : Int) (v : V) (t : Tst) (Q : VK), Ext H0 H → I l H → TstR H0 v t → P t → l.length ≤ 1000 → (∀ H', Ext H0 H' → I (l ++ [f l.length t]) H' → Q (.str (f l.length t).s) H') → s [.ref o, .int n, v] H Q
section
variable {w : World} {K : PySem.W.Frag} {mg : Str → Option Value} {base : Heap}
def pOut (C : Addr) (s : Sq) (n : Nat) (cond ans first : V) (H : Hp) (Q : VK) : Prop := ∃ (c : Cond) (l : List Ans) (H0 : Hp) (f : Nat → Tst → Ans) (I : List Ans → Hp → Prop) (P : Tst → Prop) (o : Addr) (i : Int), CA H0 c cond ∧ c.dep ≤ n ∧ l.length + c.ts.length ≤ 1000 ∧ (∀ t, t ∈ c.ts → P t) ∧
  first = .int i ∧ ans = .ref o ∧ Answ s o C H0 f I P ∧ Ext H0 H ∧ I l H ∧ ∀ H', Ext H0 H' → I (run f c l).2 H' → Q (.str (run f c l).1.s) H'
/-- outcome_by, with and without its third argument -/
structure OutOk (w : World) (K : PySem.W.Frag) (mg : Str → Option Value) (base : Heap) (k : Nat) (s : Sq) : Prop where
  ex : ∃ (f : Addr) (fd : FuncData) (ds : List Value), FnOk PG w K mg base CX0 k f fd ["condition", "answer", "first"] s.sp ∧ mg "outcome_by" = some (.ref f) ∧ PySem.W.keepIn K (.ref f) = true ∧ Binds K fd ["condition", "answer", "first"] [] ∧ Binds K fd ["condition", "answer", "first"] ds ∧ Vals [V.int 0] ds
theorem OutOk.cal {k : Nat} {s : Sq} (o : OutOk w K mg base k s) : Cal PG w K mg base k "outcome_by" s := by
  obtain ⟨f, fd, ds, F, a, b, c, d, e⟩ := o.ex
  exact ⟨f, fd, _, F, a, b, c⟩
def turnedDV (a : Ans) : Str := a.neg.s
/-- TURNED[x] -/
def kTurn (K : PySem.W.Frag) (w : World) (x y : V) (H : Hp) (Q : VK) : Prop := ∃ a : Ans, x = .ref (He.ga K "TURNED") ∧ y = .str a.s ∧ Q (.str a.neg.s) H
theorem ix_turned {X : Cx} (T : Txt X.w X.K X.mg) : IxR X (kTurn X.K X.w) := by
  intro value slice pins s σ H x y v u Q I rx ry h
  obtain ⟨a, rfl, rfl, q⟩ := h
  exact ix_kdict value slice pins s σ H _ _ v u Q I rx ry ⟨_, _, .str a.neg.s, rfl, rfl, T.turned (by cases a <;> simp [Ans.s, Ans.neg]), q⟩
instance {H : Hp} {Q : VK} {a : Ans} : Red (kTurn K w (.ref (He.ga K "TURNED")) (.str a.s) H Q) (Q (.str a.neg.s) H) := ⟨fun h => ⟨a, rfl, rfl, h⟩⟩
theorem stops_at {a : Ans} {w : Bool} : inV (.str a.s) [V.str (Str.ofString "fault"), V.str (cont w).neg.s] = !decide (a = cont w) := by
  cases a <;> cases w <;> decide +kernel
theorem out_mk {k : Nat} {s : Sq} [LenOk s 3] (T : Txt w K mg) (hbody : ∀ (f : Addr) (cdv : Value) (A : Around) (outer : List Env) (s0 : Shared) (H : Hp) (vs : List V) (Q : VK) (E : XK), Room k (A.deeper (envOfC "outcome_by" (defScope S_outcome_by) s0.heap.objs.size f cdv)) → s vs H Q →
      ∃ t, PSs (cxOf CX0 PG w K mg base ["condition", "answer", "first", "word", "end", "part", "told"] "outcome_by" (defScope S_outcome_by) f cdv A outer s0 H E).nox (defBody S_outcome_by) t ∧ t { nx := fun _ H' => Q .non H', rt := Q } (start ["condition", "answer", "first", "word", "end", "part", "told"] vs) H) : OutOk w K mg base (k + 1) s := by
  obtain ⟨fd, F⟩ := T.d_outcome_by
  obtain ⟨ds, h1, h2⟩ := F.binds1 (ps := ["condition", "answer", "first"]) 2 0 (by simp) rfl (fun T kV doc pm an cdv ct us its hl hl2 => match us, its, hl, hl2 with
    | [_, _], [_], _, _ => ⟨_, rfl, rfl⟩)
  obtain ⟨ds2, h3, h4⟩ := F.binds1 (ps := ["condition", "answer", "first"]) 3 1 (by simp) rfl (fun T kV doc pm an cdv ct us its hl hl2 => match us, its, hl, hl2 with
    | [_, _, _], [_], _, _ => ⟨_, rfl, rfl⟩)
  cases h3
  exact ⟨_, fd, ds, fn_mk F sc_outcome_by (fun cdv A outer s0 H vs Q E hr h => hbody _ cdv A outer s0 H vs Q E hr h), T.g_outcome_by, F.kp, h4, h2, h1⟩
theorem out0 {C : Addr} {s : Sq} {kC : Nat} (T : Txt w K mg) (CO : Clb PG w K mg base kC C s) : OutOk w K mg base (kC + 20 + 1) (sp3 (pOut C s 0)) := by
  refine out_mk T fun fa cdv A outer s0 H vs Q E hr h => ?_
  obtain ⟨_, _, _, rfl, c, l, H0, f, I, P, o, i, hc, hd, hl, hP, rfl, rfl, an, e0, hI, h⟩ := h
  have c_tests_in := (ok_tests_in (base := base) 0 T).mono (show 2 ≤ kC + 20 by omega)
  refine ⟨_, pss_cons (ps_set (i := 3) sc_outcome_by.nd rfl (by first | exact Or.inl rfl | exact Or.inr rfl) (pe_ix (ix_anyK (K := K) rfl) (pv 0) (pe_int) (fun _ _ => rfl)))
      (pss_cons (ps_if (pt_cmpR (op_inK (K := K) rfl) (pv 3) (pe_gv rfl T.c_TESTS) (by rfl)) (pss_one (ps_ret (pe_clo (pv 1) CO hr (by first | decide | omega) (pa_cons (pv 2) (pa_cons (pv 0) pa_nil))))) pss_nil)
      (pss_cons (ps_if (pt_cmpR op_eq (pv 3) (pe_str) (nomark _)) (pss_one (ps_ret (pe_never))) pss_nil)
      (pss_cons (ps_set (i := 4) sc_outcome_by.nd rfl (by first | exact Or.inl rfl | exact Or.inr rfl) (pe_ifExp (pt_cmpR op_eq (pv 3) (pe_str) (nomark _)) (pe_str) (pe_str)))
      (pss_cons (ps_never)
      (pss_one (ps_ret (pe_ix (ix_turned T) (pe_gv rfl T.c_TURNED) (pv 4) (fun _ _ => rfl)))))))), ?_⟩
  refine start_to (σ := [some _, some _, some _, none, none, none, none]) rfl ?_
  try dsimp only [cxOf]
  cases c with
  | t q =>
    obtain ⟨a, rfl, ha⟩ := id hc
    have key : ∀ (H' : Hp) (i : Int), H' = H → kClo C s (.ref o) [.int i, .ref a] H' (fun x H1 => Q x H1) := fun H' i e => by
      subst e
      obtain ⟨dx, fs, ho⟩ := an.ins l H' hI
      exact ⟨o, dx, fs, rfl, ho, an.step l H' i _ q Q e0 hI ⟨a, rfl, ha⟩ (hP q (by simp [Cond.ts])) (by omega) h⟩
    cases q with
    | row =>
      have : At H a (.tup [.str "row"]) := ⟨e0.at ha⟩
      walk_at "go"
      exact key _ _ rfl
    | has x =>
      have : At H a (.tup [.str "has", .str x]) := ⟨e0.at ha⟩
      walk_at "go"
      exact key _ _ rfl
    | eq x v =>
      have : At H a (.tup [.str "eq", .str x, .int v]) := ⟨e0.at ha⟩
      walk_at "go"
      exact key _ _ rfl
    | less x v =>
      have : At H a (.tup [.str "less", .str x, .int v]) := ⟨e0.at ha⟩
      walk_at "go"
      exact key _ _ rfl
  | not c => simp [Cond.dep] at hd
  | seq w cs => simp [Cond.dep] at hd
theorem outS {C : Addr} {s : Sq} {kC : Nat} (n : Nat) (T : Txt w K mg) (CO : Clb PG w K mg base kC C s) (ih : OutOk w K mg base (kC + 20 + 1 + n) (sp3 (pOut C s n))) : OutOk w K mg base (kC + 20 + 1 + n + 1) (sp3 (pOut C s (n + 1))) := by
  refine out_mk T fun fa cdv A outer s0 H vs Q E hr h => ?_
  obtain ⟨_, _, _, rfl, c, l, H0, f, I, P, o, i, hc, hd, hl, hP, rfl, rfl, an, e0, hI, h⟩ := h
  have c_tests_in := (ok_tests_in (base := base) n T).mono (show 2 + n ≤ kC + 20 + 1 + n by omega)
  have c_outcome_by := ih.cal
  refine ⟨_, pss_cons (ps_set (i := 3) sc_outcome_by.nd rfl (by first | exact Or.inl rfl | exact Or.inr rfl) (pe_ix (ix_anyK (K := K) rfl) (pv 0) (pe_int) (fun _ _ => rfl)))
      (pss_cons (ps_if (pt_cmpR (op_inK (K := K) rfl) (pv 3) (pe_gv rfl T.c_TESTS) (by rfl)) (pss_one (ps_ret (pe_clo (pv 1) CO hr (by first | decide | omega) (pa_cons (pv 2) (pa_cons (pv 0) pa_nil))))) pss_nil)
      (pss_cons (ps_if (pt_cmpR op_eq (pv 3) (pe_str) (nomark _)) (pss_one (ps_ret (pe_ix (ix_turned T) (pe_gv rfl T.c_TURNED) (pe_cl c_outcome_by hr (by first | decide | omega) rfl (pa_cons (pe_ix (ix_anyK (K := K) rfl) (pv 0) (pe_int) (fun _ _ => rfl)) (pa_cons (pv 1) (pa_cons (pv 2) pa_nil)))) (fun _ _ => rfl)))) pss_nil)
      (pss_cons (ps_set (i := 4) sc_outcome_by.nd rfl (by first | exact Or.inl rfl | exact Or.inr rfl) (pe_ifExp (pt_cmpR op_eq (pv 3) (pe_str) (nomark _)) (pe_str) (pe_str)))
      (pss_cons (ps_for PassesOwn.never rfl (pi_seq (pe_ix (ix_anyK (K := K) rfl) (pv 0) (pe_int) (fun _ _ => rfl))) (pg_name (i := 5) sc_outcome_by.nd rfl (by first | exact Or.inl rfl | exact Or.inr rfl)) (pss_cons (ps_set (i := 6) sc_outcome_by.nd rfl (by first | exact Or.inl rfl | exact Or.inr rfl) (pe_cl c_outcome_by hr (by first | decide | omega) rfl (pa_cons (pv 5) (pa_cons (pv 1) (pa_cons (pv 2) pa_nil)))))
      (pss_cons (ps_if (pt_cmpR (op_inK (K := K) rfl) (pv 6) (pe_tup (pa_cons (pe_str) (pa_cons (pv 4) pa_nil))) (by rfl)) (pss_one (ps_ret (pv 6))) pss_nil)
      (pss_one (ps_aug (i := 2) sc_outcome_by.nd rfl (by first | exact Or.inl rfl | exact Or.inr rfl) (pe_callB (call_lenK (K := K) rfl) (by rfl) T.f_len (by decide +kernel) (pa_cons (pe_cl c_tests_in hr (by first | decide | omega) rfl (pa_cons (pv 5) pa_nil)) pa_nil)) ip_add)))))
      (pss_one (ps_ret (pe_ix (ix_turned T) (pe_gv rfl T.c_TURNED) (pv 4) (fun _ _ => rfl)))))))), ?_⟩
  refine start_to (σ := [some _, some _, some _, none, none, none, none]) rfl ?_
  try dsimp only [cxOf]
  cases c with
  | t q =>
    obtain ⟨a, rfl, ha⟩ := id hc
    have key : ∀ (H' : Hp) (i : Int), H' = H → kClo C s (.ref o) [.int i, .ref a] H' (fun x H1 => Q x H1) := fun H' i e => by
      subst e
      obtain ⟨dx, fs, ho⟩ := an.ins l H' hI
      exact ⟨o, dx, fs, rfl, ho, an.step l H' i _ q Q e0 hI ⟨a, rfl, ha⟩ (hP q (by simp [Cond.ts])) (by omega) h⟩
    cases q with
    | row =>
      have : At H a (.tup [.str "row"]) := ⟨e0.at ha⟩
      walk_at "go"
      exact key _ _ rfl
    | has x =>
      have : At H a (.tup [.str "has", .str x]) := ⟨e0.at ha⟩
      walk_at "go"
      exact key _ _ rfl
    | eq x v =>
      have : At H a (.tup [.str "eq", .str x, .int v]) := ⟨e0.at ha⟩
      walk_at "go"
      exact key _ _ rfl
    | less x v =>
      have : At H a (.tup [.str "less", .str x, .int v]) := ⟨e0.at ha⟩
      walk_at "go"
      exact key _ _ rfl
  | not c =>
    obtain ⟨a, b, rfl, ha, hb⟩ := id hc
    have : At H a (.tup [.str "not", b]) := ⟨e0.at ha⟩
    simp only [Cond.dep] at hd
    walk_at "go"
    refine ⟨c, l, H0, f, I, P, o, i, hb, by omega, hl, hP, rfl, rfl, an, e0, hI, fun H' e1 hI' => ?_⟩
    walk_at "go"
    exact h _ e1 hI'
  | seq wb cs =>
    obtain ⟨a, p, vs, rfl, ha, hp, hC⟩ := id hc
    have hE := CAs.each hC
    have hlen := CAs.len hC
    simp only [Cond.dep] at hd
    have goal2 : ∀ (x : Str), x = (cont wb).neg.s → kWk p vs.length (YAt vs) (kFor (gName 5) (tSeq (tAsg (tCl (sp3 (pOut C s n)) (tCons (tVar 5) (tCons (tVar 1) (tCons (tVar 2) tNil)))) (gName 6))
        (tSeq (tIfS (tTest (tOp (rIn K false) (tVar 6) (tTup (tCons (tC (.str "fault")) (tCons (tVar 4) tNil))))) (tRet (tVar 6)) tNext) (tAug 2 (tCB (rLenA K) (tCons (tCl (sp1 (pTests n)) (tCons (tVar 5) tNil)) tNil)) (ipI fun i j => i + j))))
        ({ nx := tRet (tOp (kTurn K w) (tC (.ref (He.ga K "TURNED"))) (tVar 4)) ({ nx := fun _ H' => Q .non H', rt := Q } : Ends), rt := Q } : Ends) [some (.ref a), some (.ref o), some (.int i), some (.str (wd wb)), some (.str x), none, none]) H := by
      rintro x rfl
      refine for_go (fun j σ' H' => (∃ (k : Int) (y z : Option V), σ' = [some (.ref a), some (.ref o), some (.int k), some (.str (wd wb)), some (.str (cont wb).neg.s), y, z]) ∧ Ext H0 H' ∧ ∃ li, I li H' ∧ runL f wb cs l = runL f wb (cs.drop j) li ∧ li.length + (tsL (cs.drop j)).length ≤ 1000) ⟨⟨i, none, none, rfl⟩, e0, l, hI, rfl, hl⟩ (fun j σ' H' _ q => sub_at (e0.at hp) (q.2.1.at hp)) ?_ ?_
      · rintro j x σ' H1 H2 hj ⟨⟨k, y0, z0, rfl⟩, e1, li, hIi, hrun, hll⟩ ⟨rfl, hx⟩
        obtain ⟨d, hd2, hR⟩ := getP hE hx
        have hdr : cs.drop j = d :: cs.drop (j + 1) := by
          have hlt : j < cs.length := (List.getElem?_eq_some_iff.mp hd2).1
          rw [List.drop_eq_getElem_cons hlt, (List.getElem?_eq_some_iff.mp hd2).2]
        rw [hdr] at hrun hll
        have hll2 : li.length + (d.ts.length + (tsL (cs.drop (j + 1))).length) ≤ 1000 := by rw [show tsL (d :: cs.drop (j + 1)) = d.ts ++ tsL (cs.drop (j + 1)) from rfl, List.length_append] at hll; exact hll
        have hdep := depL_get hd2
        have hmem : ∀ t, t ∈ d.ts → P t := fun t ht => hP t (by
          show t ∈ tsL cs
          have e : tsL cs = tsL (cs.take j) ++ tsL (cs.drop j) := by rw [← tsL_app, List.take_append_drop]
          rw [e, hdr]
          exact List.mem_append_right _ (List.mem_append_left _ ht))
        walk_at "ga"
        refine ⟨d, li, H0, f, I, P, o, k, hR, by omega, by omega, hmem, rfl, rfl, an, e1, hIi, fun H3 e3 hI3 => ?_⟩
        have hrl := run_len f d li
        generalize hrd : run f d li = rd at hI3 hrl
        obtain ⟨an1, l1⟩ := rd
        have hrun2 : runL f wb cs l = if an1 = cont wb then runL f wb (cs.drop (j + 1)) l1 else (an1, l1) := by
          rw [hrun]
          show (if (run f d li).1 = cont wb then runL f wb (cs.drop (j + 1)) (run f d li).2 else run f d li) = _
          rw [hrd]
        walk_at "ga"
        rename_i tp htp
        refine ⟨tp, _, rfl, .inr (SqT.of upd_same), rfl, rfl, ?_⟩
        rw [show (if false = true then !inV (.str (an1, l1).fst.s) [V.str (Str.ofString "fault"), V.str (cont wb).neg.s] else inV (.str (an1, l1).fst.s) [V.str (Str.ofString "fault"), V.str (cont wb).neg.s]) = !decide (an1 = cont wb) from stops_at]
        by_cases hst : an1 = cont wb
        · rw [decide_eq_true hst]
          rw [if_pos hst] at hrun2
          walk_at "ga"
          refine ⟨d, CA.mono (by walk_at "ext") d x hR, by omega, by omega, fun r tvs H4 e4 nr hr4 hE4 => ?_⟩
          have : At H4 r (.lst tvs) := ⟨hr4⟩
          walk_at "ga"
          refine ⟨⟨_, _, _, rfl⟩, by walk_at "ext", l1, an.mono _ _ _ (by walk_at "ext") hI3, hrun2, ?_⟩
          show l1.length + _ ≤ 1000
          have : l1.length ≤ li.length + d.ts.length := hrl
          omega
        · rw [decide_eq_false hst]
          rw [if_neg hst] at hrun2
          walk_at "ga"
          have e : run f (.seq wb cs) l = (an1, l1) := hrun2
          rw [e] at h
          exact h _ (by walk_at "ext") (an.mono _ _ _ (by walk_at "ext") hI3)
      · rintro σ' H1 ⟨⟨k, y0, z0, rfl⟩, e1, li, hIi, hrun, hll⟩
        walk_at "ga"
        rw [List.drop_eq_nil_of_le (by omega)] at hrun
        have e : run f (.seq wb cs) l = (cont wb, li) := hrun
        rw [e] at h
        rw [show (cont wb).neg.neg = cont wb by cases wb <;> rfl]
        exact h _ e1 hIi
    cases wb with
    | true =>
      have : At H a (.tup [.str "all", .ref p]) := ⟨e0.at ha⟩
      have : At H p (.tup vs) := ⟨e0.at hp⟩
      walk_at "ga"
      exact goal2 "no" rfl
    | false =>
      have : At H a (.tup [.str "any", .ref p]) := ⟨e0.at ha⟩
      have : At H p (.tup vs) := ⟨e0.at hp⟩
      walk_at "ga"
      exact goal2 "yes" rfl
theorem ok_outcome_by {C : Addr} {s : Sq} {kC : Nat} (n : Nat) (T : Txt w K mg) (CO : Clb PG w K mg base kC C s) : OutOk w K mg base (kC + 20 + 1 + n) (sp3 (pOut C s n)) := by
  induction n with
  | zero => exact out0 T CO
  | succ n ih => exact outS n T CO ih
end

end PB
namespace PB
open PySem PySem.Spec PyProof.Rows L2
local macro_rules | `(tactic| walk_at "rd") => `(tactic| (repeat refine red ?_))
local macro_rules | `(tactic| walk_at "go") => `(tactic| (repeat (first | refine red ?_ | ((with_reducible apply k_var); rfl) | refine k_new fun _ _ => ?_ | refine wp_and rfl ?_ | refine if_redT rfl ?_ | refine if_redF rfl ?_)))
local macro_rules | `(tactic| walk_at "ga") => `(tactic| (repeat (first | refine red ?_ | ((with_reducible apply k_var); rfl) | ((with_reducible apply k_aug); rfl) | refine k_new fun _ _ => ?_ | refine wp_and rfl ?_ | refine if_redT rfl ?_ | refine if_redF rfl ?_)))
local macro_rules | `(tactic| walk_at "ext") => `(tactic| (repeat (first | assumption | exact Ext.refl _ | refine Ext.newI ?_ | refine Ext.trans ?_ ‹Ext _ _›)))
local macro_rules | `(tactic| walk_at "rv") => `(tactic| (repeat (first | refine red ?_ | ((with_reducible apply k_var); rfl))))
/-! ### regions and witnesses -/
def lessN (cs : List Int) (v : Int) : Nat := (cs.filter fun c => decide (c < v)).length
def regn (cs : List Int) (v : Int) : Nat := 2 * lessN cs v + (if v ∈ cs then 1 else 0)
def wit (cs : List Int) (r : Nat) : Option Int :=
  if r % 2 = 1 then cs[r / 2]? else
    if (if r > 0 then (cs[r / 2 - 1]?.getD 0) + 1 else 0) < (if r < 2 * cs.length then (cs[r / 2]?.getD 0) else 100) then some (if r > 0 then (cs[r / 2 - 1]?.getD 0) + 1 else 0) else none
def CutOk (cs : List Int) : Prop := cs = [] ∨ cs = [1] ∨ cs = [2] ∨ cs = [50] ∨ cs = [1, 2] ∨ cs = [1, 50] ∨ cs = [2, 50] ∨ cs = [1, 2, 50]
def optV : Option Int → V
  | none => .non
  | some v => .int v
theorem CutOk.len {cs : List Int} (h : CutOk cs) : cs.length ≤ 3 := by
  rcases h with rfl | rfl | rfl | rfl | rfl | rfl | rfl | rfl <;> decide
class CutAt (H : Hp) (a : Addr) (cs : outParam (List Int)) : Prop where
  h : H a = some (.tup (cs.map V.int))
  ok : CutOk cs
instance {H : Hp} {a : Addr} {cs : List Int} [c : CutAt H a cs] : At H a (.tup (cs.map V.int)) := ⟨c.h⟩
instance (priority := low) cut_ext {H0 H : Hp} {a : Addr} {cs : List Int} [e : Ext H0 H] [c : CutAt H0 a cs] : CutAt H a cs := ⟨e.at c.h, c.ok⟩
theorem inV_ints {x : Int} : ∀ {xs : List Int}, inV (.int x) (xs.map V.int) = decide (x ∈ xs)
  | [] => rfl
  | y :: r => by
    have e : inV (.int x) ((y :: r).map V.int) = (eqV (.int y) (.int x) || inV (.int x) (r.map V.int)) := rfl
    have e2 : eqV (.int y) (.int x) = decide (y = x) := by
      show (y == x) = decide (y = x)
      exact Bool.beq_eq_decide_eq y x
    rw [e, e2, inV_ints]
    by_cases h1 : y = x
    · subst h1
      simp
    · have h2 : ¬ x = y := fun z => h1 z.symm
      simp [h1, h2]
theorem flat_ints : ∀ {xs : List Int}, (xs.map V.int).all flatV = true
  | [] => rfl
  | _ :: r => by
    show (true && (r.map V.int).all flatV) = true
    rw [flat_ints]
    rfl
section
variable {w : World} {K : PySem.W.Frag} {mg : Str → Option Value} {base : Heap}
def pRegion (cuts v : V) (H : Hp) (Q : VK) : Prop := ∃ a cs i, cuts = .ref a ∧ CutAt H a cs ∧ v = .int i ∧ ∀ H', Ext H H' → Q (.int (regn cs i : Nat)) H'
instance {a : Addr} {cs : List Int} {i : Int} {H : Hp} {Q : VK} [c : CutAt H a cs] : Red (pRegion (.ref a) (.int i) H Q) (∀ H', Ext H H' → Q (.int (regn cs i : Nat)) H') := ⟨fun h => ⟨a, cs, i, rfl, c, rfl, h⟩⟩
theorem ok_region  (T : Txt w K mg) : Cal PG w K mg base (0 + 1) "region" (sp2 pRegion) := by
  obtain ⟨fd, F⟩ := T.d_region
  refine cal_mk F T.g_region sc_region (fun _ _ _ _ _ _ us hl => match us, hl with | [_, _], _ => rfl) fun cdv A outer s0 H vs Q E hr h => ?_
  obtain ⟨_, _, rfl, a, cs, i, rfl, hA, rfl, h⟩ := h
  have hl := hA.ok.len
  refine ⟨_, pss_cons (ps_set (i := 2) sc_region.nd rfl (by first | exact Or.inl rfl | exact Or.inr rfl) (pe_callB (call_lenK (K := K) rfl) (by rfl) T.f_len (by decide +kernel) (pa_cons (pe_lc (own := [("cut", 3)]) rfl sc_region.nd (pi_seq (pv 0)) (blkOk_by (own := [("cut", 3)]) (N := ["cuts", "value", "less", "cut"]) (sc := defScope S_region) (by decide +kernel)) (fun _ _ _ _ _ => (pg_name (i := 3) sc_region.nd rfl (by first | exact Or.inl rfl | exact Or.inr rfl))) (fun _ _ _ _ _ => pts_one (pt_cmpR op_lt (pv 3) (pv 1) (nomark _))) (fun _ _ _ _ _ => (pv 3))) pa_nil)))
      (pss_one (ps_ret (pe_ifExp (pt_cmpR (op_inK (K := K) rfl) (pv 1) (pv 0) (by rfl)) (pe_op op_add (pe_op op_mul (pe_int) (pv 2)) (pe_int)) (pe_op op_mul (pe_int) (pv 2))))), ?_⟩
  refine start_to (σ := [some _, some _, none, none]) rfl ?_
  try dsimp only [cxOf]
  walk_at "go"
  refine lc_ds cs (fun c => if c < i then some c else none) (VR V.int) (fun _ h => h) (by simp) (by simp; show cs.length ≤ 2 ^ 24; omega) ?_ ?_
  · intro j x c H1 H2 D hc e1 nD hA hy N1 N2 k1 k2
    obtain ⟨rfl, hx⟩ := hy
    rw [List.getElem?_map, hc] at hx
    cases hx
    walk_at "go"
    by_cases hlt : c < i
    · rw [decide_eq_true hlt]
      walk_at "go"
      exact k1 _ _ c (Ext.refl _) (by rw [if_pos hlt]) rfl
    · rw [decide_eq_false hlt]
      walk_at "go"
      exact k2 _ (Ext.refl _) (by rw [if_neg hlt])
  · intro D H1 ys nD e1 hD hE
    have hys := each_val hE
    have e2 : (cs.filterMap fun c => if c < i then some c else none) = cs.filter fun c => decide (c < i) := by
      rw [← List.filterMap_eq_filter]
      congr 1
      funext c
      unfold Option.guard
      simp
    rw [e2] at hys
    have : At H1 D (.lst ys) := ⟨hD⟩
    walk_at "go"
    refine ⟨a, _, rfl, .inr (SqT.of (e1.at hA.h)), rfl, flat_ints, ?_⟩
    rw [show (if false = true then !inV (V.int i) (cs.map V.int) else inV (V.int i) (cs.map V.int)) = decide (i ∈ cs) from inV_ints]
    have hlen : ys.length = lessN cs i := by rw [hys, List.length_map]; rfl
    by_cases hm : i ∈ cs
    · rw [decide_eq_true hm]
      walk_at "go"
      refine ⟨.inl (by decide), ?_⟩
      walk_at "go"
      have e : (2 : Int) * ((ys.length : Nat) : Int) + 1 = ((regn cs i : Nat) : Int) := by unfold regn; rw [if_pos hm, hlen]; omega
      rw [e]
      exact h _ e1
    · rw [decide_eq_false hm]
      walk_at "go"
      refine ⟨.inl (by decide), ?_⟩
      walk_at "go"
      have e : (2 : Int) * ((ys.length : Nat) : Int) = ((regn cs i : Nat) : Int) := by unfold regn; rw [if_neg hm, hlen]; omega
      rw [e]
      exact h _ e1
def pWitness (cuts v : V) (H : Hp) (Q : VK) : Prop := ∃ a cs r, cuts = .ref a ∧ CutAt H a cs ∧ v = .int (r : Nat) ∧ r ≤ 2 * cs.length ∧ Q (optV (wit cs r)) H
theorem ok_witness  (T : Txt w K mg) : Cal PG w K mg base (2 + 1) "witness" (sp2 pWitness) := by
  obtain ⟨fd, F⟩ := T.d_witness
  refine cal_mk F T.g_witness sc_witness (fun _ _ _ _ _ _ us hl => match us, hl with | [_, _], _ => rfl) fun cdv A outer s0 H vs Q E hr h => ?_
  obtain ⟨_, _, rfl, a, cs, r, rfl, hA, rfl, hr1, h⟩ := h
  have hl := hA.ok.len
  have c_is_number := ok_is_number (base := base) T
  refine ⟨_, pss_cons (ps_if (pt_not (pt_val (pe_cl c_is_number hr (by first | decide | omega) rfl (pa_cons (pv 1) (pa_cons (pe_int) (pa_cons (pe_op op_mul (pe_int) (pe_callB (call_lenK (K := K) rfl) (by rfl) T.f_len (by decide +kernel) (pa_cons (pv 0) pa_nil))) pa_nil)))))) (pss_one (ps_ret (pe_non))) pss_nil)
      (pss_cons (ps_if (pt_cmpR op_eq (pe_op op_mod (pv 1) (pe_int)) (pe_int) (nomark _)) (pss_one (ps_ret (pe_ix (ix_anyK (K := K) rfl) (pv 0) (pe_op op_fdiv (pv 1) (pe_int)) (fun _ _ => rfl)))) pss_nil)
      (pss_cons (ps_set (i := 2) sc_witness.nd rfl (by first | exact Or.inl rfl | exact Or.inr rfl) (pe_ifExp (pt_cmpR op_gt (pv 1) (pe_int) (nomark _)) (pe_op op_add (pe_ix (ix_anyK (K := K) rfl) (pv 0) (pe_op op_sub (pe_op op_fdiv (pv 1) (pe_int)) (pe_int)) (fun _ _ => rfl)) (pe_int)) (pe_int)))
      (pss_cons (ps_set (i := 3) sc_witness.nd rfl (by first | exact Or.inl rfl | exact Or.inr rfl) (pe_ifExp (pt_cmpR op_lt (pv 1) (pe_op op_mul (pe_int) (pe_callB (call_lenK (K := K) rfl) (by rfl) T.f_len (by decide +kernel) (pa_cons (pv 0) pa_nil))) (nomark _)) (pe_ix (ix_anyK (K := K) rfl) (pv 0) (pe_op op_fdiv (pv 1) (pe_int)) (fun _ _ => rfl)) (pe_int)))
      (pss_one (ps_ret (pe_ifExp (pt_cmpR op_lt (pv 2) (pv 3) (nomark _)) (pv 2) (pe_non))))))), ?_⟩
  refine start_to (σ := [some _, some _, none, none]) rfl ?_
  try dsimp only [cxOf]
  have hml : (cs.map V.int).length = cs.length := by simp
  have nth : ∀ (k : Nat) (i : Int), i = (k : Nat) → k < cs.length → Nth (cs.map V.int) i (.int (cs[k]?.getD 0)) := fun k i e hk => ⟨by
    subst e
    unfold atI ixN
    rw [if_pos (by omega), if_pos (by rw [hml]; omega)]
    show (cs.map V.int)[((k : Nat) : Int).toNat]? = _
    rw [Int.toNat_natCast, List.getElem?_map, List.getElem?_eq_getElem hk]
    rfl⟩
  have s2 : ∀ i : Int, CMul 2 i := fun i => .inl (by decide)
  have d2 : ∀ i : Int, CDiv i 2 := fun i => by show (0 : Int) < 2 ∧ (2 : Int) < 1073741824; decide
  walk_at "go"
  refine ⟨s2 _, ?_⟩
  walk_at "go"
  refine ⟨by omega, by rw [hml]; omega, ?_⟩
  walk_at "go"
  refine ⟨by decide, ?_⟩
  walk_at "go"
  by_cases hodd : r % 2 = 1
  · rw [decide_eq_true (show ((r : Nat) : Int) % 2 = 1 by omega)]
    walk_at "go"
    refine ⟨d2 _, ?_⟩
    have hk : r / 2 < cs.length := by omega
    have := nth (r / 2) (((r : Nat) : Int) / 2) (by omega) hk
    walk_at "go"
    unfold wit at h
    rw [if_pos hodd, List.getElem?_eq_getElem hk] at h
    rw [List.getElem?_eq_getElem hk]
    exact h
  · rw [decide_eq_false (show ¬ ((r : Nat) : Int) % 2 = 1 by omega)]
    unfold wit at h
    rw [if_neg hodd] at h
    walk_at "go"
    by_cases hpos : r > 0
    · rw [decide_eq_true (show (0 : Int) < ((r : Nat) : Int) by omega)]
      rw [if_pos hpos] at h
      walk_at "go"
      refine ⟨d2 _, ?_⟩
      have := nth (r / 2 - 1) (((r : Nat) : Int) / 2 - 1) (by omega) (by omega)
      walk_at "go"
      refine ⟨s2 _, ?_⟩
      walk_at "go"
      rw [hml]
      by_cases hlt : r < 2 * cs.length
      · rw [decide_eq_true (show ((r : Nat) : Int) < 2 * ((cs.length : Nat) : Int) by omega)]
        rw [if_pos hlt] at h
        walk_at "go"
        refine ⟨d2 _, ?_⟩
        have := nth (r / 2) (((r : Nat) : Int) / 2) (by omega) (by omega)
        walk_at "go"
        by_cases hh : (cs[r / 2 - 1]?.getD 0 + 1 : Int) < cs[r / 2]?.getD 0
        · rw [if_pos hh] at h
          rw [decide_eq_true hh]
          walk_at "go"
          exact h
        · rw [if_neg hh] at h
          rw [decide_eq_false hh]
          walk_at "go"
          exact h
      · rw [decide_eq_false (show ¬ ((r : Nat) : Int) < 2 * ((cs.length : Nat) : Int) by omega)]
        rw [if_neg hlt] at h
        walk_at "go"
        by_cases hh : (cs[r / 2 - 1]?.getD 0 + 1 : Int) < 100
        · rw [if_pos hh] at h
          rw [decide_eq_true hh]
          walk_at "go"
          exact h
        · rw [if_neg hh] at h
          rw [decide_eq_false hh]
          walk_at "go"
          exact h
    · rw [decide_eq_false (show ¬ (0 : Int) < ((r : Nat) : Int) by omega)]
      rw [if_neg hpos] at h
      walk_at "go"
      refine ⟨s2 _, ?_⟩
      walk_at "go"
      rw [hml]
      by_cases hlt : r < 2 * cs.length
      · rw [decide_eq_true (show ((r : Nat) : Int) < 2 * ((cs.length : Nat) : Int) by omega)]
        rw [if_pos hlt] at h
        walk_at "go"
        refine ⟨d2 _, ?_⟩
        have := nth (r / 2) (((r : Nat) : Int) / 2) (by omega) (by omega)
        walk_at "go"
        by_cases hh : (0 : Int) < cs[r / 2]?.getD 0
        · rw [if_pos hh] at h
          rw [decide_eq_true hh]
          walk_at "go"
          exact h
        · rw [if_neg hh] at h
          rw [decide_eq_false hh]
          walk_at "go"
          exact h
      · rw [decide_eq_false (show ¬ ((r : Nat) : Int) < 2 * ((cs.length : Nat) : Int) by omega)]
        rw [if_neg hlt] at h
        walk_at "go"
        rw [if_pos (by decide)] at h
        exact h
end

end PB
namespace PB
open PySem PySem.Spec PyProof.Rows L2
local macro_rules | `(tactic| walk_at "rd") => `(tactic| (repeat refine red ?_))
local macro_rules | `(tactic| walk_at "go") => `(tactic| (repeat (first | refine red ?_ | ((with_reducible apply k_var); rfl) | refine k_new fun _ _ => ?_ | refine wp_and rfl ?_ | refine if_redT rfl ?_ | refine if_redF rfl ?_)))
local macro_rules | `(tactic| walk_at "ga") => `(tactic| (repeat (first | refine red ?_ | ((with_reducible apply k_var); rfl) | ((with_reducible apply k_aug); rfl) | refine k_new fun _ _ => ?_ | refine wp_and rfl ?_ | refine if_redT rfl ?_ | refine if_redF rfl ?_)))
local macro_rules | `(tactic| walk_at "ext") => `(tactic| (repeat (first | assumption | exact Ext.refl _ | refine Ext.newI ?_ | refine Ext.trans ?_ ‹Ext _ _›)))
local macro_rules | `(tactic| walk_at "rv") => `(tactic| (repeat (first | refine red ?_ | ((with_reducible apply k_var); rfl))))
inductive Cell where
  | non | bl (b : Bool) | rg (r : Nat)
def Cell.v : Cell → V
  | .non => V.non
  | .bl b => V.bl b
  | .rg r => V.int (r : Nat)
def regs (cs : List Int) : List Nat := (List.range (2 * cs.length + 1)).filter fun r => (wit cs r).isSome
def rowsOf {α : Type} (css : List (List α)) : List (List α) := css.foldl (fun found some => found.flatMap fun row => some.map fun one => row ++ [one]) [[]]
structure Pict where
  row : Bool
  cells : List Cell
def bareCh (cuts : Cuts) : List (List Cell) := cuts.map fun _ => [.bl false, .bl true]
def fullCh (cuts : Cuts) : List (List Cell) := cuts.map fun c => .non :: (regs c.2).map Cell.rg
def picsOf (cuts : Cuts) : List Pict := (rowsOf (bareCh cuts)).map (fun r => ⟨false, r⟩) ++ (rowsOf (fullCh cuts)).map fun r => ⟨true, r⟩
def CutsOk (cuts : Cuts) : Prop := (cuts.map (·.1)).Nodup ∧ (∀ c, c ∈ cuts → Nm c.1 ∧ CutOk c.2) ∧ cuts.length ≤ 3
theorem regs_len {cs : List Int} (h : CutOk cs) : (regs cs).length ≤ 7 := by
  rcases h with rfl | rfl | rfl | rfl | rfl | rfl | rfl | rfl <;> decide
theorem rowsOf_snoc {α : Type} {css : List (List α)} {cs : List α} : rowsOf (css ++ [cs]) = (rowsOf css).flatMap fun row => cs.map fun one => row ++ [one] := by
  unfold rowsOf
  rw [List.foldl_append]
  rfl
theorem flatMap_len {α β : Type} {f : α → List β} {k : Nat} : ∀ {l : List α}, (∀ a, a ∈ l → (f a).length ≤ k) → (l.flatMap f).length ≤ l.length * k
  | [], _ => by simp
  | a :: l, h => by
    have h1 := h a List.mem_cons_self
    have h2 := flatMap_len (l := l) fun a m => h a (List.mem_cons_of_mem _ m)
    rw [List.flatMap_cons, List.length_append, List.length_cons, Nat.succ_mul]
    omega
theorem rows_take {α : Type} {css : List (List α)} (h : ∀ cs, cs ∈ css → cs.length ≤ 8) : ∀ i, i ≤ css.length → (rowsOf (css.take i)).length ≤ 8 ^ i
  | 0, _ => by simp [rowsOf]
  | i + 1, hi => by
    have ih := rows_take h i (by omega)
    have hlt : i < css.length := hi
    rw [List.take_add_one, List.getElem?_eq_getElem hlt]
    show (rowsOf (css.take i ++ [css[i]])).length ≤ _
    rw [rowsOf_snoc, Nat.pow_succ]
    refine Nat.le_trans (flatMap_len (k := 8) fun a _ => ?_) (Nat.mul_le_mul_right 8 ih)
    rw [List.length_map]
    exact h _ (List.getElem_mem hlt)
theorem row_len {α : Type} {css : List (List α)} : ∀ {row : List α}, row ∈ rowsOf css → row.length = css.length := by
  have key : ∀ (n : Nat) (css : List (List α)), css.length = n → ∀ row, row ∈ rowsOf css → row.length = css.length := by
    intro n
    induction n with
    | zero =>
      intro css h row hr
      have e : css = [] := List.length_eq_zero_iff.mp h
      subst e
      simp [rowsOf] at hr
      subst hr
      rfl
    | succ n ih =>
      intro css h row hr
      have hne : css ≠ [] := fun z => by rw [z] at h; simp at h
      rw [← List.dropLast_concat_getLast hne] at hr
      rw [rowsOf_snoc] at hr
      obtain ⟨r1, h1, h2⟩ := List.mem_flatMap.mp hr
      obtain ⟨o, _, rfl⟩ := List.mem_map.mp h2
      have := ih css.dropLast (by rw [List.length_dropLast]; omega) r1 h1
      rw [List.length_append, this, List.length_dropLast]
      simp
      omega
  exact fun {row} h => key _ css rfl row h
def CutV (H : Hp) (v : V) (cs : List Int) : Prop := ∃ a, v = .ref a ∧ H a = some (.tup (cs.map V.int))
theorem CutV.mono {H H' : Hp} {v : V} {cs : List Int} (e : Ext H H') (h : CutV H v cs) : CutV H' v cs := by
  obtain ⟨a, x, y⟩ := h
  exact ⟨a, x, e.at y⟩
def ckey (c : Str × List Int) : Key × List Int := (.inr c.1, c.2)
/-- a dict of cuts -/
class CutsIs (H : Hp) (d : Addr) (cuts : outParam Cuts) : Prop where
  h : ∃ kvs, H d = some (.dK kvs) ∧ Paired (KR CutV H) kvs (cuts.map ckey)
  ok : CutsOk cuts
instance (priority := low) cutsis_ext {H0 H : Hp} {d : Addr} {cuts : Cuts} [e : Ext H0 H] [c : CutsIs H0 d cuts] : CutsIs H d cuts := ⟨by
  obtain ⟨kvs, a, b⟩ := c.h
  exact ⟨kvs, e.at a, Paired.mapP b fun v d q => ⟨q.1, q.2.mono e⟩⟩, c.ok⟩
def CellsR (H : Hp) (v : V) (cs : List Cell) : Prop := ∃ b, v = .ref b ∧ H b = some (.lst (cs.map Cell.v))
def RowR (H : Hp) (v : V) (cs : List Cell) : Prop := ∃ b, v = .ref b ∧ H b = some (.tup (cs.map Cell.v))
theorem RowR.mono {H H' : Hp} {v : V} {cs : List Cell} (e : Ext H H') (h : RowR H v cs) : RowR H' v cs := by
  obtain ⟨a, x, y⟩ := h
  exact ⟨a, x, e.at y⟩
theorem RowR.hid {H : Hp} {v : V} {cs : List Cell} {D : Addr} {o : HO} (h : RowR H v cs) (hD : H D = some o) (ho : ∀ xs, o ≠ .tup xs) : RowR (Hid D H) v cs := by
  obtain ⟨a, x, y⟩ := h
  exact ⟨a, x, Hid.at y (ne_of_at y hD fun z => ho _ z.symm)⟩
section
variable {w : World} {K : PySem.W.Frag} {mg : Str → Option Value} {base : Heap}
def pThere (cuts : V) (H : Hp) (Q : VK) : Prop := ∃ a cs, cuts = .ref a ∧ CutAt H a cs ∧ ∀ r H', Ext H H' → New H r → H' r = some (.lst ((regs cs).map fun (r : Nat) => V.int (r : Nat))) → Q (.ref r) H'
theorem ok_regions_there  (T : Txt w K mg) : Cal PG w K mg base (3 + 1) "regions_there" (sp1 pThere) := by
  obtain ⟨fd, F⟩ := T.d_regions_there
  refine cal_mk F T.g_regions_there sc_regions_there (fun _ _ _ _ _ _ us hl => match us, hl with | [_], _ => rfl) fun cdv A outer s0 H vs Q E hr h => ?_
  obtain ⟨_, rfl, a, cs, rfl, hA, h⟩ := h
  have hl := hA.ok.len
  have c_witness := ok_witness (base := base) T
  have s2 : ∀ i : Int, CMul 2 i := fun i => .inl (by decide)
  refine ⟨_, pss_one (ps_ret (pe_lc (own := [("number", 1)]) rfl sc_regions_there.nd (pi_range1 (by rfl) T.f_range (pa_cons (pe_op op_add (pe_op op_mul (pe_int) (pe_callB (call_lenK (K := K) rfl) (by rfl) T.f_len (by decide +kernel) (pa_cons (pv 0) pa_nil))) (pe_int)) pa_nil)) (blkOk_by (own := [("number", 1)]) (N := ["cuts", "number"]) (sc := defScope S_regions_there) (by decide +kernel)) (fun _ _ _ _ _ => (pg_name (i := 1) sc_regions_there.nd rfl (by first | exact Or.inl rfl | exact Or.inr rfl))) (fun _ _ _ _ _ => pts_one (pt_cmpR op_notNK (pe_cl c_witness hr (by first | decide | omega) rfl (pa_cons (pv 0) (pa_cons (pv 1) pa_nil))) (pe_non) (nomark _))) (fun _ _ _ _ _ => (pv 1)))), ?_⟩
  refine start_to (σ := [some _, none]) rfl ?_
  try dsimp only [cxOf]
  walk_at "go"
  refine ⟨s2 _, ?_⟩
  walk_at "go"
  have hn : ((2 : Int) * (((cs.map V.int).length : Nat) : Int) + 1).toNat = 2 * cs.length + 1 := by rw [List.length_map]; omega
  refine ⟨by rw [List.length_map]; omega, ?_⟩
  rw [hn]
  refine lc_ds (List.range (2 * cs.length + 1)) (fun r => if (wit cs r).isSome then some r else none) (VR fun (r : Nat) => V.int (r : Nat)) (fun _ h => h) (by simp) (by show 2 * cs.length + 1 ≤ 2 ^ 24; omega) ?_ ?_
  · intro i x d H1 H2 D hd e1 nD hA2 hy N1 N2 k1 k2
    obtain ⟨rfl, rfl⟩ := hy
    have hi : i < 2 * cs.length + 1 := by
      have := (List.getElem?_eq_some_iff.mp hd).1
      simpa using this
    have hdi : d = i := by
      rw [List.getElem?_range hi] at hd
      injection hd with hd
      exact hd.symm
    subst hdi
    dsimp only
    rw [show (0 : Int) + ((d : Nat) : Int) = ((d : Nat) : Int) by omega]
    walk_at "go"
    refine ⟨a, cs, d, rfl, inferInstance, rfl, by omega, ?_⟩
    cases hw : wit cs d with
    | none =>
      rw [show optV none = V.non from rfl]
      walk_at "go"
      exact k2 _ (Ext.refl _) (by rw [hw]; rfl)
    | some v =>
      rw [show optV (some v) = V.int v from rfl]
      walk_at "go"
      exact k1 _ _ d (Ext.refl _) (by rw [hw]; rfl) rfl
  · intro D H1 ys nD e1 hD hE
    have hys := each_val hE
    have e2 : ((List.range (2 * cs.length + 1)).filterMap fun r => if (wit cs r).isSome then some r else none) = regs cs := by
      unfold regs
      rw [← List.filterMap_eq_filter]
      congr 1
    rw [e2] at hys
    subst hys
    exact h D H1 e1 nD hD
/-- rows_of_choices -/
def pRows (v : V) (H : Hp) (Q : VK) : Prop := ∃ a vs css, v = .ref a ∧ H a = some (.lst vs) ∧ Each CellsR H vs css ∧ css.length ≤ 3 ∧ (∀ cs, cs ∈ css → cs.length ≤ 8) ∧ ∀ r ys H', Ext H H' → H' r = some (.lst ys) → Each RowR H' ys (rowsOf css) → Q (.ref r) H'
theorem ok_rows_of_choices  (T : Txt w K mg) : Cal PG w K mg base (0 + 1) "rows_of_choices" (sp1 pRows) := by
  obtain ⟨fd, F⟩ := T.d_rows_of_choices
  refine cal_mk F T.g_rows_of_choices sc_rows_of_choices (fun _ _ _ _ _ _ us hl => match us, hl with | [_], _ => rfl) fun cdv A outer s0 H vs Q E hr h => ?_
  obtain ⟨_, rfl, a, vs, css, rfl, hA, hE, hl, h8, h⟩ := h
  have : At H a (.lst vs) := ⟨hA⟩
  have hlen := hE.len
  refine ⟨_, pss_cons (ps_set (i := 1) sc_rows_of_choices.nd rfl (by first | exact Or.inl rfl | exact Or.inr rfl) (pe_lst (pa_cons (pe_tup pa_nil) pa_nil)))
      (pss_cons (ps_for PassesOwn.never rfl (pi_seq (pv 0)) (pg_name (i := 2) sc_rows_of_choices.nd rfl (by first | exact Or.inl rfl | exact Or.inr rfl)) (pss_one (ps_setLc2 (i := 1) (own := [("row", 3), ("one", 4)]) (vs1 := [4]) rfl sc_rows_of_choices.nd rfl rfl (sw_true rfl rfl rfl (by decide +kernel)) (pi_seq (pv 1)) (blkOk_by (own := [("row", 3), ("one", 4)]) (N := ["choices", "found", "some", "row", "one"]) (sc := defScope S_rows_of_choices) (by decide +kernel)) (by decide) (fun _ _ _ _ _ => (pg_name (i := 3) sc_rows_of_choices.nd rfl (by first | exact Or.inl rfl | exact Or.inr rfl))) (fun _ _ _ _ _ => pts_nil) (fun _ _ _ _ _ => (pi_seqK (K := K) rfl (pv 2))) (fun _ _ _ _ _ => (pg_name (i := 4) sc_rows_of_choices.nd rfl (by first | exact Or.inl rfl | exact Or.inr rfl))) (fun _ _ _ _ _ => pts_nil) (fun _ _ _ _ _ => (pe_tup (pa_starK (K := K) rfl (pv 3) (pa_cons (pv 4) pa_nil)))))))
      (pss_one (ps_ret (pv 1)))), ?_⟩
  refine start_to (σ := [some _, none, none, none, none]) rfl ?_
  try dsimp only [cxOf]
  walk_at "go"
  rename_i t ht f hf
  have htf : t ≠ f := fun z => by
    have q := hf.h
    rw [← z, upd_same] at q
    cases q
  have e0 : Ext H (upd (upd H t (.tup [])) f (.lst [.ref t])) := by walk_at "ext"
  refine for_go (fun i σ' H' => (∃ (f : Addr) (x y z : Option V) (ys : List V), σ' = [some (V.ref a), some (.ref f), x, y, z] ∧ H' f = some (.lst ys) ∧ Each RowR H' ys (rowsOf (css.take i))) ∧ Ext H H') ⟨⟨f, none, none, none, [.ref t], rfl, upd_same, .cons ⟨t, rfl, by rw [upd_ne htf]; exact upd_same⟩ .nil⟩, e0⟩ (fun i σ' H' _ q => sub_at (e0.at hA) (q.2.at hA)) ?_ ?_
  · rintro i x σ' H1 H2 hi ⟨⟨f1, x0, y0, z0, ys, rfl, hf1, hE1⟩, e1⟩ ⟨rfl, hx⟩
    obtain ⟨cs, hcs, b, rfl, hb⟩ := hE.get hx
    have : At H2 f1 (.lst ys) := ⟨hf1⟩
    have hb2 : H2 b = some (.lst (cs.map Cell.v)) := e1.at hb
    have hyl := hE1.len
    have hr1 := rows_take h8 i (by omega)
    have hc8 := h8 cs (List.mem_of_getElem? hcs)
    have hp : (8 : Nat) ^ i ≤ 8 ^ 2 := Nat.pow_le_pow_right (by decide) (by omega)
    walk_at "go"
    refine lc2_ds (rowsOf (css.take i)) cs (fun row one => row ++ [one]) RowR (fun e h => h.mono e) hyl ?_ ?_ ?_
    · have : (rowsOf (css.take i)).length * cs.length ≤ 8 ^ 2 * 8 := Nat.mul_le_mul (Nat.le_trans hr1 hp) hc8
      show _ ≤ 2 ^ 24
      omega
    · intro j y row H3 H4 D hrow e3 nD hA3 hy Nx _ kin
      obtain ⟨rfl, hy⟩ := hy
      obtain ⟨row', hrow', b2, rfl, hb2'⟩ := hE1.get hy
      rw [hrow] at hrow'
      cases hrow'
      obtain ⟨acc, hacc⟩ := hA3
      have hbD : b ≠ D := ne_of_none hb2 nD.h
      have hb2D : b2 ≠ D := ne_of_none hb2' nD.h
      have : At H4 b (.lst (cs.map Cell.v)) := ⟨e3.at hb2⟩
      walk_at "go"
      intro J1 G1 w1 hG1
      refine kin _ J1 H4 b _ G1 (by rw [List.length_map] at w1; exact w1) hG1 hbD (Ext.refl _) fun k y2 one H5 H6 hone e5 hA5 hy2 N1 kN1 N2 => ?_
      obtain ⟨rfl, hy2⟩ := hy2
      rw [List.getElem?_map, hone] at hy2
      cases hy2
      have : At H6 b2 (.tup (row.map Cell.v)) := ⟨e5.at (Hid.at (e3.at hb2') hb2D)⟩
      obtain ⟨acc5, hacc5⟩ := hA5
      walk_at "go"
      have hrl : row.length ≤ 3 := by
        have := row_len (css := css.take i) (row := row) (List.mem_of_getElem? hrow)
        rw [this, List.length_take]
        omega
      refine ⟨by simp; show row.length + 1 ≤ 2 ^ 24; omega, ?_⟩
      walk_at "go"
      rename_i p hp
      have hpD : p ≠ D := fun z => by
        have q := hp.h
        rw [z, hacc5] at q
        cases q
      refine kN1 _ _ (by walk_at "ext") ⟨p, rfl, Hid.at ?_ hpD⟩
      rw [upd_same, List.map_append]
      rfl
    · intro D H3 ys3 nD e3 hD hE3
      walk_at "go"
      refine ⟨⟨D, _, _, _, ys3, rfl, hD, ?_⟩, e1.trans e3⟩
      rw [List.take_add_one, hcs]
      show Each RowR H3 ys3 (rowsOf (css.take i ++ [cs]))
      rw [rowsOf_snoc]
      exact Paired.mapP hE3 fun v d q => RowR.mono (Hid.sub _ _) q
  · rintro σ' H1 ⟨⟨f1, x0, y0, z0, ys, rfl, hf1, hE1⟩, e1⟩
    walk_at "go"
    rw [List.take_of_length_le (by omega)] at hE1
    exact h f1 ys H1 e1 hf1 hE1
end

end PB
namespace PB
open PySem PySem.Spec PyProof.Rows L2
local macro_rules | `(tactic| walk_at "rd") => `(tactic| (repeat refine red ?_))
local macro_rules | `(tactic| walk_at "go") => `(tactic| (repeat (first | refine red ?_ | ((with_reducible apply k_var); rfl) | refine k_new fun _ _ => ?_ | refine wp_and rfl ?_ | refine if_redT rfl ?_ | refine if_redF rfl ?_)))
local macro_rules | `(tactic| walk_at "ga") => `(tactic| (repeat (first | refine red ?_ | ((with_reducible apply k_var); rfl) | ((with_reducible apply k_aug); rfl) | refine k_new fun _ _ => ?_ | refine wp_and rfl ?_ | refine if_redT rfl ?_ | refine if_redF rfl ?_)))
local macro_rules | `(tactic| walk_at "ext") => `(tactic| (repeat (first | assumption | exact Ext.refl _ | refine Ext.newI ?_ | refine Ext.trans ?_ ‹Ext _ _›)))
local macro_rules | `(tactic| walk_at "rv") => `(tactic| (repeat (first | refine red ?_ | ((with_reducible apply k_var); rfl))))
theorem keys_get {cuts : Cuts} {kvs : List (Key × V)} {H : Hp} (hP : Paired (KR CutV H) kvs (cuts.map ckey)) {i : Nat} {k : Key} {v : V} (h : kvs[i]? = some (k, v)) : ∃ c, cuts[i]? = some c ∧ k = .inr c.1 ∧ CutV H v c.2 := by
  obtain ⟨q, hq, h1, h2⟩ := getP hP h
  rw [List.getElem?_map] at hq
  cases hc : cuts[i]? with
  | none => rw [hc] at hq; cases hq
  | some c => rw [hc] at hq; cases hq; exact ⟨c, rfl, h1, h2⟩
theorem CellsR.mono {H H' : Hp} {v : V} {cs : List Cell} (e : Ext H H') (h : CellsR H v cs) : CellsR H' v cs := by
  obtain ⟨a, x, y⟩ := h
  exact ⟨a, x, e.at y⟩
def PictR (H : Hp) (v : V) (p : Pict) : Prop := ∃ a b, v = .ref a ∧ H a = some (.tup [.bl p.row, .ref b]) ∧ H b = some (.tup (p.cells.map Cell.v))
theorem PictR.mono {H0 H1 : Hp} {v : V} {p : Pict} (e : Ext H0 H1) (h : PictR H0 v p) : PictR H1 v p := by
  obtain ⟨a, b, x, y, z⟩ := h
  exact ⟨a, b, x, e.at y, e.at z⟩
theorem PictR.hid {H : Hp} {v : V} {p : Pict} {D : Addr} {o : HO} (h : PictR H v p) (hD : H D = some o) (ho : ∀ xs, o ≠ .tup xs) : PictR (Hid D H) v p := by
  obtain ⟨a, b, x, y, z⟩ := h
  exact ⟨a, b, x, Hid.at y (ne_of_at y hD fun z => ho _ z.symm), Hid.at z (ne_of_at z hD fun z => ho _ z.symm)⟩
theorem rows_all {α : Type} {css : List (List α)} (hl : css.length ≤ 3) (h : ∀ cs, cs ∈ css → cs.length ≤ 8) : (rowsOf css).length ≤ 512 := by
  have := rows_take h css.length (Nat.le_refl _)
  rw [List.take_length] at this
  have h2 : (8 : Nat) ^ css.length ≤ 8 ^ 3 := Nat.pow_le_pow_right (by decide) hl
  omega
theorem bare_ok {cuts : Cuts} (h : CutsOk cuts) : (bareCh cuts).length ≤ 3 ∧ ∀ cs, cs ∈ bareCh cuts → cs.length ≤ 8 := by
  unfold bareCh
  refine ⟨by rw [List.length_map]; exact h.2.2, fun cs hc => ?_⟩
  obtain ⟨c, _, rfl⟩ := List.mem_map.mp hc
  decide
theorem full_ok {cuts : Cuts} (h : CutsOk cuts) : (fullCh cuts).length ≤ 3 ∧ ∀ cs, cs ∈ fullCh cuts → cs.length ≤ 8 := by
  unfold fullCh
  refine ⟨by rw [List.length_map]; exact h.2.2, fun cs hc => ?_⟩
  obtain ⟨c, hm, rfl⟩ := List.mem_map.mp hc
  have := regs_len (h.2.1 c hm).2
  simp
  omega
section
variable {w : World} {K : PySem.W.Frag} {mg : Str → Option Value} {base : Heap}
def pPicsBy (v : V) (H : Hp) (Q : VK) : Prop := ∃ d cuts, v = .ref d ∧ CutsIs H d cuts ∧ ∀ r ys H', Ext H H' → H' r = some (.lst ys) → Each PictR H' ys (picsOf cuts) → Q (.ref r) H'
instance {d : Addr} {cuts : Cuts} {H : Hp} {Q : VK} [c : CutsIs H d cuts] : Red (pPicsBy (.ref d) H Q) (∀ r ys H', Ext H H' → H' r = some (.lst ys) → Each PictR H' ys (picsOf cuts) → Q (.ref r) H') := ⟨fun h => ⟨d, cuts, rfl, c, h⟩⟩
theorem ok_pictures_by  (T : Txt w K mg) : Cal PG w K mg base (4 + 1) "pictures_by" (sp1 pPicsBy) := by
  obtain ⟨fd, F⟩ := T.d_pictures_by
  refine cal_mk F T.g_pictures_by sc_pictures_by (fun _ _ _ _ _ _ us hl => match us, hl with | [_], _ => rfl) fun cdv A outer s0 H vs Q E hr h => ?_
  obtain ⟨_, rfl, d, cuts, rfl, ⟨⟨kvs, hd, hP⟩, ok⟩, h⟩ := h
  have c_rows_of_choices := (ok_rows_of_choices (base := base) T).mono (show 1 ≤ 4 by omega)
  have c_regions_there := ok_regions_there (base := base) T
  have hkl : kvs.length = cuts.length := by have := Paired.length hP; simpa using this
  have hcl := ok.2.2
  refine ⟨_, pss_cons (ps_set (i := 1) sc_pictures_by.nd rfl (by first | exact Or.inl rfl | exact Or.inr rfl) (pe_cl c_rows_of_choices hr (by first | decide | omega) rfl (pa_cons (pe_lock ((pe_lc (own := [("name", 3)]) rfl sc_pictures_by.nd (pi_keys (pv 0)) (blkOk_by (own := [("name", 3)]) (N := ["cuts", "bare", "full", "name", "some", "row"]) (sc := defScope S_pictures_by) (by decide +kernel)) (fun _ _ _ _ _ => (pg_name (i := 3) sc_pictures_by.nd rfl (by first | exact Or.inl rfl | exact Or.inr rfl))) (fun _ _ _ _ _ => pts_nil) (fun _ _ _ _ _ => (pe_lst (pa_cons (pe_bl) (pa_cons (pe_bl) pa_nil))))))) pa_nil)))
      (pss_cons (ps_set (i := 2) sc_pictures_by.nd rfl (by first | exact Or.inl rfl | exact Or.inr rfl) (pe_cl c_rows_of_choices hr (by first | decide | omega) rfl (pa_cons (pe_lock ((pe_lc (own := [("some", 4)]) rfl sc_pictures_by.nd ((pi_values (pv 0))) (blkOk_by (own := [("some", 4)]) (N := ["cuts", "bare", "full", "name", "some", "row"]) (sc := defScope S_pictures_by) (by decide +kernel)) (fun _ _ _ _ _ => (pg_name (i := 4) sc_pictures_by.nd rfl (by first | exact Or.inl rfl | exact Or.inr rfl))) (fun _ _ _ _ _ => pts_nil) (fun _ _ _ _ _ => (pe_lst (pa_cons (pe_non) (pa_starK (K := K) rfl (pe_cl c_regions_there hr (by first | decide | omega) rfl (pa_cons (pv 4) pa_nil)) pa_nil))))))) pa_nil)))
      (pss_one (ps_ret (pe_op op_catK (pe_lc (own := [("row", 5)]) rfl sc_pictures_by.nd (pi_seq (pv 1)) (blkOk_by (own := [("row", 5)]) (N := ["cuts", "bare", "full", "name", "some", "row"]) (sc := defScope S_pictures_by) (by decide +kernel)) (fun _ _ _ _ _ => (pg_name (i := 5) sc_pictures_by.nd rfl (by first | exact Or.inl rfl | exact Or.inr rfl))) (fun _ _ _ _ _ => pts_nil) (fun _ _ _ _ _ => (pe_tup (pa_cons (pe_bl) (pa_cons (pv 5) pa_nil))))) (pe_lc (own := [("row", 5)]) rfl sc_pictures_by.nd (pi_seq (pv 2)) (blkOk_by (own := [("row", 5)]) (N := ["cuts", "bare", "full", "name", "some", "row"]) (sc := defScope S_pictures_by) (by decide +kernel)) (fun _ _ _ _ _ => (pg_name (i := 5) sc_pictures_by.nd rfl (by first | exact Or.inl rfl | exact Or.inr rfl))) (fun _ _ _ _ _ => pts_nil) (fun _ _ _ _ _ => (pe_tup (pa_cons (pe_bl) (pa_cons (pv 5) pa_nil))))))))), ?_⟩
  refine start_to (σ := [some _, none, none, none, none, none]) rfl ?_
  try dsimp only [cxOf]
  walk_at "go"
  refine lock_in hd fun od => ?_
  walk_at "go"
  refine lc_ds cuts (fun _ => some [Cell.bl false, Cell.bl true]) (fun H v cs => CellsR (Hid d H) v cs) (fun e h => h.mono (Hid.mono e)) hkl (by show kvs.length ≤ 2 ^ 24; omega) ?_ ?_
  · intro i x c H1 H2 D hc e1 nD hA hy N1 N2 k1 k2
    obtain ⟨rfl, k, v, hkv, rfl⟩ := hy
    obtain ⟨acc, hA⟩ := hA
    walk_at "go"
    rename_i p hp
    have hd1 : H2 d = some (.frz od (.dK kvs)) := e1.at upd_same
    have hpD : p ≠ D := fun z => by have q := hp.h; rw [z, hA] at q; cases q
    have hpd : p ≠ d := fun z => by have q := hp.h; rw [z, hd1] at q; cases q
    exact k1 _ _ _ (by walk_at "ext") rfl ⟨p, rfl, Hid.at (Hid.at upd_same hpD) hpd⟩
  · intro D H1 ys nD e1 hD hE
    refine unlkH hd nD e1 hD fun H2 nD e2 hD2 e3 => ?_
    have hE2 : Each CellsR H2 ys (bareCh cuts) := by
      rw [fm_map] at hE
      exact Paired.mapP hE fun v cs q => CellsR.mono ((Hid.mono (Hid.sub D H1)).trans e3) q
    walk_at "go"
    refine ⟨D, ys, bareCh cuts, rfl, hD2, hE2, (bare_ok ok).1, (bare_ok ok).2, fun r1 bs H3 e4 hr1 hB => ?_⟩
    have hd3 : H3 d = some (.dK kvs) := e4.at (e2.at hd)
    walk_at "go"
    refine lock_in hd3 fun od2 => ?_
    walk_at "go"
    refine lc_ds cuts (fun c => some (Cell.non :: (regs c.2).map Cell.rg)) (fun H v cs => CellsR (Hid d H) v cs) (fun e h => h.mono (Hid.mono e)) hkl (by show kvs.length ≤ 2 ^ 24; omega) ?_ ?_
    · intro i x c H4 H5 D2 hc e5 nD2 hA hy N1 N2 k1 k2
      obtain ⟨rfl, k, hkv⟩ := hy
      obtain ⟨c', hc', rfl, a, rfl, ha⟩ := keys_get hP hkv
      rw [hc] at hc'
      cases hc'
      obtain ⟨acc, hA⟩ := hA
      have hcok := (ok.2.1 c (List.mem_of_getElem? hc)).2
      have ha3 : H3 a = some (.tup (c.2.map V.int)) := e4.at (e2.at ha)
      have : CutAt (upd H3 d (.frz od2 (.dK kvs))) a c.2 := ⟨by rw [upd_ne (ne_of_at ha3 hd3 fun z => nomatch z)]; exact ha3, hcok⟩
      have hrl := regs_len hcok
      walk_at "go"
      refine ⟨a, c.2, rfl, inferInstance, fun r H6 e6 nr hr => ?_⟩
      have : At H6 r (.lst ((regs c.2).map fun (r : Nat) => V.int (r : Nat))) := ⟨hr⟩
      walk_at "go"
      refine ⟨by simp; show (regs c.2).length + 1 ≤ 2 ^ 24; omega, ?_⟩
      walk_at "go"
      rename_i p hp
      have hd6 : H6 d = some (.frz od2 (.dK kvs)) := e6.at (e5.at upd_same)
      have hA6 := e6.at hA
      have hpD : p ≠ D2 := fun z => by have q := hp.h; rw [z, hA6] at q; cases q
      have hpd : p ≠ d := fun z => by have q := hp.h; rw [z, hd6] at q; cases q
      refine k1 _ _ _ (by walk_at "ext") rfl ⟨p, rfl, Hid.at (Hid.at ?_ hpD) hpd⟩
      rw [upd_same]
      simp [Cell.v]
    · intro D2 H4 zs nD2 e5 hD3 hE3
      refine unlkH hd3 nD2 e5 hD3 fun H5 nD2 e6 hD5 e7 => ?_
      have hE5 : Each CellsR H5 zs (fullCh cuts) := by
        rw [fm_map] at hE3
        exact Paired.mapP hE3 fun v cs q => CellsR.mono ((Hid.mono (Hid.sub D2 H4)).trans e7) q
      walk_at "go"
      refine ⟨D2, zs, fullCh cuts, rfl, hD5, hE5, (full_ok ok).1, (full_ok ok).2, fun r2 fs H6 e8 hr2 hF => ?_⟩
      have hr16 : H6 r1 = some (.lst bs) := (e6.trans e8).at hr1
      have : At H6 r1 (.lst bs) := ⟨hr16⟩
      have : At H6 r2 (.lst fs) := ⟨hr2⟩
      have hB6 : Each RowR H6 bs (rowsOf (bareCh cuts)) := hB.mono fun v d => RowR.mono (e6.trans e8)
      have hbl := hB6.len
      have hfl := hF.len
      have hb5 := rows_all (bare_ok ok).1 (bare_ok ok).2
      have hf5 := rows_all (full_ok ok).1 (full_ok ok).2
      walk_at "go"
      refine lc_ds (rowsOf (bareCh cuts)) (fun r => some (⟨false, r⟩ : Pict)) PictR (fun e h => h.mono e) hbl (by show bs.length ≤ 2 ^ 24; omega) ?_ ?_
      · intro i x r H7 H8 D3 hr e9 nD3 hA hy N1 N2 k1 k2
        obtain ⟨rfl, hx⟩ := hy
        obtain ⟨r', hr', b, rfl, hb⟩ := hB6.get hx
        rw [hr] at hr'
        cases hr'
        obtain ⟨acc, hA⟩ := hA
        have hb8 := e9.at hb
        walk_at "go"
        rename_i p hp
        refine k1 _ _ _ (by walk_at "ext") rfl ?_
        have h9 : PictR (upd H8 p (.tup [.bl false, .ref b])) (.ref p) ⟨false, r⟩ := ⟨p, b, rfl, upd_same, Ext.at (by walk_at "ext") hb8⟩
        exact h9.hid (o := .lst acc) (Ext.at (by walk_at "ext") hA) fun _ z => nomatch z
      · intro D3 H7 us nD3 e9 hD7 hE7
        rw [fm_map] at hE7
        have hE7' : Each PictR H7 us ((rowsOf (bareCh cuts)).map fun r => ⟨false, r⟩) := Paired.mapP hE7 fun v d q => PictR.mono (Hid.sub _ _) q
        have : At H7 r2 (.lst fs) := ⟨e9.at hr2⟩
        have : At H7 D3 (.lst us) := ⟨hD7⟩
        walk_at "go"
        refine lc_ds (rowsOf (fullCh cuts)) (fun r => some (⟨true, r⟩ : Pict)) PictR (fun e h => h.mono e) hfl (by show fs.length ≤ 2 ^ 24; omega) ?_ ?_
        · intro i x r H8 H9 D4 hr e10 nD4 hA hy N1 N2 k1 k2
          obtain ⟨rfl, hx⟩ := hy
          obtain ⟨r', hr', b, rfl, hb⟩ := hF.get hx
          rw [hr] at hr'
          cases hr'
          obtain ⟨acc, hA⟩ := hA
          have hb8 := e10.at (e9.at hb)
          walk_at "go"
          rename_i p hp
          refine k1 _ _ _ (by walk_at "ext") rfl ?_
          have h9 : PictR (upd H9 p (.tup [.bl true, .ref b])) (.ref p) ⟨true, r⟩ := ⟨p, b, rfl, upd_same, Ext.at (by walk_at "ext") hb8⟩
          exact h9.hid (o := .lst acc) (Ext.at (by walk_at "ext") hA) fun _ z => nomatch z
        · intro D4 H8 ts nD4 e10 hD8 hE8
          rw [fm_map] at hE8
          have hE8' : Each PictR H8 ts ((rowsOf (fullCh cuts)).map fun r => ⟨true, r⟩) := Paired.mapP hE8 fun v d q => PictR.mono (Hid.sub _ _) q
          have : At H8 D4 (.lst ts) := ⟨hD8⟩
          have hul := hE7'.len
          have htl := hE8'.len
          rw [List.length_map] at hul htl
          walk_at "go"
          refine ⟨by show us.length + ts.length ≤ 2 ^ 24; omega, ?_⟩
          walk_at "go"
          refine h _ (us ++ ts) _ ?_ upd_same ?_
          · exact (((((e2.trans e4).trans e6).trans e8).trans e9).trans e10).trans (by walk_at "ext")
          · exact Each.append (hE7'.mono fun v d => PictR.mono (e10.trans (by walk_at "ext"))) (hE8'.mono fun v d => PictR.mono (by walk_at "ext"))
end

end PB
namespace PB
open PySem PySem.Spec PyProof.Rows L2
local macro_rules | `(tactic| walk_at "rd") => `(tactic| (repeat refine red ?_))
local macro_rules | `(tactic| walk_at "go") => `(tactic| (repeat (first | refine red ?_ | ((with_reducible apply k_var); rfl) | refine k_new fun _ _ => ?_ | refine wp_and rfl ?_ | refine if_redT rfl ?_ | refine if_redF rfl ?_)))

local macro_rules | `(tactic| walk_at "ext") => `(tactic| (repeat (first | assumption | exact Ext.refl _ | refine Ext.newI ?_ | refine Ext.trans ?_ ‹Ext _ _›)))
local macro_rules | `(tactic| walk_at "rv") => `(tactic| (repeat (first | refine red ?_ | ((with_reducible apply k_var); rfl))))
/-- set(l) of ints -/
def rSetI (K : PySem.W.Frag) (w : World) : List V → Hp → VK → Prop := fun xs H Q => ∃ (l : Addr) (ns : List Int), xs = [V.ref l] ∧ SqL K H l (ns.map V.int) ∧ ns.length + 1 < scanBound ∧ ∀ a c, H a = none → c ≤ ns.length → Q (.ref a) (upd H a (SetO w a (fun j => decide (j ∈ ns)) c))
theorem cr_setI {X : Cx} (hc : X.calm = true) : CallR X (.type "set") (rSetI X.K X.w) := by
  intro pins s σ H xs us Q I r h
  obtain ⟨l, ns, rfl, hl, hb, q⟩ := h
  rw [Vals.ref1 r]
  obtain ⟨its, rv, pl, hz⟩ := I.list hl
  have hn : H s.heap.objs.size = none := I.hok.fresh (Nat.le_refl _)
  have hit : IntsAre its ns := intsAre_of rv
  have hisz : its.length = ns.length := by rw [← rv.length, List.length_map]
  have hls : l < s.heap.objs.size := pl.lt
  have hh := I.ok.hd hc
  refine set_of_list (w := X.w) (items := its.toArray) (fun h' tk => (∃ c, c ≤ ns.length ∧ SetR X.w h' s.heap.objs.size (fun j => decide (j ∈ ns)) c) ∧ ∀ b o, s.heap.get? b = some o → h'.get? b = some o) hh pl.isList (fun R hR => ?_) fun h' tk ⟨⟨c, hc2, hS⟩, hk⟩ => ?_
  · have hl1 : (s.heap.push (set0 X.w)).IsList l its.toArray := pl.isList.push _
    have hne : l ≠ s.heap.objs.size + 1 := Nat.ne_of_lt (Nat.lt_succ_of_lt hls)
    have hval : ∀ (i : Nat) (v : Value), its.toArray[i]? = some v → ∃ k t, ns[i]? = some k ∧ v = .int k t := fun i v hv => by
      have hi : i < ns.length := by
        have := (Array.getElem?_eq_some_iff.mp hv).1
        simp at this
        omega
      obtain ⟨t, e⟩ := PyProof.Rows.IntsAre.int_at hit i v (by simpa using hv)
      refine ⟨ns[i], t, List.getElem?_eq_getElem hi, ?_⟩
      rw [e, List.getD_eq_getElem?_getD, List.getElem?_eq_getElem hi] <;> rfl
    have hSf : s.heap.objs.size ∉ [s.heap.objs.size + 1, l] := by
      simp only [List.mem_cons, List.mem_singleton, List.not_mem_nil, or_false, not_or]
      exact ⟨Nat.ne_of_lt (Nat.lt_succ_self _), Nat.ne_of_gt hls⟩
    have hI : ((s.heap.push (set0 X.w)).push { cls := .type "list_iterator", data := .fields #[.ref l, .int 0 0] }).get? (s.heap.objs.size + 1) = some { cls := .type "list_iterator", data := .fields #[.ref l, .int 0 0] } := by
      have e : (s.heap.push (set0 X.w)).objs.size = s.heap.objs.size + 1 := Heap.size_push ..
      rw [← e]
      exact Heap.get?_push_size _ rfl
    refine set_update_ints (P := X.prog) (w := X.w) ((Walks.list (A := X.A.in1.in1.in1) (by simp [hh]) (s.heap.objs.size + 1) l hne its.toArray).toS) s.heap.objs.size hSf ns (by simp [hisz]) hb hval (its.toArray.size - 0) 0 _ (by omega) (Nat.zero_le _)
      ⟨⟨_, hI, rfl, rfl⟩, hl1.push _⟩ ⟨0, Nat.le_refl 0, setR_new_at (Heap.get?_push_of_some _ (Heap.get?_push_size _ rfl))⟩ fun s' c hm hc' hS' => ?_
    refine hR s' hm.gens hm.drawn hm.os ⟨⟨c, by simp at hc'; omega, hS'⟩, fun b o e => ?_⟩
    have hb0 : b < s.heap.objs.size := Heap.lt_size e
    exact hm.heap b o (by simp only [List.mem_cons, List.mem_singleton, List.not_mem_nil, or_false, not_or]; exact ⟨Nat.ne_of_lt hb0, Nat.ne_of_lt (Nat.lt_succ_of_lt hb0)⟩) (Heap.get?_push_of_some _ (Heap.get?_push_of_some _ e))
  · exact ⟨.ref s.heap.objs.size, upd H s.heap.objs.size (SetO X.w s.heap.objs.size (fun j => decide (j ∈ ns)) c), I.laid (t' := tk) hk (Nat.le_refl _) (setO_new hS), rfl, q _ c hn hc2⟩
theorem cr_setIK {X : Cx} {K : PySem.W.Frag} {w : World} (hK : X.K = K) (hw : X.w = w) (hc : X.calm = true) : CallR X (.type "set") (rSetI K w) := by subst hK; subst hw; exact cr_setI hc
theorem cr_sortedSetK {X : Cx} {w : World} (hw : X.w = w) (hc : X.calm = true) : CallR X (.builtin "sorted") (rSortedSet w) := by subst hw; exact cr_sortedSet hc

end PB
namespace PB
open PySem PySem.Spec PyProof.Rows L2
local macro_rules | `(tactic| walk_at "rd") => `(tactic| (repeat refine red ?_))
local macro_rules | `(tactic| walk_at "go") => `(tactic| (repeat (first | refine red ?_ | ((with_reducible apply k_var); rfl) | refine k_new fun _ _ => ?_ | refine wp_and rfl ?_ | refine if_redT rfl ?_ | refine if_redF rfl ?_)))
local macro_rules | `(tactic| walk_at "ga") => `(tactic| (repeat (first | refine red ?_ | ((with_reducible apply k_var); rfl) | ((with_reducible apply k_aug); rfl) | refine k_new fun _ _ => ?_ | refine wp_and rfl ?_ | refine if_redT rfl ?_ | refine if_redF rfl ?_)))
local macro_rules | `(tactic| walk_at "ext") => `(tactic| (repeat (first | assumption | exact Ext.refl _ | refine Ext.newI ?_ | refine Ext.trans ?_ ‹Ext _ _›)))
local macro_rules | `(tactic| walk_at "rv") => `(tactic| (repeat (first | refine red ?_ | ((with_reducible apply k_var); rfl))))
theorem dc_it {J : It} {n : Nat} {G : Hp → Prop} {Y : Nat → Hp → V → Hp → Prop} (w : Walk J n G Y) {g : TG} {tt : TT} {tk tv : TE} {vs : List Nat} {σ : L2.St} {H1 : Hp} {D : Addr} {Qd : Hp → Prop} (Pv : Nat → Hp → Prop) (h0 : Pv 0 (upd H1 D (.dK []))) (hG : ∀ i H, i ≤ n → Pv i H → G H)
    (hs : ∀ i x H H', i < n → Pv i H → Y i H x H' → g x (wipe σ vs) H' fun σ2 H2 => wipe σ2 vs = wipe σ vs ∧ tt σ2 H2 fun b H3 =>
      if b = true then tk σ2 H3 fun y H4 => tv σ2 H4 fun z H5 => ∃ kvs k, y = kV k ∧ H5 D = some (.dK kvs) ∧ kvs.length < sizeLine ∧ Pv (i + 1) (upd H5 D (.dK (putK kvs k z))) else Pv (i + 1) H3) (hd : ∀ H, Pv n H → Qd H) :
    ∃ W : Nat → Nat → Hp → Prop, (∃ m, W 0 m (upd H1 D (.dK []))) ∧ ∀ i m H, W i m H →
      (J.stop i H ∧ Qd H) ∨ (J.go i H ∧ ∃ Nx : Hp → Prop, (∀ H', Nx H' → ∃ m', m' < m ∧ W (i + 1) m' H') ∧ ∀ x H', J.yld i H x H' → g x (wipe σ vs) H' fun σ2 H2 => wipe σ2 vs = wipe σ vs ∧ tt σ2 H2 fun b H3 =>
        if b = true then tk σ2 H3 fun y H4 => tv σ2 H4 fun z H5 => ∃ kvs k, y = kV k ∧ H5 D = some (.dK kvs) ∧ kvs.length < sizeLine ∧ Nx (upd H5 D (.dK (putK kvs k z))) else Nx H3) := by
  refine ⟨fun i m H => m = n - i ∧ i ≤ n ∧ Pv i H, ⟨n, by simp, Nat.zero_le _, h0⟩, ?_⟩
  rintro i m H ⟨rfl, hi, p⟩
  have q := hG i H hi p
  by_cases hlt : i < n
  · refine .inr ⟨w.goes i H hlt q, Pv (i + 1), fun H' p' => ⟨n - (i + 1), by omega, rfl, hlt, p'⟩, fun x H' y => hs i x H H' hlt p (w.yields i H x H' hlt q y)⟩
  · have e : i = n := by omega
    subst e
    exact .inl ⟨w.stops H q, hd H p⟩
def kvsOf (names : List Str) (as : List Addr) : List (Key × V) := (names.zip as).map fun p => ((.inr p.1 : Key), V.ref p.2)
theorem kvsOf_keys {names : List Str} {as : List Addr} (h : names.length = as.length) : (kvsOf names as).map (·.1) = names.map (Sum.inr : Str → Key) := by
  unfold kvsOf
  rw [List.map_map]
  have : ((·.1) ∘ fun p : Str × Addr => ((.inr p.1 : Key), V.ref p.2)) = (Sum.inr : Str → Key) ∘ Prod.fst := rfl
  rw [this, ← List.map_map]
  congr 1
  rw [← List.unzip_fst, List.unzip_zip_left (by omega)]
theorem kvsOf_snoc {names : List Str} {as : List Addr} {x : Str} {a : Addr} (h : names.length = as.length) : kvsOf (names ++ [x]) (as ++ [a]) = kvsOf names as ++ [(.inr x, .ref a)] := by
  unfold kvsOf
  rw [List.zip_append h]
  simp
theorem nodup_inr {names : List Str} (h : names.Nodup) : (names.map (Sum.inr : Str → Key)).Nodup := List.Pairwise.map _ (fun a b h z => h (by injection z)) h
theorem kvsOf_val {names : List Str} {as : List Addr} (hn : names.Nodup) (h : names.length = as.length) {i : Nat} {x : Str} {a : Addr} (hx : names[i]? = some x) (ha : as[i]? = some a) : valV (kvsOf names as) (.inr x) = some (.ref a) := by
  have hm : ((.inr x : Key), V.ref a) ∈ kvsOf names as := by
    unfold kvsOf
    refine List.mem_map.mpr ⟨(x, a), ?_, rfl⟩
    refine List.mem_of_getElem? (i := i) ?_
    rw [List.getElem?_zip_eq_some]
    exact ⟨hx, ha⟩
  exact val_nodup (by rw [kvsOf_keys h]; exact nodup_inr hn) _ hm
theorem kvsOf_none {names : List Str} {as : List Addr} (h : names.length = as.length) {x : Str} (hx : ¬ x ∈ names) : valV (kvsOf names as) (.inr x) = none := by
  cases hv : valV (kvsOf names as) (.inr x) with
  | none => rfl
  | some v =>
    have := valV_in hv
    rw [kvsOf_keys h] at this
    obtain ⟨y, hy, e⟩ := List.mem_map.mp this
    injection e with e
    subst e
    exact absurd hy hx
def valsFor (ts : List Tst) (x : Str) : List Int := ts.filterMap fun t => if t.name = some x then t.val else none
def cutFor (ts : List Tst) (x : Str) : List Int := ([1, 2, 50] : List Int).filter fun v => decide (v ∈ valsFor ts x)
def cutsOf (ts : List Tst) : Cuts := (namesOf ts).map fun x => (x, cutFor ts x)
theorem cutFor_ok {ts : List Tst} {x : Str} : CutOk (cutFor ts x) := by
  unfold cutFor
  generalize decide ((1 : Int) ∈ valsFor ts x) = a1
  by_cases h1 : (1 : Int) ∈ valsFor ts x <;> by_cases h2 : (2 : Int) ∈ valsFor ts x <;> by_cases h3 : (50 : Int) ∈ valsFor ts x <;> simp [List.filter, h1, h2, h3, CutOk]
theorem cutsOf_ok {ts : List Tst} (h : ∀ t, t ∈ ts → t.ok) : CutsOk (cutsOf ts) := by
  obtain ⟨a, b, c⟩ := namesOf_ok h
  unfold cutsOf
  refine ⟨?_, fun q hq => ?_, by rw [List.length_map]; exact c⟩
  · rw [List.map_map]
    have : ((·.1) ∘ fun x : Str => (x, cutFor ts x)) = id := rfl
    rw [this, List.map_id]
    exact a
  · obtain ⟨x, hx, rfl⟩ := List.mem_map.mp hq
    exact ⟨b x hx, cutFor_ok⟩
theorem valsFor_mem {ts : List Tst} {x : Str} {v : Int} (h : ∀ t, t ∈ ts → t.ok) (hv : v ∈ valsFor ts x) : v = 1 ∨ v = 2 ∨ v = 50 := by
  obtain ⟨t, ht, e⟩ := List.mem_filterMap.mp hv
  by_cases z : t.name = some x
  · rw [if_pos z] at e
    exact (h t ht).2 v e
  · rw [if_neg z] at e
    cases e
theorem strict_ext : ∀ {xs ys : List Int}, xs.Pairwise (· < ·) → ys.Pairwise (· < ·) → (∀ k, k ∈ xs ↔ k ∈ ys) → xs = ys
  | [], [], _, _, _ => rfl
  | [], y :: ys, _, _, h => absurd ((h y).mpr List.mem_cons_self) (by simp)
  | x :: xs, [], _, _, h => absurd ((h x).mp List.mem_cons_self) (by simp)
  | x :: xs, y :: ys, h1, h2, h => by
    rw [List.pairwise_cons] at h1 h2
    have e : x = y := by
      rcases List.mem_cons.mp ((h x).mp List.mem_cons_self) with e | m1
      · exact e
      · rcases List.mem_cons.mp ((h y).mpr List.mem_cons_self) with e | m2
        · exact e.symm
        · have := h1.1 y m2
          have := h2.1 x m1
          omega
    subst e
    rw [strict_ext h1.2 h2.2 fun k => ?_]
    constructor
    · intro m
      rcases List.mem_cons.mp ((h k).mp (List.mem_cons_of_mem _ m)) with e | m'
      · subst e; have := h1.1 k m; omega
      · exact m'
    · intro m
      rcases List.mem_cons.mp ((h k).mpr (List.mem_cons_of_mem _ m)) with e | m'
      · subst e; have := h2.1 k m; omega
      · exact m'
theorem cutFor_eq {ts : List Tst} {x : Str} {ns : List Int} (h : ∀ t, t ∈ ts → t.ok) (hs : ns.Pairwise (· < ·)) (hm : ∀ k, k ∈ ns ↔ k ∈ valsFor ts x) : ns = cutFor ts x := by
  refine strict_ext hs ?_ fun k => ?_
  · unfold cutFor
    exact List.Pairwise.filter _ (by decide)
  · rw [hm]
    unfold cutFor
    rw [List.mem_filter]
    constructor
    · intro hk
      refine ⟨?_, by simpa using hk⟩
      rcases valsFor_mem h hk with rfl | rfl | rfl <;> decide
    · intro hk
      simpa using hk.2
theorem names_mem {t : Tst} {x : Str} (hx : t.name = some x) : ∀ (ts : List Tst) (acc : List Str), (t ∈ ts ∨ x ∈ acc) → x ∈ ts.foldl nameAcc acc
  | [], acc, h => by
    rcases h with h | h
    · cases h
    · exact h
  | s :: r, acc, h => by
    rw [List.foldl_cons]
    refine names_mem hx r _ ?_
    rcases h with h | h
    · rcases List.mem_cons.mp h with e | h
      · subst e
        right
        unfold nameAcc
        rw [hx]
        dsimp only
        split
        · assumption
        · simp
      · exact .inl h
    · right
      unfold nameAcc
      split
      · exact h
      · split
        · exact h
        · exact List.mem_append_left _ h
section
variable {w : World} {K : PySem.W.Frag} {mg : Str → Option Value} {base : Heap}
instance setI_red {l : Addr} {ns : List Int} {H : Hp} {Q : VK} [s : At H l (.lst (ns.map V.int))] : Red (rSetI K w [.ref l] H Q) (ns.length + 1 < scanBound ∧ ∀ a c, H a = none → c ≤ ns.length → Q (.ref a) (upd H a (SetO w a (fun j => decide (j ∈ ns)) c))) := ⟨fun h => ⟨l, ns, rfl, SqL.of s.h, h⟩⟩
def pCutsIn (v : V) (H : Hp) (Q : VK) : Prop := ∃ a vs ts, v = .ref a ∧ H a = some (.lst vs) ∧ Each TstR H vs ts ∧ ts.length ≤ 50 ∧ (∀ t, t ∈ ts → t.ok) ∧ ∀ d H', Ext H H' → CutsIs H' d (cutsOf ts) → Q (.ref d) H'
theorem ok_cuts_in  (T : Txt w K mg) : Cal PG w K mg base (1 + 1) "cuts_in" (sp1 pCutsIn) := by
  obtain ⟨fd, F⟩ := T.d_cuts_in
  refine cal_mk F T.g_cuts_in sc_cuts_in (fun _ _ _ _ _ _ us hl => match us, hl with | [_], _ => rfl) fun cdv A outer s0 H vs Q E hr h => ?_
  obtain ⟨_, rfl, a, vs, ts, rfl, hA, hE, hl, hok, h⟩ := h
  have c_names_in := (ok_names_in (base := base) T)
  have hlen := hE.len
  obtain ⟨hnd, hnm, hn3⟩ := namesOf_ok hok
  refine ⟨_, pss_cons (ps_setDc (i := 1) (own := [("name", 3)]) rfl sc_cuts_in.nd rfl rfl (sw_trueD rfl rfl rfl (by decide +kernel)) (pi_seq (pe_cl c_names_in hr (by first | decide | omega) rfl (pa_cons (pv 0) pa_nil))) (blkOk_by (own := [("name", 3)]) (N := ["tests", "found", "test", "name", "values"]) (sc := defScope S_cuts_in) (by decide +kernel)) (fun _ _ _ _ _ => (pg_name (i := 3) sc_cuts_in.nd rfl (by first | exact Or.inl rfl | exact Or.inr rfl))) (fun _ _ _ _ _ => pts_nil) (fun _ _ _ _ _ => (pv 3)) (fun _ _ _ _ _ => (pe_lst pa_nil)))
      (pss_cons (ps_for PassesOwn.never rfl (pi_seq (pv 0)) (pg_name (i := 2) sc_cuts_in.nd rfl (by first | exact Or.inl rfl | exact Or.inr rfl)) (pss_one (ps_if (pt_cmpR op_eq (pe_callB (call_lenK (K := K) rfl) (by rfl) T.f_len (by decide +kernel) (pa_cons (pv 2) pa_nil)) (pe_int) (nomark _)) (pss_one (ps_expr (pe_bm PySem.F.plainAttrs_list PySem.F.slot_list_append PySem.F.type_list_append mt_append (pe_dget (hu_of hr) (pv 1) (pe_ix (ix_anyK (K := K) rfl) (pv 2) (pe_int) (fun _ _ => rfl)) (fun _ _ => rfl)) (pa_cons (pe_ix (ix_anyK (K := K) rfl) (pv 2) (pe_int) (fun _ _ => rfl)) pa_nil)))) pss_nil)))
      (pss_one (ps_ret (pe_lock ((pe_dc (own := [("name", 3), ("values", 4)]) rfl sc_cuts_in.nd ((pi_items (pv 1))) (blkOk_by (own := [("name", 3), ("values", 4)]) (N := ["tests", "found", "test", "name", "values"]) (sc := defScope S_cuts_in) (by decide +kernel)) (fun _ _ _ _ _ => (pg_tupK (K := K) (n := 2) rfl rfl (pgs_cons (pg_name (i := 3) sc_cuts_in.nd rfl (by first | exact Or.inl rfl | exact Or.inr rfl)) (pgs_cons (pg_name (i := 4) sc_cuts_in.nd rfl (by first | exact Or.inl rfl | exact Or.inr rfl)) pgs_nil)))) (fun _ _ _ _ _ => pts_nil) (fun _ _ _ _ _ => (pv 3)) (fun _ _ _ _ _ => (pe_callTy (call_tupK (K := K) rfl) (by rfl) T.f_tuple (by decide +kernel) (pa_cons (pe_callB (cr_sortedSetK (w := w) rfl rfl) (by rfl) T.f_sorted (by decide +kernel) (pa_cons (pe_callTy (cr_setIK (K := K) (w := w) rfl rfl rfl) (by rfl) T.f_set (by decide +kernel) (pa_cons (pv 4) pa_nil)) pa_nil)) pa_nil))))))))), ?_⟩
  refine start_to (σ := [some _, none, none, none, none]) rfl ?_
  try dsimp only [cxOf]
  walk_at "go"
  refine ⟨a, vs, ts, rfl, hA, hE, by omega, fun r H1 e1 nr hr1 => ?_⟩
  have : At H1 r (.lst ((namesOf ts).map V.str)) := ⟨hr1⟩
  walk_at "go"
  intro J G wk hG D hD
  have hnl : ((namesOf ts).map V.str).length = (namesOf ts).length := by simp
  refine dc_it wk (fun i H' => Ext H1 H' ∧ ∃ as : List Addr, as.length = i ∧ as.Nodup ∧ H' D = some (.dK (kvsOf ((namesOf ts).take i) as)) ∧ ∀ b, b ∈ as → H' b = some (.lst []) ∧ H1 b = none ∧ b ≠ D) ⟨(Ext.refl H1).new hD, [], rfl, List.nodup_nil, upd_same, fun b hb => by cases hb⟩ (fun i H' _ q => hG H' fun o => q.1.h r o) ?_ ?_
  · rintro i x H2 H3 hi ⟨e2, as, hal, hand, hDk, has⟩ ⟨rfl, hx⟩
    rw [hnl] at hi
    rw [List.getElem?_map, List.getElem?_eq_getElem hi] at hx
    cases hx
    have hxm : (namesOf ts)[i]? = some (namesOf ts)[i] := List.getElem?_eq_getElem hi
    have htl : ((namesOf ts).take i).length = as.length := by rw [List.length_take, hal]; omega
    walk_at "go"
    rename_i p hp
    have hpD : p ≠ D := fun z => by have q := hp.h; rw [z, hDk] at q; cases q
    have hk1 : (kvsOf ((namesOf ts).take i) as).length = i := by
      unfold kvsOf
      rw [List.length_map, List.length_zip, htl, hal]
      omega
    have hnot : ¬ (namesOf ts)[i] ∈ (namesOf ts).take i := by
      intro hm
      obtain ⟨j, hj, e⟩ := List.getElem_of_mem hm
      have hji : j < i := by simp at hj; omega
      rw [List.getElem_take] at e
      exact List.pairwise_iff_getElem.mp hnd j i (by omega) hi hji e
    refine ⟨kvsOf ((namesOf ts).take i) as, .inr (namesOf ts)[i], rfl, by rw [upd_ne hpD.symm]; exact hDk, by rw [hk1]; show i < 2 ^ 24; omega, ?_, as ++ [p], by simp [hal], ?_, ?_, ?_⟩
    · exact Ext.mut (by walk_at "ext") hD
    · rw [List.nodup_append]
      refine ⟨hand, by simp, fun b hb c hc z => ?_⟩
      simp at hc
      subst hc
      subst z
      have q := hp.h
      rw [(has b hb).1] at q
      cases q
    · rw [upd_same, putK_new _ (kvsOf_none htl hnot), List.take_add_one, hxm]
      rw [show (some (namesOf ts)[i]).toList = [(namesOf ts)[i]] from rfl, kvsOf_snoc htl]
    · intro b hb
      rcases List.mem_append.mp hb with hb | hb
      · obtain ⟨q1, q2, q3⟩ := has b hb
        have hbp : b ≠ p := ne_of_none q1 hp.h
        exact ⟨by rw [upd_ne q3, upd_ne hbp]; exact q1, q2, q3⟩
      · simp at hb
        subst hb
        exact ⟨by rw [upd_ne hpD, upd_same], e2.back hp.h, hpD⟩
  · rintro H2 ⟨e2, as, hal, hand, hDk, has⟩
    rw [hnl] at hal hDk
    rw [List.take_length] at hDk
    have hnal : (namesOf ts).length = as.length := hal.symm
    have he12 : Ext H H2 := e1.trans e2
    walk_at "go"
    have : At H2 a (.lst vs) := ⟨he12.at hA⟩
    walk_at "go"
    have hDn : H D = none := e1.back hD
    have hbn : ∀ b, b ∈ as → H b = none := fun b hb => e1.back (has b hb).2.1
    refine for_go (fun j σ' H' => (∃ x, σ' = [some (V.ref a), some (V.ref D), x, none, none]) ∧ Ext H H' ∧ H' D = some (.dK (kvsOf (namesOf ts) as)) ∧ ∀ (i : Nat) (b : Addr) (x : Str), as[i]? = some b → (namesOf ts)[i]? = some x → H' b = some (.lst ((valsFor (ts.take j) x).map V.int))) ⟨⟨_, rfl⟩, he12, hDk, fun i b x hb _ => (has b (List.mem_of_getElem? hb)).1⟩ (fun j σ' H' _ q => sub_at (he12.at hA) (q.2.1.at hA)) ?_ ?_
    · rintro j x σ' H3 H4 hj ⟨⟨x0, rfl⟩, e3, hD3, has3⟩ ⟨rfl, hx⟩
      obtain ⟨t, ht, b, rfl, hb⟩ := hE.get hx
      have hb4 : H4 b = some (.tup t.vs) := e3.at hb
      have htm : t ∈ ts := List.mem_of_getElem? ht
      have hvt : ∀ y, valsFor (ts.take (j + 1)) y = valsFor (ts.take j) y ++ (if t.name = some y then t.val else none).toList := fun y => by
        unfold valsFor
        rw [List.take_add_one, ht, List.filterMap_append]
        show _ ++ [t].filterMap _ = _
        cases hq : (if t.name = some y then t.val else none) <;> simp [hq]
      have skip : t.val = none → ∀ (i : Nat) (b : Addr) (x : Str), as[i]? = some b → (namesOf ts)[i]? = some x → H4 b = some (.lst ((valsFor (ts.take (j + 1)) x).map V.int)) := fun hv i b' x' h1 h2 => by
        rw [hvt, hv]
        simp only [ite_self, Option.toList, List.append_nil]
        exact has3 i b' x' h1 h2
      have put : ∀ (x : Str) (v : Int), t.name = some x → t.val = some v → ∀ (i : Nat) (b1 : Addr), as[i]? = some b1 → (namesOf ts)[i]? = some x → ∀ (i' : Nat) (b' : Addr) (x' : Str), as[i']? = some b' → (namesOf ts)[i']? = some x' → upd H4 b1 (.lst ((valsFor (ts.take j) x).map V.int ++ [V.int v])) b' = some (.lst ((valsFor (ts.take (j + 1)) x').map V.int)) := by
        intro x v hn hv i b1 h1 h2 i' b' x' h3 h4
        by_cases z : i' = i
        · subst z
          rw [h1] at h3
          rw [h2] at h4
          cases h3
          cases h4
          rw [upd_same, hvt, hv, hn]
          simp
        · have hbb : b' ≠ b1 := fun e => by
            subst e
            have l1 := (List.getElem?_eq_some_iff.mp h1)
            have l3 := (List.getElem?_eq_some_iff.mp h3)
            obtain ⟨p1, p2⟩ := l1
            obtain ⟨p3, p4⟩ := l3
            rcases Nat.lt_or_gt_of_ne z with c | c
            · exact List.pairwise_iff_getElem.mp hand i' i p3 p1 c (p4.trans p2.symm)
            · exact List.pairwise_iff_getElem.mp hand i i' p1 p3 c (p2.trans p4.symm)
          have hxx : ¬ x = x' := fun e => by
            subst e
            obtain ⟨p1, p2⟩ := List.getElem?_eq_some_iff.mp h2
            obtain ⟨p3, p4⟩ := List.getElem?_eq_some_iff.mp h4
            rcases Nat.lt_or_gt_of_ne z with c | c
            · exact List.pairwise_iff_getElem.mp hnd i' i p3 p1 c (p4.trans p2.symm)
            · exact List.pairwise_iff_getElem.mp hnd i i' p1 p3 c (p2.trans p4.symm)
          rw [upd_ne hbb, hvt, hn, has3 i' b' x' h3 h4]
          rw [if_neg (fun e => hxx (by injection e))]
          simp
      have bound : ∀ y, (valsFor (ts.take j) y).length ≤ 50 := fun y => by
        have h1 := List.length_filterMap_le (fun t : Tst => if t.name = some y then t.val else none) (ts.take j)
        rw [List.length_take] at h1
        unfold valsFor
        omega
      have : At H4 D (.dK (kvsOf (namesOf ts) as)) := ⟨hD3⟩
      have look : ∀ x, t.name = some x → ∃ (i : Nat) (b1 : Addr), as[i]? = some b1 ∧ (namesOf ts)[i]? = some x := fun x hn => by
        have hm : x ∈ namesOf ts := names_mem hn ts [] (.inl htm)
        obtain ⟨i, hi, e⟩ := List.getElem_of_mem hm
        exact ⟨i, as[i], List.getElem?_eq_getElem (by omega), by rw [List.getElem?_eq_getElem hi, e]⟩
      cases t with
      | row =>
        have : At H4 b (.tup [.str "row"]) := ⟨hb4⟩
        walk_at "go"
        exact ⟨⟨_, rfl⟩, e3, hD3, skip rfl⟩
      | has x =>
        have : At H4 b (.tup [.str "has", .str x]) := ⟨hb4⟩
        walk_at "go"
        exact ⟨⟨_, rfl⟩, e3, hD3, skip rfl⟩
      | eq x v =>
        have : At H4 b (.tup [.str "eq", .str x, .int v]) := ⟨hb4⟩
        obtain ⟨i, b1, h1, h2⟩ := look x rfl
        have : DVal (kvsOf (namesOf ts) as) (.str x) (some (.ref b1)) := ⟨_, rfl, kvsOf_val hnd hnal h2 h1⟩
        have hb1 := has3 i b1 x h1 h2
        have : At H4 b1 (.lst ((valsFor (ts.take j) x).map V.int)) := ⟨hb1⟩
        walk_at "go"
        have := bound x
        refine ⟨by rw [List.length_map]; show _ < 2 ^ 24; omega, ?_⟩
        walk_at "go"
        refine ⟨⟨_, rfl⟩, e3.mut (hbn b1 (List.mem_of_getElem? h1)), ?_, put x v rfl rfl i b1 h1 h2⟩
        rw [upd_ne (fun z => (has b1 (List.mem_of_getElem? h1)).2.2 z.symm)]
        exact hD3
      | less x v =>
        have : At H4 b (.tup [.str "less", .str x, .int v]) := ⟨hb4⟩
        obtain ⟨i, b1, h1, h2⟩ := look x rfl
        have : DVal (kvsOf (namesOf ts) as) (.str x) (some (.ref b1)) := ⟨_, rfl, kvsOf_val hnd hnal h2 h1⟩
        have hb1 := has3 i b1 x h1 h2
        have : At H4 b1 (.lst ((valsFor (ts.take j) x).map V.int)) := ⟨hb1⟩
        walk_at "go"
        have := bound x
        refine ⟨by rw [List.length_map]; show _ < 2 ^ 24; omega, ?_⟩
        walk_at "go"
        refine ⟨⟨_, rfl⟩, e3.mut (hbn b1 (List.mem_of_getElem? h1)), ?_, put x v rfl rfl i b1 h1 h2⟩
        rw [upd_ne (fun z => (has b1 (List.mem_of_getElem? h1)).2.2 z.symm)]
        exact hD3
    · rintro σ' H3 ⟨⟨x0, rfl⟩, e3, hD3, has3⟩
      rw [List.take_of_length_le (by omega)] at has3
      walk_at "go"
      refine lock_in hD3 fun od => ?_
      walk_at "go"
      have hkl : (kvsOf (namesOf ts) as).length = (namesOf ts).length := by
        unfold kvsOf
        rw [List.length_map, List.length_zip, hnal]
        omega
      refine dc_ds (namesOf ts) (fun x => some ((.inr x : Key), cutFor ts x)) (fun H v cs => CutV (Hid D H) v cs) (fun e h => h.mono (Hid.mono e)) hkl (by rw [hkl]; show _ ≤ 2 ^ 24; omega) ?_ ?_
      · intro i y x H4 H5 D2 hx e4 nD2 hA2 hy N1 N2 k1 k2
        obtain ⟨tt, k, v, rfl, ntt, rfl, hkv⟩ := hy
        have hk2 : ∃ b1, as[i]? = some b1 ∧ k = .inr x ∧ v = .ref b1 := by
          unfold kvsOf at hkv
          rw [List.getElem?_map] at hkv
          cases hz : ((namesOf ts).zip as)[i]? with
          | none => rw [hz] at hkv; cases hkv
          | some q =>
            rw [hz] at hkv
            rw [List.getElem?_zip_eq_some] at hz
            cases hkv
            rw [hx] at hz
            exact ⟨q.2, hz.2, by have := hz.1; injection this with this; rw [this], rfl⟩
        obtain ⟨b1, h1, rfl, rfl⟩ := hk2
        have hb1 := has3 i b1 x h1 hx
        have hbD : b1 ≠ D := (has b1 (List.mem_of_getElem? h1)).2.2
        have hb3 : upd H3 D (.frz od (.dK (kvsOf (namesOf ts) as))) b1 = some (.lst ((valsFor ts x).map V.int)) := by rw [upd_ne hbD]; exact hb1
        have : At H4 b1 (.lst ((valsFor ts x).map V.int)) := ⟨e4.at hb3⟩
        rw [kV_str]
        walk_at "go"
        have hvl : (valsFor ts x).length ≤ 50 := by
          have h1 := List.length_filterMap_le (fun t : Tst => if t.name = some x then t.val else none) ts
          unfold valsFor
          omega
        refine ⟨by show (valsFor ts x).length + 1 < 4096; omega, fun sa c hsa hc => ?_⟩
        walk_at "go"
        refine ⟨sa, _, c, rfl, upd_same, by omega, fun ns p hs hm hl2 hp => ?_⟩
        have hns : ns = cutFor ts x := cutFor_eq hok hs fun k => by rw [hm]; simp
        subst hns
        have : New (upd (upd H4 tt (.tup [.str x, .ref b1])) sa (SetO w sa (fun j => decide (j ∈ valsFor ts x)) c)) p := ⟨hp⟩
        have : New (upd H4 tt (.tup [.str x, .ref b1])) sa := ⟨hsa⟩
        walk_at "go"
        rename_i tp htp
        obtain ⟨acc, hA2⟩ := hA2
        have hDf : H4 D = some (.frz od (.dK (kvsOf (namesOf ts) as))) := e4.at upd_same
        have hext : Ext H4 (upd (upd (upd H4 tt (.tup [.str x, .ref b1])) sa (SetO w sa (fun j => decide (j ∈ valsFor ts x)) c)) p (.lst ((cutFor ts x).map V.int))) := by walk_at "ext"
        have htD : tp ≠ D := fun z => by have q := htp.h; rw [z, hext.at hDf] at q; cases q
        have htD2 : tp ≠ D2 := fun z => by have q := htp.h; rw [z, hext.at hA2] at q; cases q
        exact k1 (.inr x) _ _ (cutFor ts x) (by walk_at "ext") rfl ⟨tp, rfl, Hid.at (Hid.at upd_same htD2) htD⟩
      · intro D2 H4 kvs nD2 e4 hD2 hK
        refine unlkH hD3 nD2 e4 hD2 fun H5 nD2 e5 hD5 e6 => ?_
        refine h D2 H5 (e3.trans e5) ⟨⟨kvs, hD5, ?_⟩, cutsOf_ok hok⟩
        have e7 : (namesOf ts).foldl (dcF fun x => some ((.inr x : Key), cutFor ts x)) [] = (cutsOf ts).map ckey := by
          rw [fold_nodup]
          · rw [List.nil_append, fm_map]
            unfold cutsOf
            rw [List.map_map]
            rfl
          · rw [List.nil_append, fm_map, List.map_map]
            exact nodup_inr hnd
        rw [e7] at hK
        exact Paired.mapP hK fun v d q => ⟨q.1, q.2.mono ((Hid.mono (Hid.sub D2 H4)).trans e6)⟩
def pCutsOf (v : V) (H : Hp) (Q : VK) : Prop := ∃ c, CA H c v ∧ Good c ∧ ∀ d H', Ext H H' → CutsIs H' d (cutsOf c.ts) → Q (.ref d) H'
theorem ok_cuts_of  (T : Txt w K mg) : Cal PG w K mg base (13 + 1) "cuts_of" (sp1 pCutsOf) := by
  obtain ⟨fd, F⟩ := T.d_cuts_of
  refine cal_mk F T.g_cuts_of sc_cuts_of (fun _ _ _ _ _ _ us hl => match us, hl with | [_], _ => rfl) fun cdv A outer s0 H vs Q E hr h => ?_
  obtain ⟨_, rfl, c, hc, good, h⟩ := h
  have c_look_at_condition := (ok_look_at_condition (base := base) T)
  have c_tests_in := (ok_tests_in (base := base) 3 T).mono (show 2 + 3 ≤ 13 by omega)
  have c_cuts_in := (ok_cuts_in (base := base) T).mono (show 2 ≤ 13 by omega)
  refine ⟨_, pss_cons (ps_expr (pe_cl c_look_at_condition hr (by first | decide | omega) rfl (pa_cons (pv 0) pa_nil)))
      (pss_one (ps_ret (pe_cl c_cuts_in hr (by first | decide | omega) rfl (pa_cons (pe_cl c_tests_in hr (by first | decide | omega) rfl (pa_cons (pv 0) pa_nil)) pa_nil)))), ?_⟩
  refine start_to (σ := [some _]) rfl ?_
  try dsimp only [cxOf]
  walk_at "go"
  refine ⟨c, hc, good, fun H1 e1 => ?_⟩
  walk_at "go"
  refine ⟨c, CA.mono e1 c _ hc, good.2.1, by have := good.2.2; omega, fun r vs H2 e2 nr hr hE => ?_⟩
  walk_at "go"
  refine ⟨r, vs, c.ts, rfl, hr, hE, by have := good.2.2; omega, ts_ok good.1, fun d H3 e3 hC => ?_⟩
  exact h d H3 ((e1.trans e2).trans e3) hC
def pPics (v : V) (H : Hp) (Q : VK) : Prop := ∃ c, CA H c v ∧ Good c ∧ ∀ r ys H', Ext H H' → H' r = some (.lst ys) → Each PictR H' ys (picsOf (cutsOf c.ts)) → Q (.ref r) H'
theorem ok_pictures  (T : Txt w K mg) : Cal PG w K mg base (14 + 1) "pictures" (sp1 pPics) := by
  obtain ⟨fd, F⟩ := T.d_pictures
  refine cal_mk F T.g_pictures sc_pictures (fun _ _ _ _ _ _ us hl => match us, hl with | [_], _ => rfl) fun cdv A outer s0 H vs Q E hr h => ?_
  obtain ⟨_, rfl, c, hc, good, h⟩ := h
  have c_cuts_of := (ok_cuts_of (base := base) T)
  have c_pictures_by := (ok_pictures_by (base := base) T).mono (show 5 ≤ 14 by omega)
  refine ⟨_, pss_one (ps_ret (pe_cl c_pictures_by hr (by first | decide | omega) rfl (pa_cons (pe_cl c_cuts_of hr (by first | decide | omega) rfl (pa_cons (pv 0) pa_nil)) pa_nil))), ?_⟩
  refine start_to (σ := [some _]) rfl ?_
  try dsimp only [cxOf]
  walk_at "go"
  refine ⟨c, hc, good, fun d H1 e1 hC => ?_⟩
  walk_at "go"
  intro r ys H2 e2 hr hE
  exact h r ys H2 (e1.trans e2) hr hE
end

end PB
namespace PB
open PySem PySem.Spec PyProof.Rows L2
local macro_rules | `(tactic| walk_at "rd") => `(tactic| (repeat refine red ?_))
local macro_rules | `(tactic| walk_at "go") => `(tactic| (repeat (first | refine red ?_ | ((with_reducible apply k_var); rfl) | refine k_new fun _ _ => ?_ | refine wp_and rfl ?_ | refine if_redT rfl ?_ | refine if_redF rfl ?_)))

local macro_rules | `(tactic| walk_at "ext") => `(tactic| (repeat (first | assumption | exact Ext.refl _ | refine Ext.newI ?_ | refine Ext.trans ?_ ‹Ext _ _›)))
local macro_rules | `(tactic| walk_at "rv") => `(tactic| (repeat (first | refine red ?_ | ((with_reducible apply k_var); rfl))))
/-! ### zip of a dict (its keys, its values) and a tuple -/
/-- an iterator over the dict at d, its object od as it stands -/
structure Sub1 (i1 d : Addr) (od : Obj) (n : Nat) (val : Nat → Value → Prop) (St : Nat → Heap → Prop) : Prop where
  item : ∀ (P : Program) (w : World) (A : Around) (s : Shared) (k : Nat) (Q : Value → Shared → Prop) (E : Value → Shared → Prop), k < n → St k s.heap → s.heap.get? d = some od →
    (∀ x h', val k x → St (k + 1) h' → Heap.SameBut i1 s.heap h' → Q x { s with heap := h' }) → wpAny (model P w) A (Builtin.SmallTypes.nextOf (.ref i1)) Q E s
  done : ∀ (P : Program) (w : World) (A : Around) (s : Shared) (k : Nat) (Q : Value → Shared → Prop) (E : Value → Shared → Prop), A.handled = none → n ≤ k → St k s.heap → s.heap.get? d = some od →
    (∀ h' e, Heap.ExtBut i1 s.heap h' → (∃ o, h'.get? e = some o ∧ o.cls = .type "StopIteration") → E (.ref e) { s with heap := h' }) → wpAny (model P w) A (Builtin.SmallTypes.nextOf (.ref i1)) Q E s
  keep : ∀ k h h', St k h → (∀ o, h.get? i1 = some o → h'.get? i1 = some o) → St k h'
  obj : ∀ k h, St k h → ∃ o, h.get? i1 = some o ∧ ∀ v, o.data ≠ .cell v
theorem nextOf_key_item {P : Program} {w : World} {A : Around} {s : Shared} {E : Value → Shared → Prop} {it d : Addr} {i n ep : Nat} {od : Obj} {es : Array DictEntry} {Q : Value → Shared → Prop} (hit : s.heap.IsKeyIter it d i n ep) (hod : s.heap.get? d = some od) (hdd : od.data = .dict es ep)
    (hsz : es.size = n) (hlt' : i < es.size) (hQ : ∀ h', h'.IsKeyIter it d (i + 1) n ep → Heap.SameBut it s.heap h' → Q es[i].key { s with heap := h' }) : wpAny (model P w) A (Builtin.SmallTypes.nextOf (.ref it)) Q E s := by
  obtain ⟨o, ho, hc, hd⟩ := id hit
  unfold Builtin.SmallTypes.nextOf
  refine wpAny_bind (wpAny_callSpecial?_slot (name := Str.ofString "__next__") hit.typeIs F.slot_dict_keyiterator_next
    (wpAny_call_entry F.slot_dict_keyiterator_next hit.typeIs F.entry_dict_keyiterator_next ?_ (F.args_dict_keyiterator_next_1 _)))
  refine wpAny_bind (wpAny_pure ?_)
  refine wpAny_bind ?_
  refine wpAny_bind ?_
  first | refine wpAny_bind (wpAny_typeNameOfWhole_keyiter hit.typeIs (wpAny_pure ?_)) | refine wpAny_bind (wpAny_typeNameOf_keyiter hit.typeIs (wpAny_pure ?_))
  refine wpAny_bind (wpAny_fieldsOf ho hd ?_)
  have hown : Builtin.Dict_items.ownsTuple "dict_keyiterator" = false := by decide
  simp only [hown, Bool.false_eq_true, if_false]
  show wpAny _ _ (if (Value.ref d == Value.none) = true then _ else _) _ _ s
  rw [if_neg (show ¬ ((Value.ref d == Value.none) = true) from Bool.false_ne_true)]
  refine wpAny_bind (wpAny_pure ?_)
  refine wpAny_bind (wpAny_dictEntries hod hdd ?_)
  rw [if_neg (by rw [hsz]; simp)]
  refine wpAny_bind (wpAny_pure ?_)
  refine wpAny_bind (wpAny_dictEpoch hod hdd ?_)
  rw [if_neg (by simp)]
  refine wpAny_pure ?_
  simp only [show ¬ ((i : Int) < 0) from by omega, if_false, Int.toNat_natCast, Array.getElem?_eq_getElem hlt']
  refine wpAny_bind ?_
  first | refine wpAny_bind (wpAny_typeNameOfWhole_keyiter hit.typeIs (wpAny_pure ?_)) | refine wpAny_bind (wpAny_typeNameOf_keyiter hit.typeIs (wpAny_pure ?_))
  refine wpAny_bind (wpAny_isOneOf_keyiter hit.typeIs ?_)
  show wpAny _ _ (setField (.ref it) 1 (rawInt ((i : Int) + 1)) >>= _) _ _ s
  refine wpAny_bind (wpAny_setField ho hd (by simp) ?_)
  have hit' : (s.heap.update it (Obj.mapFields (·.setIfInBounds 1 (rawInt ((i : Int) + 1))))).IsKeyIter it d (i + 1) n ep :=
    ⟨_, Heap.get?_update_self _ ho (Obj.isFreed_of_fields (Obj.data_mapFields hd _)), (Obj.cls_mapFields ..).trans hc, by rw [Obj.data_mapFields hd]; simp [rawInt]⟩
  refine wpAny_bind (wpAny_holding ?_)
  refine wpAny_bind (wpAny_isOneOf_keyiter (s := { s with heap := s.heap.update it (Obj.mapFields (·.setIfInBounds 1 (rawInt ((i : Int) + 1)))) }) hit'.typeIs ?_)
  show wpAny _ _ (pure es[i].key) _ _ _
  exact wpAny_pure (wpAny_pure ⟨_, rfl, wpAny_pure (hQ _ hit' (Heap.SameBut.update ..))⟩)
theorem nextOf_key_end {P : Program} {w : World} {A : Around} {s : Shared} {E : Value → Shared → Prop} {it d : Addr} {i n ep : Nat} {od : Obj} {es : Array DictEntry} {Q : Value → Shared → Prop} (hh : A.handled = none) (hit : s.heap.IsKeyIter it d i n ep) (hod : s.heap.get? d = some od) (hdd : od.data = .dict es ep)
    (hsz : es.size = n) (hge : n ≤ i) (hE : ∀ h' e, Heap.ExtBut it s.heap h' → (∃ o, h'.get? e = some o ∧ o.cls = .type "StopIteration") → E (.ref e) { s with heap := h' }) : wpAny (model P w) A (Builtin.SmallTypes.nextOf (.ref it)) Q E s := by
  obtain ⟨o, ho, hc, hd⟩ := id hit
  unfold Builtin.SmallTypes.nextOf
  refine wpAny_bind (wpAny_callSpecial?_slot (name := Str.ofString "__next__") hit.typeIs F.slot_dict_keyiterator_next
    (wpAny_call_entry F.slot_dict_keyiterator_next hit.typeIs F.entry_dict_keyiterator_next ?_ (F.args_dict_keyiterator_next_1 _)))
  refine wpAny_bind (wpAny_pure ?_)
  refine wpAny_bind ?_
  refine wpAny_bind ?_
  first | refine wpAny_bind (wpAny_typeNameOfWhole_keyiter hit.typeIs (wpAny_pure ?_)) | refine wpAny_bind (wpAny_typeNameOf_keyiter hit.typeIs (wpAny_pure ?_))
  refine wpAny_bind (wpAny_fieldsOf ho hd ?_)
  have hown : Builtin.Dict_items.ownsTuple "dict_keyiterator" = false := by decide
  simp only [hown, Bool.false_eq_true, if_false]
  show wpAny _ _ (if (Value.ref d == Value.none) = true then _ else _) _ _ s
  rw [if_neg (show ¬ ((Value.ref d == Value.none) = true) from Bool.false_ne_true)]
  refine wpAny_bind (wpAny_pure ?_)
  refine wpAny_bind (wpAny_dictEntries hod hdd ?_)
  rw [if_neg (by rw [hsz]; simp)]
  refine wpAny_bind (wpAny_pure ?_)
  refine wpAny_bind (wpAny_dictEpoch hod hdd ?_)
  rw [if_neg (by simp)]
  refine wpAny_pure ?_
  have hge' : es.size ≤ i := by rw [hsz]; exact hge
  simp only [show ¬ ((i : Int) < 0) from by omega, if_false, Int.toNat_natCast, Array.getElem?_eq_none hge']
  refine wpAny_bind ?_
  first | refine wpAny_bind (wpAny_typeNameOfWhole_keyiter hit.typeIs (wpAny_pure ?_)) | refine wpAny_bind (wpAny_typeNameOf_keyiter hit.typeIs (wpAny_pure ?_))
  show wpAny _ _ (setField (.ref it) 0 .none >>= _) _ _ s
  refine wpAny_bind (wpAny_setField ho hd (by simp) ?_)
  show wpAny _ _ (newExc (.type "StopIteration") [] >>= _) _ _ _
  refine wpAny_bind ?_
  simp only [newExc, newTuple]
  refine wpAny_bind (wpAny_newObj_type ?_ (by size_fits))
  refine wpAny_bind (m := firstArgMember _ _) (wpAny_of_eq (a := Value.none) (by first | rfl | (simp only [firstArgMember]; rfl)) ?_)
  refine wpAny_newObj_type ?_ (by size_fits)
  simp only [raiseNew]
  refine wpAny_bind (wpAny_handled ?_)
  rw [show A.in1.handled = none from hh]
  refine wpAny_bind (wpAny_pure (wpAny_throw ?_))
  exact hE _ _ (((Heap.SameBut.update ..).extBut.push _).push _) ⟨_, Heap.get?_push_size _ rfl, rfl⟩
theorem sub1_key {it d : Addr} {n ep : Nat} {od : Obj} {es : Array DictEntry} (hdd : od.data = .dict es ep) (hsz : es.size = n) : Sub1 it d od n (fun k x => ∃ h : k < es.size, x = es[k].key) (fun k h => h.IsKeyIter it d k n ep) where
  item := fun P w A s k Q E hk st hod h => nextOf_key_item st hod hdd hsz (by omega) fun h' st' sb => h _ h' ⟨by omega, rfl⟩ st' sb
  done := fun P w A s k Q E hh hk st hod h => nextOf_key_end hh st hod hdd hsz hk h
  keep := fun k h h' st kp => st.at kp
  obj := fun k h ⟨o, e, _, dd⟩ => ⟨o, e, fun v z => by rw [dd] at z; cases z⟩
theorem nextOf_val_item {P : Program} {w : World} {A : Around} {s : Shared} {E : Value → Shared → Prop} {it d : Addr} {i n ep : Nat} {od : Obj} {es : Array DictEntry} {Q : Value → Shared → Prop} (hit : s.heap.IsValIter it d i n ep) (hod : s.heap.get? d = some od) (hdd : od.data = .dict es ep)
    (hsz : es.size = n) (hlt' : i < es.size) (hQ : ∀ h', h'.IsValIter it d (i + 1) n ep → Heap.SameBut it s.heap h' → Q es[i].val { s with heap := h' }) : wpAny (model P w) A (Builtin.SmallTypes.nextOf (.ref it)) Q E s := by
  obtain ⟨o, ho, hc, hd⟩ := id hit
  unfold Builtin.SmallTypes.nextOf
  refine wpAny_bind (wpAny_callSpecial?_slot (name := Str.ofString "__next__") hit.typeIs F.slot_dict_valueiterator_next
    (wpAny_call_entry F.slot_dict_valueiterator_next hit.typeIs F.entry_dict_valueiterator_next ?_ (F.args_dict_valueiterator_next_1 _)))
  refine wpAny_bind (wpAny_pure ?_)
  refine wpAny_bind ?_
  refine wpAny_bind ?_
  first | refine wpAny_bind (wpAny_typeNameOfWhole_valiter hit.typeIs (wpAny_pure ?_)) | refine wpAny_bind (wpAny_typeNameOf_valiter hit.typeIs (wpAny_pure ?_))
  refine wpAny_bind (wpAny_fieldsOf ho hd ?_)
  have hown : Builtin.Dict_items.ownsTuple "dict_valueiterator" = false := by decide
  simp only [hown, Bool.false_eq_true, if_false]
  show wpAny _ _ (if (Value.ref d == Value.none) = true then _ else _) _ _ s
  rw [if_neg (show ¬ ((Value.ref d == Value.none) = true) from Bool.false_ne_true)]
  refine wpAny_bind (wpAny_pure ?_)
  refine wpAny_bind (wpAny_dictEntries hod hdd ?_)
  rw [if_neg (by rw [hsz]; simp)]
  refine wpAny_bind (wpAny_pure ?_)
  refine wpAny_bind (wpAny_dictEpoch hod hdd ?_)
  rw [if_neg (by simp)]
  refine wpAny_pure ?_
  simp only [show ¬ ((i : Int) < 0) from by omega, if_false, Int.toNat_natCast, Array.getElem?_eq_getElem hlt']
  refine wpAny_bind ?_
  first | refine wpAny_bind (wpAny_typeNameOfWhole_valiter hit.typeIs (wpAny_pure ?_)) | refine wpAny_bind (wpAny_typeNameOf_valiter hit.typeIs (wpAny_pure ?_))
  refine wpAny_bind (wpAny_isOneOf_valiter hit.typeIs ?_)
  show wpAny _ _ (setField (.ref it) 1 (rawInt ((i : Int) + 1)) >>= _) _ _ s
  refine wpAny_bind (wpAny_setField ho hd (by simp) ?_)
  have hit' : (s.heap.update it (Obj.mapFields (·.setIfInBounds 1 (rawInt ((i : Int) + 1))))).IsValIter it d (i + 1) n ep :=
    ⟨_, Heap.get?_update_self _ ho (Obj.isFreed_of_fields (Obj.data_mapFields hd _)), (Obj.cls_mapFields ..).trans hc, by rw [Obj.data_mapFields hd]; simp [rawInt]⟩
  refine wpAny_bind (wpAny_holding ?_)
  refine wpAny_bind (wpAny_isOneOf_valiter (s := { s with heap := s.heap.update it (Obj.mapFields (·.setIfInBounds 1 (rawInt ((i : Int) + 1)))) }) hit'.typeIs ?_)
  refine wpAny_bind (wpAny_isOneOf_valiter (s := { s with heap := s.heap.update it (Obj.mapFields (·.setIfInBounds 1 (rawInt ((i : Int) + 1)))) }) hit'.typeIs ?_)
  show wpAny _ _ (pure es[i].val) _ _ _
  exact wpAny_pure (wpAny_pure ⟨_, rfl, wpAny_pure (hQ _ hit' (Heap.SameBut.update ..))⟩)
theorem nextOf_val_end {P : Program} {w : World} {A : Around} {s : Shared} {E : Value → Shared → Prop} {it d : Addr} {i n ep : Nat} {od : Obj} {es : Array DictEntry} {Q : Value → Shared → Prop} (hh : A.handled = none) (hit : s.heap.IsValIter it d i n ep) (hod : s.heap.get? d = some od) (hdd : od.data = .dict es ep)
    (hsz : es.size = n) (hge : n ≤ i) (hE : ∀ h' e, Heap.ExtBut it s.heap h' → (∃ o, h'.get? e = some o ∧ o.cls = .type "StopIteration") → E (.ref e) { s with heap := h' }) : wpAny (model P w) A (Builtin.SmallTypes.nextOf (.ref it)) Q E s := by
  obtain ⟨o, ho, hc, hd⟩ := id hit
  unfold Builtin.SmallTypes.nextOf
  refine wpAny_bind (wpAny_callSpecial?_slot (name := Str.ofString "__next__") hit.typeIs F.slot_dict_valueiterator_next
    (wpAny_call_entry F.slot_dict_valueiterator_next hit.typeIs F.entry_dict_valueiterator_next ?_ (F.args_dict_valueiterator_next_1 _)))
  refine wpAny_bind (wpAny_pure ?_)
  refine wpAny_bind ?_
  refine wpAny_bind ?_
  first | refine wpAny_bind (wpAny_typeNameOfWhole_valiter hit.typeIs (wpAny_pure ?_)) | refine wpAny_bind (wpAny_typeNameOf_valiter hit.typeIs (wpAny_pure ?_))
  refine wpAny_bind (wpAny_fieldsOf ho hd ?_)
  have hown : Builtin.Dict_items.ownsTuple "dict_valueiterator" = false := by decide
  simp only [hown, Bool.false_eq_true, if_false]
  show wpAny _ _ (if (Value.ref d == Value.none) = true then _ else _) _ _ s
  rw [if_neg (show ¬ ((Value.ref d == Value.none) = true) from Bool.false_ne_true)]
  refine wpAny_bind (wpAny_pure ?_)
  refine wpAny_bind (wpAny_dictEntries hod hdd ?_)
  rw [if_neg (by rw [hsz]; simp)]
  refine wpAny_bind (wpAny_pure ?_)
  refine wpAny_bind (wpAny_dictEpoch hod hdd ?_)
  rw [if_neg (by simp)]
  refine wpAny_pure ?_
  have hge' : es.size ≤ i := by rw [hsz]; exact hge
  simp only [show ¬ ((i : Int) < 0) from by omega, if_false, Int.toNat_natCast, Array.getElem?_eq_none hge']
  refine wpAny_bind ?_
  first | refine wpAny_bind (wpAny_typeNameOfWhole_valiter hit.typeIs (wpAny_pure ?_)) | refine wpAny_bind (wpAny_typeNameOf_valiter hit.typeIs (wpAny_pure ?_))
  show wpAny _ _ (setField (.ref it) 0 .none >>= _) _ _ s
  refine wpAny_bind (wpAny_setField ho hd (by simp) ?_)
  show wpAny _ _ (newExc (.type "StopIteration") [] >>= _) _ _ _
  refine wpAny_bind ?_
  simp only [newExc, newTuple]
  refine wpAny_bind (wpAny_newObj_type ?_ (by size_fits))
  refine wpAny_bind (m := firstArgMember _ _) (wpAny_of_eq (a := Value.none) (by first | rfl | (simp only [firstArgMember]; rfl)) ?_)
  refine wpAny_newObj_type ?_ (by size_fits)
  simp only [raiseNew]
  refine wpAny_bind (wpAny_handled ?_)
  rw [show A.in1.handled = none from hh]
  refine wpAny_bind (wpAny_pure (wpAny_throw ?_))
  exact hE _ _ (((Heap.SameBut.update ..).extBut.push _).push _) ⟨_, Heap.get?_push_size _ rfl, rfl⟩
theorem sub1_val {it d : Addr} {n ep : Nat} {od : Obj} {es : Array DictEntry} (hdd : od.data = .dict es ep) (hsz : es.size = n) : Sub1 it d od n (fun k x => ∃ h : k < es.size, x = es[k].val) (fun k h => h.IsValIter it d k n ep) where
  item := fun P w A s k Q E hk st hod h => nextOf_val_item st hod hdd hsz (by omega) fun h' st' sb => h _ h' ⟨by omega, rfl⟩ st' sb
  done := fun P w A s k Q E hh hk st hod h => nextOf_val_end hh st hod hdd hsz hk h
  keep := fun k h h' st kp => st.at kp
  obj := fun k h ⟨o, e, _, dd⟩ => ⟨o, e, fun v z => by rw [dd] at z; cases z⟩

end PB
namespace PB
open PySem PySem.Spec PyProof.Rows L2
local macro_rules | `(tactic| walk_at "rd") => `(tactic| (repeat refine red ?_))
local macro_rules | `(tactic| walk_at "go") => `(tactic| (repeat (first | refine red ?_ | ((with_reducible apply k_var); rfl) | refine k_new fun _ _ => ?_ | refine wp_and rfl ?_ | refine if_redT rfl ?_ | refine if_redF rfl ?_)))

local macro_rules | `(tactic| walk_at "ext") => `(tactic| (repeat (first | assumption | exact Ext.refl _ | refine Ext.newI ?_ | refine Ext.trans ?_ ‹Ext _ _›)))
local macro_rules | `(tactic| walk_at "rv") => `(tactic| (repeat (first | refine red ?_ | ((with_reducible apply k_var); rfl))))
section
variable {P : Program} {w : World} {A : Around} {E : Value → Shared → Prop} {s : Shared} {z TI TO i1 i2 d l2 : Addr} {od : Obj} {n : Nat} {val : Nat → Value → Prop} {St : Nat → Heap → Prop} {k1 k2 : Nat} {ys : Array Value} {y a b : Value}
theorem zipG_next_item (S : Sub1 i1 d od n val St) {Q : Value → Shared → Prop} (D : ZipApart z TI TO i1 i2 d l2)
    (hz : IsZip s.heap z TI TO .none) (hTI : IsPair s.heap TI (.ref i1) (.ref i2)) (hTO : IsPair s.heap TO a b)
    (h1 : St k1 s.heap) (h2 : s.heap.IsTupleIter i2 l2 k2) (hl1 : s.heap.get? d = some od) (hl2 : s.heap.IsTuple l2 ys) (hx : k1 < n) (hy : ys[k2]? = some y)
    (hQ : ∀ x h', val k1 x → IsZip h' z TI TO (rawInt s.heap.objs.size) → IsPair h' TO x y → St (k1 + 1) h' → h'.IsTupleIter i2 l2 (k2 + 1) → IsPair h' s.heap.objs.size x y → h'.objs.size = s.heap.objs.size + 1 →
      (∀ c o, c ≠ z → c ≠ TO → c ≠ i1 → c ≠ i2 → s.heap.get? c = some o → h'.get? c = some o) → Q (.ref s.heap.objs.size) { s with heap := h' }) :
    wpAny (model P w) A (Builtin.«zip.__next__» ⟨[.ref z], []⟩) (fun fin s' => ∃ v, fin = .done (.ret v) ∧ Q v s') E s := by
  show wpAny _ _ (field (.ref z) 2 >>= _) _ _ _
  refine wpAny_bind (wpAny_field hz rfl (x := .bool false) rfl ?_)
  show wpAny _ _ (field (.ref z) 3 >>= _) _ _ _
  refine wpAny_bind (wpAny_field hz rfl (x := .ref TI) rfl ?_)
  refine wpAny_bind (wpAny_seqItems hTI rfl ?_)
  show wpAny _ _ (Builtin.SmallTypes.ownedTupleIsFree (.ref z) >>= _) _ _ _
  refine wpAny_bind ?_
  unfold Builtin.SmallTypes.ownedTupleIsFree
  refine wpAny_bind (wpAny_field hz rfl (x := .none) rfl (wpAny_pure ?_))
  simp only [if_true]
  refine wpAny_bind (wpAny_rule ?_)
  refine wpAny_bind (wpAny_field hz rfl (x := .ref TO) rfl ?_)
  refine wpAny_bind (wpAny_setField_rec hz (by simp) fun h₁ hz₁ hs₁ => ?_)
  replace hz₁ : IsZip h₁ z TI TO .ellipsis := hz₁
  refine wpAny_bind ?_
  simp only [List.zipIdx_cons, List.zipIdx_nil, List.forIn_cons, List.forIn_nil]
  refine wpAny_bind (wpAny_bind (wpAny_onRaise ?_))
  show wpAny _ _ (Builtin.SmallTypes.nextOf (.ref i1) >>= _) _ _ _
  refine wpAny_bind (S.item P w _ { s with heap := h₁ } k1 _ _ hx (S.keep _ _ _ h1 fun o e => hs₁.extBut _ o D.i1z e) (hs₁.extBut _ _ D.l1z hl1) fun x h₂ hv h1₂ hs₂ => wpAny_pure ?_)
  have hTO₂ : IsPair h₂ TO a b := hs₂.extBut _ _ D.TOi1 (hs₁.extBut _ _ D.TOz hTO)
  refine wpAny_bind (wpAny_seqItems hTO₂ rfl ?_)
  refine wpAny_bind (wpAny_updateSeq_pair hTO₂ fun h₃ hTO₃ hs₃ => ?_)
  replace hTO₃ : IsPair h₃ TO x b := hTO₃
  refine wpAny_bind (wpAny_letGo (wpAny_pure ?_))
  refine wpAny_bind (wpAny_bind (wpAny_onRaise ?_))
  show wpAny _ _ (Builtin.SmallTypes.nextOf (.ref i2) >>= _) _ _ _
  refine wpAny_bind (RZ.nextOf_tuple_item (((h2.extBut hs₁.extBut D.i2z).extBut hs₂.extBut D.i12.symm).extBut hs₃.extBut D.TOi2.symm)
    (((hl2.extBut hs₁.extBut D.l2z).extBut hs₂.extBut D.l2i1).extBut hs₃.extBut D.l2TO) hy fun h₄ h2₄ hs₄ => wpAny_pure ?_)
  have hTO₄ : IsPair h₄ TO x b := hs₄.extBut _ _ D.TOi2 hTO₃
  refine wpAny_bind (wpAny_seqItems hTO₄ rfl ?_)
  refine wpAny_bind (wpAny_updateSeq_pair hTO₄ fun h₅ hTO₅ hs₅ => ?_)
  replace hTO₅ : IsPair h₅ TO x y := hTO₅
  refine wpAny_bind (wpAny_letGo (wpAny_pure (wpAny_pure ?_)))
  refine wpAny_bind (wpAny_seqItems hTO₅ rfl ?_)
  refine wpAny_bind (wpAny_newTuple ?_)
  have hsz : h₅.objs.size = s.heap.objs.size := by rw [hs₅.1, hs₄.1, hs₃.1, hs₂.1, hs₁.1]
  have hz₅ : IsZip h₅ z TI TO .ellipsis := hs₅.extBut _ _ D.TOz.symm (hs₄.extBut _ _ D.i2z.symm (hs₃.extBut _ _ D.TOz.symm (hs₂.extBut _ _ D.i1z.symm hz₁)))
  have hk₅ : ∀ c o, c ≠ z → c ≠ TO → c ≠ i1 → c ≠ i2 → s.heap.get? c = some o → h₅.get? c = some o := fun c o c1 c2 c3 c4 e =>
    hs₅.extBut _ _ c2 (hs₄.extBut _ _ c4 (hs₃.extBut _ _ c2 (hs₂.extBut _ _ c3 (hs₁.extBut _ _ c1 e))))
  have h1₅ : St (k1 + 1) h₅ := S.keep _ _ _ h1₂ fun o e => hs₅.extBut _ o D.TOi1.symm (hs₄.extBut _ o D.i12 (hs₃.extBut _ o D.TOi1.symm e))
  have h2₅ : h₅.IsTupleIter i2 l2 (k2 + 1) := h2₄.extBut hs₅.extBut D.TOi2.symm
  have hzlt : z < h₅.objs.size := Heap.lt_size hz₅
  have hTOlt : TO < h₅.objs.size := Heap.lt_size hTO₅
  show wpAny _ _ (Builtin.SmallTypes.ownedTupleHandOut (.ref z) (.ref h₅.objs.size) >>= _) _ _ _
  refine wpAny_bind ?_
  unfold Builtin.SmallTypes.ownedTupleHandOut
  have hz₆ : IsZip (h₅.push { cls := .type "tuple", data := .seq #[x, y] }) z TI TO .ellipsis := Heap.get?_push_of_some _ hz₅
  refine wpAny_bind (wpAny_setField_rec hz₆ (by simp) fun h₇ hz₇ hs₇ => ?_)
  replace hz₇ : IsZip h₇ z TI TO (rawInt h₅.objs.size) := hz₇
  refine wpAny_setField_rec hz₇ (by simp) fun h₈ hz₈ hs₈ => ?_
  replace hz₈ : IsZip h₈ z TI TO (rawInt h₅.objs.size) := hz₈
  have up : ∀ c o, c ≠ z → h₅.get? c = some o → h₈.get? c = some o := fun c o c1 e => hs₈.extBut _ _ c1 (hs₇.extBut _ _ c1 (Heap.get?_push_of_some _ e))
  have hT₈ : IsPair h₈ h₅.objs.size x y := hs₈.extBut _ _ (Nat.ne_of_gt hzlt) (hs₇.extBut _ _ (Nat.ne_of_gt hzlt) (Heap.get?_push_size _ rfl))
  have hz8 : h₈.objs.size = h₅.objs.size + 1 := by rw [hs₈.1, hs₇.1, Heap.size_push]
  rw [hsz] at hz₈ hT₈ hz8
  refine wpAny_pure ⟨_, rfl, ?_⟩
  show Q (.ref h₅.objs.size) _
  rw [hsz]
  exact hQ x h₈ hv hz₈ (up _ _ D.TOz hTO₅) (S.keep _ _ _ h1₅ fun o e => up _ o D.i1z e) (h2₅.at fun o e => up _ o D.i2z e) hT₈ hz8 fun c o c1 c2 c3 c4 e => up c o c1 (hk₅ c o c1 c2 c3 c4 e)
theorem zipG_next_end (S : Sub1 i1 d od n val St) {Q : Fin → Shared → Prop} (hh : A.handled = none) (D : ZipApart z TI TO i1 i2 d l2)
    (hz : IsZip s.heap z TI TO .none) (hTI : IsPair s.heap TI (.ref i1) (.ref i2)) (hTO : IsPair s.heap TO a b)
    (h1 : St k1 s.heap) (h2 : s.heap.IsTupleIter i2 l2 k2) (hl1 : s.heap.get? d = some od) (hl2 : s.heap.IsTuple l2 ys) (hend : n ≤ k1 ∨ ys[k2]? = none)
    (hE : ∀ h' e, (∀ c o, c ≠ z → c ≠ TO → c ≠ i1 → c ≠ i2 → s.heap.get? c = some o → h'.get? c = some o) → (∃ o, h'.get? e = some o ∧ o.cls = .type "StopIteration") → E (.ref e) { s with heap := h' }) :
    wpAny (model P w) A (Builtin.«zip.__next__» ⟨[.ref z], []⟩) Q E s := by
  show wpAny _ _ (field (.ref z) 2 >>= _) _ _ _
  refine wpAny_bind (wpAny_field hz rfl (x := .bool false) rfl ?_)
  show wpAny _ _ (field (.ref z) 3 >>= _) _ _ _
  refine wpAny_bind (wpAny_field hz rfl (x := .ref TI) rfl ?_)
  refine wpAny_bind (wpAny_seqItems hTI rfl ?_)
  show wpAny _ _ (Builtin.SmallTypes.ownedTupleIsFree (.ref z) >>= _) _ _ _
  refine wpAny_bind ?_
  unfold Builtin.SmallTypes.ownedTupleIsFree
  refine wpAny_bind (wpAny_field hz rfl (x := .none) rfl (wpAny_pure ?_))
  simp only [if_true]
  refine wpAny_bind (wpAny_rule ?_)
  refine wpAny_bind (wpAny_field hz rfl (x := .ref TO) rfl ?_)
  refine wpAny_bind (wpAny_setField_rec hz (by simp) fun h₁ hz₁ hs₁ => ?_)
  replace hz₁ : IsZip h₁ z TI TO .ellipsis := hz₁
  refine wpAny_bind ?_
  simp only [List.zipIdx_cons, List.zipIdx_nil, List.forIn_cons, List.forIn_nil]
  refine wpAny_bind (wpAny_bind (wpAny_onRaise ?_))
  show wpAny _ _ (Builtin.SmallTypes.nextOf (.ref i1) >>= _) _ _ _
  by_cases hx : n ≤ k1
  · refine wpAny_bind (S.done P w _ { s with heap := h₁ } k1 _ _ hh hx (S.keep _ _ _ h1 fun o e => hs₁.extBut _ o D.i1z e) (hs₁.extBut _ _ D.l1z hl1) fun h₂ e hs₂ he => ?_)
    obtain ⟨oe, hoe, hce⟩ := he
    have hz₂ : IsZip h₂ z TI TO .ellipsis := hs₂ _ _ D.i1z.symm hz₁
    have hez : e ≠ z := fun x => by subst x; rw [hz₂] at hoe; cases hoe; simp at hce
    refine wpAny_setField_rec hz₂ (by simp) fun h₃ _ hs₃ => hE h₃ e (fun c o c1 _ c3 _ x => hs₃.extBut _ _ c1 (hs₂ _ _ c3 (hs₁.extBut _ _ c1 x))) ⟨oe, hs₃.extBut _ _ hez hoe, hce⟩
  · have hy : ys[k2]? = none := hend.resolve_left hx
    refine wpAny_bind (S.item P w _ { s with heap := h₁ } k1 _ _ (by omega) (S.keep _ _ _ h1 fun o e => hs₁.extBut _ o D.i1z e) (hs₁.extBut _ _ D.l1z hl1) fun x h₂ hv h1₂ hs₂ => wpAny_pure ?_)
    have hTO₂ : IsPair h₂ TO a b := hs₂.extBut _ _ D.TOi1 (hs₁.extBut _ _ D.TOz hTO)
    refine wpAny_bind (wpAny_seqItems hTO₂ rfl ?_)
    refine wpAny_bind (wpAny_updateSeq_pair hTO₂ fun h₃ hTO₃ hs₃ => ?_)
    refine wpAny_bind (wpAny_letGo (wpAny_pure ?_))
    refine wpAny_bind (wpAny_bind (wpAny_onRaise ?_))
    show wpAny _ _ (Builtin.SmallTypes.nextOf (.ref i2) >>= _) _ _ _
    refine wpAny_bind (RZ.nextOf_tuple_end hh (((h2.extBut hs₁.extBut D.i2z).extBut hs₂.extBut D.i12.symm).extBut hs₃.extBut D.TOi2.symm)
      (((hl2.extBut hs₁.extBut D.l2z).extBut hs₂.extBut D.l2i1).extBut hs₃.extBut D.l2TO) hy fun h₄ e hs₄ he => ?_)
    obtain ⟨oe, hoe, hce⟩ := he
    have hz₄ : IsZip h₄ z TI TO .ellipsis := hs₄ _ _ D.i2z.symm (hs₃.extBut _ _ D.TOz.symm (hs₂.extBut _ _ D.i1z.symm hz₁))
    have hez : e ≠ z := fun x => by subst x; rw [hz₄] at hoe; cases hoe; simp at hce
    refine wpAny_setField_rec hz₄ (by simp) fun h₅ _ hs₅ => hE h₅ e (fun c o c1 c2 c3 c4 x => hs₅.extBut _ _ c1 (hs₄ _ _ c4 (hs₃.extBut _ _ c2 (hs₂.extBut _ _ c3 (hs₁.extBut _ _ c1 x))))) ⟨oe, hs₅.extBut _ _ hez hoe, hce⟩
/-- while its last pair is held -/
theorem zipG_next_item_held (S : Sub1 i1 d od n val St) {T : Addr} {f : Bool} {oT : Obj} {Q : Value → Shared → Prop} (D : ZipApart z TI TO i1 i2 d l2)
    (hz : IsZipHeld s.heap z TI TO T f) (hT : s.heap.get? T = some oT) (hTI : IsPair s.heap TI (.ref i1) (.ref i2))
    (h1 : St k1 s.heap) (h2 : s.heap.IsTupleIter i2 l2 k2) (hl1 : s.heap.get? d = some od) (hl2 : s.heap.IsTuple l2 ys) (hx : k1 < n) (hy : ys[k2]? = some y)
    (hQ : ∀ x h', val k1 x → IsZipHeld h' z TI TO T true → St (k1 + 1) h' → h'.IsTupleIter i2 l2 (k2 + 1) → IsPair h' s.heap.objs.size x y → h'.objs.size = s.heap.objs.size + 1 →
      (∀ c o, c ≠ z → c ≠ i1 → c ≠ i2 → s.heap.get? c = some o → h'.get? c = some o) → Q (.ref s.heap.objs.size) { s with heap := h' }) :
    wpAny (model P w) A (Builtin.«zip.__next__» ⟨[.ref z], []⟩) (fun fin s' => ∃ v, fin = .done (.ret v) ∧ Q v s') E s := by
  show wpAny _ _ (field (.ref z) 2 >>= _) _ _ _
  refine wpAny_bind (wpAny_field hz rfl (x := .bool false) rfl ?_)
  show wpAny _ _ (field (.ref z) 3 >>= _) _ _ _
  refine wpAny_bind (wpAny_field hz rfl (x := .ref TI) rfl ?_)
  refine wpAny_bind (wpAny_seqItems hTI rfl ?_)
  show wpAny _ _ (Builtin.SmallTypes.ownedTupleIsFree (.ref z) >>= _) _ _ _
  refine wpAny_bind (wpAny_tupleHeld_zip hz hT fun h₁ hz₁ hs₁ => ?_)
  simp only [Bool.false_eq_true, if_false]
  refine wpAny_bind ?_
  rw [← Array.forIn_toList]
  simp only [List.forIn_cons, List.forIn_nil]
  refine wpAny_bind (wpAny_bind (wpAny_holding ?_))
  show wpAny _ _ (Builtin.SmallTypes.nextOf (.ref i1) >>= _) _ _ _
  refine wpAny_bind (S.item P w _ { s with heap := h₁ } k1 _ _ hx (S.keep _ _ _ h1 fun o e => hs₁.extBut _ o D.i1z e) (hs₁.extBut _ _ D.l1z hl1) fun x h₂ hv h1₂ hs₂ => wpAny_pure ?_)
  refine wpAny_pure ?_
  refine wpAny_bind (wpAny_bind (wpAny_holding ?_))
  show wpAny _ _ (Builtin.SmallTypes.nextOf (.ref i2) >>= _) _ _ _
  refine wpAny_bind (RZ.nextOf_tuple_item (s := { s with heap := h₂ }) ((h2.extBut hs₁.extBut D.i2z).extBut hs₂.extBut D.i12.symm) ((hl2.extBut hs₁.extBut D.l2z).extBut hs₂.extBut D.l2i1) hy fun h₃ h2₃ hs₃ => wpAny_pure ?_)
  refine wpAny_pure (wpAny_pure ?_)
  show wpAny _ _ (newTuple [x, y] >>= _) _ _ _
  refine wpAny_bind (wpAny_newTuple ?_)
  have hsz : h₃.objs.size = s.heap.objs.size := by rw [hs₃.1, hs₂.1, hs₁.1]
  have hz₃ : IsZipHeld h₃ z TI TO T true := hs₃.extBut _ _ D.i2z.symm (hs₂.extBut _ _ D.i1z.symm hz₁)
  have hk : ∀ c o, c ≠ z → c ≠ i1 → c ≠ i2 → s.heap.get? c = some o → h₃.get? c = some o := fun c o c1 c2 c3 e => hs₃.extBut _ _ c3 (hs₂.extBut _ _ c2 (hs₁.extBut _ _ c1 e))
  have h1₃ : St (k1 + 1) h₃ := S.keep _ _ _ h1₂ fun o e => hs₃.extBut _ o D.i12 e
  refine wpAny_pure ⟨_, rfl, ?_⟩
  show Q (.ref h₃.objs.size) _
  have hp : IsPair (h₃.push { cls := .type "tuple", data := .seq #[x, y] }) h₃.objs.size x y := Heap.get?_push_size _ rfl
  have hz4 : (h₃.push { cls := .type "tuple", data := .seq #[x, y] }).objs.size = h₃.objs.size + 1 := Heap.size_push ..
  rw [hsz] at hp hz4 ⊢
  exact hQ x _ hv (Heap.get?_push_of_some _ hz₃) (S.keep _ _ _ h1₃ fun o e => Heap.get?_push_of_some _ e) (h2₃.at fun o e => Heap.get?_push_of_some _ e) hp hz4 fun c o c1 c2 c3 e => Heap.get?_push_of_some _ (hk c o c1 c2 c3 e)
theorem zipG_next_end_held (S : Sub1 i1 d od n val St) {T : Addr} {f : Bool} {oT : Obj} {Q : Fin → Shared → Prop} (hh : A.handled = none) (D : ZipApart z TI TO i1 i2 d l2)
    (hz : IsZipHeld s.heap z TI TO T f) (hT : s.heap.get? T = some oT) (hTI : IsPair s.heap TI (.ref i1) (.ref i2))
    (h1 : St k1 s.heap) (h2 : s.heap.IsTupleIter i2 l2 k2) (hl1 : s.heap.get? d = some od) (hl2 : s.heap.IsTuple l2 ys) (hend : n ≤ k1 ∨ ys[k2]? = none)
    (hE : ∀ h' e, (∀ c o, c ≠ z → c ≠ i1 → c ≠ i2 → s.heap.get? c = some o → h'.get? c = some o) → (∃ o, h'.get? e = some o ∧ o.cls = .type "StopIteration") → E (.ref e) { s with heap := h' }) :
    wpAny (model P w) A (Builtin.«zip.__next__» ⟨[.ref z], []⟩) Q E s := by
  show wpAny _ _ (field (.ref z) 2 >>= _) _ _ _
  refine wpAny_bind (wpAny_field hz rfl (x := .bool false) rfl ?_)
  show wpAny _ _ (field (.ref z) 3 >>= _) _ _ _
  refine wpAny_bind (wpAny_field hz rfl (x := .ref TI) rfl ?_)
  refine wpAny_bind (wpAny_seqItems hTI rfl ?_)
  show wpAny _ _ (Builtin.SmallTypes.ownedTupleIsFree (.ref z) >>= _) _ _ _
  refine wpAny_bind (wpAny_tupleHeld_zip hz hT fun h₁ hz₁ hs₁ => ?_)
  simp only [Bool.false_eq_true, if_false]
  refine wpAny_bind ?_
  rw [← Array.forIn_toList]
  simp only [List.forIn_cons, List.forIn_nil]
  refine wpAny_bind (wpAny_bind (wpAny_holding ?_))
  show wpAny _ _ (Builtin.SmallTypes.nextOf (.ref i1) >>= _) _ _ _
  by_cases hx : n ≤ k1
  · refine wpAny_bind (S.done P w _ { s with heap := h₁ } k1 _ _ hh hx (S.keep _ _ _ h1 fun o e => hs₁.extBut _ o D.i1z e) (hs₁.extBut _ _ D.l1z hl1) fun h₂ e hs₂ he => ?_)
    exact hE h₂ e (fun c o c1 c2 _ x => hs₂ _ _ c2 (hs₁.extBut _ _ c1 x)) he
  · have hy : ys[k2]? = none := hend.resolve_left hx
    refine wpAny_bind (S.item P w _ { s with heap := h₁ } k1 _ _ (by omega) (S.keep _ _ _ h1 fun o e => hs₁.extBut _ o D.i1z e) (hs₁.extBut _ _ D.l1z hl1) fun x h₂ hv h1₂ hs₂ => wpAny_pure ?_)
    refine wpAny_pure ?_
    refine wpAny_bind (wpAny_bind (wpAny_holding ?_))
    show wpAny _ _ (Builtin.SmallTypes.nextOf (.ref i2) >>= _) _ _ _
    refine wpAny_bind (RZ.nextOf_tuple_end (s := { s with heap := h₂ }) hh ((h2.extBut hs₁.extBut D.i2z).extBut hs₂.extBut D.i12.symm) ((hl2.extBut hs₁.extBut D.l2z).extBut hs₂.extBut D.l2i1) hy fun h₃ e hs₃ he => ?_)
    exact hE h₃ e (fun c o c1 c2 c3 x => hs₃ _ _ c3 (hs₂.extBut _ _ c2 (hs₁.extBut _ _ c1 x))) he
/-! the turn, by any of them -/
theorem zip_turn {z : Addr} {Q : Option Value → Shared → Prop} {oz : Obj} (ho : s.heap.get? z = some oz) (hc : oz.cls = .type "zip")
    (h : wpAny (model P w) A.in1 (Builtin.«zip.__next__» ⟨[.ref z], []⟩) (fun fin s' => ∃ v, fin = .done (.ret v) ∧ Q (some v) s') (fun e s' => (∃ a o, e = .ref a ∧ s'.heap.get? a = some o ∧ o.cls = .type "StopIteration") ∧ Q none s') s) :
    wpAny (model P w) A (pyNext (.ref z)) Q E s := by
  have hT : s.TypeIs (.ref z) "zip" := ⟨_, ho, hc⟩
  unfold pyNext
  refine wpAny_bind (wpAny_attempt (wpAny_callSpecial?_slot (name := Str.ofString "__next__") hT F.slot_zip_next
    (wpAny_call_entry F.slot_zip_next hT F.entry_zip_next (wpAny_mono h (fun fin s' ⟨v, e, q⟩ => ⟨v, e, wpAny_pure q⟩) fun e s' ⟨⟨a, o, e1, e2, e3⟩, q⟩ => ?_) (F.args_zip_next_1 _))))
  subst e1
  exact wpAny_bind (wpAny_isInstance (T := "StopIteration") (b := true) ⟨o, e2, e3⟩ isSubtype_stop (wpAny_pure q))
end

end PB
namespace PB
open PySem PySem.Spec PyProof.Rows L2
local macro_rules | `(tactic| walk_at "rd") => `(tactic| (repeat refine red ?_))
local macro_rules | `(tactic| walk_at "go") => `(tactic| (repeat (first | refine red ?_ | ((with_reducible apply k_var); rfl) | refine k_new fun _ _ => ?_ | refine wp_and rfl ?_ | refine if_redT rfl ?_ | refine if_redF rfl ?_)))

local macro_rules | `(tactic| walk_at "ext") => `(tactic| (repeat (first | assumption | exact Ext.refl _ | refine Ext.newI ?_ | refine Ext.trans ?_ ‹Ext _ _›)))
local macro_rules | `(tactic| walk_at "rv") => `(tactic| (repeat (first | refine red ?_ | ((with_reducible apply k_var); rfl))))
/-- what the entries of a locked dict are -/
theorem frz_entry {X : Cx} {pins : List (Addr × Obj)} {σ : L2.St} {H : Hp} {s : Shared} {d : Addr} {od : Obj} {kvs : List (Key × V)} {es : Array DictEntry} {ep : Nat} (I : Inv X pins σ H s) (h : H d = some (.frz od (.dK kvs))) (hdd : od.data = .dict es ep) {k : Nat} (hk : k < es.size) :
    ∃ p, kvs[k]? = some p ∧ RelV (kV p.1) es[k].key ∧ RelV p.2 es[k].val := by
  obtain ⟨hs, hgd, hx, es', ep', vs, hdt, hsz, kv, o', es2, ho', hx', hd2, hk', hp, hn⟩ := I.frzK h
  have ee := (dict_ep hdt hdd).1
  subst ee
  rw [hgd] at ho'
  cases ho'
  obtain ⟨rfl, _⟩ := dict_ep hdt hd2
  obtain ⟨p, hp1⟩ : ∃ p, kvs[k]? = some p := ⟨kvs[k], List.getElem?_eq_getElem (by omega)⟩
  obtain ⟨u, hu, ru⟩ := kv_get kv (show kvs[k]? = some (p.1, p.2) from hp1)
  have q := hp.get? (i := k) (e := es2[k]) (by simp [hk]) hu
  refine ⟨p, hp1, relV_key q.1, ?_⟩
  rw [q.2]
  exact ru
def ItzK (K : PySem.W.Frag) (d : Addr) (od : Obj) (kvs : List (Key × V)) (b : Addr) (sel : Key × V → V) : It :=
  ⟨fun i H => H d = some (.frz od (.dK kvs)) ∧ ∃ (ys : List V) (y : V), SqT K H b ys ∧ i < kvs.length ∧ ys[i]? = some y,
   fun i H v H' => ∃ T p y, v = .ref T ∧ H T = none ∧ H' = upd H T (.tup [sel p, y]) ∧ kvs[i]? = some p ∧ ∀ ys, SqT K H b ys → ys[i]? = some y,
   fun i H => H d = some (.frz od (.dK kvs)) ∧ ∃ ys : List V, SqT K H b ys ∧ (kvs.length ≤ i ∨ ys.length ≤ i)⟩
theorem turn_zipK {P : Program} {w : World} {K : PySem.W.Frag} {elts : List Expr} {kk : Nat} {tpos : Pos} {d b z TI TO i1 i2 : Addr} {od : Obj} {kvs : List (Key × V)} {es : Array DictEntry} {ep : Nat} {val : Nat → Value → Prop} {St : Nat → Heap → Prop} {sel : Key × V → V} (hdd : od.data = .dict es ep)
    (S : Sub1 i1 d od kvs.length val St) (hsel : ∀ k x, val k x → ∃ h : k < es.size, ∀ p : Key × V, RelV (kV p.1) es[k].key → RelV p.2 es[k].val → RelV (sel p) x) (D : ZipApart z TI TO i1 i2 d b) :
    Turn P w K (.Tuple elts kk tpos) (ItzK K d od kvs b sel) [z, TI, TO, i1, i2] z (fun i h => IsZip h z TI TO .none ∧ IsPair h TI (.ref i1) (.ref i2) ∧ (∃ x y, IsPair h TO x y) ∧ St i h ∧ h.IsTupleIter i2 b i) where
  mem := by simp
  obj := fun i h st c hc => by
    obtain ⟨hz, hTI, ⟨x, y, hTO⟩, h1, ⟨o2, e2, _, d2⟩⟩ := st
    have e' : c = z ∨ c = TI ∨ c = TO ∨ c = i1 ∨ c = i2 := by simpa using hc
    rcases e' with q | q | q | q | q
    · rw [q]; exact ⟨_, hz, fun v q => nomatch q⟩
    · rw [q]; exact ⟨_, hTI, fun v q => nomatch q⟩
    · rw [q]; exact ⟨_, hTO, fun v q => nomatch q⟩
    · rw [q]; exact S.obj _ _ h1
    · rw [q]; exact ⟨o2, e2, fun v q => by rw [d2] at q; cases q⟩
  keep := fun i h h' st k => by
    obtain ⟨hz, hTI, ⟨x, y, hTO⟩, h1, h2⟩ := st
    exact ⟨k z (by simp) _ hz, k TI (by simp) _ hTI, ⟨x, y, k TO (by simp) _ hTO⟩, S.keep _ _ _ h1 fun o q => k i1 (by simp) o q, h2.at fun o q => k i2 (by simp) o q⟩
  item := by
    intro X hP hw hK hc i pins s σ H E I hf st hg
    subst hP hw hK
    obtain ⟨hz, hTI, ⟨x0, y0, hTO⟩, h1, h2⟩ := st
    obtain ⟨hd, ys, y, hqy, hi, hy⟩ := hg
    obtain ⟨_, hgd, _⟩ := I.frzK hd
    obtain ⟨its2, rv2, p2, _⟩ := I.tuple hqy
    obtain ⟨u2, hu2, ru2⟩ := rv2.get hy
    have hzl : z < s.heap.objs.size := Heap.lt_size hz
    refine zip_turn hz rfl (zipG_next_item S D hz hTI hTO h1 h2 hgd p2 hi (y := u2) (by simpa using hu2) fun x h' hv z' TO' h1' h2' hT hsz hk => ?_)
    refine ⟨_, rfl, wpAny_letOwnedTupleGo_zip (s := { s with heap := h' }) z' fun h'' z'' sb => ?_⟩
    obtain ⟨hlt, hrel⟩ := hsel i x hv
    obtain ⟨p, hp, r1, r2⟩ := frz_entry I hd hdd hlt
    have ru := hrel p r1 r2
    have hT2 : h''.get? s.heap.objs.size = some { cls := .type "tuple", data := .seq #[x, u2] } := (sb.2 _ (Nat.ne_of_gt hzl)).trans hT
    have new : ObjOk X.prog X.w (upd H s.heap.objs.size (.tup [sel p, y])) h'' s.heap.objs.size (.tup [sel p, y]) :=
      ⟨by show 2 ≤ sizeLine; decide, [x, u2], .cons ru (.cons ru2 .nil), ⟨_, hT2, rfl, _, rfl⟩⟩
    have I1 : Inv X pins σ (upd H s.heap.objs.size (.tup [sel p, y])) { s with heap := h'' } :=
      I.turnedNew (t' := s.toks) (ch := [z, TI, TO, i1, i2]) (fun c o hb q => (sb.2 c (fun q' => hb (by simp [q']))).trans (hk c o (fun q' => hb (by simp [q'])) (fun q' => hb (by simp [q'])) (fun q' => hb (by simp [q'])) (fun q' => hb (by simp [q'])) q)) hf (Nat.le_refl _) new
    refine ⟨.ref s.heap.objs.size, _, I1, rfl, ⟨_, p, y, rfl, I.hok.fresh (Nat.le_refl _), rfl, hp, fun l hl => by rw [I.tuple_inj hl hqy]; exact hy⟩, ⟨z'', ?_, ⟨x, u2, ?_⟩, ?_, ?_⟩, fun c hcm => ?_⟩
    · exact (sb.2 _ D.TIz).trans (hk _ _ D.TIz D.TITO D.TIi1 D.TIi2 hTI)
    · exact (sb.2 _ D.TOz).trans TO'
    · exact S.keep _ _ _ h1' fun o q => (sb.2 _ D.i1z).trans q
    · exact h2'.at fun o q => (sb.2 _ D.i2z).trans q
    · have hlt : c < s.heap.objs.size := by
        have e' : c = z ∨ c = TI ∨ c = TO ∨ c = i1 ∨ c = i2 := by simpa using hcm
        rcases e' with q | q | q | q | q
        · rw [q]; exact hzl
        · rw [q]; exact Heap.lt_size hTI
        · rw [q]; exact Heap.lt_size hTO
        · rw [q]; obtain ⟨_, e1, _⟩ := S.obj _ _ h1; exact Heap.lt_size e1
        · rw [q]; obtain ⟨_, e1, _⟩ := h2; exact Heap.lt_size e1
      rw [upd_ne (Nat.ne_of_lt hlt)]
      exact (hf c hcm).1
  done := by
    intro X hP hw hK hc i pins s σ H E I hf st hg
    subst hP hw hK
    obtain ⟨hz, hTI, ⟨x0, y0, hTO⟩, h1, h2⟩ := st
    obtain ⟨hd, ys, hqy, hend⟩ := hg
    obtain ⟨_, hgd, _⟩ := I.frzK hd
    obtain ⟨its2, rv2, p2, _⟩ := I.tuple hqy
    have l2 := rv2.length
    have he : kvs.length ≤ i ∨ its2.toArray[i]? = none := by
      rcases hend with q | q
      · exact .inl q
      · exact .inr (by simp; omega)
    refine zip_turn hz rfl (zipG_next_end S (I.ok.hd hc) D hz hTI hTO h1 h2 hgd p2 he fun h' e hk hso => ?_)
    obtain ⟨o, ho, hco⟩ := hso
    exact ⟨⟨e, o, rfl, ho, hco⟩, rfl, I.turnedL (t' := s.toks) (ch := [z, TI, TO, i1, i2]) (fun c o hb q =>
      hk c o (fun q' => hb (by simp [q'])) (fun q' => hb (by simp [q'])) (fun q' => hb (by simp [q'])) (fun q' => hb (by simp [q'])) q) hf⟩
  self := fun A i s Q E st h => wpAny_pyIter_zip st.1 h

end PB
namespace PB
open PySem PySem.Spec PyProof.Rows L2
local macro_rules | `(tactic| walk_at "rd") => `(tactic| (repeat refine red ?_))
local macro_rules | `(tactic| walk_at "go") => `(tactic| (repeat (first | refine red ?_ | ((with_reducible apply k_var); rfl) | refine k_new fun _ _ => ?_ | refine wp_and rfl ?_ | refine if_redT rfl ?_ | refine if_redF rfl ?_)))

local macro_rules | `(tactic| walk_at "ext") => `(tactic| (repeat (first | assumption | exact Ext.refl _ | refine Ext.newI ?_ | refine Ext.trans ?_ ‹Ext _ _›)))
local macro_rules | `(tactic| walk_at "rv") => `(tactic| (repeat (first | refine red ?_ | ((with_reducible apply k_var); rfl))))
/-! zip(..) made -/
abbrev zG2 (h : Heap) (o1 : Obj) (l2 : Addr) : Heap := (h.push o1).push { cls := .type "tuple_iterator", data := .fields #[.ref l2, .int 0 0] }
abbrev zG3 (h : Heap) (o1 : Obj) (l2 : Addr) : Heap := (zG2 h o1 l2).push { cls := .type "tuple", data := .seq #[.ref h.objs.size, .ref (h.push o1).objs.size] }
abbrev zG4 (h : Heap) (o1 : Obj) (l2 : Addr) : Heap := (zG3 h o1 l2).push { cls := .type "tuple", data := .seq #[.none, .none] }
abbrev zG5 (h : Heap) (o1 : Obj) (l2 : Addr) : Heap := (zG4 h o1 l2).push { cls := .type "zip", data := .fields #[.none, .bool false, .bool false, .ref (zG2 h o1 l2).objs.size, .ref (zG3 h o1 l2).objs.size] }
theorem meets_zipG_new (l1 l2 : Addr) (o1 : Obj) (ys : Array Value) :
    Meets (Builtin.«zip.__new__» ⟨[.type "zip", .ref l1, .ref l2], []⟩) (fun _ R s => (∀ (P : Program) (w : World) (A : Around) (E : Value → Shared → Prop) (Q : Value → Shared → Prop), Q (.ref s.heap.objs.size) { s with heap := s.heap.push o1 } → wpAny (model P w) A (pyIter (.ref l1)) Q E s) ∧ s.heap.IsTuple l2 ys ∧
      R (.ok (.ret (.ref (zG4 s.heap o1 l2).objs.size))) { s with heap := zG5 s.heap o1 l2 }) :=
  .of_wp fun prog w A R s h => by
    obtain ⟨hp, g, d, tk, os⟩ := s; obtain ⟨hl1, hl2, h⟩ := h
    have hsub := sub_zip
    have hL1 : ∀ (A : Around) (E : Value → Shared → Prop) (Q : Value → Shared → Prop), Q (.ref hp.objs.size) ⟨hp.push o1, g, d, tk, os⟩ → wpAny (model prog w) A (pyIter (.ref l1)) Q E ⟨hp, g, d, tk, os⟩ := fun A E Q => hl1 prog w A E Q
    have hL2 : Heap.IsTuple (Shared.heap ⟨hp.push o1, g, d, tk, os⟩) l2 ys := Heap.IsTuple.push hl2 _
    wp_walk using hL1 _ _ _, wpAny_pyIter_tuple hL2
    exact ⟨_, rfl, h⟩
/-- zip(x, t): an iterator o1 of x, one of the tuple at l2 -/
theorem call_zipG {P : Program} {w : World} {A : Around} {E : Value → Shared → Prop} {s : Shared} {l1 l2 : Addr} {o1 : Obj} {ys : Array Value} {Q : Value → Shared → Prop}
    (hl1 : ∀ (P : Program) (w : World) (A : Around) (E : Value → Shared → Prop) (Q : Value → Shared → Prop), Q (.ref s.heap.objs.size) { s with heap := s.heap.push o1 } → wpAny (model P w) A (pyIter (.ref l1)) Q E s) (hl2 : s.heap.IsTuple l2 ys) (hf : ∀ v, o1.data ≠ .cell v) (hfr : o1.isFreed = false)
    (h : ∀ h', IsZip h' (s.heap.objs.size + 4) (s.heap.objs.size + 2) (s.heap.objs.size + 3) .none → IsPair h' (s.heap.objs.size + 2) (.ref s.heap.objs.size) (.ref (s.heap.objs.size + 1)) →
      IsPair h' (s.heap.objs.size + 3) .none .none → h'.get? s.heap.objs.size = some o1 → h'.IsTupleIter (s.heap.objs.size + 1) l2 0 → h'.objs.size = s.heap.objs.size + 5 →
      (∀ c o, s.heap.get? c = some o → h'.get? c = some o) → Q (.ref (s.heap.objs.size + 4)) { s with heap := h' }) :
    wpAny (model P w) A (call (.type "zip") [.ref l1, .ref l2]) Q E s := by
  refine callType_new F.called_zip (by decide) (F.typeCall_zip_2 _ _) (F.newCall_zip_2 _ _) (fun obj => F.args_object_init_3 obj _ _) F.entry_zip_new
    (meets_zipG_new l1 l2 o1 ys) ⟨hl1, hl2, ?_⟩
  have z1 : (s.heap.push o1).objs.size = s.heap.objs.size + 1 := Heap.size_push ..
  have z2 : (zG2 s.heap o1 l2).objs.size = s.heap.objs.size + 2 := by rw [Heap.size_push, z1]
  have z3 : (zG3 s.heap o1 l2).objs.size = s.heap.objs.size + 3 := by rw [Heap.size_push, z2]
  have z4 : (zG4 s.heap o1 l2).objs.size = s.heap.objs.size + 4 := by rw [Heap.size_push, z3]
  have z5 : (zG5 s.heap o1 l2).objs.size = s.heap.objs.size + 5 := by rw [Heap.size_push, z4]
  have g5 : (zG5 s.heap o1 l2).get? (zG4 s.heap o1 l2).objs.size = some _ := Heap.get?_push_size _ rfl
  have g4 : (zG5 s.heap o1 l2).get? (zG3 s.heap o1 l2).objs.size = some _ := Heap.get?_push_of_some _ (Heap.get?_push_size _ rfl)
  have g3 : (zG5 s.heap o1 l2).get? (zG2 s.heap o1 l2).objs.size = some _ := Heap.get?_push_of_some _ (Heap.get?_push_of_some _ (Heap.get?_push_size _ rfl))
  have g2 : (zG5 s.heap o1 l2).get? (s.heap.push o1).objs.size = some _ := Heap.get?_push_of_some _ (Heap.get?_push_of_some _ (Heap.get?_push_of_some _ (Heap.get?_push_size _ rfl)))
  have g1 : (zG5 s.heap o1 l2).get? s.heap.objs.size = some o1 := Heap.get?_push_of_some _ (Heap.get?_push_of_some _ (Heap.get?_push_of_some _ (Heap.get?_push_of_some _ (Heap.get?_push_size _ hfr))))
  show _ ∧ _
  rw [z2, z3, z4] at g5
  rw [z1, z2] at g3
  rw [z3] at g4
  rw [z1] at g2
  rw [z4]
  exact ⟨⟨_, g5, rfl⟩, h _ g5 g3 g4 g1 ⟨_, g2, rfl, rfl⟩ z5 fun c o x =>
    Heap.get?_push_of_some _ (Heap.get?_push_of_some _ (Heap.get?_push_of_some _ (Heap.get?_push_of_some _ (Heap.get?_push_of_some _ x))))⟩

end PB
namespace PB
open PySem PySem.Spec PyProof.Rows L2
local macro_rules | `(tactic| walk_at "rd") => `(tactic| (repeat refine red ?_))
local macro_rules | `(tactic| walk_at "go") => `(tactic| (repeat (first | refine red ?_ | ((with_reducible apply k_var); rfl) | refine k_new fun _ _ => ?_ | refine wp_and rfl ?_ | refine if_redT rfl ?_ | refine if_redF rfl ?_)))

local macro_rules | `(tactic| walk_at "ext") => `(tactic| (repeat (first | assumption | exact Ext.refl _ | refine Ext.newI ?_ | refine Ext.trans ?_ ‹Ext _ _›)))
local macro_rules | `(tactic| walk_at "rv") => `(tactic| (repeat (first | refine red ?_ | ((with_reducible apply k_var); rfl))))
theorem pyIter_valsRaw {P : Program} {w : World} {A : Around} {E : Value → Shared → Prop} {s : Shared} {v d : Addr} {o : Obj} {es : Array DictEntry} {ep : Nat} {Q : Value → Shared → Prop} (hv : s.heap.IsValuesView v d) (ho : s.heap.get? d = some o) (hdat : o.data = .dict es ep)
    (hQ : Q (.ref s.heap.objs.size) { s with heap := s.heap.push { cls := .type "dict_valueiterator", data := .fields #[.ref d, .int 0 0, .int es.size 0, .int ep 0] } }) :
    wpAny (model P w) A (pyIter (.ref v)) Q E s := by
  obtain ⟨ov, hov, hcv, hdv⟩ := id hv
  refine wpAny_pyIter_slot hv.typeIs F.slot_dict_values_iter (wpAny_call_entry F.slot_dict_values_iter hv.typeIs F.entry_dict_values_iter ?_ (F.args_dict_values_iter_1 _))
  unfold Builtin.«dict_values.__iter__»
  refine wpAny_bind (wpAny_pure ?_)
  refine wpAny_bind ?_
  unfold Builtin.Dict_items.dictOf
  refine wpAny_bind (wpAny_field hov hdv (x := .ref d) rfl (wpAny_pure ?_))
  refine wpAny_bind ?_
  unfold Builtin.Dict_items.newIterator
  refine wpAny_bind (wpAny_dictEntries ho hdat ?_)
  refine wpAny_bind (wpAny_dictEpoch ho hdat ?_)
  have hown : Builtin.Dict_items.ownsTuple "dict_valueiterator" = false := by decide
  simp only [hown, Bool.false_eq_true, if_false]
  refine wpAny_newObj_type (wpAny_pure ⟨_, rfl, "dict_valueiterator", _, ⟨_, Heap.get?_push_size _ rfl, rfl⟩, F.slot_dict_valueiterator_next.lookup, ?_⟩)
  simpa [rawInt] using hQ
def selK (p : Key × V) : V := kV p.1
def selV (p : Key × V) : V := p.2
/-- zip(d, t), zip(d.values(), t): the dict is locked -/
def kZipG (K : PySem.W.Frag) (sel : Key × V → V) (x y : V) (H : Hp) (R : It → Hp → Prop) : Prop := ∃ d t od kvs ys, x = .ref d ∧ y = .ref t ∧ H d = some (.frz od (.dK kvs)) ∧ SqT K H t ys ∧ R (ItzK K d od kvs t sel) H
section
variable {X : Cx} {tg e e2 : Expr} {te te2 : TE} {p pos tpos apos cpos : Pos} {elts : List Expr} {kk : Nat} {ta : TA}
theorem zip_made {pins : List (Addr × Obj)} {σ : L2.St} {H : Hp} {s : Shared} {R : It → Hp → Prop} {d t l1 : Addr} {od o1 : Obj} {kvs : List (Key × V)} {ys : List V} {es : Array DictEntry} {ep : Nat} {val : Nat → Value → Prop} {St : Nat → Heap → Prop} {sel : Key × V → V} (I : Inv X pins σ H s)
    (hd : H d = some (.frz od (.dK kvs))) (ht : SqT X.K H t ys) (hdd : od.data = .dict es ep)
    (hl1 : ∀ (P : Program) (w : World) (A : Around) (E : Value → Shared → Prop) (Q : Value → Shared → Prop), Q (.ref s.heap.objs.size) { s with heap := s.heap.push o1 } → wpAny (model P w) A (pyIter (.ref l1)) Q E s) (hf : ∀ v, o1.data ≠ .cell v) (hfr : o1.isFreed = false)
    (S : Sub1 s.heap.objs.size d od kvs.length val St) (hsel : ∀ k x, val k x → ∃ h : k < es.size, ∀ p : Key × V, RelV (kV p.1) es[k].key → RelV p.2 es[k].val → RelV (sel p) x) (hSt : ∀ h : Heap, h.get? s.heap.objs.size = some o1 → St 0 h)
    (q : R (ItzK X.K d od kvs t sel) H) :
    wpAny (model X.prog X.w) X.A (call (.type "zip") [.ref l1, .ref t]) (fun v s1 => wpAny (model X.prog X.w) X.A (pyIter v) (PIE X pins σ (.Tuple elts kk tpos) R) X.xe s1) X.xe s := by
  obtain ⟨hs, hgd, hx, _⟩ := I.frzK hd
  obtain ⟨its2, rv2, p2, _⟩ := I.tuple ht
  obtain ⟨o2, ho2, _⟩ := id p2
  have la : d < s.heap.objs.size := Heap.lt_size hgd
  have lb : t < s.heap.objs.size := Heap.lt_size ho2
  refine call_zipG hl1 (show s.heap.IsTuple t its2.toArray from p2) hf hfr fun h' hz hTI hTO h1 h2 hsz hk => wpAny_pyIter_zip hz ?_
  have I2 : Inv X pins σ H { s with heap := h' } := I.kept (t' := s.toks) hk
  refine ⟨s.heap.objs.size + 4, [s.heap.objs.size + 4, s.heap.objs.size + 2, s.heap.objs.size + 3, s.heap.objs.size, s.heap.objs.size + 1], _, _, H, rfl, I2, turn_zipK hdd S hsel (PySem.W.ktu_apart s.heap.objs.size d t la lb), ⟨hz, hTI, ⟨_, _, hTO⟩, hSt h' h1, h2⟩, fun c hcm => ?_, q⟩
  have e' : c = s.heap.objs.size + 4 ∨ c = s.heap.objs.size + 2 ∨ c = s.heap.objs.size + 3 ∨ c = s.heap.objs.size ∨ c = s.heap.objs.size + 1 := by simpa using hcm
  have hle : s.heap.objs.size ≤ c := by
    rcases e' with z | z | z | z | z
    · rw [z]; exact Nat.le_add_right _ _
    · rw [z]; exact Nat.le_add_right _ _
    · rw [z]; exact Nat.le_add_right _ _
    · rw [z]; exact Nat.le_refl _
    · rw [z]; exact Nat.le_add_right _ _
  exact I.fpOk hle (I.hok.fresh hle)
theorem pi_zipK {K : PySem.W.Frag} (hK : X.K = K) (hg : Gl X "zip") (hm : X.mg "zip" = none) (ha : PE X e te) (hb : PE X e2 te2)
    (hs : starEach [e, e2] X.env = (false, eval e X.env) :: starEach [e2] X.env := by rfl) (hs2 : starEach [e2] X.env = (false, eval e2 X.env) :: starEach [] X.env := by rfl) (hpl : (backTo pos (starEach [e2] X.env)).any (·.1) = false := by rfl) :
    PI X (.Tuple elts kk tpos) (.Call (.Name "zip" p) [e, e2] [] pos) (fun σ H R => te σ H fun x H1 => te2 σ H1 fun y H2 => kZipG K selK x y H2 R) := by
  subst hK
  refine ⟨fun pins s σ H R I h => ?_⟩
  refine Call_ (ld_blt I hg hm PyProof.Rows.boot_zip (PyProof.Rows.callWith_type1 (PyProof.Rows.args_cons (thn (ha.run pins s σ H _ I h) fun v s1 ⟨x, H1, I1, r1, q1⟩ =>
    PyProof.Rows.args_cons (thn (hb.run pins s1 σ H1 _ I1 q1) fun v2 s2 ⟨y, H2, I2, r2, q2⟩ => PyProof.Rows.args_nil ?_) hs2) hs) hs hpl))
  obtain ⟨d, t, od, kvs, ys, rfl, rfl, hd, ht, q⟩ := q2
  obtain rfl : v = Value.ref d := r1
  obtain rfl : v2 = Value.ref t := r2
  obtain ⟨hsy, hgd, hx, es, ep, vs, hdt, hsz, kv, hm2⟩ := I2.frzK hd
  refine zip_made (o1 := { cls := .type "dict_keyiterator", data := .fields #[.ref d, .int 0 0, .int es.size 0, .int ep 0] }) I2 hd ht hdt (fun P w A E Q hQ => iter_keys hsy hgd hx hdt hQ) (fun v z => nomatch z) rfl (sub1_key (ep := ep) hdt hsz) (fun k x ⟨hlt, e⟩ => ⟨hlt, fun p r1 r2 => by rw [e]; exact r1⟩) (fun h e => ⟨_, e, rfl, by rw [hsz]; rfl⟩) q
theorem pi_zipV {K : PySem.W.Frag} (hK : X.K = K) (hg : Gl X "zip") (hm : X.mg "zip" = none) (he : PE X e te) (hb : PE X e2 te2) (hbase : attributeBase e "values" X.env (eval e X.env) = eval e X.env := by rfl) (hline : (apos.endLine == cpos.line) = true := by rfl)
    (hs : starEach [.Call (.Attribute e "values" apos) [] [] cpos, e2] X.env = (false, eval (.Call (.Attribute e "values" apos) [] [] cpos) X.env) :: starEach [e2] X.env := by rfl) (hs2 : starEach [e2] X.env = (false, eval e2 X.env) :: starEach [] X.env := by rfl) (hpl : (backTo pos (starEach [e2] X.env)).any (·.1) = false := by rfl) :
    PI X (.Tuple elts kk tpos) (.Call (.Name "zip" p) [.Call (.Attribute e "values" apos) [] [] cpos, e2] [] pos) (fun σ H R => te σ H fun x H1 => (∃ d od kvs, x = .ref d ∧ H1 d = some (.frz od (.dK kvs))) ∧ te2 σ H1 fun y H2 => kZipG K selV x y H2 R) := by
  subst hK
  refine ⟨fun pins s σ H R I h => ?_⟩
  refine Call_ (ld_blt I hg hm PyProof.Rows.boot_zip (PyProof.Rows.callWith_type1 (PyProof.Rows.args_cons ?_ hs) hs hpl))
  refine wpAny_Call_method (T := "dict") (id := "dict.values") hbase rfl hline F.plainAttrs_dict F.slot_dict_values F.type_dict_values (thn (he.run pins s σ H _ I h) fun u s1 ⟨x, H1, I1, rx, ⟨d, od, kvs, ex, hd⟩, q⟩ => ?_)
  subst ex
  obtain rfl : u = Value.ref d := rx
  obtain ⟨hsy, hgd, hx, es, ep, vs, hdt, hsz, kv, hm2⟩ := I1.frzK hd
  refine ⟨hm2.dictOf.typeIs, hm2.dictOf.mapOf.noDict, ?_⟩
  have I2 : Inv X pins σ H1 { s1 with heap := s1.heap.push { cls := .type "dict_values", data := .fields #[.ref d] } } := I1.kept (t' := s1.toks) fun b o q => Heap.get?_push_of_some _ q
  have hv0 : Heap.IsValuesView (s1.heap.push { cls := .type "dict_values", data := .fields #[.ref d] }) s1.heap.objs.size d := ⟨_, Heap.get?_push_size _ rfl, rfl, rfl⟩
  have hfresh : FpOk X pins H1 s1.heap.objs.size := I1.fpOk (Nat.le_refl _) (I1.hok.fresh (Nat.le_refl _))
  have I3 := I2.pinned (fp := [s1.heap.objs.size]) (fun b hb => by rw [List.mem_singleton.mp hb]; exact hfresh) (fun b hb => by rw [List.mem_singleton.mp hb]; exact ⟨_, Heap.get?_push_size _ rfl, fun v z => nomatch z⟩)
  have fin : wpAny (model X.prog X.w) X.A (spliced (backTo pos (starEach [e2] X.env))) (fun vs s2 => wpAny (model X.prog X.w) X.A (call (.type "zip") (Value.ref s1.heap.objs.size :: vs)) (fun v s1 => wpAny (model X.prog X.w) X.A (pyIter v) (PIE X pins σ (.Tuple elts kk tpos) R) X.xe s1) X.xe s2) X.xe { s1 with heap := s1.heap.push { cls := .type "dict_values", data := .fields #[.ref d] } } := by
    refine PyProof.Rows.args_cons (thn (hb.run _ _ σ H1 _ I3 q) fun v2 s3 ⟨y, H2, I4, r2, q2⟩ => PyProof.Rows.args_nil ?_) hs2
    obtain ⟨d', t, od', kvs', ys, e1, rfl, hd', ht, q⟩ := q2
    cases e1
    obtain rfl : v2 = Value.ref t := r2
    have hpin := I4.pin (s1.heap.objs.size, { cls := .type "dict_values", data := .fields #[.ref d] }) (List.mem_append_right _ (List.mem_append_right _ (mem_pinsAt (by simp) (Heap.get?_push_size _ rfl))))
    have hv1 : s3.heap.IsValuesView s1.heap.objs.size d := ⟨_, hpin.1, rfl, rfl⟩
    have I5 := I4.unpinned
    obtain ⟨hsy', hgd', hx', es', ep', vs', hdt', hsz', kv', hm'⟩ := I5.frzK hd'
    exact zip_made (o1 := { cls := .type "dict_valueiterator", data := .fields #[.ref d, .int 0 0, .int es'.size 0, .int ep' 0] }) I5 hd' ht hdt' (fun P w A E Q hQ => pyIter_valsRaw hv1 hgd' hdt' hQ) (fun v z => nomatch z) rfl (sub1_val (ep := ep') hdt' hsz') (fun k x ⟨hlt, e⟩ => ⟨hlt, fun p r1 r2 => by rw [e]; exact r2⟩) (fun h e => ⟨_, e, rfl, by rw [hsz']; rfl⟩) q
  show wpAny _ _ (callWith cpos (.builtin "dict.values") [.ref d] [] []) _ X.xe s1
  exact method_meetsIn F.slot_dict_values F.entry_dict_values rfl (PySem.evalArgs_none ⟨rfl, hm2.dictOf.typeIs, F.args_dict_values_1 _, _, meets_dict_values (mixKind X.prog X.w) d hsy, ⟨vs, hm2.dictOf⟩, fin⟩)
end

end PB
namespace PB
open PySem PySem.Spec PyProof.Rows L2
local macro_rules | `(tactic| walk_at "rd") => `(tactic| (repeat refine red ?_))
local macro_rules | `(tactic| walk_at "go") => `(tactic| (repeat (first | refine red ?_ | ((with_reducible apply k_var); rfl) | refine k_new fun _ _ => ?_ | refine wp_and rfl ?_ | refine if_redT rfl ?_ | refine if_redF rfl ?_)))

local macro_rules | `(tactic| walk_at "ext") => `(tactic| (repeat (first | assumption | exact Ext.refl _ | refine Ext.newI ?_ | refine Ext.trans ?_ ‹Ext _ _›)))
local macro_rules | `(tactic| walk_at "rv") => `(tactic| (repeat (first | refine red ?_ | ((with_reducible apply k_var); rfl))))
theorem PairArg_zipG {P : Program} {w : World} {z TI TO i1 i2 d l2 : Addr} {od : Obj} {n : Nat} {val : Nat → Value → Prop} {St : Nat → Heap → Prop} (S : Sub1 i1 d od n val St) (D : ZipApart z TI TO i1 i2 d l2) (ys : Array Value) :
    PairArg P w "zip" z [z, TI, TO, i1, i2, d, l2] [z, TO, i1, i2] (min n ys.size) (fun i k v => val i k ∧ ys[i]? = some v)
      (fun h => IsZip h z TI TO .none ∧ IsPair h TI (.ref i1) (.ref i2) ∧ (∃ a b, IsPair h TO a b) ∧ St 0 h ∧ h.IsTupleIter i2 l2 0 ∧ h.get? d = some od ∧ h.IsTuple l2 ys) where
  type := fun s ok => ⟨_, ok.1, rfl⟩
  notDict := by decide
  keep := fun h h' ok hk => by
    obtain ⟨hz, hTI, ⟨a, b, hTO⟩, h1, h2, hl1, hl2⟩ := ok
    exact ⟨hk _ _ hz, hk _ _ hTI, ⟨a, b, hk _ _ hTO⟩, S.keep _ _ _ h1 fun o e => hk _ o e, h2.at fun o e => hk _ o e, hk _ _ hl1, hl2.at fun o e => hk _ o e⟩
  there := fun h ok b hb => by
    obtain ⟨hz, hTI, ⟨a, c, hTO⟩, h1, ⟨o2, h2, _⟩, hl1, ⟨o4, hl2, _⟩⟩ := ok
    obtain ⟨o1, h1, _⟩ := S.obj _ _ h1
    simp only [List.mem_cons, List.not_mem_nil, or_false] at hb
    rcases hb with rfl | rfl | rfl | rfl | rfl | rfl | rfl
    all_goals first | exact ⟨_, hz⟩ | exact ⟨_, hTI⟩ | exact ⟨_, hTO⟩ | exact ⟨_, h1⟩ | exact ⟨_, h2⟩ | exact ⟨_, hl1⟩ | exact ⟨_, hl2⟩
  sub := fun b hb => by simp at hb ⊢; rcases hb with rfl | rfl | rfl | rfl <;> simp
  noKeys := fun A s Q E hA ok h => getAttrOr_miss_zip ok.1 rfl rfl rfl zip_no_keys (by decide +kernel) hA h
  iter := fun A s dd Q E hA ok hd hdf h => by
    obtain ⟨hz, hTI, ⟨a, b, hTO⟩, h1, h2, hl1, hl2⟩ := ok
    simp only [List.mem_cons, List.not_mem_nil, or_false, not_or] at hdf
    obtain ⟨dz, dTI, dTO, di1, di2, dl1, dl2⟩ := hdf
    refine wpAny_pyIter_zip hz (h z [z, TO, i1, i2] (fun i h => IsPair h TI (.ref i1) (.ref i2) ∧ St i h ∧ h.IsTupleIter i2 l2 i ∧ h.get? d = some od ∧ h.IsTuple l2 ys ∧
      ((IsZip h z TI TO .none ∧ ∃ a b, IsPair h TO a b) ∨ ∃ T f oT, IsZipHeld h z TI TO T f ∧ h.get? T = some oT ∧ T ≠ z ∧ T ≠ i1 ∧ T ≠ i2 ∧ T ≠ dd)) s.heap s.toks ?_
      ⟨hTI, h1, h2, hl1, hl2, .inl ⟨hz, a, b, hTO⟩⟩ (fun _ _ e => e) fun b hb => .inl hb)
    exact {
      off := fun hm => by
        simp only [List.mem_cons, List.not_mem_nil, or_false] at hm
        rcases hm with e | e | e | e
        · exact dz e
        · exact dTO e
        · exact di1 e
        · exact di2 e
      frame := fun i h₁ h₂ st hk => by
        obtain ⟨hTI, h1, h2, hl1, hl2, hz⟩ := st
        refine ⟨hk _ _ (Ne.symm dTI) hTI, S.keep _ _ _ h1 fun o e => hk _ o (Ne.symm di1) e, h2.at fun o e => hk _ o (Ne.symm di2) e, hk _ _ (Ne.symm dl1) hl1, hl2.at fun o e => hk _ o (Ne.symm dl2) e, ?_⟩
        rcases hz with ⟨hz, a, b, hTO⟩ | ⟨T, f, oT, hz, hT, r1, r2, r3, r4⟩
        · exact .inl ⟨hk _ _ (Ne.symm dz) hz, a, b, hk _ _ (Ne.symm dTO) hTO⟩
        · exact .inr ⟨T, f, oT, hk _ _ (Ne.symm dz) hz, hk _ _ r4 hT, r1, r2, r3, r4⟩
      item := fun i s₁ Q₁ E₁ hi st hds hQ => by
        obtain ⟨hTI, h1, h2, hl1, hl2, hz⟩ := st
        have hix : i < n := Nat.lt_of_lt_of_le hi (Nat.min_le_left ..)
        have hiy : i < ys.size := Nat.lt_of_lt_of_le hi (Nat.min_le_right ..)
        have ey := Array.getElem?_eq_getElem hiy
        have lt : ∀ {c o}, s₁.heap.get? c = some o → s₁.heap.objs.size ≠ c := fun e => Nat.ne_of_gt (Heap.lt_size e)
        have n1 : s₁.heap.objs.size ≠ i1 := let ⟨_, e, _⟩ := S.obj _ _ h1; lt e
        have n2 : s₁.heap.objs.size ≠ i2 := let ⟨_, e, _⟩ := h2; lt e
        rcases hz with ⟨hz, a, b, hTO⟩ | ⟨T, f, oT, hz, hT, r1, r2, r3, r4⟩
        · refine zip_turn hz rfl (zipG_next_item S D hz hTI hTO h1 h2 hl1 hl2 hix ey fun x h' hv a1 a2 a3 a4 a5 a6 hk => ?_)
          exact hQ s₁.heap.objs.size _ _ h' s₁.toks ⟨hv, ey⟩ (.inl ⟨_, a5, rfl, _, rfl⟩)
            ⟨hk _ _ D.TIz D.TITO D.TIi1 D.TIi2 hTI, a3, a4, hk _ _ D.l1z D.l1TO D.l1i1 D.l1i2 hl1, hl2.at fun o e => hk _ o D.l2z D.l2TO D.l2i1 D.l2i2 e,
              .inr ⟨s₁.heap.objs.size, false, _, a1, a5, lt hz, n1, n2, Nat.ne_of_gt hds⟩⟩
            fun c o hc e => hk c o (fun x => hc (by simp [x])) (fun x => hc (by simp [x])) (fun x => hc (by simp [x])) (fun x => hc (by simp [x])) e
        · refine zip_turn hz rfl (zipG_next_item_held S D hz hT hTI h1 h2 hl1 hl2 hix ey fun x h' hv a1 a3 a4 a5 a6 hk => ?_)
          exact hQ s₁.heap.objs.size _ _ h' s₁.toks ⟨hv, ey⟩ (.inl ⟨_, a5, rfl, _, rfl⟩)
            ⟨hk _ _ D.TIz D.TIi1 D.TIi2 hTI, a3, a4, hk _ _ D.l1z D.l1i1 D.l1i2 hl1, hl2.at fun o e => hk _ o D.l2z D.l2i1 D.l2i2 e,
              .inr ⟨T, true, oT, a1, hk _ _ r1 r2 r3 hT, r1, r2, r3, r4⟩⟩
            fun c o hc e => hk c o (fun x => hc (by simp [x])) (fun x => hc (by simp [x])) (fun x => hc (by simp [x])) e
      done := fun s₁ Q₁ E₁ st hQ => by
        obtain ⟨hTI, h1, h2, hl1, hl2, hz⟩ := st
        have hend : n ≤ min n ys.size ∨ ys[min n ys.size]? = none := by
          rcases Nat.le_total n ys.size with h | h
          · exact .inl (by rw [Nat.min_eq_left h]; exact Nat.le_refl _)
          · exact .inr (Array.getElem?_eq_none (by rw [Nat.min_eq_right h]; exact Nat.le_refl _))
        rcases hz with ⟨hz, a, b, hTO⟩ | ⟨T, f, oT, hz, hT, r1, r2, r3, r4⟩
        · exact zip_turn hz rfl (zipG_next_end S hA D hz hTI hTO h1 h2 hl1 hl2 hend fun h' e hk ⟨o, ho, hc⟩ => ⟨⟨e, o, rfl, ho, hc⟩, hQ h' s₁.toks fun c o hc e => hk c o (fun x => hc (by simp [x])) (fun x => hc (by simp [x])) (fun x => hc (by simp [x])) (fun x => hc (by simp [x])) e⟩)
        · exact zip_turn hz rfl (zipG_next_end_held S hA D hz hT hTI h1 h2 hl1 hl2 hend fun h' e hk ⟨o, ho, hc⟩ => ⟨⟨e, o, rfl, ho, hc⟩, hQ h' s₁.toks fun c o hc e => hk c o (fun x => hc (by simp [x])) (fun x => hc (by simp [x])) (fun x => hc (by simp [x])) e⟩) }
theorem pairs_key {P : Program} {w : World} {knd : KeyKind P w Key} {l : List DictEntry} {kvs : List (Key × Value)} (h : Pairs knd l kvs) : ∀ (i : Nat) (hi : i < l.length), ∃ k, (kvs.map (·.1))[i]? = some k ∧ knd.is k l[i].key = true := by
  induction h with
  | nil => intro i hi; exact absurd hi (Nat.not_lt_zero _)
  | cons h1 h2 t ih =>
    intro i hi
    cases i with
    | zero => exact ⟨_, rfl, h1⟩
    | succ i => exact ih i (Nat.lt_of_succ_lt_succ hi)
theorem zip_kv : ∀ (ks : List Key) {ys : List V} {its : List Value}, Vals ys its → KV (ks.zip ys) (ks.zip its)
  | [], _, _, _ => .nil
  | _ :: _, _, _, .nil => .nil
  | _ :: ks, _, _, .cons h t => .cons ⟨rfl, h⟩ (zip_kv ks t)
/-- dict(zip(d, t)) -/
def kDictZip (K : PySem.W.Frag) (x y : V) (H : Hp) (Q : VK) : Prop := ∃ d t kvs ys, x = .ref d ∧ y = .ref t ∧ H d = some (.dK kvs) ∧ SqT K H t ys ∧ kvs.length = ys.length ∧ kNew (.dK (mergeK [] ((kvs.map (·.1)).zip ys))) H Q
section
variable {X : Cx} {e e2 : Expr} {te te2 : TE} {p p2 pos q : Pos}
theorem pe_dictZip {K : PySem.W.Frag} (hK : X.K = K) (hc : X.calm = true) (hg0 : Gl X "dict") (hm0 : X.mg "dict" = none) (hg : Gl X "zip") (hm : X.mg "zip" = none) (ha : PE X e te) (hb : PE X e2 te2)
    (hs0 : starEach [.Call (.Name "zip" p2) [e, e2] [] q] X.env = (false, eval (.Call (.Name "zip" p2) [e, e2] [] q) X.env) :: starEach [] X.env := by rfl)
    (hs : starEach [e, e2] X.env = (false, eval e X.env) :: starEach [e2] X.env := by rfl) (hs2 : starEach [e2] X.env = (false, eval e2 X.env) :: starEach [] X.env := by rfl) (hpl : (backTo q (starEach [e2] X.env)).any (·.1) = false := by rfl) :
    PE X (.Call (.Name "dict" p) [.Call (.Name "zip" p2) [e, e2] [] q] [] pos) (fun σ H Q => te σ H fun x H1 => te2 σ H1 fun y H2 => kDictZip K x y H2 Q) := by
  subst hK
  refine ⟨fun pins s σ H Q I h => ?_⟩
  refine Call_ (ld_blt I hg0 hm0 PyProof.Rows.boot_dict (PyProof.Rows.callWith_type1 (PyProof.Rows.args_cons ?_ hs0) hs0 rfl))
  refine Call_ (ld_blt (Q := _) I hg hm PyProof.Rows.boot_zip (PyProof.Rows.callWith_type1 (PyProof.Rows.args_cons (thn (ha.run pins s σ H _ I h) fun v s1 ⟨x, H1, I1, r1, q1⟩ =>
    PyProof.Rows.args_cons (thn (hb.run pins s1 σ H1 _ I1 q1) fun v2 s2 ⟨y, H2, I2, r2, q2⟩ => PyProof.Rows.args_nil ?_) hs2) hs) hs hpl))
  obtain ⟨d, t, kvs, ys, rfl, rfl, hd, ht, hlen, q⟩ := q2
  obtain rfl : v = Value.ref d := r1
  obtain rfl : v2 = Value.ref t := r2
  obtain ⟨hz, hsy, vs, kv, od, es, ep, hgd, hx, hdt, hko, hprs, hnd⟩ := dk_of I2.hok hd
  obtain ⟨its2, rv2, p2, _⟩ := I2.tuple ht
  obtain ⟨o2, ho2, _⟩ := id p2
  have la : d < s2.heap.objs.size := Heap.lt_size hgd
  have lb : t < s2.heap.objs.size := Heap.lt_size ho2
  have l1 : kvs.length = vs.length := Paired.length kv
  have l2 : ys.length = its2.length := Paired.length rv2
  have l3 : es.size = kvs.length := by
    have := hprs.length
    rw [Array.length_toList] at this
    omega
  refine call_zipG (o1 := { cls := .type "dict_keyiterator", data := .fields #[.ref d, .int 0 0, .int es.size 0, .int ep 0] }) (fun P w A E Q hQ => iter_keys hsy hgd hx hdt hQ) (show s2.heap.IsTuple t its2.toArray from p2) (fun v z => nomatch z) rfl fun h' hz' hTI hTO h1 h2 hsz hk => ?_
  have I3 : Inv X pins _ H2 { s2 with heap := h' } := I2.kept (t' := s2.toks) hk
  refine PyProof.Rows.args_nil ?_
  refine PySem.call_dict_pairs (knd := mixKind X.prog X.w) (kvs := (vs.map (·.1)).zip its2) (PairArg_zipG (sub1_key (ep := ep) hdt rfl) (PySem.W.ktu_apart s2.heap.objs.size d t la lb) its2.toArray) (I2.ok.hd hc) ⟨hz', hTI, ⟨_, _, hTO⟩, ⟨_, h1, rfl, rfl⟩, h2, hk _ _ hgd, (show s2.heap.IsTuple t its2.toArray from p2).at fun o e => hk _ o e⟩
    ⟨by simp; omega, fun i key v hr => ?_⟩ (by simp; omega) fun h'' tk hd' k => ?_
  · obtain ⟨⟨hi, e1⟩, e2⟩ := hr
    obtain ⟨k, e3, e4⟩ := pairs_key hprs i (by rw [Array.length_toList]; exact hi)
    refine ⟨k, ?_, by rw [e1]; simpa using e4⟩
    rw [List.getElem?_zip_eq_some]
    exact ⟨e3, by simpa using e2⟩
  · have hm : (h'.objs.size == sysModules) = false := beq_eq_false_iff_ne.mpr (Nat.ne_of_gt I3.big)
    have hle : s2.heap.objs.size ≤ h'.objs.size := by omega
    have rel := KV.merge (zip_kv (vs.map (·.1)) rv2) (kvs := []) .nil
    rw [← KV.keys kv] at rel
    have hl : (mergeK [] ((kvs.map (·.1)).zip ys)).length ≤ sizeLine := by
      refine Nat.le_trans (length_mergeK _ []) ?_
      simp
      omega
    refine ⟨.ref h'.objs.size, upd H2 h'.objs.size (.dK (mergeK [] ((kvs.map (·.1)).zip ys))), I2.laid (t' := tk) (fun b o e => k b o (fun hm => ?_) (hk b o e)) hle (show ObjOk X.prog X.w _ _ _ (.dK (mergeK [] ((kvs.map (·.1)).zip ys))) from ⟨hl, hm, _, rel, by rw [KV.keys kv]; exact hd'⟩), rfl, q _ ⟨I2.hok.fresh hle⟩⟩
    have lt := Heap.lt_size e
    simp only [List.mem_cons, List.not_mem_nil, or_false] at hm
    rcases hm with z | z | z | z
    all_goals (rw [z] at lt; first | exact absurd lt (Nat.lt_irrefl _) | exact absurd lt (Nat.not_lt.mpr (Nat.le_add_right _ _)))
end

end PB
namespace PB
open PySem PySem.Spec PyProof.Rows L2
local macro_rules | `(tactic| walk_at "rd") => `(tactic| (repeat refine red ?_))
local macro_rules | `(tactic| walk_at "go") => `(tactic| (repeat (first | refine red ?_ | ((with_reducible apply k_var); rfl) | refine k_new fun _ _ => ?_ | refine wp_and rfl ?_ | refine if_redT rfl ?_ | refine if_redF rfl ?_)))

local macro_rules | `(tactic| walk_at "ext") => `(tactic| (repeat (first | assumption | exact Ext.refl _ | refine Ext.newI ?_ | refine Ext.trans ?_ ‹Ext _ _›)))
local macro_rules | `(tactic| walk_at "rv") => `(tactic| (repeat (first | refine red ?_ | ((with_reducible apply k_var); rfl))))
/-! ### walks of zip: two things are kept -/
def kWkE (n : Nat) (Y : Nat → Hp → V → Hp → Prop) (R : It → Hp → Prop) (H : Hp) : Prop := ∀ (J : It) (G : Hp → Prop), Walk J n G Y → (∀ H' : Hp, Ext H H' → G H') → R J H
def YZip (sel : Key × V → V) (kvs : List (Key × V)) (ys : List V) : Nat → Hp → V → Hp → Prop := fun i H v H' => ∃ T p y, v = .ref T ∧ New H T ∧ H' = upd H T (.tup [sel p, y]) ∧ kvs[i]? = some p ∧ ys[i]? = some y
section
variable {K : PySem.W.Frag} {σ : L2.St} {H : Hp} {Q : VK} {g : TG} {tt : TT} {te : TE} {vs : List Nat} {n : Nat} {Y : Nat → Hp → V → Hp → Prop} {R : It → Hp → Prop} {d t : Addr} {od : Obj} {kvs : List (Key × V)} {ys : List V} {sel : Key × V → V}
theorem lcE_go {β : Type} (R : Hp → V → β → Prop) (mono : ∀ {H H' : Hp} {v : V} {b : β}, Ext H H' → R H v b → R H' v b) (out : Nat → Option β) (hn : n ≤ sizeLine)
    (step : ∀ i x H1 H2 D, i < n → Ext H H1 → New H D → (∃ acc, H1 D = some (.lst acc)) → Y i H1 x H2 → ∀ (N1 : VK) (N2 : Hp → Prop), (∀ y H4 r, Ext H1 H4 → out i = some r → R (Hid D H4) y r → N1 y H4) → (∀ H3, Ext H1 H3 → out i = none → N2 H3) →
      g x (wipe σ vs) H2 fun σ2 H2 => wipe σ2 vs = wipe σ vs ∧ tt σ2 H2 fun b H3 => if b = true then te σ2 H3 N1 else N2 H3)
    (done : ∀ D H' ys, New H D → Ext H H' → H' D = some (.lst ys) → Each R (Hid D H') ys ((List.range n).filterMap out) → Q (.ref D) H') : kWkE n Y (kLc g tt te vs σ Q) H := by
  intro J G w hG D hD
  have e0 : Ext H (upd H D (.lst [])) := (Ext.refl H).new hD
  refine lc_it w (fun i H' => Ext H H' ∧ ∃ acc, H' D = some (.lst acc) ∧ acc.length ≤ i ∧ Each R (Hid D H') acc ((List.range i).filterMap out)) ⟨e0, [], upd_same, Nat.le_refl _, .nil⟩ (fun i H' _ p => hG H' p.1) ?_ ?_
  · rintro i x H1 H2 hi ⟨e1, acc, hA, hl, hE⟩ hy
    refine step i x H1 H2 D hi e1 ⟨hD⟩ ⟨acc, hA⟩ hy _ _ (fun y H4 r e4 ho hr => ⟨acc, e4.at hA, by omega, ?_⟩) fun H3 e3 ho => ⟨e1.trans e3, acc, e3.at hA, by omega, ?_⟩
    · refine ⟨(e1.trans e4).mut hD, acc ++ [y], upd_same, by simp; omega, ?_⟩
      rw [Hid.upd, range_fm, ho]
      exact Each.snoc (hE.mono fun v d => mono (Hid.mono e4)) hr
    · rw [range_fm, ho]
      show Each R (Hid D H3) acc ((List.range i).filterMap out ++ [])
      rw [List.append_nil]
      exact hE.mono fun v d => mono (Hid.mono e3)
  · rintro H' ⟨e1, acc, hA, _, hE⟩
    exact done D H' acc ⟨hD⟩ e1 hA hE
theorem lcE_ds {α β : Type} (ds : List α) (f : α → Option β) (R : Hp → V → β → Prop) (mono : ∀ {H H' : Hp} {v : V} {b : β}, Ext H H' → R H v b → R H' v b) (hl : n = ds.length) (hn : n ≤ sizeLine)
    (step : ∀ i x d H1 H2 D, ds[i]? = some d → Ext H H1 → New H D → (∃ acc, H1 D = some (.lst acc)) → Y i H1 x H2 → ∀ (N1 : VK) (N2 : Hp → Prop), (∀ y H4 r, Ext H1 H4 → f d = some r → R (Hid D H4) y r → N1 y H4) → (∀ H3, Ext H1 H3 → f d = none → N2 H3) →
      g x (wipe σ vs) H2 fun σ2 H2 => wipe σ2 vs = wipe σ vs ∧ tt σ2 H2 fun b H3 => if b = true then te σ2 H3 N1 else N2 H3)
    (done : ∀ D H' ys, New H D → Ext H H' → H' D = some (.lst ys) → Each R (Hid D H') ys (ds.filterMap f) → Q (.ref D) H') : kWkE n Y (kLc g tt te vs σ Q) H := by
  subst hl
  refine lcE_go R mono (fun i => ds[i]?.bind f) hn (fun i x H1 H2 D hi e1 nD hA hy N1 N2 k1 k2 => ?_) fun D H' ys nD e hD hE => done D H' ys nD e hD (by rw [← fm_idx]; exact hE)
  have hd : ds[i]? = some ds[i] := List.getElem?_eq_getElem hi
  refine step i x ds[i] H1 H2 D hd e1 nD hA hy N1 N2 (fun y H4 r a b c => k1 y H4 r a (by rw [hd]; exact b) c) fun H3 a b => k2 H3 a (by rw [hd]; exact b)
theorem walk_zipK {b : Addr} (hl : kvs.length = ys.length) : Walk (ItzK K d od kvs b sel) kvs.length (fun H => H d = some (.frz od (.dK kvs)) ∧ SqT K H b ys) (YZip sel kvs ys) where
  goes := fun i H hi q => ⟨q.1, ys, _, q.2, hi, List.getElem?_eq_getElem (by omega)⟩
  yields := fun i H x H' hi q y => by
    obtain ⟨T, p, y, e1, e2, e3, e4, e5⟩ := y
    exact ⟨T, p, y, e1, ⟨e2⟩, e3, e4, e5 _ q.2⟩
  stops := fun H q => ⟨q.1, ys, q.2, .inl (Nat.le_refl _)⟩
instance [s : At H d (.frz od (.dK kvs))] [q : TupA K H t ys] : Red (kZipG K sel (.ref d) (.ref t) H R) (kvs.length = ys.length ∧ kWkE kvs.length (YZip sel kvs ys) R H) :=
  ⟨fun h => ⟨d, t, od, kvs, ys, rfl, rfl, s.h, q.h, h.2 _ _ (walk_zipK h.1) fun H' e => ⟨e.at s.h, sqT_ext q.h e⟩⟩⟩
instance [s : At H d (.dK kvs)] [q : TupA K H t ys] : Red (kDictZip K (.ref d) (.ref t) H Q) (kvs.length = ys.length ∧ kNew (.dK (mergeK [] ((kvs.map (·.1)).zip ys))) H Q) :=
  ⟨fun h => ⟨d, t, kvs, ys, rfl, rfl, s.h, q.h, h.1, h.2⟩⟩
theorem mergeK_nodup : ∀ {more acc : List (Key × V)}, ((acc ++ more).map (·.1)).Nodup → mergeK acc more = acc ++ more
  | [], acc, _ => by rw [List.append_nil]; rfl
  | p :: more, acc, h => by
    show mergeK (putK acc p.1 p.2) more = _
    have hn : valV acc p.1 = none := by
      cases hv : valV acc p.1 with
      | none => rfl
      | some v =>
        have := valV_in hv
        rw [List.map_append, List.nodup_append] at h
        exact absurd rfl (h.2.2 _ this _ (by simp))
    rw [putK_new _ hn, mergeK_nodup (by rw [List.append_assoc]; exact h), List.append_assoc]
    rfl
end

end PB
namespace PB
open PySem PySem.Spec PyProof.Rows L2
local macro_rules | `(tactic| walk_at "rd") => `(tactic| (repeat refine red ?_))
local macro_rules | `(tactic| walk_at "go") => `(tactic| (repeat (first | refine red ?_ | ((with_reducible apply k_var); rfl) | refine k_new fun _ _ => ?_ | refine wp_and rfl ?_ | refine if_redT rfl ?_ | refine if_redF rfl ?_)))

local macro_rules | `(tactic| walk_at "ext") => `(tactic| (repeat (first | assumption | exact Ext.refl _ | refine Ext.newI ?_ | refine Ext.trans ?_ ‹Ext _ _›)))
local macro_rules | `(tactic| walk_at "rv") => `(tactic| (repeat (first | refine red ?_ | ((with_reducible apply k_var); rfl))))
/-! ### x is True, x is False: of a bool, of an int, of None -/
class IsBl (x : V) (b : Bool) (c : outParam Bool) : Prop where
  h : (∃ a, x = .bl a ∧ c = decide (a = b)) ∨ ((∃ i, x = V.int i) ∧ c = false) ∨ (x = V.non ∧ c = false)
instance {a b : Bool} : IsBl (.bl a) b (decide (a = b)) := ⟨.inl ⟨a, rfl, rfl⟩⟩
instance {i : Int} {b : Bool} : IsBl (.int i) b false := ⟨.inr (.inl ⟨⟨i, rfl⟩, rfl⟩)⟩
instance {b : Bool} : IsBl .non b false := ⟨.inr (.inr ⟨rfl, rfl⟩)⟩
def kIsF (f : Bool → Bool) (x y : V) (H : Hp) (Q : VK) : Prop := ∃ b c, y = .bl b ∧ IsBl x b c ∧ Q (.bl (f c)) H
section
variable {X : Cx}
theorem op_isF : OpR X (compareOp .Is) (kIsF id) := by
  intro pins s σ H x y v u Q I rx ry h
  obtain ⟨b, c, rfl, hb, q⟩ := h
  cases (show u = Value.bool b from ry)
  rcases hb.h with ⟨a, rfl, rfl⟩ | ⟨⟨i, rfl⟩, rfl⟩ | ⟨rfl, rfl⟩
  · cases (show v = Value.bool a from rx)
    by_cases e : a = b
    · subst e
      exact wpAny_is_self rfl ⟨.bl true, H, I, rfl, by simpa using q⟩
    · exact wpAny_is_other rfl (fun z => e (Value.bool.inj z)) ⟨.bl false, H, I, rfl, by simpa [e] using q⟩
  · obtain ⟨t, e⟩ := (show ∃ t, v = Value.int i t from rx)
    subst e
    exact wpAny_is_other rfl (fun z => nomatch z) ⟨.bl false, H, I, rfl, q⟩
  · cases (show v = Value.none from rx)
    exact wpAny_is_other rfl (fun z => nomatch z) ⟨.bl false, H, I, rfl, q⟩
theorem op_notF : OpR X (compareOp .IsNot) (kIsF not) := by
  intro pins s σ H x y v u Q I rx ry h
  obtain ⟨b, c, rfl, hb, q⟩ := h
  cases (show u = Value.bool b from ry)
  rcases hb.h with ⟨a, rfl, rfl⟩ | ⟨⟨i, rfl⟩, rfl⟩ | ⟨rfl, rfl⟩
  · cases (show v = Value.bool a from rx)
    by_cases e : a = b
    · subst e
      exact wpAny_isNot_self rfl ⟨.bl false, H, I, rfl, by simpa using q⟩
    · exact wpAny_isNot_other rfl (fun z => e (Value.bool.inj z)) ⟨.bl true, H, I, rfl, by simpa [e] using q⟩
  · obtain ⟨t, e⟩ := (show ∃ t, v = Value.int i t from rx)
    subst e
    exact wpAny_isNot_other rfl (fun z => nomatch z) ⟨.bl true, H, I, rfl, q⟩
  · cases (show v = Value.none from rx)
    exact wpAny_isNot_other rfl (fun z => nomatch z) ⟨.bl true, H, I, rfl, q⟩
end
instance {f : Bool → Bool} {x : V} {b c : Bool} {H : Hp} {Q : VK} [i : IsBl x b c] : Red (kIsF f x (.bl b) H Q) (Q (.bl (f c)) H) := ⟨fun h => ⟨b, c, rfl, i, h⟩⟩

end PB
namespace PB
open PySem PySem.Spec PyProof.Rows L2
local macro_rules | `(tactic| walk_at "rd") => `(tactic| (repeat refine red ?_))
local macro_rules | `(tactic| walk_at "go") => `(tactic| (repeat (first | refine red ?_ | ((with_reducible apply k_var); rfl) | refine k_new fun _ _ => ?_ | refine wp_and rfl ?_ | refine if_redT rfl ?_ | refine if_redF rfl ?_)))

local macro_rules | `(tactic| walk_at "ext") => `(tactic| (repeat (first | assumption | exact Ext.refl _ | refine Ext.newI ?_ | refine Ext.trans ?_ ‹Ext _ _›)))
local macro_rules | `(tactic| walk_at "rv") => `(tactic| (repeat (first | refine red ?_ | ((with_reducible apply k_var); rfl))))
/-! ### slices -/
theorem sl_listK {X : Cx} {K : PySem.W.Frag} (h : X.K = K) : SlR X (rSlL K) := h ▸ sl_list
theorem sl_tupAK {X : Cx} {K : PySem.W.Frag} (h : X.K = K) : SlR X (rSlA K) := h ▸ sl_tupA
theorem cut_take {xs : List V} {n : Nat} : cutV xs none (some (n : Int)) = xs.take n := by
  unfold cutV
  rw [HT.sIx_none, HT.sIx_nat, List.drop_zero, Nat.sub_zero]
  rcases Nat.le_total n xs.length with h | h
  · rw [Nat.min_eq_left h]
  · rw [Nat.min_eq_right h, List.take_of_length_le (Nat.le_refl _), List.take_of_length_le h]
section
variable {K : PySem.W.Frag} {H : Hp} {Q : VK} {a : Addr} {xs : List V} {lo hi : Option Int}
instance sll_red [s : LstA K H a xs] : Red (rSlL K (.ref a) lo hi H Q) (kNew (.lst (cutV xs lo hi)) H Q) := ⟨fun h => ⟨a, xs, rfl, s.h, fun p hp => h p ⟨hp⟩⟩⟩
instance slt_red [s : At H a (.tup xs)] : Red (rSlA K (.ref a) lo hi H Q) (∀ b H', Ext H H' → H' b = some (.tup (cutV xs lo hi)) → Q (.ref b) H') := ⟨fun h => ⟨a, xs, rfl, SqT.of s.h, fun e => by
  refine h a H (Ext.refl H) ?_
  rw [s.h]
  unfold cutV
  rw [e.1, e.2, List.drop_zero, Nat.sub_zero, List.take_of_length_le (Nat.le_refl _)], fun _ p hp => h p _ ((Ext.refl H).new hp) upd_same⟩⟩
end

end PB
namespace PB
open PySem PySem.Spec PyProof.Rows L2
local macro_rules | `(tactic| walk_at "rd") => `(tactic| (repeat refine red ?_))
local macro_rules | `(tactic| walk_at "go") => `(tactic| (repeat (first | refine red ?_ | ((with_reducible apply k_var); rfl) | refine k_new fun _ _ => ?_ | refine wp_and rfl ?_ | refine if_redT rfl ?_ | refine if_redF rfl ?_)))
local macro_rules | `(tactic| walk_at "ga") => `(tactic| (repeat (first | refine red ?_ | ((with_reducible apply k_var); rfl) | ((with_reducible apply k_aug); rfl) | refine k_new fun _ _ => ?_ | refine wp_and rfl ?_ | refine if_redT rfl ?_ | refine if_redF rfl ?_)))
local macro_rules | `(tactic| walk_at "ext") => `(tactic| (repeat (first | assumption | exact Ext.refl _ | refine Ext.newI ?_ | refine Ext.trans ?_ ‹Ext _ _›)))
local macro_rules | `(tactic| walk_at "rv") => `(tactic| (repeat (first | refine red ?_ | ((with_reducible apply k_var); rfl))))
/-! ### pictures that are called -/
def cellOf : Cuts → List Cell → Str → Cell
  | c :: cs, e :: es, x => if c.1 = x then e else cellOf cs es x
  | _, _, _ => .non
def cutOf : Cuts → Str → List Int
  | [], _ => []
  | c :: cs, x => if c.1 = x then c.2 else cutOf cs x
def yn (b : Bool) : Ans := if b = true then .yes else .no
def pa (cuts : Cuts) (p : Pict) : Tst → Ans
  | .row => yn p.row
  | .has x => match cellOf cuts p.cells x with
    | .non => .no
    | .bl b => yn b
    | .rg _ => .yes
  | .eq x v => match cellOf cuts p.cells x with
    | .rg r => yn (decide (r = regn (cutOf cuts x) v))
    | _ => .fault
  | .less x v => match cellOf cuts p.cells x with
    | .rg r => yn (decide (r < regn (cutOf cuts x) v))
    | _ => .fault
def PictOk (cuts : Cuts) (p : Pict) : Prop := p.cells.length = cuts.length ∧
  if p.row = true then ∀ (i : Nat) (c : Str × List Int), cuts[i]? = some c → p.cells[i]? = some .non ∨ ∃ r, p.cells[i]? = some (.rg r) ∧ r ≤ 2 * c.2.length ∧ (wit c.2 r).isSome = true
  else ∀ c, c ∈ p.cells → ∃ b, c = Cell.bl b
def cvsOf (cuts : Cuts) (p : Pict) : List (Key × V) := (cuts.map fun c => (Sum.inr c.1 : Key)).zip (p.cells.map Cell.v)
theorem cvs_val {cuts : Cuts} {x : Str} : ∀ {cells : List Cell}, cells.length = cuts.length → x ∈ cuts.map (·.1) → valV ((cuts.map fun c => (Sum.inr c.1 : Key)).zip (cells.map Cell.v)) (.inr x) = some (cellOf cuts cells x).v := by
  induction cuts with
  | nil => intro cells _ h; cases h
  | cons c cs ih =>
    intro cells hl hx
    cases cells with
    | nil => simp at hl
    | cons e es =>
      by_cases h : c.1 = x
      · subst h
        simp [valV, cellOf]
      · have hx2 : x ∈ cs.map (·.1) := by
          rcases List.mem_cons.mp hx with z | z
          · exact absurd z.symm h
          · exact z
        have hl2 : es.length = cs.length := by simpa using hl
        have := ih hl2 hx2
        simp only [valV, List.map_cons, List.zip_cons_cons, List.find?_cons, cellOf, if_neg h] at this ⊢
        rw [decide_eq_false (fun z : (Sum.inr c.1 : Key) = .inr x => h (by injection z))]
        exact this
theorem cuts_val {cuts : Cuts} {H : Hp} {x : Str} : ∀ {kvs : List (Key × V)}, Paired (KR CutV H) kvs (cuts.map ckey) → x ∈ cuts.map (·.1) → ∃ a, valV kvs (.inr x) = some (.ref a) ∧ H a = some (.tup ((cutOf cuts x).map V.int)) := by
  induction cuts with
  | nil => intro kvs _ h; cases h
  | cons c cs ih =>
    intro kvs hP hx
    rw [List.map_cons] at hP
    cases hP with
    | @cons p _ ps _ h t =>
      obtain ⟨h1, a, h2, h3⟩ := h
      by_cases z : c.1 = x
      · subst z
        refine ⟨a, ?_, ?_⟩
        · simp only [valV, List.find?_cons]
          rw [decide_eq_true (show p.1 = Sum.inr c.1 from h1)]
          exact congrArg some h2
        · simp only [cutOf, if_pos]
          exact h3
      · have hx2 : x ∈ cs.map (·.1) := by
          rcases List.mem_cons.mp hx with y | y
          · exact absurd y.symm z
          · exact y
        obtain ⟨b, h4, h5⟩ := ih t hx2
        refine ⟨b, ?_, by simp only [cutOf, if_neg z]; exact h5⟩
        simp only [valV, List.find?_cons] at h4 ⊢
        rw [decide_eq_false (fun y : p.1 = Sum.inr x => z (by have := h1.symm.trans y; injection this))]
        exact h4
theorem cutOf_ok {cuts : Cuts} (h : CutsOk cuts) {x : Str} : CutOk (cutOf cuts x) := by
  have key : ∀ l : Cuts, (∀ c, c ∈ l → CutOk c.2) → CutOk (cutOf l x) := by
    intro l
    induction l with
    | nil => intro _; exact .inl rfl
    | cons c cs ih =>
      intro hc
      unfold cutOf
      split
      · exact hc c List.mem_cons_self
      · exact ih fun d hd => hc d (List.mem_cons_of_mem _ hd)
  exact key cuts fun c hc => (h.2.1 c hc).2
theorem cell_bl {cuts : Cuts} {p : Pict} {x : Str} (ok : PictOk cuts p) (hr : p.row = false) (hx : x ∈ cuts.map (·.1)) : ∃ b, cellOf cuts p.cells x = .bl b := by
  obtain ⟨hl, h⟩ := ok
  rw [if_neg (by rw [hr]; simp)] at h
  have key : ∀ (cs : Cuts) (es : List Cell), es.length = cs.length → x ∈ cs.map (·.1) → (∀ c, c ∈ es → ∃ b, c = Cell.bl b) → ∃ b, cellOf cs es x = .bl b := by
    intro cs
    induction cs with
    | nil => intro es _ hx; cases hx
    | cons c cs ih =>
      intro es hl hx he
      cases es with
      | nil => simp at hl
      | cons e es =>
        unfold cellOf
        split
        · exact he e List.mem_cons_self
        · rename_i hne
          refine ih es (by simpa using hl) ?_ fun c hc => he c (List.mem_cons_of_mem _ hc)
          rcases List.mem_cons.mp hx with y | y
          · exact absurd y.symm hne
          · exact y
  exact key _ _ hl hx h
theorem cell_rg {cuts : Cuts} {p : Pict} {x : Str} (ok : PictOk cuts p) (hr : p.row = true) (hx : x ∈ cuts.map (·.1)) : cellOf cuts p.cells x = .non ∨ ∃ r, cellOf cuts p.cells x = .rg r ∧ r ≤ 2 * (cutOf cuts x).length ∧ (wit (cutOf cuts x) r).isSome = true := by
  obtain ⟨hl, h⟩ := ok
  rw [if_pos hr] at h
  have key : ∀ (cs : Cuts) (es : List Cell), es.length = cs.length → x ∈ cs.map (·.1) → (∀ (i : Nat) (c : Str × List Int), cs[i]? = some c → es[i]? = some .non ∨ ∃ r, es[i]? = some (.rg r) ∧ r ≤ 2 * c.2.length ∧ (wit c.2 r).isSome = true) →
      cellOf cs es x = .non ∨ ∃ r, cellOf cs es x = .rg r ∧ r ≤ 2 * (cutOf cs x).length ∧ (wit (cutOf cs x) r).isSome = true := by
    intro cs
    induction cs with
    | nil => intro es _ hx; cases hx
    | cons c cs ih =>
      intro es hl hx he
      cases es with
      | nil => simp at hl
      | cons e es =>
        unfold cellOf cutOf
        by_cases hne : c.1 = x
        · rw [if_pos hne, if_pos hne]
          rcases he 0 c rfl with z | ⟨r, z, z2⟩
          · left; simpa using z
          · right; exact ⟨r, by simpa using z, z2⟩
        · rw [if_neg hne, if_neg hne]
          refine ih es (by simpa using hl) ?_ fun i c hc => by simpa using he (i + 1) c (by simpa using hc)
          rcases List.mem_cons.mp hx with y | y
          · exact absurd y.symm hne
          · exact y
  exact key _ _ hl hx h
theorem updd {H : Hp} {a : Addr} {o o' : HO} : upd (upd H a o) a o' = upd H a o' := by
  funext b
  by_cases z : b = a
  · subst z; rw [upd_same, upd_same]
  · rw [upd_ne z, upd_ne z, upd_ne z]
theorem keys_of {cuts : Cuts} {H : Hp} : ∀ {kvs : List (Key × V)}, Paired (KR CutV H) kvs (cuts.map ckey) → kvs.map (·.1) = cuts.map fun c => (Sum.inr c.1 : Key) := by
  induction cuts with
  | nil => intro kvs h; cases h; rfl
  | cons c cs ih =>
    intro kvs h
    rw [List.map_cons] at h
    cases h with
    | cons h t => rw [List.map_cons, List.map_cons, ih t, show _ = Sum.inr c.1 from h.1]
theorem zip_fst {α β : Type} {xs : List α} {ys : List β} (h : xs.length = ys.length) : (xs.zip ys).map (·.1) = xs := by
  rw [← List.unzip_fst, List.unzip_zip_left (by omega)]
theorem inr_nodup {cuts : Cuts} (h : (cuts.map (·.1)).Nodup) : (cuts.map fun c => (Sum.inr c.1 : Key)).Nodup := by
  have := nodup_inr h
  rw [List.map_map] at this
  exact this
theorem ne_of_none_at {H : Hp} {a b : Addr} {o : HO} (h : H a = none) (h2 : H b = some o) : a ≠ b := fun e => by rw [e, h2] at h; cases h
/-- a Picture in the heap -/
def PicO (K : PySem.W.Frag) (H : Hp) (o : Addr) (cuts : Cuts) (p : Pict) : Prop := ∃ dx d e, H o = some (.ins (He.ga K "Picture") dx [("cuts", .ref d), ("has_row", .bl p.row), ("cells", .ref e)]) ∧ CutsIs H d cuts ∧ H e = some (.dK (cvsOf cuts p)) ∧ PictOk cuts p
theorem PicO.mono {K : PySem.W.Frag} {H H' : Hp} {o : Addr} {cuts : Cuts} {p : Pict} (e : Ext H H') (h : PicO K H o cuts p) : PicO K H' o cuts p := by
  obtain ⟨dx, d, x, h1, h2, h3, h4⟩ := h
  exact ⟨dx, d, x, e.at h1, inferInstance, e.at h3, h4⟩
section
variable {w : World} {K : PySem.W.Frag} {mg : Str → Option Value} {base : Heap}
def pInitPic (K : PySem.W.Frag) (self cuts told : V) (H : Hp) (Q : VK) : Prop := ∃ H0 d cs p, NewX (He.ga K "Picture") self H0 H ∧ cuts = .ref d ∧ CutsIs H0 d cs ∧ PictR H0 told p ∧ PictOk cs p ∧ ∀ o H', self = .ref o → Ext H0 H' → PicO K H' o cs p → Q .non H'
theorem mak_Picture  (T : Txt w K mg) : Mak PG w K mg base (3 + 1) "Picture" (He.ga K "Picture") (sp3 (pInitPic K)) := by
  obtain ⟨fd, F⟩ := T.d_Picture_init
  refine ⟨_, fd, ["self", "cuts", "told"], T.mkr_Picture, fn_mk F sc_Picture_init (fun cdv A outer s0 H vs Q E hr h => ?_), T.g_Picture, F.bindsN (fun _ _ _ _ _ _ us hl => match us, hl with | [_, _, _], _ => rfl)⟩
  obtain ⟨_, _, _, rfl, H0, d, cs, p, ⟨x, dx, rfl, n1, n2, ne, rfl⟩, rfl, cD, ⟨a, b, rfl, ha, hb⟩, ok, h⟩ := h
  have n3 : New (upd H0 dx (.own x)) x := ⟨by rw [upd_ne ne.symm]; exact n1.h⟩
  have e0 : Ext H0 (upd (upd H0 dx (.own x)) x (.ins (He.ga K "Picture") dx [])) := by walk_at "ext"
  have : At H0 a (.tup [.bl p.row, .ref b]) := ⟨ha⟩
  have : At H0 b (.tup (p.cells.map Cell.v)) := ⟨hb⟩
  refine ⟨_, pss_cons (ps_fld (pv 0) (pv 1) rfl)
      (pss_cons (ps_fld (pv 0) (pe_ix (ix_anyK (K := K) rfl) (pv 2) (pe_int) (fun _ _ => rfl)) rfl)
      (pss_one (ps_fld (pv 0) (pe_dictZip (K := K) rfl rfl rfl T.f_dict rfl T.f_zip (pv 1) (pe_ix (ix_anyK (K := K) rfl) (pv 2) (pe_int) (fun _ _ => rfl))) rfl))), ?_⟩
  refine start_to (σ := [some _, some _, some _]) rfl ?_
  try dsimp only [cxOf]
  walk_at "go"
  rw [updd]
  walk_at "go"
  rw [updd]
  walk_at "go"
  obtain ⟨⟨kvs, hd, hP⟩, cok⟩ := id cD
  have : At H0 d (.dK kvs) := ⟨hd⟩
  walk_at "go"
  have hk := keys_of hP
  have hkl : kvs.length = cs.length := by have := Paired.length hP; simpa using this
  refine ⟨by rw [List.length_map, hkl, ok.1], ?_⟩
  rw [hk, show mergeK [] ((cs.map fun c => (Sum.inr c.1 : Key)).zip (p.cells.map Cell.v)) = cvsOf cs p from by
    rw [mergeK_nodup, List.nil_append]
    · rfl
    · rw [List.nil_append, zip_fst (by rw [List.length_map, List.length_map, ok.1])]
      exact inr_nodup cok.1]
  walk_at "go"
  rename_i e he
  have hex : e ≠ x := ne_of_none_at he.h upd_same
  refine h x _ rfl (Ext.mut (by walk_at "ext") n1.h) ⟨dx, d, e, upd_same, ?_, by rw [upd_ne hex]; exact upd_same, ok⟩
  exact @cutsis_ext H0 _ d cs (Ext.mut (by walk_at "ext") n1.h) cD
instance mk_pic {d : Addr} {v : V} {H : Hp} {Q : VK} : Red (kMk (He.ga K "Picture") (sp3 (pInitPic K)) [.ref d, v] H Q) (∃ cs p, CutsIs H d cs ∧ PictR H v p ∧ PictOk cs p ∧ ∀ x H', Ext H H' → PicO K H' x cs p → Q (.ref x) H') :=
  ⟨fun ⟨cs, p, cD, hp, ok, h⟩ => fun x dx n1 n2 ne => ⟨_, _, _, rfl, H, d, cs, p, ⟨x, dx, rfl, n1, n2, ne, rfl⟩, rfl, cD, hp, ok, fun o H' eo e hP => by cases eo; exact ⟨rfl, h _ _ e hP⟩⟩⟩
/-- a test whose name the cuts know -/
def KnowsT (cuts : Cuts) (t : Tst) : Prop := ∀ x, t.name = some x → x ∈ cuts.map (·.1)
def pPic (K : PySem.W.Frag) (self number test : V) (H : Hp) (Q : VK) : Prop := ∃ o cuts p t, self = .ref o ∧ PicO K H o cuts p ∧ TstR H test t ∧ KnowsT cuts t ∧ ∀ H', Ext H H' → Q (.str (pa cuts p t).s) H'
theorem met_Picture_call  (T : Txt w K mg) : Met PG w K mg base (1 + 1) (He.ga K "Picture") "__call__" (sp3 (pPic K)) := by
  obtain ⟨fd, F⟩ := T.d_Picture_call
  refine ⟨_, fd, ["self", "number", "test"], T.cls_Picture, T.m_Picture_call, fn_mk F sc_Picture_call (fun cdv A outer s0 H vs Q E hr h => ?_), F.bindsN (fun _ _ _ _ _ _ us hl => match us, hl with | [_, _, _], _ => rfl)⟩
  obtain ⟨_, _, _, rfl, o, cuts, p, t, rfl, ⟨dx, d, e, ho, cD, he, ok⟩, ⟨a, rfl, ha⟩, kn, h⟩ := h
  obtain ⟨⟨kvs, hd, hP⟩, cok⟩ := id cD
  have c_region := (ok_region (base := base) T)
  have : At H o (.ins (He.ga K "Picture") dx [("cuts", .ref d), ("has_row", .bl p.row), ("cells", .ref e)]) := ⟨ho⟩
  have : At H d (.dK kvs) := ⟨hd⟩
  have : At H e (.dK (cvsOf cuts p)) := ⟨he⟩
  obtain ⟨row, cells⟩ := p
  refine ⟨_, pss_cons (ps_if (pt_cmpR op_eq (pe_ix (ix_anyK (K := K) rfl) (pv 2) (pe_int) (fun _ _ => rfl)) (pe_str) (nomark _)) (pss_one (ps_ret (pe_ifExp (pt_val (pe_fldK (K := K) rfl (pv 0))) (pe_str) (pe_str)))) pss_nil)
      (pss_cons (ps_set (i := 3) sc_Picture_call.nd rfl (by first | exact Or.inl rfl | exact Or.inr rfl) (pe_dget (hu_of hr) (pe_fldK (K := K) rfl (pv 0)) (pe_ix (ix_anyK (K := K) rfl) (pv 2) (pe_int) (fun _ _ => rfl)) (fun _ _ => rfl)))
      (pss_cons (ps_if (pt_cmpR op_eq (pe_ix (ix_anyK (K := K) rfl) (pv 2) (pe_int) (fun _ _ => rfl)) (pe_str) (nomark _)) (pss_one (ps_ret (pe_ifExp (PW.pt (pw_or (pt_cmpR op_isNK (pv 3) (pe_non) (nomark _)) (pw_or1 (pt_cmpR op_isF (pv 3) (pe_bl) (nomark _))))) (pe_str) (pe_str)))) pss_nil)
      (pss_cons (ps_if (PW.pt (pw_or (pt_not (pt_val (pe_fldK (K := K) rfl (pv 0)))) (pw_or1 (pt_cmpR op_isNK (pv 3) (pe_non) (nomark _))))) (pss_one (ps_ret (pe_str))) pss_nil)
      (pss_cons (ps_set (i := 4) sc_Picture_call.nd rfl (by first | exact Or.inl rfl | exact Or.inr rfl) (pe_cl c_region hr (by first | decide | omega) rfl (pa_cons (pe_dget (hu_of hr) (pe_fldK (K := K) rfl (pv 0)) (pe_ix (ix_anyK (K := K) rfl) (pv 2) (pe_int) (fun _ _ => rfl)) (fun _ _ => rfl)) (pa_cons (pe_ix (ix_anyK (K := K) rfl) (pv 2) (pe_int) (fun _ _ => rfl)) pa_nil))))
      (pss_cons (ps_set (i := 5) sc_Picture_call.nd rfl (by first | exact Or.inl rfl | exact Or.inr rfl) (pe_ifExp (pt_cmpR op_eq (pe_ix (ix_anyK (K := K) rfl) (pv 2) (pe_int) (fun _ _ => rfl)) (pe_str) (nomark _)) (pe_cmpR op_eq (pv 3) (pv 4) (nomark _)) (pe_cmpR op_lt (pv 3) (pv 4) (nomark _))))
      (pss_one (ps_ret (pe_ifExp (pt_val (pv 5)) (pe_str) (pe_str))))))))), ?_⟩
  refine start_to (σ := [some _, some _, some _, none, none, none]) rfl ?_
  try dsimp only [cxOf]
  cases t with
  | row =>
    have : At H a (.tup [.str "row"]) := ⟨ha⟩
    walk_at "go"
    cases row with
    | true =>
      walk_at "go"
      exact h _ (Ext.refl _)
    | false =>
      walk_at "go"
      exact h _ (Ext.refl _)
  | has x =>
    have : At H a (.tup [.str "has", .str x]) := ⟨ha⟩
    have hx := kn x rfl
    have hv := cvs_val ok.1 hx
    cases row with
    | false =>
      obtain ⟨b, hb⟩ := cell_bl ok rfl hx
      rw [hb] at hv
      have : DVal (cvsOf cuts ⟨false, cells⟩) (.str x) (some (.bl b)) := ⟨_, rfl, hv⟩
      walk_at "go"
      have hpa : pa cuts ⟨false, cells⟩ (.has x) = yn b := by simp only [pa]; rw [hb]
      rw [hpa] at h
      cases b with
      | true =>
        walk_at "go"
        exact h _ (Ext.refl _)
      | false =>
        walk_at "go"
        exact h _ (Ext.refl _)
    | true =>
      rcases cell_rg ok rfl hx with hb | ⟨r, hb, _, _⟩
      · rw [hb] at hv
        have : DVal (cvsOf cuts ⟨true, cells⟩) (.str x) (some .non) := ⟨_, rfl, hv⟩
        walk_at "go"
        have hpa : pa cuts ⟨true, cells⟩ (.has x) = .no := by simp only [pa]; rw [hb]
        rw [hpa] at h
        exact h _ (Ext.refl _)
      · rw [hb] at hv
        have : DVal (cvsOf cuts ⟨true, cells⟩) (.str x) (some (.int (r : Nat))) := ⟨_, rfl, hv⟩
        walk_at "go"
        have hpa : pa cuts ⟨true, cells⟩ (.has x) = .yes := by simp only [pa]; rw [hb]
        rw [hpa] at h
        exact h _ (Ext.refl _)
  | eq x v =>
    have : At H a (.tup [.str "eq", .str x, .int v]) := ⟨ha⟩
    have hx := kn x rfl
    obtain ⟨c, hc1, hc2⟩ := cuts_val hP hx
    have hv := cvs_val ok.1 hx
    have : DVal kvs (.str x) (some (.ref c)) := ⟨_, rfl, hc1⟩
    have : CutAt H c (cutOf cuts x) := ⟨hc2, cutOf_ok cok⟩
    cases row with
    | false =>
      obtain ⟨b, hb⟩ := cell_bl ok rfl hx
      rw [hb] at hv
      have : DVal (cvsOf cuts ⟨false, cells⟩) (.str x) (some (.bl b)) := ⟨_, rfl, hv⟩
      walk_at "go"
      have hpa : pa cuts ⟨false, cells⟩ (.eq x v) = .fault := by simp only [pa]; rw [hb]
      rw [hpa] at h
      exact h _ (Ext.refl _)
    | true =>
      rcases cell_rg ok rfl hx with hb | ⟨r, hb, _, _⟩
      · rw [hb] at hv
        have : DVal (cvsOf cuts ⟨true, cells⟩) (.str x) (some .non) := ⟨_, rfl, hv⟩
        walk_at "go"
        have hpa : pa cuts ⟨true, cells⟩ (.eq x v) = .fault := by simp only [pa]; rw [hb]
        rw [hpa] at h
        exact h _ (Ext.refl _)
      · rw [hb] at hv
        have : DVal (cvsOf cuts ⟨true, cells⟩) (.str x) (some (.int (r : Nat))) := ⟨_, rfl, hv⟩
        walk_at "go"
        intro H1 e1
        have hpa : pa cuts ⟨true, cells⟩ (.eq x v) = yn (decide (r = regn (cutOf cuts x) v)) := by simp only [pa]; rw [hb]
        rw [hpa] at h
        walk_at "go"
        by_cases hz : r = regn (cutOf cuts x) v
        · rw [decide_eq_true hz] at h
          rw [decide_eq_true (show ((r : Nat) : Int) = ((regn (cutOf cuts x) v : Nat) : Int) by omega)]
          walk_at "go"
          exact h _ e1
        · rw [decide_eq_false hz] at h
          rw [decide_eq_false (show ¬ ((r : Nat) : Int) = ((regn (cutOf cuts x) v : Nat) : Int) by omega)]
          walk_at "go"
          exact h _ e1
  | less x v =>
    have : At H a (.tup [.str "less", .str x, .int v]) := ⟨ha⟩
    have hx := kn x rfl
    obtain ⟨c, hc1, hc2⟩ := cuts_val hP hx
    have hv := cvs_val ok.1 hx
    have : DVal kvs (.str x) (some (.ref c)) := ⟨_, rfl, hc1⟩
    have : CutAt H c (cutOf cuts x) := ⟨hc2, cutOf_ok cok⟩
    cases row with
    | false =>
      obtain ⟨b, hb⟩ := cell_bl ok rfl hx
      rw [hb] at hv
      have : DVal (cvsOf cuts ⟨false, cells⟩) (.str x) (some (.bl b)) := ⟨_, rfl, hv⟩
      walk_at "go"
      have hpa : pa cuts ⟨false, cells⟩ (.less x v) = .fault := by simp only [pa]; rw [hb]
      rw [hpa] at h
      exact h _ (Ext.refl _)
    | true =>
      rcases cell_rg ok rfl hx with hb | ⟨r, hb, _, _⟩
      · rw [hb] at hv
        have : DVal (cvsOf cuts ⟨true, cells⟩) (.str x) (some .non) := ⟨_, rfl, hv⟩
        walk_at "go"
        have hpa : pa cuts ⟨true, cells⟩ (.less x v) = .fault := by simp only [pa]; rw [hb]
        rw [hpa] at h
        exact h _ (Ext.refl _)
      · rw [hb] at hv
        have : DVal (cvsOf cuts ⟨true, cells⟩) (.str x) (some (.int (r : Nat))) := ⟨_, rfl, hv⟩
        walk_at "go"
        intro H1 e1
        have hpa : pa cuts ⟨true, cells⟩ (.less x v) = yn (decide (r < regn (cutOf cuts x) v)) := by simp only [pa]; rw [hb]
        rw [hpa] at h
        walk_at "go"
        by_cases hz : r < regn (cutOf cuts x) v
        · rw [decide_eq_true hz] at h
          rw [decide_eq_true (show ((r : Nat) : Int) < ((regn (cutOf cuts x) v : Nat) : Int) by omega)]
          walk_at "go"
          exact h _ e1
        · rw [decide_eq_false hz] at h
          rw [decide_eq_false (show ¬ ((r : Nat) : Int) < ((regn (cutOf cuts x) v : Nat) : Int) by omega)]
          walk_at "go"
          exact h _ e1
end

end PB
namespace PB
open PySem PySem.Spec PyProof.Rows L2
local macro_rules | `(tactic| walk_at "rd") => `(tactic| (repeat refine red ?_))
local macro_rules | `(tactic| walk_at "go") => `(tactic| (repeat (first | refine red ?_ | ((with_reducible apply k_var); rfl) | refine k_new fun _ _ => ?_ | refine wp_and rfl ?_ | refine if_redT rfl ?_ | refine if_redF rfl ?_)))
local macro_rules | `(tactic| walk_at "ga") => `(tactic| (repeat (first | refine red ?_ | ((with_reducible apply k_var); rfl) | ((with_reducible apply k_aug); rfl) | refine k_new fun _ _ => ?_ | refine wp_and rfl ?_ | refine if_redT rfl ?_ | refine if_redF rfl ?_)))
local macro_rules | `(tactic| walk_at "ext") => `(tactic| (repeat (first | assumption | exact Ext.refl _ | refine Ext.newI ?_ | refine Ext.trans ?_ ‹Ext _ _›)))
local macro_rules | `(tactic| walk_at "rv") => `(tactic| (repeat (first | refine red ?_ | ((with_reducible apply k_var); rfl))))
/-! ### logs and mixtures that are called -/
def LogR (H : Hp) (v : V) (a : Ans) : Prop := ∃ tp n, v = .ref tp ∧ H tp = some (.tup [.int n, .str a.s])
theorem LogR.mono {H H' : Hp} {v : V} {a : Ans} (e : Ext H H') (h : LogR H v a) : LogR H' v a := by
  obtain ⟨tp, n, x, y⟩ := h
  exact ⟨tp, n, x, e.at y⟩
section
variable {w : World} {K : PySem.W.Frag} {mg : Str → Option Value} {base : Heap}
def pInitLog (K : PySem.W.Frag) (self ans : V) (H : Hp) (Q : VK) : Prop := ∃ H0 a, NewX (He.ga K "Log") self H0 H ∧ ans = .ref a ∧ ∀ x dx r H', self = .ref x → Ext H0 H' → New H0 r → H' x = some (.ins (He.ga K "Log") dx [("answer", .ref a), ("rows", .ref r)]) → H' r = some (.lst []) → Q .non H'
theorem mak_Log  (T : Txt w K mg) : Mak PG w K mg base (1 + 1) "Log" (He.ga K "Log") (sp2 (pInitLog K)) := by
  obtain ⟨fd, F⟩ := T.d_Log_init
  refine ⟨_, fd, ["self", "answer"], T.mkr_Log, fn_mk F sc_Log_init (fun cdv A outer s0 H vs Q E hr h => ?_), T.g_Log, F.bindsN (fun _ _ _ _ _ _ us hl => match us, hl with | [_, _], _ => rfl)⟩
  obtain ⟨_, _, rfl, H0, a, ⟨x, dx, rfl, n1, n2, ne, rfl⟩, rfl, h⟩ := h
  have n3 : New (upd H0 dx (.own x)) x := ⟨by rw [upd_ne ne.symm]; exact n1.h⟩
  have e0 : Ext H0 (upd (upd H0 dx (.own x)) x (.ins (He.ga K "Log") dx [])) := by walk_at "ext"
  refine ⟨_, pss_cons (ps_fld (pv 0) (pv 1) rfl)
      (pss_one (ps_fld (pv 0) (pe_lst pa_nil) rfl)), ?_⟩
  refine start_to (σ := [some _, some _]) rfl ?_
  try dsimp only [cxOf]
  walk_at "go"
  rw [updd]
  rename_i r hr
  rw [updd] at hr
  have e2 : Ext H0 (upd (upd H0 dx (.own x)) x (.ins (He.ga K "Log") dx [("answer", .ref a)])) := by walk_at "ext"
  have hrx : r ≠ x := ne_of_none_at hr.h upd_same
  exact h x dx r _ rfl (Ext.mut (e2.trans ext_upd) n1.h) ⟨Ext.back e2 hr.h⟩ upd_same (by rw [upd_ne hrx]; exact upd_same)
instance mk_log {a : Addr} {H : Hp} {Q : VK} : Red (kMk (He.ga K "Log") (sp2 (pInitLog K)) [.ref a] H Q) (∀ x dx r H', Ext H H' → New H r → H' x = some (.ins (He.ga K "Log") dx [("answer", .ref a), ("rows", .ref r)]) → H' r = some (.lst []) → Q (.ref x) H') :=
  ⟨fun h => fun x dx n1 n2 ne => ⟨_, _, rfl, H, a, ⟨x, dx, rfl, n1, n2, ne, rfl⟩, rfl, fun o dx r H' eo e nr h1 h2 => by cases eo; exact ⟨rfl, h _ dx r _ e nr h1 h2⟩⟩⟩
def pInitMix (K : PySem.W.Frag) (self told later : V) (H : Hp) (Q : VK) : Prop := ∃ H0 t a, NewX (He.ga K "Mixed") self H0 H ∧ told = .ref t ∧ later = .ref a ∧ ∀ x dx H', self = .ref x → Ext H0 H' → New H0 x → H' x = some (.ins (He.ga K "Mixed") dx [("told", .ref t), ("later", .ref a), ("so_far", .int 0)]) → Q .non H'
theorem mak_Mixed  (T : Txt w K mg) : Mak PG w K mg base (1 + 1) "Mixed" (He.ga K "Mixed") (sp3 (pInitMix K)) := by
  obtain ⟨fd, F⟩ := T.d_Mixed_init
  refine ⟨_, fd, ["self", "told", "later"], T.mkr_Mixed, fn_mk F sc_Mixed_init (fun cdv A outer s0 H vs Q E hr h => ?_), T.g_Mixed, F.bindsN (fun _ _ _ _ _ _ us hl => match us, hl with | [_, _, _], _ => rfl)⟩
  obtain ⟨_, _, _, rfl, H0, t, a, ⟨x, dx, rfl, n1, n2, ne, rfl⟩, rfl, rfl, h⟩ := h
  have n3 : New (upd H0 dx (.own x)) x := ⟨by rw [upd_ne ne.symm]; exact n1.h⟩
  refine ⟨_, pss_cons (ps_fld (pv 0) (pv 1) rfl)
      (pss_cons (ps_fld (pv 0) (pv 2) rfl)
      (pss_one (ps_fld (pv 0) (pe_int) rfl))), ?_⟩
  refine start_to (σ := [some _, some _, some _]) rfl ?_
  try dsimp only [cxOf]
  walk_at "go"
  rw [updd, updd, updd]
  exact h x dx _ rfl (by walk_at "ext") n1 upd_same
instance mk_mix {t a : Addr} {H : Hp} {Q : VK} : Red (kMk (He.ga K "Mixed") (sp3 (pInitMix K)) [.ref t, .ref a] H Q) (∀ x dx H', Ext H H' → New H x → H' x = some (.ins (He.ga K "Mixed") dx [("told", .ref t), ("later", .ref a), ("so_far", .int 0)]) → Q (.ref x) H') :=
  ⟨fun h => fun x dx n1 n2 ne => ⟨_, _, _, rfl, H, t, a, ⟨x, dx, rfl, n1, n2, ne, rfl⟩, rfl, rfl, fun o dx H' eo e nr h1 => by cases eo; exact ⟨rfl, h _ dx _ e nr h1⟩⟩⟩
theorem clb_pic (T : Txt w K mg) : Clb PG w K mg base 2 (He.ga K "Picture") (sp3 (pPic K)) := Clb.of (met_Picture_call T) fun f hm => by
  have := hm.at_.symm.trans T.m_Picture_call.at_
  cases this
  exact T.fi_Picture
theorem clo_pic {a : Addr} {n : Int} {v : V} {H : Hp} {Q : VK} {cuts : Cuts} {p : Pict} {t : Tst} (hp : PicO K H a cuts p) (ht : TstR H v t) (kn : KnowsT cuts t) (h : ∀ H', Ext H H' → Q (.str (pa cuts p t).s) H') : kClo (He.ga K "Picture") (sp3 (pPic K)) (.ref a) [.int n, v] H Q := by
  obtain ⟨dx, d, e, h1, h2⟩ := id hp
  exact ⟨a, dx, _, rfl, h1, _, _, _, rfl, a, cuts, p, t, rfl, hp, ht, kn, h⟩
def pLog (K : PySem.W.Frag) (self number test : V) (H : Hp) (Q : VK) : Prop := ∃ o dx a r vs n t cuts p H0, self = .ref o ∧ H o = some (.ins (He.ga K "Log") dx [("answer", .ref a), ("rows", .ref r)]) ∧ PicO K H a cuts p ∧ Ext H0 H ∧ H0 r = none ∧ H r = some (.lst vs) ∧ vs.length ≤ 1000 ∧ number = .int n ∧ TstR H test t ∧ KnowsT cuts t ∧
  ∀ H' tp, Ext H0 H' → Ext (Hid r H) H' → H' r = some (.lst (vs ++ [.ref tp])) → H' tp = some (.tup [.int n, .str (pa cuts p t).s]) → Q (.str (pa cuts p t).s) H'
theorem met_Log_call  (T : Txt w K mg) : Met PG w K mg base (2 + 1) (He.ga K "Log") "__call__" (sp3 (pLog K)) := by
  obtain ⟨fd, F⟩ := T.d_Log_call
  refine ⟨_, fd, ["self", "number", "test"], T.cls_Log, T.m_Log_call, fn_mk F sc_Log_call (fun cdv A outer s0 H vs Q E hr h => ?_), F.bindsN (fun _ _ _ _ _ _ us hl => match us, hl with | [_, _, _], _ => rfl)⟩
  obtain ⟨_, _, _, rfl, o, dx, a, r, vs, n, t, cuts, p, H0, rfl, ho, hp, e0, hr0, hr1, hl, rfl, ht, kn, h⟩ := h
  have CO := clb_pic (base := base) T
  have : At H o (.ins (He.ga K "Log") dx [("answer", .ref a), ("rows", .ref r)]) := ⟨ho⟩
  have : At H r (.lst vs) := ⟨hr1⟩
  refine ⟨_, pss_cons (ps_set (i := 3) sc_Log_call.nd rfl (by first | exact Or.inl rfl | exact Or.inr rfl) (pe_flo (pv 0) CO hr (by omega) (pa_cons (pv 1) (pa_cons (pv 2) pa_nil))))
      (pss_cons (ps_expr (pe_bm PySem.F.plainAttrs_list PySem.F.slot_list_append PySem.F.type_list_append mt_append (pe_fldK (K := K) rfl (pv 0)) (pa_cons (pe_tup (pa_cons (pv 1) (pa_cons (pv 3) pa_nil))) pa_nil)))
      (pss_one (ps_ret (pv 3)))), ?_⟩
  refine start_to (σ := [some _, some _, some _, none]) rfl ?_
  try dsimp only [cxOf]
  walk_at "go"
  refine clo_pic hp ht kn fun H1 e1 => ?_
  walk_at "go"
  refine ⟨by show vs.length < 2 ^ 24; omega, ?_⟩
  walk_at "go"
  rename_i tp htp
  have e2 : Ext H (upd H1 tp (.tup [.int n, .str (pa cuts p t).s])) := e1.trans ext_upd
  have hpr : tp ≠ r := ne_of_none_at htp.h (e1.at hr1)
  refine h _ tp ((e0.trans e2).mut hr0) ?_ upd_same (by rw [upd_ne hpr]; exact upd_same)
  exact (Hid.mono e2).trans (hid_unlock r _ _)
def mixF (told : List Ans) (g : Tst → Ans) (i : Nat) (t : Tst) : Ans := (told[i]?).getD (g t)
def TldR (H : Hp) (tt : Addr) (told : List Ans) : Prop := H tt = some (.tup (told.map fun a => V.str a.s)) ∨ H tt = some (.lst (told.map fun a => V.str a.s))
theorem TldR.mono {H H' : Hp} {tt : Addr} {told : List Ans} (e : Ext H H') (h : TldR H tt told) : TldR H' tt told := h.elim (fun h => .inl (e.at h)) fun h => .inr (e.at h)
def pMix (K : PySem.W.Frag) (self number test : V) (H : Hp) (Q : VK) : Prop := ∃ (o dx tt a : Addr) (k : Nat) (n : Int) (told : List Ans) (t : Tst) (cuts : Cuts) (p : Pict) (H0 : Hp), self = .ref o ∧ H o = some (.ins (He.ga K "Mixed") dx [("told", .ref tt), ("later", .ref a), ("so_far", .int (k : Nat))]) ∧ TldR H0 tt told ∧ told.length ≤ 1000 ∧ PicO K H0 a cuts p ∧ Ext H0 H ∧ H0 o = none ∧ k ≤ 1000 ∧ number = .int n ∧ TstR H0 test t ∧ KnowsT cuts t ∧
  ∀ H', Ext H0 H' → Ext (Hid o H) H' → H' o = some (.ins (He.ga K "Mixed") dx [("told", .ref tt), ("later", .ref a), ("so_far", .int ((k + 1 : Nat) : Nat))]) → Q (.str (mixF told (pa cuts p) k t).s) H'
theorem met_Mixed_call  (T : Txt w K mg) : Met PG w K mg base (2 + 1) (He.ga K "Mixed") "__call__" (sp3 (pMix K)) := by
  obtain ⟨fd, F⟩ := T.d_Mixed_call
  refine ⟨_, fd, ["self", "number", "test"], T.cls_Mixed, T.m_Mixed_call, fn_mk F sc_Mixed_call (fun cdv A outer s0 H vs Q E hr h => ?_), F.bindsN (fun _ _ _ _ _ _ us hl => match us, hl with | [_, _, _], _ => rfl)⟩
  obtain ⟨_, _, _, rfl, o, dx, tt, a, k, n, told, t, cuts, p, H0, rfl, ho, htt, hl, hp, e0, ho0, hk, rfl, ht, kn, h⟩ := h
  have CO := clb_pic (base := base) T
  have : At H o (.ins (He.ga K "Mixed") dx [("told", .ref tt), ("later", .ref a), ("so_far", .int (k : Nat))]) := ⟨ho⟩
  refine ⟨_, pss_cons (ps_fldaug (pv 0) (pe_int) in_add)
      (pss_cons (ps_if (pt_cmpR op_le (pe_fldK (K := K) rfl (pv 0)) (pe_callB (call_lenK (K := K) rfl) (by rfl) T.f_len (by decide +kernel) (pa_cons (pe_fldK (K := K) rfl (pv 0)) pa_nil)) (nomark _)) (pss_one (ps_ret (pe_ix (ix_anyK (K := K) rfl) (pe_fldK (K := K) rfl (pv 0)) (pe_op op_sub (pe_fldK (K := K) rfl (pv 0)) (pe_int)) (fun _ _ => rfl)))) pss_nil)
      (pss_one (ps_ret (pe_flo (pv 0) CO hr (by omega) (pa_cons (pv 1) (pa_cons (pv 2) pa_nil)))))), ?_⟩
  refine start_to (σ := [some _, some _, some _]) rfl ?_
  try dsimp only [cxOf]
  walk_at "ga"
  refine ⟨.ref o, rfl, o, _, dx, _, .int (k : Nat), rfl, ho, T.cls_Mixed, T.na_Mixed_so_far, Lk.h, ?_⟩
  refine ⟨k, 1, rfl, rfl, dx, _, ho, (by show 3 < 1000; decide), ?_⟩
  rw [PutF.h (fs := [("told", .ref tt), ("later", .ref a), ("so_far", .int (k : Nat))]) (f := "so_far") (v := .int ((k : Int) + 1))]
  rw [show ((k : Int) + 1) = ((k + 1 : Nat) : Int) by omega]
  have e2 : Ext H0 (upd H o (.ins (He.ga K "Mixed") dx [("told", .ref tt), ("later", .ref a), ("so_far", .int ((k + 1 : Nat) : Int))])) := e0.mut ho0
  have e3 : Ext (Hid o H) (upd H o (.ins (He.ga K "Mixed") dx [("told", .ref tt), ("later", .ref a), ("so_far", .int ((k + 1 : Nat) : Int))])) := hid_unlock o _ _
  have hsq : Seq K (upd H o (.ins (He.ga K "Mixed") dx [("told", .ref tt), ("later", .ref a), ("so_far", .int ((k + 1 : Nat) : Int))])) tt (told.map fun a => V.str a.s) := by
    rcases htt with z | z
    · have : At (upd H o (.ins (He.ga K "Mixed") dx [("told", .ref tt), ("later", .ref a), ("so_far", .int ((k + 1 : Nat) : Int))])) tt (.tup (told.map fun a => V.str a.s)) := ⟨e2.at z⟩
      infer_instance
    · have : At (upd H o (.ins (He.ga K "Mixed") dx [("told", .ref tt), ("later", .ref a), ("so_far", .int ((k + 1 : Nat) : Int))])) tt (.lst (told.map fun a => V.str a.s)) := ⟨e2.at z⟩
      infer_instance
  generalize hH2 : upd H o (.ins (He.ga K "Mixed") dx [("told", .ref tt), ("later", .ref a), ("so_far", .int ((k + 1 : Nat) : Int))]) = H2 at e2 e3 hsq
  have ho2 : H2 o = some (.ins (He.ga K "Mixed") dx [("told", .ref tt), ("later", .ref a), ("so_far", .int ((k + 1 : Nat) : Int))]) := by rw [← hH2]; exact upd_same
  have : At H2 o (.ins (He.ga K "Mixed") dx [("told", .ref tt), ("later", .ref a), ("so_far", .int ((k + 1 : Nat) : Int))]) := ⟨ho2⟩
  walk_at "go"
  rw [List.length_map]
  by_cases hlt : k < told.length
  · rw [decide_eq_true (show ((k + 1 : Nat) : Int) ≤ ((told.length : Nat) : Int) by omega)]
    have : Nth (told.map fun a => V.str a.s) (((k + 1 : Nat) : Int) - 1) (.str (told[k]).s) := ⟨by
      unfold atI ixN
      rw [if_pos (by omega), if_pos (by rw [List.length_map]; omega)]
      show (told.map fun a => V.str a.s)[(((k + 1 : Nat) : Int) - 1).toNat]? = _
      rw [show (((k + 1 : Nat) : Int) - 1).toNat = k by omega, List.getElem?_map, List.getElem?_eq_getElem hlt]
      rfl⟩
    walk_at "go"
    have hm : mixF told (pa cuts p) k t = told[k] := by unfold mixF; rw [List.getElem?_eq_getElem hlt]; rfl
    rw [hm] at h
    exact h _ e2 e3 ho2
  · rw [decide_eq_false (show ¬ ((k + 1 : Nat) : Int) ≤ ((told.length : Nat) : Int) by omega)]
    walk_at "go"
    obtain ⟨ta, rfl, hta⟩ := ht
    refine clo_pic (hp.mono e2) ⟨ta, rfl, e2.at hta⟩ kn fun H3 e4 => ?_
    have hm : mixF told (pa cuts p) k t = pa cuts p t := by unfold mixF; rw [List.getElem?_eq_none (by omega)]; rfl
    rw [hm] at h
    exact h _ (e2.trans e4) (e3.trans e4) (e4.at ho2)
end

end PB
namespace PB
open PySem PySem.Spec PyProof.Rows L2
local macro_rules | `(tactic| walk_at "rd") => `(tactic| (repeat refine red ?_))
local macro_rules | `(tactic| walk_at "go") => `(tactic| (repeat (first | refine red ?_ | ((with_reducible apply k_var); rfl) | refine k_new fun _ _ => ?_ | refine wp_and rfl ?_ | refine if_redT rfl ?_ | refine if_redF rfl ?_)))
local macro_rules | `(tactic| walk_at "ga") => `(tactic| (repeat (first | refine red ?_ | ((with_reducible apply k_var); rfl) | ((with_reducible apply k_aug); rfl) | refine k_new fun _ _ => ?_ | refine wp_and rfl ?_ | refine if_redT rfl ?_ | refine if_redF rfl ?_)))
local macro_rules | `(tactic| walk_at "ext") => `(tactic| (repeat (first | assumption | exact Ext.refl _ | refine Ext.newI ?_ | refine Ext.trans ?_ ‹Ext _ _›)))
local macro_rules | `(tactic| walk_at "rv") => `(tactic| (repeat (first | refine red ?_ | ((with_reducible apply k_var); rfl))))
/-! ### outcome_by with a log, with a mixture -/
structure CalD (P : Program) (w : World) (K : PySem.W.Frag) (mg : Str → Option Value) (base : Heap) (k : Nat) (x : Str) (s : Sq) (dvs : List V) : Prop where
  ex : ∃ (f : Addr) (fd : FuncData) (ps : List Str) (ds : List Value), FnOk P w K mg base CX0 k f fd ps s.sp ∧ mg x = some (.ref f) ∧ PySem.W.keepIn K (.ref f) = true ∧ Binds K fd ps ds ∧ Vals dvs ds
def tClD (s : Sq) (dvs : List V) (t : TA) : TE := fun σ H Q => t σ H fun vs H1 => s (vs ++ dvs) H1 Q
section
variable {X : Cx} {k j : Nat} {x : Str} {s : Sq} {p pos : Pos} {e : Expr} {es : List Expr} {t : TA} {dvs : List V} {σ : L2.St} {H : Hp} {Q : VK}
theorem pe_cld (c : CalD X.prog X.w X.K X.mg X.base k x s dvs) (hr : Room j X.A) (hk : k ≤ j) (hg : Gl X x) (ha : PA X (e :: es) t)
    (hdb : (x == ("__debug__" : Str)) = false := by decide) (he : starEach (e :: es) X.env = (false, eval e X.env) :: starEach es X.env := by rfl) (hpl : (backTo pos (starEach es X.env)).any (·.1) = false := by rfl) :
    PE X (.Call (.Name x p) (e :: es) [] pos) (tClD s dvs t) := by
  obtain ⟨f, fd, ps, ds, F, hm, kp, b, d⟩ := c.ex
  exact pe_call F (hr.mono hk) hg hm kp b d pass0 ha hdb he hpl
instance : Red (tClD s dvs t σ H Q) (t σ H fun vs H1 => s (vs ++ dvs) H1 Q) := ⟨id⟩
end
theorem cuts_told : some ("cuts" : Str) ≠ some ("told" : Str) := by decide +kernel
theorem ans_told : some ("answer" : Str) ≠ some ("told" : Str) := by decide +kernel
theorem ins_ne {C C' dx dx' : Addr} {fs fs' : List (Str × V)} (h : fs.head?.map (·.1) ≠ fs'.head?.map (·.1)) : HO.ins C dx fs ≠ HO.ins C' dx' fs' := fun z => by
  injection z with _ _ z
  exact h (by rw [z])
theorem CutsIs.hid {H : Hp} {x d : Addr} {cuts : Cuts} {o : HO} (c : CutsIs H d cuts) (hx : H x = some o) (h1 : ∀ kvs, HO.dK kvs ≠ o) (h2 : ∀ xs, HO.tup xs ≠ o) : CutsIs (Hid x H) d cuts := ⟨by
  obtain ⟨kvs, a, b⟩ := c.h
  refine ⟨kvs, Hid.at a (ne_of_at a hx (h1 _)), Paired.mapP b fun v d q => ⟨q.1, ?_⟩⟩
  obtain ⟨t, e1, e2⟩ := q.2
  exact ⟨t, e1, Hid.at e2 (ne_of_at e2 hx (h2 _))⟩, c.ok⟩
theorem PicO.hid {K : PySem.W.Frag} {H : Hp} {a x C dx : Addr} {fs : List (Str × V)} {cuts : Cuts} {p : Pict} (h : PicO K H a cuts p) (hx : H x = some (.ins C dx fs)) (hf : some ("cuts" : Str) ≠ fs.head?.map (·.1)) : PicO K (Hid x H) a cuts p := by
  obtain ⟨dx', d, e, h1, h2, h3, h4⟩ := h
  exact ⟨dx', d, e, Hid.at h1 (ne_of_at h1 hx (ins_ne hf)), h2.hid hx (fun _ z => nomatch z) (fun _ z => nomatch z), Hid.at h3 (ne_of_at h3 hx fun z => nomatch z), h4⟩
section
variable {w : World} {K : PySem.W.Frag} {mg : Str → Option Value} {base : Heap}
theorem OutOk.cald {k : Nat} {s : Sq} (o : OutOk w K mg base k s) : CalD PG w K mg base k "outcome_by" s [.int 0] := by
  obtain ⟨f, fd, ds, F, a, b, c, d, e⟩ := o.ex
  exact ⟨f, fd, _, ds, F, a, b, d, e⟩
theorem clb_log (T : Txt w K mg) : Clb PG w K mg base 3 (He.ga K "Log") (sp3 (pLog K)) := Clb.of (met_Log_call T) fun f hm => by
  have := hm.at_.symm.trans T.m_Log_call.at_
  cases this
  exact T.fi_Log
theorem clb_mix (T : Txt w K mg) : Clb PG w K mg base 3 (He.ga K "Mixed") (sp3 (pMix K)) := Clb.of (met_Mixed_call T) fun f hm => by
  have := hm.at_.symm.trans T.m_Mixed_call.at_
  cases this
  exact T.fi_Mixed
def LogI (K : PySem.W.Frag) (o a r : Addr) (l : List Ans) (H : Hp) : Prop := ∃ dx vs, H o = some (.ins (He.ga K "Log") dx [("answer", .ref a), ("rows", .ref r)]) ∧ H r = some (.lst vs) ∧ Each LogR H vs l
theorem answ_log {o a r : Addr} {H0 : Hp} {cuts : Cuts} {p : Pict} (hp : PicO K H0 a cuts p) (hr : H0 r = none) : Answ (sp3 (pLog K)) o (He.ga K "Log") H0 (fun _ t => pa cuts p t) (LogI K o a r) (KnowsT cuts) where
  ins := fun l H ⟨dx, vs, h, _⟩ => ⟨dx, _, h⟩
  mono := fun l H H' e ⟨dx, vs, h1, h2, h3⟩ => ⟨dx, vs, e.at h1, e.at h2, h3.mono fun v d => LogR.mono e⟩
  step := fun l H n v t Q e0 ⟨dx, vs, h1, h2, h3⟩ ht kn hl k => by
    refine ⟨_, _, _, rfl, o, dx, a, r, vs, n, t, cuts, p, H0, rfl, h1, hp.mono e0, e0, hr, h2, by have := h3.len; omega, rfl, ?_, kn, fun H' tp e1 e2 hr' htp => ?_⟩
    · obtain ⟨ta, rfl, hta⟩ := ht
      exact ⟨ta, rfl, e0.at hta⟩
    · refine k H' e1 ⟨dx, _, e2.at (Hid.at h1 (ne_of_at h1 h2 fun z => nomatch z)), hr', Each.snoc (h3.mono fun v d q => ?_) ⟨tp, n, rfl, htp⟩⟩
      obtain ⟨tq, m, rfl, hq⟩ := q
      exact ⟨tq, m, rfl, e2.at (Hid.at hq (ne_of_at hq h2 fun z => nomatch z))⟩
def MixI (K : PySem.W.Frag) (o tt a : Addr) (l : List Ans) (H : Hp) : Prop := ∃ dx, H o = some (.ins (He.ga K "Mixed") dx [("told", .ref tt), ("later", .ref a), ("so_far", .int (l.length : Nat))])
theorem answ_mix {o tt a : Addr} {H0 : Hp} {told : List Ans} {cuts : Cuts} {p : Pict} (htt : TldR H0 tt told) (hl : told.length ≤ 1000) (hp : PicO K H0 a cuts p) (ho : H0 o = none) : Answ (sp3 (pMix K)) o (He.ga K "Mixed") H0 (mixF told (pa cuts p)) (MixI K o tt a) (KnowsT cuts) where
  ins := fun l H ⟨dx, h⟩ => ⟨dx, _, h⟩
  mono := fun l H H' e ⟨dx, h1⟩ => ⟨dx, e.at h1⟩
  step := fun l H n v t Q e0 ⟨dx, h1⟩ ht kn hn k => by
    refine ⟨_, _, _, rfl, o, dx, tt, a, l.length, n, told, t, cuts, p, H0, rfl, h1, htt, hl, hp, e0, ho, hn, rfl, ht, kn, fun H' e1 e2 h2 => ?_⟩
    refine k H' e1 ⟨dx, ?_⟩
    rw [List.length_append]
    exact h2
/-- outcome_by(condition, log), the log new -/
def FitC (cuts : Cuts) (c : Cond) : Prop := ∀ t, t ∈ c.ts → KnowsT cuts t
def pa0 (cuts : Cuts) (p : Pict) : Nat → Tst → Ans := fun _ t => pa cuts p t
theorem out_log (T : Txt w K mg) : OutOk w K mg base 27 (sp3 (pOut (He.ga K "Log") (sp3 (pLog K)) 3)) := ok_outcome_by 3 T (clb_log T)
theorem out_mix (T : Txt w K mg) : OutOk w K mg base 27 (sp3 (pOut (He.ga K "Mixed") (sp3 (pMix K)) 3)) := ok_outcome_by 3 T (clb_mix T)
/-- a Run in the heap -/
def RunR (K : PySem.W.Frag) (H : Hp) (v : V) (c : Cond) (cuts : Cuts) (p : Pict) : Prop := ∃ x dx a t u, v = .ref x ∧ H x = some (.ins (He.ga K "Run") dx [("told", u), ("answer", .ref a), ("outcome", .str (run (pa0 cuts p) c []).1.s), ("answers", .ref t)]) ∧ PictR H u p ∧ PicO K H a cuts p ∧
  H t = some (.tup ((run (pa0 cuts p) c []).2.map fun a => V.str a.s))
theorem RunR.mono {H H' : Hp} {v : V} {c : Cond} {cuts : Cuts} {p : Pict} (e : Ext H H') (h : RunR K H v c cuts p) : RunR K H' v c cuts p := by
  obtain ⟨x, dx, a, t, u, h1, h2, h3, h4, h5⟩ := h
  exact ⟨x, dx, a, t, u, h1, e.at h2, h3.mono e, h4.mono e, e.at h5⟩
def pInitRun (K : PySem.W.Frag) (self cond cuts told : V) (H : Hp) (Q : VK) : Prop := ∃ H0 c d cs p, NewX (He.ga K "Run") self H0 H ∧ CA H0 c cond ∧ Good c ∧ cuts = .ref d ∧ CutsIs H0 d cs ∧ FitC cs c ∧ PictR H0 told p ∧ PictOk cs p ∧ ∀ H', Ext H0 H' → RunR K H' self c cs p → Q .non H'
theorem mak_Run  (T : Txt w K mg) : Mak PG w K mg base (27 + 1) "Run" (He.ga K "Run") (sp4 (pInitRun K)) := by
  obtain ⟨fd, F⟩ := T.d_Run_init
  refine ⟨_, fd, ["self", "condition", "cuts", "told"], T.mkr_Run, fn_mk F sc_Run_init (fun cdv A outer s0 H vs Q E hr h => ?_), T.g_Run, F.bindsN (fun _ _ _ _ _ _ us hl => match us, hl with | [_, _, _, _], _ => rfl)⟩
  obtain ⟨_, w0, _, w1, rfl, H0, c, d, cs, p, ⟨x, dx, rfl, n1, n2, ne, rfl⟩, hc, good, rfl, cD, fit, hp, ok, h⟩ := h
  have n3 : New (upd H0 dx (.own x)) x := ⟨by rw [upd_ne ne.symm]; exact n1.h⟩
  have c_outd := (out_log (base := base) T).cald
  have m_Log := mak_Log (base := base) T
  have m_Picture := mak_Picture (base := base) T
  refine ⟨_, pss_cons (ps_fld (pv 0) (pv 3) rfl)
      (pss_cons (ps_fld (pv 0) (pe_mkc m_Picture hr (by first | decide | omega) rfl (pa_cons (pv 2) (pa_cons (pv 3) pa_nil))) rfl)
      (pss_cons (ps_set (i := 4) sc_Run_init.nd rfl (by first | exact Or.inl rfl | exact Or.inr rfl) (pe_mkc m_Log hr (by first | decide | omega) rfl (pa_cons (pe_fldK (K := K) rfl (pv 0)) pa_nil)))
      (pss_cons (ps_fld (pv 0) (pe_cld c_outd hr (by omega) rfl (pa_cons (pv 1) (pa_cons (pv 4) pa_nil))) rfl)
      (pss_one (ps_fld (pv 0) (pe_callTy (call_tupK (K := K) rfl) (by rfl) T.f_tuple (by decide +kernel) (pa_cons (pe_lc (own := [("number", 5), ("one", 6)]) rfl sc_Run_init.nd (pi_seq (pe_fldK (K := K) rfl (pv 4))) (blkOk_by (own := [("number", 5), ("one", 6)]) (N := ["self", "condition", "cuts", "told", "log", "number", "one"]) (sc := defScope S_Run_init) (by decide +kernel)) (fun _ _ _ _ _ => (pg_tupK (K := K) (n := 2) rfl rfl (pgs_cons (pg_name (i := 5) sc_Run_init.nd rfl (by first | exact Or.inl rfl | exact Or.inr rfl)) (pgs_cons (pg_name (i := 6) sc_Run_init.nd rfl (by first | exact Or.inl rfl | exact Or.inr rfl)) pgs_nil)))) (fun _ _ _ _ _ => pts_nil) (fun _ _ _ _ _ => (pv 6))) pa_nil)) rfl))))), ?_⟩
  refine start_to (σ := [some _, some _, some _, some _, none, none, none]) rfl ?_
  try dsimp only [cxOf]
  have eI : Ext H0 (upd (upd H0 dx (.own x)) x (.ins (He.ga K "Run") dx [])) := by walk_at "ext"
  generalize hI : upd (upd H0 dx (.own x)) x (.ins (He.ga K "Run") dx []) = HI at eI
  have hIx : HI x = some (.ins (He.ga K "Run") dx []) := by rw [← hI]; exact upd_same
  have : At HI x (.ins (He.ga K "Run") dx []) := ⟨hIx⟩
  walk_at "go"
  have eA : Ext H0 (upd HI x (.ins (He.ga K "Run") dx [("told", w1)])) := eI.mut n1.h
  refine ⟨cs, p, @cutsis_ext H0 _ d cs eA cD, hp.mono eA, ok, fun a H1 e1 hA => ?_⟩
  have hx1 : H1 x = some (.ins (He.ga K "Run") dx [("told", w1)]) := e1.at upd_same
  have : At H1 x (.ins (He.ga K "Run") dx [("told", w1)]) := ⟨hx1⟩
  have eB : Ext H0 (upd H1 x (.ins (He.ga K "Run") dx [("told", w1), ("answer", .ref a)])) := (eA.trans e1).mut n1.h
  have hpB : PicO K (upd H1 x (.ins (He.ga K "Run") dx [("told", w1), ("answer", .ref a)])) a cs p := (hA.hid hx1 cuts_told).mono (hid_unlock x _ _)
  walk_at "go"
  intro o dl r H2 e2 nr ho hr
  have hxB := (upd_same : upd H1 x (.ins (He.ga K "Run") dx [("told", w1), ("answer", .ref a)]) x = _)
  generalize upd H1 x (.ins (He.ga K "Run") dx [("told", w1), ("answer", .ref a)]) = HB at eB hpB e2 nr hxB
  have hx2 := e2.at hxB
  have : At H2 x (.ins (He.ga K "Run") dx [("told", w1), ("answer", .ref a)]) := ⟨hx2⟩
  walk_at "go"
  refine ⟨_, _, _, rfl, c, [], HB, pa0 cs p, LogI K o a r, KnowsT cs, o, 0, CA.mono eB c _ hc, good.2.1, by have := good.2.2; show 0 + _ ≤ _; omega, fit, rfl, rfl, answ_log hpB nr.h, e2, ⟨dl, [], ho, hr, .nil⟩, fun H3 e3 hL => ?_⟩
  obtain ⟨dl3, vs, ho3, hr3, hE⟩ := hL
  have hx3 := e3.at hxB
  have : At H3 x (.ins (He.ga K "Run") dx [("told", w1), ("answer", .ref a)]) := ⟨hx3⟩
  have hox : o ≠ x := ne_of_at ho3 hx3 (ins_ne ans_told)
  have hrx : r ≠ x := ne_of_at hr3 hx3 (fun z => nomatch z)
  generalize hrun : run (pa0 cs p) c [] = res at hE
  obtain ⟨out, ans⟩ := res
  have eD : Ext H0 (upd H3 x (.ins (He.ga K "Run") dx [("told", w1), ("answer", .ref a), ("outcome", .str out.s)])) := (eB.trans e3).mut n1.h
  have eh : Ext (Hid x H3) (upd H3 x (.ins (He.ga K "Run") dx [("told", w1), ("answer", .ref a), ("outcome", .str out.s)])) := hid_unlock x _ _
  have hpD : PicO K (upd H3 x (.ins (He.ga K "Run") dx [("told", w1), ("answer", .ref a), ("outcome", .str out.s)])) a cs p := ((hpB.mono e3).hid hx3 cuts_told).mono eh
  have hED : Each LogR (upd H3 x (.ins (He.ga K "Run") dx [("told", w1), ("answer", .ref a), ("outcome", .str out.s)])) vs ans := hE.mono fun v d q => by
    obtain ⟨tq, m, rfl, hq⟩ := q
    exact ⟨tq, m, rfl, eh.at (Hid.at hq (ne_of_at hq hx3 fun z => nomatch z))⟩
  have : At (upd H3 x (.ins (He.ga K "Run") dx [("told", w1), ("answer", .ref a), ("outcome", .str out.s)])) o (.ins (He.ga K "Log") dl3 [("answer", .ref a), ("rows", .ref r)]) := ⟨by rw [upd_ne hox]; exact ho3⟩
  have : At (upd H3 x (.ins (He.ga K "Run") dx [("told", w1), ("answer", .ref a), ("outcome", .str out.s)])) r (.lst vs) := ⟨by rw [upd_ne hrx]; exact hr3⟩
  walk_at "go"
  have hlen := hED.len
  have hrl := run_len (pa0 cs p) c []
  rw [hrun] at hrl
  have hal : ans.length ≤ 4 := by
    have := good.2.2
    have h2 : ans.length ≤ ([] : List Ans).length + c.ts.length := hrl
    simp at h2
    omega
  refine lc_ds ans some (VR fun a : Ans => V.str a.s) (fun _ h => h) hlen (by show vs.length ≤ 2 ^ 24; omega) ?_ ?_
  · intro i y b H4 H5 D hb e4 nD hA4 hy N1 N2 k1 k2
    obtain ⟨rfl, hy⟩ := hy
    obtain ⟨b', hb', tq, m, rfl, hq⟩ := hED.get hy
    rw [hb] at hb'
    cases hb'
    have : At H5 tq (.tup [.int m, .str b.s]) := ⟨e4.at hq⟩
    walk_at "go"
    exact k1 _ _ b (Ext.refl _) rfl rfl
  · intro D H4 ys nD e4 hD hE4
    have hys := each_val hE4
    rw [List.filterMap_some] at hys
    have hx4 := e4.at (upd_same : upd H3 x (.ins (He.ga K "Run") dx [("told", w1), ("answer", .ref a), ("outcome", .str out.s)]) x = _)
    have : At H4 D (.lst ys) := ⟨hD⟩
    have : At H4 x (.ins (He.ga K "Run") dx [("told", w1), ("answer", .ref a), ("outcome", .str out.s)]) := ⟨hx4⟩
    walk_at "go"
    rename_i t ht
    have htx : t ≠ x := ne_of_none_at ht.h hx4
    have hx5 : upd H4 t (.tup ys) x = some (.ins (He.ga K "Run") dx [("told", w1), ("answer", .ref a), ("outcome", .str out.s)]) := by rw [upd_ne htx.symm]; exact hx4
    have eF : Ext H0 (upd (upd H4 t (.tup ys)) x (.ins (He.ga K "Run") dx [("told", w1), ("answer", .ref a), ("outcome", .str out.s), ("answers", .ref t)])) := ((eD.trans e4).trans ext_upd).mut n1.h
    refine h _ eF ⟨x, dx, a, t, w1, rfl, ?_, hp.mono eF, ?_, ?_⟩
    · rw [hrun]; exact upd_same
    · exact ((hpD.mono (e4.trans ext_upd)).hid hx5 cuts_told).mono (hid_unlock x _ _)
    · rw [hrun, upd_ne htx, upd_same, hys]
end

end PB
namespace PB
open PySem PySem.Spec PyProof.Rows L2
local macro_rules | `(tactic| walk_at "rd") => `(tactic| (repeat refine red ?_))
local macro_rules | `(tactic| walk_at "go") => `(tactic| (repeat (first | refine red ?_ | ((with_reducible apply k_var); rfl) | refine k_new fun _ _ => ?_ | refine wp_and rfl ?_ | refine if_redT rfl ?_ | refine if_redF rfl ?_)))
local macro_rules | `(tactic| walk_at "ga") => `(tactic| (repeat (first | refine red ?_ | ((with_reducible apply k_var); rfl) | ((with_reducible apply k_aug); rfl) | refine k_new fun _ _ => ?_ | refine wp_and rfl ?_ | refine if_redT rfl ?_ | refine if_redF rfl ?_)))
local macro_rules | `(tactic| walk_at "ext") => `(tactic| (repeat (first | assumption | exact Ext.refl _ | refine Ext.newI ?_ | refine Ext.trans ?_ ‹Ext _ _›)))
local macro_rules | `(tactic| walk_at "rv") => `(tactic| (repeat (first | refine red ?_ | ((with_reducible apply k_var); rfl))))
/-! ### runs made; mixtures -/
def outOf (cuts : Cuts) (c : Cond) (p : Pict) : Ans := (run (pa0 cuts p) c []).1
def ansOf (cuts : Cuts) (c : Cond) (p : Pict) : List Ans := (run (pa0 cuts p) c []).2
def mixed (cuts : Cuts) (c : Cond) (p q : Pict) (n : Nat) : Ans := (run (mixF ((ansOf cuts c p).take n) (pa cuts q)) c []).1
theorem ansOf_len {cuts : Cuts} {c : Cond} {p : Pict} (g : Good c) : (ansOf cuts c p).length ≤ 4 := by
  have := run_len (pa0 cuts p) c []
  have h2 := g.2.2
  unfold ansOf
  simp at this
  omega
section
variable {w : World} {K : PySem.W.Frag} {mg : Str → Option Value} {base : Heap}
instance mk_run {v u : V} {d : Addr} {H : Hp} {Q : VK} : Red (kMk (He.ga K "Run") (sp4 (pInitRun K)) [v, .ref d, u] H Q) (∃ c cs p, CA H c v ∧ Good c ∧ CutsIs H d cs ∧ FitC cs c ∧ PictR H u p ∧ PictOk cs p ∧ ∀ x H', Ext H H' → RunR K H' (.ref x) c cs p → Q (.ref x) H') :=
  ⟨fun ⟨c, cs, p, hc, g, cD, fit, hp, ok, h⟩ => fun x dx n1 n2 ne => ⟨_, _, _, _, rfl, H, c, d, cs, p, ⟨x, dx, rfl, n1, n2, ne, rfl⟩, hc, g, rfl, cD, fit, hp, ok, fun H' e hR => ⟨rfl, h _ _ e hR⟩⟩⟩
def pMixedBy (K : PySem.W.Frag) (cond one other count : V) (H : Hp) (Q : VK) : Prop := ∃ (c : Cond) (cuts : Cuts) (p q : Pict) (a b : Addr) (n : Nat), CA H c cond ∧ Good c ∧ FitC cuts c ∧ one = .ref a ∧ other = .ref b ∧ PicO K H a cuts p ∧ PicO K H b cuts q ∧ count = .int (n : Nat) ∧ n ≤ 1000 ∧ ∀ H', Ext H H' → Q (.str (mixed cuts c p q n).s) H'
theorem ok_mixed_by  (T : Txt w K mg) : Cal PG w K mg base (27 + 1) "mixed_by" (sp4 (pMixedBy K)) := by
  obtain ⟨fd, F⟩ := T.d_mixed_by
  refine cal_mk F T.g_mixed_by sc_mixed_by (fun _ _ _ _ _ _ us hl => match us, hl with | [_, _, _, _], _ => rfl) fun cdv A outer s0 H vs Q E hr h => ?_
  obtain ⟨_, _, _, _, rfl, c, cuts, p, q, a, b, n, hc, good, fit, rfl, rfl, hp, hq, rfl, hn, h⟩ := h
  have c_outd := (out_log (base := base) T).cald
  have c_outm := (out_mix (base := base) T).cald
  have m_Log := mak_Log (base := base) T
  have m_Mixed := mak_Mixed (base := base) T
  refine ⟨_, pss_cons (ps_set (i := 4) sc_mixed_by.nd rfl (by first | exact Or.inl rfl | exact Or.inr rfl) (pe_mkc m_Log hr (by first | decide | omega) rfl (pa_cons (pv 1) pa_nil)))
      (pss_cons (ps_expr (pe_cld c_outd hr (by omega) rfl (pa_cons (pv 0) (pa_cons (pv 4) pa_nil))))
      (pss_cons (ps_setLc (i := 5) (own := [("number", 6), ("answer", 7)]) rfl sc_mixed_by.nd rfl rfl (sw_true rfl rfl rfl (by decide +kernel)) (pi_seq (pe_fldK (K := K) rfl (pv 4))) (blkOk_by (own := [("number", 6), ("answer", 7)]) (N := ["condition", "one", "other", "count", "log", "told", "number", "answer"]) (sc := defScope S_mixed_by) (by decide +kernel)) (fun _ _ _ _ _ => (pg_tupK (K := K) (n := 2) rfl rfl (pgs_cons (pg_name (i := 6) sc_mixed_by.nd rfl (by first | exact Or.inl rfl | exact Or.inr rfl)) (pgs_cons (pg_name (i := 7) sc_mixed_by.nd rfl (by first | exact Or.inl rfl | exact Or.inr rfl)) pgs_nil)))) (fun _ _ _ _ _ => pts_nil) (fun _ _ _ _ _ => (pv 7)))
      (pss_one (ps_ret (pe_cld c_outm hr (by omega) rfl (pa_cons (pv 0) (pa_cons (pe_mkc m_Mixed hr (by first | decide | omega) rfl (pa_cons (pe_slice (sl_listK (K := K) rfl) (pv 5) po_none (po_some (pv 3))) (pa_cons (pv 2) pa_nil))) pa_nil))))))), ?_⟩
  refine start_to (σ := [some _, some _, some _, some _, none, none, none, none]) rfl ?_
  try dsimp only [cxOf]
  walk_at "go"
  intro o dl r H2 e2 nr ho hr1
  walk_at "go"
  refine ⟨_, _, _, rfl, c, [], H, pa0 cuts p, LogI K o a r, KnowsT cuts, o, 0, hc, good.2.1, by have := good.2.2; show 0 + _ ≤ _; omega, fit, rfl, rfl, answ_log hp nr.h, e2, ⟨dl, [], ho, hr1, .nil⟩, fun H3 e3 hL => ?_⟩
  obtain ⟨dl3, vs, ho3, hr3, hE⟩ := hL
  have : At H3 o (.ins (He.ga K "Log") dl3 [("answer", .ref a), ("rows", .ref r)]) := ⟨ho3⟩
  have : At H3 r (.lst vs) := ⟨hr3⟩
  walk_at "go"
  have hlen := hE.len
  have hal := ansOf_len (cuts := cuts) (p := p) good
  refine lc_ds (ansOf cuts c p) some (VR fun a : Ans => V.str a.s) (fun _ h => h) hlen (by show vs.length ≤ 2 ^ 24; unfold ansOf at hal; omega) ?_ ?_
  · intro i y b1 H4 H5 D hb e4 nD hA4 hy N1 N2 k1 k2
    obtain ⟨rfl, hy⟩ := hy
    obtain ⟨b', hb', tq, m, rfl, hq1⟩ := hE.get hy
    rw [show (run (pa0 cuts p) c []).2[i]? = some b1 from hb] at hb'
    cases hb'
    have : At H5 tq (.tup [.int m, .str b1.s]) := ⟨e4.at hq1⟩
    walk_at "go"
    exact k1 _ _ b1 (Ext.refl _) rfl rfl
  · intro D H4 ys nD e4 hD hE4
    have hys := each_val hE4
    rw [List.filterMap_some] at hys
    have : At H4 D (.lst ys) := ⟨hD⟩
    walk_at "go"
    rename_i L hL
    rw [cut_take, hys, ← List.map_take]
    have e5 : Ext H (upd H4 L (.lst (((ansOf cuts c p).take n).map fun a => V.str a.s))) := (e3.trans e4).trans ext_upd
    generalize hH5 : upd H4 L (.lst (((ansOf cuts c p).take n).map fun a => V.str a.s)) = H5 at e5
    have hL5 : H5 L = some (.lst (((ansOf cuts c p).take n).map fun a => V.str a.s)) := by rw [← hH5]; exact upd_same
    walk_at "go"
    intro x dx H6 e6 nx hx
    walk_at "go"
    refine ⟨_, _, _, rfl, c, [], H5, mixF ((ansOf cuts c p).take n) (pa cuts q), MixI K x L b, KnowsT cuts, x, 0, CA.mono e5 c _ hc, good.2.1, by have := good.2.2; show 0 + _ ≤ _; omega, fit, rfl, rfl,
      answ_mix (.inr hL5) (by rw [List.length_take]; omega) (hq.mono e5) nx.h, e6, ⟨dx, hx⟩, fun H7 e7 hM => ?_⟩
    walk_at "go"
    exact h _ (e5.trans e7)
end

end PB
namespace PB
open PySem PySem.Spec PyProof.Rows L2
local macro_rules | `(tactic| walk_at "rd") => `(tactic| (repeat refine red ?_))
local macro_rules | `(tactic| walk_at "go") => `(tactic| (repeat (first | refine red ?_ | ((with_reducible apply k_var); rfl) | refine k_new fun _ _ => ?_ | refine wp_and rfl ?_ | refine if_redT rfl ?_ | refine if_redF rfl ?_)))
local macro_rules | `(tactic| walk_at "ga") => `(tactic| (repeat (first | refine red ?_ | ((with_reducible apply k_var); rfl) | ((with_reducible apply k_aug); rfl) | refine k_new fun _ _ => ?_ | refine wp_and rfl ?_ | refine if_redT rfl ?_ | refine if_redF rfl ?_)))
local macro_rules | `(tactic| walk_at "ext") => `(tactic| (repeat (first | assumption | exact Ext.refl _ | refine Ext.newI ?_ | refine Ext.trans ?_ ‹Ext _ _›)))
local macro_rules | `(tactic| walk_at "rv") => `(tactic| (repeat (first | refine red ?_ | ((with_reducible apply k_var); rfl))))
/-! ### is_picture -/
section
variable {w : World} {K : PySem.W.Frag} {mg : Str → Option Value} {base : Heap}
def SeenOk (cs : List Int) (e : Cell) : Prop := e = .non ∨ ∃ r, e = .rg r ∧ r ≤ 2 * cs.length ∧ (wit cs r).isSome = true
def pSeen (cuts v : V) (H : Hp) (Q : VK) : Prop := ∃ a cs e, cuts = .ref a ∧ CutAt H a cs ∧ v = Cell.v e ∧ SeenOk cs e ∧ ∀ H', Ext H H' → Q (.bl true) H'
theorem ok_is_seen_cell  (T : Txt w K mg) : Cal PG w K mg base (3 + 1) "is_seen_cell" (sp2 pSeen) := by
  obtain ⟨fd, F⟩ := T.d_is_seen_cell
  refine cal_mk F T.g_is_seen_cell sc_is_seen_cell (fun _ _ _ _ _ _ us hl => match us, hl with | [_, _], _ => rfl) fun cdv A outer s0 H vs Q E hr h => ?_
  obtain ⟨_, _, rfl, a, cs, e, rfl, hA, rfl, hs, h⟩ := h
  have c_witness := ok_witness (base := base) T
  refine ⟨_, pss_one (ps_ret (pe_or (pe_cmpR op_isNK (pv 1) (pe_non) (nomark _)) (pe_one (pe_cmpR op_notNK (pe_cl c_witness hr (by first | decide | omega) rfl (pa_cons (pv 0) (pa_cons (pv 1) pa_nil))) (pe_non) (nomark _))))), ?_⟩
  refine start_to (σ := [some _, some _]) rfl ?_
  try dsimp only [cxOf]
  rcases hs with rfl | ⟨r, rfl, hr1, hw⟩
  · rw [show Cell.v .non = V.non from rfl]
    walk_at "go"
    exact h _ (Ext.refl _)
  · rw [show Cell.v (.rg r) = V.int (r : Nat) from rfl]
    walk_at "go"
    refine ⟨a, cs, r, rfl, hA, rfl, hr1, ?_⟩
    cases hv : wit cs r with
    | none => rw [hv] at hw; cases hw
    | some i =>
      rw [show optV (some i) = V.int i from rfl]
      walk_at "go"
      exact h _ (Ext.refl _)
def pIsPic (cuts v : V) (H : Hp) (Q : VK) : Prop := ∃ d cs p, cuts = .ref d ∧ CutsIs H d cs ∧ PictR H v p ∧ PictOk cs p ∧ ∀ H', Ext H H' → Q (.bl true) H'
theorem ok_is_picture  (T : Txt w K mg) : Cal PG w K mg base (4 + 1) "is_picture" (sp2 pIsPic) := by
  obtain ⟨fd, F⟩ := T.d_is_picture
  refine cal_mk F T.g_is_picture sc_is_picture (fun _ _ _ _ _ _ us hl => match us, hl with | [_, _], _ => rfl) fun cdv A outer s0 H vs Q E hr h => ?_
  obtain ⟨_, _, rfl, d, cs, ⟨row, cells⟩, rfl, cD, ⟨a, b, rfl, ha, hb⟩, ok, h⟩ := h
  have c_is_seen_cell := ok_is_seen_cell (base := base) T
  have : At H a (.tup [.bl row, .ref b]) := ⟨ha⟩
  have : At H b (.tup (cells.map Cell.v)) := ⟨hb⟩
  obtain ⟨⟨kvs, hd, hP⟩, cok⟩ := id cD
  have : At H d (.dK kvs) := ⟨hd⟩
  refine ⟨_, pss_cons (ps_if (PW.pt (pw_or (pt_not (pt_val (pe_callB (call_isiK2 (K := K) rfl) (by rfl) T.f_isinstance (by decide +kernel) (pa_cons (pv 1) (pa_cons (pe_ty (n := "tuple") (by rfl) T.f_tuple (by decide +kernel)) pa_nil))))) (pw_or (pt_cmpR op_ne (pe_callB (call_lenK (K := K) rfl) (by rfl) T.f_len (by decide +kernel) (pa_cons (pv 1) pa_nil)) (pe_int) (nomark _)) (pw_or1 (pt_not (pt_val (pe_callB (call_isiK2 (K := K) rfl) (by rfl) T.f_isinstance (by decide +kernel) (pa_cons (pe_ix (ix_anyK (K := K) rfl) (pv 1) (pe_int) (fun _ _ => rfl)) (pa_cons (pe_ty (n := "bool") (by rfl) T.f_bool (by decide +kernel)) pa_nil))))))))) (pss_one (ps_ret (pe_bl))) pss_nil)
      (pss_cons (ps_if (PW.pt (pw_or (pt_not (pt_val (pe_callB (call_isiK2 (K := K) rfl) (by rfl) T.f_isinstance (by decide +kernel) (pa_cons (pe_ix (ix_anyK (K := K) rfl) (pv 1) (pe_int) (fun _ _ => rfl)) (pa_cons (pe_ty (n := "tuple") (by rfl) T.f_tuple (by decide +kernel)) pa_nil))))) (pw_or1 (pt_cmpR op_ne (pe_callB (call_lenK (K := K) rfl) (by rfl) T.f_len (by decide +kernel) (pa_cons (pe_ix (ix_anyK (K := K) rfl) (pv 1) (pe_int) (fun _ _ => rfl)) pa_nil)) (pe_callB (call_lenK (K := K) rfl) (by rfl) T.f_len (by decide +kernel) (pa_cons (pv 0) pa_nil)) (nomark _))))) (pss_one (ps_ret (pe_bl))) pss_nil)
      (pss_cons (ps_if (pt_not (pt_val (pe_ix (ix_anyK (K := K) rfl) (pv 1) (pe_int) (fun _ _ => rfl)))) (pss_one (ps_ret (pe_callB (cr_all rfl) (by rfl) T.f_all (by decide +kernel) (pa_cons (pe_lc (own := [("one", 3)]) rfl sc_is_picture.nd (pi_seq (pe_ix (ix_anyK (K := K) rfl) (pv 1) (pe_int) (fun _ _ => rfl))) (blkOk_by (own := [("one", 3)]) (N := ["cuts", "value", "some", "one"]) (sc := defScope S_is_picture) (by decide +kernel)) (fun _ _ _ _ _ => (pg_name (i := 3) sc_is_picture.nd rfl (by first | exact Or.inl rfl | exact Or.inr rfl))) (fun _ _ _ _ _ => pts_nil) (fun _ _ _ _ _ => (pe_callB (call_isiK2 (K := K) rfl) (by rfl) T.f_isinstance (by decide +kernel) (pa_cons (pv 3) (pa_cons (pe_ty (n := "bool") (by rfl) T.f_bool (by decide +kernel)) pa_nil))))) pa_nil)))) pss_nil)
      (pss_one (ps_ret (pe_callB (cr_all rfl) (by rfl) T.f_all (by decide +kernel) (pa_cons (pe_lock ((pe_lc (own := [("some", 2), ("one", 3)]) rfl sc_is_picture.nd ((pi_zipV (K := K) rfl rfl T.f_zip (pv 0) (pe_ix (ix_anyK (K := K) rfl) (pv 1) (pe_int) (fun _ _ => rfl)))) (blkOk_by (own := [("some", 2), ("one", 3)]) (N := ["cuts", "value", "some", "one"]) (sc := defScope S_is_picture) (by decide +kernel)) (fun _ _ _ _ _ => (pg_tupK (K := K) (n := 2) rfl rfl (pgs_cons (pg_name (i := 2) sc_is_picture.nd rfl (by first | exact Or.inl rfl | exact Or.inr rfl)) (pgs_cons (pg_name (i := 3) sc_is_picture.nd rfl (by first | exact Or.inl rfl | exact Or.inr rfl)) pgs_nil)))) (fun _ _ _ _ _ => pts_nil) (fun _ _ _ _ _ => (pe_cl c_is_seen_cell hr (by first | decide | omega) rfl (pa_cons (pv 2) (pa_cons (pv 3) pa_nil))))))) pa_nil)))))), ?_⟩
  refine start_to (σ := [some _, some _, none, none]) rfl ?_
  try dsimp only [cxOf]
  have hkl : kvs.length = cs.length := by have := Paired.length hP; simpa using this
  have hcl : cells.length = cs.length := ok.1
  have h3 := cok.2.2
  walk_at "go"
  rw [List.length_map, decide_eq_true (show ((cells.length : Nat) : Int) = ((kvs.length : Nat) : Int) by omega)]
  walk_at "go"
  cases row with
  | false =>
    have hbl := ok.2
    rw [if_neg (by show ¬ false = true; decide)] at hbl
    walk_at "go"
    refine lc_ds cells (fun _ => some true) (VR V.bl) (fun _ h => h) (by simp) (by rw [List.length_map]; show cells.length ≤ 2 ^ 24; omega) ?_ ?_
    · intro i y e H4 H5 D hb e4 nD hA4 hy N1 N2 k1 k2
      obtain ⟨rfl, hy⟩ := hy
      rw [List.getElem?_map, hb] at hy
      cases hy
      obtain ⟨bb, rfl⟩ := hbl e (List.mem_of_getElem? hb)
      rw [show Cell.v (.bl bb) = V.bl bb from rfl]
      walk_at "go"
      exact k1 _ _ true (Ext.refl _) rfl rfl
    · intro D H1 ys nD e1 hD hE1
      walk_at "go"
      refine all_true hD ?_ ?_
      · rw [each_val hE1]
        intro v m
        obtain ⟨b, hb, rfl⟩ := List.mem_map.mp m
        obtain ⟨_, _, e⟩ := List.mem_filterMap.mp hb
        cases e
        rfl
      · exact h _ e1
  | true =>
    have hrg := ok.2
    rw [if_pos rfl] at hrg
    walk_at "go"
    refine lock_in hd fun od => ?_
    have hb2 : upd H d (.frz od (.dK kvs)) b = some (.tup (cells.map Cell.v)) := by rw [upd_ne (ne_of_at hb hd fun z => nomatch z)]; exact hb
    have ha2 : upd H d (.frz od (.dK kvs)) a = some (.tup [.bl true, .ref b]) := by rw [upd_ne (ne_of_at ha hd fun z => nomatch z)]; exact ha
    have : At (upd H d (.frz od (.dK kvs))) b (.tup (cells.map Cell.v)) := ⟨hb2⟩
    have : At (upd H d (.frz od (.dK kvs))) a (.tup [.bl true, .ref b]) := ⟨ha2⟩
    walk_at "go"
    refine ⟨⟨d, od, kvs, rfl, upd_same⟩, ?_⟩
    walk_at "go"
    refine ⟨by rw [List.length_map]; omega, ?_⟩
    refine lcE_ds cs (fun _ => some true) (VR V.bl) (fun _ h => h) hkl (by show kvs.length ≤ 2 ^ 24; omega) ?_ ?_
    · intro i y cc H4 H5 D hb e4 nD hA4 hy N1 N2 k1 k2
      obtain ⟨T1, pr, y2, rfl, nT, rfl, hk, hy2⟩ := hy
      obtain ⟨c', hc', hk1, ac, hv, hac⟩ := keys_get hP (k := pr.1) (v := pr.2) hk
      rw [hb] at hc'
      cases hc'
      rw [List.getElem?_map] at hy2
      have hac2 : upd H d (.frz od (.dK kvs)) ac = some (.tup (cc.2.map V.int)) := by rw [upd_ne (ne_of_at hac hd fun z => nomatch z)]; exact hac
      have : CutAt H4 ac cc.2 := ⟨e4.at hac2, (cok.2.1 cc (List.mem_of_getElem? hb)).2⟩
      rw [show selV pr = V.ref ac from hv]
      walk_at "go"
      obtain ⟨e, he, hs⟩ : ∃ e, cells[i]? = some e ∧ SeenOk cc.2 e := by
        rcases hrg i cc hb with z | ⟨r, z, z2⟩
        · exact ⟨_, z, .inl rfl⟩
        · exact ⟨_, z, .inr ⟨r, rfl, z2⟩⟩
      rw [he] at hy2
      cases hy2
      exact ⟨ac, cc.2, e, rfl, inferInstance, rfl, hs, fun H' e1 => k1 _ _ true (Ext.trans ext_upd e1) rfl rfl⟩
    · intro D H1 ys nD e1 hD hE1
      refine unlkH hd nD e1 hD fun H5 nD e5 hD5 e6 => ?_
      walk_at "go"
      refine all_true hD5 ?_ ?_
      · rw [each_val hE1]
        intro v m
        obtain ⟨b, hb, rfl⟩ := List.mem_map.mp m
        obtain ⟨_, _, e⟩ := List.mem_filterMap.mp hb
        cases e
        rfl
      · exact h _ e5
end

end PB
namespace PB
open PySem PySem.Spec PyProof.Rows L2
local macro_rules | `(tactic| walk_at "rd") => `(tactic| (repeat refine red ?_))
local macro_rules | `(tactic| walk_at "go") => `(tactic| (repeat (first | refine red ?_ | ((with_reducible apply k_var); rfl) | refine k_new fun _ _ => ?_ | refine wp_and rfl ?_ | refine if_redT rfl ?_ | refine if_redF rfl ?_)))
local macro_rules | `(tactic| walk_at "ga") => `(tactic| (repeat (first | refine red ?_ | ((with_reducible apply k_var); rfl) | ((with_reducible apply k_aug); rfl) | refine k_new fun _ _ => ?_ | refine wp_and rfl ?_ | refine if_redT rfl ?_ | refine if_redF rfl ?_)))
local macro_rules | `(tactic| walk_at "ext") => `(tactic| (repeat (first | assumption | exact Ext.refl _ | refine Ext.newI ?_ | refine Ext.trans ?_ ‹Ext _ _›)))
local macro_rules | `(tactic| walk_at "rv") => `(tactic| (repeat (first | refine red ?_ | ((with_reducible apply k_var); rfl))))
/-! ### mixed_outcome, look_at_picture -/
theorem cutsOf_names {ts : List Tst} : (cutsOf ts).map (·.1) = namesOf ts := by
  unfold cutsOf
  rw [List.map_map]
  show (namesOf ts).map id = namesOf ts
  rw [List.map_id]
theorem fit_cuts {c : Cond} : FitC (cutsOf c.ts) c := fun t ht x hx => by
  rw [cutsOf_names]
  exact names_mem hx c.ts [] (.inl ht)
section
variable {w : World} {K : PySem.W.Frag} {mg : Str → Option Value} {base : Heap}
def pLookPic (cond v : V) (H : Hp) (Q : VK) : Prop := ∃ c p, CA H c cond ∧ Good c ∧ PictR H v p ∧ PictOk (cutsOf c.ts) p ∧ ∀ d H', Ext H H' → CutsIs H' d (cutsOf c.ts) → Q (.ref d) H'
theorem ok_look_at_picture  (T : Txt w K mg) : Cal PG w K mg base (14 + 1) "look_at_picture" (sp2 pLookPic) := by
  obtain ⟨fd, F⟩ := T.d_look_at_picture
  refine cal_mk F T.g_look_at_picture sc_look_at_picture (fun _ _ _ _ _ _ us hl => match us, hl with | [_, _], _ => rfl) fun cdv A outer s0 H vs Q E hr h => ?_
  obtain ⟨_, _, rfl, c, p, hc, good, hp, ok, h⟩ := h
  have c_cuts_of := (ok_cuts_of (base := base) T)
  have c_is_picture := (ok_is_picture (base := base) T).mono (show 5 ≤ 14 by omega)
  refine ⟨_, pss_cons (ps_set (i := 2) sc_look_at_picture.nd rfl (by first | exact Or.inl rfl | exact Or.inr rfl) (pe_cl c_cuts_of hr (by first | decide | omega) rfl (pa_cons (pv 0) pa_nil)))
      (pss_cons (ps_if (pt_not (pt_val (pe_cl c_is_picture hr (by first | decide | omega) rfl (pa_cons (pv 2) (pa_cons (pv 1) pa_nil))))) (pss_one ps_never) pss_nil)
      (pss_one (ps_ret (pv 2)))), ?_⟩
  refine start_to (σ := [some _, some _, none]) rfl ?_
  try dsimp only [cxOf]
  walk_at "go"
  refine ⟨c, hc, good, fun d H1 e1 cD => ?_⟩
  walk_at "go"
  refine ⟨d, cutsOf c.ts, p, rfl, cD, hp.mono e1, ok, fun H2 e2 => ?_⟩
  walk_at "go"
  exact h d H2 (e1.trans e2) inferInstance
def pMixedOut (cond one other count : V) (H : Hp) (Q : VK) : Prop := ∃ (c : Cond) (p q : Pict) (n : Nat), CA H c cond ∧ Good c ∧ PictR H one p ∧ PictR H other q ∧ PictOk (cutsOf c.ts) p ∧ PictOk (cutsOf c.ts) q ∧ count = .int (n : Nat) ∧ n ≤ 1000 ∧ ∀ H', Ext H H' → Q (.str (mixed (cutsOf c.ts) c p q n).s) H'
theorem ok_mixed_outcome  (T : Txt w K mg) : Cal PG w K mg base (28 + 1) "mixed_outcome" (sp4 pMixedOut) := by
  obtain ⟨fd, F⟩ := T.d_mixed_outcome
  refine cal_mk F T.g_mixed_outcome sc_mixed_outcome (fun _ _ _ _ _ _ us hl => match us, hl with | [_, _, _, _], _ => rfl) fun cdv A outer s0 H vs Q E hr h => ?_
  obtain ⟨v0, v1, v2, _, rfl, c, p, q, n, hc, good, hp, hq, okp, okq, rfl, hn, h⟩ := h
  have c_cuts_of := (ok_cuts_of (base := base) T).mono (show 14 ≤ 28 by omega)
  have c_is_picture := (ok_is_picture (base := base) T).mono (show 5 ≤ 28 by omega)
  have c_is_whole := (ok_is_whole (base := base) T).mono (show 1 ≤ 28 by omega)
  have c_mixed_by := (ok_mixed_by (base := base) T)
  have m_Picture := mak_Picture (base := base) T
  refine ⟨_, pss_cons (ps_set (i := 4) sc_mixed_outcome.nd rfl (by first | exact Or.inl rfl | exact Or.inr rfl) (pe_cl c_cuts_of hr (by first | decide | omega) rfl (pa_cons (pv 0) pa_nil)))
      (pss_cons (ps_for PassesOwn.never rfl (pi_seq (pe_tup (pa_cons (pv 1) (pa_cons (pv 2) pa_nil)))) (pg_name (i := 5) sc_mixed_outcome.nd rfl (by first | exact Or.inl rfl | exact Or.inr rfl)) (pss_one (ps_if (pt_not (pt_val (pe_cl c_is_picture hr (by first | decide | omega) rfl (pa_cons (pv 4) (pa_cons (pv 5) pa_nil))))) (pss_one ps_never) pss_nil)))
      (pss_cons (ps_if (PW.pt (pw_or (pt_not (pt_val (pe_cl c_is_whole hr (by first | decide | omega) rfl (pa_cons (pv 3) pa_nil)))) (pw_or1 (pt_cmpR op_lt (pv 3) (pe_int) (nomark _))))) (pss_one ps_never) pss_nil)
      (pss_one (ps_ret (pe_cl c_mixed_by hr (by first | decide | omega) rfl (pa_cons (pv 0) (pa_cons (pe_mkc m_Picture hr (by first | decide | omega) rfl (pa_cons (pv 4) (pa_cons (pv 1) pa_nil))) (pa_cons (pe_mkc m_Picture hr (by first | decide | omega) rfl (pa_cons (pv 4) (pa_cons (pv 2) pa_nil))) (pa_cons (pv 3) pa_nil))))))))), ?_⟩
  refine start_to (σ := [some _, some _, some _, some _, none, none]) rfl ?_
  try dsimp only [cxOf]
  walk_at "go"
  refine ⟨c, hc, good, fun d H1 e1 cD => ?_⟩
  walk_at "go"
  rename_i T0 nT
  have eT : Ext H1 (upd H1 T0 (.tup [v1, v2])) := ext_upd
  refine for_go (fun i σ' H' => (∃ x, σ' = [some v0, some v1, some v2, some (.int (n : Nat)), some (.ref d), x]) ∧ Ext (upd H1 T0 (.tup [v1, v2])) H') ⟨⟨none, rfl⟩, Ext.refl _⟩ (fun i σ' H' _ q o ho => q.2.at ho) ?_ ?_
  · rintro i x σ' H2 H3 hi ⟨⟨x0, rfl⟩, e2⟩ ⟨rfl, hx⟩
    have hpx : ∃ r, PictR H x r ∧ PictOk (cutsOf c.ts) r := by
      match i, hx with
      | 0, hx => cases hx; exact ⟨p, hp, okp⟩
      | 1, hx => cases hx; exact ⟨q, hq, okq⟩
    obtain ⟨r, hr1, okr⟩ := hpx
    have cD3 : CutsIs H3 d (cutsOf c.ts) := @cutsis_ext H1 _ d _ (eT.trans e2) cD
    walk_at "go"
    refine ⟨d, cutsOf c.ts, r, rfl, cD3, hr1.mono (e1.trans (eT.trans e2)), okr, fun H4 e4 => ?_⟩
    walk_at "go"
    exact ⟨⟨_, rfl⟩, e2.trans e4⟩
  · rintro σ' H2 ⟨⟨x0, rfl⟩, e2⟩
    have e02 : Ext H H2 := e1.trans (eT.trans e2)
    have cD2 : CutsIs H2 d (cutsOf c.ts) := @cutsis_ext H1 _ d _ (eT.trans e2) cD
    walk_at "go"
    refine ⟨cutsOf c.ts, p, cD2, hp.mono e02, okp, fun a H3 e3 hA => ?_⟩
    have cD3 : CutsIs H3 d (cutsOf c.ts) := @cutsis_ext H2 _ d _ e3 cD2
    walk_at "go"
    refine ⟨cutsOf c.ts, q, cD3, hq.mono (e02.trans e3), okq, fun b H4 e4 hB => ?_⟩
    walk_at "go"
    exact ⟨c, cutsOf c.ts, p, q, a, b, n, CA.mono ((e02.trans e3).trans e4) c _ hc, good, fit_cuts, rfl, rfl, hA.mono e4, hB, rfl, hn, fun H5 e5 => h _ (((e02.trans e3).trans e4).trans e5)⟩
end

end PB
namespace PB
open PySem PySem.Spec PyProof.Rows L2
local macro_rules | `(tactic| walk_at "rd") => `(tactic| (repeat refine red ?_))
local macro_rules | `(tactic| walk_at "go") => `(tactic| (repeat (first | refine red ?_ | ((with_reducible apply k_var); rfl) | refine k_new fun _ _ => ?_ | refine wp_and rfl ?_ | refine if_redT rfl ?_ | refine if_redF rfl ?_)))
local macro_rules | `(tactic| walk_at "ga") => `(tactic| (repeat (first | refine red ?_ | ((with_reducible apply k_var); rfl) | ((with_reducible apply k_aug); rfl) | refine k_new fun _ _ => ?_ | refine wp_and rfl ?_ | refine if_redT rfl ?_ | refine if_redF rfl ?_)))
local macro_rules | `(tactic| walk_at "ext") => `(tactic| (repeat (first | assumption | exact Ext.refl _ | refine Ext.newI ?_ | refine Ext.trans ?_ ‹Ext _ _›)))
local macro_rules | `(tactic| walk_at "rv") => `(tactic| (repeat (first | refine red ?_ | ((with_reducible apply k_var); rfl))))
/-! ### the past of a picture -/
def keepC : Cell → Bool
  | .non => false
  | .bl b => b
  | .rg _ => true
def addV (c : Str × List Int) : Cell → Int
  | .rg r => (wit c.2 r).getD 0
  | _ => 0
def hereOf (cuts : Cuts) (cells : List Cell) : List ((Str × List Int) × Cell) := (cuts.zip cells).filter fun q => keepC q.2
def addsOf (cuts : Cuts) (p : Pict) : Adds := (hereOf cuts p.cells).map fun q => (q.1.1, addV q.1 q.2)
theorem wit_lim {cs : List Int} {r : Nat} (h : CutOk cs) (hr : r ≤ 2 * cs.length) : 0 ≤ (wit cs r).getD 0 ∧ (wit cs r).getD 0 ≤ 99 := by
  rcases h with rfl | rfl | rfl | rfl | rfl | rfl | rfl | rfl <;> simp at hr
  · subst hr; decide
  all_goals (have : r = 0 ∨ r = 1 ∨ r = 2 ∨ r = 3 ∨ r = 4 ∨ r = 5 ∨ r = 6 := by omega)
  all_goals (rcases this with rfl | rfl | rfl | rfl | rfl | rfl | rfl <;> first | omega | decide)
theorem addsOf_ok {cuts : Cuts} {p : Pict} (cok : CutsOk cuts) (ok : PictOk cuts p) : AddsOk (addsOf cuts p) := by
  have hl : (addsOf cuts p).length ≤ cuts.length := by
    unfold addsOf hereOf
    rw [List.length_map]
    refine Nat.le_trans (List.length_filter_le _ _) ?_
    rw [List.length_zip]
    omega
  refine ⟨Nat.le_trans hl cok.2.2, fun q hq => ?_, ?_⟩
  · unfold addsOf hereOf at hq
    obtain ⟨⟨c, e⟩, hm, rfl⟩ := List.mem_map.mp hq
    obtain ⟨hm, hk⟩ := List.mem_filter.mp hm
    obtain ⟨i, hi, hz⟩ := List.getElem_of_mem hm
    have hz2 : (cuts.zip p.cells)[i]? = some (c, e) := by rw [List.getElem?_eq_getElem hi, hz]
    rw [List.getElem?_zip_eq_some] at hz2
    have hc := cok.2.1 c (List.mem_of_getElem? hz2.1)
    refine ⟨hc.1, ?_⟩
    have h2 := ok.2
    by_cases hr : p.row = true
    · rw [if_pos hr] at h2
      rcases h2 i c hz2.1 with z | ⟨r, z, z2, _⟩
      · rw [hz2.2] at z
        cases z
        exact absurd hk (by simp [keepC])
      · rw [hz2.2] at z
        cases z
        exact wit_lim hc.2 z2
    · rw [if_neg hr] at h2
      obtain ⟨b, rfl⟩ := h2 e (List.mem_of_getElem? hz2.2)
      show (0 : Int) ≤ 0 ∧ (0 : Int) ≤ 99
      omega
  · have hs : List.Sublist ((addsOf cuts p).map (·.1)) (cuts.map (·.1)) := by
      unfold addsOf hereOf
      rw [List.map_map]
      have e1 : ((·.1) ∘ fun q : (Str × List Int) × Cell => (q.1.1, addV q.1 q.2)) = (fun c : Str × List Int => c.1) ∘ Prod.fst := rfl
      rw [e1, ← List.map_map]
      refine List.Sublist.map _ ?_
      have h3 : List.Sublist (((cuts.zip p.cells).filter fun q => keepC q.2).map Prod.fst) ((cuts.zip p.cells).map Prod.fst) := List.filter_sublist.map _
      have h4 : (cuts.zip p.cells).map Prod.fst = cuts := zip_fst ok.1.symm
      rw [h4] at h3
      exact h3
    exact cok.1.sublist hs
theorem dsAdd_snoc : ∀ (xs : Adds) (i : Nat) (q : Str × Int), dsAdd i (xs ++ [q]) = dsAdd i xs ++ [.add (((i + xs.length : Nat) : Int) + 1) q.1 q.2]
  | [], i, q => rfl
  | x :: xs, i, q => by
    show Deed.add _ _ _ :: dsAdd (i + 1) (xs ++ [q]) = Deed.add _ _ _ :: (dsAdd (i + 1) xs ++ _)
    rw [dsAdd_snoc xs (i + 1) q, show i + 1 + xs.length = i + (x :: xs).length by rw [List.length_cons]; omega]
theorem cutOf_mem : ∀ {cuts : Cuts} {c : Str × List Int}, (cuts.map (·.1)).Nodup → c ∈ cuts → cutOf cuts c.1 = c.2
  | [], _, _, h => by cases h
  | d :: ds, c, hn, h => by
    rw [List.map_cons, List.nodup_cons] at hn
    unfold cutOf
    by_cases e : d.1 = c.1
    · rw [if_pos e]
      rcases List.mem_cons.mp h with z | z
      · rw [z]
      · exact absurd (List.mem_map.mpr ⟨c, z, e.symm⟩) hn.1
    · rw [if_neg e]
      rcases List.mem_cons.mp h with z | z
      · exact absurd (by rw [z]) e
      · exact cutOf_mem hn.2 z
theorem here_mem {cuts : Cuts} {cells : List Cell} {q : (Str × List Int) × Cell} (h : q ∈ hereOf cuts cells) : ∃ i : Nat, cuts[i]? = some q.1 ∧ cells[i]? = some q.2 ∧ keepC q.2 = true := by
  unfold hereOf at h
  obtain ⟨hm, hk⟩ := List.mem_filter.mp h
  obtain ⟨i, hi, hz⟩ := List.getElem_of_mem hm
  have hz2 : (cuts.zip cells)[i]? = some q := by rw [List.getElem?_eq_getElem hi, hz]
  obtain ⟨qc, qe⟩ := q
  rw [List.getElem?_zip_eq_some] at hz2
  exact ⟨i, hz2.1, hz2.2, hk⟩
def HereR (H : Hp) (v : V) (q : (Str × List Int) × Cell) : Prop := ∃ a, v = .ref a ∧ H a = some (.tup [.str q.1.1, q.2.v])
theorem HereR.mono {H H' : Hp} {v : V} {q : (Str × List Int) × Cell} (e : Ext H H') (h : HereR H v q) : HereR H' v q := by
  obtain ⟨a, x, y⟩ := h
  exact ⟨a, x, e.at y⟩
section
variable {w : World} {K : PySem.W.Frag} {mg : Str → Option Value} {base : Heap}
def pPastBy (K : PySem.W.Frag) (cuts told : V) (H : Hp) (Q : VK) : Prop := ∃ d cs p, cuts = .ref d ∧ CutsIs H d cs ∧ PictR H told p ∧ PictOk cs p ∧ ∀ x H', Ext H H' → PastOf K H' (.ref x) (addsOf cs p) p.row → Q (.ref x) H'
theorem ok_past_by  (T : Txt w K mg) : Cal PG w K mg base (9 + 1) "past_by" (sp2 (pPastBy K)) := by
  obtain ⟨fd, F⟩ := T.d_past_by
  refine cal_mk F T.g_past_by sc_past_by (fun _ _ _ _ _ _ us hl => match us, hl with | [_, _], _ => rfl) fun cdv A outer s0 H vs Q E hr h => ?_
  obtain ⟨_, _, rfl, d, cs, ⟨row, cells⟩, rfl, cD, ⟨a, b, rfl, ha, hb⟩, ok, h⟩ := h
  have c_witness := (ok_witness (base := base) T).mono (show 3 ≤ 9 by omega)
  have m_Past := mak_Past (base := base) T
  have : At H a (.tup [.bl row, .ref b]) := ⟨ha⟩
  have : At H b (.tup (cells.map Cell.v)) := ⟨hb⟩
  obtain ⟨⟨kvs, hd, hP⟩, cok⟩ := id cD
  have hkl : kvs.length = cs.length := by have := Paired.length hP; simpa using this
  have hcl : cells.length = cs.length := ok.1
  have h3 := cok.2.2
  refine ⟨_, pss_cons (ps_lock (ps_setLc (i := 2) (own := [("name", 4), ("cell", 5)]) rfl sc_past_by.nd rfl rfl (sw_true rfl rfl rfl (by decide +kernel)) ((pi_zipK (K := K) rfl rfl T.f_zip (pv 0) (pe_ix (ix_anyK (K := K) rfl) (pv 1) (pe_int) (fun _ _ => rfl)))) (blkOk_by (own := [("name", 4), ("cell", 5)]) (N := ["cuts", "told", "here", "deeds", "name", "cell"]) (sc := defScope S_past_by) (by decide +kernel)) (fun _ _ _ _ _ => (pg_tupK (K := K) (n := 2) rfl rfl (pgs_cons (pg_name (i := 4) sc_past_by.nd rfl (by first | exact Or.inl rfl | exact Or.inr rfl)) (pgs_cons (pg_name (i := 5) sc_past_by.nd rfl (by first | exact Or.inl rfl | exact Or.inr rfl)) pgs_nil)))) (fun _ _ _ _ _ => pts_one (PW.pt (pw_and (pt_cmpR op_notNK (pv 5) (pe_non) (nomark _)) (pw_and1 (pt_cmpR op_notF (pv 5) (pe_bl) (nomark _)))))) (fun _ _ _ _ _ => (pe_tup (pa_cons (pv 4) (pa_cons (pv 5) pa_nil))))))
      (pss_cons (ps_set (i := 3) sc_past_by.nd rfl (by first | exact Or.inl rfl | exact Or.inr rfl) (pe_lst pa_nil))
      (pss_cons (ps_for PassesOwn.never rfl (pi_seq (pv 2)) (pg_tupK (K := K) (n := 2) rfl rfl (pgs_cons (pg_name (i := 4) sc_past_by.nd rfl (by first | exact Or.inl rfl | exact Or.inr rfl)) (pgs_cons (pg_name (i := 5) sc_past_by.nd rfl (by first | exact Or.inl rfl | exact Or.inr rfl)) pgs_nil))) (pss_one (ps_expr (pe_bm PySem.F.plainAttrs_list PySem.F.slot_list_append PySem.F.type_list_append mt_append (pv 3) (pa_cons (pe_tup (pa_cons (pe_op op_add (pe_callB (call_lenK (K := K) rfl) (by rfl) T.f_len (by decide +kernel) (pa_cons (pv 3) pa_nil)) (pe_int)) (pa_cons (pe_str) (pa_cons (pv 4) (pa_cons (pe_ifExp (pt_val (pe_ix (ix_anyK (K := K) rfl) (pv 1) (pe_int) (fun _ _ => rfl))) (pe_cl c_witness hr (by first | decide | omega) rfl (pa_cons (pe_dget (hu_of hr) (pv 0) (pv 4) (fun _ _ => rfl)) (pa_cons (pv 5) pa_nil))) (pe_int)) pa_nil))))) pa_nil)))))
      (pss_cons (ps_if (pt_val (pe_ix (ix_anyK (K := K) rfl) (pv 1) (pe_int) (fun _ _ => rfl))) (pss_one (ps_expr (pe_bm PySem.F.plainAttrs_list PySem.F.slot_list_append PySem.F.type_list_append mt_append (pv 3) (pa_cons (pe_tup (pa_cons (pe_op op_add (pe_callB (call_lenK (K := K) rfl) (by rfl) T.f_len (by decide +kernel) (pa_cons (pv 3) pa_nil)) (pe_int)) (pa_cons (pe_str) (pa_cons (pe_int) (pa_cons (pe_tupF) pa_nil))))) pa_nil)))) pss_nil)
      (pss_one (ps_ret (pe_mkc m_Past hr (by first | decide | omega) rfl (pa_cons (pv 3) pa_nil))))))), ?_⟩
  refine start_to (σ := [some _, some _, none, none, none, none]) rfl ?_
  try dsimp only [cxOf]
  walk_at "go"
  refine lock_inS hd fun od => ?_
  have hb2 : upd H d (.frz od (.dK kvs)) b = some (.tup (cells.map Cell.v)) := by rw [upd_ne (ne_of_at hb hd fun z => nomatch z)]; exact hb
  have ha2 : upd H d (.frz od (.dK kvs)) a = some (.tup [.bl row, .ref b]) := by rw [upd_ne (ne_of_at ha hd fun z => nomatch z)]; exact ha
  have : At (upd H d (.frz od (.dK kvs))) b (.tup (cells.map Cell.v)) := ⟨hb2⟩
  have : At (upd H d (.frz od (.dK kvs))) a (.tup [.bl row, .ref b]) := ⟨ha2⟩
  walk_at "go"
  refine ⟨by rw [List.length_map]; omega, ?_⟩
  have hzl : kvs.length = (cs.zip cells).length := by rw [List.length_zip]; omega
  refine lcE_ds (cs.zip cells) (fun q => if keepC q.2 = true then some q else none) (fun H v q => HereR (Hid d H) v q) (fun e h => h.mono (Hid.mono e)) hzl (by show kvs.length ≤ 2 ^ 24; omega) ?_ ?_
  · intro i y q H4 H5 D hq e4 nD hA4 hy N1 N2 k1 k2
    obtain ⟨T1, pr, y2, rfl, nT, rfl, hk, hy2⟩ := hy
    rw [List.getElem?_zip_eq_some] at hq
    obtain ⟨c', hc', hk1, ac, hv, hac⟩ := keys_get hP (k := pr.1) (v := pr.2) hk
    rw [hq.1] at hc'
    cases hc'
    rw [List.getElem?_map, hq.2] at hy2
    cases hy2
    obtain ⟨acc, hA4⟩ := hA4
    have hd4 : H4 d = some (.frz od (.dK kvs)) := e4.at upd_same
    rw [show selK pr = V.str q.1.1 by show kV pr.1 = _; rw [hk1]; rfl]
    have fin : ∀ p, New (upd H4 T1 (.tup [V.str q.1.1, q.2.v])) p → keepC q.2 = true → N1 (.ref p) (upd (upd H4 T1 (.tup [V.str q.1.1, q.2.v])) p (.tup [V.str q.1.1, q.2.v])) := fun p hp hkp => by
      have hd5 : upd H4 T1 (.tup [V.str q.1.1, q.2.v]) d = some (.frz od (.dK kvs)) := Ext.at ext_upd hd4
      have hA5 : upd H4 T1 (.tup [V.str q.1.1, q.2.v]) D = some (.lst acc) := Ext.at ext_upd hA4
      refine k1 _ _ q (Ext.trans ext_upd ext_upd) (by rw [if_pos hkp]) ⟨p, rfl, Hid.at (Hid.at upd_same (ne_of_none_at hp.h hA5)) (ne_of_none_at hp.h hd5)⟩
    obtain ⟨qc, qe⟩ := q
    cases qe with
    | non =>
      rw [show Cell.v .non = V.non from rfl]
      walk_at "go"
      exact k2 _ ext_upd rfl
    | bl bb =>
      cases bb with
      | true =>
        rw [show Cell.v (.bl true) = V.bl true from rfl]
        walk_at "go"
        rename_i p hp
        exact fin p hp rfl
      | false =>
        rw [show Cell.v (.bl false) = V.bl false from rfl]
        walk_at "go"
        exact k2 _ ext_upd rfl
    | rg r =>
      rw [show Cell.v (.rg r) = V.int (r : Nat) from rfl]
      walk_at "go"
      rename_i p hp
      exact fin p hp rfl
  · intro D H4 ys nD e4 hD4 hE4
    walk_at "go"
    refine ⟨e4.at upd_same, ?_⟩
    have eU : Ext H (upd H4 d (.dK kvs)) := unlock hd e4
    have hDd : D ≠ d := ne_of_none_at nD.h upd_same
    have hDU : upd H4 d (.dK kvs) D = some (.lst ys) := by rw [upd_ne hDd]; exact hD4
    have e6 : Ext (Hid d H4) (upd H4 d (.dK kvs)) := hid_unlock d H4 _
    have hEU : Each HereR (upd H4 d (.dK kvs)) ys (hereOf cs cells) := by
      have := Paired.mapP hE4 fun v q z => HereR.mono ((Hid.mono (Hid.sub D H4)).trans e6) z
      have e : (cs.zip cells).filterMap (fun q => if keepC q.2 = true then some q else none) = hereOf cs cells := by
        unfold hereOf
        rw [← List.filterMap_eq_filter]
        congr 1
      rw [e] at this
      exact this
    generalize upd H4 d (.dK kvs) = HU at eU hDU hEU
    have : At HU D (.lst ys) := ⟨hDU⟩
    walk_at "go"
    rename_i D2 nD2
    have eD2 : Ext HU (upd HU D2 (.lst [])) := ext_upd
    refine for_go (fun j σ' H' => (∃ x y, σ' = [some (V.ref d), some (.ref a), some (.ref D), some (.ref D2), x, y]) ∧ Ext HU H' ∧ ∃ zs, H' D2 = some (.lst zs) ∧ zs.length = j ∧ Each DeedR H' zs (dsAdd 0 ((addsOf cs ⟨row, cells⟩).take j))) ⟨⟨none, none, rfl⟩, eD2, [], upd_same, rfl, .nil⟩ (fun j σ' H' _ q => sub_at (eD2.at hDU) (q.2.1.at hDU)) ?_ ?_
    · rintro j x σ' H1 H2 hj ⟨⟨x0, y0, rfl⟩, e1, zs, hz, hzl, hE⟩ ⟨rfl, hx⟩
      obtain ⟨q, hq, a1, rfl, ha1⟩ := hEU.get hx
      obtain ⟨i, hi1, hi2, hkp⟩ := here_mem (List.mem_of_getElem? hq)
      have hcm := List.mem_of_getElem? hi1
      obtain ⟨ac, hv, hac⟩ := cuts_val hP (x := q.1.1) (List.mem_map.mpr ⟨q.1, hcm, rfl⟩)
      have hac2 : CutAt H2 ac q.1.2 := ⟨by rw [← cutOf_mem cok.1 hcm]; exact e1.at (eU.at hac), (cok.2.1 _ hcm).2⟩
      have : DVal kvs (.str q.1.1) (some (.ref ac)) := ⟨_, rfl, hv⟩
      have : At H2 d (.dK kvs) := ⟨e1.at (eU.at hd)⟩
      have : At H2 a (.tup [.bl row, .ref b]) := ⟨e1.at (eU.at ha)⟩
      have : At H2 a1 (.tup [.str q.1.1, q.2.v]) := ⟨e1.at ha1⟩
      have : At H2 D2 (.lst zs) := ⟨hz⟩
      have hadd : (addsOf cs ⟨row, cells⟩)[j]? = some (q.1.1, addV q.1 q.2) := by
        unfold addsOf
        rw [List.getElem?_map, hq]
        rfl
      have hjl : j < (addsOf cs ⟨row, cells⟩).length := (List.getElem?_eq_some_iff.mp hadd).1
      have hds : dsAdd 0 ((addsOf cs ⟨row, cells⟩).take (j + 1)) = dsAdd 0 ((addsOf cs ⟨row, cells⟩).take j) ++ [.add ((j : Nat) + 1) q.1.1 (addV q.1 q.2)] := by
        rw [List.take_add_one, hadd]
        show dsAdd 0 (_ ++ [(q.1.1, addV q.1 q.2)]) = _
        rw [dsAdd_snoc, List.length_take, Nat.min_eq_left (by omega), Nat.zero_add]
      have h4 := ok.2
      have hal := (addsOf_ok cok ok).1
      have fin : ∀ H3, Ext H2 H3 → ∀ p, New H3 p → ∀ v : Int, v = addV q.1 q.2 → Ext HU (upd (upd H3 p (.tup [.int (((zs.length : Nat) : Int) + 1), .str "add", .str q.1.1, .int v])) D2 (.lst (zs ++ [.ref p]))) ∧
          ∃ zs', upd (upd H3 p (.tup [.int (((zs.length : Nat) : Int) + 1), .str "add", .str q.1.1, .int v])) D2 (.lst (zs ++ [.ref p])) D2 = some (.lst zs') ∧ zs'.length = j + 1 ∧
            Each DeedR (upd (upd H3 p (.tup [.int (((zs.length : Nat) : Int) + 1), .str "add", .str q.1.1, .int v])) D2 (.lst (zs ++ [.ref p]))) zs' (dsAdd 0 ((addsOf cs ⟨row, cells⟩).take (j + 1))) := by
        intro H3 e3 p hp v hv
        have hzp : upd H3 p (.tup [.int (((zs.length : Nat) : Int) + 1), .str "add", .str q.1.1, .int v]) D2 = some (.lst zs) := Ext.at ext_upd (e3.at hz)
        refine ⟨((e1.trans e3).trans ext_upd).mut nD2.h, _, upd_same, by rw [List.length_append, hzl]; rfl, ?_⟩
        rw [hds]
        have hpD : p ≠ D2 := ne_of_none_at hp.h (e3.at hz)
        refine Each.snoc (hE.mono fun u dd z => DeedR.mono (hid_unlock D2 _ _) ((DeedR.mono (e3.trans ext_upd) z).hid hzp ⟨fun _ z => (nomatch z), fun _ _ z => (nomatch z)⟩)) ?_
        refine ⟨p, rfl, ?_⟩
        rw [upd_ne hpD, upd_same, hzl, hv]
      cases row with
      | false =>
        rw [if_neg (by show ¬ false = true; decide)] at h4
        obtain ⟨bb, hbb⟩ := h4 q.2 (List.mem_of_getElem? hi2)
        have hav : addV q.1 q.2 = 0 := by rw [hbb]; rfl
        have hzn : zs.length < 2 ^ 24 := by omega
        walk_at "go"
        refine ⟨hzn, ?_⟩
        walk_at "go"
        rename_i p hp
        refine ⟨⟨_, _, rfl⟩, ?_⟩
        exact fin _ (Ext.refl _) p hp _ hav.symm
      | true =>
        rw [if_pos rfl] at h4
        rcases h4 i q.1 hi1 with z | ⟨r, z, z2, z3⟩
        · rw [show (⟨true, cells⟩ : Pict).cells[i]? = some q.2 from hi2] at z
          rw [show q.2 = Cell.non by injection z] at hkp
          cases hkp
        · rw [show (⟨true, cells⟩ : Pict).cells[i]? = some q.2 from hi2] at z
          have hqr : q.2 = Cell.rg r := by injection z
          have hzn : zs.length < 2 ^ 24 := by omega
          have : At H2 a1 (.tup [.str q.1.1, .int (r : Nat)]) := ⟨by have := e1.at ha1; rw [hqr] at this; exact this⟩
          have hav : addV q.1 q.2 = (wit q.1.2 r).getD 0 := by rw [hqr]; rfl
          walk_at "go"
          refine ⟨ac, q.1.2, r, rfl, hac2, rfl, z2, ?_⟩
          cases hw : wit q.1.2 r with
          | none => rw [hw] at z3; cases z3
          | some i0 =>
            rw [hw] at hav
            rw [show optV (some i0) = V.int i0 from rfl]
            walk_at "go"
            refine ⟨hzn, ?_⟩
            walk_at "go"
            rename_i p hp
            refine ⟨⟨_, _, rfl⟩, ?_⟩
            exact fin _ (Ext.refl _) p hp _ hav.symm
    · rintro σ' H1 ⟨⟨x0, y0, rfl⟩, e1, zs, hz, hzl, hE⟩
      have hal := addsOf_ok cok ok
      have hyl := hEU.len
      have hlen : (addsOf cs ⟨row, cells⟩).length = ys.length := by
        unfold addsOf
        rw [List.length_map]
        exact hyl.symm
      rw [List.take_of_length_le (by omega)] at hE
      have : At H1 D2 (.lst zs) := ⟨hz⟩
      have : At H1 a (.tup [.bl row, .ref b]) := ⟨e1.at (eU.at ha)⟩
      have := hal.1
      have hzn : zs.length < 2 ^ 24 := by omega
      walk_at "go"
      cases row with
      | false =>
        walk_at "go"
        refine ⟨zs, dsOf (addsOf cs ⟨false, cells⟩) false, hz, ?_, dsOf_ok hal, fun x H2 e2 hx => ?_⟩
        · unfold dsOf
          rw [if_neg (by decide), List.append_nil]
          exact hE
        · exact h x H2 (eU.trans (e1.trans e2)) ⟨hx.h, hal⟩
      | true =>
        walk_at "go"
        intro p0 o np hEmp
        have eP : Ext H1 (upd H1 p0 (.frz o (.tup []))) := ext_upd
        walk_at "go"
        rename_i p hp
        refine ⟨hzn, ?_⟩
        have hp0 : p ≠ p0 := ne_of_none_at hp.h upd_same
        have e8 : Ext H1 (upd (upd H1 p0 (.frz o (.tup []))) p (.tup [.int (((zs.length : Nat) : Int) + 1), .str "put", .int 0, .ref p0])) := eP.trans ext_upd
        have hz8 := e8.at hz
        have hpD : p ≠ D2 := ne_of_none_at hp.h (eP.at hz)
        have hEm8 : EmpT (upd (upd H1 p0 (.frz o (.tup []))) p (.tup [.int (((zs.length : Nat) : Int) + 1), .str "put", .int 0, .ref p0])) p0 := @emp_ext _ _ _ ext_upd hEmp
        have hp8 : upd (upd H1 p0 (.frz o (.tup []))) p (.tup [.int (((zs.length : Nat) : Int) + 1), .str "put", .int 0, .ref p0]) p = some (.tup [.int (((zs.length : Nat) : Int) + 1), .str "put", .int 0, .ref p0]) := upd_same
        generalize upd (upd H1 p0 (.frz o (.tup []))) p (.tup [.int (((zs.length : Nat) : Int) + 1), .str "put", .int 0, .ref p0]) = H8 at e8 hz8 hEm8 hp8
        have eD8 : Ext HU (upd H8 D2 (.lst (zs ++ [.ref p]))) := (e1.trans e8).mut nD2.h
        walk_at "go"
        refine ⟨zs ++ [.ref p], dsOf (addsOf cs ⟨true, cells⟩) true, upd_same, ?_, dsOf_ok hal, fun x H2 e2 hx => ?_⟩
        · unfold dsOf
          rw [if_pos rfl]
          refine Each.snoc (hE.mono fun u dd z => DeedR.mono (hid_unlock D2 _ _) ((DeedR.mono e8 z).hid hz8 ⟨fun _ z => (nomatch z), fun _ _ z => (nomatch z)⟩)) ?_
          refine ⟨p, p0, rfl, ?_, @emp_ext _ _ _ (hid_unlock D2 _ _) (EmpT.hid hEm8 hz8 ⟨fun _ z => (nomatch z), fun _ _ z => (nomatch z)⟩)⟩
          rw [upd_ne hpD, hp8, hzl, hlen]
        · exact h x H2 (eU.trans (eD8.trans e2)) ⟨hx.h, hal⟩
end

end PB
namespace PB
open PySem PySem.Spec PyProof.Rows L2
local macro_rules | `(tactic| walk_at "rd") => `(tactic| (repeat refine red ?_))
local macro_rules | `(tactic| walk_at "go") => `(tactic| (repeat (first | refine red ?_ | ((with_reducible apply k_var); rfl) | refine k_new fun _ _ => ?_ | refine wp_and rfl ?_ | refine if_redT rfl ?_ | refine if_redF rfl ?_)))

local macro_rules | `(tactic| walk_at "ext") => `(tactic| (repeat (first | assumption | exact Ext.refl _ | refine Ext.newI ?_ | refine Ext.trans ?_ ‹Ext _ _›)))
local macro_rules | `(tactic| walk_at "rv") => `(tactic| (repeat (first | refine red ?_ | ((with_reducible apply k_var); rfl))))
/-! ### setdefault; dicts whose keys are tuples -/
section
variable {X : Cx} {K : PySem.W.Frag} {σ : L2.St} {H : Hp} {Q : VK} {D : Ends} {td ty tv ta tx : TE} {a : Addr} {kvs : List (Key × V)} {x y v : V}
def kSd (a : Addr) (y z : V) (H : Hp) (Q : VK) : Prop := ∃ (kvs : List (Key × V)) (k : Key), H a = some (.dK kvs) ∧ y = kV k ∧ kvs.length < sizeLine ∧ (∀ v, valV kvs k = some v → Q v H) ∧ (valV kvs k = none → Q z (upd H a (.dK (putK kvs k z))))
instance : Red (tDSetd td ty tx σ H Q) (td σ H fun x H1 => kIsD x H1 fun a => ty σ H1 fun y H2 => tx σ H2 fun z H3 => kSd a y z H3 Q) := ⟨fun h => h⟩
theorem isd_t {A : Addr → Prop} {kvs : List (List Key × V)} (s : H a = some (.dT kvs)) (h : A a) : kIsD (.ref a) H A := ⟨a, rfl, .inr ⟨kvs, .inl s⟩, h⟩
theorem kdi_t {f : Bool → Bool} {b : Addr} {ks : List Key} {kvs : List (List Key × V)} (s : H a = some (.dT kvs)) (hb : H b = some (.tup (ks.map kV))) (h : Q (.bl (f (valV kvs ks).isSome)) H) : kDI f (.ref b) (.ref a) H Q :=
  ⟨a, _, rfl, DGet.t s hb, h⟩
theorem kdg_t {b : Addr} {ks : List Key} {v : V} {kvs : List (List Key × V)} (s : H a = some (.dT kvs)) (hb : H b = some (.tup (ks.map kV))) (hv : valV kvs ks = some v) (h : Q v H) : kDG (.ref b) (.ref a) H Q :=
  ⟨a, v, rfl, hv ▸ DGet.t s hb, h⟩
theorem kput_t {b : Addr} {ks : List Key} {N : Hp → Prop} {kvs : List (List Key × V)} (s : H a = some (.dT kvs)) (hb : H b = some (.tup (ks.map kV))) (hl : kvs.length < sizeLine) (h : N (upd H a (.dT (putK kvs ks v)))) : kPut v (.ref a) (.ref b) H N :=
  ⟨a, _, rfl, DPut.t s hb hl, h⟩
end

end PB
namespace PB
open PySem PySem.Spec PyProof.Rows L2
local macro_rules | `(tactic| walk_at "rd") => `(tactic| (repeat refine red ?_))
local macro_rules | `(tactic| walk_at "go") => `(tactic| (repeat (first | refine red ?_ | ((with_reducible apply k_var); rfl) | refine k_new fun _ _ => ?_ | refine wp_and rfl ?_ | refine if_redT rfl ?_ | refine if_redF rfl ?_)))

local macro_rules | `(tactic| walk_at "ext") => `(tactic| (repeat (first | assumption | exact Ext.refl _ | refine Ext.newI ?_ | refine Ext.trans ?_ ‹Ext _ _›)))
local macro_rules | `(tactic| walk_at "rv") => `(tactic| (repeat (first | refine red ?_ | ((with_reducible apply k_var); rfl))))
/-! ### truth of lists -/
def kTru (K : PySem.W.Frag) (x : V) (H : Hp) (Q : Bool → Hp → Prop) : Prop := ∃ k, TruV K x H k ∧ Q k H
def tTru (K : PySem.W.Frag) (te : TE) : TT := fun σ H Q => te σ H fun x H' => kTru K x H' Q
theorem pt_truK {X : Cx} {K : PySem.W.Frag} {a : Expr} {ta : TE} (h : X.K = K) (ha : PE X a ta) (he : ∀ whole, isTrue a X.env whole = (do let v ← whole; standAt a.pos; holding [v] (truthy v)) := by intro _; rfl) : PT X a (tTru K ta) := by
  subst h
  exact pt_truth ha he
section
variable {K : PySem.W.Frag} {σ : L2.St} {H : Hp} {Q : Bool → Hp → Prop} {ta : TE} {a : Addr} {xs : List V}
instance : Red (tTru K ta σ H Q) (ta σ H fun x H1 => kTru K x H1 Q) := ⟨id⟩
instance [s : LstA K H a xs] : Red (kTru K (.ref a) H Q) (Q (!xs.isEmpty) H) := ⟨fun h => ⟨_, .inl ⟨xs, s.h, rfl⟩, h⟩⟩
end
theorem seq_stop {s t : TS} {D : Ends} {σ : L2.St} {H : Hp} (h : tSeq s t D σ H) : tSeq s t D σ H := h
theorem seq_cut {s t : TS} {D : Ends} {σ : L2.St} {H : Hp} (P : L2.St → Hp → Prop) (h2 : ∀ σ' H', P σ' H' → t D σ' H') (h1 : ∀ N : L2.St → Hp → Prop, (∀ σ' H', P σ' H' → N σ' H') → s { D with nx := N } σ H) : tSeq s t D σ H := h1 (t D) h2

end PB
namespace PB
open PySem PySem.Spec PyProof.Rows L2
local macro_rules | `(tactic| walk_at "rd") => `(tactic| (repeat refine red ?_))
local macro_rules | `(tactic| walk_at "go") => `(tactic| (repeat (first | refine red ?_ | ((with_reducible apply k_var); rfl) | refine k_new fun _ _ => ?_ | refine wp_and rfl ?_ | refine if_redT rfl ?_ | refine if_redF rfl ?_)))
local macro_rules | `(tactic| walk_at "ga") => `(tactic| (repeat (first | refine red ?_ | ((with_reducible apply k_var); rfl) | ((with_reducible apply k_aug); rfl) | refine k_new fun _ _ => ?_ | refine wp_and rfl ?_ | refine if_redT rfl ?_ | refine if_redF rfl ?_)))
local macro_rules | `(tactic| walk_at "gq") => `(tactic| (repeat ((fail_if_success (with_reducible refine seq_stop ?_)); (first | refine red ?_ | ((with_reducible apply k_var); rfl) | refine k_new fun _ _ => ?_ | refine wp_and rfl ?_ | refine if_redT rfl ?_ | refine if_redF rfl ?_))))
local macro_rules | `(tactic| walk_at "ext") => `(tactic| (repeat (first | assumption | exact Ext.refl _ | refine Ext.newI ?_ | refine Ext.trans ?_ ‹Ext _ _›)))
local macro_rules | `(tactic| walk_at "rv") => `(tactic| (repeat (first | refine red ?_ | ((with_reducible apply k_var); rfl))))
/-! ### plain laws: runs coupled -/
def cntF (f g : Tst → Ans) (n i : Nat) (t : Tst) : Ans := if i < n then f t else g t
mutual
theorem run_pre (f : Nat → Tst → Ans) : ∀ (c : Cond) (l : List Ans), l <+: (run f c l).2
  | .t q, l => List.prefix_append _ _
  | .not c, l => run_pre f c l
  | .seq w cs, l => runL_pre f w cs l
theorem runL_pre (f : Nat → Tst → Ans) (w : Bool) : ∀ (cs : List Cond) (l : List Ans), l <+: (runL f w cs l).2
  | [], l => List.prefix_refl _
  | c :: cs, l => by
    have h1 := run_pre f c l
    have h2 := runL_pre f w cs (run f c l).2
    unfold runL
    split
    · exact h1.trans h2
    · exact h1
end
section
variable {f g : Tst → Ans} {n : Nat} {F : List Ans}
theorem pre_len {α : Type} {l m : List α} (h : l <+: m) : l.length ≤ m.length := List.IsPrefix.length_le h
mutual
theorem run_mix : ∀ (c : Cond) (l : List Ans), (l.length < n → (run (fun _ t => f t) c l).2 <+: F) →
    run (mixF (F.take n) g) c l = run (cntF f g n) c l ∧ (n ≤ (run (cntF f g n) c l).2.length ∨ run (cntF f g n) c l = run (fun _ t => f t) c l)
  | .t q, l, h => by
    by_cases hl : l.length < n
    · have hp := h hl
      have e1 : (F.take n)[l.length]? = some (f q) := by
        obtain ⟨r, hr⟩ := hp
        rw [← hr, List.getElem?_take, if_pos hl]
        show ((l ++ [f q]) ++ r)[l.length]? = _
        rw [List.append_assoc, List.getElem?_append_right (Nat.le_refl _), Nat.sub_self]
        rfl
      refine ⟨?_, .inr ?_⟩
      · simp only [run, mixF, cntF]
        rw [e1, if_pos hl]
        rfl
      · simp only [run, cntF]
        rw [if_pos hl]
    · have e1 : (F.take n)[l.length]? = none := by
        rw [List.getElem?_eq_none]
        rw [List.length_take]
        omega
      refine ⟨?_, .inl ?_⟩
      · simp only [run, mixF, cntF]
        rw [e1, if_neg hl]
        rfl
      · simp only [run, cntF]
        rw [List.length_append]
        omega
  | .not c, l, h => by
    obtain ⟨a, b⟩ := run_mix c l h
    refine ⟨by simp only [run]; rw [a], b.imp id fun b => by simp only [run]; rw [b]⟩
  | .seq w cs, l, h => runL_mix w cs l h
theorem runL_mix (w : Bool) : ∀ (cs : List Cond) (l : List Ans), (l.length < n → (runL (fun _ t => f t) w cs l).2 <+: F) →
    runL (mixF (F.take n) g) w cs l = runL (cntF f g n) w cs l ∧ (n ≤ (runL (cntF f g n) w cs l).2.length ∨ runL (cntF f g n) w cs l = runL (fun _ t => f t) w cs l)
  | [], l, h => ⟨rfl, .inr rfl⟩
  | c :: cs, l, h => by
    obtain ⟨a, b⟩ := run_mix c l fun hl => by
      refine List.IsPrefix.trans ?_ (h hl)
      conv => rhs; unfold runL
      split
      · exact runL_pre _ _ _ _
      · exact List.prefix_refl _
    unfold runL
    rw [a]
    by_cases he : (run (cntF f g n) c l).1 = cont w
    · rw [if_pos he, if_pos he]
      have hk : (run (cntF f g n) c l).2.length < n → (runL (fun _ t => f t) w cs (run (cntF f g n) c l).2).2 <+: F := fun hl => by
        rcases b with b | b
        · omega
        · have hl2 : l.length < n := by
            have := pre_len (run_pre (cntF f g n) c l)
            omega
          have := h hl2
          unfold runL at this
          rw [← b, if_pos he] at this
          exact this
      obtain ⟨a2, b2⟩ := runL_mix w cs _ hk
      refine ⟨a2, ?_⟩
      rcases b2 with b2 | b2
      · exact .inl b2
      · rcases b with b | b
        · left
          have := pre_len (runL_pre (cntF f g n) w cs (run (cntF f g n) c l).2)
          omega
        · right
          rw [b2, ← b, if_pos he]
    · rw [if_neg he, if_neg he]
      refine ⟨rfl, ?_⟩
      rcases b with b | b
      · exact .inl b
      · right
        rw [← b, if_neg he]
end
mutual
theorem run_short : ∀ (c : Cond) (l : List Ans), (run (fun _ t => f t) c l).2.length ≤ n → run (cntF f g n) c l = run (fun _ t => f t) c l
  | .t q, l, h => by
    simp only [run, cntF] at h ⊢
    rw [if_pos (by simp at h; omega)]
  | .not c, l, h => by
    simp only [run] at h ⊢
    rw [run_short c l h]
  | .seq w cs, l, h => runL_short w cs l h
theorem runL_short (w : Bool) : ∀ (cs : List Cond) (l : List Ans), (runL (fun _ t => f t) w cs l).2.length ≤ n → runL (cntF f g n) w cs l = runL (fun _ t => f t) w cs l
  | [], l, h => rfl
  | c :: cs, l, h => by
    have h1 : (run (fun _ t => f t) c l).2.length ≤ n := by
      refine Nat.le_trans (pre_len ?_) h
      conv => rhs; unfold runL
      split
      · exact runL_pre _ _ _ _
      · exact List.prefix_refl _
    unfold runL
    rw [run_short c l h1]
    by_cases he : (run (fun _ t => f t) c l).1 = cont w
    · rw [if_pos he, if_pos he]
      unfold runL at h
      rw [if_pos he] at h
      exact runL_short w cs _ h
    · rw [if_neg he, if_neg he]
end
theorem cnt_same : cntF f f n = fun _ t => f t := by
  funext i t
  unfold cntF
  split <;> rfl
end
mutual
theorem run_congr {f g : Nat → Tst → Ans} : ∀ (c : Cond) (l : List Ans), (∀ t, t ∈ c.ts → ∀ i, f i t = g i t) → run f c l = run g c l
  | .t q, l, h => by
    simp only [run]
    rw [h q (by simp [Cond.ts])]
  | .not c, l, h => by
    simp only [run]
    rw [run_congr c l h]
  | .seq w cs, l, h => runL_congr w cs l h
theorem runL_congr {f g : Nat → Tst → Ans} (w : Bool) : ∀ (cs : List Cond) (l : List Ans), (∀ t, t ∈ tsL cs → ∀ i, f i t = g i t) → runL f w cs l = runL g w cs l
  | [], l, h => rfl
  | c :: cs, l, h => by
    unfold runL
    rw [run_congr c l fun t ht => h t (by unfold tsL; exact List.mem_append_left _ ht)]
    split
    · exact runL_congr w cs _ fun t ht => h t (by unfold tsL; exact List.mem_append_right _ ht)
    · rfl
end
/-- the mixture by its count alone -/
def mixN (cuts : Cuts) (c : Cond) (p q : Pict) (n : Nat) : Ans := (run (cntF (pa cuts p) (pa cuts q) n) c []).1
theorem mixed_eq {cuts : Cuts} {c : Cond} {p q : Pict} {n : Nat} : mixed cuts c p q n = mixN cuts c p q n := by
  exact congrArg Prod.fst (run_mix (f := pa cuts p) c [] fun _ => List.prefix_refl _).1
theorem mixed_long {cuts : Cuts} {c : Cond} {p q : Pict} {n : Nat} (h : (ansOf cuts c p).length ≤ n) : mixed cuts c p q n = outOf cuts c p := by
  rw [mixed_eq]
  unfold mixN outOf
  rw [run_short c [] h]
  rfl
theorem mixed_self {cuts : Cuts} {c : Cond} {p : Pict} {n : Nat} : mixed cuts c p p n = outOf cuts c p := by
  rw [mixed_eq]
  unfold mixN outOf
  rw [cnt_same]
  rfl
/-! ### the first two that are parted -/
def isParted (cuts : Cuts) (c : Cond) (p q : Pict) (n : Nat) : Prop := mixed cuts c p q n ≠ outOf cuts c p ∧ mixed cuts c p q n ≠ outOf cuts c q
instance {cuts : Cuts} {c : Cond} {p q : Pict} {n : Nat} : Decidable (isParted cuts c p q n) := by unfold isParted; infer_instance
def findQ (cuts : Cuts) (c : Cond) (p : Pict) (n : Nat) (qs : List Pict) : Option Pict := qs.find? fun q => decide (isParted cuts c p q n)
def findP (cuts : Cuts) (c : Cond) (n : Nat) (ps qs : List Pict) : Option (Pict × Pict) := ps.findSome? fun p => (findQ cuts c p n qs).map fun q => (p, q)
def findN (cuts : Cuts) (c : Cond) (ps : List Pict) (ns : List Nat) : Option (Pict × Pict × Nat) := ns.findSome? fun n => (findP cuts c n ps ps).map fun r => (r.1, r.2, n)
theorem findQ_long {cuts : Cuts} {c : Cond} {p : Pict} {n : Nat} {qs : List Pict} (h : (ansOf cuts c p).length ≤ n) : findQ cuts c p n qs = none := by
  unfold findQ
  rw [List.find?_eq_none]
  intro q _ z
  rw [decide_eq_true_iff] at z
  exact z.1 (mixed_long h)
theorem findP_long {cuts : Cuts} {c : Cond} {n : Nat} {ps qs : List Pict} (h : ∀ p, p ∈ ps → (ansOf cuts c p).length ≤ n) : findP cuts c n ps qs = none := by
  unfold findP
  rw [List.findSome?_eq_none_iff]
  intro p hp
  rw [findQ_long (h p hp)]
  rfl
theorem findN_long {cuts : Cuts} {c : Cond} {ps : List Pict} {a b : Nat} (h : ∀ p, p ∈ ps → (ansOf cuts c p).length ≤ a) (hab : a ≤ b) : findN cuts c ps (List.range' 1 b) = findN cuts c ps (List.range' 1 (a - 1)) := by
  have e : List.range' 1 b = List.range' 1 (a - 1) ++ List.range' (1 + (a - 1)) (b - (a - 1)) := by
    rw [List.range'_append_1]
    congr 1
    omega
  unfold findN
  rw [e, List.findSome?_append]
  have hn : List.findSome? (fun n => (findP cuts c n ps ps).map fun r => (r.1, r.2, n)) (List.range' (1 + (a - 1)) (b - (a - 1))) = none := by
    rw [List.findSome?_eq_none_iff]
    intro n hn
    rw [List.mem_range'_1] at hn
    rw [findP_long fun p hp => by have := h p hp; omega]
    rfl
  rw [hn]
  simp
/-! ### plain laws: the firsts by their late outcome -/
def late (cuts : Cuts) (c : Cond) (pos : List Ans) (q : Pict) : Ans := (run (mixF pos (pa cuts q)) c []).1
structure FirstsOk (cuts : Cuts) (c : Cond) (pos : List Ans) (qs : List Pict) (j : Nat) (lf : List (Ans × Nat)) : Prop where
  snd : ∀ e, e ∈ lf → e.2 < j ∧ ∃ q, qs[e.2]? = some q ∧ late cuts c pos q = e.1 ∧ late cuts c pos q ≠ outOf cuts c q
  cov : ∀ (i : Nat) (q : Pict), i < j → qs[i]? = some q → late cuts c pos q ≠ outOf cuts c q → ∃ e, e ∈ lf ∧ e.1 = late cuts c pos q ∧ e.2 ≤ i
  nd : (lf.map (·.1)).Nodup
section
variable {cuts : Cuts} {c : Cond} {pos : List Ans} {qs : List Pict} {j : Nat} {lf : List (Ans × Nat)}
theorem FirstsOk.nil : FirstsOk cuts c pos qs 0 [] := ⟨fun e h => (nomatch h), fun i q h => absurd h (Nat.not_lt_zero i), List.nodup_nil⟩
theorem FirstsOk.skip (h : FirstsOk cuts c pos qs j lf) {q : Pict} (hq : qs[j]? = some q) (hs : late cuts c pos q = outOf cuts c q ∨ late cuts c pos q ∈ lf.map (·.1)) : FirstsOk cuts c pos qs (j + 1) lf := by
  refine ⟨fun e he => ⟨by have := (h.snd e he).1; omega, (h.snd e he).2⟩, fun i r hi hr hne => ?_, h.nd⟩
  by_cases z : i = j
  · subst z
    rw [hq] at hr
    cases hr
    rcases hs with hs | hs
    · exact absurd hs hne
    · obtain ⟨e, he, e2⟩ := List.mem_map.mp hs
      exact ⟨e, he, e2, by have := (h.snd e he).1; omega⟩
  · exact h.cov i r (by omega) hr hne
theorem FirstsOk.snoc (h : FirstsOk cuts c pos qs j lf) {q : Pict} (hq : qs[j]? = some q) (hne : late cuts c pos q ≠ outOf cuts c q) (hn : ¬ late cuts c pos q ∈ lf.map (·.1)) : FirstsOk cuts c pos qs (j + 1) (lf ++ [(late cuts c pos q, j)]) := by
  refine ⟨fun e he => ?_, fun i r hi hr hne2 => ?_, ?_⟩
  · rcases List.mem_append.mp he with he | he
    · exact ⟨by have := (h.snd e he).1; omega, (h.snd e he).2⟩
    · rw [List.mem_singleton] at he
      subst he
      exact ⟨Nat.lt_succ_self j, q, hq, rfl, hne⟩
  · by_cases z : i = j
    · subst z
      rw [hq] at hr
      cases hr
      exact ⟨_, List.mem_append_right _ (List.mem_singleton.mpr rfl), rfl, Nat.le_refl _⟩
    · obtain ⟨e, he, e2⟩ := h.cov i r (by omega) hr hne2
      exact ⟨e, List.mem_append_left _ he, e2⟩
  · rw [List.map_append, List.nodup_append]
    refine ⟨h.nd, by simp, fun a ha b hb => ?_⟩
    rw [List.map_cons, List.map_nil, List.mem_singleton] at hb
    subst hb
    intro z
    rw [z] at ha
    exact hn ha
def places (o : Ans) (lf : List (Ans × Nat)) : List Nat := (lf.filter fun e => !decide (e.1 = o)).map (·.2)
theorem mem_places {o : Ans} {m : Nat} (h : m ∈ places o lf) : ∃ e, e ∈ lf ∧ e.1 ≠ o ∧ e.2 = m := by
  unfold places at h
  obtain ⟨e, he, rfl⟩ := List.mem_map.mp h
  obtain ⟨h1, h2⟩ := List.mem_filter.mp he
  exact ⟨e, h1, by simpa using h2, rfl⟩
theorem places_mem {o : Ans} {e : Ans × Nat} (h : e ∈ lf) (h2 : e.1 ≠ o) : e.2 ∈ places o lf := by
  unfold places
  exact List.mem_map.mpr ⟨e, List.mem_filter.mpr ⟨h, by simpa using h2⟩, rfl⟩
theorem places_nil {p : Pict} {n : Nat} (h : FirstsOk cuts c ((ansOf cuts c p).take n) qs qs.length lf) (hn : places (outOf cuts c p) lf = []) : findQ cuts c p n qs = none := by
  unfold findQ
  rw [List.find?_eq_none]
  intro q hq z
  rw [decide_eq_true_iff] at z
  obtain ⟨i, hi, hz⟩ := List.getElem_of_mem hq
  obtain ⟨e, he, e1, _⟩ := h.cov i q hi (by rw [List.getElem?_eq_getElem hi, hz]) z.2
  have := places_mem (o := outOf cuts c p) he (by rw [e1]; exact z.1)
  rw [hn] at this
  cases this
theorem find_at {α : Type} {P : α → Bool} : ∀ {xs : List α} {m : Nat} {x : α}, xs[m]? = some x → P x = true → (∀ (i : Nat) (y : α), i < m → xs[i]? = some y → P y = false) → xs.find? P = some x
  | [], _, _, h, _, _ => by simp at h
  | y :: ys, 0, x, h, hp, _ => by
    simp at h
    subst h
    rw [List.find?_cons, hp]
  | y :: ys, m + 1, x, h, hp, hl => by
    rw [List.find?_cons, hl 0 y (Nat.succ_pos _) rfl]
    exact find_at (m := m) (by simpa using h) hp fun i z hi hz => hl (i + 1) z (by omega) (by simpa using hz)
theorem places_min {p : Pict} {n m : Nat} (h : FirstsOk cuts c ((ansOf cuts c p).take n) qs qs.length lf) (hm : m ∈ places (outOf cuts c p) lf) (hmin : ∀ x, x ∈ places (outOf cuts c p) lf → m ≤ x) : ∃ q, qs[m]? = some q ∧ findQ cuts c p n qs = some q := by
  obtain ⟨e, he, e1, e2⟩ := mem_places hm
  obtain ⟨_, q, hq, hl, hne⟩ := h.snd e he
  rw [e2] at hq
  refine ⟨q, hq, find_at hq ?_ ?_⟩
  · rw [decide_eq_true_iff]
    exact ⟨by show late cuts c _ q ≠ _; rw [hl]; exact e1, hne⟩
  · intro i y hi hy
    rw [decide_eq_false_iff_not]
    intro z
    have hil : i < qs.length := (List.getElem?_eq_some_iff.mp hy).1
    obtain ⟨e', he', e3, e4⟩ := h.cov i y hil hy z.2
    have := hmin _ (places_mem (o := outOf cuts c p) he' (by rw [e3]; exact z.1))
    omega
end
/-! ### outcomes unlike -/
def anAcc (acc : List Ans) (a : Ans) : List Ans := if a ∈ acc then acc else acc ++ [a]
theorem anAcc_inv : ∀ (l acc : List Ans), acc.Nodup → (l.foldl anAcc acc).Nodup ∧ ∀ a, a ∈ l.foldl anAcc acc ↔ a ∈ acc ∨ a ∈ l
  | [], acc, h => ⟨h, fun a => by simp⟩
  | b :: l, acc, h => by
    have h2 : (anAcc acc b).Nodup := by
      unfold anAcc
      split
      · exact h
      · rename_i hb
        rw [List.nodup_append]
        refine ⟨h, by simp, fun x hx y hy => ?_⟩
        rw [List.mem_singleton] at hy
        subst hy
        exact fun z => hb (by rw [← z]; exact hx)
    obtain ⟨i1, i2⟩ := anAcc_inv l _ h2
    refine ⟨i1, fun a => ?_⟩
    rw [List.foldl_cons, i2]
    unfold anAcc
    rw [List.mem_cons]
    split
    · rename_i hb
      constructor
      · rintro (x | x)
        · exact .inl x
        · exact .inr (.inr x)
      · rintro (x | x | x)
        · exact .inl x
        · subst x; exact .inl hb
        · exact .inr x
    · rw [List.mem_append, List.mem_singleton, or_assoc]
theorem over_iff {a : Ans} {l : List Ans} : 1 < ((a :: l).foldl anAcc []).length ↔ (a :: l).filter (fun b => !decide (b = a)) ≠ [] := by
  obtain ⟨h1, h2⟩ := anAcc_inv (a :: l) [] List.nodup_nil
  have ha : a ∈ (a :: l).foldl anAcc [] := (h2 a).mpr (.inr List.mem_cons_self)
  generalize (a :: l).foldl anAcc [] = D at h1 h2 ha
  constructor
  · intro hl z
    have hall : ∀ b, b ∈ D → b = a := fun b hb => by
      have hb2 := ((h2 b).mp hb).resolve_left (by simp)
      have : ¬ (!decide (b = a)) = true := fun y => by
        have : b ∈ (a :: l).filter (fun b => !decide (b = a)) := List.mem_filter.mpr ⟨hb2, y⟩
        rw [z] at this
        cases this
      simpa using this
    match D, hl, h1, hall with
    | x :: y :: r, _, h1, hall =>
      have hx := hall x (by simp)
      have hy := hall y (by simp)
      rw [List.nodup_cons] at h1
      exact h1.1 (by rw [hx, hy]; simp)
  · intro hne
    obtain ⟨b, r, hb⟩ : ∃ b r, (a :: l).filter (fun b => !decide (b = a)) = b :: r := by
      cases hf : (a :: l).filter (fun b => !decide (b = a)) with
      | nil => exact absurd hf hne
      | cons b r => exact ⟨b, r, rfl⟩
    have hm : b ∈ (a :: l).filter (fun b => !decide (b = a)) := by rw [hb]; simp
    obtain ⟨m1, m2⟩ := List.mem_filter.mp hm
    have hba : b ≠ a := by simpa using m2
    have hbD := (h2 b).mpr (.inr m1)
    match D, ha, hbD with
    | [x], ha, hbD =>
      rw [List.mem_singleton] at ha hbD
      exact absurd (hbD.trans ha.symm) hba
    | _ :: _ :: _, _, _ => simp
/-! ### the pictures are pictures -/
theorem row_mem {α : Type} : ∀ (n : Nat) (css : List (List α)), css.length = n → ∀ row, row ∈ rowsOf css → ∀ (i : Nat) (cs : List α), css[i]? = some cs → ∃ e, row[i]? = some e ∧ e ∈ cs := by
  intro n
  induction n with
  | zero =>
    intro css h row hr i cs hi
    have e : css = [] := List.length_eq_zero_iff.mp h
    subst e
    simp at hi
  | succ n ih =>
    intro css h row hr i cs hi
    have hne : css ≠ [] := fun z => by rw [z] at h; simp at h
    have hdl : css.dropLast.length = n := by rw [List.length_dropLast]; omega
    rw [← List.dropLast_concat_getLast hne] at hr hi
    rw [rowsOf_snoc] at hr
    obtain ⟨r1, h1, h2⟩ := List.mem_flatMap.mp hr
    obtain ⟨o, ho, rfl⟩ := List.mem_map.mp h2
    have hr1 := row_len h1
    by_cases hin : i < n
    · rw [List.getElem?_append_left (by omega)] at hi
      obtain ⟨e, he, hm⟩ := ih css.dropLast hdl r1 h1 i cs hi
      exact ⟨e, by rw [List.getElem?_append_left (by omega)]; exact he, hm⟩
    · rw [List.getElem?_append_right (by omega)] at hi
      have hz : i - css.dropLast.length = 0 := by
        cases hk : i - css.dropLast.length with
        | zero => rfl
        | succ k => rw [hk] at hi; simp at hi
      rw [hz] at hi
      simp at hi
      subst hi
      exact ⟨o, by rw [List.getElem?_append_right (by omega), show i - r1.length = 0 by omega]; rfl, ho⟩
theorem pics_ok {cuts : Cuts} {p : Pict} (h : p ∈ picsOf cuts) : PictOk cuts p := by
  unfold picsOf at h
  rcases List.mem_append.mp h with h | h
  · obtain ⟨r, hr, rfl⟩ := List.mem_map.mp h
    have hl := row_len hr
    refine ⟨by rw [hl]; unfold bareCh; rw [List.length_map], ?_⟩
    rw [if_neg (show ¬ false = true by decide)]
    intro e he
    obtain ⟨i, hi, hz⟩ := List.getElem_of_mem he
    have hi1 : i < r.length := hi
    have hi2 : i < (bareCh cuts).length := by rw [← hl]; exact hi1
    obtain ⟨e2, h1, h2⟩ := row_mem _ _ rfl r hr i _ (List.getElem?_eq_getElem hi2)
    have hz2 : r[i] = e := hz
    rw [List.getElem?_eq_getElem hi1, hz2] at h1
    cases h1
    have h3 : (bareCh cuts)[i] ∈ bareCh cuts := List.getElem_mem hi2
    generalize (bareCh cuts)[i] = ch at h2 h3
    unfold bareCh at h3
    obtain ⟨_, _, rfl⟩ := List.mem_map.mp h3
    simp at h2
    rcases h2 with z | z
    · exact ⟨_, z⟩
    · exact ⟨_, z⟩
  · obtain ⟨r, hr, rfl⟩ := List.mem_map.mp h
    have hl := row_len hr
    refine ⟨by rw [hl]; unfold fullCh; rw [List.length_map], ?_⟩
    rw [if_pos rfl]
    intro i c hc
    obtain ⟨e, h1, h2⟩ := row_mem _ _ rfl r hr i (.non :: (regs c.2).map Cell.rg) (by unfold fullCh; rw [List.getElem?_map, hc]; rfl)
    rcases List.mem_cons.mp h2 with z | z
    · subst z; exact .inl h1
    · obtain ⟨k, hk, rfl⟩ := List.mem_map.mp z
      unfold regs at hk
      obtain ⟨k1, k2⟩ := List.mem_filter.mp hk
      rw [List.mem_range] at k1
      exact .inr ⟨k, h1, by omega, k2⟩
theorem rows_ne {α : Type} : ∀ (n : Nat) (css : List (List α)), css.length = n → (∀ cs, cs ∈ css → cs ≠ []) → rowsOf css ≠ [] := by
  intro n
  induction n with
  | zero =>
    intro css h _
    have e : css = [] := List.length_eq_zero_iff.mp h
    subst e
    simp [rowsOf]
  | succ n ih =>
    intro css h hall
    have hne : css ≠ [] := fun z => by rw [z] at h; simp at h
    have h1 := ih css.dropLast (by rw [List.length_dropLast]; omega) fun cs hcs => hall cs ((List.dropLast_sublist css).subset hcs)
    have h2 := hall _ (List.getLast_mem hne)
    rw [← List.dropLast_concat_getLast hne, rowsOf_snoc]
    intro z
    rw [List.flatMap_eq_nil_iff] at z
    obtain ⟨r, rs, hr⟩ := List.exists_cons_of_ne_nil h1
    have := z r (by rw [hr]; simp)
    rw [List.map_eq_nil_iff] at this
    exact h2 this
theorem pics_ne {cuts : Cuts} : picsOf cuts ≠ [] := by
  unfold picsOf
  intro z
  have := (List.append_eq_nil_iff.mp z).1
  rw [List.map_eq_nil_iff] at this
  refine rows_ne _ (bareCh cuts) rfl ?_ this
  intro cs hcs
  unfold bareCh at hcs
  obtain ⟨_, _, rfl⟩ := List.mem_map.mp hcs
  simp
/-! ### plain laws: what a table of a picture answers -/
def valA : Adds → Str → Option Int
  | [], _ => none
  | q :: r, x => if q.1 = x then some q.2 else valA r x
def cmpA (o : Option Int) (f : Int → Bool) : Ans := match o with
  | none => .fault
  | some u => yn (f u)
def adF (adds : Adds) (row : Bool) : Tst → Ans
  | .row => yn row
  | .has x => yn (valA adds x).isSome
  | .eq x v => cmpA (if row = true then valA adds x else none) fun u => decide (u = v)
  | .less x v => cmpA (if row = true then valA adds x else none) fun u => decide (u < v)
def cellA (c : Str × List Int) : Cell → Option Int
  | e => if keepC e = true then some (addV c e) else none
theorem valA_none : ∀ {cuts : Cuts} {cells : List Cell} {x : Str}, ¬ x ∈ cuts.map (·.1) → valA ((hereOf cuts cells).map fun q => (q.1.1, addV q.1 q.2)) x = none
  | [], cells, x, _ => by simp [hereOf, valA]
  | c :: cs, [], x, _ => by simp [hereOf, valA]
  | c :: cs, e :: es, x, h => by
    rw [List.map_cons, List.mem_cons, not_or] at h
    have ih := valA_none (cells := es) h.2
    unfold hereOf at ih ⊢
    rw [List.zip_cons_cons, List.filter_cons]
    split
    · rw [List.map_cons]
      unfold valA
      rw [if_neg (fun z => h.1 z.symm)]
      exact ih
    · exact ih
theorem valA_adds : ∀ {cuts : Cuts} {cells : List Cell} {x : Str}, (cuts.map (·.1)).Nodup → cells.length = cuts.length → valA ((hereOf cuts cells).map fun q => (q.1.1, addV q.1 q.2)) x = if keepC (cellOf cuts cells x) = true then some (addV (x, cutOf cuts x) (cellOf cuts cells x)) else none
  | [], [], x, _, _ => by simp [hereOf, valA, cellOf, keepC]
  | c :: cs, e :: es, x, hn, hl => by
    rw [List.map_cons, List.nodup_cons] at hn
    unfold cellOf cutOf
    by_cases hx : c.1 = x
    · rw [if_pos hx, if_pos hx]
      have e0 : hereOf (c :: cs) (e :: es) = if keepC e = true then (c, e) :: hereOf cs es else hereOf cs es := by
        unfold hereOf
        rw [List.zip_cons_cons, List.filter_cons]
      rw [e0]
      by_cases hk : keepC e = true
      · rw [if_pos hk, if_pos hk, List.map_cons]
        unfold valA
        rw [if_pos hx]
        subst hx
        rfl
      · rw [if_neg hk, if_neg hk]
        exact valA_none (by rw [← hx]; exact hn.1)
    · rw [if_neg hx, if_neg hx]
      have ih := valA_adds (x := x) hn.2 (show es.length = cs.length by simpa using hl)
      have e0 : hereOf (c :: cs) (e :: es) = if keepC e = true then (c, e) :: hereOf cs es else hereOf cs es := by
        unfold hereOf
        rw [List.zip_cons_cons, List.filter_cons]
      rw [e0]
      split
      · rw [List.map_cons]
        conv => lhs; unfold valA
        rw [if_neg hx]
        exact ih
      · exact ih
/-- the regions and their witnesses: all of the eight lists -/
theorem wit_all {cs : List Int} {r : Nat} {u v : Int} (h : CutOk cs) (hr : r ≤ 2 * cs.length) (hw : wit cs r = some u) : regn cs u = r ∧ (v ∈ cs → decide (u = v) = decide (r = regn cs v) ∧ decide (u < v) = decide (r < regn cs v)) := by
  have key : ∀ cs, CutOk cs → ∀ r, r ≤ 6 → r ≤ 2 * cs.length → ∀ u, wit cs r = some u → regn cs u = r ∧ ∀ v, v ∈ cs → decide (u = v) = decide (r = regn cs v) ∧ decide (u < v) = decide (r < regn cs v) := by
    intro cs h
    rcases h with rfl | rfl | rfl | rfl | rfl | rfl | rfl | rfl
    all_goals
      intro r hr6 hr2 u hu
      simp only [List.length_nil, List.length_cons] at hr2
      have h7 : r = 0 ∨ r = 1 ∨ r = 2 ∨ r = 3 ∨ r = 4 ∨ r = 5 ∨ r = 6 := by omega
      rcases h7 with rfl | rfl | rfl | rfl | rfl | rfl | rfl <;> first | omega | (simp [wit] at hu; subst hu; refine ⟨by decide, ?_⟩; intro v hv; simp at hv; rcases hv with rfl | rfl | rfl <;> decide) | (simp [wit] at hu; subst hu; refine ⟨by decide, ?_⟩; intro v hv; simp at hv; rcases hv with rfl | rfl <;> decide) | (simp [wit] at hu; subst hu; refine ⟨by decide, ?_⟩; intro v hv; simp at hv; subst hv; decide) | (simp [wit] at hu; subst hu; exact ⟨by decide, fun v hv => nomatch hv⟩) | (simp [wit] at hu)
  exact ⟨(key cs h r (by rcases h with rfl | rfl | rfl | rfl | rfl | rfl | rfl | rfl <;> simp at hr <;> omega) hr u hw).1, fun hv => (key cs h r (by rcases h with rfl | rfl | rfl | rfl | rfl | rfl | rfl | rfl <;> simp at hr <;> omega) hr u hw).2 v hv⟩
theorem adF_pa {cuts : Cuts} {p : Pict} {t : Tst} (cok : CutsOk cuts) (ok : PictOk cuts p) (kn : KnowsT cuts t) (vl : ∀ x v, t = .eq x v ∨ t = .less x v → v ∈ cutOf cuts x) : adF (addsOf cuts p) p.row t = pa cuts p t := by
  have hA : ∀ x, valA (addsOf cuts p) x = if keepC (cellOf cuts p.cells x) = true then some (addV (x, cutOf cuts x) (cellOf cuts p.cells x)) else none := fun x => valA_adds cok.1 ok.1
  cases t with
  | row => rfl
  | has x =>
    simp only [adF, pa]
    rw [hA]
    cases cellOf cuts p.cells x with
    | non => rfl
    | bl b => cases b <;> rfl
    | rg r => rfl
  | eq x v =>
    have hx := kn x rfl
    simp only [adF, pa]
    rw [hA]
    by_cases hr : p.row = true
    · rw [if_pos hr]
      rcases cell_rg ok hr hx with z | ⟨r, z, h1, h2⟩
      · rw [z]; rfl
      · rw [z]
        cases hw : wit (cutOf cuts x) r with
        | none => rw [hw] at h2; cases h2
        | some u =>
          have := ((wit_all (v := v) (cutOf_ok cok) h1 hw).2 (vl x v (.inl rfl))).1
          show yn (decide ((wit (cutOf cuts x) r).getD 0 = v)) = yn (decide (r = regn (cutOf cuts x) v))
          rw [hw]
          exact congrArg yn this
    · rw [if_neg hr]
      obtain ⟨b, hb⟩ := cell_bl ok (by simpa using hr) hx
      rw [hb]
      rfl
  | less x v =>
    have hx := kn x rfl
    simp only [adF, pa]
    rw [hA]
    by_cases hr : p.row = true
    · rw [if_pos hr]
      rcases cell_rg ok hr hx with z | ⟨r, z, h1, h2⟩
      · rw [z]; rfl
      · rw [z]
        cases hw : wit (cutOf cuts x) r with
        | none => rw [hw] at h2; cases h2
        | some u =>
          have := ((wit_all (v := v) (cutOf_ok cok) h1 hw).2 (vl x v (.inr rfl))).2
          show yn (decide ((wit (cutOf cuts x) r).getD 0 < v)) = yn (decide (r < regn (cutOf cuts x) v))
          rw [hw]
          exact congrArg yn this
    · rw [if_neg hr]
      obtain ⟨b, hb⟩ := cell_bl ok (by simpa using hr) hx
      rw [hb]
      rfl
/-- the picture of a past -/
def backOf (cuts : Cuts) (adds : Adds) (row : Bool) : Pict := ⟨row, if row = true then cuts.map fun c => match valA adds c.1 with
  | none => .non
  | some v => .rg (regn c.2 v) else cuts.map fun c => .bl (valA adds c.1).isSome⟩
theorem cellOf_at : ∀ {cuts : Cuts} {cells : List Cell} {i : Nat} {c : Str × List Int} {e : Cell}, (cuts.map (·.1)).Nodup → cuts[i]? = some c → cells[i]? = some e → cellOf cuts cells c.1 = e
  | [], _, _, _, _, _, h, _ => by simp at h
  | d :: ds, [], _, _, _, _, _, h => by simp at h
  | d :: ds, f :: fs, 0, c, e, _, h1, h2 => by
    simp at h1 h2
    subst h1 h2
    unfold cellOf
    rw [if_pos rfl]
  | d :: ds, f :: fs, i + 1, c, e, hn, h1, h2 => by
    rw [List.map_cons, List.nodup_cons] at hn
    have h1' : ds[i]? = some c := by simpa using h1
    have h2' : fs[i]? = some e := by simpa using h2
    unfold cellOf
    rw [if_neg fun z => hn.1 (by rw [z]; exact List.mem_map.mpr ⟨c, List.mem_of_getElem? h1', rfl⟩)]
    exact cellOf_at hn.2 h1' h2'
theorem cutOf_mem2 : ∀ {cuts : Cuts} {c : Str × List Int}, (cuts.map (·.1)).Nodup → c ∈ cuts → cutOf cuts c.1 = c.2
  | [], _, _, h => by cases h
  | d :: ds, c, hn, h => by
    rw [List.map_cons, List.nodup_cons] at hn
    unfold cutOf
    by_cases e : d.1 = c.1
    · rw [if_pos e]
      rcases List.mem_cons.mp h with z | z
      · rw [z]
      · exact absurd (List.mem_map.mpr ⟨c, z, e.symm⟩) hn.1
    · rw [if_neg e]
      rcases List.mem_cons.mp h with z | z
      · exact absurd (by rw [z]) e
      · exact cutOf_mem2 hn.2 z
theorem back_eq {cuts : Cuts} {p : Pict} (cok : CutsOk cuts) (ok : PictOk cuts p) : backOf cuts (addsOf cuts p) p.row = p := by
  have hA : ∀ x, valA (addsOf cuts p) x = if keepC (cellOf cuts p.cells x) = true then some (addV (x, cutOf cuts x) (cellOf cuts p.cells x)) else none := fun x => valA_adds cok.1 ok.1
  obtain ⟨row, cells⟩ := p
  unfold backOf
  congr 1
  have hl : cells.length = cuts.length := ok.1
  cases row with
  | false =>
    rw [if_neg (show ¬ false = true by decide)]
    refine List.ext_getElem? fun i => ?_
    rw [List.getElem?_map]
    cases hc : cuts[i]? with
    | none =>
      rw [List.getElem?_eq_none_iff] at hc
      rw [List.getElem?_eq_none (by omega)]
      rfl
    | some c =>
      have hi := (List.getElem?_eq_some_iff.mp hc).1
      have he : cells[i]? = some cells[i] := List.getElem?_eq_getElem (by omega)
      have hco := cellOf_at cok.1 hc he
      obtain ⟨b, hb⟩ := cell_bl ok rfl (List.mem_map.mpr ⟨c, List.mem_of_getElem? hc, rfl⟩)
      have hb2 : cellOf cuts cells c.1 = .bl b := hb
      rw [he]
      show some (Cell.bl (valA (addsOf cuts ⟨false, cells⟩) c.1).isSome) = _
      rw [hA]
      rw [show (⟨false, cells⟩ : Pict).cells = cells from rfl, ← hco, hb2]
      cases b <;> rfl
  | true =>
    rw [if_pos rfl]
    refine List.ext_getElem? fun i => ?_
    rw [List.getElem?_map]
    cases hc : cuts[i]? with
    | none =>
      rw [List.getElem?_eq_none_iff] at hc
      rw [List.getElem?_eq_none (by omega)]
      rfl
    | some c =>
      have hi := (List.getElem?_eq_some_iff.mp hc).1
      have he : cells[i]? = some cells[i] := List.getElem?_eq_getElem (by omega)
      have hco := cellOf_at cok.1 hc he
      have hcu := cutOf_mem2 cok.1 (List.mem_of_getElem? hc)
      have hcr := cell_rg ok rfl (List.mem_map.mpr ⟨c, List.mem_of_getElem? hc, rfl⟩)
      rw [hcu] at hcr
      rw [he, Option.map_some, hA]
      rw [show (⟨true, cells⟩ : Pict).cells = cells from rfl] at hcr ⊢
      rw [hco] at hcr ⊢
      rcases hcr with z | ⟨r, z, h1, h2⟩
      · rw [z]; rfl
      · rw [z, hcu]
        cases hw : wit c.2 r with
        | none => rw [hw] at h2; cases h2
        | some u =>
          have hv : addV (c.1, c.2) (.rg r) = u := by
            show (wit c.2 r).getD 0 = u
            rw [hw]; rfl
          show some (Cell.rg (regn c.2 (addV (c.1, c.2) (.rg r)))) = _
          rw [hv, (wit_all (v := 0) (cok.2.1 c (List.mem_of_getElem? hc)).2 h1 hw).1]
theorem val_cut {ts : List Tst} {t : Tst} (h : ∀ t, t ∈ ts → t.ok) (ht : t ∈ ts) {x : Str} {v : Int} (he : t = .eq x v ∨ t = .less x v) : v ∈ cutOf (cutsOf ts) x := by
  have hn : t.name = some x := by rcases he with rfl | rfl <;> rfl
  have hv : t.val = some v := by rcases he with rfl | rfl <;> rfl
  have hx : x ∈ namesOf ts := names_mem hn ts [] (.inl ht)
  have hm : (x, cutFor ts x) ∈ cutsOf ts := List.mem_map.mpr ⟨x, hx, rfl⟩
  have e := cutOf_mem2 (c := (x, cutFor ts x)) (cutsOf_ok h).1 hm
  rw [show cutOf (cutsOf ts) x = cutFor ts x from e]
  unfold cutFor
  refine List.mem_filter.mpr ⟨?_, ?_⟩
  · rcases (h t ht).2 v hv with rfl | rfl | rfl <;> simp
  · rw [decide_eq_true_iff]
    unfold valsFor
    refine List.mem_filterMap.mpr ⟨t, ht, ?_⟩
    rw [if_pos hn, hv]
/-- the tables answer as the pictures do -/
theorem run_tab {c : Cond} {p q : Pict} {n : Nat} (good : Good c) (okp : PictOk (cutsOf c.ts) p) (okq : PictOk (cutsOf c.ts) q) : (run (cntF (adF (addsOf (cutsOf c.ts) p) p.row) (adF (addsOf (cutsOf c.ts) q) q.row) n) c []).1 = mixed (cutsOf c.ts) c p q n := by
  rw [mixed_eq]
  unfold mixN
  have hts := ts_ok good.1
  rw [run_congr c [] (g := cntF (pa (cutsOf c.ts) p) (pa (cutsOf c.ts) q) n)]
  intro t ht i
  unfold cntF
  rw [adF_pa (cutsOf_ok hts) okp (fit_cuts t ht) fun x v e => val_cut hts ht e, adF_pa (cutsOf_ok hts) okq (fit_cuts t ht) fun x v e => val_cut hts ht e]
theorem run_tab1 {c : Cond} {p : Pict} (good : Good c) (okp : PictOk (cutsOf c.ts) p) : (run (fun _ t => adF (addsOf (cutsOf c.ts) p) p.row t) c []).1 = outOf (cutsOf c.ts) c p := by
  unfold outOf
  have hts := ts_ok good.1
  rw [run_congr c [] (g := pa0 (cutsOf c.ts) p)]
  intro t ht i
  exact adF_pa (cutsOf_ok hts) okp (fit_cuts t ht) fun x v e => val_cut hts ht e

end PB
namespace PB
open PySem PySem.Spec PyProof.Rows L2
local macro_rules | `(tactic| walk_at "rd") => `(tactic| (repeat refine red ?_))
local macro_rules | `(tactic| walk_at "go") => `(tactic| (repeat (first | refine red ?_ | ((with_reducible apply k_var); rfl) | refine k_new fun _ _ => ?_ | refine wp_and rfl ?_ | refine if_redT rfl ?_ | refine if_redF rfl ?_)))
local macro_rules | `(tactic| walk_at "ga") => `(tactic| (repeat (first | refine red ?_ | ((with_reducible apply k_var); rfl) | ((with_reducible apply k_aug); rfl) | refine k_new fun _ _ => ?_ | refine wp_and rfl ?_ | refine if_redT rfl ?_ | refine if_redF rfl ?_)))
local macro_rules | `(tactic| walk_at "gq") => `(tactic| (repeat ((fail_if_success (with_reducible refine seq_stop ?_)); (first | refine red ?_ | ((with_reducible apply k_var); rfl) | refine k_new fun _ _ => ?_ | refine wp_and rfl ?_ | refine if_redT rfl ?_ | refine if_redF rfl ?_))))
local macro_rules | `(tactic| walk_at "ext") => `(tactic| (repeat (first | assumption | exact Ext.refl _ | refine Ext.newI ?_ | refine Ext.trans ?_ ‹Ext _ _›)))
local macro_rules | `(tactic| walk_at "rv") => `(tactic| (repeat (first | refine red ?_ | ((with_reducible apply k_var); rfl))))
/-! ### past_of, picture_of -/
theorem fm_unit (adds : Adds) : adds.filterMap (fun q => some ((.inr q.1 : Key), ())) = adds.map fun q => ((.inr q.1 : Key), ()) := by
  induction adds with
  | nil => rfl
  | cons q r ih => rw [List.filterMap_cons, ih]; rfl
theorem nodup_inrA {adds : Adds} (h : (adds.map (·.1)).Nodup) : ((adds.map fun q => ((.inr q.1 : Key), ())).map (·.1)).Nodup := by
  have := nodup_inr h
  rw [List.map_map] at this ⊢
  exact this
theorem foldA {adds : Adds} (h : (adds.map (·.1)).Nodup) : adds.foldl (dcF fun q => some ((.inr q.1 : Key), ())) [] = adds.map fun q => ((.inr q.1 : Key), ()) := by
  rw [fold_nodup]
  · rw [List.nil_append, fm_unit]
  · rw [List.nil_append, fm_unit]
    exact nodup_inrA h
theorem unit_all {H : Hp} : ∀ {kvs : List (Key × V)} {ds : List (Key × Unit)}, Paired (KR (fun _ v (_ : Unit) => v = V.bl true) H) kvs ds → ∀ p, p ∈ kvs → p.2 = V.bl true
  | _, _, .nil, p, h => by cases h
  | _, _, .cons a t, p, h => by
    rcases List.mem_cons.mp h with z | z
    · rw [z]; exact a.2
    · exact unit_all t p z
theorem val_unit {H : Hp} {x : Str} : ∀ {kvs : List (Key × V)} {adds : Adds}, Paired (KR (fun _ v (_ : Unit) => v = V.bl true) H) kvs (adds.map fun q => ((.inr q.1 : Key), ())) → valV kvs (.inr x) = (valA adds x).map fun _ => V.bl true
  | kvs, [], h => by
    cases h
    rfl
  | kvs, q :: r, h => by
    rw [List.map_cons] at h
    cases h with
    | @cons p _ ps _ h t =>
      have ih := val_unit (x := x) t
      obtain ⟨h1, h2⟩ := h
      unfold valA
      by_cases z : q.1 = x
      · rw [if_pos z]
        subst z
        simp only [valV, List.find?_cons]
        rw [decide_eq_true (show p.1 = Sum.inr q.1 from h1)]
        exact congrArg some h2
      · rw [if_neg z, ← ih]
        simp only [valV, List.find?_cons]
        rw [decide_eq_false (fun y : p.1 = Sum.inr x => z (by have := h1.symm.trans y; injection this))]
theorem val_row {x : Str} : ∀ {adds : Adds}, valV (adds.map fun p => ((.inr p.1 : Key), V.int p.2)) (.inr x) = (valA adds x).map V.int
  | [] => rfl
  | q :: r => by
    have ih := val_row (x := x) (adds := r)
    unfold valA
    rw [List.map_cons]
    simp only [valV, List.find?_cons] at ih ⊢
    by_cases z : q.1 = x
    · subst z
      rw [if_pos rfl, decide_eq_true (show (Sum.inr q.1 : Key) = Sum.inr q.1 from rfl)]
      rfl
    · rw [if_neg z, decide_eq_false (fun y : (Sum.inr q.1 : Key) = Sum.inr x => z (by injection y))]
      exact ih
section
variable {w : World} {K : PySem.W.Frag} {mg : Str → Option Value} {base : Heap}
def pPastFrom (K : PySem.W.Frag) (cond v : V) (H : Hp) (Q : VK) : Prop := ∃ c p, CA H c cond ∧ Good c ∧ PictR H v p ∧ PictOk (cutsOf c.ts) p ∧ ∀ x H', Ext H H' → PastOf K H' (.ref x) (addsOf (cutsOf c.ts) p) p.row → Q (.ref x) H'
theorem ok_past_of  (T : Txt w K mg) : Cal PG w K mg base (15 + 1) "past_of" (sp2 (pPastFrom K)) := by
  obtain ⟨fd, F⟩ := T.d_past_of
  refine cal_mk F T.g_past_of sc_past_of (fun _ _ _ _ _ _ us hl => match us, hl with | [_, _], _ => rfl) fun cdv A outer s0 H vs Q E hr h => ?_
  obtain ⟨_, _, rfl, c, p, hc, good, hp, ok, h⟩ := h
  have c_look_at_picture := (ok_look_at_picture (base := base) T)
  have c_past_by := (ok_past_by (base := base) T).mono (show 10 ≤ 15 by omega)
  refine ⟨_, pss_one (ps_ret (pe_cl c_past_by hr (by first | decide | omega) rfl (pa_cons (pe_cl c_look_at_picture hr (by first | decide | omega) rfl (pa_cons (pv 0) (pa_cons (pv 1) pa_nil))) (pa_cons (pv 1) pa_nil)))), ?_⟩
  refine start_to (σ := [some _, some _]) rfl ?_
  try dsimp only [cxOf]
  walk_at "go"
  refine ⟨c, p, hc, good, hp, ok, fun d H1 e1 cD => ?_⟩
  walk_at "go"
  exact ⟨d, cutsOf c.ts, p, rfl, cD, hp.mono e1, ok, fun x H2 e2 hx => h x H2 (e1.trans e2) hx⟩
def pPicOf (K : PySem.W.Frag) (cond past key t : V) (H : Hp) (Q : VK) : Prop := ∃ c a adds row, CA H c cond ∧ Good c ∧ past = .ref a ∧ PastOf K H (.ref a) adds row ∧ key = .int 0 ∧ t = .int 999 ∧ ∀ v H', Ext H H' → PictR H' v (backOf (cutsOf c.ts) adds row) → Q v H'
theorem ok_picture_of  (T : Txt w K mg) : Cal PG w K mg base (14 + 1) "picture_of" (sp4 (pPicOf K)) := by
  obtain ⟨fd, F⟩ := T.d_picture_of
  refine cal_mk F T.g_picture_of sc_picture_of (fun _ _ _ _ _ _ us hl => match us, hl with | [_, _, _, _], _ => rfl) fun cdv A outer s0 H vs Q E hr h => ?_
  obtain ⟨_, _, _, _, rfl, c, a, adds, row, hc, good, rfl, pa, rfl, rfl, h⟩ := h
  have c_look_at_asked := (ok_look_at_asked (base := base) T)
  have c_columns_at := (ok_columns_at (base := base) T).mono (show 5 ≤ 14 by omega)
  have c_row_at := (ok_row_at (base := base) T).mono (show 5 ≤ 14 by omega)
  have c_tests_in := (ok_tests_in (base := base) 3 T).mono (show 2 + 3 ≤ 14 by omega)
  have c_cuts_in := (ok_cuts_in (base := base) T).mono (show 2 ≤ 14 by omega)
  have c_region := (ok_region (base := base) T).mono (show 1 ≤ 14 by omega)
  refine ⟨_, pss_cons (ps_expr (pe_cl c_look_at_asked hr (by first | decide | omega) rfl (pa_cons (pv 0) (pa_cons (pv 1) (pa_cons (pv 2) (pa_cons (pv 3) pa_nil))))))
      (pss_cons (ps_set (i := 4) sc_picture_of.nd rfl (by first | exact Or.inl rfl | exact Or.inr rfl) (pe_dc (own := [("name", 7), ("fill", 8)]) rfl sc_picture_of.nd (pi_seq (pe_cl c_columns_at hr (by first | decide | omega) rfl (pa_cons (pv 1) (pa_cons (pv 3) pa_nil)))) (blkOk_by (own := [("name", 7), ("fill", 8)]) (N := ["condition", "past", "key", "t", "names", "row", "cuts", "name", "fill", "some"]) (sc := defScope S_picture_of) (by decide +kernel)) (fun _ _ _ _ _ => (pg_tupK (K := K) (n := 2) rfl rfl (pgs_cons (pg_name (i := 7) sc_picture_of.nd rfl (by first | exact Or.inl rfl | exact Or.inr rfl)) (pgs_cons (pg_name (i := 8) sc_picture_of.nd rfl (by first | exact Or.inl rfl | exact Or.inr rfl)) pgs_nil)))) (fun _ _ _ _ _ => pts_nil) (fun _ _ _ _ _ => (pv 7)) (fun _ _ _ _ _ => (pe_bl))))
      (pss_cons (ps_asg (pe_tup (pa_cons (pe_cl c_row_at hr (by first | decide | omega) rfl (pa_cons (pv 1) (pa_cons (pv 2) (pa_cons (pv 3) pa_nil)))) (pa_cons (pe_cl c_cuts_in hr (by first | decide | omega) rfl (pa_cons (pe_cl c_tests_in hr (by first | decide | omega) rfl (pa_cons (pv 0) pa_nil)) pa_nil)) pa_nil))) (pg_tupK (K := K) (n := 2) rfl rfl (pgs_cons (pg_name (i := 5) sc_picture_of.nd rfl (by first | exact Or.inl rfl | exact Or.inr rfl)) (pgs_cons (pg_name (i := 6) sc_picture_of.nd rfl (by first | exact Or.inl rfl | exact Or.inr rfl)) pgs_nil))))
      (pss_cons (ps_if (pt_cmpR op_isNK (pv 5) (pe_non) (nomark _)) (pss_one (ps_ret (pe_tup (pa_cons (pe_bl) (pa_cons (pe_callTy (call_tupK (K := K) rfl) (by rfl) T.f_tuple (by decide +kernel) (pa_cons (pe_lock ((pe_lc (own := [("name", 7)]) rfl sc_picture_of.nd (pi_keys (pv 6)) (blkOk_by (own := [("name", 7)]) (N := ["condition", "past", "key", "t", "names", "row", "cuts", "name", "fill", "some"]) (sc := defScope S_picture_of) (by decide +kernel)) (fun _ _ _ _ _ => (pg_name (i := 7) sc_picture_of.nd rfl (by first | exact Or.inl rfl | exact Or.inr rfl))) (fun _ _ _ _ _ => pts_nil) (fun _ _ _ _ _ => (pe_cmp (pc_din (hu_of hr) (pv 7) (pv 4))))))) pa_nil)) pa_nil))))) pss_nil)
      (pss_one (ps_ret (pe_tup (pa_cons (pe_bl) (pa_cons (pe_callTy (call_tupK (K := K) rfl) (by rfl) T.f_tuple (by decide +kernel) (pa_cons (pe_lock ((pe_lc (own := [("name", 7), ("some", 9)]) rfl sc_picture_of.nd (pi_items (pv 6)) (blkOk_by (own := [("name", 7), ("some", 9)]) (N := ["condition", "past", "key", "t", "names", "row", "cuts", "name", "fill", "some"]) (sc := defScope S_picture_of) (by decide +kernel)) (fun _ _ _ _ _ => (pg_tupK (K := K) (n := 2) rfl rfl (pgs_cons (pg_name (i := 7) sc_picture_of.nd rfl (by first | exact Or.inl rfl | exact Or.inr rfl)) (pgs_cons (pg_name (i := 9) sc_picture_of.nd rfl (by first | exact Or.inl rfl | exact Or.inr rfl)) pgs_nil)))) (fun _ _ _ _ _ => pts_nil) (fun _ _ _ _ _ => (pe_ifExp (pt_cmp (pc_din (hu_of hr) (pv 7) (pv 4))) (pe_cl c_region hr (by first | decide | omega) rfl (pa_cons (pv 9) (pa_cons (pe_dget (hu_of hr) (pv 5) (pv 7) (fun _ _ => rfl)) pa_nil))) (pe_non)))))) pa_nil)) pa_nil)))))))), ?_⟩
  refine start_to (σ := [some _, some _, some _, some _, none, none, none, none, none, none]) rfl ?_
  try dsimp only [cxOf]
  walk_at "go"
  refine ⟨c, a, _, hc, good, rfl, inferInstance, rfl, rfl, fun H1 e1 => ?_⟩
  walk_at "go"
  intro cl cvs H2 e2 hcl hC
  have : At H2 cl (.lst cvs) := ⟨hcl⟩
  walk_at "go"
  have hcl4 := pa.ok.1
  have hCl := hC.len
  refine dc_ds adds (fun q => some ((.inr q.1 : Key), ())) (fun _ v (_ : Unit) => v = V.bl true) (fun _ h => h) hCl (by show cvs.length ≤ 2 ^ 24; omega) ?_ ?_
  · intro i x q H4 H5 D hq e4 nD hA4 hy N1 N2 k1 k2
    obtain ⟨rfl, hx⟩ := hy
    obtain ⟨q', hq', b, rfl, hb⟩ := hC.get hx
    rw [hq] at hq'
    cases hq'
    have : At H5 b (.tup [.str q.1, .int q.2]) := ⟨e4.at hb⟩
    walk_at "go"
    exact k1 (.inr q.1) _ _ () (Ext.refl _) rfl rfl
  · intro D H3 kvs nD e3 hD hK
    rw [foldA pa.ok.2.2] at hK
    have e03 : Ext H H3 := (e1.trans e2).trans e3
    have hvn : ∀ x, valV kvs (.inr x) = (valA adds x).map fun _ => V.bl true := fun x => val_unit hK
    have hkb : ∀ p, p ∈ kvs → p.2 = V.bl true := unit_all hK
    walk_at "go"
    cases row with
    | false =>
      refine ⟨a, adds, false, rfl, inferInstance, rfl, rfl, fun _ H4 e4 => ?_, fun z => nomatch z⟩
      walk_at "go"
      refine ⟨c, CA.mono (e03.trans e4) c _ hc, good.2.1, by have := good.2.2; omega, fun r vs H5 e5 nr hr hE => ?_⟩
      walk_at "go"
      refine ⟨r, vs, c.ts, rfl, hr, hE, by have := good.2.2; omega, ts_ok good.1, fun d H6 e6 cD => ?_⟩
      have e36 : Ext H3 H6 := (e4.trans e5).trans e6
      walk_at "go"
      rename_i T0 nT0
      have eT : Ext H6 (upd H6 T0 (.tup [V.non, V.ref d])) := ext_upd
      generalize upd H6 T0 (.tup [V.non, V.ref d]) = H7 at eT
      have cD7 : CutsIs H7 d (cutsOf c.ts) := @cutsis_ext H6 _ d _ eT cD
      have hD7 : H7 D = some (.dK kvs) := eT.at (e36.at hD)
      obtain ⟨⟨kv2, hd, hP⟩, cok⟩ := id cD7
      have hkl : kv2.length = (cutsOf c.ts).length := by have := Paired.length hP; simpa using this
      have h3 := cok.2.2
      refine lock_in hd fun od => ?_
      walk_at "go"
      refine lc_ds (cutsOf c.ts) (fun q => some (valA adds q.1).isSome) (VR V.bl) (fun _ h => h) hkl (by show kv2.length ≤ 2 ^ 24; omega) ?_ ?_
      · intro i y q H8 H9 D2 hq e8 nD2 hA8 hy N1 N2 k1 k2
        obtain ⟨rfl, k, v, hk, rfl⟩ := hy
        obtain ⟨c', hc', hk1, ac, hv, hac⟩ := keys_get hP hk
        rw [hq] at hc'
        cases hc'
        have hDd : D ≠ d := fun z => by
          rw [z, hd] at hD7
          cases hD7
          have := hkb _ (List.mem_of_getElem? hk)
          rw [show v = V.ref ac from hv] at this
          cases this
        have : At H9 D (.dK kvs) := ⟨e8.at (by rw [upd_ne hDd]; exact hD7)⟩
        have : DVal kvs (.str q.1) (valV kvs (.inr q.1)) := ⟨_, rfl, rfl⟩
        rw [hk1, kV_str]
        walk_at "go"
        rw [hvn]
        refine k1 _ _ (valA adds q.1).isSome (Ext.refl _) rfl ?_
        cases valA adds q.1 <;> rfl
      · intro D2 H8 ys nD2 e8 hD8 hE8
        refine unlkH hd nD2 e8 hD8 fun H9 nD2 e9 hD9 e10 => ?_
        have : At H9 D2 (.lst ys) := ⟨hD9⟩
        walk_at "go"
        rename_i t ht p hp
        refine h _ _ ((((e03.trans e36).trans eT).trans e9).trans (Ext.trans ext_upd ext_upd)) ⟨p, t, rfl, upd_same, ?_⟩
        rw [upd_ne (ne_of_none_at hp.h upd_same).symm, upd_same, each_val hE8]
        unfold backOf
        rw [if_neg (show ¬ false = true by decide), List.map_map, List.filterMap_eq_map', List.map_map]
        all_goals rfl
    | true =>
      refine ⟨a, adds, true, rfl, inferInstance, rfl, rfl, (fun z => nomatch z), fun _ qa H4 e4 hqa => ?_⟩
      walk_at "go"
      refine ⟨c, CA.mono (e03.trans e4) c _ hc, good.2.1, by have := good.2.2; omega, fun r vs H5 e5 nr hr hE => ?_⟩
      walk_at "go"
      refine ⟨r, vs, c.ts, rfl, hr, hE, by have := good.2.2; omega, ts_ok good.1, fun d H6 e6 cD => ?_⟩
      have e36 : Ext H3 H6 := (e4.trans e5).trans e6
      walk_at "go"
      rename_i T0 nT0
      have eT : Ext H6 (upd H6 T0 (.tup [V.ref qa, V.ref d])) := ext_upd
      generalize upd H6 T0 (.tup [V.ref qa, V.ref d]) = H7 at eT
      have cD7 : CutsIs H7 d (cutsOf c.ts) := @cutsis_ext H6 _ d _ eT cD
      have hD7 : H7 D = some (.dK kvs) := eT.at (e36.at hD)
      have hqa7 : H7 qa = some (.dK (adds.map fun p => (.inr p.1, .int p.2))) := eT.at ((e5.trans e6).at hqa)
      obtain ⟨⟨kv2, hd, hP⟩, cok⟩ := id cD7
      have hkl : kv2.length = (cutsOf c.ts).length := by have := Paired.length hP; simpa using this
      have h3 := cok.2.2
      refine lock_in hd fun od => ?_
      walk_at "go"
      refine lc_ds (cutsOf c.ts) (fun q => some (match valA adds q.1 with | none => Cell.non | some v => .rg (regn q.2 v))) (VR Cell.v) (fun _ h => h) hkl (by show kv2.length ≤ 2 ^ 24; omega) ?_ ?_
      · intro i y q H8 H9 D2 hq e8 nD2 hA8 hy N1 N2 k1 k2
        obtain ⟨T1, k, v, rfl, nT1, rfl, hk⟩ := hy
        obtain ⟨c', hc', hk1, ac, hv, hac⟩ := keys_get hP hk
        rw [hq] at hc'
        cases hc'
        have hDd : D ≠ d := fun z => by
          rw [z, hd] at hD7
          cases hD7
          have := hkb _ (List.mem_of_getElem? hk)
          rw [show v = V.ref ac from hv] at this
          cases this
        have hqd : qa ≠ d := fun z => by
          rw [z, hd] at hqa7
          cases hqa7
          obtain ⟨_, _, z2⟩ := List.mem_map.mp (List.mem_of_getElem? hk)
          rw [show v = V.ref ac from hv] at z2
          cases z2
        have : At H8 D (.dK kvs) := ⟨e8.at (by rw [upd_ne hDd]; exact hD7)⟩
        have : At H8 qa (.dK (adds.map fun p => (.inr p.1, .int p.2))) := ⟨e8.at (by rw [upd_ne hqd]; exact hqa7)⟩
        have hac2 : upd H7 d (.frz od (.dK kv2)) ac = some (.tup (q.2.map V.int)) := by rw [upd_ne (ne_of_at hac hd fun z => nomatch z)]; exact hac
        have : CutAt H8 ac q.2 := ⟨e8.at hac2, (cok.2.1 q (List.mem_of_getElem? hq)).2⟩
        rw [hk1, kV_str, show v = V.ref ac from hv]
        cases hva : valA adds q.1 with
        | none =>
          have : DVal kvs (.str q.1) none := ⟨_, rfl, by rw [hvn, hva]; rfl⟩
          walk_at "go"
          exact k1 _ _ .non ext_upd (by rw [hva]) rfl
        | some u =>
          have : DVal kvs (.str q.1) (some (.bl true)) := ⟨_, rfl, by rw [hvn, hva]; rfl⟩
          have : DVal (adds.map fun p => ((.inr p.1 : Key), V.int p.2)) (.str q.1) (some (.int u)) := ⟨.inr q.1, rfl, by rw [val_row, hva]; rfl⟩
          walk_at "go"
          intro H10 e10
          exact k1 _ _ (.rg (regn q.2 u)) (Ext.trans ext_upd e10) (by rw [hva]) rfl
      · intro D2 H8 ys nD2 e8 hD8 hE8
        refine unlkH hd nD2 e8 hD8 fun H9 nD2 e9 hD9 e10 => ?_
        have : At H9 D2 (.lst ys) := ⟨hD9⟩
        walk_at "go"
        rename_i t ht p hp
        refine h _ _ ((((e03.trans e36).trans eT).trans e9).trans (Ext.trans ext_upd ext_upd)) ⟨p, t, rfl, upd_same, ?_⟩
        rw [upd_ne (ne_of_none_at hp.h upd_same).symm, upd_same, each_val hE8]
        unfold backOf
        rw [if_pos rfl, List.map_map, List.filterMap_eq_map', List.map_map]
        all_goals rfl
end

end PB
namespace PB
open PySem PySem.Spec PyProof.Rows L2
local macro_rules | `(tactic| walk_at "rd") => `(tactic| (repeat refine red ?_))
local macro_rules | `(tactic| walk_at "go") => `(tactic| (repeat (first | refine red ?_ | ((with_reducible apply k_var); rfl) | refine k_new fun _ _ => ?_ | refine wp_and rfl ?_ | refine if_redT rfl ?_ | refine if_redF rfl ?_)))
local macro_rules | `(tactic| walk_at "ga") => `(tactic| (repeat (first | refine red ?_ | ((with_reducible apply k_var); rfl) | ((with_reducible apply k_aug); rfl) | refine k_new fun _ _ => ?_ | refine wp_and rfl ?_ | refine if_redT rfl ?_ | refine if_redF rfl ?_)))
local macro_rules | `(tactic| walk_at "gq") => `(tactic| (repeat ((fail_if_success (with_reducible refine seq_stop ?_)); (first | refine red ?_ | ((with_reducible apply k_var); rfl) | refine k_new fun _ _ => ?_ | refine wp_and rfl ?_ | refine if_redT rfl ?_ | refine if_redF rfl ?_))))
local macro_rules | `(tactic| walk_at "ext") => `(tactic| (repeat (first | assumption | exact Ext.refl _ | refine Ext.newI ?_ | refine Ext.trans ?_ ‹Ext _ _›)))
local macro_rules | `(tactic| walk_at "rv") => `(tactic| (repeat (first | refine red ?_ | ((with_reducible apply k_var); rfl))))
/-! ### late_firsts -/
def RunsR (K : PySem.W.Frag) (c : Cond) (cuts : Cuts) (H : Hp) (v : V) (p : Pict) : Prop := RunR K H v c cuts p
def lfK (lf : List (Ans × Nat)) : List (Key × V) := lf.map fun e => ((.inr e.1.s : Key), V.int (e.2 : Nat))
theorem s_inj {a b : Ans} (h : a.s = b.s) : a = b := by
  have := Ans.s_inj (a := a) (b := b)
  rw [decide_eq_true h] at this
  exact of_decide_eq_true this.symm
theorem lfK_val {a : Ans} : ∀ {lf : List (Ans × Nat)}, (valV (lfK lf) (.inr a.s)).isSome = decide (a ∈ lf.map (·.1))
  | [] => rfl
  | e :: r => by
    have ih := lfK_val (a := a) (lf := r)
    unfold lfK at ih ⊢
    rw [List.map_cons, List.map_cons]
    simp only [valV, List.find?_cons] at ih ⊢
    by_cases z : e.1 = a
    · subst z
      rw [decide_eq_true (show (Sum.inr e.1.s : Key) = Sum.inr e.1.s from rfl)]
      simp
    · rw [decide_eq_false (fun y : (Sum.inr e.1.s : Key) = Sum.inr a.s => z (s_inj (by injection y)))]
      dsimp only
      rw [ih]
      rw [decide_eq_decide, List.mem_cons]
      exact ⟨fun h => .inr h, fun h => h.resolve_left fun y => z y.symm⟩
section
variable {w : World} {K : PySem.W.Frag} {mg : Str → Option Value} {base : Heap}
def pLateF (K : PySem.W.Frag) (cond pos runs : V) (H : Hp) (Q : VK) : Prop := ∃ (c : Cond) (cuts : Cuts) (t a : Addr) (told : List Ans) (vs : List V) (qs : List Pict), CA H c cond ∧ Good c ∧ FitC cuts c ∧ pos = .ref t ∧ TldR H t told ∧ told.length ≤ 1000 ∧ runs = .ref a ∧ H a = some (.lst vs) ∧ Each (RunsR K c cuts) H vs qs ∧ qs.length ≤ 5000 ∧
  ∀ d lf H', Ext H H' → H' d = some (.dK (lfK lf)) → FirstsOk cuts c told qs qs.length lf → Q (.ref d) H'
theorem ok_late_firsts  (T : Txt w K mg) : Cal PG w K mg base (27 + 1) "late_firsts" (sp3 (pLateF K)) := by
  obtain ⟨fd, F⟩ := T.d_late_firsts
  refine cal_mk F T.g_late_firsts sc_late_firsts (fun _ _ _ _ _ _ us hl => match us, hl with | [_, _, _], _ => rfl) fun cdv A outer s0 H vs Q E hr h => ?_
  obtain ⟨cond, _, _, rfl, c, cuts, t, a, told, vs, qs, hc, good, fit, rfl, htl, htn, rfl, hA, hE, hql, h⟩ := h
  have c_outm := (out_mix (base := base) T).cald
  have m_Mixed := mak_Mixed (base := base) T
  have hlen := hE.len
  have : At H a (.lst vs) := ⟨hA⟩
  refine ⟨_, pss_cons (ps_set (i := 3) sc_late_firsts.nd rfl (by first | exact Or.inl rfl | exact Or.inr rfl) (pe_dnewK))
      (pss_cons (ps_for PassesOwn.never rfl (pi_enum (by rfl) T.f_enumerate (pa_cons (pv 2) pa_nil)) (pg_tupK (K := K) (n := 2) rfl rfl (pgs_cons (pg_name (i := 4) sc_late_firsts.nd rfl (by first | exact Or.inl rfl | exact Or.inr rfl)) (pgs_cons (pg_name (i := 5) sc_late_firsts.nd rfl (by first | exact Or.inl rfl | exact Or.inr rfl)) pgs_nil))) (pss_cons (ps_set (i := 6) sc_late_firsts.nd rfl (by first | exact Or.inl rfl | exact Or.inr rfl) (pe_cld c_outm hr (by omega) rfl (pa_cons (pv 0) (pa_cons (pe_mkc m_Mixed hr (by first | decide | omega) rfl (pa_cons (pv 1) (pa_cons (pe_fldK (K := K) rfl (pv 5)) pa_nil))) pa_nil))))
      (pss_one (ps_if (pt_cmpR op_ne (pv 6) (pe_fldK (K := K) rfl (pv 5)) (nomark _)) (pss_one (ps_expr (pe_dsetd (pv 3) (pv 6) (pv 4) ⟨rfl, rfl, rfl, rfl⟩))) pss_nil))))
      (pss_one (ps_ret (pv 3)))), ?_⟩
  refine start_to (σ := [some _, some _, some _, none, none, none, none]) rfl ?_
  try dsimp only [cxOf]
  walk_at "go"
  rename_i D nD
  refine for_go (fun j σ' H' => (∃ x y z, σ' = [some cond, some (.ref t), some (.ref a), some (.ref D), x, y, z]) ∧ Ext H H' ∧ ∃ lf, H' D = some (.dK (lfK lf)) ∧ FirstsOk cuts c told qs j lf ∧ lf.length ≤ j) ⟨⟨_, _, _, rfl⟩, ext_upd, [], upd_same, .nil, Nat.le_refl _⟩ (fun j σ' H' _ q => sub_at (Ext.at ext_upd hA) (q.2.1.at hA)) ?_ ?_
  · rintro j x σ' H1 H2 hj ⟨⟨x0, y0, z0, rfl⟩, e1, lf, hD, hF, hll⟩ ⟨T1, u, rfl, nT, rfl, hx⟩
    obtain ⟨q, hq, x1, dx, ra, rt, ru, rfl, hx1, hpr, hpo, hans⟩ := hE.get hx
    have : At H1 x1 (.ins (He.ga K "Run") dx [("told", ru), ("answer", .ref ra), ("outcome", .str (run (pa0 cuts q) c []).1.s), ("answers", .ref rt)]) := ⟨e1.at hx1⟩
    walk_at "go"
    intro o do2 H3 e3 no ho
    have e13 : Ext H1 H3 := Ext.trans ext_upd e3
    have e03 : Ext H H3 := e1.trans e13
    have hD3 := e13.at hD
    walk_at "go"
    have eT : Ext H1 (upd H1 T1 (.tup [.int (j : Nat), .ref x1])) := ext_upd
    generalize upd H1 T1 (.tup [.int (j : Nat), .ref x1]) = HB at e3 no eT
    have e0B : Ext H HB := e1.trans eT
    refine ⟨_, _, _, rfl, c, [], HB, mixF told (pa cuts q), MixI K o t ra, KnowsT cuts, o, 0, CA.mono e0B c _ hc, good.2.1, by have := good.2.2; show 0 + _ ≤ _; omega, fit, rfl, rfl,
      answ_mix (htl.mono e0B) htn (hpo.mono e0B) no.h, e3, ⟨do2, ho⟩, fun H4 e4 hM => ?_⟩
    have e14 : Ext H1 H4 := eT.trans e4
    have hD4 := e14.at hD
    have : At H4 x1 (.ins (He.ga K "Run") dx [("told", ru), ("answer", .ref ra), ("outcome", .str (run (pa0 cuts q) c []).1.s), ("answers", .ref rt)]) := ⟨e14.at (e1.at hx1)⟩
    have : At H4 D (.dK (lfK lf)) := ⟨hD4⟩
    walk_at "go"
    by_cases hne : (run (mixF told (pa cuts q)) c []).1 = (run (pa0 cuts q) c []).1
    · rw [decide_eq_true hne]
      walk_at "go"
      exact ⟨⟨_, _, _, rfl⟩, e1.trans e14, lf, hD4, hF.skip hq (.inl hne), by omega⟩
    · rw [decide_eq_false hne]
      walk_at "go"
      have hs := lfK_val (a := late cuts c told q) (lf := lf)
      refine ⟨lfK lf, .inr (late cuts c told q).s, hD4, rfl, by unfold lfK; rw [List.length_map]; show _ < 2 ^ 24; omega, fun v hv => ?_, fun hv => ?_⟩
      · rw [hv] at hs
        exact ⟨⟨_, _, _, rfl⟩, e1.trans e14, lf, hD4, hF.skip hq (.inr (of_decide_eq_true hs.symm)), by omega⟩
      · refine ⟨⟨_, _, _, rfl⟩, (e1.trans e14).mut nD.h, lf ++ [(late cuts c told q, j)], ?_, hF.snoc hq hne ?_, by rw [List.length_append]; show _ + 1 ≤ _; omega⟩
        · rw [upd_same, putK_new _ hv]
          unfold lfK
          rw [List.map_append]
          rfl
        · rw [hv] at hs
          exact of_decide_eq_false hs.symm
  · rintro σ' H1 ⟨⟨x0, y0, z0, rfl⟩, e1, lf, hD, hF, hll⟩
    walk_at "go"
    exact h D lf H1 e1 hD (by rw [← hlen]; exact hF)
end

end PB
namespace PB
open PySem PySem.Spec PyProof.Rows L2
local macro_rules | `(tactic| walk_at "rd") => `(tactic| (repeat refine red ?_))
local macro_rules | `(tactic| walk_at "go") => `(tactic| (repeat (first | refine red ?_ | ((with_reducible apply k_var); rfl) | refine k_new fun _ _ => ?_ | refine wp_and rfl ?_ | refine if_redT rfl ?_ | refine if_redF rfl ?_)))
local macro_rules | `(tactic| walk_at "ga") => `(tactic| (repeat (first | refine red ?_ | ((with_reducible apply k_var); rfl) | ((with_reducible apply k_aug); rfl) | refine k_new fun _ _ => ?_ | refine wp_and rfl ?_ | refine if_redT rfl ?_ | refine if_redF rfl ?_)))
local macro_rules | `(tactic| walk_at "gq") => `(tactic| (repeat ((fail_if_success (with_reducible refine seq_stop ?_)); (first | refine red ?_ | ((with_reducible apply k_var); rfl) | refine k_new fun _ _ => ?_ | refine wp_and rfl ?_ | refine if_redT rfl ?_ | refine if_redF rfl ?_))))
local macro_rules | `(tactic| walk_at "ext") => `(tactic| (repeat (first | assumption | exact Ext.refl _ | refine Ext.newI ?_ | refine Ext.trans ?_ ‹Ext _ _›)))
local macro_rules | `(tactic| walk_at "rv") => `(tactic| (repeat (first | refine red ?_ | ((with_reducible apply k_var); rfl))))
/-! ### parted_at -/
theorem findSome_at {α β : Type} {f : α → Option β} {y : β} : ∀ {xs : List α} {m : Nat} {x : α}, xs[m]? = some x → f x = some y → (∀ (i : Nat) (z : α), i < m → xs[i]? = some z → f z = none) → xs.findSome? f = some y
  | [], _, _, h, _, _ => by simp at h
  | a :: r, 0, x, h, hp, _ => by
    simp at h
    subst h
    rw [List.findSome?_cons, hp]
  | a :: r, m + 1, x, h, hp, hl => by
    rw [List.findSome?_cons, hl 0 a (Nat.succ_pos _) rfl]
    exact findSome_at (m := m) (by simpa using h) hp fun i z hi hz => hl (i + 1) z (by omega) (by simpa using hz)
theorem putK_newG {κ : Type} [DecidableEq κ] {kvs : List (κ × V)} {k : κ} {v : V} (h : valV kvs k = none) : putK kvs k v = kvs ++ [(k, v)] := by
  unfold putK
  rw [if_neg]
  intro z
  obtain ⟨p, hp, e⟩ := List.any_eq_true.mp z
  unfold valV at h
  rw [Option.map_eq_none_iff, List.find?_eq_none] at h
  exact h p hp e
theorem valV_snoc {κ : Type} [DecidableEq κ] {kvs : List (κ × V)} {k k2 : κ} {v : V} : valV (kvs ++ [(k, v)]) k2 = (valV kvs k2).or (if k = k2 then some v else none) := by
  unfold valV
  rw [List.find?_append]
  cases h : kvs.find? fun kv => decide (kv.1 = k2) with
  | some p => rfl
  | none =>
    by_cases z : k = k2
    · simp [List.find?, z]
    · simp [List.find?, z]
theorem nth_nat {xs : List V} {m : Nat} {u : V} (h : xs[m]? = some u) : Nth xs ((m : Nat) : Int) u := ⟨by
  have hl := (List.getElem?_eq_some_iff.mp h).1
  unfold atI ixN
  rw [if_pos (by omega), if_pos (by omega)]
  exact h⟩
theorem ans_nd : ∀ {l : List Ans}, l.Nodup → l.length ≤ 3
  | [], _ => by decide
  | [_], _ => by show 1 ≤ 3; decide
  | [_, _], _ => by show 2 ≤ 3; decide
  | [_, _, _], _ => by show 3 ≤ 3; decide
  | a :: b :: c :: d :: r, h => by
    exfalso
    simp only [List.nodup_cons, List.mem_cons, not_or] at h
    obtain ⟨⟨h1, h2, h3, _⟩, ⟨h4, h5, _⟩, ⟨h6, _⟩, _⟩ := h
    cases a <;> cases b <;> cases c <;> cases d <;> first | exact h1 rfl | exact h2 rfl | exact h3 rfl | exact h4 rfl | exact h5 rfl | exact h6 rfl
theorem fm_places {o : Ans} {lf : List (Ans × Nat)} : lf.filterMap (fun e => if e.1 = o then none else some e.2) = places o lf := by
  unfold places
  induction lf with
  | nil => rfl
  | cons e r ih =>
    rw [List.filterMap_cons, List.filter_cons]
    by_cases z : e.1 = o
    · rw [if_pos z, decide_eq_true z]
      exact ih
    · rw [if_neg z, decide_eq_false z]
      show e.2 :: _ = _
      rw [ih]
      rfl
def tks (told : List Ans) : List Key := told.map fun a => (.inr a.s : Key)
theorem tks_v {told : List Ans} : (tks told).map kV = told.map fun a => V.str a.s := by
  unfold tks
  rw [List.map_map]
  rfl
/-- what the dict of the positions holds -/
def KnownR (cuts : Cuts) (c : Cond) (qs : List Pict) (H : Hp) (kk : List (List Key × V)) : Prop := ∀ told v, valV kk (tks told) = some v → ∃ d lf, v = .ref d ∧ H d = some (.dK (lfK lf)) ∧ FirstsOk cuts c told qs qs.length lf
theorem tks_inj : ∀ {a b : List Ans}, tks a = tks b → a = b
  | [], [], _ => rfl
  | [], _ :: _, h => by cases h
  | _ :: _, [], h => by cases h
  | x :: a, y :: b, h => by
    unfold tks at h
    rw [List.map_cons, List.map_cons] at h
    injection h with h1 h2
    rw [s_inj (show x.s = y.s by injection h1), tks_inj (show tks a = tks b from h2)]
theorem KnownR.mono {cuts : Cuts} {c : Cond} {qs : List Pict} {H H' : Hp} {kk : List (List Key × V)} (e : Ext H H') (h : KnownR cuts c qs H kk) : KnownR cuts c qs H' kk := fun told v hv => by
  obtain ⟨d, lf, a, b, f⟩ := h told v hv
  exact ⟨d, lf, a, e.at b, f⟩
section
variable {w : World} {K : PySem.W.Frag} {mg : Str → Option Value} {base : Heap}
def pPartAt (K : PySem.W.Frag) (cond runs count : V) (H : Hp) (Q : VK) : Prop := ∃ (c : Cond) (cuts : Cuts) (a : Addr) (vs : List V) (qs : List Pict) (n : Nat), CA H c cond ∧ Good c ∧ FitC cuts c ∧ runs = .ref a ∧ H a = some (.lst vs) ∧ Each (RunsR K c cuts) H vs qs ∧ qs.length ≤ 5000 ∧ count = .int (n : Nat) ∧ n ≤ 1000 ∧
  (findP cuts c n qs qs = none → ∀ H', Ext H H' → Q .non H') ∧ ∀ p q, findP cuts c n qs qs = some (p, q) → ∀ t u v H', Ext H H' → H' t = some (.tup [u, v]) → RunsR K c cuts H' u p → RunsR K c cuts H' v q → Q (.ref t) H'
theorem ok_parted_at  (T : Txt w K mg) : Cal PG w K mg base (28 + 1) "parted_at" (sp3 (pPartAt K)) := by
  obtain ⟨fd, F⟩ := T.d_parted_at
  refine cal_mk F T.g_parted_at sc_parted_at (fun _ _ _ _ _ _ us hl => match us, hl with | [_, _, _], _ => rfl) fun cdv A outer s0 H vs Q E hr h => ?_
  obtain ⟨cond, _, _, rfl, c, cuts, a, vs, qs, n, hc, good, fit, rfl, hA, hE, hql, rfl, hn, hN, hS⟩ := h
  have c_late_firsts := (ok_late_firsts (base := base) T)
  have hlen := hE.len
  have : At H a (.lst vs) := ⟨hA⟩
  refine ⟨_, pss_cons (ps_set (i := 3) sc_parted_at.nd rfl (by first | exact Or.inl rfl | exact Or.inr rfl) (pe_dnewT))
      (pss_cons (ps_for PassesOwn.never rfl (pi_seq (pv 1)) (pg_name (i := 4) sc_parted_at.nd rfl (by first | exact Or.inl rfl | exact Or.inr rfl)) (pss_cons (ps_set (i := 5) sc_parted_at.nd rfl (by first | exact Or.inl rfl | exact Or.inr rfl) (pe_slice (sl_tupAK (K := K) rfl) (pe_fldK (K := K) rfl (pv 4)) po_none (po_some (pv 2))))
      (pss_one (ps_if (pt_cmpR op_gt (pe_callB (call_lenK (K := K) rfl) (by rfl) T.f_len (by decide +kernel) (pa_cons (pe_fldK (K := K) rfl (pv 4)) pa_nil)) (pv 2) (nomark _)) (pss_cons (ps_if (pt_cmp (pc_dnotin (hu_of hr) (pv 5) (pv 3))) (pss_one (ps_dput (hu_of hr) (pv 3) (pv 5) (pe_cl c_late_firsts hr (by first | decide | omega) rfl (pa_cons (pv 0) (pa_cons (pv 5) (pa_cons (pv 1) pa_nil)))) rfl)) pss_nil)
      (pss_cons (ps_lock (ps_setLc (i := 6) (own := [("late", 7), ("place", 8)]) rfl sc_parted_at.nd rfl rfl (sw_true rfl rfl rfl (by decide +kernel)) ((pi_items (pe_dget (hu_of hr) (pv 3) (pv 5) (fun _ _ => rfl)))) (blkOk_by (own := [("late", 7), ("place", 8)]) (N := ["condition", "runs", "count", "known", "one", "position", "places", "late", "place"]) (sc := defScope S_parted_at) (by decide +kernel)) (fun _ _ _ _ _ => (pg_tupK (K := K) (n := 2) rfl rfl (pgs_cons (pg_name (i := 7) sc_parted_at.nd rfl (by first | exact Or.inl rfl | exact Or.inr rfl)) (pgs_cons (pg_name (i := 8) sc_parted_at.nd rfl (by first | exact Or.inl rfl | exact Or.inr rfl)) pgs_nil)))) (fun _ _ _ _ _ => pts_one (pt_cmpR op_ne (pv 7) (pe_fldK (K := K) rfl (pv 4)) (nomark _))) (fun _ _ _ _ _ => (pv 8))))
      (pss_one (ps_if ((pt_truK (K := K) rfl (pv 6))) (pss_one (ps_ret (pe_tup (pa_cons (pv 4) (pa_cons (pe_ix (ix_anyK (K := K) rfl) (pv 1) (pe_callB (cr_min rfl) (by rfl) T.f_min (by decide +kernel) (pa_cons (pv 6) pa_nil)) (fun _ _ => rfl)) pa_nil))))) pss_nil)))) pss_nil))))
      (pss_one (ps_ret (pe_non)))), ?_⟩
  refine start_to (σ := [some _, some _, some _, none, none, none, none, none, none]) rfl ?_
  try dsimp only [cxOf]
  walk_at "go"
  rename_i D nD
  refine for_go (fun j σ' H' => (∃ x y z, σ' = [some cond, some (.ref a), some (.int (n : Nat)), some (.ref D), x, y, z, none, none]) ∧ Ext H H' ∧ ∃ kk, H' D = some (.dT kk) ∧ KnownR cuts c qs H' kk ∧ kk.length ≤ j ∧ ∀ (i : Nat) (p : Pict), i < j → qs[i]? = some p → findQ cuts c p n qs = none) ⟨⟨_, _, _, rfl⟩, ext_upd, [], upd_same, (fun _ _ z => nomatch z), Nat.le_refl _, fun i p z => absurd z (Nat.not_lt_zero i)⟩ (fun j σ' H' _ q => sub_at (Ext.at ext_upd hA) (q.2.1.at hA)) ?_ ?_
  · rintro j x σ' H1 H2 hj ⟨⟨x0, y0, z0, rfl⟩, e1, kk, hD, hK, hkl, hno⟩ ⟨rfl, hx⟩
    obtain ⟨p, hp, x1, dx, ra, rt, ru, rfl, hx1, hpr, hpo, hans⟩ := hE.get hx
    have : At H2 x1 (.ins (He.ga K "Run") dx [("told", ru), ("answer", .ref ra), ("outcome", .str (run (pa0 cuts p) c []).1.s), ("answers", .ref rt)]) := ⟨e1.at hx1⟩
    have : At H2 rt (.tup ((run (pa0 cuts p) c []).2.map fun a => V.str a.s)) := ⟨e1.at hans⟩
    walk_at "go"
    intro b H3 e3 hb
    rw [cut_take, ← List.map_take] at hb
    have e13 : Ext H H3 := e1.trans e3
    have hx3 := e13.at hx1
    have hans3 := e13.at hans
    have hlR : ((run (pa0 cuts p) c []).2.map fun a => V.str a.s).length = (ansOf cuts c p).length := by rw [List.length_map]; rfl
    have : At H3 x1 (.ins (He.ga K "Run") dx [("told", ru), ("answer", .ref ra), ("outcome", .str (run (pa0 cuts p) c []).1.s), ("answers", .ref rt)]) := ⟨hx3⟩
    have : At H3 rt (.tup ((run (pa0 cuts p) c []).2.map fun a => V.str a.s)) := ⟨hans3⟩
    walk_at "go"
    rw [hlR]
    have hal := ansOf_len (cuts := cuts) (p := p) good
    by_cases hlt : n < (ansOf cuts c p).length
    · rw [decide_eq_true (show ((n : Nat) : Int) < (((ansOf cuts c p).length : Nat) : Int) by omega)]
      walk_at "gq"
      have hbk : H3 b = some (.tup ((tks ((ansOf cuts c p).take n)).map kV)) := by rw [tks_v]; exact hb
      have htl : ((ansOf cuts c p).take n).length ≤ 1000 := by rw [List.length_take]; omega
      refine seq_cut (fun σ' H' => σ' = [some cond, some (.ref a), some (.int (n : Nat)), some (.ref D), some (.ref x1), some (.ref b), z0, none, none] ∧ Ext H H' ∧ H' b = some (.tup ((tks ((ansOf cuts c p).take n)).map kV)) ∧ ∃ kk d lf, H' D = some (.dT kk) ∧ KnownR cuts c qs H' kk ∧ kk.length ≤ j + 1 ∧ valV kk (tks ((ansOf cuts c p).take n)) = some (.ref d) ∧ H' d = some (.dK (lfK lf)) ∧ FirstsOk cuts c ((ansOf cuts c p).take n) qs qs.length lf) ?_ ?_
      · rintro σ' H4 ⟨rfl, e4, hb4, kk4, d, lf, hD4, hK4, hk4, hv4, hd4, hF⟩
        have hDd : D ≠ d := ne_of_at hD4 hd4 fun z => nomatch z
        have hbd : b ≠ d := ne_of_at hb4 hd4 fun z => nomatch z
        have hx4 := e4.at hx1
        walk_at "go"
        refine lock_inS hd4 fun od => ?_
        have : At (upd H4 d (.frz od (.dK (lfK lf)))) x1 (.ins (He.ga K "Run") dx [("told", ru), ("answer", .ref ra), ("outcome", .str (run (pa0 cuts p) c []).1.s), ("answers", .ref rt)]) := ⟨by rw [upd_ne (ne_of_at hx4 hd4 fun z => nomatch z)]; exact hx4⟩
        walk_at "go"
        refine kdg_t (by rw [upd_ne hDd]; exact hD4) (by rw [upd_ne hbd]; exact hb4) hv4 ?_
        walk_at "go"
        have hkl4 : (lfK lf).length = lf.length := by unfold lfK; rw [List.length_map]
        have hlfl : lf.length ≤ 3 := by have := ans_nd hF.nd; rw [List.length_map] at this; exact this
        refine lc_ds lf (fun e => if e.1 = outOf cuts c p then none else some e.2) (VR fun m : Nat => V.int (m : Nat)) (fun _ h => h) hkl4 (by rw [hkl4]; show _ ≤ 2 ^ 24; omega) ?_ ?_
        · intro i y e H5 H6 D2 he e5 nD2 hA5 hy N1 N2 k1 k2
          obtain ⟨T1, k, x, rfl, nT1, rfl, hk⟩ := hy
          unfold lfK at hk
          rw [List.getElem?_map, he] at hk
          cases hk
          rw [kV_str]
          walk_at "go"
          by_cases hz : e.1 = (run (pa0 cuts p) c []).1
          · rw [decide_eq_true hz]
            walk_at "go"
            exact k2 _ ext_upd (if_pos hz)
          · rw [decide_eq_false hz]
            walk_at "go"
            exact k1 _ _ e.2 ext_upd (if_neg hz) rfl
        · intro D2 H5 ys nD2 e5 hD5 hE5
          walk_at "go"
          refine ⟨e5.at upd_same, ?_⟩
          have e45 : Ext H4 (upd H5 d (.dK (lfK lf))) := unlock hd4 e5
          have hDU := (unlock_at (u := .dK (lfK lf)) nD2 hD5).h
          have hys : ys = (places (outOf cuts c p) lf).map fun m : Nat => V.int (m : Nat) := by
            rw [each_val hE5]
            congr 1
            exact fm_places
          generalize upd H5 d (.dK (lfK lf)) = H6 at e45 hDU
          have : At H6 D2 (.lst ys) := ⟨hDU⟩
          walk_at "go"
          by_cases hnil : places (outOf cuts c p) lf = []
          · rw [hys, hnil]
            walk_at "go"
            refine ⟨⟨_, _, _, rfl⟩, e4.trans e45, kk4, e45.at hD4, hK4.mono e45, hk4, fun i r hi hr => ?_⟩
            by_cases z : i = j
            · subst z
              rw [hp] at hr
              cases hr
              exact places_nil hF hnil
            · exact hno i r (by omega) hr
          · have hemp : ys.isEmpty = false := by
              rw [hys]
              cases hpl : places (outOf cuts c p) lf with
              | nil => exact absurd hpl hnil
              | cons _ _ => rfl
            rw [hemp]
            have : At H6 a (.lst vs) := ⟨(e4.trans e45).at hA⟩
            walk_at "go"
            refine ⟨D2, (places (outOf cuts c p) lf).map fun m : Nat => ((m : Nat) : Int), rfl, ?_, ?_, fun m hm hmin => ?_⟩
            · rw [List.map_map]
              exact SqL.of (by rw [hDU, hys]; rfl)
            · rw [List.length_map]
              exact List.length_pos_iff.mpr hnil
            · obtain ⟨m0, hm0, rfl⟩ := List.mem_map.mp hm
              obtain ⟨q, hq, hfq⟩ := places_min hF hm0 fun x hx => by
                have := hmin _ (List.mem_map.mpr ⟨x, hx, rfl⟩)
                omega
              obtain ⟨u, hu, hru⟩ := hE.getD hq
              have : Nth vs ((m0 : Nat) : Int) u := nth_nat hu
              walk_at "go"
              rename_i t ht
              refine hS p q (findSome_at hp (by rw [hfq]; rfl) fun i z hi hz => by rw [hno i z hi hz]; rfl) t _ u _ ((e4.trans e45).trans ext_upd) upd_same ?_ (hru.mono ((e4.trans e45).trans ext_upd))
              exact ⟨x1, dx, ra, rt, ru, rfl, ((e4.trans e45).trans ext_upd).at hx1, hpr.mono ((e4.trans e45).trans ext_upd), hpo.mono ((e4.trans e45).trans ext_upd), ((e4.trans e45).trans ext_upd).at hans⟩
      · intro N hN
        walk_at "go"
        cases hv : valV kk (tks ((ansOf cuts c p).take n)) with
        | some v =>
          refine kdi_t (e3.at hD) hbk ?_
          rw [hv]
          walk_at "go"
          obtain ⟨d, lf, rfl, hd, hF⟩ := hK _ _ hv
          exact hN _ _ ⟨rfl, e13, hbk, kk, d, lf, e3.at hD, hK.mono e3, by omega, hv, e3.at hd, hF⟩
        | none =>
          refine kdi_t (e3.at hD) hbk ?_
          rw [hv]
          walk_at "go"
          refine ⟨c, cuts, b, a, (ansOf cuts c p).take n, vs, qs, CA.mono e13 c _ hc, good, fit, rfl, .inl (by rw [← tks_v]; exact hbk), htl, rfl, e13.at hA, hE.mono fun v d => RunR.mono e13, hql, fun d lf H4 e4 hd hF => ?_⟩
          walk_at "go"
          have hD4 := e4.at (e3.at hD)
          have hdD : d ≠ D := ne_of_at hd hD4 fun z => nomatch z
          have hbD : b ≠ D := ne_of_at (e4.at hbk) hD4 fun z => nomatch z
          refine kput_t hD4 (e4.at hbk) (by show _ < 2 ^ 24; omega) ?_
          refine hN _ _ ⟨rfl, (e13.trans e4).mut nD.h, by rw [upd_ne hbD]; exact e4.at hbk, putK kk (tks ((ansOf cuts c p).take n)) (.ref d), d, lf, upd_same, ?_, ?_, ?_, by rw [upd_ne hdD]; exact hd, hF⟩
          · rw [putK_newG hv]
            intro told v htv
            rw [valV_snoc] at htv
            cases hv2 : valV kk (tks told) with
            | some v2 =>
              rw [hv2] at htv
              cases htv
              obtain ⟨d2, lf2, rfl, h2, hF2⟩ := hK _ _ hv2
              have h24 := (e3.trans e4).at h2
              exact ⟨d2, lf2, rfl, by rw [upd_ne (ne_of_at h24 hD4 fun z => nomatch z)]; exact h24, hF2⟩
            | none =>
              rw [hv2] at htv
              by_cases z : tks ((ansOf cuts c p).take n) = tks told
              · rw [if_pos z] at htv
                cases htv
                exact ⟨d, lf, rfl, by rw [upd_ne hdD]; exact hd, tks_inj z ▸ hF⟩
              · rw [if_neg z] at htv
                cases htv
          · rw [putK_newG hv, List.length_append]
            show _ + 1 ≤ _
            omega
          · rw [putK_newG hv, valV_snoc, hv, if_pos rfl]
            rfl
    · rw [decide_eq_false (show ¬ ((n : Nat) : Int) < (((ansOf cuts c p).length : Nat) : Int) by omega)]
      walk_at "go"
      refine ⟨⟨_, _, _, rfl⟩, e13, kk, e3.at hD, hK.mono e3, by omega, fun i r hi hr => ?_⟩
      by_cases z : i = j
      · subst z
        rw [hp] at hr
        cases hr
        exact findQ_long (by omega)
      · exact hno i r (by omega) hr
  · rintro σ' H1 ⟨⟨x0, y0, z0, rfl⟩, e1, kk, hD, hK, hkl, hno⟩
    walk_at "go"
    refine hN ?_ H1 e1
    unfold findP
    rw [List.findSome?_eq_none_iff]
    intro p hp
    obtain ⟨i, hi, hz⟩ := List.getElem_of_mem hp
    rw [hno i p (by omega) (by rw [List.getElem?_eq_getElem hi, hz])]
    rfl
end

end PB
namespace PB
open PySem PySem.Spec PyProof.Rows L2
local macro_rules | `(tactic| walk_at "rd") => `(tactic| (repeat refine red ?_))
local macro_rules | `(tactic| walk_at "go") => `(tactic| (repeat (first | refine red ?_ | ((with_reducible apply k_var); rfl) | refine k_new fun _ _ => ?_ | refine wp_and rfl ?_ | refine if_redT rfl ?_ | refine if_redF rfl ?_)))
local macro_rules | `(tactic| walk_at "ga") => `(tactic| (repeat (first | refine red ?_ | ((with_reducible apply k_var); rfl) | ((with_reducible apply k_aug); rfl) | refine k_new fun _ _ => ?_ | refine wp_and rfl ?_ | refine if_redT rfl ?_ | refine if_redF rfl ?_)))
local macro_rules | `(tactic| walk_at "gq") => `(tactic| (repeat ((fail_if_success (with_reducible refine seq_stop ?_)); (first | refine red ?_ | ((with_reducible apply k_var); rfl) | refine k_new fun _ _ => ?_ | refine wp_and rfl ?_ | refine if_redT rfl ?_ | refine if_redF rfl ?_))))
local macro_rules | `(tactic| walk_at "ext") => `(tactic| (repeat (first | assumption | exact Ext.refl _ | refine Ext.newI ?_ | refine Ext.trans ?_ ‹Ext _ _›)))
local macro_rules | `(tactic| walk_at "rv") => `(tactic| (repeat (first | refine red ?_ | ((with_reducible apply k_var); rfl))))
/-! ### parted_by, parted, parted_paper, parted_over -/
theorem pics_len {cuts : Cuts} (ok : CutsOk cuts) : (picsOf cuts).length ≤ 1024 := by
  have h3 := ok.2.2
  have p8 : ∀ n, n ≤ 3 → 8 ^ n ≤ 512 := by decide
  have h1 : (rowsOf (bareCh cuts)).length ≤ 8 ^ (bareCh cuts).length := by
    have := rows_take (css := bareCh cuts) (fun cs hcs => by
      unfold bareCh at hcs
      obtain ⟨_, _, rfl⟩ := List.mem_map.mp hcs
      decide) (bareCh cuts).length (Nat.le_refl _)
    rw [List.take_length] at this
    exact this
  have h2 : (rowsOf (fullCh cuts)).length ≤ 8 ^ (fullCh cuts).length := by
    have := rows_take (css := fullCh cuts) (fun cs hcs => by
      unfold fullCh at hcs
      obtain ⟨q, hq, rfl⟩ := List.mem_map.mp hcs
      have := regs_len (ok.2.1 q hq).2
      rw [List.length_cons, List.length_map]
      omega) (fullCh cuts).length (Nat.le_refl _)
    rw [List.take_length] at this
    exact this
  have e1 := p8 (bareCh cuts).length (by unfold bareCh; rw [List.length_map]; omega)
  have e2 := p8 (fullCh cuts).length (by unfold fullCh; rw [List.length_map]; omega)
  unfold picsOf
  rw [List.length_append, List.length_map, List.length_map]
  omega
theorem RunR.hidL {K : PySem.W.Frag} {H : Hp} {v : V} {c : Cond} {cuts : Cuts} {p : Pict} {x : Addr} {xs : List V} (h : RunR K H v c cuts p) (hx : H x = some (.lst xs)) : RunR K (Hid x H) v c cuts p := by
  obtain ⟨y, dx, a, t, u, h1, h2, ⟨pa1, pb, hu, p1, p2⟩, ⟨dx', d, e, o1, o2, o3, o4⟩, h5⟩ := h
  exact ⟨y, dx, a, t, u, h1, Hid.at h2 (ne_of_at h2 hx fun z => nomatch z), ⟨pa1, pb, hu, Hid.at p1 (ne_of_at p1 hx fun z => nomatch z), Hid.at p2 (ne_of_at p2 hx fun z => nomatch z)⟩,
    ⟨dx', d, e, Hid.at o1 (ne_of_at o1 hx fun z => nomatch z), o2.hid hx (fun _ z => nomatch z) (fun _ z => nomatch z), Hid.at o3 (ne_of_at o3 hx fun z => nomatch z), o4⟩, Hid.at h5 (ne_of_at h5 hx fun z => nomatch z)⟩
theorem findN_mem {cuts : Cuts} {c : Cond} {ps : List Pict} {ns : List Nat} {p q : Pict} {n : Nat} (h : findN cuts c ps ns = some (p, q, n)) : p ∈ ps ∧ q ∈ ps ∧ n ∈ ns ∧ isParted cuts c p q n := by
  unfold findN at h
  obtain ⟨m, hm, h1⟩ := List.exists_of_findSome?_eq_some h
  rw [Option.map_eq_some_iff] at h1
  obtain ⟨r, h2, h1⟩ := h1
  cases h1
  unfold findP at h2
  obtain ⟨p', hp', h3⟩ := List.exists_of_findSome?_eq_some h2
  rw [Option.map_eq_some_iff] at h3
  obtain ⟨q', h4, h3⟩ := h3
  cases h3
  unfold findQ at h4
  have h5 := List.find?_some h4
  rw [decide_eq_true_iff] at h5
  exact ⟨hp', List.mem_of_find?_eq_some h4, hm, h5⟩
section
variable {w : World} {K : PySem.W.Frag} {mg : Str → Option Value} {base : Heap}
def pPartBy (K : PySem.W.Frag) (cond cuts : V) (H : Hp) (Q : VK) : Prop := ∃ (c : Cond) (d : Addr) (cs : Cuts), CA H c cond ∧ Good c ∧ FitC cs c ∧ cuts = .ref d ∧ CutsIs H d cs ∧
  (findN cs c (picsOf cs) (List.range' 1 c.ts.length) = none → ∀ H', Ext H H' → Q .non H') ∧ ∀ p q n, findN cs c (picsOf cs) (List.range' 1 c.ts.length) = some (p, q, n) → ∀ t u v H', Ext H H' → H' t = some (.tup [u, v, .int (n : Nat)]) → PictR H' u p → PictR H' v q → Q (.ref t) H'
theorem ok_parted_by  (T : Txt w K mg) : Cal PG w K mg base (29 + 1) "parted_by" (sp2 (pPartBy K)) := by
  obtain ⟨fd, F⟩ := T.d_parted_by
  refine cal_mk F T.g_parted_by sc_parted_by (fun _ _ _ _ _ _ us hl => match us, hl with | [_, _], _ => rfl) fun cdv A outer s0 H vs Q E hr h => ?_
  obtain ⟨cond, _, rfl, c, d, cs, hc, good, fit, rfl, cD, hN, hS⟩ := h
  have c_pictures_by := (ok_pictures_by (base := base) T).mono (show 5 ≤ 29 by omega)
  have c_parted_at := (ok_parted_at (base := base) T)
  have m_Run := mak_Run (base := base) T
  have hpl := pics_len cD.ok
  refine ⟨_, pss_cons (ps_setLc (i := 2) (own := [("told", 5)]) rfl sc_parted_by.nd rfl rfl (sw_true rfl rfl rfl (by decide +kernel)) (pi_seq (pe_cl c_pictures_by hr (by first | decide | omega) rfl (pa_cons (pv 1) pa_nil))) (blkOk_by (own := [("told", 5)]) (N := ["condition", "cuts", "runs", "count", "found", "told", "one"]) (sc := defScope S_parted_by) (by decide +kernel)) (fun _ _ _ _ _ => (pg_name (i := 5) sc_parted_by.nd rfl (by first | exact Or.inl rfl | exact Or.inr rfl))) (fun _ _ _ _ _ => pts_nil) (fun _ _ _ _ _ => (pe_mkc m_Run hr (by first | decide | omega) rfl (pa_cons (pv 0) (pa_cons (pv 1) (pa_cons (pv 5) pa_nil))))))
      (pss_cons (ps_for PassesOwn.never rfl (pi_range2 (by rfl) T.f_range (pa_cons (pe_int) (pa_cons (pe_callB (cr_max rfl) (by rfl) T.f_max (by decide +kernel) (pa_cons (pe_lc (own := [("one", 6)]) rfl sc_parted_by.nd (pi_seq (pv 2)) (blkOk_by (own := [("one", 6)]) (N := ["condition", "cuts", "runs", "count", "found", "told", "one"]) (sc := defScope S_parted_by) (by decide +kernel)) (fun _ _ _ _ _ => (pg_name (i := 6) sc_parted_by.nd rfl (by first | exact Or.inl rfl | exact Or.inr rfl))) (fun _ _ _ _ _ => pts_nil) (fun _ _ _ _ _ => (pe_callB (call_lenK (K := K) rfl) (by rfl) T.f_len (by decide +kernel) (pa_cons (pe_fldK (K := K) rfl (pv 6)) pa_nil)))) pa_nil)) pa_nil))) (pg_name (i := 3) sc_parted_by.nd rfl (by first | exact Or.inl rfl | exact Or.inr rfl)) (pss_cons (ps_set (i := 4) sc_parted_by.nd rfl (by first | exact Or.inl rfl | exact Or.inr rfl) (pe_cl c_parted_at hr (by first | decide | omega) rfl (pa_cons (pv 0) (pa_cons (pv 2) (pa_cons (pv 3) pa_nil)))))
      (pss_one (ps_if (pt_cmpR op_notNK (pv 4) (pe_non) (nomark _)) (pss_one (ps_ret (pe_tup (pa_cons (pe_fldK (K := K) rfl (pe_ix (ix_anyK (K := K) rfl) (pv 4) (pe_int) (fun _ _ => rfl))) (pa_cons (pe_fldK (K := K) rfl (pe_ix (ix_anyK (K := K) rfl) (pv 4) (pe_int) (fun _ _ => rfl))) (pa_cons (pv 3) pa_nil)))))) pss_nil))))
      (pss_one (ps_ret (pe_non)))), ?_⟩
  refine start_to (σ := [some _, some _, none, none, none, none, none]) rfl ?_
  try dsimp only [cxOf]
  walk_at "go"
  intro r ys H1 e1 hr1 hE1
  have hlen1 := hE1.len
  have : At H1 r (.lst ys) := ⟨hr1⟩
  walk_at "go"
  refine lc_ds (picsOf cs) some (RunsR K c cs) (fun e h => RunR.mono e h) hlen1 (by show ys.length ≤ 2 ^ 24; omega) ?_ ?_
  · intro i y p H2 H3 D hp e2 nD hA2 hy N1 N2 k1 k2
    obtain ⟨rfl, hy⟩ := hy
    obtain ⟨p', hp', hpr⟩ := hE1.get hy
    rw [hp] at hp'
    cases hp'
    walk_at "go"
    exact ⟨c, cs, p, CA.mono (e1.trans e2) c _ hc, good, @cutsis_ext H _ d _ (e1.trans e2) cD, fit, hpr.mono e2, pics_ok (List.mem_of_getElem? hp), fun x H4 e4 hR => k1 _ _ p e4 rfl (hR.hidL (e4.at hA2.choose_spec))⟩
  · intro D H2 zs nD e2 hD2 hE2
    rw [List.filterMap_some] at hE2
    have hE2' : Each (RunsR K c cs) H2 zs (picsOf cs) := hE2.mono fun v d => RunR.mono (Hid.sub D H2)
    have hzl := hE2'.len
    have : At H2 D (.lst zs) := ⟨hD2⟩
    walk_at "go"
    refine lc_ds (picsOf cs) (fun p => some ((ansOf cs c p).length)) (VR fun m : Nat => V.int (m : Nat)) (fun _ h => h) hzl (by show zs.length ≤ 2 ^ 24; omega) ?_ ?_
    · intro i y p H3 H4 D2 hp e3 nD2 hA3 hy N1 N2 k1 k2
      obtain ⟨rfl, hy⟩ := hy
      obtain ⟨p', hp', x1, dx, ra, rt, ru, rfl, hx1, hpr, hpo, hans⟩ := hE2'.get hy
      rw [hp] at hp'
      cases hp'
      have : At H4 x1 (.ins (He.ga K "Run") dx [("told", ru), ("answer", .ref ra), ("outcome", .str (run (pa0 cs p) c []).1.s), ("answers", .ref rt)]) := ⟨e3.at hx1⟩
      have : At H4 rt (.tup ((run (pa0 cs p) c []).2.map fun a => V.str a.s)) := ⟨e3.at hans⟩
      walk_at "go"
      rw [List.length_map]
      exact k1 _ _ ((ansOf cs c p).length) (Ext.refl _) rfl rfl
    · intro D2 H3 ms nD2 e3 hD3 hE3
      have hms : ms = ((picsOf cs).map fun p => (((ansOf cs c p).length : Nat) : Int)).map V.int := by
        rw [each_val hE3, List.filterMap_eq_map', List.map_map, List.map_map]
        rfl
      walk_at "go"
      refine ⟨D2, (picsOf cs).map fun p => (((ansOf cs c p).length : Nat) : Int), rfl, SqL.of (by rw [hD3, hms]), ?_, fun m hm hmax => ?_⟩
      · rw [List.length_map]
        exact List.length_pos_iff.mpr pics_ne
      obtain ⟨p0, hp0, rfl⟩ := List.mem_map.mp hm
      have hM4 := ansOf_len (cuts := cs) (p := p0) good
      have hMt : (ansOf cs c p0).length ≤ c.ts.length := by
        have := run_len (pa0 cs p0) c []
        simpa [ansOf] using this
      have hall : ∀ p, p ∈ picsOf cs → (ansOf cs c p).length ≤ (ansOf cs c p0).length := fun p hp => by
        have := hmax _ (List.mem_map.mpr ⟨p, hp, rfl⟩)
        omega
      generalize hM : (ansOf cs c p0).length = M at hM4 hMt hall
      walk_at "go"
      refine ⟨by omega, ?_⟩
      have e23 : Ext H2 H3 := e3
      have e03 : Ext H H3 := (e1.trans e2).trans e3
      refine for_go (fun j σ' H' => (∃ x y, σ' = [some cond, some (.ref d), some (.ref D), x, y, none, none]) ∧ Ext H3 H' ∧ ∀ i : Nat, i < j → findP cs c (1 + i) (picsOf cs) (picsOf cs) = none) ⟨⟨none, none, rfl⟩, Ext.refl _, fun i z => absurd z (Nat.not_lt_zero i)⟩ (fun j σ' H' _ q o ho => q.2.1.at ho) ?_ ?_
      · rintro j x σ' H4 H5 hj ⟨⟨x0, y0, rfl⟩, e4, hno⟩ ⟨rfl, rfl⟩
        have e25 := e3.trans e4
        have e05 := e03.trans e4
        walk_at "go"
        refine ⟨c, cs, D, zs, picsOf cs, 1 + j, CA.mono e05 c _ hc, good, fit, rfl, e25.at hD2, hE2'.mono fun v d => RunR.mono e25, by omega, congrArg V.int (by omega), by omega, fun hf H6 e6 => ?_, fun p q hf t u v H6 e6 ht hu hv => ?_⟩
        · walk_at "go"
          refine ⟨⟨_, _, rfl⟩, e4.trans e6, fun i hi => ?_⟩
          by_cases z : i = j
          · subst z; exact hf
          · exact hno i (by omega)
        · have : At H6 t (.tup [u, v]) := ⟨ht⟩
          obtain ⟨x1, dx, ra, rt, ru, rfl, hx1, hpr, hpo, hans⟩ := hu
          obtain ⟨x2, dx2, ra2, rt2, ru2, rfl, hx2, hpr2, hpo2, hans2⟩ := hv
          have : At H6 x1 (.ins (He.ga K "Run") dx [("told", ru), ("answer", .ref ra), ("outcome", .str (run (pa0 cs p) c []).1.s), ("answers", .ref rt)]) := ⟨hx1⟩
          have : At H6 x2 (.ins (He.ga K "Run") dx2 [("told", ru2), ("answer", .ref ra2), ("outcome", .str (run (pa0 cs q) c []).1.s), ("answers", .ref rt2)]) := ⟨hx2⟩
          walk_at "go"
          rename_i tt htt
          have e66 : Ext H6 (upd H6 tt (.tup [ru, ru2, .int (1 + (j : Int))])) := ext_upd
          refine hS p q (1 + j) ?_ tt ru ru2 _ ((e05.trans e6).trans e66) ?_ (hpr.mono e66) (hpr2.mono e66)
          · unfold findN
            refine findSome_at (m := j) (x := 1 + j) ?_ (by rw [hf]; rfl) fun i n hi hn => ?_
            · rw [List.getElem?_range' (by omega)]
              rw [Nat.one_mul]
            · rw [List.getElem?_range' (by omega), Nat.one_mul] at hn
              cases hn
              rw [hno i hi]
              rfl
          · rw [upd_same]
            congr 4
      · rintro σ' H4 ⟨⟨x0, y0, rfl⟩, e4, hno⟩
        walk_at "go"
        refine hN ?_ H4 (e03.trans e4)
        rw [findN_long hall hMt]
        unfold findN
        rw [List.findSome?_eq_none_iff]
        intro n hn
        rw [List.mem_range'_1] at hn
        have := hno (n - 1) (by omega)
        rw [show 1 + (n - 1) = n by omega] at this
        rw [this]
        rfl
def pParted (K : PySem.W.Frag) (cond : V) (H : Hp) (Q : VK) : Prop := ∃ (c : Cond), CA H c cond ∧ Good c ∧
  (findN (cutsOf c.ts) c (picsOf (cutsOf c.ts)) (List.range' 1 c.ts.length) = none → ∀ H', Ext H H' → Q .non H') ∧ ∀ p q n, findN (cutsOf c.ts) c (picsOf (cutsOf c.ts)) (List.range' 1 c.ts.length) = some (p, q, n) → ∀ t u v H', Ext H H' → H' t = some (.tup [u, v, .int (n : Nat)]) → PictR H' u p → PictR H' v q → Q (.ref t) H'
theorem ok_parted  (T : Txt w K mg) : Cal PG w K mg base (30 + 1) "parted" (sp1 (pParted K)) := by
  obtain ⟨fd, F⟩ := T.d_parted
  refine cal_mk F T.g_parted sc_parted (fun _ _ _ _ _ _ us hl => match us, hl with | [_], _ => rfl) fun cdv A outer s0 H vs Q E hr h => ?_
  obtain ⟨_, rfl, c, hc, good, hN, hS⟩ := h
  have c_cuts_of := (ok_cuts_of (base := base) T).mono (show 14 ≤ 30 by omega)
  have c_parted_by := (ok_parted_by (base := base) T)
  refine ⟨_, pss_one (ps_ret (pe_cl c_parted_by hr (by first | decide | omega) rfl (pa_cons (pv 0) (pa_cons (pe_cl c_cuts_of hr (by first | decide | omega) rfl (pa_cons (pv 0) pa_nil)) pa_nil)))), ?_⟩
  refine start_to (σ := [some _]) rfl ?_
  try dsimp only [cxOf]
  walk_at "go"
  refine ⟨c, hc, good, fun d H1 e1 cD => ?_⟩
  walk_at "go"
  exact ⟨c, d, cutsOf c.ts, CA.mono e1 c _ hc, good, fit_cuts, rfl, cD, fun hf H2 e2 => hN hf H2 (e1.trans e2), fun p q n hf t u v H2 e2 ht hu hv => hS p q n hf t u v H2 (e1.trans e2) ht hu hv⟩
/-- the deeds of a past, in a list -/
def DsL (H : Hp) (v : V) (adds : Adds) (row : Bool) : Prop := ∃ a vs, v = .ref a ∧ H a = some (.lst vs) ∧ Each DeedR H vs (dsOf adds row)
theorem DsL.mono {H H' : Hp} {v : V} {adds : Adds} {row : Bool} (e : Ext H H') (h : DsL H v adds row) : DsL H' v adds row := by
  obtain ⟨a, vs, x, y, z⟩ := h
  exact ⟨a, vs, x, e.at y, z.mono fun v d => DeedR.mono e⟩
def pPaper (K : PySem.W.Frag) (cond : V) (H : Hp) (Q : VK) : Prop := ∃ (c : Cond), CA H c cond ∧ Good c ∧
  (findN (cutsOf c.ts) c (picsOf (cutsOf c.ts)) (List.range' 1 c.ts.length) = none → ∀ H', Ext H H' → Q .non H') ∧ ∀ p q n, findN (cutsOf c.ts) c (picsOf (cutsOf c.ts)) (List.range' 1 c.ts.length) = some (p, q, n) →
    ∀ t u v H', Ext H H' → H' t = some (.tup [.str "parted", u, v, .int (n : Nat)]) → DsL H' u (addsOf (cutsOf c.ts) p) p.row → DsL H' v (addsOf (cutsOf c.ts) q) q.row → Q (.ref t) H'
theorem ok_parted_paper  (T : Txt w K mg) : Cal PG w K mg base (30 + 1) "parted_paper" (sp1 (pPaper K)) := by
  obtain ⟨fd, F⟩ := T.d_parted_paper
  refine cal_mk F T.g_parted_paper sc_parted_paper (fun _ _ _ _ _ _ us hl => match us, hl with | [_], _ => rfl) fun cdv A outer s0 H vs Q E hr h => ?_
  obtain ⟨cond, rfl, c, hc, good, hN, hS⟩ := h
  have c_cuts_of := (ok_cuts_of (base := base) T).mono (show 14 ≤ 30 by omega)
  have c_parted_by := (ok_parted_by (base := base) T)
  have c_past_by := (ok_past_by (base := base) T).mono (show 10 ≤ 30 by omega)
  have m_deeds := met_Past_deeds (base := base) T
  refine ⟨_, pss_cons (ps_set (i := 1) sc_parted_paper.nd rfl (by first | exact Or.inl rfl | exact Or.inr rfl) (pe_cl c_cuts_of hr (by first | decide | omega) rfl (pa_cons (pv 0) pa_nil)))
      (pss_cons (ps_set (i := 2) sc_parted_paper.nd rfl (by first | exact Or.inl rfl | exact Or.inr rfl) (pe_cl c_parted_by hr (by first | decide | omega) rfl (pa_cons (pv 0) (pa_cons (pv 1) pa_nil))))
      (pss_cons (ps_if (pt_cmpR op_isNK (pv 2) (pe_non) (nomark _)) (pss_one (ps_ret (pe_non))) pss_nil)
      (pss_cons (ps_asg (pv 2) (pg_tupK (K := K) (n := 3) rfl rfl (pgs_cons (pg_name (i := 3) sc_parted_paper.nd rfl (by first | exact Or.inl rfl | exact Or.inr rfl)) (pgs_cons (pg_name (i := 4) sc_parted_paper.nd rfl (by first | exact Or.inl rfl | exact Or.inr rfl)) (pgs_cons (pg_name (i := 5) sc_parted_paper.nd rfl (by first | exact Or.inl rfl | exact Or.inr rfl)) pgs_nil)))))
      (pss_one (ps_ret (pe_tup (pa_cons (pe_str) (pa_cons (pe_mtc m_deeds hr (by first | decide | omega) (pe_cl c_past_by hr (by first | decide | omega) rfl (pa_cons (pv 1) (pa_cons (pv 3) pa_nil)))) (pa_cons (pe_mtc m_deeds hr (by first | decide | omega) (pe_cl c_past_by hr (by first | decide | omega) rfl (pa_cons (pv 1) (pa_cons (pv 4) pa_nil)))) (pa_cons (pv 5) pa_nil)))))))))), ?_⟩
  refine start_to (σ := [some _, none, none, none, none, none]) rfl ?_
  try dsimp only [cxOf]
  walk_at "go"
  refine ⟨c, hc, good, fun d H1 e1 cD => ?_⟩
  walk_at "go"
  refine ⟨c, d, cutsOf c.ts, CA.mono e1 c _ hc, good, fit_cuts, rfl, cD, fun hf H2 e2 => ?_, fun p q n hf t u v H2 e2 ht hu hv => ?_⟩
  · walk_at "go"
    exact hN hf H2 (e1.trans e2)
  · have hmem := findN_mem hf
    have : At H2 t (.tup [u, v, .int (n : Nat)]) := ⟨ht⟩
    obtain ⟨u1, u2, rfl, hu1, hu2⟩ := id hu
    walk_at "go"
    refine ⟨d, cutsOf c.ts, p, rfl, @cutsis_ext H1 _ d _ e2 cD, hu, pics_ok hmem.1, fun x H3 e3 hx => ?_⟩
    walk_at "go"
    intro r1 vs1 H4 e4 nr1 hr1 hE1
    obtain ⟨v1, v2, rfl, hv1, hv2⟩ := id hv
    walk_at "go"
    have e24 : Ext H2 H4 := e3.trans e4
    refine ⟨d, cutsOf c.ts, q, rfl, @cutsis_ext H1 _ d _ (e2.trans e24) cD, hv.mono e24, pics_ok hmem.2.1, fun x2 H5 e5 hx2 => ?_⟩
    walk_at "go"
    intro r2 vs2 H6 e6 nr2 hr2 hE2
    walk_at "go"
    rename_i tt htt
    have e46 := e5.trans e6
    have e67 : Ext H6 (upd H6 tt (.tup [.str "parted", .ref r1, .ref r2, .int (n : Nat)])) := ext_upd
    exact hS p q n hf tt _ _ _ ((((e1.trans e2).trans e24).trans e46).trans e67) upd_same (DsL.mono (e46.trans e67) ⟨r1, vs1, rfl, hr1, hE1⟩) (DsL.mono e67 ⟨r2, vs2, rfl, hr2, hE2⟩)
end

end PB
namespace PB
open PySem PySem.Spec PyProof.Rows L2
local macro_rules | `(tactic| walk_at "rd") => `(tactic| (repeat refine red ?_))
local macro_rules | `(tactic| walk_at "go") => `(tactic| (repeat (first | refine red ?_ | ((with_reducible apply k_var); rfl) | refine k_new fun _ _ => ?_ | refine wp_and rfl ?_ | refine if_redT rfl ?_ | refine if_redF rfl ?_)))
local macro_rules | `(tactic| walk_at "ga") => `(tactic| (repeat (first | refine red ?_ | ((with_reducible apply k_var); rfl) | ((with_reducible apply k_aug); rfl) | refine k_new fun _ _ => ?_ | refine wp_and rfl ?_ | refine if_redT rfl ?_ | refine if_redF rfl ?_)))
local macro_rules | `(tactic| walk_at "gq") => `(tactic| (repeat ((fail_if_success (with_reducible refine seq_stop ?_)); (first | refine red ?_ | ((with_reducible apply k_var); rfl) | refine k_new fun _ _ => ?_ | refine wp_and rfl ?_ | refine if_redT rfl ?_ | refine if_redF rfl ?_))))
local macro_rules | `(tactic| walk_at "ext") => `(tactic| (repeat (first | assumption | exact Ext.refl _ | refine Ext.newI ?_ | refine Ext.trans ?_ ‹Ext _ _›)))
local macro_rules | `(tactic| walk_at "rv") => `(tactic| (repeat (first | refine red ?_ | ((with_reducible apply k_var); rfl))))
/-! ### parted_over -/
theorem an_fold {α : Type} (g : α → Ans) (ts : List α) : ∀ (kvs : List (Key × Unit)) (ks : List Ans), kvs.map (·.1) = ks.map (fun a => (Sum.inr a.s : Key)) → (ts.foldl (dcF fun p => some (((.inr (g p).s, ()) : Key × Unit))) kvs).map (·.1) = ((ts.map g).foldl anAcc ks).map fun a => (Sum.inr a.s : Key) := by
  induction ts with
  | nil => intro kvs ks h; exact h
  | cons t r ih =>
    intro kvs ks h
    rw [List.map_cons, List.foldl_cons, List.foldl_cons]
    refine ih _ _ ?_
    exact putB_keys (g := fun a : Ans => (Sum.inr a.s : Key)) (fun a b e => s_inj (by injection e)) h
def outsOf (cs : Cuts) (c : Cond) : List Ans := (picsOf cs).map fun p => outOf cs c p
section
variable {w : World} {K : PySem.W.Frag} {mg : Str → Option Value} {base : Heap}
def pOver (cond : V) (H : Hp) (Q : VK) : Prop := ∃ (c : Cond), CA H c cond ∧ Good c ∧ ∀ H', Ext H H' → Q (.bl (decide (1 < ((outsOf (cutsOf c.ts) c).foldl anAcc []).length))) H'
theorem ok_parted_over  (T : Txt w K mg) : Cal PG w K mg base (29 + 1) "parted_over" (sp1 pOver) := by
  obtain ⟨fd, F⟩ := T.d_parted_over
  refine cal_mk F T.g_parted_over sc_parted_over (fun _ _ _ _ _ _ us hl => match us, hl with | [_], _ => rfl) fun cdv A outer s0 H vs Q E hr h => ?_
  obtain ⟨cond, rfl, c, hc, good, h⟩ := h
  have c_cuts_of := (ok_cuts_of (base := base) T).mono (show 14 ≤ 29 by omega)
  have c_pictures_by := (ok_pictures_by (base := base) T).mono (show 5 ≤ 29 by omega)
  have m_Run := mak_Run (base := base) T
  refine ⟨_, pss_cons (ps_set (i := 1) sc_parted_over.nd rfl (by first | exact Or.inl rfl | exact Or.inr rfl) (pe_cl c_cuts_of hr (by first | decide | omega) rfl (pa_cons (pv 0) pa_nil)))
      (pss_cons (ps_setDc (i := 2) (own := [("told", 3)]) rfl sc_parted_over.nd rfl rfl (sw_trueD rfl rfl rfl (by decide +kernel)) (pi_seq (pe_cl c_pictures_by hr (by first | decide | omega) rfl (pa_cons (pv 1) pa_nil))) (blkOk_by (own := [("told", 3)]) (N := ["condition", "cuts", "found", "told"]) (sc := defScope S_parted_over) (by decide +kernel)) (fun _ _ _ _ _ => (pg_name (i := 3) sc_parted_over.nd rfl (by first | exact Or.inl rfl | exact Or.inr rfl))) (fun _ _ _ _ _ => pts_nil) (fun _ _ _ _ _ => (pe_fldK (K := K) rfl (pe_mkc m_Run hr (by first | decide | omega) rfl (pa_cons (pv 0) (pa_cons (pv 1) (pa_cons (pv 3) pa_nil)))))) (fun _ _ _ _ _ => (pe_bl)))
      (pss_one (ps_ret (pe_cmpR op_gt (pe_callB (call_lenK (K := K) rfl) (by rfl) T.f_len (by decide +kernel) (pa_cons (pv 2) pa_nil)) (pe_int) (nomark _))))), ?_⟩
  refine start_to (σ := [some _, none, none, none]) rfl ?_
  try dsimp only [cxOf]
  walk_at "go"
  refine ⟨c, hc, good, fun d H1 e1 cD => ?_⟩
  have hpl := pics_len cD.ok
  walk_at "go"
  intro r ys H2 e2 hr1 hE1
  have hlen1 := hE1.len
  have : At H2 r (.lst ys) := ⟨hr1⟩
  walk_at "go"
  refine dc_ds (picsOf (cutsOf c.ts)) (fun p => some (((.inr (outOf (cutsOf c.ts) c p).s, ()) : Key × Unit))) (fun _ v (_ : Unit) => v = V.bl true) (fun _ h => h) hlen1 (by show ys.length ≤ 2 ^ 24; omega) ?_ ?_
  · intro i y p H3 H4 D hp e3 nD hA3 hy N1 N2 k1 k2
    obtain ⟨rfl, hy⟩ := hy
    obtain ⟨p', hp', hpr⟩ := hE1.get hy
    rw [hp] at hp'
    cases hp'
    have e24 := e2.trans e3
    walk_at "go"
    refine ⟨c, cutsOf c.ts, p, CA.mono (e1.trans e24) c _ hc, good, @cutsis_ext H1 _ d _ e24 cD, fit_cuts, hpr.mono e3, pics_ok (List.mem_of_getElem? hp), fun x H5 e5 hR => ?_⟩
    obtain ⟨x1, dx, ra, rt, ru, hv, hx1, hpr, hpo, hans⟩ := hR
    cases hv
    have : At H5 x (.ins (He.ga K "Run") dx [("told", ru), ("answer", .ref ra), ("outcome", .str (run (pa0 (cutsOf c.ts) p) c []).1.s), ("answers", .ref rt)]) := ⟨hx1⟩
    walk_at "go"
    exact k1 (.inr (outOf (cutsOf c.ts) c p).s) _ _ () e5 rfl rfl
  · intro D H3 kvs nD e3 hD hK
    have : At H3 D (.dK kvs) := ⟨hD⟩
    walk_at "go"
    have hl : kvs.length = ((outsOf (cutsOf c.ts) c).foldl anAcc []).length := by
      have h1 := Paired.length hK
      have h2 := congrArg List.length (an_fold (fun p => outOf (cutsOf c.ts) c p) (picsOf (cutsOf c.ts)) [] [] rfl)
      rw [List.length_map, List.length_map] at h2
      exact h1.trans h2
    have := h H3 ((e1.trans e2).trans e3)
    rw [← hl] at this
    have e : decide (1 < kvs.length) = decide ((1 : Int) < ((kvs.length : Nat) : Int)) := by rw [decide_eq_decide]; omega
    rw [e] at this
    exact this
end

end PB
namespace PB
open PySem PySem.Spec PyProof.Rows L2
local macro_rules | `(tactic| walk_at "rd") => `(tactic| (repeat refine red ?_))
local macro_rules | `(tactic| walk_at "go") => `(tactic| (repeat (first | refine red ?_ | ((with_reducible apply k_var); rfl) | refine k_new fun _ _ => ?_ | refine wp_and rfl ?_ | refine if_redT rfl ?_ | refine if_redF rfl ?_)))

local macro_rules | `(tactic| walk_at "ext") => `(tactic| (repeat (first | assumption | exact Ext.refl _ | refine Ext.newI ?_ | refine Ext.trans ?_ ‹Ext _ _›)))
local macro_rules | `(tactic| walk_at "rv") => `(tactic| (repeat (first | refine red ?_ | ((with_reducible apply k_var); rfl))))
/-! ### None in a list of things with an own == -/
section
open PySem.SeqAt GQ PySem.AutoSeq1 PySem.MeetsSeq PySem.MeetsSeq2 PySem.MeetsSeq3 PySem.SeqRoads2
def ListC (prog : Program) (w : World) (A : Around) (E : Value → Shared → Prop) (l : Addr) (x : Value) (N : Nat) (I : Nat → Shared → Prop) : Prop :=
  ∀ i s, I i s → ∃ (items : Array Value) (n : Nat), s.heap.get? l = some { cls := .type "list", data := .seq items n } ∧ items.size = N ∧
    ∀ (h1 : i < items.size), wpAny (model prog w) A.in1 (eqBool items[i] x) (fun r s' => r = false ∧ I (i + 1) s') E s
variable {prog : Program} {w : World} {A : Around} {R : Result → Shared → Prop}
theorem cont_loopG (l : Addr) (x : Value) (N : Nat) (I : Nat → Shared → Prop) (hl : ListC prog w A (fun e s' => R (.error e) s') l x N I)
    (fin : ∀ s, I N s → R (.ok (.ret (.bool false))) s) (k : Nat) :
    ∀ i : Nat, N - i = k → i ≤ N → ∀ s, I i s →
      wpAny (model prog w) A.in1 (Builtin.«list.__contains__.loop» ⟨[.ref l, x, rawInt i], []⟩) (FinOf prog w A R) (fun e s' => R (.error e) s') s := by
  induction k with
  | zero =>
    intro i hk hi s h
    obtain ⟨items, n, hl1, hs1, _⟩ := hl _ _ h
    have hi' : i = N := by omega
    have hR : R (.ok (.ret (.bool false))) s := fin s (hi' ▸ h)
    obtain ⟨hp, g, d, tk, os⟩ := s
    wp_walk using wpAny_loadPart' hl1
    have hi1 : items[((i : Nat) : Int).toNat]? = none := by simp; omega
    rw [hi1]
    wp_walk
    exact hR
  | succ k ih =>
    intro i hk hi s h
    obtain ⟨items, n, hl1, hs1, turn⟩ := hl _ _ h
    have hlt : i < items.size := by omega
    have ht := turn hlt
    obtain ⟨hp, g, d, tk, os⟩ := s
    wp_walk using wpAny_loadPart' hl1
    have hi1 : items[((i : Nat) : Int).toNat]? = some items[i] := by simp [hlt]
    have hc : ((i : Int) + 1) = ((i + 1 : Nat) : Int) := by omega
    rw [hi1]
    refine wpAny_bind (wpAny_mono ht (fun r s2 h2 => ?_) fun _ _ x => x)
    obtain ⟨hr, h2⟩ := h2
    subst hr
    have hrec := ih (i + 1) (by omega) (by omega) s2 h2
    obtain ⟨hp2, g2, d2, tk2, os2⟩ := s2
    wp_walk
    rw [hc]
    exact ⟨plainId_quiet plain_contains_loop _, codeAny_builtin entry_contains_loop (by
      rw [Around.under_plainId plain_contains_loop _]
      exact hrec)⟩
theorem list_contG (l : Addr) (x : Value) (N : Nat) (I : Nat → Shared → Prop) (hl : ListC prog w A (fun e s' => R (.error e) s') l x N I)
    (fin : ∀ s, I N s → R (.ok (.ret (.bool false))) s) {s : Shared} (h : I 0 s) :
    wpAny (model prog w) A.in1 (Builtin.«list.__contains__» ⟨[.ref l, x], []⟩) (FinOf prog w A R) (fun e s' => R (.error e) s') s := by
  obtain ⟨items, n, hl1, hs1, _⟩ := hl _ _ h
  have hrec := cont_loopG (A := A) (R := R) l x N I hl fin _ 0 rfl (Nat.zero_le _) s h
  obtain ⟨hp, g, d, tk, os⟩ := s
  wp_walk using wpAny_loadPart' hl1
  exact ⟨plainId_quiet plain_contains_loop _, codeAny_builtin entry_contains_loop (by
    rw [Around.under_plainId plain_contains_loop _]
    exact hrec)⟩
theorem in_listG {E : Value → Shared → Prop} {s : Shared} {l : Addr} {x : Value} {N : Nat} {Q : Value → Shared → Prop} (I : Nat → Shared → Prop) (hl : ListC prog w A E l x N I)
    (fin : ∀ s, I N s → Q (.bool false) s) (h : I 0 s) : wpAny (model prog w) A (compareOp .In x (.ref l)) Q E s := by
  obtain ⟨items, n, ho, _, _⟩ := hl _ _ h
  show wpAny _ A (do return .bool (← contains (.ref l) x)) Q E s
  refine wpAny_bind (wpAny_contains_slot ⟨_, ho, rfl⟩ F.slot_list_contains (wpAny_mono (GQ.call_here (Q := fun v s' => v = .bool false ∧ Q (.bool false) s') F.slot_list_contains ⟨_, ho, rfl⟩ F.entry_list_contains (F.args_list_contains_2 _ _)
    (list_contG (R := wants (fun v s' => v = .bool false ∧ Q (.bool false) s') E) l x N I hl (fun s' q => ⟨rfl, fin s' q⟩) h)) (fun v s' hv => ?_) fun _ _ e => e))
  obtain ⟨rfl, hq⟩ := hv
  exact wpAny_truthy_bool (wpAny_pure hq)
end
/-- what an own == promises for None -/
def pEqN (C : Addr) (x y : V) (H : Hp) (Q : VK) : Prop := ∃ a dx fs, x = .ref a ∧ y = .non ∧ H a = some (.ins C dx fs) ∧ ∀ H', Ext H H' → Q (.bl false) H'
def rInN (C : Addr) : R2 := fun x y H Q => ∃ p xs, x = .non ∧ y = .ref p ∧ H p = some (.lst xs) ∧ (∀ z, z ∈ xs → ∃ a dx fs, z = .ref a ∧ H a = some (.ins C dx fs)) ∧ ∀ H', Ext H H' → Q (.bl false) H'
theorem l2ext {H H' : Hp} (e : Ext H H') : L2.Ext H H' := fun a o h => e.h a o h
theorem ext2 {H H' : Hp} (e : L2.Ext H H') : Ext H H' := ⟨fun a o h => e a o h⟩
theorem rc_none {X : Cx} {n : Nat} {C f : Addr} {fd : FuncData} {ps : List Str} (F : FnOk X.prog X.w X.K X.mg X.base CX0 n f fd ps (sp2 (pEqN C)).sp)
    (hs : PySem.W.findIn X.K (.ref C) "__eq__" = some (some (.ref f))) (hf : PySem.W.isFn X.K (.ref f) = true) (hb : Binds X.K fd ps [])
    (A : Around) (pins : List (Addr × Obj)) (s : Shared) (σ : L2.St) (H : Hp) (a dx : Addr) (fs : List (Str × V)) (sb : Sub X n A) (I : Inv X pins σ H s) (ha : H a = some (.ins C dx fs)) :
    wpAny (model X.prog X.w) A (richCompare .Eq (.ref a) .none) (fun r s' => r = .bool false ∧ ∃ H', Inv X pins σ H' s' ∧ Ext H H') X.xe s := by
  obtain ⟨mA, J, _⟩ := ins_get I.hok ha
  obtain ⟨od, J, _⟩ := J.look
  obtain ⟨m, hF⟩ := I.fr
  refine PySem.W.cmp_K (op := .Eq) (tb := .type "NoneType") sb.room.units0 hF I.ok.mod.kin J (PySem.W.Looks.of_pure rfl) (by rfl) hs hf ?_
  have hx : Passes CX0 X (fun _ _ _ => False) := pass0
  have hsp : (sp2 (pEqN C)).sp [.ref a, .non] H (fun v H' => v = .bl false ∧ Ext H H') (fun _ _ _ => False) := ⟨.ref a, .non, rfl, a, dx, fs, rfl, rfl, ha, fun H' e => ⟨rfl, e⟩⟩
  have e0 : Env0 X.prog X.w X.K X.mg X.base A X.stack s H := by
    have e := I.env0
    exact ⟨by rw [sb.fr]; exact e.frames, e.mod, e.bs, e.bsz, e.funs, e.frf, e.hok, e.bare⟩
  have hl := F.len _ _ _ _ hsp
  have r2 : Vals [V.ref a, V.non] [Value.ref a, Value.none] := .cons rfl (.cons rfl .nil)
  refine wpAny_call (codeAny_mono (F.run A X.stack s H ⟨[.ref a, .none], []⟩ [.ref a, .none] [.ref a, .non] _ _ sb.room e0 (by
    have := hb s [.ref a, .none] I.kIn (by simpa using hl)
    simpa using this) r2 hsp) fun r s' hq => ?_)
  cases r with
  | error e => exact hx pins σ H s e s' I hq
  | ok fl =>
    cases fl with
    | ret w =>
      obtain ⟨z, H', I', rz, ez, ex⟩ := I.after hq
      subst ez
      cases rz
      exact ⟨rfl, H', I', ex⟩
    | next => exact False.elim hq
    | brk => exact False.elim hq
    | cont => exact False.elim hq
theorem op_inN {X : Cx} {n : Nat} {C f : Addr} {fd : FuncData} {ps : List Str} (F : FnOk X.prog X.w X.K X.mg X.base CX0 n f fd ps (sp2 (pEqN C)).sp)
    (hs : PySem.W.findIn X.K (.ref C) "__eq__" = some (some (.ref f))) (hf : PySem.W.isFn X.K (.ref f) = true) (hb : Binds X.K fd ps []) (hr : Room (n + 1) X.A) : OpR X (compareOp .In) (rInN C) := by
  intro pins s σ H x y v u Q I rx ry h
  obtain ⟨p, xs, rfl, rfl, hp, hall, q⟩ := h
  cases rx
  cases ry
  have sb : Sub X (n + 1) X.A := ⟨hr, rfl⟩
  refine in_listG (N := xs.length) (fun _ s' => ∃ H', Inv X pins σ H' s' ∧ Ext H H') (fun i s' l => ?_) (fun s' l => ?_) ⟨H, I, Ext.refl H⟩
  · obtain ⟨H1, I1, e1⟩ := l
    obtain ⟨z, its, k, r, e⟩ := I1.hok p _ (e1.at hp)
    refine ⟨its.toArray, k, e, by rw [List.size_toArray, ← r.length], fun h1 => ?_⟩
    have k1 : i < xs.length := by rw [r.length]; simpa using h1
    obtain ⟨u, hu, ru⟩ := r.get (List.getElem?_eq_getElem k1)
    have g1 : its[i]? = some its.toArray[i] := by
      have h1' : i < its.length := by simpa using h1
      rw [List.getElem?_eq_getElem h1'] <;> simp
    rw [g1] at hu
    rw [Option.some.inj hu]
    obtain ⟨a, dx, fs, ha, hi⟩ := hall _ (List.getElem_mem k1)
    rw [ha] at ru
    cases ru
    unfold eqBool
    refine wpAny_holding ?_
    refine wpAny_ite_split (fun hab => absurd (eq_of_beq hab) (fun z => nomatch z)) (fun _ => ?_)
    refine wpAny_bind (wpAny_mono (rc_none F hs hf hb X.A.in1 pins s' σ H1 a dx fs sb.in1 I1 (e1.at hi)) (fun v s2 hv => ?_) fun _ _ x => x)
    obtain ⟨rfl, H2, I2, e2⟩ := hv
    exact wpAny_truthy_bool ⟨rfl, H2, I2, e1.trans e2⟩
  · obtain ⟨H1, I1, e1⟩ := l
    exact ⟨.bl false, H1, I1, rfl, q H1 e1⟩
theorem op_inM {X : Cx} {n j : Nat} {C : Addr} (m : Met X.prog X.w X.K X.mg X.base n C "__eq__" (sp2 (pEqN C))) (hr : Room j X.A) (hk : n + 1 ≤ j) : OpR X (compareOp .In) (rInN C) := by
  obtain ⟨f, fd, ps, hc, hm, F, hb⟩ := m.ex
  exact op_inN F hm.at_ hm.fn hb (hr.mono hk)

end PB
namespace PB
open PySem PySem.Spec PyProof.Rows L2
local macro_rules | `(tactic| walk_at "rd") => `(tactic| (repeat refine red ?_))
local macro_rules | `(tactic| walk_at "go") => `(tactic| (repeat (first | refine red ?_ | ((with_reducible apply k_var); rfl) | refine k_new fun _ _ => ?_ | refine wp_and rfl ?_ | refine if_redT rfl ?_ | refine if_redF rfl ?_)))

local macro_rules | `(tactic| walk_at "ext") => `(tactic| (repeat (first | assumption | exact Ext.refl _ | refine Ext.newI ?_ | refine Ext.trans ?_ ‹Ext _ _›)))
local macro_rules | `(tactic| walk_at "rv") => `(tactic| (repeat (first | refine red ?_ | ((with_reducible apply k_var); rfl))))
/-! ### a list unpacked into names -/
def gUnK (K : PySem.W.Frag) (n : Nat) (t : TGs) : TG := fun v σ H Q => ∃ a xs, v = .ref a ∧ SqL K H a xs ∧ xs.length = n ∧ t xs σ H Q
theorem pg_unlK {X : Cx} {K : PySem.W.Frag} {es : List Expr} {k : Nat} {pos : Pos} {t : TGs} {n : Nat} (hK : X.K = K) (hc : X.calm = true) (h : PGs X es t)
    (hn : (assignEach es X.env).length = n := by rfl) (hst : (assignEach es X.env).findIdx? (·.1) = none := by rfl) : L2.PG X (.Tuple es k pos) (gUnK K n t) := by
  subst hK
  exact pg_unl hc h hn hst
section
variable {K : PySem.W.Frag} {σ : L2.St} {H : Hp} {a : Addr} {xs : List V} {n : Nat} {t : TGs} {Q : L2.St → Hp → Prop}
instance [s : LstA K H a xs] : Red (gUnK K n t (.ref a) σ H Q) (xs.length = n ∧ t xs σ H Q) := ⟨fun h => ⟨a, xs, rfl, s.h, h.1, h.2⟩⟩
end

end PB
namespace PB
open PySem PySem.Spec PyProof.Rows L2
local macro_rules | `(tactic| walk_at "rd") => `(tactic| (repeat refine red ?_))
local macro_rules | `(tactic| walk_at "go") => `(tactic| (repeat (first | refine red ?_ | ((with_reducible apply k_var); rfl) | refine k_new fun _ _ => ?_ | refine wp_and rfl ?_ | refine if_redT rfl ?_ | refine if_redF rfl ?_)))
local macro_rules | `(tactic| walk_at "ga") => `(tactic| (repeat (first | refine red ?_ | ((with_reducible apply k_var); rfl) | ((with_reducible apply k_aug); rfl) | refine k_new fun _ _ => ?_ | refine wp_and rfl ?_ | refine if_redT rfl ?_ | refine if_redF rfl ?_)))
local macro_rules | `(tactic| walk_at "gq") => `(tactic| (repeat ((fail_if_success (with_reducible refine seq_stop ?_)); (first | refine red ?_ | ((with_reducible apply k_var); rfl) | refine k_new fun _ _ => ?_ | refine wp_and rfl ?_ | refine if_redT rfl ?_ | refine if_redF rfl ?_))))
local macro_rules | `(tactic| walk_at "ext") => `(tactic| (repeat (first | assumption | exact Ext.refl _ | refine Ext.newI ?_ | refine Ext.trans ?_ ‹Ext _ _›)))
local macro_rules | `(tactic| walk_at "rv") => `(tactic| (repeat (first | refine red ?_ | ((with_reducible apply k_var); rfl))))
/-! ### papers: past_of_deeds, accepts_parted -/
section
variable {w : World} {K : PySem.W.Frag} {mg : Str → Option Value} {base : Heap}
theorem met_Past_eq  (T : Txt w K mg) : Met PG w K mg base (0 + 1) (He.ga K "Past") "__eq__" (sp2 (pEqN (He.ga K "Past"))) := by
  obtain ⟨fd, F⟩ := T.d_Past_eq
  refine ⟨_, fd, ["self", "other"], T.cls_Past, T.m_Past_eq, fn_mk F sc_Past_eq (fun cdv A outer s0 H vs Q E hr h => ?_), F.bindsN (fun _ _ _ _ _ _ us hl => match us, hl with | [_, _], _ => rfl)⟩
  obtain ⟨_, _, rfl, a, dx, fs, rfl, rfl, ha, h⟩ := h
  refine ⟨_, pss_one (ps_ret (pe_and (pe_callB (call_isiK2 (K := K) rfl) (by rfl) T.f_isinstance (by decide +kernel) (pa_cons (pv 1) (pa_cons (pe_gv rfl T.cv_Past) pa_nil))) (pe_one (pe_never)))), ?_⟩
  refine start_to (σ := [some _, some _]) rfl ?_
  try dsimp only [cxOf]
  walk_at "go"
  refine ⟨.non, _, _, _, false, rfl, .own _, .base .non, T.pastN, ?_⟩
  walk_at "go"
  exact h _ (Ext.refl _)
def pPod (K : PySem.W.Frag) (v : V) (H : Hp) (Q : VK) : Prop := ∃ adds row, DsL H v adds row ∧ AddsOk adds ∧ ∀ x H', Ext H H' → PastOf K H' (.ref x) adds row → Q (.ref x) H'
theorem ok_past_of_deeds  (T : Txt w K mg) : Cal PG w K mg base (9 + 1) "past_of_deeds" (sp1 (pPod K)) := by
  obtain ⟨fd, F⟩ := T.d_past_of_deeds
  refine cal_mk F T.g_past_of_deeds sc_past_of_deeds (fun _ _ _ _ _ _ us hl => match us, hl with | [_], _ => rfl) fun cdv A outer s0 H vs Q E hr h => ?_
  obtain ⟨_, rfl, adds, row, ⟨a, vs, rfl, hA, hE⟩, ok, h⟩ := h
  have c_is_line := (ok_is_line (base := base) T).mono (show 1 ≤ 9 by omega)
  have m_Past := mak_Past (base := base) T
  have : At H a (.lst vs) := ⟨hA⟩
  refine ⟨_, pss_cons (ps_if (pt_not (pt_val (pe_cl c_is_line hr (by first | decide | omega) rfl (pa_cons (pv 0) pa_nil)))) (pss_one (ps_ret (pe_non))) pss_nil)
      (pss_one (ps_try_thru0 (pss_one (ps_ret (pe_mkc m_Past hr (by first | decide | omega) rfl (pa_cons (pv 0) pa_nil)))))), ?_⟩
  refine start_to (σ := [some _]) rfl ?_
  try dsimp only [cxOf]
  walk_at "go"
  intro H1 e1
  walk_at "go"
  refine ⟨vs, dsOf adds row, e1.at hA, hE.mono fun v d => DeedR.mono e1, dsOf_ok ok, fun x H2 e2 hx => ?_⟩
  exact h x H2 (e1.trans e2) ⟨hx.h, ok⟩
theorem pastof_hidL {H : Hp} {v : V} {adds : Adds} {row : Bool} {x : Addr} {xs : List V} (h : PastOf K H v adds row) (hx : H x = some (.lst xs)) : PastOf K (Hid x H) v adds row := ⟨by
  obtain ⟨a, dx, b, kvs, rfl, h2, h3, h4⟩ := h.h
  exact ⟨a, dx, b, kvs, rfl, Hid.at h2 (ne_of_at h2 hx fun z => nomatch z), Hid.at h3 (ne_of_at h3 hx fun z => nomatch z), Paired.mapP h4 fun p d r => ⟨r.1, DeedR.hid r.2 hx ⟨fun _ z => (nomatch z), fun _ _ z => (nomatch z)⟩⟩⟩, h.ok⟩
def pAccept (K : PySem.W.Frag) (cond paper : V) (H : Hp) (Q : VK) : Prop := ∃ (c : Cond) (t : Addr) (xs : List V), CA H c cond ∧ Good c ∧ paper = .ref t ∧ H t = some (.tup xs) ∧ ((xs.length ≠ 4 ∧ ∀ H', Ext H H' → Q (.bl false) H') ∨
  ∃ (u v : V) (p q : Pict) (n : Nat), xs = [.str "parted", u, v, .int (n : Nat)] ∧ DsL H u (addsOf (cutsOf c.ts) p) p.row ∧ DsL H v (addsOf (cutsOf c.ts) q) q.row ∧ PictOk (cutsOf c.ts) p ∧ PictOk (cutsOf c.ts) q ∧ n ≤ 1000 ∧ ∀ H', Ext H H' → Q (.bl (decide (isParted (cutsOf c.ts) c p q n))) H')
theorem not_parted2 {a b o : Ans} : decide (o ≠ a ∧ o ≠ b) = !(decide (a = o) || (decide (b = o) || false)) := by
  cases a <;> cases b <;> cases o <;> rfl
theorem ok_accepts_parted  (T : Txt w K mg) : Cal PG w K mg base (29 + 1) "accepts_parted" (sp2 (pAccept K)) := by
  obtain ⟨fd, F⟩ := T.d_accepts_parted
  refine cal_mk F T.g_accepts_parted sc_accepts_parted (fun _ _ _ _ _ _ us hl => match us, hl with | [_, _], _ => rfl) fun cdv A outer s0 H vs Q E hr h => ?_
  obtain ⟨cond, _, rfl, c, t, xs, hc, good, rfl, ht, h⟩ := h
  have c_look_at_condition := (ok_look_at_condition (base := base) T).mono (show 13 ≤ 29 by omega)
  have c_cuts_of := (ok_cuts_of (base := base) T).mono (show 14 ≤ 29 by omega)
  have c_past_of_deeds := (ok_past_of_deeds (base := base) T).mono (show 10 ≤ 29 by omega)
  have c_picture_of := (ok_picture_of (base := base) T).mono (show 15 ≤ 29 by omega)
  have c_is_whole := (ok_is_whole (base := base) T).mono (show 1 ≤ 29 by omega)
  have c_mixed_by := (ok_mixed_by (base := base) T).mono (show 28 ≤ 29 by omega)
  have m_Run := mak_Run (base := base) T
  have m_eq := met_Past_eq (base := base) T
  have : At H t (.tup xs) := ⟨ht⟩
  refine ⟨_, pss_cons (ps_expr (pe_cl c_look_at_condition hr (by first | decide | omega) rfl (pa_cons (pv 0) pa_nil)))
      (pss_cons (ps_if (PW.pt (pw_or (pt_not (pt_val (pe_callB (call_isiK2 (K := K) rfl) (by rfl) T.f_isinstance (by decide +kernel) (pa_cons (pv 1) (pa_cons (pe_ty (n := "tuple") (by rfl) T.f_tuple (by decide +kernel)) pa_nil))))) (pw_or (pt_cmpR op_ne (pe_callB (call_lenK (K := K) rfl) (by rfl) T.f_len (by decide +kernel) (pa_cons (pv 1) pa_nil)) (pe_int) (nomark _)) (pw_or (pt_not (pt_val (pe_callB (call_isiK2 (K := K) rfl) (by rfl) T.f_isinstance (by decide +kernel) (pa_cons (pe_ix (ix_anyK (K := K) rfl) (pv 1) (pe_int) (fun _ _ => rfl)) (pa_cons (pe_ty (n := "str") (by rfl) T.f_str (by decide +kernel)) pa_nil))))) (pw_or1 (pt_cmpR op_ne (pe_ix (ix_anyK (K := K) rfl) (pv 1) (pe_int) (fun _ _ => rfl)) (pe_str) (nomark _))))))) (pss_one (ps_ret (pe_bl))) pss_nil)
      (pss_cons (ps_setLc (i := 2) (own := [("value", 6)]) rfl sc_accepts_parted.nd rfl rfl (sw_true rfl rfl rfl (by decide +kernel)) (pi_seq (pe_slice (sl_tupAK (K := K) rfl) (pv 1) (po_some (pe_int)) (po_some (pe_int)))) (blkOk_by (own := [("value", 6)]) (N := ["condition", "paper", "pasts", "cuts", "one", "other", "value", "past"]) (sc := defScope S_accepts_parted) (by decide +kernel)) (fun _ _ _ _ _ => (pg_name (i := 6) sc_accepts_parted.nd rfl (by first | exact Or.inl rfl | exact Or.inr rfl))) (fun _ _ _ _ _ => pts_nil) (fun _ _ _ _ _ => (pe_cl c_past_of_deeds hr (by first | decide | omega) rfl (pa_cons (pv 6) pa_nil))))
      (pss_cons (ps_if (PW.pt (pw_or ((pt_cmpR (op_inM m_eq hr (by first | decide | omega)) pe_non (pv 2) (by rfl))) (pw_or (pt_not (pt_val (pe_cl c_is_whole hr (by first | decide | omega) rfl (pa_cons (pe_ix (ix_anyK (K := K) rfl) (pv 1) (pe_int) (fun _ _ => rfl)) pa_nil)))) (pw_or1 (pt_cmpR op_lt (pe_ix (ix_anyK (K := K) rfl) (pv 1) (pe_int) (fun _ _ => rfl)) (pe_int) (nomark _)))))) (pss_one (ps_ret (pe_bl))) pss_nil)
      (pss_cons (ps_set (i := 3) sc_accepts_parted.nd rfl (by first | exact Or.inl rfl | exact Or.inr rfl) (pe_cl c_cuts_of hr (by first | decide | omega) rfl (pa_cons (pv 0) pa_nil)))
      (pss_cons (ps_asg (pe_lc (own := [("past", 7)]) rfl sc_accepts_parted.nd (pi_seq (pv 2)) (blkOk_by (own := [("past", 7)]) (N := ["condition", "paper", "pasts", "cuts", "one", "other", "value", "past"]) (sc := defScope S_accepts_parted) (by decide +kernel)) (fun _ _ _ _ _ => (pg_name (i := 7) sc_accepts_parted.nd rfl (by first | exact Or.inl rfl | exact Or.inr rfl))) (fun _ _ _ _ _ => pts_nil) (fun _ _ _ _ _ => (pe_mkc m_Run hr (by first | decide | omega) rfl (pa_cons (pv 0) (pa_cons (pv 3) (pa_cons (pe_cl c_picture_of hr (by first | decide | omega) rfl (pa_cons (pv 0) (pa_cons (pv 7) (pa_cons (pe_int) (pa_cons (pe_int) pa_nil))))) pa_nil)))))) (pg_unlK (K := K) (n := 2) rfl rfl (pgs_cons (pg_name (i := 4) sc_accepts_parted.nd rfl (by first | exact Or.inl rfl | exact Or.inr rfl)) (pgs_cons (pg_name (i := 5) sc_accepts_parted.nd rfl (by first | exact Or.inl rfl | exact Or.inr rfl)) pgs_nil))))
      (pss_one (ps_ret (pe_cmpR (op_notInK (K := K) rfl) (pe_cl c_mixed_by hr (by first | decide | omega) rfl (pa_cons (pv 0) (pa_cons (pe_fldK (K := K) rfl (pv 4)) (pa_cons (pe_fldK (K := K) rfl (pv 5)) (pa_cons (pe_ix (ix_anyK (K := K) rfl) (pv 1) (pe_int) (fun _ _ => rfl)) pa_nil))))) (pe_tup (pa_cons (pe_fldK (K := K) rfl (pv 4)) (pa_cons (pe_fldK (K := K) rfl (pv 5)) pa_nil))) (by rfl))))))))), ?_⟩
  refine start_to (σ := [some _, some _, none, none, none, none, none, none]) rfl ?_
  try dsimp only [cxOf]
  walk_at "go"
  refine ⟨c, hc, good, fun H1 e1 => ?_⟩
  rcases h with ⟨hne, h⟩ | ⟨u, v, p, q, n, rfl, hu, hv, okp, okq, hn, h⟩
  · have : At H1 t (.tup xs) := ⟨e1.at ht⟩
    walk_at "go"
    rw [decide_eq_false (show ¬ ((xs.length : Nat) : Int) = 4 by omega)]
    walk_at "go"
    exact h _ e1
  · have : At H1 t (.tup [.str "parted", u, v, .int (n : Nat)]) := ⟨e1.at ht⟩
    walk_at "go"
    intro b H2 e2 hb
    have : At H2 b (.tup [u, v]) := ⟨hb⟩
    have e02 : Ext H H2 := e1.trans e2
    have cok := cutsOf_ok (ts_ok good.1)
    walk_at "go"
    have hE0 : Each (fun H v (p : Pict) => DsL H v (addsOf (cutsOf c.ts) p) p.row ∧ PictOk (cutsOf c.ts) p) H2 [u, v] [p, q] := .cons ⟨hu.mono e02, okp⟩ (.cons ⟨hv.mono e02, okq⟩ .nil)
    refine lc_ds [p, q] some (fun H v (p : Pict) => PastOf K H v (addsOf (cutsOf c.ts) p) p.row) (fun e h => @pastof_ext _ _ _ _ _ _ e h) rfl (by show 2 ≤ 2 ^ 24; decide) ?_ ?_
    · intro i y d H3 H4 D hd e3 nD hA3 hy N1 N2 k1 k2
      obtain ⟨rfl, hy⟩ := hy
      obtain ⟨d', hd', hds, okd⟩ := hE0.get hy
      rw [hd] at hd'
      cases hd'
      walk_at "go"
      exact ⟨_, _, hds.mono e3, addsOf_ok cok okd, fun x H5 e5 hx => k1 _ _ d e5 rfl (pastof_hidL hx (e5.at hA3.choose_spec))⟩
    · intro D H3 zs nD e3 hD hE3
      rw [List.filterMap_some] at hE3
      have hZ : Each (fun H v (p : Pict) => PastOf K H v (addsOf (cutsOf c.ts) p) p.row) H3 zs [p, q] := hE3.mono fun v d h => @pastof_ext _ _ _ _ _ _ (Hid.sub D H3) h
      have hzl := hZ.len
      have e03 : Ext H H3 := e02.trans e3
      have : At H3 D (.lst zs) := ⟨hD⟩
      have : At H3 t (.tup [.str "parted", u, v, .int (n : Nat)]) := ⟨e03.at ht⟩
      walk_at "go"
      refine ⟨D, zs, rfl, rfl, hD, fun z hz => ?_, fun H4 e4 => ?_⟩
      · obtain ⟨i, hi, hzi⟩ := List.getElem_of_mem hz
        obtain ⟨d, hd, hP⟩ := hZ.get (List.getElem?_eq_getElem hi)
        rw [hzi] at hP
        obtain ⟨a, dx, b, kvs, h1, h2, _⟩ := hP.h
        exact ⟨a, dx, _, h1, h2⟩
      have e34 : Ext H2 H4 := e3.trans e4
      have e04 : Ext H H4 := e03.trans e4
      have : At H4 t (.tup [.str "parted", u, v, .int (n : Nat)]) := ⟨e04.at ht⟩
      walk_at "go"
      refine ⟨c, CA.mono e04 c _ hc, good, fun d H5 e5 cD => ?_⟩
      have e35 : Ext H3 H5 := e4.trans e5
      have : At H5 D (.lst zs) := ⟨e35.at hD⟩
      walk_at "go"
      refine lc_ds [p, q] some (RunsR K c (cutsOf c.ts)) (fun e h => RunR.mono e h) hzl (by rw [hzl]; show 2 ≤ 2 ^ 24; decide) ?_ ?_
      · intro i y d1 H6 H7 D2 hd e6 nD2 hA6 hy N1 N2 k1 k2
        obtain ⟨rfl, hy⟩ := hy
        obtain ⟨d', hd', hP⟩ := hZ.get hy
        rw [hd] at hd'
        cases hd'
        have okd : PictOk (cutsOf c.ts) d1 := by
          rcases List.mem_cons.mp (List.mem_of_getElem? hd) with z | z
          · rw [z]; exact okp
          · rcases List.mem_cons.mp z with z | z
            · rw [z]; exact okq
            · cases z
        have e36 := e35.trans e6
        obtain ⟨a1, dx1, b1, kvs1, rfl, _⟩ := id hP.h
        walk_at "go"
        refine ⟨c, a1, _, _, CA.mono (e03.trans e36) c _ hc, good, rfl, @pastof_ext _ _ _ _ _ _ e36 hP, rfl, rfl, fun w1 H8 e8 hw => ?_⟩
        rw [back_eq cok okd] at hw
        walk_at "go"
        exact ⟨c, cutsOf c.ts, d1, CA.mono ((e03.trans e36).trans e8) c _ hc, good, @cutsis_ext H5 _ d _ (e6.trans e8) cD, fit_cuts, hw, okd, fun x H9 e9 hR => k1 _ _ d1 (e8.trans e9) rfl (hR.hidL ((e8.trans e9).at hA6.choose_spec))⟩
      · intro D2 H6 ws nD2 e6 hD2 hE6
        rw [List.filterMap_some] at hE6
        have hW : Each (RunsR K c (cutsOf c.ts)) H6 ws [p, q] := hE6.mono fun v d => RunR.mono (Hid.sub D2 H6)
        have : At H6 D2 (.lst ws) := ⟨hD2⟩
        walk_at "go"
        refine ⟨hW.len, ?_⟩
        have e06 : Ext H H6 := (e03.trans e35).trans e6
        have : At H6 t (.tup [.str "parted", u, v, .int (n : Nat)]) := ⟨e06.at ht⟩
        obtain ⟨w1, w2, rfl, hw1, hw2⟩ : ∃ w1 w2, ws = [w1, w2] ∧ RunsR K c (cutsOf c.ts) H6 w1 p ∧ RunsR K c (cutsOf c.ts) H6 w2 q := by
          cases hW with
          | cons a t => cases t with
            | cons b t => cases t; exact ⟨_, _, rfl, a, b⟩
        obtain ⟨x1, dx, ra, rt, ru, rfl, hx1, hpr, hpo, hans⟩ := hw1
        obtain ⟨x2, dx2, ra2, rt2, ru2, rfl, hx2, hpr2, hpo2, hans2⟩ := hw2
        have : At H6 x1 (.ins (He.ga K "Run") dx [("told", ru), ("answer", .ref ra), ("outcome", .str (run (pa0 (cutsOf c.ts) p) c []).1.s), ("answers", .ref rt)]) := ⟨hx1⟩
        have : At H6 x2 (.ins (He.ga K "Run") dx2 [("told", ru2), ("answer", .ref ra2), ("outcome", .str (run (pa0 (cutsOf c.ts) q) c []).1.s), ("answers", .ref rt2)]) := ⟨hx2⟩
        walk_at "go"
        refine ⟨c, cutsOf c.ts, p, q, ra, ra2, n, CA.mono e06 c _ hc, good, fit_cuts, rfl, rfl, hpo, hpo2, rfl, hn, fun H7 e7 => ?_⟩
        have : At H7 x1 (.ins (He.ga K "Run") dx [("told", ru), ("answer", .ref ra), ("outcome", .str (run (pa0 (cutsOf c.ts) p) c []).1.s), ("answers", .ref rt)]) := ⟨e7.at hx1⟩
        have : At H7 x2 (.ins (He.ga K "Run") dx2 [("told", ru2), ("answer", .ref ra2), ("outcome", .str (run (pa0 (cutsOf c.ts) q) c []).1.s), ("answers", .ref rt2)]) := ⟨e7.at hx2⟩
        walk_at "go"
        rename_i T9 nT9
        have := h (upd H7 T9 (.tup [.str (run (pa0 (cutsOf c.ts) p) c []).1.s, .str (run (pa0 (cutsOf c.ts) q) c []).1.s])) ((e06.trans e7).trans ext_upd)
        have e : decide (isParted (cutsOf c.ts) c p q n) = !(decide ((run (pa0 (cutsOf c.ts) p) c []).1 = mixed (cutsOf c.ts) c p q n) || (decide ((run (pa0 (cutsOf c.ts) q) c []).1 = mixed (cutsOf c.ts) c p q n) || false)) := not_parted2
        rw [show decide (isParted (cutsOf c.ts) c p q n) = _ from e] at this
        exact this
end

end PB
namespace PB
open PySem PySem.Spec PyProof.Rows L2
local macro_rules | `(tactic| walk_at "rd") => `(tactic| (repeat refine red ?_))
local macro_rules | `(tactic| walk_at "go") => `(tactic| (repeat (first | refine red ?_ | ((with_reducible apply k_var); rfl) | refine k_new fun _ _ => ?_ | refine wp_and rfl ?_ | refine if_redT rfl ?_ | refine if_redF rfl ?_)))

local macro_rules | `(tactic| walk_at "ext") => `(tactic| (repeat (first | assumption | exact Ext.refl _ | refine Ext.newI ?_ | refine Ext.trans ?_ ‹Ext _ _›)))
local macro_rules | `(tactic| walk_at "rv") => `(tactic| (repeat (first | refine red ?_ | ((with_reducible apply k_var); rfl))))
/-! ### ranges: nothing need be kept -/
def kWkT (n : Nat) (Y : Nat → Hp → V → Hp → Prop) (R : It → Hp → Prop) (H : Hp) : Prop := ∀ (J : It), Walk J n (fun _ => True) Y → R J H
section
variable {K : PySem.W.Frag} {σ : L2.St} {H : Hp} {R : It → Hp → Prop} {n : Nat} {Y : Nat → Hp → V → Hp → Prop} {g : TG} {tb : TS} {D : Ends}
instance (priority := high) rng1T {j : Int} : Red (kRng1 [.int j] H R) ((-(2 ^ 62) ≤ j ∧ j < 2 ^ 62) ∧ kWkT j.toNat (YRng 0) R H) := ⟨fun h => ⟨j, rfl, h.1.1, h.1.2, h.2 _ (walk_range.mono (fun _ _ => True.intro) fun _ _ _ _ _ _ y => y)⟩⟩
instance (priority := high) rng2T {i j : Int} : Red (kRng2 [.int i, .int j] H R) ((-(2 ^ 62) ≤ i ∧ i < 2 ^ 62 ∧ -(2 ^ 62) ≤ j ∧ j < 2 ^ 62) ∧ kWkT (j - i).toNat (YRng i) R H) := ⟨fun h => ⟨i, j, rfl, h.1, h.2 _ (walk_range.mono (fun _ _ => True.intro) fun _ _ _ _ _ _ y => y)⟩⟩
theorem for_goT (Pv : Nat → L2.St → Hp → Prop) (h0 : Pv 0 σ H)
    (hs : ∀ i x σ' H1 H2, i < n → Pv i σ' H1 → Y i H1 x H2 → g x σ' H2 fun σ2 H3 => tb { D with nx := Pv (i + 1), ct := Pv (i + 1), bk := D.nx } σ2 H3) (hd : ∀ σ' H', Pv n σ' H' → D.nx σ' H') : kWkT n Y (kFor g tb D σ) H := by
  intro J w
  exact for_it w Pv h0 (fun i σ' H' hi p => True.intro) hs hd
end

end PB
namespace PB
open PySem PySem.Spec PyProof.Rows L2
local macro_rules | `(tactic| walk_at "rd") => `(tactic| (repeat refine red ?_))
local macro_rules | `(tactic| walk_at "go") => `(tactic| (repeat (first | refine red ?_ | ((with_reducible apply k_var); rfl) | refine k_new fun _ _ => ?_ | refine wp_and rfl ?_ | refine if_redT rfl ?_ | refine if_redF rfl ?_)))
local macro_rules | `(tactic| walk_at "ga") => `(tactic| (repeat (first | refine red ?_ | ((with_reducible apply k_var); rfl) | ((with_reducible apply k_aug); rfl) | refine k_new fun _ _ => ?_ | refine wp_and rfl ?_ | refine if_redT rfl ?_ | refine if_redF rfl ?_)))
local macro_rules | `(tactic| walk_at "gq") => `(tactic| (repeat ((fail_if_success (with_reducible refine seq_stop ?_)); (first | refine red ?_ | ((with_reducible apply k_var); rfl) | refine k_new fun _ _ => ?_ | refine wp_and rfl ?_ | refine if_redT rfl ?_ | refine if_redF rfl ?_))))
local macro_rules | `(tactic| walk_at "ext") => `(tactic| (repeat (first | assumption | exact Ext.refl _ | refine Ext.newI ?_ | refine Ext.trans ?_ ‹Ext _ _›)))
local macro_rules | `(tactic| walk_at "rv") => `(tactic| (repeat (first | refine red ?_ | ((with_reducible apply k_var); rfl))))
/-! ### the law: its numbers, its pool -/
def kMax2 (xs : List V) (H : Hp) (Q : VK) : Prop := ∃ i j : Int, xs = [.int i, .int j] ∧ Q (.int (if j > i then j else i)) H
theorem call_max2K {X : Cx} (hc : X.calm = true) : CallR X (.builtin "max") kMax2 := call_max2 hc
instance {i j : Int} {H : Hp} {Q : VK} : Red (kMax2 [.int i, .int j] H Q) (Q (.int (if j > i then j else i)) H) := ⟨fun h => ⟨i, j, rfl, h⟩⟩
section
variable {w : World} {K : PySem.W.Frag} {mg : Str → Option Value} {base : Heap}
def pNums (x k n : V) (H : Hp) (Q : VK) : Prop := ∃ (i : Int) (j : Nat), x = .int i ∧ k = .int (j : Nat) ∧ j < 3 ∧ n = .int 40 ∧ ∀ r (ns : List Int) H', Ext H H' → H' r = some (.lst (ns.map V.int)) → ns.length = 40 → Q (.ref r) H'
theorem ok_law_numbers  (T : Txt w K mg) : Cal PG w K mg base (0 + 1) "_law_numbers" (sp3 pNums) := by
  obtain ⟨fd, F⟩ := T.d_law_numbers
  refine cal_mk F T.g_law_numbers sc_law_numbers (fun _ _ _ _ _ _ us hl => match us, hl with | [_, _, _], _ => rfl) fun cdv A outer s0 H vs Q E hr h => ?_
  obtain ⟨_, _, _, rfl, i, j, rfl, rfl, hj, rfl, h⟩ := h
  refine ⟨_, pss_cons (ps_set (i := 3) sc_law_numbers.nd rfl (by first | exact Or.inl rfl | exact Or.inr rfl) (pe_callB (call_max2K rfl) (by rfl) T.f_max (by decide +kernel) (pa_cons (pe_callTy call_intK (by rfl) T.f_int (by decide +kernel) (pa_cons (pv 0) pa_nil)) (pa_cons (pe_callTy call_intK (by rfl) T.f_int (by decide +kernel) (pa_cons (pe_op op_sub (pe_un un_neg (pe_int)) (pv 0)) pa_nil)) pa_nil))))
      (pss_cons (ps_set (i := 4) sc_law_numbers.nd rfl (by first | exact Or.inl rfl | exact Or.inr rfl) (pv 3))
      (pss_cons (ps_set (i := 5) sc_law_numbers.nd rfl (by first | exact Or.inl rfl | exact Or.inr rfl) (pe_lst pa_nil))
      (pss_cons (ps_for PassesOwn.never rfl (pi_range1 (by rfl) T.f_range (pa_cons (pv 2) pa_nil)) (pg_name (i := 6) sc_law_numbers.nd rfl (by first | exact Or.inl rfl | exact Or.inr rfl)) (pss_one (ps_if (PW.pt (pw_and (pt_cmpR op_ge (pv 3) (pe_op op_pow (pe_int) (pe_int)) (nomark _)) (pw_and1 (pt_cmpR op_gt (pv 4) (pe_int) (nomark _))))) (pss_cons (ps_expr (pe_bm PySem.F.plainAttrs_list PySem.F.slot_list_append PySem.F.type_list_append mt_append (pv 5) (pa_cons (pe_op op_mod (pe_callTy call_intK (by rfl) T.f_int (by decide +kernel) (pa_cons (pv 4) pa_nil)) (pe_int)) pa_nil)))
      (pss_one (ps_set (i := 4) sc_law_numbers.nd rfl (by first | exact Or.inl rfl | exact Or.inr rfl) (pe_op op_fdiv (pv 4) (pe_int))))) (pss_cons (ps_set (i := 7) sc_law_numbers.nd rfl (by first | exact Or.inl rfl | exact Or.inr rfl) (pe_op op_mod (pe_callTy call_intK (by rfl) T.f_int (by decide +kernel) (pa_cons (pe_op op_pow (pe_op op_add (pe_op op_add (pe_op op_mod (pe_callTy call_intK (by rfl) T.f_int (by decide +kernel) (pa_cons (pv 3) pa_nil)) (pe_int)) (pe_op op_mul (pe_int) (pv 1))) (pe_int)) (pe_int)) pa_nil)) (pe_int)))
      (pss_cons (ps_set (i := 7) sc_law_numbers.nd rfl (by first | exact Or.inl rfl | exact Or.inr rfl) (pe_op op_mod (pe_callTy call_intK (by rfl) T.f_int (by decide +kernel) (pa_cons (pe_op op_mul (pe_op op_add (pv 7) (pe_op op_mul (pe_int) (pe_op op_add (pv 6) (pe_int)))) (pe_op op_add (pv 6) (pe_int))) pa_nil)) (pe_int)))
      (pss_cons (ps_set (i := 7) sc_law_numbers.nd rfl (by first | exact Or.inl rfl | exact Or.inr rfl) (pe_op op_mod (pe_callTy call_intK (by rfl) T.f_int (by decide +kernel) (pa_cons (pe_op op_mul (pe_op op_mod (pe_callTy call_intK (by rfl) T.f_int (by decide +kernel) (pa_cons (pe_op op_pow (pv 7) (pe_int)) pa_nil)) (pe_int)) (pe_int)) pa_nil)) (pe_int)))
      (pss_one (ps_expr (pe_bm PySem.F.plainAttrs_list PySem.F.slot_list_append PySem.F.type_list_append mt_append (pv 5) (pa_cons (pe_op op_mod (pe_callTy call_intK (by rfl) T.f_int (by decide +kernel) (pa_cons (pe_op op_fdiv (pv 7) (pe_int)) pa_nil)) (pe_int)) pa_nil))))))))))
      (pss_one (ps_ret (pv 5)))))), ?_⟩
  refine start_to (σ := [some _, some _, some _, none, none, none, none, none]) rfl ?_
  try dsimp only [cxOf]
  walk_at "go"
  generalize (if -1 - i > i then -1 - i else i) = whole
  walk_at "go"
  rename_i D nD
  refine ⟨by omega, ?_⟩
  refine for_goT (fun j' σ' H' => (∃ (l : Int) (x y : Option V), σ' = [some (V.int i), some (V.int (j : Nat)), some (V.int 40), some (V.int whole), some (V.int l), some (.ref D), x, y]) ∧ Ext H H' ∧ ∃ ns : List Int, H' D = some (.lst (ns.map V.int)) ∧ ns.length = j') ⟨⟨_, _, _, rfl⟩, ext_upd, [], upd_same, rfl⟩ ?_ ?_
  · rintro j' x σ' H1 H2 hj' ⟨⟨l, x0, y0, rfl⟩, e1, ns, hD, hl⟩ ⟨rfl, rfl⟩
    have hj40 : j' < 40 := by simpa using hj'
    have : At H2 D (.lst (ns.map V.int)) := ⟨hD⟩
    walk_at "go"
    refine ⟨⟨by decide, by decide, by decide⟩, ?_⟩
    walk_at "go"
    generalize decide (10 ^ Int.toNat 18 ≤ whole) = b1
    have fin : ∀ v : Int, Ext H (upd H2 D (.lst (ns.map V.int ++ [V.int v]))) ∧ ∃ ns2 : List Int, upd H2 D (.lst (ns.map V.int ++ [V.int v])) D = some (.lst (ns2.map V.int)) ∧ ns2.length = j' + 1 := fun v =>
      ⟨e1.mut nD.h, ns ++ [v], by rw [upd_same, List.map_append]; rfl, by rw [List.length_append, hl]; rfl⟩
    have hlen : (ns.map V.int).length < 2 ^ 24 := by rw [List.length_map]; omega
    cases b1 with
    | false =>
      walk_at "go"
      have m1 : 0 ≤ whole % 2147483629 ∧ whole % 2147483629 < 2147483629 := by omega
      generalize whole % 2147483629 = w1 at m1
      walk_at "go"
      refine ⟨by decide, ?_⟩
      walk_at "go"
      refine ⟨.inl (by omega), ?_⟩
      walk_at "go"
      refine ⟨⟨by decide, by decide, by omega⟩, ?_⟩
      walk_at "go"
      refine ⟨by decide, ?_⟩
      walk_at "go"
      have m2 : 0 ≤ (w1 + 7717 * (j : Int) + 3) ^ Int.toNat 3 % 2147483647 ∧ (w1 + 7717 * (j : Int) + 3) ^ Int.toNat 3 % 2147483647 < 2147483647 := ⟨Int.emod_nonneg _ (by decide), Int.emod_lt_of_pos _ (by decide)⟩
      generalize (w1 + 7717 * (j : Int) + 3) ^ Int.toNat 3 % 2147483647 = w2 at m2
      walk_at "go"
      refine ⟨.inl (by omega), ?_⟩
      walk_at "go"
      refine ⟨.inl (by omega), ?_⟩
      walk_at "go"
      refine ⟨by decide, ?_⟩
      walk_at "go"
      have m3 : 0 ≤ (w2 + 99991 * (0 + (j' : Int) + 1)) * (0 + (j' : Int) + 5) % 2147483629 ∧ (w2 + 99991 * (0 + (j' : Int) + 1)) * (0 + (j' : Int) + 5) % 2147483629 < 2147483629 := ⟨Int.emod_nonneg _ (by decide), Int.emod_lt_of_pos _ (by decide)⟩
      generalize (w2 + 99991 * (0 + (j' : Int) + 1)) * (0 + (j' : Int) + 5) % 2147483629 = w3 at m3
      walk_at "go"
      refine ⟨⟨by decide, by decide, by omega⟩, ?_⟩
      walk_at "go"
      refine ⟨by decide, ?_⟩
      walk_at "go"
      have m4 : 0 ≤ w3 ^ Int.toNat 5 % 2147483647 ∧ w3 ^ Int.toNat 5 % 2147483647 < 2147483647 := ⟨Int.emod_nonneg _ (by decide), Int.emod_lt_of_pos _ (by decide)⟩
      generalize w3 ^ Int.toNat 5 % 2147483647 = w4 at m4
      walk_at "go"
      refine ⟨.inl (by omega), ?_⟩
      walk_at "go"
      refine ⟨by decide, ?_⟩
      walk_at "go"
      refine ⟨⟨by decide, by decide⟩, ?_⟩
      walk_at "go"
      refine ⟨by decide, ?_⟩
      walk_at "go"
      refine ⟨hlen, ?_⟩
      walk_at "go"
      exact ⟨⟨_, _, _, rfl⟩, fin _⟩
    | true =>
      walk_at "go"
      by_cases h2 : 0 < l
      · rw [decide_eq_true h2]
        walk_at "go"
        refine ⟨by decide, ?_⟩
        walk_at "go"
        refine ⟨hlen, ?_⟩
        walk_at "go"
        refine ⟨⟨by decide, by decide⟩, ?_⟩
        walk_at "go"
        exact ⟨⟨_, _, _, rfl⟩, fin _⟩
      · rw [decide_eq_false h2]
        walk_at "go"
        have m1 : 0 ≤ whole % 2147483629 ∧ whole % 2147483629 < 2147483629 := by omega
        generalize whole % 2147483629 = w1 at m1
        walk_at "go"
        refine ⟨by decide, ?_⟩
        walk_at "go"
        refine ⟨.inl (by omega), ?_⟩
        walk_at "go"
        refine ⟨⟨by decide, by decide, by omega⟩, ?_⟩
        walk_at "go"
        refine ⟨by decide, ?_⟩
        walk_at "go"
        have m2 : 0 ≤ (w1 + 7717 * (j : Int) + 3) ^ Int.toNat 3 % 2147483647 ∧ (w1 + 7717 * (j : Int) + 3) ^ Int.toNat 3 % 2147483647 < 2147483647 := ⟨Int.emod_nonneg _ (by decide), Int.emod_lt_of_pos _ (by decide)⟩
        generalize (w1 + 7717 * (j : Int) + 3) ^ Int.toNat 3 % 2147483647 = w2 at m2
        walk_at "go"
        refine ⟨.inl (by omega), ?_⟩
        walk_at "go"
        refine ⟨.inl (by omega), ?_⟩
        walk_at "go"
        refine ⟨by decide, ?_⟩
        walk_at "go"
        have m3 : 0 ≤ (w2 + 99991 * (0 + (j' : Int) + 1)) * (0 + (j' : Int) + 5) % 2147483629 ∧ (w2 + 99991 * (0 + (j' : Int) + 1)) * (0 + (j' : Int) + 5) % 2147483629 < 2147483629 := ⟨Int.emod_nonneg _ (by decide), Int.emod_lt_of_pos _ (by decide)⟩
        generalize (w2 + 99991 * (0 + (j' : Int) + 1)) * (0 + (j' : Int) + 5) % 2147483629 = w3 at m3
        walk_at "go"
        refine ⟨⟨by decide, by decide, by omega⟩, ?_⟩
        walk_at "go"
        refine ⟨by decide, ?_⟩
        walk_at "go"
        have m4 : 0 ≤ w3 ^ Int.toNat 5 % 2147483647 ∧ w3 ^ Int.toNat 5 % 2147483647 < 2147483647 := ⟨Int.emod_nonneg _ (by decide), Int.emod_lt_of_pos _ (by decide)⟩
        generalize w3 ^ Int.toNat 5 % 2147483647 = w4 at m4
        walk_at "go"
        refine ⟨.inl (by omega), ?_⟩
        walk_at "go"
        refine ⟨by decide, ?_⟩
        walk_at "go"
        refine ⟨⟨by decide, by decide⟩, ?_⟩
        walk_at "go"
        refine ⟨by decide, ?_⟩
        walk_at "go"
        refine ⟨hlen, ?_⟩
        walk_at "go"
        exact ⟨⟨_, _, _, rfl⟩, fin _⟩
  · rintro σ' H1 ⟨⟨l, x0, y0, rfl⟩, e1, ns, hD, hl⟩
    walk_at "go"
    exact h D ns H1 e1 hD (by simpa using hl)
end

end PB
namespace PB
open PySem PySem.Spec PyProof.Rows L2
local macro_rules | `(tactic| walk_at "rd") => `(tactic| (repeat refine red ?_))
local macro_rules | `(tactic| walk_at "go") => `(tactic| (repeat (first | refine red ?_ | ((with_reducible apply k_var); rfl) | refine k_new fun _ _ => ?_ | refine wp_and rfl ?_ | refine if_redT rfl ?_ | refine if_redF rfl ?_)))

local macro_rules | `(tactic| walk_at "ext") => `(tactic| (repeat (first | assumption | exact Ext.refl _ | refine Ext.newI ?_ | refine Ext.trans ?_ ‹Ext _ _›)))
local macro_rules | `(tactic| walk_at "rv") => `(tactic| (repeat (first | refine red ?_ | ((with_reducible apply k_var); rfl))))
/-! ### deep data: conditions, pictures -/
theorem op_neDK {X : Cx} {K : PySem.W.Frag} (h : X.K = K) {k : Nat} (hr : Room k X.A) : OpR X (compareOp .NotEq) (rNeD K) := h ▸ op_neD hr.units
theorem op_notInDK {X : Cx} {K : PySem.W.Frag} (h : X.K = K) {k : Nat} (hr : Room k X.A) : OpR X (compareOp .NotIn) (rNotInD K) := h ▸ op_notInD (by have := hr.un; omega)
def tstD : Tst → PyData
  | .row => .tuple [.str "row"]
  | .has x => .tuple [.str "has", .str x]
  | .eq x v => .tuple [.str "eq", .str x, .int v]
  | .less x v => .tuple [.str "less", .str x, .int v]
mutual
def condD : Cond → PyData
  | .t t => tstD t
  | .not c => .tuple [.str "not", condD c]
  | .seq w cs => .tuple [.str (wd w), .tuple (condsD cs)]
def condsD : List Cond → List PyData
  | [] => []
  | c :: cs => condD c :: condsD cs
end
section
variable {K : PySem.W.Frag} {H : Hp}
theorem dp_tst {v : V} {t : Tst} (h : TstR H v t) : Dp K H v (tstD t) := by
  obtain ⟨a, rfl, ha⟩ := h
  cases t with
  | row => exact .tup (SqT.of ha) (.cons (.str _) .nil)
  | has x => exact .tup (SqT.of ha) (.cons (.str _) (.cons (.str _) .nil))
  | eq x v => exact .tup (SqT.of ha) (.cons (.str _) (.cons (.str _) (.cons (.int _) .nil)))
  | less x v => exact .tup (SqT.of ha) (.cons (.str _) (.cons (.str _) (.cons (.int _) .nil)))
mutual
theorem dp_cond : ∀ (c : Cond) (v : V), CA H c v → Dp K H v (condD c)
  | .t t, v, h => dp_tst h
  | .not c, v, h => by
    obtain ⟨a, b, rfl, ha, hb⟩ := h
    unfold condD
    exact .tup (SqT.of ha) (.cons (.str _) (.cons (dp_cond c b hb) .nil))
  | .seq w cs, v, h => by
    obtain ⟨a, p, vs, rfl, ha, hp, hv⟩ := h
    unfold condD
    exact .tup (SqT.of ha) (.cons (.str _) (.cons (.tup (SqT.of hp) (dp_conds cs vs hv)) .nil))
theorem dp_conds : ∀ (cs : List Cond) (vs : List V), CAs H cs vs → DpAll K H vs (condsD cs)
  | [], vs, h => by
    have e : vs = [] := h
    subst e
    exact .nil
  | c :: cs, vs, h => by
    obtain ⟨v, r, rfl, h1, h2⟩ := h
    exact .cons (dp_cond c v h1) (dp_conds cs r h2)
end
end
theorem lay_tst {t : Tst} (h : t.ok) : (tstD t).canLay0 = true := by
  cases t with
  | row => decide +kernel
  | has x =>
    rcases h.1 x rfl with rfl | rfl | rfl <;> decide +kernel
  | eq x v =>
    rcases h.1 x rfl with rfl | rfl | rfl <;> rcases h.2 v rfl with rfl | rfl | rfl <;> decide +kernel
  | less x v =>
    rcases h.1 x rfl with rfl | rfl | rfl <;> rcases h.2 v rfl with rfl | rfl | rfl <;> decide +kernel
mutual
theorem lay_cond : ∀ (c : Cond), c.ok → (condD c).canLay0 = true
  | .t t, h => lay_tst h
  | .not c, h => by
    have := lay_cond c h
    unfold condD
    simp only [PyData.canLay0, PyData.canLayAll0, this, Bool.and_true]
    decide +kernel
  | .seq w cs, h => by
    have := lay_conds cs h.2.2.2
    unfold condD
    simp only [PyData.canLay0, PyData.canLayAll0, this, Bool.and_true]
    cases w <;> decide +kernel
theorem lay_conds : ∀ (cs : List Cond), okL cs → PyData.canLayAll0 (condsD cs) = true
  | [], _ => by simp only [condsD, PyData.canLayAll0]
  | c :: cs, h => by
    simp only [condsD, PyData.canLayAll0, lay_cond c h.1, lay_conds cs h.2, Bool.and_true]
end
theorem dep_tst {t : Tst} : (tstD t).depth ≤ 1 := by cases t <;> simp [tstD, PyData.depth, PyData.depthAll]
mutual
theorem dep_cond : ∀ (c : Cond), (condD c).depth ≤ 2 * c.dep + 1
  | .t t => by
    have := dep_tst (t := t)
    unfold condD Cond.dep
    omega
  | .not c => by
    have := dep_cond c
    unfold condD Cond.dep
    simp only [PyData.depth, PyData.depthAll]
    omega
  | .seq w cs => by
    have := dep_conds cs
    unfold condD Cond.dep
    simp only [PyData.depth, PyData.depthAll]
    omega
theorem dep_conds : ∀ (cs : List Cond), PyData.depthAll (condsD cs) ≤ 2 * depL cs + 1
  | [] => by simp [condsD, PyData.depthAll]
  | c :: cs => by
    have h1 := dep_cond c
    have h2 := dep_conds cs
    unfold depL
    simp only [condsD, PyData.depthAll]
    omega
end
theorem shaped_cond {c : Cond} (h : c.ok) (hd : c.dep ≤ 3) : SeqAt.shaped (condD c) = true := by
  unfold SeqAt.shaped
  have := dep_cond c
  rw [lay_cond c h, Bool.true_and, decide_eq_true_iff]
  omega
theorem shaped_conds {cs : List Cond} (h : okL cs) (hd : depL cs ≤ 3) : SeqAt.shaped (.list (condsD cs)) = true := by
  unfold SeqAt.shaped
  have := dep_conds cs
  have e : (PyData.list (condsD cs)).depth = PyData.depthAll (condsD cs) + 1 := by simp only [PyData.depth]
  rw [e, show (PyData.list (condsD cs)).canLay0 = true by simp only [PyData.canLay0, lay_conds cs h], Bool.true_and, decide_eq_true_iff]
  omega
theorem cond_same {c : Cond} (h : c.ok) : PyData.eqv (condD c) (condD c) = true := PySem.SeqAt.eqv_refl _ (lay_cond c h)

end PB
namespace PB
open PySem PySem.Spec PyProof.Rows L2
local macro_rules | `(tactic| walk_at "rd") => `(tactic| (repeat refine red ?_))
local macro_rules | `(tactic| walk_at "go") => `(tactic| (repeat (first | refine red ?_ | ((with_reducible apply k_var); rfl) | refine k_new fun _ _ => ?_ | refine wp_and rfl ?_ | refine if_redT rfl ?_ | refine if_redF rfl ?_)))

local macro_rules | `(tactic| walk_at "ext") => `(tactic| (repeat (first | assumption | exact Ext.refl _ | refine Ext.newI ?_ | refine Ext.trans ?_ ‹Ext _ _›)))
local macro_rules | `(tactic| walk_at "rv") => `(tactic| (repeat (first | refine red ?_ | ((with_reducible apply k_var); rfl))))
/-! ### an item of a list set -/
section
variable {σ : L2.St} {H : Hp} {to ti : TE} {t : TSet} {v x y : V} {Q : L2.St → Hp → Prop} {a : Addr} {N : Hp → Prop}
instance : Red (gSub to ti t v σ H Q) (to σ H fun x H1 => ti σ H1 fun y H2 => t x y v H2 fun H3 => Q σ H3) := ⟨id⟩
instance setl1 {x0 x1 : V} [s : At H a (.lst [x0, x1])] : Red (rSetL (.ref a) (.int 1) v H N) (N (upd H a (.lst [x0, v]))) := ⟨fun h => ⟨a, _, 1, 1, rfl, rfl, s.h, rfl, h⟩⟩
instance setl0 {x0 : V} [s : At H a (.lst [x0])] : Red (rSetL (.ref a) (.int 0) v H N) (N (upd H a (.lst [v]))) := ⟨fun h => ⟨a, _, 0, 0, rfl, rfl, s.h, rfl, h⟩⟩
end
theorem nth_int {xs : List Int} {m : Nat} (h : m < xs.length) : Nth (xs.map V.int) ((m : Nat) : Int) (V.int xs[m]) := ⟨by
  unfold atI ixN
  rw [if_pos (by omega), if_pos (by rw [List.length_map]; omega)]
  show (xs.map V.int)[((m : Nat) : Int).toNat]? = _
  rw [Int.toNat_natCast, List.getElem?_map, List.getElem?_eq_getElem h]
  rfl⟩

end PB
namespace PB
open PySem PySem.Spec PyProof.Rows L2
local macro_rules | `(tactic| walk_at "rd") => `(tactic| (repeat refine red ?_))
local macro_rules | `(tactic| walk_at "go") => `(tactic| (repeat (first | refine red ?_ | ((with_reducible apply k_var); rfl) | refine k_new fun _ _ => ?_ | refine wp_and rfl ?_ | refine if_redT rfl ?_ | refine if_redF rfl ?_)))
local macro_rules | `(tactic| walk_at "ga") => `(tactic| (repeat (first | refine red ?_ | ((with_reducible apply k_var); rfl) | ((with_reducible apply k_aug); rfl) | refine k_new fun _ _ => ?_ | refine wp_and rfl ?_ | refine if_redT rfl ?_ | refine if_redF rfl ?_)))
local macro_rules | `(tactic| walk_at "gq") => `(tactic| (repeat ((fail_if_success (with_reducible refine seq_stop ?_)); (first | refine red ?_ | ((with_reducible apply k_var); rfl) | refine k_new fun _ _ => ?_ | refine wp_and rfl ?_ | refine if_redT rfl ?_ | refine if_redF rfl ?_))))
local macro_rules | `(tactic| walk_at "ext") => `(tactic| (repeat (first | assumption | exact Ext.refl _ | refine Ext.newI ?_ | refine Ext.trans ?_ ‹Ext _ _›)))
local macro_rules | `(tactic| walk_at "rv") => `(tactic| (repeat (first | refine red ?_ | ((with_reducible apply k_var); rfl))))
/-! ### the law: its pool, its draws -/
def PoolR (H : Hp) (pl pn : Addr) (ns : List Int) (k : Nat) : Prop := H pl = some (.lst [.ref pn, .int (k : Nat)]) ∧ H pn = some (.lst (ns.map V.int))
theorem pool_ne {H : Hp} {pl pn : Addr} {ns : List Int} {k : Nat} (h : PoolR H pl pn ns k) : pn ≠ pl := fun z => by
  have h1 := h.2
  rw [z, h.1] at h1
  cases ns with
  | nil => cases h1
  | cons a r => cases h1
section
variable {w : World} {K : PySem.W.Frag} {mg : Str → Option Value} {base : Heap}
def pDraw (pool often : V) (H : Hp) (Q : VK) : Prop := ∃ (pl pn : Addr) (ns : List Int) (k m : Nat), pool = .ref pl ∧ PoolR H pl pn ns k ∧ often = .int (m : Nat) ∧ 0 < m ∧ ∀ d : Nat, d < m → Q (.int (d : Nat)) (upd H pl (.lst [.ref pn, .int ((k + 1 : Nat) : Nat)]))
theorem ok_law_draw  (T : Txt w K mg) : Cal PG w K mg base (0 + 1) "_law_draw" (sp2 pDraw) := by
  obtain ⟨fd, F⟩ := T.d_law_draw
  refine cal_mk F T.g_law_draw sc_law_draw (fun _ _ _ _ _ _ us hl => match us, hl with | [_, _], _ => rfl) fun cdv A outer s0 H vs Q E hr h => ?_
  obtain ⟨_, _, rfl, pl, pn, ns, k, m, rfl, hp, rfl, hm, h⟩ := h
  have hne := pool_ne hp
  have : At H pl (.lst [.ref pn, .int (k : Nat)]) := ⟨hp.1⟩
  refine ⟨_, pss_cons (ps_set (i := 2) sc_law_draw.nd rfl (by first | exact Or.inl rfl | exact Or.inr rfl) (pe_ix (ix_anyK (K := K) rfl) (pv 0) (pe_int) (fun _ _ => rfl)))
      (pss_cons (ps_asg (pe_op op_add (pv 2) (pe_int)) (pg_sub (pv 0) (pe_int) set_list))
      (pss_one (ps_ret (pe_ifExp (pt_cmpR op_lt (pv 2) (pe_callB (call_lenK (K := K) rfl) (by rfl) T.f_len (by decide +kernel) (pa_cons (pe_ix (ix_anyK (K := K) rfl) (pv 0) (pe_int) (fun _ _ => rfl)) pa_nil)) (nomark _)) (pe_op op_mod (pe_callTy call_intK (by rfl) T.f_int (by decide +kernel) (pa_cons (pe_ix (ix_anyK (K := K) rfl) (pe_ix (ix_anyK (K := K) rfl) (pv 0) (pe_int) (fun _ _ => rfl)) (pv 2) (fun _ _ => rfl)) pa_nil)) (pv 1)) (pe_int))))), ?_⟩
  refine start_to (σ := [some _, some _, none]) rfl ?_
  try dsimp only [cxOf]
  walk_at "go"
  rw [show ((k : Int) + 1) = ((k + 1 : Nat) : Int) by omega]
  have hl2 : upd H pl (.lst [.ref pn, .int ((k + 1 : Nat) : Nat)]) pn = some (.lst (ns.map V.int)) := by rw [upd_ne hne]; exact hp.2
  generalize hH2 : upd H pl (.lst [.ref pn, .int ((k + 1 : Nat) : Nat)]) = H2 at h hl2
  have : At H2 pl (.lst [.ref pn, .int ((k + 1 : Nat) : Nat)]) := ⟨by rw [← hH2]; exact upd_same⟩
  have : At H2 pn (.lst (ns.map V.int)) := ⟨hl2⟩
  walk_at "go"
  rw [List.length_map]
  by_cases hk : k < ns.length
  · rw [decide_eq_true (show ((k : Nat) : Int) < ((ns.length : Nat) : Int) by omega)]
    have := nth_int hk
    walk_at "go"
    refine ⟨by omega, ?_⟩
    have h1 := Int.emod_nonneg ns[k] (show ((m : Nat) : Int) ≠ 0 by omega)
    have h2 := Int.emod_lt_of_pos ns[k] (show (0 : Int) < ((m : Nat) : Int) by omega)
    have := h (ns[k] % ((m : Nat) : Int)).toNat (by omega)
    rw [show (((ns[k] % ((m : Nat) : Int)).toNat : Nat) : Int) = ns[k] % ((m : Nat) : Int) by omega] at this
    exact this
  · rw [decide_eq_false (show ¬ ((k : Nat) : Int) < ((ns.length : Nat) : Int) by omega)]
    walk_at "go"
    exact h 0 hm
/-- picks: one of a list -/
def pPick (pool some : V) (H : Hp) (Q : VK) : Prop := ∃ (pl pn s : Addr) (ns : List Int) (k : Nat) (vs : List V), pool = .ref pl ∧ PoolR H pl pn ns k ∧ some = .ref s ∧ s ≠ pl ∧ H s = .some (.lst vs) ∧ vs ≠ [] ∧ ∀ v, v ∈ vs → Q v (upd H pl (.lst [.ref pn, .int ((k + 1 : Nat) : Nat)]))
theorem ok_law_pick  (T : Txt w K mg) : Cal PG w K mg base (1 + 1) "_law_pick" (sp2 pPick) := by
  obtain ⟨fd, F⟩ := T.d_law_pick
  refine cal_mk F T.g_law_pick sc_law_pick (fun _ _ _ _ _ _ us hl => match us, hl with | [_, _], _ => rfl) fun cdv A outer s0 H vs Q E hr h => ?_
  obtain ⟨_, _, rfl, pl, pn, s, ns, k, vs, rfl, hp, rfl, hsp, hs, hv, h⟩ := h
  have c_law_draw := ok_law_draw (base := base) T
  have : At H s (.lst vs) := ⟨hs⟩
  refine ⟨_, pss_one (ps_ret (pe_ix (ix_anyK (K := K) rfl) (pv 1) (pe_cl c_law_draw hr (by first | decide | omega) rfl (pa_cons (pv 0) (pa_cons (pe_callB (call_lenK (K := K) rfl) (by rfl) T.f_len (by decide +kernel) (pa_cons (pv 1) pa_nil)) pa_nil))) (fun _ _ => rfl))), ?_⟩
  refine start_to (σ := [some _, some _]) rfl ?_
  try dsimp only [cxOf]
  walk_at "go"
  refine ⟨pl, pn, ns, k, vs.length, rfl, hp, rfl, List.length_pos_iff.mpr hv, fun d hd => ?_⟩
  have : At (upd H pl (.lst [.ref pn, .int ((k + 1 : Nat) : Nat)])) s (.lst vs) := ⟨by rw [upd_ne hsp]; exact hs⟩
  have : Nth vs ((d : Nat) : Int) vs[d] := nth_nat (List.getElem?_eq_getElem hd)
  walk_at "go"
  exact h _ (List.getElem_mem hd)
end

end PB
namespace PB
open PySem PySem.Spec PyProof.Rows L2
local macro_rules | `(tactic| walk_at "rd") => `(tactic| (repeat refine red ?_))
local macro_rules | `(tactic| walk_at "go") => `(tactic| (repeat (first | refine red ?_ | ((with_reducible apply k_var); rfl) | refine k_new fun _ _ => ?_ | refine wp_and rfl ?_ | refine if_redT rfl ?_ | refine if_redF rfl ?_)))
local macro_rules | `(tactic| walk_at "ga") => `(tactic| (repeat (first | refine red ?_ | ((with_reducible apply k_var); rfl) | ((with_reducible apply k_aug); rfl) | refine k_new fun _ _ => ?_ | refine wp_and rfl ?_ | refine if_redT rfl ?_ | refine if_redF rfl ?_)))
local macro_rules | `(tactic| walk_at "gq") => `(tactic| (repeat ((fail_if_success (with_reducible refine seq_stop ?_)); (first | refine red ?_ | ((with_reducible apply k_var); rfl) | refine k_new fun _ _ => ?_ | refine wp_and rfl ?_ | refine if_redT rfl ?_ | refine if_redF rfl ?_))))
local macro_rules | `(tactic| walk_at "ext") => `(tactic| (repeat (first | assumption | exact Ext.refl _ | refine Ext.newI ?_ | refine Ext.trans ?_ ‹Ext _ _›)))
local macro_rules | `(tactic| walk_at "rv") => `(tactic| (repeat (first | refine red ?_ | ((with_reducible apply k_var); rfl))))
/-! ### the law: pools opened, tests drawn -/
theorem dp_ints {K : PySem.W.Frag} {H : Hp} : ∀ {ns : List Int}, DpAll K H (ns.map V.int) (ns.map PyData.int)
  | [] => .nil
  | _ :: _ => .cons (.int _) dp_ints
theorem lay_ints : ∀ {ns : List Int}, PyData.canLayAll0 (ns.map PyData.int) = true ∧ PyData.depthAll (ns.map PyData.int) = 0
  | [] => by simp [PyData.canLayAll0, PyData.depthAll]
  | n :: r => by
    obtain ⟨a, b⟩ := lay_ints (ns := r)
    rw [List.map_cons]
    simp only [PyData.canLayAll0, PyData.canLay0, PyData.depthAll, PyData.depth, a, b]
    decide
theorem shaped_ints {ns : List Int} : SeqAt.shaped (.list (ns.map PyData.int)) = true := by
  obtain ⟨a, b⟩ := lay_ints (ns := ns)
  have e : (PyData.list (ns.map PyData.int)).depth = PyData.depthAll (ns.map PyData.int) + 1 := by simp only [PyData.depth]
  unfold SeqAt.shaped
  rw [e, b, show (PyData.list (ns.map PyData.int)).canLay0 = true by simp only [PyData.canLay0, a]]
  decide
section
variable {w : World} {K : PySem.W.Frag} {mg : Str → Option Value} {base : Heap}
theorem lsta_of {H : Hp} {a : Addr} {xs : List V} (h : SqL K H a xs) : LstA K H a xs := ⟨h⟩
def pOpened (K : PySem.W.Frag) (script k n : V) (H : Hp) (Q : VK) : Prop := ∃ (a : Addr) (ns : List Int) (j : Nat), script = .ref a ∧ SqL K H a (ns.map V.int) ∧ k = .int (j : Nat) ∧ j < 3 ∧ (ns ≠ [] → j < ns.length) ∧ n = .int 40 ∧
  ∀ pl pn ms H', Ext H H' → New H pl → PoolR H' pl pn ms 0 → Q (.ref pl) H'
theorem ok_law_opened  (T : Txt w K mg) : Cal PG w K mg base (1 + 1) "_law_opened" (sp3 (pOpened K)) := by
  obtain ⟨fd, F⟩ := T.d_law_opened
  refine cal_mk F T.g_law_opened sc_law_opened (fun _ _ _ _ _ _ us hl => match us, hl with | [_, _, _], _ => rfl) fun cdv A outer s0 H vs Q E hr h => ?_
  obtain ⟨_, _, _, rfl, a, ns, j, rfl, hs, rfl, hj, hjn, rfl, h⟩ := h
  have c_law_numbers := ok_law_numbers (base := base) T
  have := lsta_of hs
  refine ⟨_, pss_cons (ps_set (i := 3) sc_law_opened.nd rfl (by first | exact Or.inl rfl | exact Or.inr rfl) (pe_ifExp ((pt_cmpR (op_neDK (K := K) rfl hr) (pv 0) (pe_lst pa_nil) (nomark _))) (pe_ix (ix_anyK (K := K) rfl) (pv 0) (pv 1) (fun _ _ => rfl)) (pe_int)))
      (pss_one (ps_ret (pe_lst (pa_cons (pe_cl c_law_numbers hr (by first | decide | omega) rfl (pa_cons (pv 3) (pa_cons (pv 1) (pa_cons (pv 2) pa_nil)))) (pa_cons (pe_int) pa_nil))))), ?_⟩
  refine start_to (σ := [some _, some _, some _, none]) rfl ?_
  try dsimp only [cxOf]
  walk_at "go"
  rename_i e ne
  have eE : Ext H (upd H e (.lst [])) := ext_upd
  have hee := (upd_same : upd H e (.lst []) e = _)
  generalize upd H e (.lst []) = H1 at eE hee
  have hs1 := sqL_ext hs eE
  have := lsta_of hs1
  refine ⟨.list (ns.map PyData.int), .list [], .lst hs1 dp_ints, .lst (SqL.of hee) .nil, shaped_ints, shaped_ints (ns := []), ?_⟩
  cases ns with
  | nil =>
    walk_at "go"
    refine ⟨_, j, rfl, rfl, hj, rfl, fun r ms H2 e2 hr2 _ => ?_⟩
    walk_at "go"
    rename_i p hp
    have hrp : r ≠ p := fun z => by have := hp.h; rw [← z, hr2] at this; cases this
    exact h p r ms _ ((eE.trans e2).trans ext_upd) ⟨(eE.trans e2).back hp.h⟩ ⟨upd_same, by rw [upd_ne hrp]; exact hr2⟩
  | cons x r =>
    have hlt := hjn (fun z => nomatch z)
    have := nth_int hlt
    walk_at "go"
    refine ⟨_, j, rfl, rfl, hj, rfl, fun r ms H2 e2 hr2 _ => ?_⟩
    walk_at "go"
    rename_i p hp
    have hrp : r ≠ p := fun z => by have := hp.h; rw [← z, hr2] at this; cases this
    exact h p r ms _ ((eE.trans e2).trans ext_upd) ⟨(eE.trans e2).back hp.h⟩ ⟨upd_same, by rw [upd_ne hrp]; exact hr2⟩
/-- what stands, all but the pool -/
theorem ext_hid2 {d : Addr} {H H1 H2 : Hp} (a : Ext (Hid d H) H1) (b : Ext (Hid d H1) H2) : Ext (Hid d H) H2 := ⟨fun c o h => by
  have hc : c ≠ d := fun z => by unfold Hid at h; rw [if_pos z] at h; cases h
  exact b.at (Hid.at (a.at h) hc)⟩
theorem PoolR.new {H : Hp} {pl pn p : Addr} {ns : List Int} {k : Nat} {o : HO} (h : PoolR H pl pn ns k) (n : New H p) : PoolR (upd H p o) pl pn ns k :=
  ⟨by rw [upd_ne (ne_of_none_at n.h h.1).symm]; exact h.1, by rw [upd_ne (ne_of_none_at n.h h.2).symm]; exact h.2⟩
theorem PoolR.mono {H H' : Hp} {pl pn : Addr} {ns : List Int} {k : Nat} (h : PoolR H pl pn ns k) (e : Ext H H') : PoolR H' pl pn ns k := ⟨e.at h.1, e.at h.2⟩
theorem PoolR.next {H : Hp} {pl pn : Addr} {ns : List Int} {k : Nat} (h : PoolR H pl pn ns k) : PoolR (upd H pl (.lst [.ref pn, .int ((k + 1 : Nat) : Nat)])) pl pn ns (k + 1) :=
  ⟨upd_same, by rw [upd_ne (pool_ne h)]; exact h.2⟩
theorem pick_new {H : Hp} {pl pn s : Addr} {ns : List Int} {k : Nat} {vs : List V} {Q : VK} [n : New H s] (hp : PoolR H pl pn ns k) (hv : vs ≠ []) (h : ∀ v, v ∈ vs → ∀ H', Ext (Hid pl H) H' → PoolR H' pl pn ns (k + 1) → Q v H') : pPick (.ref pl) (.ref s) (upd H s (.lst vs)) Q :=
  ⟨pl, pn, s, ns, k, vs, rfl, hp.new n, rfl, ne_of_none_at n.h hp.1, upd_same, hv, fun v hm => h v hm _ ((Hid.mono ext_upd).trans (hid_unlock pl _ _)) (hp.new n).next⟩
def pTestL (pool : V) (H : Hp) (Q : VK) : Prop := ∃ (pl pn : Addr) (ns : List Int) (k : Nat), pool = .ref pl ∧ PoolR H pl pn ns k ∧ ∀ r k' t H', Ext (Hid pl H) H' → PoolR H' pl pn ns k' → TstR (Hid pl H') r t → t.ok → Q r H'
theorem ok_law_test  (T : Txt w K mg) : Cal PG w K mg base (2 + 1) "_law_test" (sp1 pTestL) := by
  obtain ⟨fd, F⟩ := T.d_law_test
  refine cal_mk F T.g_law_test sc_law_test (fun _ _ _ _ _ _ us hl => match us, hl with | [_], _ => rfl) fun cdv A outer s0 H vs Q E hr h => ?_
  obtain ⟨_, rfl, pl, pn, ns, k, rfl, hp, h⟩ := h
  have c_law_pick := ok_law_pick (base := base) T
  refine ⟨_, pss_cons (ps_par (i := 1) (j := 2) rfl sc_law_test.nd rfl rfl (by decide) rfl rfl (pa_cons (pe_cl c_law_pick hr (by first | decide | omega) rfl (pa_cons (pv 0) (pa_cons (pe_lst (pa_cons (pe_str) (pa_cons (pe_str) (pa_cons (pe_str) (pa_cons (pe_str) (pa_cons (pe_str) pa_nil)))))) pa_nil))) (pa_cons (pe_cl c_law_pick hr (by first | decide | omega) rfl (pa_cons (pv 0) (pa_cons (pe_lst (pa_cons (pe_str) (pa_cons (pe_str) (pa_cons (pe_str) pa_nil)))) pa_nil))) pa_nil)) (by rfl))
      (pss_cons (ps_if (pt_cmpR op_eq (pv 1) (pe_str) (nomark _)) (pss_one (ps_ret (pe_tup (pa_cons (pe_str) pa_nil)))) pss_nil)
      (pss_one (ps_ret (pe_ifExp (pt_cmpR op_eq (pv 1) (pe_str) (nomark _)) (pe_tup (pa_cons (pe_str) (pa_cons (pv 2) pa_nil))) (pe_tup (pa_cons (pv 1) (pa_cons (pv 2) (pa_cons (pe_cl c_law_pick hr (by first | decide | omega) rfl (pa_cons (pv 0) (pa_cons (pe_lst (pa_cons (pe_int) (pa_cons (pe_int) (pa_cons (pe_int) pa_nil)))) pa_nil))) pa_nil)))))))), ?_⟩
  refine start_to (σ := [some _, none, none]) rfl ?_
  try dsimp only [cxOf]
  walk_at "go"
  refine pick_new hp (fun z => nomatch z) fun v hv H1 e1 hp1 => ?_
  obtain ⟨wd, rfl, hwd⟩ : ∃ x, v = V.str x ∧ (x = "row" ∨ x = "has" ∨ x = "eq" ∨ x = "less") := by
    simp only [List.mem_cons, List.mem_singleton, List.not_mem_nil, or_false] at hv
    rcases hv with rfl | rfl | rfl | rfl | rfl
    · exact ⟨_, rfl, .inl rfl⟩
    · exact ⟨_, rfl, .inr (.inl rfl)⟩
    · exact ⟨_, rfl, .inr (.inr (.inl rfl))⟩
    · exact ⟨_, rfl, .inr (.inr (.inl rfl))⟩
    · exact ⟨_, rfl, .inr (.inr (.inr rfl))⟩
  walk_at "go"
  refine pick_new hp1 (fun z => nomatch z) fun v hv H2 e2 hp2 => ?_
  obtain ⟨x, rfl, hx⟩ : ∃ x, v = V.str x ∧ Nm x := by
    simp only [List.mem_cons, List.mem_singleton, List.not_mem_nil, or_false] at hv
    rcases hv with rfl | rfl | rfl
    · exact ⟨_, rfl, .inl rfl⟩
    · exact ⟨_, rfl, .inr (.inl rfl)⟩
    · exact ⟨_, rfl, .inr (.inr rfl)⟩
  have e02 : Ext (Hid pl H) H2 := ext_hid2 e1 e2
  rcases hwd with rfl | rfl | rfl | rfl
  · walk_at "go"
    rename_i p np
    have hpp : p ≠ pl := ne_of_none_at np.h hp2.1
    exact h _ _ .row _ (e02.trans ext_upd) (hp2.new np) ⟨p, rfl, Hid.at upd_same hpp⟩ ⟨fun _ z => (nomatch z), fun _ z => (nomatch z)⟩
  · walk_at "go"
    rename_i p np
    have hpp : p ≠ pl := ne_of_none_at np.h hp2.1
    exact h _ _ (.has x) _ (e02.trans ext_upd) (hp2.new np) ⟨p, rfl, Hid.at upd_same hpp⟩ ⟨fun _ z => by cases z; exact hx, fun _ z => (nomatch z)⟩
  · walk_at "go"
    refine pick_new hp2 (fun z => nomatch z) fun v hv H3 e3 hp3 => ?_
    obtain ⟨i, rfl, hi⟩ : ∃ x, v = V.int x ∧ Vl x := by
      simp only [List.mem_cons, List.mem_singleton, List.not_mem_nil, or_false] at hv
      rcases hv with rfl | rfl | rfl
      · exact ⟨_, rfl, .inl rfl⟩
      · exact ⟨_, rfl, .inr (.inl rfl)⟩
      · exact ⟨_, rfl, .inr (.inr rfl)⟩
    walk_at "go"
    rename_i p np
    have hpp : p ≠ pl := ne_of_none_at np.h hp3.1
    exact h _ _ (.eq x i) _ ((ext_hid2 e02 e3).trans ext_upd) (hp3.new np) ⟨p, rfl, Hid.at upd_same hpp⟩ ⟨fun _ z => by cases z; exact hx, fun _ z => by cases z; exact hi⟩
  · walk_at "go"
    refine pick_new hp2 (fun z => nomatch z) fun v hv H3 e3 hp3 => ?_
    obtain ⟨i, rfl, hi⟩ : ∃ x, v = V.int x ∧ Vl x := by
      simp only [List.mem_cons, List.mem_singleton, List.not_mem_nil, or_false] at hv
      rcases hv with rfl | rfl | rfl
      · exact ⟨_, rfl, .inl rfl⟩
      · exact ⟨_, rfl, .inr (.inl rfl)⟩
      · exact ⟨_, rfl, .inr (.inr rfl)⟩
    walk_at "go"
    rename_i p np
    have hpp : p ≠ pl := ne_of_none_at np.h hp3.1
    exact h _ _ (.less x i) _ ((ext_hid2 e02 e3).trans ext_upd) (hp3.new np) ⟨p, rfl, Hid.at upd_same hpp⟩ ⟨fun _ z => by cases z; exact hx, fun _ z => by cases z; exact hi⟩
end

end PB
namespace PB
open PySem PySem.Spec PyProof.Rows L2
local macro_rules | `(tactic| walk_at "rd") => `(tactic| (repeat refine red ?_))
local macro_rules | `(tactic| walk_at "go") => `(tactic| (repeat (first | refine red ?_ | ((with_reducible apply k_var); rfl) | refine k_new fun _ _ => ?_ | refine wp_and rfl ?_ | refine if_redT rfl ?_ | refine if_redF rfl ?_)))
local macro_rules | `(tactic| walk_at "ga") => `(tactic| (repeat (first | refine red ?_ | ((with_reducible apply k_var); rfl) | ((with_reducible apply k_aug); rfl) | refine k_new fun _ _ => ?_ | refine wp_and rfl ?_ | refine if_redT rfl ?_ | refine if_redF rfl ?_)))
local macro_rules | `(tactic| walk_at "gq") => `(tactic| (repeat ((fail_if_success (with_reducible refine seq_stop ?_)); (first | refine red ?_ | ((with_reducible apply k_var); rfl) | refine k_new fun _ _ => ?_ | refine wp_and rfl ?_ | refine if_redT rfl ?_ | refine if_redF rfl ?_))))
local macro_rules | `(tactic| walk_at "ext") => `(tactic| (repeat (first | assumption | exact Ext.refl _ | refine Ext.newI ?_ | refine Ext.trans ?_ ‹Ext _ _›)))
local macro_rules | `(tactic| walk_at "rv") => `(tactic| (repeat (first | refine red ?_ | ((with_reducible apply k_var); rfl))))
/-! ### the law: conditions drawn -/
mutual
theorem CA.imp {H H' : Hp} (key : ∀ a xs, H a = some (.tup xs) → H' a = some (.tup xs)) : ∀ (c : Cond) (v : V), CA H c v → CA H' c v
  | .t t, v, h => by
    obtain ⟨a, rfl, h⟩ := h
    exact ⟨a, rfl, key _ _ h⟩
  | .not c, v, h => by
    obtain ⟨a, b, rfl, h, h2⟩ := h
    exact ⟨a, b, rfl, key _ _ h, CA.imp key c b h2⟩
  | .seq w cs, v, h => by
    obtain ⟨a, p, vs, rfl, h, h2, h3⟩ := h
    exact ⟨a, p, vs, rfl, key _ _ h, key _ _ h2, CAs.imp key cs vs h3⟩
theorem CAs.imp {H H' : Hp} (key : ∀ a xs, H a = some (.tup xs) → H' a = some (.tup xs)) : ∀ (cs : List Cond) (vs : List V), CAs H cs vs → CAs H' cs vs
  | [], vs, h => h
  | c :: cs, vs, h => by
    obtain ⟨v, r, rfl, h, h2⟩ := h
    exact ⟨v, r, rfl, CA.imp key c v h, CAs.imp key cs r h2⟩
end
/-- the tuples stay where a list is -/
theorem tup_hid {H : Hp} {D : Addr} {ys : List V} (hD : H D = some (.lst ys)) (a : Addr) (xs : List V) (h : H a = some (.tup xs)) : Hid D H a = some (.tup xs) := Hid.at h (ne_of_at h hD fun z => nomatch z)
theorem CAs.snoc {H : Hp} {c : Cond} {v : V} : ∀ {cs : List Cond} {vs : List V}, CAs H cs vs → CA H c v → CAs H (cs ++ [c]) (vs ++ [v])
  | [], vs, h, hc => by
    have e : vs = [] := h
    subst e
    exact ⟨v, [], rfl, hc, rfl⟩
  | d :: cs, vs, h, hc => by
    obtain ⟨u, r, rfl, h1, h2⟩ := h
    exact ⟨u, r ++ [v], rfl, h1, CAs.snoc h2 hc⟩
/-- the parts drawn so far -/
structure DrawnL (b : Bool) (j d m : Nat) (cs : List Cond) : Prop where
  len : cs.length ≤ j
  pos : 0 < j → 1 ≤ cs.length
  ok : okL cs
  dep : depL cs ≤ d
  ts : (tsL cs).length ≤ j * m
  nd : b = true → (cs.filterMap Cond.lead).Nodup
theorem drawn_nil {b : Bool} {d m : Nat} : DrawnL b 0 d m [] := ⟨Nat.le_refl _, fun z => absurd z (Nat.lt_irrefl 0), True.intro, Nat.zero_le _, Nat.zero_le _, fun _ => List.nodup_nil⟩
theorem okL_app {c : Cond} (h : c.ok) : ∀ {cs : List Cond}, okL cs → okL (cs ++ [c])
  | [], _ => ⟨h, True.intro⟩
  | _ :: _, k => ⟨k.1, okL_app h k.2⟩
theorem depL_app {c : Cond} {d : Nat} (h : c.dep ≤ d) : ∀ {cs : List Cond}, depL cs ≤ d → depL (cs ++ [c]) ≤ d
  | [], _ => by show max c.dep 0 ≤ d; omega
  | x :: cs, k => by
    have k2 : max x.dep (depL cs) ≤ d := k
    have := depL_app h (cs := cs) (by omega)
    show max x.dep (depL (cs ++ [c])) ≤ d
    omega
theorem drawn_snoc {b : Bool} {j d m : Nat} {cs : List Cond} {c : Cond} (h : DrawnL b j d m cs) (ok : c.ok) (hd : c.dep ≤ d) (ht : c.ts.length ≤ m) (hl : b = true → ∀ l, c.lead = some l → ¬ l ∈ cs.filterMap Cond.lead) : DrawnL b (j + 1) d m (cs ++ [c]) := by
  refine ⟨by rw [List.length_append]; have := h.len; show _ + 1 ≤ _; omega, fun _ => by rw [List.length_append]; show 1 ≤ _ + 1; omega, okL_app ok h.ok, depL_app hd h.dep, ?_, fun hb => ?_⟩
  · rw [tsL_app, List.length_append, Nat.succ_mul]
    have := h.ts
    have e : tsL [c] = c.ts := List.append_nil _
    rw [e]
    omega
  · rw [List.filterMap_append]
    have e : [c].filterMap Cond.lead = c.lead.toList := by
      cases hc : c.lead with
      | none => simp [hc]
      | some l => simp [hc]
    rw [e]
    cases hc : c.lead with
    | none => rw [show (none : Option (List Key)).toList = [] from rfl, List.append_nil]; exact h.nd hb
    | some l =>
      rw [show (some l).toList = [l] from rfl, List.nodup_append]
      refine ⟨h.nd hb, by simp, fun x hx y hy z => ?_⟩
      rw [List.mem_singleton] at hy
      subst hy z
      exact hl hb _ hc hx
theorem drawn_skip {b : Bool} {j d m : Nat} {cs : List Cond} (h : DrawnL b j d m cs) (hp : 1 ≤ cs.length) : DrawnL b (j + 1) d m cs := ⟨by have := h.len; omega, fun _ => hp, h.ok, h.dep, by have := h.ts; rw [Nat.succ_mul]; omega, h.nd⟩
theorem any_pos {cs : List Cond} {d : PyData} (h : ((condsD cs).any fun z => PyData.eqv z d) = true) : 1 ≤ cs.length := by
  cases cs with
  | nil => cases h
  | cons a r => rw [List.length_cons]; omega
theorem any_all {c : Cond} {d : PyData} : ∀ {cs : List Cond}, ((condsD cs).any fun z => PyData.eqv z d) = false → c ∈ cs → PyData.eqv (condD c) d = false
  | [], _, h => by cases h
  | x :: cs, hb, h => by
    have hb2 : (PyData.eqv (condD x) d || (condsD cs).any fun z => PyData.eqv z d) = false := hb
    rw [Bool.or_eq_false_iff] at hb2
    rcases List.mem_cons.mp h with z | z
    · rw [z]; exact hb2.1
    · exact any_all hb2.2 z
theorem lead_inj {c e : Cond} {l : List Key} (h : c.lead = some l) (k : e.lead = some l) : c = e := by
  have key : ∀ {c : Cond} {l : List Key}, c.lead = some l → (c = .t .row ∧ l = [.inr "row"]) ∨ ∃ x, c = .t (.has x) ∧ l = [.inr "has", .inr x] := by
    intro c l h
    cases c with
    | t q =>
      cases q with
      | row => cases h; exact .inl ⟨rfl, rfl⟩
      | has x => cases h; exact .inr ⟨x, rfl, rfl⟩
      | eq => cases h
      | less => cases h
    | not => cases h
    | seq => cases h
  rcases key h with ⟨rfl, rfl⟩ | ⟨x, rfl, rfl⟩ <;> rcases key k with ⟨rfl, e2⟩ | ⟨y, rfl, e2⟩
  · rfl
  · cases e2
  · cases e2
  · injection e2 with _ e2
    injection e2 with e2 _
    injection e2 with e2
    rw [e2]
theorem lead_new {c : Cond} {cs : List Cond} {l : List Key} (ok : c.ok) (hb : ((condsD cs).any fun z => PyData.eqv z (condD c)) = false) (hl : c.lead = some l) (hm : l ∈ cs.filterMap Cond.lead) : False := by
  obtain ⟨e, he, h2⟩ := List.mem_filterMap.mp hm
  have e1 := lead_inj h2 hl
  subst e1
  have := any_all hb he
  rw [cond_same ok] at this
  cases this
theorem pickW {v : V} (hv : v ∈ [V.str (Str.ofString "test"), V.str (Str.ofString "not"), V.str (Str.ofString "all"), V.str (Str.ofString "any"), V.str (Str.ofString "all")]) : v = .str "test" ∨ v = .str "not" ∨ v = .str "all" ∨ v = .str "any" := by
  simp only [List.mem_cons, List.mem_singleton, List.not_mem_nil, or_false] at hv
  rcases hv with rfl | rfl | rfl | rfl | rfl
  · exact .inl rfl
  · exact .inr (.inl rfl)
  · exact .inr (.inr (.inl rfl))
  · exact .inr (.inr (.inr rfl))
  · exact .inr (.inr (.inl rfl))
section
variable {w : World} {K : PySem.W.Frag} {mg : Str → Option Value} {base : Heap}
def pCondL (n : Nat) (pool deep most : V) (H : Hp) (Q : VK) : Prop := ∃ (pl pn : Addr) (ns : List Int) (k d m : Nat), pool = .ref pl ∧ PoolR H pl pn ns k ∧ deep = .int (d : Nat) ∧ d ≤ n ∧ n ≤ 3 ∧ most = .int (m : Nat) ∧ 1 ≤ m ∧ m ≤ 4 ∧
  ∀ r k' c H', Ext (Hid pl H) H' → PoolR H' pl pn ns k' → CA (Hid pl H') c r → c.ok → c.dep ≤ d → c.ts.length ≤ m → Q r H'
theorem cond0 (T : Txt w K mg) : Cal PG w K mg base (3 + 1) "_law_condition" (sp3 (pCondL 0)) := by
  obtain ⟨fd, F⟩ := T.d_law_condition
  refine cal_mk F T.g_law_condition sc_law_condition (fun _ _ _ _ _ _ us hl => match us, hl with | [_, _, _], _ => rfl) fun cdv A outer s0 H vs Q E hr h => ?_
  obtain ⟨_, _, _, rfl, pl, pn, ns, k, d, m, rfl, hp, rfl, hd, _, rfl, hm1, hm4, h⟩ := h
  obtain rfl : d = 0 := by omega
  have c_law_pick := (ok_law_pick (base := base) T).mono (show 2 ≤ 3 by omega)
  have c_law_test := ok_law_test (base := base) T
  refine ⟨_, pss_cons (ps_set (i := 3) sc_law_condition.nd rfl (by first | exact Or.inl rfl | exact Or.inr rfl) (pe_cl c_law_pick hr (by first | decide | omega) rfl (pa_cons (pv 0) (pa_cons (pe_lst (pa_cons (pe_str) (pa_cons (pe_str) (pa_cons (pe_str) (pa_cons (pe_str) (pa_cons (pe_str) pa_nil)))))) pa_nil))))
      (pss_cons (ps_if (PW.pt (pw_or (pt_cmpR op_eq (pv 1) (pe_int) (nomark _)) (pw_or (pt_cmpR op_lt (pv 2) (pe_int) (nomark _)) (pw_or1 (pt_cmpR op_eq (pv 3) (pe_str) (nomark _)))))) (pss_one (ps_ret (pe_cl c_law_test hr (by first | decide | omega) rfl (pa_cons (pv 0) pa_nil)))) pss_nil)
      (pss_cons (ps_never)
      (pss_cons (ps_set (i := 4) sc_law_condition.nd rfl (by first | exact Or.inl rfl | exact Or.inr rfl) (pe_lst pa_nil))
      (pss_cons (ps_never)
      (pss_one (ps_ret (pe_tup (pa_cons (pv 3) (pa_cons (pe_callTy (call_tupK (K := K) rfl) (by rfl) T.f_tuple (by decide +kernel) (pa_cons (pv 4) pa_nil)) pa_nil))))))))), ?_⟩
  refine start_to (σ := [some _, some _, some _, none, none, none, none]) rfl ?_
  try dsimp only [cxOf]
  walk_at "go"
  refine pick_new hp (fun z => nomatch z) fun v hv H1 e1 hp1 => ?_
  rcases pickW hv with rfl | rfl | rfl | rfl
  all_goals
    walk_at "go"
    refine ⟨pl, pn, ns, k + 1, rfl, hp1, fun r k' t H2 e2 hp2 ht ok => ?_⟩
    exact h r k' (.t t) H2 (ext_hid2 e1 e2) hp2 ht ok (Nat.zero_le _) hm1
set_option maxHeartbeats 2000000 in
theorem condS (n : Nat) (T : Txt w K mg) (ih : Cal PG w K mg base (4 + n) "_law_condition" (sp3 (pCondL n))) : Cal PG w K mg base (4 + n + 1) "_law_condition" (sp3 (pCondL (n + 1))) := by
  obtain ⟨fd, F⟩ := T.d_law_condition
  refine cal_mk F T.g_law_condition sc_law_condition (fun _ _ _ _ _ _ us hl => match us, hl with | [_, _, _], _ => rfl) fun cdv A outer s0 H vs Q E hr h => ?_
  obtain ⟨_, _, _, rfl, pl, pn, ns, k, d, m, rfl, hp, rfl, hd, hn3, rfl, hm1, hm4, h⟩ := h
  have c_law_pick := (ok_law_pick (base := base) T).mono (show 2 ≤ 4 + n by omega)
  have c_law_draw := (ok_law_draw (base := base) T).mono (show 1 ≤ 4 + n by omega)
  have c_law_test := (ok_law_test (base := base) T).mono (show 3 ≤ 4 + n by omega)
  have c_law_condition := ih
  refine ⟨_, pss_cons (ps_set (i := 3) sc_law_condition.nd rfl (by first | exact Or.inl rfl | exact Or.inr rfl) (pe_cl c_law_pick hr (by first | decide | omega) rfl (pa_cons (pv 0) (pa_cons (pe_lst (pa_cons (pe_str) (pa_cons (pe_str) (pa_cons (pe_str) (pa_cons (pe_str) (pa_cons (pe_str) pa_nil)))))) pa_nil))))
      (pss_cons (ps_if (PW.pt (pw_or (pt_cmpR op_eq (pv 1) (pe_int) (nomark _)) (pw_or (pt_cmpR op_lt (pv 2) (pe_int) (nomark _)) (pw_or1 (pt_cmpR op_eq (pv 3) (pe_str) (nomark _)))))) (pss_one (ps_ret (pe_cl c_law_test hr (by first | decide | omega) rfl (pa_cons (pv 0) pa_nil)))) pss_nil)
      (pss_cons (ps_if (pt_cmpR op_eq (pv 3) (pe_str) (nomark _)) (pss_one (ps_ret (pe_tup (pa_cons (pe_str) (pa_cons (pe_cl c_law_condition hr (by first | decide | omega) rfl (pa_cons (pv 0) (pa_cons (pe_op op_sub (pv 1) (pe_int)) (pa_cons (pv 2) pa_nil)))) pa_nil))))) pss_nil)
      (pss_cons (ps_set (i := 4) sc_law_condition.nd rfl (by first | exact Or.inl rfl | exact Or.inr rfl) (pe_lst pa_nil))
      (pss_cons (ps_for PassesOwn.never rfl (pi_range1 (by rfl) T.f_range (pa_cons (pe_op op_add (pe_int) (pe_cl c_law_draw hr (by first | decide | omega) rfl (pa_cons (pv 0) (pa_cons (pe_int) pa_nil)))) pa_nil)) (pg_name (i := 5) sc_law_condition.nd rfl (by first | exact Or.inl rfl | exact Or.inr rfl)) (pss_cons (ps_set (i := 6) sc_law_condition.nd rfl (by first | exact Or.inl rfl | exact Or.inr rfl) (pe_cl c_law_condition hr (by first | decide | omega) rfl (pa_cons (pv 0) (pa_cons (pe_op op_sub (pv 1) (pe_int)) (pa_cons (pe_op op_fdiv (pv 2) (pe_int)) pa_nil)))))
      (pss_one (ps_if (PW.pt (pw_or (pt_cmpR op_eq (pv 3) (pe_str) (nomark _)) (pw_or (pt_cmpR (op_notInK (K := K) rfl) (pe_ix (ix_anyK (K := K) rfl) (pv 6) (pe_int) (fun _ _ => rfl)) (pe_lst (pa_cons (pe_str) (pa_cons (pe_str) pa_nil))) (by rfl)) (pw_or1 ((pt_cmpR (op_notInDK (K := K) rfl hr) (pv 6) (pv 4) (by rfl))))))) (pss_one (ps_expr (pe_bm PySem.F.plainAttrs_list PySem.F.slot_list_append PySem.F.type_list_append mt_append (pv 4) (pa_cons (pv 6) pa_nil)))) pss_nil))))
      (pss_one (ps_ret (pe_tup (pa_cons (pv 3) (pa_cons (pe_callTy (call_tupK (K := K) rfl) (by rfl) T.f_tuple (by decide +kernel) (pa_cons (pv 4) pa_nil)) pa_nil))))))))), ?_⟩
  refine start_to (σ := [some _, some _, some _, none, none, none, none]) rfl ?_
  try dsimp only [cxOf]
  walk_at "go"
  refine pick_new hp (fun z => nomatch z) fun v hv H1 e1 hp1 => ?_
  have tst : ∀ {Q' : VK}, (∀ r H', Q r H' → Q' r H') → pTestL (.ref pl) H1 Q' := fun hQ => ⟨pl, pn, ns, k + 1, rfl, hp1, fun r k' t H2 e2 hp2 ht ok => hQ _ _ (h r k' (.t t) H2 (ext_hid2 e1 e2) hp2 ht ok (Nat.zero_le _) hm1)⟩
  by_cases hd0 : d = 0
  · subst hd0
    rcases pickW hv with rfl | rfl | rfl | rfl
    all_goals
      walk_at "go"
      exact tst fun _ _ q => q
  · by_cases hm2 : m < 2
    · rcases pickW hv with rfl | rfl | rfl | rfl
      all_goals
        walk_at "go"
        rw [decide_eq_false (show ¬ ((d : Nat) : Int) = 0 by omega)]
        walk_at "go"
        rw [decide_eq_true (show ((m : Nat) : Int) < 2 by omega)]
        walk_at "go"
        exact tst fun _ _ q => q
    · rcases pickW hv with rfl | rfl | hv
      · walk_at "go"
        rw [decide_eq_false (show ¬ ((d : Nat) : Int) = 0 by omega)]
        walk_at "go"
        rw [decide_eq_false (show ¬ ((m : Nat) : Int) < 2 by omega)]
        walk_at "go"
        exact tst fun _ _ q => q
      · walk_at "go"
        rw [decide_eq_false (show ¬ ((d : Nat) : Int) = 0 by omega)]
        walk_at "go"
        rw [decide_eq_false (show ¬ ((m : Nat) : Int) < 2 by omega)]
        walk_at "go"
        refine ⟨pl, pn, ns, k + 1, d - 1, m, rfl, hp1, congrArg V.int (by omega), by omega, by omega, rfl, hm1, hm4, fun r k' c H2 e2 hp2 hc ok hcd hct => ?_⟩
        walk_at "go"
        rename_i p np
        have hpp : p ≠ pl := ne_of_none_at np.h hp2.1
        refine h _ k' (.not c) _ ((ext_hid2 e1 e2).trans ext_upd) (hp2.new np) ⟨p, r, rfl, Hid.at upd_same hpp, CA.mono (Hid.mono ext_upd) c r hc⟩ ok ?_ hct
        show c.dep + 1 ≤ d
        omega
      · rcases hv with rfl | rfl
        · -- all
          walk_at "go"
          rw [decide_eq_false (show ¬ ((d : Nat) : Int) = 0 by omega)]
          walk_at "go"
          rw [decide_eq_false (show ¬ ((m : Nat) : Int) < 2 by omega)]
          walk_at "go"
          rename_i D nD
          have hDpl : D ≠ pl := ne_of_none_at nD.h hp1.1
          refine ⟨pl, pn, ns, k + 1, 2, rfl, hp1.new nD, rfl, by decide, fun j2 hj2 => ?_⟩
          have hp2 : PoolR (upd (upd H1 D (.lst [])) pl (.lst [.ref pn, .int ((k + 1 + 1 : Nat) : Nat)])) pl pn ns (k + 1 + 1) := (hp1.new nD).next
          have e2 : Ext (Hid pl H1) (upd (upd H1 D (.lst [])) pl (.lst [.ref pn, .int ((k + 1 + 1 : Nat) : Nat)])) := (Hid.mono ext_upd).trans (hid_unlock pl _ _)
          have hD2 : (upd (upd H1 D (.lst [])) pl (.lst [.ref pn, .int ((k + 1 + 1 : Nat) : Nat)])) D = some (.lst []) := by rw [upd_ne hDpl, upd_same]
          have hDn : Hid pl H1 D = none := by unfold Hid; rw [if_neg hDpl]; exact nD.h
          generalize upd (upd H1 D (.lst [])) pl (.lst [.ref pn, .int ((k + 1 + 1 : Nat) : Nat)]) = H2 at hp2 e2 hD2
          walk_at "go"
          refine ⟨by omega, ?_⟩
          refine for_goT (fun j σ' H' => (∃ x y, σ' = [some (.ref pl), some (.int (d : Nat)), some (.int (m : Nat)), some (.str "all"), some (.ref D), x, y]) ∧ Ext (Hid pl H1) H' ∧ (∃ k', PoolR H' pl pn ns k') ∧ ∃ cs vs, H' D = some (.lst vs) ∧ CAs H' cs vs ∧ DrawnL true j (d - 1) (m / 2) cs) ⟨⟨_, _, rfl⟩, e2, ⟨_, hp2⟩, [], [], hD2, rfl, drawn_nil⟩ ?_ ?_
          · rintro j x σ' H3 H4 hj ⟨⟨x0, y0, rfl⟩, e3, ⟨k3, hp3⟩, cs, vs, hD3, hcs, hdr⟩ ⟨rfl, rfl⟩
            have hj1 : j < 2 := by omega
            walk_at "go"
            refine ⟨⟨by decide, by decide⟩, ?_⟩
            walk_at "go"
            refine ⟨pl, pn, ns, k3, d - 1, m / 2, rfl, hp3, congrArg V.int (by omega), by omega, by omega, congrArg V.int (by omega), by omega, by omega, fun r k5 c H5 e5 hp5 hc ok hcd hct => ?_⟩
            have hD5 : H5 D = some (.lst vs) := e5.at (Hid.at hD3 hDpl)
            have hc5 : CA H5 c r := CA.mono (Hid.sub pl H5) c r hc
            have hcs5 : CAs H5 cs vs := CAs.imp (fun a xs h => e5.at (tup_hid hp3.1 a xs h)) cs vs hcs
            have e05 : Ext (Hid pl H1) H5 := ext_hid2 e3 e5
            have hvl : vs.length = cs.length := CAs.len hcs5
            have hvn : vs.length < 2 ^ 24 := by have := hdr.len; omega
            have fin : ∀ H6, Ext H5 H6 → (true = true → ∀ l, c.lead = some l → ¬ l ∈ cs.filterMap Cond.lead) → Ext (Hid pl H1) (upd H6 D (.lst (vs ++ [r]))) ∧ (∃ k', PoolR (upd H6 D (.lst (vs ++ [r]))) pl pn ns k') ∧ ∃ cs2 vs2, upd H6 D (.lst (vs ++ [r])) D = some (.lst vs2) ∧ CAs (upd H6 D (.lst (vs ++ [r]))) cs2 vs2 ∧ DrawnL true (j + 1) (d - 1) (m / 2) cs2 := fun H6 e6 hl => by
              have key : ∀ a xs, H5 a = some (.tup xs) → upd H6 D (.lst (vs ++ [r])) a = some (.tup xs) := fun a xs h => (hid_unlock D H6 _).at (tup_hid (e6.at hD5) a xs (e6.at h))
              have hpF : PoolR (upd H6 D (.lst (vs ++ [r]))) pl pn ns k5 := ⟨by rw [upd_ne hDpl.symm]; exact e6.at hp5.1, by rw [upd_ne (ne_of_none_at nD.h hp1.2).symm]; exact e6.at hp5.2⟩
              exact ⟨(e05.trans e6).mut hDn, ⟨_, hpF⟩, cs ++ [c], vs ++ [r], upd_same, CAs.snoc (CAs.imp key cs vs hcs5) (CA.imp key c r hc5), drawn_snoc hdr ok hcd hct hl⟩
            have skip : ∀ H6, Ext H5 H6 → 1 ≤ cs.length → Ext (Hid pl H1) H6 ∧ (∃ k', PoolR H6 pl pn ns k') ∧ ∃ cs2 vs2, H6 D = some (.lst vs2) ∧ CAs H6 cs2 vs2 ∧ DrawnL true (j + 1) (d - 1) (m / 2) cs2 := fun H6 e6 hl =>
              ⟨e05.trans e6, ⟨_, hp5.mono e6⟩, cs, vs, e6.at hD5, CAs.mono e6 cs vs hcs5, drawn_skip hdr hl⟩
            have : At H5 D (.lst vs) := ⟨hD5⟩
            cases c with
            | t q =>
              obtain ⟨a, rfl, ha⟩ := id hc5
              cases q with
              | row =>
                have : At H5 a (.tup [.str "row"]) := ⟨ha⟩
                walk_at "go"
                rename_i L nL
                have eL : Ext H5 (upd H5 L (.lst [.str "row", .str "has"])) := ext_upd
                generalize upd H5 L (.lst [.str "row", .str "has"]) = H6 at eL
                have hD6 := eL.at hD5
                have : At H6 D (.lst vs) := ⟨hD6⟩
                refine ⟨condD (.t .row), condsD cs, dp_cond _ _ (CA.mono eL _ _ hc5), .lst (SqL.of hD6) (dp_conds cs vs (CAs.mono eL cs vs hcs5)), shaped_cond ok (by omega), shaped_conds hdr.ok (by have := hdr.dep; omega), ?_⟩
                cases hb : ((condsD cs).any fun z => PyData.eqv z (condD (.t .row))) with
                | true =>
                  walk_at "go"
                  exact ⟨⟨_, _, rfl⟩, skip H6 eL (any_pos hb)⟩
                | false =>
                  walk_at "go"
                  refine ⟨hvn, ?_⟩
                  walk_at "go"
                  exact ⟨⟨_, _, rfl⟩, fin H6 eL fun _ l hl hm => lead_new ok hb hl hm⟩
              | has x =>
                have : At H5 a (.tup [.str "has", .str x]) := ⟨ha⟩
                walk_at "go"
                rename_i L nL
                have eL : Ext H5 (upd H5 L (.lst [.str "row", .str "has"])) := ext_upd
                generalize upd H5 L (.lst [.str "row", .str "has"]) = H6 at eL
                have hD6 := eL.at hD5
                have : At H6 D (.lst vs) := ⟨hD6⟩
                refine ⟨condD (.t (.has x)), condsD cs, dp_cond _ _ (CA.mono eL _ _ hc5), .lst (SqL.of hD6) (dp_conds cs vs (CAs.mono eL cs vs hcs5)), shaped_cond ok (by omega), shaped_conds hdr.ok (by have := hdr.dep; omega), ?_⟩
                cases hb : ((condsD cs).any fun z => PyData.eqv z (condD (.t (.has x)))) with
                | true =>
                  walk_at "go"
                  exact ⟨⟨_, _, rfl⟩, skip H6 eL (any_pos hb)⟩
                | false =>
                  walk_at "go"
                  refine ⟨hvn, ?_⟩
                  walk_at "go"
                  exact ⟨⟨_, _, rfl⟩, fin H6 eL fun _ l hl hm => lead_new ok hb hl hm⟩
              | eq x v =>
                have : At H5 a (.tup [.str "eq", .str x, .int v]) := ⟨ha⟩
                walk_at "go"
                rename_i L nL
                refine ⟨hvn, ?_⟩
                walk_at "go"
                exact ⟨⟨_, _, rfl⟩, fin _ ext_upd fun _ l z => nomatch z⟩
              | less x v =>
                have : At H5 a (.tup [.str "less", .str x, .int v]) := ⟨ha⟩
                walk_at "go"
                rename_i L nL
                refine ⟨hvn, ?_⟩
                walk_at "go"
                exact ⟨⟨_, _, rfl⟩, fin _ ext_upd fun _ l z => nomatch z⟩
            | not c2 =>
              obtain ⟨a, b2, rfl, ha, _⟩ := id hc5
              have : At H5 a (.tup [.str "not", b2]) := ⟨ha⟩
              walk_at "go"
              rename_i L nL
              refine ⟨hvn, ?_⟩
              walk_at "go"
              exact ⟨⟨_, _, rfl⟩, fin _ ext_upd fun _ l z => nomatch z⟩
            | seq wb cs2 =>
              obtain ⟨a, p2, vs2, rfl, ha, _⟩ := id hc5
              cases wb with
              | true =>
                have : At H5 a (.tup [.str "all", .ref p2]) := ⟨ha⟩
                walk_at "go"
                rename_i L nL
                refine ⟨hvn, ?_⟩
                walk_at "go"
                exact ⟨⟨_, _, rfl⟩, fin _ ext_upd fun _ l z => nomatch z⟩
              | false =>
                have : At H5 a (.tup [.str "any", .ref p2]) := ⟨ha⟩
                walk_at "go"
                rename_i L nL
                refine ⟨hvn, ?_⟩
                walk_at "go"
                exact ⟨⟨_, _, rfl⟩, fin _ ext_upd fun _ l z => nomatch z⟩
          · rintro σ' H3 ⟨⟨x0, y0, rfl⟩, e3, ⟨k3, hp3⟩, cs, vs, hD3, hcs, hdr⟩
            have : At H3 D (.lst vs) := ⟨hD3⟩
            walk_at "go"
            rename_i t nt p np
            have hpp : p ≠ pl := ne_of_none_at np.h (by rw [upd_ne (ne_of_none_at nt.h hp3.1).symm]; exact hp3.1)
            have htp : t ≠ pl := ne_of_none_at nt.h hp3.1
            have hjj : (1 + (j2 : Int)).toNat = 1 + j2 := by omega
            rw [hjj] at hdr
            have e4 : Ext H3 (upd (upd H3 t (.tup vs)) p (.tup [.str "all", .ref t])) := Ext.trans ext_upd ext_upd
            have hH : PoolR (upd (upd H3 t (.tup vs)) p (.tup [.str "all", .ref t])) pl pn ns k3 := hp3.mono e4
            refine h _ k3 (.seq true cs) _ (ext_hid2 e1 (e3.trans e4)) hH ⟨p, t, vs, rfl, Hid.at upd_same hpp, Hid.at (by rw [upd_ne (ne_of_none_at np.h upd_same).symm, upd_same]) htp, CAs.imp (fun a xs h => tup_hid hH.1 a xs (e4.at h)) cs vs hcs⟩ ⟨hdr.pos (by omega), by have := hdr.len; omega, hdr.nd, hdr.ok⟩ ?_ ?_
            · have := hdr.dep
              show depL cs + 1 ≤ d
              omega
            · have h1 := hdr.ts
              have h2 : (1 + j2) * (m / 2) ≤ 2 * (m / 2) := Nat.mul_le_mul_right _ (by omega)
              show (tsL cs).length ≤ m
              omega
        · -- any
          walk_at "go"
          rw [decide_eq_false (show ¬ ((d : Nat) : Int) = 0 by omega)]
          walk_at "go"
          rw [decide_eq_false (show ¬ ((m : Nat) : Int) < 2 by omega)]
          walk_at "go"
          rename_i D nD
          have hDpl : D ≠ pl := ne_of_none_at nD.h hp1.1
          refine ⟨pl, pn, ns, k + 1, 2, rfl, hp1.new nD, rfl, by decide, fun j2 hj2 => ?_⟩
          have hp2 : PoolR (upd (upd H1 D (.lst [])) pl (.lst [.ref pn, .int ((k + 1 + 1 : Nat) : Nat)])) pl pn ns (k + 1 + 1) := (hp1.new nD).next
          have e2 : Ext (Hid pl H1) (upd (upd H1 D (.lst [])) pl (.lst [.ref pn, .int ((k + 1 + 1 : Nat) : Nat)])) := (Hid.mono ext_upd).trans (hid_unlock pl _ _)
          have hD2 : (upd (upd H1 D (.lst [])) pl (.lst [.ref pn, .int ((k + 1 + 1 : Nat) : Nat)])) D = some (.lst []) := by rw [upd_ne hDpl, upd_same]
          have hDn : Hid pl H1 D = none := by unfold Hid; rw [if_neg hDpl]; exact nD.h
          generalize upd (upd H1 D (.lst [])) pl (.lst [.ref pn, .int ((k + 1 + 1 : Nat) : Nat)]) = H2 at hp2 e2 hD2
          walk_at "go"
          refine ⟨by omega, ?_⟩
          refine for_goT (fun j σ' H' => (∃ x y, σ' = [some (.ref pl), some (.int (d : Nat)), some (.int (m : Nat)), some (.str "any"), some (.ref D), x, y]) ∧ Ext (Hid pl H1) H' ∧ (∃ k', PoolR H' pl pn ns k') ∧ ∃ cs vs, H' D = some (.lst vs) ∧ CAs H' cs vs ∧ DrawnL false j (d - 1) (m / 2) cs) ⟨⟨_, _, rfl⟩, e2, ⟨_, hp2⟩, [], [], hD2, rfl, drawn_nil⟩ ?_ ?_
          · rintro j x σ' H3 H4 hj ⟨⟨x0, y0, rfl⟩, e3, ⟨k3, hp3⟩, cs, vs, hD3, hcs, hdr⟩ ⟨rfl, rfl⟩
            have hj1 : j < 2 := by omega
            walk_at "go"
            refine ⟨⟨by decide, by decide⟩, ?_⟩
            walk_at "go"
            refine ⟨pl, pn, ns, k3, d - 1, m / 2, rfl, hp3, congrArg V.int (by omega), by omega, by omega, congrArg V.int (by omega), by omega, by omega, fun r k5 c H5 e5 hp5 hc ok hcd hct => ?_⟩
            have hD5 : H5 D = some (.lst vs) := e5.at (Hid.at hD3 hDpl)
            have hc5 : CA H5 c r := CA.mono (Hid.sub pl H5) c r hc
            have hcs5 : CAs H5 cs vs := CAs.imp (fun a xs h => e5.at (tup_hid hp3.1 a xs h)) cs vs hcs
            have e05 : Ext (Hid pl H1) H5 := ext_hid2 e3 e5
            have hvl : vs.length = cs.length := CAs.len hcs5
            have hvn : vs.length < 2 ^ 24 := by have := hdr.len; omega
            have fin : ∀ H6, Ext H5 H6 → (false = true → ∀ l, c.lead = some l → ¬ l ∈ cs.filterMap Cond.lead) → Ext (Hid pl H1) (upd H6 D (.lst (vs ++ [r]))) ∧ (∃ k', PoolR (upd H6 D (.lst (vs ++ [r]))) pl pn ns k') ∧ ∃ cs2 vs2, upd H6 D (.lst (vs ++ [r])) D = some (.lst vs2) ∧ CAs (upd H6 D (.lst (vs ++ [r]))) cs2 vs2 ∧ DrawnL false (j + 1) (d - 1) (m / 2) cs2 := fun H6 e6 hl => by
              have key : ∀ a xs, H5 a = some (.tup xs) → upd H6 D (.lst (vs ++ [r])) a = some (.tup xs) := fun a xs h => (hid_unlock D H6 _).at (tup_hid (e6.at hD5) a xs (e6.at h))
              have hpF : PoolR (upd H6 D (.lst (vs ++ [r]))) pl pn ns k5 := ⟨by rw [upd_ne hDpl.symm]; exact e6.at hp5.1, by rw [upd_ne (ne_of_none_at nD.h hp1.2).symm]; exact e6.at hp5.2⟩
              exact ⟨(e05.trans e6).mut hDn, ⟨_, hpF⟩, cs ++ [c], vs ++ [r], upd_same, CAs.snoc (CAs.imp key cs vs hcs5) (CA.imp key c r hc5), drawn_snoc hdr ok hcd hct hl⟩
            have skip : ∀ H6, Ext H5 H6 → 1 ≤ cs.length → Ext (Hid pl H1) H6 ∧ (∃ k', PoolR H6 pl pn ns k') ∧ ∃ cs2 vs2, H6 D = some (.lst vs2) ∧ CAs H6 cs2 vs2 ∧ DrawnL false (j + 1) (d - 1) (m / 2) cs2 := fun H6 e6 hl =>
              ⟨e05.trans e6, ⟨_, hp5.mono e6⟩, cs, vs, e6.at hD5, CAs.mono e6 cs vs hcs5, drawn_skip hdr hl⟩
            have : At H5 D (.lst vs) := ⟨hD5⟩
            walk_at "go"
            refine ⟨hvn, ?_⟩
            walk_at "go"
            exact ⟨⟨_, _, rfl⟩, fin H5 (Ext.refl H5) fun z => nomatch z⟩
          · rintro σ' H3 ⟨⟨x0, y0, rfl⟩, e3, ⟨k3, hp3⟩, cs, vs, hD3, hcs, hdr⟩
            have : At H3 D (.lst vs) := ⟨hD3⟩
            walk_at "go"
            rename_i t nt p np
            have hpp : p ≠ pl := ne_of_none_at np.h (by rw [upd_ne (ne_of_none_at nt.h hp3.1).symm]; exact hp3.1)
            have htp : t ≠ pl := ne_of_none_at nt.h hp3.1
            have hjj : (1 + (j2 : Int)).toNat = 1 + j2 := by omega
            rw [hjj] at hdr
            have e4 : Ext H3 (upd (upd H3 t (.tup vs)) p (.tup [.str "any", .ref t])) := Ext.trans ext_upd ext_upd
            have hH : PoolR (upd (upd H3 t (.tup vs)) p (.tup [.str "any", .ref t])) pl pn ns k3 := hp3.mono e4
            refine h _ k3 (.seq false cs) _ (ext_hid2 e1 (e3.trans e4)) hH ⟨p, t, vs, rfl, Hid.at upd_same hpp, Hid.at (by rw [upd_ne (ne_of_none_at np.h upd_same).symm, upd_same]) htp, CAs.imp (fun a xs h => tup_hid hH.1 a xs (e4.at h)) cs vs hcs⟩ ⟨hdr.pos (by omega), by have := hdr.len; omega, hdr.nd, hdr.ok⟩ ?_ ?_
            · have := hdr.dep
              show depL cs + 1 ≤ d
              omega
            · have h1 := hdr.ts
              have h2 : (1 + j2) * (m / 2) ≤ 2 * (m / 2) := Nat.mul_le_mul_right _ (by omega)
              show (tsL cs).length ≤ m
              omega
theorem ok_law_condition (n : Nat) (T : Txt w K mg) : Cal PG w K mg base (4 + n) "_law_condition" (sp3 (pCondL n)) := by
  induction n with
  | zero => exact cond0 T
  | succ n ih => exact condS n T ih
end

end PB
namespace PB
open PySem PySem.Spec PyProof.Rows L2
local macro_rules | `(tactic| walk_at "rd") => `(tactic| (repeat refine red ?_))
local macro_rules | `(tactic| walk_at "go") => `(tactic| (repeat (first | refine red ?_ | ((with_reducible apply k_var); rfl) | refine k_new fun _ _ => ?_ | refine wp_and rfl ?_ | refine if_redT rfl ?_ | refine if_redF rfl ?_)))

local macro_rules | `(tactic| walk_at "ext") => `(tactic| (repeat (first | assumption | exact Ext.refl _ | refine Ext.newI ?_ | refine Ext.trans ?_ ‹Ext _ _›)))
local macro_rules | `(tactic| walk_at "rv") => `(tactic| (repeat (first | refine red ?_ | ((with_reducible apply k_var); rfl))))
/-! ### dict of pairs -/
def rDP (K : PySem.W.Frag) (xs : List V) (H : Hp) (Q : VK) : Prop := ∃ (a : Addr) (ps : List Addr) (kvs : List (Key × V)), xs = [.ref a] ∧ SqL K H a (ps.map V.ref) ∧ Paired (fun p kv => SqT K H p [kV kv.1, kv.2]) ps kvs ∧ ∀ p, H p = none → Q (.ref p) (upd H p (.dK (mergeK [] kvs)))
theorem call_dictPK {X : Cx} {K : PySem.W.Frag} (h : X.K = K) (hc : X.calm = true) : CallR X (.type "dict") (rDP K) := h ▸ call_dictP hc
def PrR {α : Type} (R : Hp → V → α → Prop) (k : α → Key) (H : Hp) (v : V) (d : α) : Prop := ∃ p b, v = .ref p ∧ H p = some (.tup [kV (k d), b]) ∧ R H b d
theorem prs_of {K : PySem.W.Frag} {α : Type} {R : Hp → V → α → Prop} {k : α → Key} {H : Hp} : ∀ {vs : List V} {ds : List α}, Each (PrR R k) H vs ds →
    ∃ (ps : List Addr) (kvs : List (Key × V)), vs = ps.map V.ref ∧ Paired (fun p kv => SqT K H p [kV kv.1, kv.2]) ps kvs ∧ Paired (KR R H) kvs (ds.map fun d => (k d, d))
  | _, _, .nil => ⟨[], [], rfl, .nil, .nil⟩
  | _, _, .cons h t => by
    obtain ⟨ps, kvs, rfl, h1, h2⟩ := prs_of (K := K) t
    obtain ⟨p, b, rfl, hp, hb⟩ := h
    exact ⟨p :: ps, (k _, b) :: kvs, rfl, .cons (SqT.of hp) h1, .cons ⟨rfl, hb⟩ h2⟩
theorem kr_keys {β : Type} {R : Hp → V → β → Prop} {H : Hp} : ∀ {kvs : List (Key × V)} {ds : List (Key × β)}, Paired (KR R H) kvs ds → kvs.map (·.1) = ds.map (·.1)
  | _, _, .nil => rfl
  | _, _, .cons h t => by rw [List.map_cons, List.map_cons, kr_keys t, h.1]

end PB
namespace PB
open PySem PySem.Spec PyProof.Rows L2
local macro_rules | `(tactic| walk_at "rd") => `(tactic| (repeat refine red ?_))
local macro_rules | `(tactic| walk_at "go") => `(tactic| (repeat (first | refine red ?_ | ((with_reducible apply k_var); rfl) | refine k_new fun _ _ => ?_ | refine wp_and rfl ?_ | refine if_redT rfl ?_ | refine if_redF rfl ?_)))

local macro_rules | `(tactic| walk_at "ext") => `(tactic| (repeat (first | assumption | exact Ext.refl _ | refine Ext.newI ?_ | refine Ext.trans ?_ ‹Ext _ _›)))
local macro_rules | `(tactic| walk_at "rv") => `(tactic| (repeat (first | refine red ?_ | ((with_reducible apply k_var); rfl))))
/-! ### displays of dicts -/
section
variable {σ : L2.St} {H : Hp} {Q : VK} {QP : List (V × V) → Hp → Prop} {tk tv : TE} {r : List (TE × TE)}
def kDsp (p : Addr) (ps : List (V × V)) (H : Hp) (Q : VK) : Prop := H p = some (.dK []) ∧ ∃ kvs : List (Key × V), ps = kvs.map (fun kv => (kV kv.1, kv.2)) ∧ kvs.length ≤ 15 ∧ Q (.ref p) (upd H p (.dK (mergeK [] kvs)))
def kDsp0 (trs : List (TE × TE)) (σ : L2.St) (H : Hp) (Q : VK) : Prop := ∀ p, New H p → tPairs trs σ (upd H p (.dK [])) fun ps H2 => kDsp p ps H2 Q
instance : Red (tDisp r σ H Q) (kDsp0 r σ H Q) := ⟨fun h p hp => h p ⟨hp⟩⟩
instance : Red (tPairs [] σ H QP) (QP [] H) := ⟨id⟩
instance : Red (tPairs ((tk, tv) :: r) σ H QP) (tk σ H fun x H1 => tv σ H1 fun y H2 => tPairs r σ H2 fun ps H3 => QP ((x, y) :: ps) H3) := ⟨id⟩
end

end PB
namespace PB
open PySem PySem.Spec PyProof.Rows L2
local macro_rules | `(tactic| walk_at "rd") => `(tactic| (repeat refine red ?_))
local macro_rules | `(tactic| walk_at "go") => `(tactic| (repeat (first | refine red ?_ | ((with_reducible apply k_var); rfl) | refine k_new fun _ _ => ?_ | refine wp_and rfl ?_ | refine if_redT rfl ?_ | refine if_redF rfl ?_)))
local macro_rules | `(tactic| walk_at "ga") => `(tactic| (repeat (first | refine red ?_ | ((with_reducible apply k_var); rfl) | ((with_reducible apply k_aug); rfl) | refine k_new fun _ _ => ?_ | refine wp_and rfl ?_ | refine if_redT rfl ?_ | refine if_redF rfl ?_)))
local macro_rules | `(tactic| walk_at "ext") => `(tactic| (repeat (first | assumption | exact Ext.refl _ | refine Ext.newI ?_ | refine Ext.trans ?_ ‹Ext _ _›)))
local macro_rules | `(tactic| walk_at "rv") => `(tactic| (repeat (first | refine red ?_ | ((with_reducible apply k_var); rfl))))
/-! ### deep data: pictures; min of two -/
def kMin2 (xs : List V) (H : Hp) (Q : VK) : Prop := ∃ i j : Int, xs = [.int i, .int j] ∧ Q (.int (if j < i then j else i)) H
theorem call_min2K {X : Cx} (hc : X.calm = true) : CallR X (.builtin "min") kMin2 := call_min2 hc
instance {i j : Int} {H : Hp} {Q : VK} : Red (kMin2 [.int i, .int j] H Q) (Q (.int (if j < i then j else i)) H) := ⟨fun h => ⟨i, j, rfl, h⟩⟩
def cellD : Cell → PyData
  | .non => .none
  | .bl b => .bool b
  | .rg r => .int (r : Nat)
def pictD (p : Pict) : PyData := .tuple [.bool p.row, .tuple (p.cells.map cellD)]
section
variable {K : PySem.W.Frag} {H : Hp}
theorem dp_cells : ∀ {es : List Cell}, DpAll K H (es.map Cell.v) (es.map cellD)
  | [] => .nil
  | e :: es => by
    refine .cons ?_ dp_cells
    cases e with
    | non => exact .non
    | bl b => exact .bl b
    | rg r => exact .int _
theorem dp_pict {v : V} {p : Pict} (h : PictR H v p) : Dp K H v (pictD p) := by
  obtain ⟨a, b, rfl, ha, hb⟩ := h
  exact .tup (SqT.of ha) (.cons (.bl _) (.cons (.tup (SqT.of hb) dp_cells) .nil))
end
theorem lay_cells : ∀ {es : List Cell}, PyData.canLayAll0 (es.map cellD) = true ∧ PyData.depthAll (es.map cellD) = 0
  | [] => by simp [PyData.canLayAll0, PyData.depthAll]
  | e :: es => by
    obtain ⟨a, b⟩ := lay_cells (es := es)
    rw [List.map_cons]
    cases e <;> simp only [cellD, PyData.canLayAll0, PyData.canLay0, PyData.depthAll, PyData.depth, a, b] <;> decide
theorem lay_pict {p : Pict} : (pictD p).canLay0 = true ∧ (pictD p).depth ≤ 2 := by
  obtain ⟨a, b⟩ := lay_cells (es := p.cells)
  unfold pictD
  simp only [PyData.canLay0, PyData.canLayAll0, PyData.depth, PyData.depthAll, a, b]
  decide
/-- what is parted: two pictures and a count -/
def foundD (p q : Pict) (n : Nat) : PyData := .tuple [pictD p, pictD q, .int (n : Nat)]
theorem shaped_found {p q : Pict} {n : Nat} : SeqAt.shaped (foundD p q n) = true := by
  obtain ⟨a1, b1⟩ := lay_pict (p := p)
  obtain ⟨a2, b2⟩ := lay_pict (p := q)
  unfold SeqAt.shaped foundD
  have e : (PyData.tuple [pictD p, pictD q, .int (n : Nat)]).depth ≤ 64 := by
    simp only [PyData.depth, PyData.depthAll]
    omega
  rw [decide_eq_true e]
  simp only [PyData.canLay0, PyData.canLayAll0, a1, a2]
  decide
theorem found_same {p q : Pict} {n : Nat} : PyData.eqv (foundD p q n) (foundD p q n) = true := PySem.SeqAt.eqv_refl _ (Bool.and_eq_true_iff.mp (shaped_found (p := p) (q := q) (n := n))).1

end PB
namespace PB
open PySem PySem.Spec PyProof.Rows L2
local macro_rules | `(tactic| walk_at "rd") => `(tactic| (repeat refine red ?_))
local macro_rules | `(tactic| walk_at "go") => `(tactic| (repeat (first | refine red ?_ | ((with_reducible apply k_var); rfl) | refine k_new fun _ _ => ?_ | refine wp_and rfl ?_ | refine if_redT rfl ?_ | refine if_redF rfl ?_)))

local macro_rules | `(tactic| walk_at "ext") => `(tactic| (repeat (first | assumption | exact Ext.refl _ | refine Ext.newI ?_ | refine Ext.trans ?_ ‹Ext _ _›)))
local macro_rules | `(tactic| walk_at "rv") => `(tactic| (repeat (first | refine red ?_ | ((with_reducible apply k_var); rfl))))
/-! ### a comprehension that tells what it has made so far -/
section
variable {σ : L2.St} {H : Hp} {Q : VK} {g : TG} {tt : TT} {te : TE} {vs : List Nat} {n : Nat} {Y : Nat → Hp → V → Hp → Prop} {a : Addr}
theorem lc_dsA {α β : Type} (ds : List α) (f : α → Option β) (R : Hp → V → β → Prop) (mono : ∀ {H H' : Hp} {v : V} {b : β}, Ext H H' → R H v b → R H' v b) (hl : n = ds.length) (hn : n ≤ sizeLine)
    (step : ∀ i x d H1 H2 D, ds[i]? = some d → Ext H H1 → New H D → (∃ acc bs, H1 D = some (.lst acc) ∧ Each R (Hid D H1) acc bs) → Y i H1 x H2 → ∀ (N1 : VK) (N2 : Hp → Prop), (∀ y H4 r, Ext H1 H4 → f d = some r → R (Hid D H4) y r → N1 y H4) → (∀ H3, Ext H1 H3 → f d = none → N2 H3) →
      g x (wipe σ vs) H2 fun σ2 H2 => wipe σ2 vs = wipe σ vs ∧ tt σ2 H2 fun b H3 => if b = true then te σ2 H3 N1 else N2 H3)
    (done : ∀ D H' ys, New H D → Ext H H' → H' D = some (.lst ys) → Each R (Hid D H') ys (ds.filterMap f) → Q (.ref D) H') : kWk a n Y (kLc g tt te vs σ Q) H := by
  subst hl
  intro J G w hG D hD
  have e0 : Ext H (upd H D (.lst [])) := (Ext.refl H).new hD
  refine lc_it w (fun i H' => Ext H H' ∧ ∃ acc, H' D = some (.lst acc) ∧ acc.length ≤ i ∧ Each R (Hid D H') acc ((List.range i).filterMap fun i => ds[i]?.bind f)) ⟨e0, [], upd_same, Nat.le_refl _, .nil⟩ (fun i H' _ p => hG H' fun o ho => p.1.at ho) ?_ ?_
  · rintro i x H1 H2 hi ⟨e1, acc, hA, hl, hE⟩ hy
    have hd : ds[i]? = some ds[i] := List.getElem?_eq_getElem hi
    refine step i x ds[i] H1 H2 D hd e1 ⟨hD⟩ ⟨acc, _, hA, hE⟩ hy _ _ (fun y H4 r e4 ho hr => ⟨acc, e4.at hA, by omega, ?_⟩) fun H3 e3 ho => ⟨e1.trans e3, acc, e3.at hA, by omega, ?_⟩
    · refine ⟨(e1.trans e4).mut hD, acc ++ [y], upd_same, by simp; omega, ?_⟩
      rw [Hid.upd, range_fm, hd, show (some ds[i]).bind f = some r from ho]
      exact Each.snoc (hE.mono fun v d => mono (Hid.mono e4)) hr
    · rw [range_fm, hd, show (some ds[i]).bind f = none from ho]
      show Each R (Hid D H3) acc ((List.range i).filterMap _ ++ [])
      rw [List.append_nil]
      exact hE.mono fun v d => mono (Hid.mono e3)
  · rintro H' ⟨e1, acc, hA, _, hE⟩
    refine done D H' acc ⟨hD⟩ e1 hA ?_
    rw [← fm_idx]
    exact hE
end

end PB
namespace PB
open PySem PySem.Spec PyProof.Rows L2
local macro_rules | `(tactic| walk_at "rd") => `(tactic| (repeat refine red ?_))
local macro_rules | `(tactic| walk_at "go") => `(tactic| (repeat (first | refine red ?_ | ((with_reducible apply k_var); rfl) | refine k_new fun _ _ => ?_ | refine wp_and rfl ?_ | refine if_redT rfl ?_ | refine if_redF rfl ?_)))
local macro_rules | `(tactic| walk_at "ga") => `(tactic| (repeat (first | refine red ?_ | ((with_reducible apply k_var); rfl) | ((with_reducible apply k_aug); rfl) | refine k_new fun _ _ => ?_ | refine wp_and rfl ?_ | refine if_redT rfl ?_ | refine if_redF rfl ?_)))
local macro_rules | `(tactic| walk_at "gq") => `(tactic| (repeat ((fail_if_success (with_reducible refine seq_stop ?_)); (first | refine red ?_ | ((with_reducible apply k_var); rfl) | refine k_new fun _ _ => ?_ | refine wp_and rfl ?_ | refine if_redT rfl ?_ | refine if_redF rfl ?_))))
local macro_rules | `(tactic| walk_at "ext") => `(tactic| (repeat (first | assumption | exact Ext.refl _ | refine Ext.newI ?_ | refine Ext.trans ?_ ‹Ext _ _›)))
local macro_rules | `(tactic| walk_at "rv") => `(tactic| (repeat (first | refine red ?_ | ((with_reducible apply k_var); rfl))))
/-! ### the law: tables -/
theorem ms_nodup {ds : List Deed} (h : (ds.map Deed.m).Pairwise (· < ·)) : ((ds.map dkv).map (·.1)).Nodup := by
  rw [List.map_map]
  have : (ds.map ((·.1) ∘ dkv)) = (ds.map Deed.m).map (Sum.inl : Int → Key) := by rw [List.map_map]; rfl
  rw [this]
  exact List.Pairwise.map _ (fun a b h z => by cases z; omega) h
section
variable {w : World} {K : PySem.W.Frag} {mg : Str → Option Value} {base : Heap}
def pByM (deeds : V) (H : Hp) (Q : VK) : Prop := ∃ a vs ds, deeds = .ref a ∧ H a = some (.lst vs) ∧ Each DeedR H vs ds ∧ DsOk ds ∧ ∀ r ys H', Ext H H' → New H r → H' r = some (.lst ys) → Each DeedR H' ys ds → Q (.ref r) H'
theorem ok_law_by_moment  (T : Txt w K mg) : Cal PG w K mg base (0 + 1) "_law_by_moment" (sp1 pByM) := by
  obtain ⟨fd, F⟩ := T.d_law_by_moment
  refine cal_mk F T.g_law_by_moment sc_law_by_moment (fun _ _ _ _ _ _ us hl => match us, hl with | [_], _ => rfl) fun cdv A outer s0 H vs Q E hr h => ?_
  obtain ⟨_, rfl, a, vs, ds, rfl, hA, hE, ⟨hl10, hok, hpw⟩, h⟩ := h
  have hlen := hE.len
  have : At H a (.lst vs) := ⟨hA⟩
  refine ⟨_, pss_cons (ps_set (i := 1) sc_law_by_moment.nd rfl (by first | exact Or.inl rfl | exact Or.inr rfl) (pe_callTy (call_dictPK (K := K) rfl rfl) (by rfl) T.f_dict (by decide +kernel) (pa_cons (pe_lc (own := [("_law_deed", 3)]) rfl sc_law_by_moment.nd (pi_seq (pv 0)) (blkOk_by (own := [("_law_deed", 3)]) (N := ["_law_deeds", "_law_known", "_law_moment", "_law_deed"]) (sc := defScope S_law_by_moment) (by decide +kernel)) (fun _ _ _ _ _ => (pg_name (i := 3) sc_law_by_moment.nd rfl (by first | exact Or.inl rfl | exact Or.inr rfl))) (fun _ _ _ _ _ => pts_nil) (fun _ _ _ _ _ => (pe_tup (pa_cons (pe_callTy call_intK (by rfl) T.f_int (by decide +kernel) (pa_cons (pe_ix (ix_anyK (K := K) rfl) (pv 3) (pe_int) (fun _ _ => rfl)) pa_nil)) (pa_cons (pv 3) pa_nil))))) pa_nil)))
      (pss_one (ps_ret (pe_lc (own := [("_law_moment", 2)]) rfl sc_law_by_moment.nd (pi_seq (pe_callB cr_sorted (by rfl) T.f_sorted (by decide +kernel) (pa_cons (pe_callTy (call_list_dK rfl) (by rfl) T.f_list (by decide +kernel) (pa_cons (pv 1) pa_nil)) pa_nil))) (blkOk_by (own := [("_law_moment", 2)]) (N := ["_law_deeds", "_law_known", "_law_moment", "_law_deed"]) (sc := defScope S_law_by_moment) (by decide +kernel)) (fun _ _ _ _ _ => (pg_name (i := 2) sc_law_by_moment.nd rfl (by first | exact Or.inl rfl | exact Or.inr rfl))) (fun _ _ _ _ _ => pts_nil) (fun _ _ _ _ _ => (pe_dget (hu_of hr) (pv 1) (pv 2) (fun _ _ => rfl)))))), ?_⟩
  refine start_to (σ := [some _, none, none, none]) rfl ?_
  try dsimp only [cxOf]
  walk_at "go"
  refine lc_ds ds some (PrR DeedR fun d => (.inl d.m : Key)) (fun e ⟨p, b, h1, h2, h3⟩ => ⟨p, b, h1, e.at h2, h3.mono e⟩) hlen (by show vs.length ≤ 2 ^ 24; omega) ?_ ?_
  · intro i y d H1 H2 D hd e1 nD hA1 hy N1 N2 k1 k2
    obtain ⟨rfl, hy⟩ := hy
    obtain ⟨d', hd', hr1⟩ := hE.get hy
    rw [hd] at hd'
    cases hd'
    have hr2 := hr1.mono e1
    obtain ⟨b, rr, rfl, hb⟩ := hr2.head
    have : At H2 b (.tup (.int d.m :: rr)) := ⟨hb⟩
    obtain ⟨acc, hA2⟩ := hA1
    walk_at "go"
    rename_i p np
    exact k1 _ _ d ext_upd rfl ⟨p, _, rfl, Hid.at upd_same (ne_of_none_at np.h hA2), (hr2.mono ext_upd).hid (Ext.at ext_upd hA2) ⟨fun _ z => (nomatch z), fun _ _ z => (nomatch z)⟩⟩
  · intro D H1 ys nD e1 hD hE1
    rw [List.filterMap_some] at hE1
    have hE2 : Each (PrR DeedR fun d => (.inl d.m : Key)) H1 ys ds := hE1.mono fun v d ⟨p, b, h1, h2, h3⟩ => ⟨p, b, h1, (Hid.sub D H1).at h2, h3.mono (Hid.sub D H1)⟩
    obtain ⟨ps, kvs, rfl, hps, hK⟩ := prs_of (K := K) hE2
    have hnd : (kvs.map (·.1)).Nodup := by rw [kr_keys hK]; exact ms_nodup hpw
    walk_at "go"
    refine ⟨D, ps, kvs, rfl, SqL.of hD, hps, fun p hp => ?_⟩
    rw [mergeK_nodup (by rw [List.nil_append]; exact hnd), List.nil_append]
    have np : New H1 p := ⟨hp⟩
    walk_at "go"
    rename_i L nL
    have e2 : Ext H1 (upd (upd H1 p (.dK kvs)) L (.lst (kvs.map fun kv => kV kv.1))) := Ext.trans ext_upd ext_upd
    have hkeys : (kvs.map fun kv => kV kv.1) = (ds.map Deed.m).map V.int := by
      have e : (kvs.map fun kv => kV kv.1) = (kvs.map (·.1)).map kV := by rw [List.map_map]; rfl
      rw [e, kr_keys hK, List.map_map, List.map_map, List.map_map]
      rfl
    have hL : upd (upd H1 p (.dK kvs)) L (.lst (kvs.map fun kv => kV kv.1)) L = some (.lst (kvs.map fun kv => kV kv.1)) := upd_same
    have hp2 : upd (upd H1 p (.dK kvs)) L (.lst (kvs.map fun kv => kV kv.1)) p = some (.dK kvs) := by rw [upd_ne (ne_of_none_at nL.h upd_same).symm, upd_same]
    generalize upd (upd H1 p (.dK kvs)) L (.lst (kvs.map fun kv => kV kv.1)) = H2 at e2 hL hp2
    refine ⟨L, ds.map Deed.m, rfl, SqL.of (by rw [← hkeys]; exact hL), by simp; omega, fun ns' p2 hpm hpw2 hp3 => ?_⟩
    have hle : (ds.map Deed.m).Pairwise (· ≤ ·) := hpw.imp fun h => Int.le_of_lt h
    have e5 := perm_sorted hpm hpw2 hle
    subst e5
    have : New H2 p2 := ⟨hp3⟩
    walk_at "go"
    refine lc_ds ds some DeedR (fun e h => h.mono e) (by simp) (by simp; show ds.length ≤ 2 ^ 24; omega) ?_ ?_
    · intro i y d H4 H5 D2 hd e4 nD2 hA2 hy N1 N2 k1 k2
      obtain ⟨rfl, hx⟩ := hy
      rw [List.getElem?_map, List.getElem?_map, hd] at hx
      cases hx
      have e6 : Ext H2 H5 := Ext.trans ext_upd e4
      have hdk : (ds.map dkv)[i]? = some (dkv d) := by rw [List.getElem?_map, hd]; rfl
      obtain ⟨v, hv, hr⟩ := val_paired hK _ (find_nodup (ms_nodup hpw) hdk)
      have : At H5 p (.dK kvs) := ⟨e6.at hp2⟩
      have : DVal kvs (.int d.m) (some v) := ⟨_, rfl, hv⟩
      walk_at "go"
      obtain ⟨acc, hA2⟩ := hA2
      exact k1 _ _ d (Ext.refl _) rfl ((hr.mono (e2.trans e6)).hid hA2 ⟨fun _ z => (nomatch z), fun _ _ z => (nomatch z)⟩)
    · intro D2 H4 zs nD2 e4 hD2 hE4
      rw [List.filterMap_some] at hE4
      exact h D2 zs H4 ((e1.trans e2).trans (Ext.trans ext_upd e4)) ⟨(e1.trans e2).back (Ext.back (ext_upd (H := H2) (p := p2)) nD2.h)⟩ hD2 (hE4.mono fun v d q => q.mono (Hid.sub D2 H4))
def sp0 (p : Hp → VK → Prop) : Sq := fun vs H Q => vs = [] ∧ p H Q
instance {p} : LenOk (sp0 p) 0 := ⟨fun vs H Q ⟨e, _⟩ => by rw [e]; rfl⟩
/-- a table -/
abbrev Col := Int × Str × Int
def TabR (H : Hp) (tb cl rw : Addr) : Prop := H tb = some (.dK [(.inr "columns", .ref cl), (.inr "rows", .ref rw)])
def ColL (H : Hp) (v : V) (c : Col) : Prop := ∃ a, v = .ref a ∧ H a = some (.lst [.int c.1, .str c.2.1, .int c.2.2])
theorem ColL.mono {H H' : Hp} {v : V} {c : Col} (e : Ext H H') (h : ColL H v c) : ColL H' v c := by
  obtain ⟨a, x, y⟩ := h
  exact ⟨a, x, e.at y⟩
def rowK (cols : List Col) : List (Key × V) := cols.map fun c => (.inl c.1, .int c.2.2)
structure TabS (H : Hp) (tb cl rw : Addr) (cols : List Col) (row : Bool) : Prop where
  tab : TabR H tb cl rw
  c : ∃ cvs, H cl = some (.lst cvs) ∧ Each ColL H cvs cols
  r : if row = true then ∃ q, H rw = some (.dK [(.inl 0, .ref q)]) ∧ H q = some (.dK (rowK cols)) else H rw = some (.dK [])
theorem TabS.mono {H H' : Hp} {tb cl rw : Addr} {cols : List Col} {row : Bool} (e : Ext H H') (h : TabS H tb cl rw cols row) : TabS H' tb cl rw cols row := by
  obtain ⟨h1, ⟨cvs, h2, h3⟩, h4⟩ := h
  refine ⟨e.at h1, ⟨cvs, e.at h2, h3.mono fun v c => ColL.mono e⟩, ?_⟩
  cases row with
  | false => exact e.at h4
  | true =>
    obtain ⟨q, a, b⟩ := h4
    exact ⟨q, e.at a, e.at b⟩
instance {v y : V} : DVal [((.inr "columns" : Key), v), (.inr "rows", y)] (.str "columns") (some v) := ⟨.inr "columns", rfl, rfl⟩
instance {v y : V} : DVal [((.inr "columns" : Key), y), (.inr "rows", v)] (.str "rows") (some v) := ⟨.inr "rows", rfl, by
  have e : ¬ ((Sum.inr ("columns" : Str) : Key) = Sum.inr ("rows" : Str)) := by decide +kernel
  simp [valV, List.find?, e]⟩
def pFresh (H : Hp) (Q : VK) : Prop := ∀ tb cl rw H', Ext H H' → New H tb → New H cl → New H rw → cl ≠ tb → rw ≠ tb → cl ≠ rw → TabS H' tb cl rw [] false → Q (.ref tb) H'
theorem ok_law_fresh  (T : Txt w K mg) : Cal PG w K mg base (0 + 1) "_law_fresh" (sp0 pFresh) := by
  obtain ⟨fd, F⟩ := T.d_law_fresh
  refine cal_mk F T.g_law_fresh sc_law_fresh (fun _ _ _ _ _ _ us hl => match us, hl with | [], _ => rfl) fun cdv A outer s0 H vs Q E hr h => ?_
  obtain ⟨rfl, h⟩ := h
  refine ⟨_, pss_one (ps_ret (pe_disp (pps_cons (pe_str) (pe_lst pa_nil) (pps_cons (pe_str) (pe_dnewK) pps_nil)) (by rfl) (by rfl) (fun z => by cases z) (by decide))), ?_⟩
  refine start_to (σ := []) rfl ?_
  try dsimp only [cxOf]
  walk_at "go"
  intro tb ntb
  walk_at "go"
  rename_i cl ncl rw nrw
  have h1 : cl ≠ tb := ne_of_none_at ncl.h upd_same
  have h2 : rw ≠ tb := ne_of_none_at nrw.h (by rw [upd_ne h1.symm]; exact upd_same)
  have h3 : cl ≠ rw := (ne_of_none_at nrw.h upd_same).symm
  refine ⟨by rw [upd_ne h2.symm, upd_ne h1.symm, upd_same], [(.inr "columns", .ref cl), (.inr "rows", .ref rw)], rfl, by show 2 ≤ 15; decide, ?_⟩
  rw [mergeK_nodup (by show [(.inr "columns" : Key), .inr "rows"].Nodup; decide +kernel), List.nil_append]
  have n2 : New H cl := ⟨Ext.back (ext_upd (H := H) (p := tb)) ncl.h⟩
  have n3 : New H rw := ⟨Ext.back (ext_upd (H := H) (p := tb)) (Ext.back (ext_upd (p := cl)) nrw.h)⟩
  refine h tb cl rw _ (Ext.mut (Ext.trans (ext_upd (H := H) (p := tb)) (Ext.trans ext_upd ext_upd)) ntb.h) ntb n2 n3 h1 h2 h3 ⟨upd_same, ⟨[], ?_, .nil⟩, ?_⟩
  · rw [upd_ne h1, upd_ne h3, upd_same]
  · rw [if_neg (show ¬ false = true by decide), upd_ne h2, upd_same]
theorem kr_vals {H : Hp} : ∀ {kvs : List (Key × V)} {cols : List Col}, Paired (KR (VR fun c : Col => V.int c.2.2) H) kvs (cols.map fun c => ((.inl c.1 : Key), c)) → kvs = rowK cols
  | kvs, [], h => by cases h; rfl
  | kvs, c :: cs, h => by
    rw [List.map_cons] at h
    cases h with
    | @cons p _ ps _ hh t =>
      obtain ⟨k, v⟩ := p
      obtain ⟨h1, h2⟩ := hh
      have e1 : k = .inl c.1 := h1
      have e2 : v = V.int c.2.2 := h2
      rw [kr_vals t, e1, e2]
      rfl
/-- what a deed makes of the columns, the rows -/
def afterC (cols : List Col) : Deed → List Col
  | .add m x v => cols ++ [(m, x, v)]
  | .put _ => cols
def afterR : Deed → Bool
  | .add _ _ _ => false
  | .put _ => true
def fitsD (cols : List Col) : Deed → Prop
  | .add _ x _ => ¬ x ∈ cols.map (·.2.1)
  | .put _ => (cols.map (·.1)).Nodup
def pDone (table deed : V) (H : Hp) (Q : VK) : Prop := ∃ tb cl rw cols d HB, table = .ref tb ∧ TabS H tb cl rw cols false ∧ DeedR H deed d ∧ Ext HB H ∧ HB tb = none ∧ HB cl = none ∧ HB rw = none ∧ cl ≠ tb ∧ rw ≠ tb ∧ cl ≠ rw ∧ cols.length ≤ 10 ∧ fitsD cols d ∧
  ∀ H', Ext HB H' → TabS H' tb cl rw (afterC cols d) (afterR d) → Q .non H'
theorem ok_law_done  (T : Txt w K mg) : Cal PG w K mg base (0 + 1) "_law_done" (sp2 pDone) := by
  obtain ⟨fd, F⟩ := T.d_law_done
  refine cal_mk F T.g_law_done sc_law_done (fun _ _ _ _ _ _ us hl => match us, hl with | [_, _], _ => rfl) fun cdv A outer s0 H vs Q E hr h => ?_
  obtain ⟨_, deed, rfl, tb, cl, rw, cols, d, HB, rfl, hT, hd, eB, n1, n2, n3, h1, h2, h3, hcl, fit, h⟩ := h
  obtain ⟨htb, ⟨cvs, hcv, hE⟩, hrw⟩ := id hT
  rw [if_neg (show ¬ false = true by decide)] at hrw
  have : At H tb (.dK [(.inr "columns", .ref cl), (.inr "rows", .ref rw)]) := ⟨htb⟩
  have : At H cl (.lst cvs) := ⟨hcv⟩
  have : At H rw (.dK []) := ⟨hrw⟩
  have hlen := hE.len
  refine ⟨_, pss_cons (ps_set (i := 2) sc_law_done.nd rfl (by first | exact Or.inl rfl | exact Or.inr rfl) (pe_ix (ix_anyK (K := K) rfl) (pv 1) (pe_int) (fun _ _ => rfl)))
      (pss_cons (ps_setLc (i := 3) (own := [("_law_column", 7)]) rfl sc_law_done.nd rfl rfl (sw_true rfl rfl rfl (by decide +kernel)) (pi_seq (pe_dget (hu_of hr) (pv 0) (pe_str) (fun _ _ => rfl))) (blkOk_by (own := [("_law_column", 7)]) (N := ["_law_table_here", "_law_deed", "_law_word", "_law_names", "_law_pairs", "_law_key", "_law_gone", "_law_column", "_law_one"]) (sc := defScope S_law_done) (by decide +kernel)) (fun _ _ _ _ _ => (pg_name (i := 7) sc_law_done.nd rfl (by first | exact Or.inl rfl | exact Or.inr rfl))) (fun _ _ _ _ _ => pts_nil) (fun _ _ _ _ _ => (pe_ix (ix_anyK (K := K) rfl) (pv 7) (pe_int) (fun _ _ => rfl))))
      (pss_one (ps_if (pt_cmpR op_eq (pv 2) (pe_str) (nomark _)) (pss_cons (ps_set (i := 4) sc_law_done.nd rfl (by first | exact Or.inl rfl | exact Or.inr rfl) (pe_callTy (call_dictPK (K := K) rfl rfl) (by rfl) T.f_dict (by decide +kernel) (pa_cons (pe_callTy (call_listK (K := K) rfl) (by rfl) T.f_list (by decide +kernel) (pa_cons (pe_ix (ix_anyK (K := K) rfl) (pv 1) (pe_int) (fun _ _ => rfl)) pa_nil)) pa_nil)))
      (pss_one (ps_dput (hu_of hr) (pe_dget (hu_of hr) (pv 0) (pe_str) (fun _ _ => rfl)) (pe_ix (ix_anyK (K := K) rfl) (pv 1) (pe_int) (fun _ _ => rfl)) (pe_callTy (call_dictPK (K := K) rfl rfl) (by rfl) T.f_dict (by decide +kernel) (pa_cons (pe_lc (own := [("_law_one", 8)]) rfl sc_law_done.nd (pi_seq (pe_dget (hu_of hr) (pv 0) (pe_str) (fun _ _ => rfl))) (blkOk_by (own := [("_law_one", 8)]) (N := ["_law_table_here", "_law_deed", "_law_word", "_law_names", "_law_pairs", "_law_key", "_law_gone", "_law_column", "_law_one"]) (sc := defScope S_law_done) (by decide +kernel)) (fun _ _ _ _ _ => (pg_name (i := 8) sc_law_done.nd rfl (by first | exact Or.inl rfl | exact Or.inr rfl))) (fun _ _ _ _ _ => pts_nil) (fun _ _ _ _ _ => (pe_tup (pa_cons (pe_ix (ix_anyK (K := K) rfl) (pv 8) (pe_int) (fun _ _ => rfl)) (pa_cons (pe_dget2 (hu_of hr) (pv 4) (pe_ix (ix_anyK (K := K) rfl) (pv 8) (pe_int) (fun _ _ => rfl)) (pe_ix (ix_anyK (K := K) rfl) (pv 8) (pe_int) (fun _ _ => rfl)) ⟨rfl, rfl, rfl, rfl⟩) pa_nil))))) pa_nil)) rfl))) (pss_one (ps_if (pt_cmpR op_eq (pv 2) (pe_str) (nomark _)) (pss_one (ps_never)) (pss_one (ps_if (PW.pt (pw_and (pt_cmpR op_eq (pv 2) (pe_str) (nomark _)) (pw_and1 (pt_cmpR (op_notInK (K := K) rfl) (pe_ix (ix_anyK (K := K) rfl) (pv 1) (pe_int) (fun _ _ => rfl)) (pv 3) (by rfl))))) (pss_cons (ps_expr (pe_bm PySem.F.plainAttrs_list PySem.F.slot_list_append PySem.F.type_list_append mt_append (pe_dget (hu_of hr) (pv 0) (pe_str) (fun _ _ => rfl)) (pa_cons (pe_lst (pa_cons (pe_ix (ix_anyK (K := K) rfl) (pv 1) (pe_int) (fun _ _ => rfl)) (pa_cons (pe_ix (ix_anyK (K := K) rfl) (pv 1) (pe_int) (fun _ _ => rfl)) (pa_cons (pe_ix (ix_anyK (K := K) rfl) (pv 1) (pe_int) (fun _ _ => rfl)) pa_nil)))) pa_nil)))
      (pss_one ((ps_lock (ps_for PassesOwn.never rfl (pi_keys (pe_dget (hu_of hr) (pv 0) (pe_str) (fun _ _ => rfl))) (pg_name (i := 5) sc_law_done.nd rfl (by first | exact Or.inl rfl | exact Or.inr rfl)) (pss_one ps_never)))))) (pss_one (ps_never))))))))), ?_⟩
  refine start_to (σ := [some _, some _, none, none, none, none, none, none, none]) rfl ?_
  try dsimp only [cxOf]
  cases d with
  | add m x v =>
    obtain ⟨a, rfl, ha⟩ := id hd
    have : At H a (.tup [.int m, .str "add", .str x, .int v]) := ⟨ha⟩
    walk_at "go"
    refine lc_ds cols (fun c => some c.2.1) (VR V.str) (fun _ h => h) hlen (by show cvs.length ≤ 2 ^ 24; omega) ?_ ?_
    · intro i y c H1 H2 D hc e1 nD hA1 hy N1 N2 k1 k2
      obtain ⟨rfl, hy⟩ := hy
      obtain ⟨c', hc', b, rfl, hb⟩ := hE.get hy
      rw [hc] at hc'
      cases hc'
      have : At H2 b (.lst [.int c.1, .str c.2.1, .int c.2.2]) := ⟨e1.at hb⟩
      walk_at "go"
      exact k1 _ _ c.2.1 (Ext.refl _) rfl rfl
    · intro D H1 ys nD e1 hD hE1
      have hys : ys = (cols.map (·.2.1)).map V.str := by rw [each_val hE1, List.filterMap_eq_map']
      have : At H1 D (.lst ys) := ⟨hD⟩
      walk_at "go"
      refine ⟨D, _, rfl, .inl (SqL.of hD), rfl, by rw [hys]; exact flat_strs, ?_⟩
      rw [hys, inV_strs fit]
      walk_at "go"
      rename_i L nL
      have eL : Ext H (upd H1 L (.lst [.int m, .str x, .int v])) := e1.trans ext_upd
      have hcL := eL.at hcv
      have hrL := eL.at hrw
      have htL := eL.at htb
      have hLL : upd H1 L (.lst [.int m, .str x, .int v]) L = some (.lst [.int m, .str x, .int v]) := upd_same
      have hEL := hE.mono fun v c => ColL.mono eL
      have hLcl : L ≠ cl := ne_of_none_at nL.h (e1.at hcv)
      generalize upd H1 L (.lst [.int m, .str x, .int v]) = H2 at eL hcL hrL htL hLL hEL
      refine ⟨by show cvs.length < 2 ^ 24; omega, ?_⟩
      have key : ∀ v c, ColL H2 v c → ColL (upd H2 cl (.lst (cvs ++ [.ref L]))) v c := fun v c hc => by
        obtain ⟨b, rfl, hb⟩ := hc
        refine ⟨b, rfl, ?_⟩
        rw [upd_ne (ne_of_at hb hcL fun z => ?_)]
        · exact hb
        · injection z with z
          cases hEL with
          | nil => cases z
          | cons hh _ =>
            obtain ⟨_, rfl, _⟩ := hh
            cases z
      have hT3 : TabS (upd H2 cl (.lst (cvs ++ [.ref L]))) tb cl rw (cols ++ [(m, x, v)]) false := by
        refine ⟨?_, ⟨_, upd_same, ?_⟩, ?_⟩
        · show upd H2 cl _ tb = _
          rw [upd_ne h1.symm]; exact htL
        · exact Each.snoc (hEL.mono key) ⟨L, rfl, by rw [upd_ne hLcl]; exact hLL⟩
        · rw [if_neg (show ¬ false = true by decide), upd_ne h3.symm]; exact hrL
      have e3 : Ext HB (upd H2 cl (.lst (cvs ++ [.ref L]))) := (eB.trans eL).mut n2
      generalize upd H2 cl (.lst (cvs ++ [.ref L])) = H3 at hT3 e3
      have hr3 : H3 rw = some (.dK []) := hT3.r
      have ht3 := hT3.tab
      have htr : tb ≠ rw := h2.symm
      refine lock_inS hr3 fun od => ?_
      have : At (upd H3 rw (.frz od (.dK []))) tb (.dK [(.inr "columns", .ref cl), (.inr "rows", .ref rw)]) := ⟨by rw [upd_ne htr]; exact ht3⟩
      walk_at "go"
      refine for_go (fun j σ' H' => H' = upd H3 rw (.frz od (.dK []))) rfl (fun j σ' H' _ q o ho => by rw [q]; exact ho) (fun j _ _ _ _ hj => absurd hj (Nat.not_lt_zero j)) ?_
      rintro σ' H4 rfl
      refine ⟨upd_same, ?_⟩
      rw [updd]
      have e : upd H3 rw (.dK []) = H3 := by
        funext b
        by_cases z : b = rw
        · subst z; rw [upd_same]; exact hr3.symm
        · rw [upd_ne z]
      rw [e]
      exact h H3 e3 hT3
  | put m =>
    obtain ⟨a, em, rfl, ha, hem⟩ := id hd
    have : At H a (.tup [.int m, .str "put", .int 0, .ref em]) := ⟨ha⟩
    walk_at "go"
    refine lc_ds cols (fun c => some c.2.1) (VR V.str) (fun _ h => h) hlen (by show cvs.length ≤ 2 ^ 24; omega) ?_ ?_
    · intro i y c H1 H2 D hc e1 nD hA1 hy N1 N2 k1 k2
      obtain ⟨rfl, hy⟩ := hy
      obtain ⟨c', hc', b, rfl, hb⟩ := hE.get hy
      rw [hc] at hc'
      cases hc'
      have : At H2 b (.lst [.int c.1, .str c.2.1, .int c.2.2]) := ⟨e1.at hb⟩
      walk_at "go"
      exact k1 _ _ c.2.1 (Ext.refl _) rfl rfl
    · intro D H1 ys nD e1 hD hE1
      walk_at "go"
      rename_i L nL
      refine ⟨L, [], [], rfl, SqL.of upd_same, .nil, fun p hp => ?_⟩
      rw [show mergeK [] [] = ([] : List (Key × V)) from rfl]
      have np : New (upd H1 L (.lst [])) p := ⟨hp⟩
      have e2 : Ext H (upd (upd H1 L (.lst [])) p (.dK [])) := e1.trans (Ext.trans ext_upd ext_upd)
      have hp2 : upd (upd H1 L (.lst [])) p (.dK []) p = some (.dK []) := upd_same
      generalize upd (upd H1 L (.lst [])) p (.dK []) = H2 at e2 hp2
      have : At H2 p (.dK []) := ⟨hp2⟩
      walk_at "go"
      refine lc_ds cols some (PrR (VR fun c : Col => V.int c.2.2) fun c => (.inl c.1 : Key)) (fun e ⟨p, b, h1, h2, h3⟩ => ⟨p, b, h1, e.at h2, h3⟩) hlen (by show cvs.length ≤ 2 ^ 24; omega) ?_ ?_
      · intro i y c H3 H4 D2 hc e3 nD2 hA3 hy N1 N2 k1 k2
        obtain ⟨rfl, hy⟩ := hy
        obtain ⟨c', hc', b, rfl, hb⟩ := hE.get hy
        rw [hc] at hc'
        cases hc'
        have : At H4 b (.lst [.int c.1, .str c.2.1, .int c.2.2]) := ⟨(e2.trans e3).at hb⟩
        obtain ⟨acc, hA4⟩ := hA3
        walk_at "go"
        rename_i q nq
        exact k1 _ _ c ext_upd rfl ⟨q, _, rfl, Hid.at upd_same (ne_of_none_at nq.h hA4), rfl⟩
      · intro D2 H3 zs nD2 e3 hD2 hE3
        rw [List.filterMap_some] at hE3
        have hE4 : Each (PrR (VR fun c : Col => V.int c.2.2) fun c => (.inl c.1 : Key)) H3 zs cols := hE3.mono fun v c ⟨p, b, h1, h2, h3⟩ => ⟨p, b, h1, (Hid.sub D2 H3).at h2, h3⟩
        obtain ⟨ps, kvs, rfl, hps, hK⟩ := prs_of (K := K) hE4
        have hkv : kvs = rowK cols := kr_vals hK
        have hnd : (kvs.map (·.1)).Nodup := by
          rw [kr_keys hK, List.map_map]
          have : cols.map ((·.1) ∘ fun d : Col => ((.inl d.1 : Key), d)) = (cols.map (·.1)).map (Sum.inl : Int → Key) := by rw [List.map_map]; rfl
          rw [this]
          exact List.Pairwise.map _ (fun a b h z => h (by injection z)) fit
        walk_at "go"
        refine ⟨D2, ps, kvs, rfl, SqL.of hD2, hps, fun q hq => ?_⟩
        rw [mergeK_nodup (by rw [List.nil_append]; exact hnd), List.nil_append]
        have nq : New H3 q := ⟨hq⟩
        have e4 : Ext H (upd H3 q (.dK kvs)) := (e2.trans e3).trans ext_upd
        have hq4 : upd H3 q (.dK kvs) q = some (.dK kvs) := upd_same
        generalize upd H3 q (.dK kvs) = H4 at e4 hq4
        walk_at "go"
        have hr4 := e4.at hrw
        refine ⟨rw, _, rfl, DPut.k (k := .inl 0) hr4 (by show 0 < 2 ^ 24; decide), ?_⟩
        rw [show putK [] (.inl 0 : Key) (V.ref q) = [(.inl 0, .ref q)] from rfl]
        have hqr : q ≠ rw := ne_of_none_at hq ((e2.trans e3).at hrw)
        refine h _ ((eB.trans e4).mut n3) ⟨?_, ⟨cvs, ?_, ?_⟩, ?_⟩
        · show upd H4 rw _ tb = _
          rw [upd_ne h2.symm]; exact e4.at htb
        · rw [upd_ne h3]; exact e4.at hcv
        · exact (hE.mono fun v c => ColL.mono e4).mono fun v c hc => by
            obtain ⟨b, rfl, hb⟩ := hc
            exact ⟨b, rfl, by rw [upd_ne (ne_of_at hb hr4 fun z => nomatch z)]; exact hb⟩
        · rw [if_pos (show afterR (.put m) = true from rfl)]
          exact ⟨q, upd_same, by rw [upd_ne hqr, hq4, hkv]; rfl⟩
/-- the columns of the adds -/
def colsI (i : Nat) : Adds → List Col
  | [] => []
  | (x, v) :: r => (((i : Nat) : Int) + 1, x, v) :: colsI (i + 1) r
theorem colsI_snoc : ∀ (xs : Adds) (i : Nat) (q : Str × Int), colsI i (xs ++ [q]) = colsI i xs ++ [(((i + xs.length : Nat) : Int) + 1, q.1, q.2)]
  | [], i, q => rfl
  | x :: xs, i, q => by
    show (_, _, _) :: colsI (i + 1) (xs ++ [q]) = (_, _, _) :: (colsI (i + 1) xs ++ _)
    rw [colsI_snoc xs (i + 1) q, show i + 1 + xs.length = i + (x :: xs).length by rw [List.length_cons]; omega]
theorem colsI_names : ∀ (xs : Adds) (i : Nat), (colsI i xs).map (·.2.1) = xs.map (·.1)
  | [], _ => rfl
  | x :: xs, i => by
    show x.1 :: _ = x.1 :: _
    rw [colsI_names xs (i + 1)]
theorem colsI_len : ∀ (xs : Adds) (i : Nat), (colsI i xs).length = xs.length
  | [], _ => rfl
  | x :: xs, i => by
    show (colsI (i + 1) xs).length + 1 = _
    rw [colsI_len xs (i + 1)]
    rfl
theorem colsI_ids : ∀ (xs : Adds) (i : Nat), ((colsI i xs).map (·.1)).Nodup ∧ ∀ m, m ∈ (colsI i xs).map (·.1) → (i : Int) < m
  | [], _ => ⟨List.nodup_nil, fun m h => by cases h⟩
  | x :: xs, i => by
    obtain ⟨a, b⟩ := colsI_ids xs (i + 1)
    refine ⟨?_, fun m h => ?_⟩
    · show ((((i : Nat) : Int) + 1) :: (colsI (i + 1) xs).map (·.1)).Nodup
      rw [List.nodup_cons]
      exact ⟨fun h => by have := b _ h; omega, a⟩
    · rcases List.mem_cons.mp (show m ∈ (((i : Nat) : Int) + 1) :: (colsI (i + 1) xs).map (·.1) from h) with z | z
      · omega
      · have := b m z; omega
theorem ext_hidn {H H' : Hp} {d : Addr} (e : Ext H H') (n : H d = none) : Ext H (Hid d H') := ⟨fun b o h => Hid.at (e.at h) (ne_of_none h n)⟩
def pTab (deeds t : V) (H : Hp) (Q : VK) : Prop := ∃ a vs adds row, deeds = .ref a ∧ H a = some (.lst vs) ∧ Each DeedR H vs (dsOf adds row) ∧ AddsOk adds ∧ t = .int 999 ∧ ∀ tb cl rw H', Ext H H' → New H cl → TabS H' tb cl rw (colsI 0 adds) row → Q (.ref tb) H'
theorem ok_law_table  (T : Txt w K mg) : Cal PG w K mg base (1 + 1) "_law_table" (sp2 pTab) := by
  obtain ⟨fd, F⟩ := T.d_law_table
  refine cal_mk F T.g_law_table sc_law_table (fun _ _ _ _ _ _ us hl => match us, hl with | [_, _], _ => rfl) fun cdv A outer s0 H vs Q E hr h => ?_
  obtain ⟨_, _, rfl, a, vs, adds, row, rfl, hA, hE, ok, rfl, h⟩ := h
  have c_law_fresh := ok_law_fresh (base := base) T
  have c_law_by_moment := ok_law_by_moment (base := base) T
  have c_law_done := ok_law_done (base := base) T
  refine ⟨_, pss_cons (ps_set (i := 2) sc_law_table.nd rfl (by first | exact Or.inl rfl | exact Or.inr rfl) (pe_cl0 c_law_fresh hr (by decide) rfl))
      (pss_cons (ps_for PassesOwn.never rfl (pi_seq (pe_cl c_law_by_moment hr (by first | decide | omega) rfl (pa_cons (pv 0) pa_nil))) (pg_name (i := 3) sc_law_table.nd rfl (by first | exact Or.inl rfl | exact Or.inr rfl)) (pss_one (ps_if (pt_cmpR op_le (pe_ix (ix_anyK (K := K) rfl) (pv 3) (pe_int) (fun _ _ => rfl)) (pv 1) (nomark _)) (pss_one (ps_expr (pe_cl c_law_done hr (by first | decide | omega) rfl (pa_cons (pv 2) (pa_cons (pv 3) pa_nil))))) pss_nil)))
      (pss_one (ps_ret (pv 2)))), ?_⟩
  refine start_to (σ := [some _, some _, none, none]) rfl ?_
  try dsimp only [cxOf]
  walk_at "go"
  refine ⟨rfl, ?_⟩
  intro tb cl rw H1 e1 n1 n2 n3 h1 h2 h3 hT
  walk_at "go"
  refine ⟨a, vs, dsOf adds row, rfl, e1.at hA, hE.mono fun v d => DeedR.mono e1, dsOf_ok ok, fun r ys H2 e2 nr hr2 hE2 => ?_⟩
  have : At H2 r (.lst ys) := ⟨hr2⟩
  walk_at "go"
  have hT2 := hT.mono e2
  obtain ⟨ht2, ⟨cvs2, hc2, _⟩, hr22⟩ := id hT2
  rw [if_neg (show ¬ false = true by decide)] at hr22
  obtain ⟨ht1, ⟨cvs1, hc1, _⟩, hr11⟩ := id hT
  rw [if_neg (show ¬ false = true by decide)] at hr11
  have r1 : r ≠ tb := ne_of_none_at nr.h ht1
  have r2 : r ≠ cl := ne_of_none_at nr.h hc1
  have r3 : r ≠ rw := ne_of_none_at nr.h hr11
  have g1 : Hid rw H2 cl = some (.lst cvs2) := Hid.at hc2 h3
  have g2 : Hid cl (Hid rw H2) tb = some _ := Hid.at (Hid.at ht2 h2.symm) h1.symm
  have hEB : Each DeedR (Hid tb (Hid cl (Hid rw H2))) ys (dsOf adds row) := hE2.mono fun v d q => ((q.hid hr22 ⟨fun _ z => (nomatch z), fun _ _ z => (nomatch z)⟩).hid g1 ⟨fun _ z => (nomatch z), fun _ _ z => (nomatch z)⟩).hid g2 ⟨fun _ z => (nomatch z), fun _ _ z => (nomatch z)⟩
  have hrB : Hid tb (Hid cl (Hid rw H2)) r = some (.lst ys) := Hid.at (Hid.at (Hid.at hr2 r3) r2) r1
  have b1 : Hid tb (Hid cl (Hid rw H2)) tb = none := by unfold Hid; rw [if_pos rfl]
  have b2 : Hid tb (Hid cl (Hid rw H2)) cl = none := by unfold Hid; rw [if_neg h1, if_pos rfl]
  have b3 : Hid tb (Hid cl (Hid rw H2)) rw = none := by unfold Hid; rw [if_neg h2, if_neg h3.symm, if_pos rfl]
  have eHB : Ext H (Hid tb (Hid cl (Hid rw H2))) := ext_hidn (ext_hidn (ext_hidn (e1.trans e2) n3.h) n2.h) n1.h
  have eB2 : Ext (Hid tb (Hid cl (Hid rw H2))) H2 := (Hid.sub _ _).trans ((Hid.sub _ _).trans (Hid.sub _ _))
  generalize Hid tb (Hid cl (Hid rw H2)) = HB at hEB hrB b1 b2 b3 eHB eB2
  have hyl := hEB.len
  have hal := ok.1
  refine for_go (fun j σ' H' => (∃ x, σ' = [some (.ref a), some (.int 999), some (.ref tb), x]) ∧ Ext HB H' ∧ TabS H' tb cl rw (colsI 0 (adds.take j)) (decide (adds.length < j))) ⟨⟨_, rfl⟩, eB2, by rw [decide_eq_false (Nat.not_lt_zero _)]; exact hT2⟩ (fun j σ' H' _ q => sub_at (eB2.at hrB) (q.2.1.at hrB)) ?_ ?_
  · rintro j x σ' H3 H4 hj ⟨⟨x0, rfl⟩, e3, hT3⟩ ⟨rfl, hx⟩
    obtain ⟨d, hd, hdr⟩ := hEB.get hx
    have hdr3 := hdr.mono e3
    rcases dsOf_get hd with ⟨q, hq, rfl⟩ | ⟨rfl, rfl, rfl⟩
    · have hjl := (List.getElem?_eq_some_iff.mp hq).1
      rw [decide_eq_false (show ¬ adds.length < j by omega)] at hT3
      obtain ⟨b, rfl, hb⟩ := id hdr3
      have : At H4 b (.tup [.int ((j : Nat) + 1), .str "add", .str q.1, .int q.2]) := ⟨hb⟩
      walk_at "go"
      rw [decide_eq_true (show ((j : Nat) : Int) + 1 ≤ 999 by omega)]
      walk_at "go"
      have hlt : (adds.take j).length = j := by rw [List.length_take]; omega
      refine ⟨tb, cl, rw, colsI 0 (adds.take j), _, HB, rfl, hT3, hdr3, e3, b1, b2, b3, h1, h2, h3, by rw [colsI_len, hlt]; omega, ?_, fun H5 e5 hT5 => ?_⟩
      · show ¬ q.1 ∈ (colsI 0 (adds.take j)).map (·.2.1)
        rw [colsI_names]
        intro hm
        obtain ⟨i, hi, e⟩ := List.getElem_of_mem hm
        have hij : i < j := by rw [List.length_map] at hi; omega
        have hnd := ok.2.2
        have e' : (adds.map (·.1))[i]'(by rw [List.length_map]; omega) = (adds.map (·.1))[j]'(by rw [List.length_map]; omega) := by
          rw [List.getElem_map, List.getElem_map]
          rw [List.getElem_map, List.getElem_take] at e
          rw [e]
          have := (List.getElem?_eq_some_iff.mp hq).2
          rw [this]
        exact List.pairwise_iff_getElem.mp hnd i j (by rw [List.length_map]; omega) (by rw [List.length_map]; omega) hij e'
      · walk_at "go"
        refine ⟨⟨_, rfl⟩, e5, ?_⟩
        rw [decide_eq_false (show ¬ adds.length < j + 1 by omega), List.take_add_one, hq]
        show TabS H5 tb cl rw (colsI 0 (adds.take j ++ [q])) false
        rw [colsI_snoc, hlt, Nat.zero_add]
        exact hT5
    · rw [decide_eq_false (Nat.lt_irrefl _), List.take_length] at hT3
      obtain ⟨b, em, rfl, hb, hem⟩ := id hdr3
      have : At H4 b (.tup [.int ((adds.length : Nat) + 1), .str "put", .int 0, .ref em]) := ⟨hb⟩
      walk_at "go"
      rw [decide_eq_true (show ((adds.length : Nat) : Int) + 1 ≤ 999 by omega)]
      walk_at "go"
      refine ⟨tb, cl, rw, colsI 0 adds, _, HB, rfl, hT3, hdr3, e3, b1, b2, b3, h1, h2, h3, by rw [colsI_len]; omega, (colsI_ids adds 0).1, fun H5 e5 hT5 => ?_⟩
      walk_at "go"
      refine ⟨⟨_, rfl⟩, e5, ?_⟩
      rw [decide_eq_true (Nat.lt_succ_self _), List.take_of_length_le (Nat.le_succ _)]
      exact hT5
  · rintro σ' H3 ⟨⟨x0, rfl⟩, e3, hT3⟩
    walk_at "go"
    have hdl : (dsOf adds row).length = adds.length + (if row = true then 1 else 0) := by rw [dsOf_len]
    rw [hyl, hdl] at hT3
    refine h tb cl rw H3 (eHB.trans e3) n2 ?_
    cases row with
    | true =>
      rw [if_pos rfl, decide_eq_true (Nat.lt_succ_self _), List.take_of_length_le (Nat.le_succ _)] at hT3
      exact hT3
    | false =>
      rw [if_neg (show ¬ false = true by decide), Nat.add_zero, decide_eq_false (Nat.lt_irrefl _), List.take_length] at hT3
      exact hT3
end

end PB
namespace PB
open PySem PySem.Spec PyProof.Rows L2
local macro_rules | `(tactic| walk_at "rd") => `(tactic| (repeat refine red ?_))
local macro_rules | `(tactic| walk_at "go") => `(tactic| (repeat (first | refine red ?_ | ((with_reducible apply k_var); rfl) | refine k_new fun _ _ => ?_ | refine wp_and rfl ?_ | refine if_redT rfl ?_ | refine if_redF rfl ?_)))
local macro_rules | `(tactic| walk_at "ga") => `(tactic| (repeat (first | refine red ?_ | ((with_reducible apply k_var); rfl) | ((with_reducible apply k_aug); rfl) | refine k_new fun _ _ => ?_ | refine wp_and rfl ?_ | refine if_redT rfl ?_ | refine if_redF rfl ?_)))
local macro_rules | `(tactic| walk_at "gq") => `(tactic| (repeat ((fail_if_success (with_reducible refine seq_stop ?_)); (first | refine red ?_ | ((with_reducible apply k_var); rfl) | refine k_new fun _ _ => ?_ | refine wp_and rfl ?_ | refine if_redT rfl ?_ | refine if_redF rfl ?_))))
local macro_rules | `(tactic| walk_at "ext") => `(tactic| (repeat (first | assumption | exact Ext.refl _ | refine Ext.newI ?_ | refine Ext.trans ?_ ‹Ext _ _›)))
local macro_rules | `(tactic| walk_at "rv") => `(tactic| (repeat (first | refine red ?_ | ((with_reducible apply k_var); rfl))))
/-! ### the law: rows named, conditions run -/
mutual
def evC (f : Tst → Ans) : Cond → Ans
  | .t q => f q
  | .not c => (evC f c).neg
  | .seq w cs => evL f w cs
def evL (f : Tst → Ans) (w : Bool) : List Cond → Ans
  | [] => cont w
  | c :: cs => if evC f c = cont w then evL f w cs else evC f c
end
mutual
theorem run_ev (f : Tst → Ans) : ∀ (c : Cond) (l : List Ans), (run (fun _ t => f t) c l).1 = evC f c
  | .t q, l => rfl
  | .not c, l => by
    show (run (fun _ t => f t) c l).1.neg = (evC f c).neg
    rw [run_ev f c l]
  | .seq w cs, l => runL_ev f w cs l
theorem runL_ev (f : Tst → Ans) (w : Bool) : ∀ (cs : List Cond) (l : List Ans), (runL (fun _ t => f t) w cs l).1 = evL f w cs
  | [], l => rfl
  | c :: cs, l => by
    unfold runL evL
    rw [run_ev f c l]
    split
    · exact runL_ev f w cs _
    · exact run_ev f c l
end
theorem evL_end {f : Tst → Ans} {w : Bool} : ∀ {cs : List Cond}, (∀ (i : Nat) (c : Cond), cs[i]? = some c → evC f c = cont w) → evL f w cs = cont w
  | [], _ => rfl
  | c :: cs, h => by
    unfold evL
    rw [if_pos (h 0 c rfl)]
    exact evL_end fun i d hd => h (i + 1) d (by simpa using hd)
theorem evL_at {f : Tst → Ans} {w : Bool} : ∀ {cs : List Cond} {i : Nat} {c : Cond}, cs[i]? = some c → (∀ (j : Nat) (d : Cond), j < i → cs[j]? = some d → evC f d = cont w) → evC f c ≠ cont w → evL f w cs = evC f c
  | [], _, _, h, _, _ => by simp at h
  | x :: cs, 0, c, h, _, hn => by
    simp at h
    subst h
    unfold evL
    rw [if_neg hn]
  | x :: cs, i + 1, c, h, hb, hn => by
    unfold evL
    rw [if_pos (hb 0 x (Nat.succ_pos _) rfl)]
    exact evL_at (i := i) (by simpa using h) (fun j d hj hd => hb (j + 1) d (by omega) (by simpa using hd)) hn
theorem rowK_val {cols : List Col} {c : Col} (hn : (cols.map (·.1)).Nodup) (hc : c ∈ cols) : valV (rowK cols) (.inl c.1) = some (.int c.2.2) := by
  have hm : ((.inl c.1 : Key), V.int c.2.2) ∈ rowK cols := List.mem_map.mpr ⟨c, hc, rfl⟩
  refine val_nodup ?_ _ hm
  unfold rowK
  rw [List.map_map]
  have : cols.map ((·.1) ∘ fun c : Col => ((.inl c.1 : Key), V.int c.2.2)) = (cols.map (·.1)).map (Sum.inl : Int → Key) := by rw [List.map_map]; rfl
  rw [this]
  exact List.Pairwise.map _ (fun a b h z => h (by injection z)) hn
theorem kr_named {H : Hp} : ∀ {kvs : List (Key × V)} {adds : Adds} {i : Nat}, Paired (KR (VR fun c : Col => V.int c.2.2) H) kvs ((colsI i adds).map fun c => ((.inr c.2.1 : Key), c)) → kvs = adds.map fun p => (.inr p.1, .int p.2)
  | kvs, [], i, h => by cases h; rfl
  | kvs, q :: cs, i, h => by
    unfold colsI at h
    rw [List.map_cons] at h
    cases h with
    | @cons p _ ps _ hh t =>
      obtain ⟨k, v⟩ := p
      obtain ⟨h1, h2⟩ := hh
      have e1 : k = .inr q.1 := h1
      have e2 : v = V.int q.2 := h2
      rw [kr_named t, e1, e2]
      rfl
section
variable {w : World} {K : PySem.W.Frag} {mg : Str → Option Value} {base : Heap}
def pNamed (table key : V) (H : Hp) (Q : VK) : Prop := ∃ tb cl rw adds row, table = .ref tb ∧ TabS H tb cl rw (colsI 0 adds) row ∧ AddsOk adds ∧ key = .int 0 ∧
  (row = false → ∀ H', Ext H H' → Q .non H') ∧ (row = true → ∀ d H', Ext H H' → H' d = some (.dK (adds.map fun p => (.inr p.1, .int p.2))) → Q (.ref d) H')
theorem ok_law_named  (T : Txt w K mg) : Cal PG w K mg base (0 + 1) "_law_named" (sp2 pNamed) := by
  obtain ⟨fd, F⟩ := T.d_law_named
  refine cal_mk F T.g_law_named sc_law_named (fun _ _ _ _ _ _ us hl => match us, hl with | [_, _], _ => rfl) fun cdv A outer s0 H vs Q E hr h => ?_
  obtain ⟨_, _, rfl, tb, cl, rw, adds, row, rfl, hT, ok, rfl, hN, hS⟩ := h
  obtain ⟨htb, ⟨cvs, hcv, hE⟩, hrw⟩ := id hT
  have : At H tb (.dK [(.inr "columns", .ref cl), (.inr "rows", .ref rw)]) := ⟨htb⟩
  have : At H cl (.lst cvs) := ⟨hcv⟩
  have hlen := hE.len
  have hcl := colsI_len adds 0
  have hal := ok.1
  refine ⟨_, pss_cons (ps_if (pt_cmp (pc_dnotin (hu_of hr) (pv 1) (pe_dget (hu_of hr) (pv 0) (pe_str) (fun _ _ => rfl)))) (pss_one (ps_ret (pe_non))) pss_nil)
      (pss_one (ps_ret (pe_callTy (call_dictPK (K := K) rfl rfl) (by rfl) T.f_dict (by decide +kernel) (pa_cons (pe_lc (own := [("_law_one", 2)]) rfl sc_law_named.nd (pi_seq (pe_dget (hu_of hr) (pv 0) (pe_str) (fun _ _ => rfl))) (blkOk_by (own := [("_law_one", 2)]) (N := ["_law_table_here", "_law_key", "_law_one"]) (sc := defScope S_law_named) (by decide +kernel)) (fun _ _ _ _ _ => (pg_name (i := 2) sc_law_named.nd rfl (by first | exact Or.inl rfl | exact Or.inr rfl))) (fun _ _ _ _ _ => pts_nil) (fun _ _ _ _ _ => (pe_tup (pa_cons (pe_ix (ix_anyK (K := K) rfl) (pv 2) (pe_int) (fun _ _ => rfl)) (pa_cons (pe_dget (hu_of hr) (pe_dget (hu_of hr) (pe_dget (hu_of hr) (pv 0) (pe_str) (fun _ _ => rfl)) (pv 1) (fun _ _ => rfl)) (pe_ix (ix_anyK (K := K) rfl) (pv 2) (pe_int) (fun _ _ => rfl)) (fun _ _ => rfl)) pa_nil))))) pa_nil)))), ?_⟩
  refine start_to (σ := [some _, some _, none]) rfl ?_
  try dsimp only [cxOf]
  cases row with
  | false =>
    rw [if_neg (show ¬ false = true by decide)] at hrw
    have : At H rw (.dK []) := ⟨hrw⟩
    walk_at "go"
    exact hN rfl H (Ext.refl _)
  | true =>
    rw [if_pos rfl] at hrw
    obtain ⟨q, hr0, hq⟩ := hrw
    have : At H rw (.dK [(.inl 0, .ref q)]) := ⟨hr0⟩
    have : DVal [((.inl 0 : Key), V.ref q)] (.int 0) (some (.ref q)) := ⟨.inl 0, rfl, rfl⟩
    walk_at "go"
    refine lc_ds (colsI 0 adds) some (PrR (VR fun c : Col => V.int c.2.2) fun c => (.inr c.2.1 : Key)) (fun e ⟨p, b, h1, h2, h3⟩ => ⟨p, b, h1, e.at h2, h3⟩) hlen (by show cvs.length ≤ 2 ^ 24; omega) ?_ ?_
    · intro i y c H3 H4 D2 hc e3 nD2 hA3 hy N1 N2 k1 k2
      obtain ⟨rfl, hy⟩ := hy
      obtain ⟨c', hc', b, rfl, hb⟩ := hE.get hy
      rw [hc] at hc'
      cases hc'
      have : At H4 b (.lst [.int c.1, .str c.2.1, .int c.2.2]) := ⟨e3.at hb⟩
      have : At H4 q (.dK (rowK (colsI 0 adds))) := ⟨e3.at hq⟩
      have : DVal (rowK (colsI 0 adds)) (.int c.1) (some (.int c.2.2)) := ⟨.inl c.1, rfl, rowK_val (colsI_ids adds 0).1 (List.mem_of_getElem? hc)⟩
      obtain ⟨acc, hA4⟩ := hA3
      walk_at "go"
      rename_i q2 nq
      exact k1 _ _ c ext_upd rfl ⟨q2, _, rfl, Hid.at upd_same (ne_of_none_at nq.h hA4), rfl⟩
    · intro D2 H3 zs nD2 e3 hD2 hE3
      rw [List.filterMap_some] at hE3
      have hE4 : Each (PrR (VR fun c : Col => V.int c.2.2) fun c => (.inr c.2.1 : Key)) H3 zs (colsI 0 adds) := hE3.mono fun v c ⟨p, b, h1, h2, h3⟩ => ⟨p, b, h1, (Hid.sub D2 H3).at h2, h3⟩
      obtain ⟨ps, kvs, rfl, hps, hK⟩ := prs_of (K := K) hE4
      have hkv : kvs = adds.map fun p => (.inr p.1, .int p.2) := kr_named hK
      have hnd : (kvs.map (·.1)).Nodup := by
        rw [hkv, List.map_map]
        have : adds.map ((·.1) ∘ fun p : Str × Int => ((.inr p.1 : Key), V.int p.2)) = (adds.map (·.1)).map (Sum.inr : Str → Key) := by rw [List.map_map]; rfl
        rw [this]
        exact nodup_inr ok.2.2
      walk_at "go"
      refine ⟨D2, ps, kvs, rfl, SqL.of hD2, hps, fun d hd => ?_⟩
      rw [mergeK_nodup (by rw [List.nil_append]; exact hnd), List.nil_append]
      have nd : New H3 d := ⟨hd⟩
      exact hS rfl d _ (e3.trans ext_upd) (by rw [upd_same, hkv])
end

end PB
namespace PB
open PySem PySem.Spec PyProof.Rows L2
local macro_rules | `(tactic| walk_at "rd") => `(tactic| (repeat refine red ?_))
local macro_rules | `(tactic| walk_at "go") => `(tactic| (repeat (first | refine red ?_ | ((with_reducible apply k_var); rfl) | refine k_new fun _ _ => ?_ | refine wp_and rfl ?_ | refine if_redT rfl ?_ | refine if_redF rfl ?_)))
local macro_rules | `(tactic| walk_at "ga") => `(tactic| (repeat (first | refine red ?_ | ((with_reducible apply k_var); rfl) | ((with_reducible apply k_aug); rfl) | refine k_new fun _ _ => ?_ | refine wp_and rfl ?_ | refine if_redT rfl ?_ | refine if_redF rfl ?_)))
local macro_rules | `(tactic| walk_at "gq") => `(tactic| (repeat ((fail_if_success (with_reducible refine seq_stop ?_)); (first | refine red ?_ | ((with_reducible apply k_var); rfl) | refine k_new fun _ _ => ?_ | refine wp_and rfl ?_ | refine if_redT rfl ?_ | refine if_redF rfl ?_))))
local macro_rules | `(tactic| walk_at "ext") => `(tactic| (repeat (first | assumption | exact Ext.refl _ | refine Ext.newI ?_ | refine Ext.trans ?_ ‹Ext _ _›)))
local macro_rules | `(tactic| walk_at "rv") => `(tactic| (repeat (first | refine red ?_ | ((with_reducible apply k_var); rfl))))
/-! ### the law: a condition at a table -/
theorem inV_names {x : Str} : ∀ {adds : Adds}, inV (.str x) ((adds.map (·.1)).map V.str) = (valA adds x).isSome
  | [] => rfl
  | q :: r => by
    have e : inV (.str x) (((q :: r).map (·.1)).map V.str) = (eqV (.str q.1) (.str x) || inV (.str x) ((r.map (·.1)).map V.str)) := rfl
    have e2 : eqV (.str q.1) (.str x) = decide (q.1 = x) := by
      show (q.1 == x) = decide (q.1 = x)
      exact Bool.beq_eq_decide_eq q.1 x
    have e3 : valA (q :: r) x = if q.1 = x then some q.2 else valA r x := rfl
    rw [e, e2, inV_names, e3]
    by_cases z : q.1 = x
    · rw [if_pos z, decide_eq_true z]; rfl
    · rw [if_neg z, decide_eq_false z, Bool.false_or]
/-- the row of a table, None or a dict -/
def RowV (H : Hp) (adds : Adds) (row : Bool) (v : V) : Prop := if row = true then ∃ d, v = .ref d ∧ H d = some (.dK (adds.map fun p => (.inr p.1, .int p.2))) else v = .non
section
variable {w : World} {K : PySem.W.Frag} {mg : Str → Option Value} {base : Heap}
def turnK : List (Key × V) := [(.inr "yes", .str "no"), (.inr "no", .str "yes"), (.inr "fault", .str "fault")]
theorem turn_val {a : Ans} : valV turnK (.inr a.s) = some (.str a.neg.s) := by cases a <;> rfl
instance dec_yes {a : Ans} : DecS a.s "yes" (decide (a = .yes)) := ⟨Ans.s_inj (b := .yes)⟩
instance dec_no {a : Ans} : DecS a.s "no" (decide (a = .no)) := ⟨Ans.s_inj (b := .no)⟩
theorem row_true {H : Hp} {adds : Adds} {v : V} (h : RowV H adds true v) : ∃ d, v = .ref d ∧ H d = some (.dK (adds.map fun p => (.inr p.1, .int p.2))) := h
def pRunL (n : Nat) (query table key : V) (H : Hp) (Q : VK) : Prop := ∃ c tb cl rw adds row, CA H c query ∧ c.dep < n ∧ table = .ref tb ∧ TabS H tb cl rw (colsI 0 adds) row ∧ AddsOk adds ∧ key = .int 0 ∧ ∀ H', Ext H H' → Q (.str (evC (adF adds row) c).s) H'
theorem lrun0 (T : Txt w K mg) : Cal PG w K mg base (1 + 1) "_law_run" (sp3 (pRunL 0)) := by
  obtain ⟨fd, F⟩ := T.d_law_run
  refine cal_mk F T.g_law_run sc_law_run (fun _ _ _ _ _ _ us hl => match us, hl with | [_, _, _], _ => rfl) fun cdv A outer s0 H vs Q E hr h => ?_
  obtain ⟨_, _, _, rfl, c, _, _, _, _, _, _, hd, _⟩ := h
  exact absurd hd (Nat.not_lt_zero _)
set_option maxHeartbeats 2000000 in
theorem lrunS (n : Nat) (T : Txt w K mg) (ih : Cal PG w K mg base (2 + n) "_law_run" (sp3 (pRunL n))) : Cal PG w K mg base (2 + n + 1) "_law_run" (sp3 (pRunL (n + 1))) := by
  obtain ⟨fd, F⟩ := T.d_law_run
  refine cal_mk F T.g_law_run sc_law_run (fun _ _ _ _ _ _ us hl => match us, hl with | [_, _, _], _ => rfl) fun cdv A outer s0 H vs Q E hr h => ?_
  obtain ⟨query, _, _, rfl, c, tb, cl, rw, adds, row, hc, hd, rfl, hT, ok, rfl, h⟩ := h
  obtain ⟨htb, ⟨cvs, hcv, hE⟩, hrw⟩ := id hT
  obtain ⟨a, rest, rfl, ha⟩ := hc.head
  have : At H a (.tup (.str c.word :: rest)) := ⟨ha⟩
  have : At H tb (.dK [(.inr "columns", .ref cl), (.inr "rows", .ref rw)]) := ⟨htb⟩
  have : At H cl (.lst cvs) := ⟨hcv⟩
  have hlen := hE.len
  have hcl := colsI_len adds 0
  have hal := ok.1
  have c_law_named := (ok_law_named (base := base) T).mono (show 1 ≤ 2 + n by omega)
  have c_law_run := ih
  refine ⟨_, pss_cons (ps_set (i := 3) sc_law_run.nd rfl (by first | exact Or.inl rfl | exact Or.inr rfl) (pe_ix (ix_anyK (K := K) rfl) (pv 0) (pe_int) (fun _ _ => rfl)))
      (pss_cons (ps_par (i := 4) (j := 5) rfl sc_law_run.nd rfl rfl (by decide) rfl rfl (pa_cons (pe_lc (own := [("_law_one", 9)]) rfl sc_law_run.nd (pi_seq (pe_dget (hu_of hr) (pv 1) (pe_str) (fun _ _ => rfl))) (blkOk_by (own := [("_law_one", 9)]) (N := ["_law_query", "_law_table_here", "_law_key", "_law_word", "_law_names", "_law_row", "_law_here", "_law_stands", "_law_part", "_law_one"]) (sc := defScope S_law_run) (by decide +kernel)) (fun _ _ _ _ _ => (pg_name (i := 9) sc_law_run.nd rfl (by first | exact Or.inl rfl | exact Or.inr rfl))) (fun _ _ _ _ _ => pts_nil) (fun _ _ _ _ _ => (pe_ix (ix_anyK (K := K) rfl) (pv 9) (pe_int) (fun _ _ => rfl)))) (pa_cons (pe_cl c_law_named hr (by first | decide | omega) rfl (pa_cons (pv 1) (pa_cons (pv 2) pa_nil))) pa_nil)) (by rfl))
      (pss_cons (ps_if (pt_cmpR op_eq (pv 3) (pe_str) (nomark _)) (pss_one (ps_ret (pe_ifExp (pt_cmpR op_isNK (pv 5) (pe_non) (nomark _)) (pe_str) (pe_str)))) pss_nil)
      (pss_cons (ps_if (pt_cmpR op_eq (pv 3) (pe_str) (nomark _)) (pss_one (ps_ret (pe_ifExp (pt_cmpR (op_inK (K := K) rfl) (pe_ix (ix_anyK (K := K) rfl) (pv 0) (pe_int) (fun _ _ => rfl)) (pv 4) (by rfl)) (pe_str) (pe_str)))) pss_nil)
      (pss_cons (ps_if (pt_cmpR (op_inK (K := K) rfl) (pv 3) (pe_lst (pa_cons (pe_str) (pa_cons (pe_str) pa_nil))) (by rfl)) (pss_cons (ps_if (PW.pt (pw_or (pt_cmpR (op_notInK (K := K) rfl) (pe_ix (ix_anyK (K := K) rfl) (pv 0) (pe_int) (fun _ _ => rfl)) (pv 4) (by rfl)) (pw_or1 (pt_cmpR op_isNK (pv 5) (pe_non) (nomark _))))) (pss_one (ps_ret (pe_str))) pss_nil)
      (pss_cons (ps_set (i := 6) sc_law_run.nd rfl (by first | exact Or.inl rfl | exact Or.inr rfl) (pe_dget (hu_of hr) (pv 5) (pe_ix (ix_anyK (K := K) rfl) (pv 0) (pe_int) (fun _ _ => rfl)) (fun _ _ => rfl)))
      (pss_cons (ps_set (i := 7) sc_law_run.nd rfl (by first | exact Or.inl rfl | exact Or.inr rfl) (pe_ifExp (pt_cmpR op_eq (pv 3) (pe_str) (nomark _)) (pe_cmpR op_eq (pv 6) (pe_ix (ix_anyK (K := K) rfl) (pv 0) (pe_int) (fun _ _ => rfl)) (nomark _)) (pe_cmpR op_lt (pv 6) (pe_ix (ix_anyK (K := K) rfl) (pv 0) (pe_int) (fun _ _ => rfl)) (nomark _))))
      (pss_one (ps_ret (pe_ifExp (pt_val (pv 7)) (pe_str) (pe_str))))))) pss_nil)
      (pss_cons (ps_if (pt_cmpR op_eq (pv 3) (pe_str) (nomark _)) (pss_one (ps_ret (pe_dget (hu_of hr) (pe_disp (pps_cons (pe_str) (pe_str) (pps_cons (pe_str) (pe_str) (pps_cons (pe_str) (pe_str) pps_nil))) (by rfl) (by rfl) (fun z => by cases z) (by decide)) (pe_cl c_law_run hr (by first | decide | omega) rfl (pa_cons (pe_ix (ix_anyK (K := K) rfl) (pv 0) (pe_int) (fun _ _ => rfl)) (pa_cons (pv 1) (pa_cons (pv 2) pa_nil)))) (fun _ _ => rfl)))) pss_nil)
      (pss_cons (ps_for PassesOwn.never rfl (pi_seq (pe_ix (ix_anyK (K := K) rfl) (pv 0) (pe_int) (fun _ _ => rfl))) (pg_name (i := 8) sc_law_run.nd rfl (by first | exact Or.inl rfl | exact Or.inr rfl)) (pss_cons (ps_set (i := 9) sc_law_run.nd rfl (by first | exact Or.inl rfl | exact Or.inr rfl) (pe_cl c_law_run hr (by first | decide | omega) rfl (pa_cons (pv 8) (pa_cons (pv 1) (pa_cons (pv 2) pa_nil)))))
      (pss_one (ps_if (pt_cmpR op_ne (pv 9) (pe_ifExp (pt_cmpR op_eq (pv 3) (pe_str) (nomark _)) (pe_str) (pe_str)) (nomark _)) (pss_one (ps_ret (pv 9))) pss_nil))))
      (pss_one (ps_ret (pe_ifExp (pt_cmpR op_eq (pv 3) (pe_str) (nomark _)) (pe_str) (pe_str)))))))))), ?_⟩
  refine start_to (σ := [some _, some _, some _, none, none, none, none, none, none, none]) rfl ?_
  try dsimp only [cxOf]
  walk_at "gq"
  refine red ?_
  walk_at "gq"
  with_reducible refine seq_stop ?_
  refine seq_cut (fun σ' H' => ∃ D rv, σ' = [some (.ref a), some (.ref tb), some (.int 0), some (.str c.word), some (.ref D), some rv, none, none, none, none] ∧ Ext H H' ∧ H' D = some (.lst ((adds.map (·.1)).map V.str)) ∧ RowV H' adds row rv) ?_ ?_
  · rintro σ' H1 ⟨D, rv, rfl, e1, hD, hR⟩
    cases c with
    | t q =>
      obtain ⟨a', ea, ha'⟩ := hc
      cases ea
      cases q with
      | row =>
        rw [show Cond.word (.t .row) = "row" from rfl]
        walk_at "go"
        cases row with
        | false =>
          obtain rfl : rv = V.non := hR
          walk_at "go"
          exact h H1 e1
        | true =>
          obtain ⟨d, rfl, hdr⟩ := row_true hR
          walk_at "go"
          exact h H1 e1
      | has x =>
        have : At H1 a (.tup [.str "has", .str x]) := ⟨e1.at ha'⟩
        rw [show Cond.word (.t (.has x)) = "has" from rfl]
        walk_at "go"
        refine ⟨D, _, rfl, .inl (SqL.of hD), rfl, flat_strs, ?_⟩
        rw [inV_names]
        have he : evC (adF adds row) (.t (.has x)) = yn (valA adds x).isSome := rfl
        rw [he] at h
        cases hv : valA adds x with
        | none =>
          rw [hv] at h
          walk_at "go"
          exact h H1 e1
        | some u =>
          rw [hv] at h
          walk_at "go"
          exact h H1 e1
      | eq x v =>
        have : At H1 a (.tup [.str "eq", .str x, .int v]) := ⟨e1.at ha'⟩
        rw [show Cond.word (.t (.eq x v)) = "eq" from rfl]
        walk_at "go"
        rename_i L nL
        have eL : Ext H1 (upd H1 L (.lst [.str "eq", .str "less"])) := ext_upd
        generalize upd H1 L (.lst [.str "eq", .str "less"]) = H2 at eL
        have e2 := e1.trans eL
        have : At H2 a (.tup [.str "eq", .str x, .int v]) := ⟨eL.at (e1.at ha')⟩
        walk_at "go"
        refine ⟨D, _, rfl, .inl (SqL.of (eL.at hD)), rfl, flat_strs, ?_⟩
        rw [inV_names]
        have he : evC (adF adds row) (.t (.eq x v)) = cmpA (if row = true then valA adds x else none) fun u => decide (u = v) := rfl
        rw [he] at h
        cases hv : valA adds x with
        | none =>
          rw [hv, ite_self] at h
          walk_at "go"
          exact h H2 e2
        | some u =>
          rw [hv] at h
          walk_at "go"
          cases row with
          | false =>
            obtain rfl : rv = V.non := hR
            walk_at "go"
            exact h H2 e2
          | true =>
            rw [if_pos rfl] at h
            obtain ⟨d, rfl, hdr⟩ := row_true hR
            have : At H2 d (.dK (adds.map fun p => (.inr p.1, .int p.2))) := ⟨eL.at hdr⟩
            have : DVal (adds.map fun p => ((.inr p.1 : Key), V.int p.2)) (.str x) (some (.int u)) := ⟨.inr x, rfl, by rw [val_row, hv]; rfl⟩
            walk_at "go"
            by_cases hz : u = v
            · rw [decide_eq_true hz]
              rw [show cmpA (some u) (fun u => decide (u = v)) = .yes by show yn (decide (u = v)) = _; rw [decide_eq_true hz]; rfl] at h
              walk_at "go"
              exact h H2 e2
            · rw [decide_eq_false hz]
              rw [show cmpA (some u) (fun u => decide (u = v)) = .no by show yn (decide (u = v)) = _; rw [decide_eq_false hz]; rfl] at h
              walk_at "go"
              exact h H2 e2
      | less x v =>
        have : At H1 a (.tup [.str "less", .str x, .int v]) := ⟨e1.at ha'⟩
        rw [show Cond.word (.t (.less x v)) = "less" from rfl]
        walk_at "go"
        rename_i L nL
        have eL : Ext H1 (upd H1 L (.lst [.str "eq", .str "less"])) := ext_upd
        generalize upd H1 L (.lst [.str "eq", .str "less"]) = H2 at eL
        have e2 := e1.trans eL
        have : At H2 a (.tup [.str "less", .str x, .int v]) := ⟨eL.at (e1.at ha')⟩
        walk_at "go"
        refine ⟨D, _, rfl, .inl (SqL.of (eL.at hD)), rfl, flat_strs, ?_⟩
        rw [inV_names]
        have he : evC (adF adds row) (.t (.less x v)) = cmpA (if row = true then valA adds x else none) fun u => decide (u < v) := rfl
        rw [he] at h
        cases hv : valA adds x with
        | none =>
          rw [hv, ite_self] at h
          walk_at "go"
          exact h H2 e2
        | some u =>
          rw [hv] at h
          walk_at "go"
          cases row with
          | false =>
            obtain rfl : rv = V.non := hR
            walk_at "go"
            exact h H2 e2
          | true =>
            rw [if_pos rfl] at h
            obtain ⟨d, rfl, hdr⟩ := row_true hR
            have : At H2 d (.dK (adds.map fun p => (.inr p.1, .int p.2))) := ⟨eL.at hdr⟩
            have : DVal (adds.map fun p => ((.inr p.1 : Key), V.int p.2)) (.str x) (some (.int u)) := ⟨.inr x, rfl, by rw [val_row, hv]; rfl⟩
            walk_at "go"
            by_cases hz : u < v
            · rw [decide_eq_true hz]
              rw [show cmpA (some u) (fun u => decide (u < v)) = .yes by show yn (decide (u < v)) = _; rw [decide_eq_true hz]; rfl] at h
              walk_at "go"
              exact h H2 e2
            · rw [decide_eq_false hz]
              rw [show cmpA (some u) (fun u => decide (u < v)) = .no by show yn (decide (u < v)) = _; rw [decide_eq_false hz]; rfl] at h
              walk_at "go"
              exact h H2 e2
    | not c2 =>
      obtain ⟨a', b, ea, ha', hb⟩ := hc
      cases ea
      have : At H1 a (.tup [.str "not", b]) := ⟨e1.at ha'⟩
      rw [show Cond.word (.not c2) = "not" from rfl]
      walk_at "go"
      rename_i L nL
      have eL : Ext H1 (upd H1 L (.lst [.str "eq", .str "less"])) := ext_upd
      generalize upd H1 L (.lst [.str "eq", .str "less"]) = H2 at eL
      intro tp ntp
      have : At H2 a (.tup [.str "not", b]) := ⟨eL.at (e1.at ha')⟩
      walk_at "go"
      refine ⟨upd_same, turnK, rfl, by show 3 ≤ 15; decide, ?_⟩
      rw [mergeK_nodup (by show [(.inr "yes" : Key), .inr "no", .inr "fault"].Nodup; decide +kernel), List.nil_append, updd]
      have eT : Ext H2 (upd H2 tp (.dK turnK)) := ext_upd
      have hTp : upd H2 tp (.dK turnK) tp = some (.dK turnK) := upd_same
      generalize upd H2 tp (.dK turnK) = H3 at eT hTp
      have e3 : Ext H H3 := (e1.trans eL).trans eT
      have : At H3 a (.tup [.str "not", b]) := ⟨e3.at ha'⟩
      walk_at "go"
      refine ⟨c2, tb, cl, rw, adds, row, CA.mono e3 c2 b hb, by have h9 : c2.dep + 1 < n + 1 := hd; omega, rfl, hT.mono e3, ok, rfl, fun H4 e4 => ?_⟩
      have : At H4 tp (.dK turnK) := ⟨e4.at hTp⟩
      have : DVal turnK (.str (evC (adF adds row) c2).s) (some (.str (evC (adF adds row) c2).neg.s)) := ⟨_, rfl, turn_val⟩
      walk_at "go"
      exact h H4 (e3.trans e4)
    | seq wb cs =>
      obtain ⟨a', p, vs, ea, ha', hp, hvs⟩ := hc
      cases ea
      have hP := hvs.each
      have hpl := Paired.length hP
      cases wb with
      | true =>
        have : At H1 a (.tup [.str "all", .ref p]) := ⟨e1.at ha'⟩
        rw [show Cond.word (.seq true cs) = "all" from rfl]
        walk_at "go"
        rename_i L nL
        have eL : Ext H1 (upd H1 L (.lst [.str "eq", .str "less"])) := ext_upd
        generalize upd H1 L (.lst [.str "eq", .str "less"]) = H2 at eL
        have e2 := e1.trans eL
        have : At H2 a (.tup [.str "all", .ref p]) := ⟨e2.at ha'⟩
        have : At H2 p (.tup vs) := ⟨e2.at hp⟩
        walk_at "go"
        refine for_go (fun j σ' H' => (∃ x y, σ' = [some (.ref a), some (.ref tb), some (.int 0), some (.str "all"), some (.ref D), some rv, none, none, x, y]) ∧ Ext H2 H' ∧ ∀ (i : Nat) (d : Cond), i < j → cs[i]? = some d → evC (adF adds row) d = cont true) ⟨⟨none, none, rfl⟩, Ext.refl _, fun i d z => absurd z (Nat.not_lt_zero i)⟩ (fun j σ' H' _ q => sub_at (e2.at hp) ((e2.trans q.2.1).at hp)) ?_ ?_
        · rintro j x σ' H3 H4 hj ⟨⟨x0, y0, rfl⟩, e3, hall⟩ ⟨rfl, hx⟩
          obtain ⟨d, hdj, hdc⟩ := getP hP hx
          have e03 := e2.trans e3
          walk_at "go"
          refine ⟨d, tb, cl, rw, adds, row, CA.mono e03 d x hdc, by have h9 : depL cs + 1 < n + 1 := hd; have := depL_get hdj; omega, rfl, hT.mono e03, ok, rfl, fun H5 e5 => ?_⟩
          walk_at "go"
          by_cases hz : evC (adF adds row) d = cont true
          · rw [decide_eq_true (show evC (adF adds row) d = Ans.yes from hz)]
            walk_at "go"
            refine ⟨⟨_, _, rfl⟩, e3.trans e5, fun i d' hi hd' => ?_⟩
            by_cases z : i = j
            · subst z
              rw [hdj] at hd'
              cases hd'
              exact hz
            · exact hall i d' (by omega) hd'
          · rw [decide_eq_false (show ¬ evC (adF adds row) d = Ans.yes from hz)]
            walk_at "go"
            have := h H5 (e03.trans e5)
            rw [show evC (adF adds row) (.seq true cs) = evC (adF adds row) d from evL_at hdj hall hz] at this
            exact this
        · rintro σ' H3 ⟨⟨x0, y0, rfl⟩, e3, hall⟩
          walk_at "go"
          have := h H3 (e2.trans e3)
          rw [show evC (adF adds row) (.seq true cs) = cont true from evL_end fun i d hd => hall i d (by have := (List.getElem?_eq_some_iff.mp hd).1; omega) hd] at this
          exact this
      | false =>
        have : At H1 a (.tup [.str "any", .ref p]) := ⟨e1.at ha'⟩
        rw [show Cond.word (.seq false cs) = "any" from rfl]
        walk_at "go"
        rename_i L nL
        have eL : Ext H1 (upd H1 L (.lst [.str "eq", .str "less"])) := ext_upd
        generalize upd H1 L (.lst [.str "eq", .str "less"]) = H2 at eL
        have e2 := e1.trans eL
        have : At H2 a (.tup [.str "any", .ref p]) := ⟨e2.at ha'⟩
        have : At H2 p (.tup vs) := ⟨e2.at hp⟩
        walk_at "go"
        refine for_go (fun j σ' H' => (∃ x y, σ' = [some (.ref a), some (.ref tb), some (.int 0), some (.str "any"), some (.ref D), some rv, none, none, x, y]) ∧ Ext H2 H' ∧ ∀ (i : Nat) (d : Cond), i < j → cs[i]? = some d → evC (adF adds row) d = cont false) ⟨⟨none, none, rfl⟩, Ext.refl _, fun i d z => absurd z (Nat.not_lt_zero i)⟩ (fun j σ' H' _ q => sub_at (e2.at hp) ((e2.trans q.2.1).at hp)) ?_ ?_
        · rintro j x σ' H3 H4 hj ⟨⟨x0, y0, rfl⟩, e3, hall⟩ ⟨rfl, hx⟩
          obtain ⟨d, hdj, hdc⟩ := getP hP hx
          have e03 := e2.trans e3
          walk_at "go"
          refine ⟨d, tb, cl, rw, adds, row, CA.mono e03 d x hdc, by have h9 : depL cs + 1 < n + 1 := hd; have := depL_get hdj; omega, rfl, hT.mono e03, ok, rfl, fun H5 e5 => ?_⟩
          walk_at "go"
          by_cases hz : evC (adF adds row) d = cont false
          · rw [decide_eq_true (show evC (adF adds row) d = Ans.no from hz)]
            walk_at "go"
            refine ⟨⟨_, _, rfl⟩, e3.trans e5, fun i d' hi hd' => ?_⟩
            by_cases z : i = j
            · subst z
              rw [hdj] at hd'
              cases hd'
              exact hz
            · exact hall i d' (by omega) hd'
          · rw [decide_eq_false (show ¬ evC (adF adds row) d = Ans.no from hz)]
            walk_at "go"
            have := h H5 (e03.trans e5)
            rw [show evC (adF adds row) (.seq false cs) = evC (adF adds row) d from evL_at hdj hall hz] at this
            exact this
        · rintro σ' H3 ⟨⟨x0, y0, rfl⟩, e3, hall⟩
          walk_at "go"
          have := h H3 (e2.trans e3)
          rw [show evC (adF adds row) (.seq false cs) = cont false from evL_end fun i d hd => hall i d (by have := (List.getElem?_eq_some_iff.mp hd).1; omega) hd] at this
          exact this
  · intro N hN
    walk_at "go"
    refine lc_ds (colsI 0 adds) (fun c => some c.2.1) (VR V.str) (fun _ h => h) hlen (by show cvs.length ≤ 2 ^ 24; omega) ?_ ?_
    · intro i y c H1 H2 D hc e1 nD hA1 hy N1 N2 k1 k2
      obtain ⟨rfl, hy⟩ := hy
      obtain ⟨c', hc', b, rfl, hb⟩ := hE.get hy
      rw [hc] at hc'
      cases hc'
      have : At H2 b (.lst [.int c.1, .str c.2.1, .int c.2.2]) := ⟨e1.at hb⟩
      walk_at "go"
      exact k1 _ _ c.2.1 (Ext.refl _) rfl rfl
    · intro D H1 ys nD e1 hD hE1
      have hys : ys = (adds.map (·.1)).map V.str := by rw [each_val hE1, List.filterMap_eq_map', colsI_names]
      rw [hys] at hD
      walk_at "go"
      refine ⟨tb, cl, rw, adds, row, rfl, hT.mono e1, ok, rfl, fun hr2 H2 e2 => ?_, fun hr2 d H2 e2 hd2 => ?_⟩
      · walk_at "go"
        exact hN _ _ ⟨D, .non, rfl, e1.trans e2, e2.at hD, by unfold RowV; rw [hr2]; exact rfl⟩
      · walk_at "go"
        exact hN _ _ ⟨D, .ref d, rfl, e1.trans e2, e2.at hD, by unfold RowV; rw [hr2, if_pos rfl]; exact ⟨d, rfl, hd2⟩⟩
theorem ok_law_run (n : Nat) (T : Txt w K mg) : Cal PG w K mg base (2 + n) "_law_run" (sp3 (pRunL n)) := by
  induction n with
  | zero => exact lrun0 T
  | succ n ih => exact lrunS n T ih
end

end PB
namespace PB
open PySem PySem.Spec PyProof.Rows L2
local macro_rules | `(tactic| walk_at "rd") => `(tactic| (repeat refine red ?_))
local macro_rules | `(tactic| walk_at "go") => `(tactic| (repeat (first | refine red ?_ | ((with_reducible apply k_var); rfl) | refine k_new fun _ _ => ?_ | refine wp_and rfl ?_ | refine if_redT rfl ?_ | refine if_redF rfl ?_)))
local macro_rules | `(tactic| walk_at "ga") => `(tactic| (repeat (first | refine red ?_ | ((with_reducible apply k_var); rfl) | ((with_reducible apply k_aug); rfl) | refine k_new fun _ _ => ?_ | refine wp_and rfl ?_ | refine if_redT rfl ?_ | refine if_redF rfl ?_)))
local macro_rules | `(tactic| walk_at "gq") => `(tactic| (repeat ((fail_if_success (with_reducible refine seq_stop ?_)); (first | refine red ?_ | ((with_reducible apply k_var); rfl) | refine k_new fun _ _ => ?_ | refine wp_and rfl ?_ | refine if_redT rfl ?_ | refine if_redF rfl ?_))))
local macro_rules | `(tactic| walk_at "ext") => `(tactic| (repeat (first | assumption | exact Ext.refl _ | refine Ext.newI ?_ | refine Ext.trans ?_ ‹Ext _ _›)))
local macro_rules | `(tactic| walk_at "rv") => `(tactic| (repeat (first | refine red ?_ | ((with_reducible apply k_var); rfl))))
/-! ### the law: mixed runs -/
section
variable {w : World} {K : PySem.W.Frag} {mg : Str → Option Value} {base : Heap}
def pMixP (n : Nat) (cond one other left : V) (H : Hp) (Q : VK) : Prop := ∃ c tb1 cl1 rw1 ad1 r1 tb2 cl2 rw2 ad2 r2 H0 lf l N, CA H0 c cond ∧ c.dep < n ∧ one = .ref tb1 ∧ TabS H0 tb1 cl1 rw1 (colsI 0 ad1) r1 ∧ AddsOk ad1 ∧
  other = .ref tb2 ∧ TabS H0 tb2 cl2 rw2 (colsI 0 ad2) r2 ∧ AddsOk ad2 ∧ left = .ref lf ∧ H0 lf = none ∧ Ext H0 H ∧ H lf = some (.lst [.int ((N : Nat) - (l.length : Nat) : Int)]) ∧
  ∀ H', Ext H0 H' → H' lf = some (.lst [.int ((N : Nat) - ((run (cntF (adF ad1 r1) (adF ad2 r2) N) c l).2.length : Nat) : Int)]) → Q (.str (run (cntF (adF ad1 r1) (adF ad2 r2) N) c l).1.s) H'
theorem mixp0 (T : Txt w K mg) : Cal PG w K mg base (3 + 1) "_law_mixed_part" (sp4 (pMixP 0)) := by
  obtain ⟨fd, F⟩ := T.d_law_mixed_part
  refine cal_mk F T.g_law_mixed_part sc_law_mixed_part (fun _ _ _ _ _ _ us hl => match us, hl with | [_, _, _, _], _ => rfl) fun cdv A outer s0 H vs Q E hr h => ?_
  obtain ⟨_, _, _, _, rfl, c, _, _, _, _, _, _, _, _, _, _, _, _, _, _, _, hd, _⟩ := h
  exact absurd hd (Nat.not_lt_zero _)
set_option maxHeartbeats 2000000 in
theorem mixpS (n : Nat) (T : Txt w K mg) (ih : Cal PG w K mg base (4 + n) "_law_mixed_part" (sp4 (pMixP n))) : Cal PG w K mg base (4 + n + 1) "_law_mixed_part" (sp4 (pMixP (n + 1))) := by
  obtain ⟨fd, F⟩ := T.d_law_mixed_part
  refine cal_mk F T.g_law_mixed_part sc_law_mixed_part (fun _ _ _ _ _ _ us hl => match us, hl with | [_, _, _, _], _ => rfl) fun cdv A outer s0 H vs Q E hr h => ?_
  clear F
  obtain ⟨cond, _, _, _, rfl, c, tb1, cl1, rw1, ad1, r1, tb2, cl2, rw2, ad2, r2, H0, lf, l, N, hc, hd, rfl, hT1, ok1, rfl, hT2, ok2, rfl, nl, eH, hlf, h⟩ := h
  have c_law_run := (ok_law_run (base := base) 1 T).mono (show 2 + 1 ≤ 4 + n by omega)
  have c_law_mixed_part := ih
  refine ⟨_, pss_cons (ps_set (i := 4) sc_law_mixed_part.nd rfl (by first | exact Or.inl rfl | exact Or.inr rfl) (pe_ix (ix_anyK (K := K) rfl) (pv 0) (pe_int) (fun _ _ => rfl)))
      (pss_cons (ps_if (pt_cmpR (op_notInK (K := K) rfl) (pv 4) (pe_lst (pa_cons (pe_str) (pa_cons (pe_str) (pa_cons (pe_str) pa_nil)))) (by rfl)) (pss_cons (ps_set (i := 5) sc_law_mixed_part.nd rfl (by first | exact Or.inl rfl | exact Or.inr rfl) (pe_ifExp (pt_cmpR op_gt (pe_ix (ix_anyK (K := K) rfl) (pv 3) (pe_int) (fun _ _ => rfl)) (pe_int) (nomark _)) (pv 1) (pv 2)))
      (pss_cons (ps_asg (pe_op op_sub (pe_ix (ix_anyK (K := K) rfl) (pv 3) (pe_int) (fun _ _ => rfl)) (pe_int)) (pg_sub (pv 3) (pe_int) set_list))
      (pss_one (ps_ret (pe_cl c_law_run hr (by first | decide | omega) rfl (pa_cons (pv 0) (pa_cons (pv 5) (pa_cons (pe_int) pa_nil)))))))) pss_nil)
      (pss_cons (ps_if (pt_cmpR op_eq (pv 4) (pe_str) (nomark _)) (pss_one (ps_ret (pe_dget (hu_of hr) (pe_disp (pps_cons (pe_str) (pe_str) (pps_cons (pe_str) (pe_str) (pps_cons (pe_str) (pe_str) pps_nil))) (by rfl) (by rfl) (fun z => by cases z) (by decide)) (pe_cl c_law_mixed_part hr (by first | decide | omega) rfl (pa_cons (pe_ix (ix_anyK (K := K) rfl) (pv 0) (pe_int) (fun _ _ => rfl)) (pa_cons (pv 1) (pa_cons (pv 2) (pa_cons (pv 3) pa_nil))))) (fun _ _ => rfl)))) pss_nil)
      (pss_cons (ps_for PassesOwn.never rfl (pi_seq (pe_ix (ix_anyK (K := K) rfl) (pv 0) (pe_int) (fun _ _ => rfl))) (pg_name (i := 6) sc_law_mixed_part.nd rfl (by first | exact Or.inl rfl | exact Or.inr rfl)) (pss_cons (ps_set (i := 7) sc_law_mixed_part.nd rfl (by first | exact Or.inl rfl | exact Or.inr rfl) (pe_cl c_law_mixed_part hr (by first | decide | omega) rfl (pa_cons (pv 6) (pa_cons (pv 1) (pa_cons (pv 2) (pa_cons (pv 3) pa_nil))))))
      (pss_one (ps_if (pt_cmpR op_ne (pv 7) (pe_ifExp (pt_cmpR op_eq (pv 4) (pe_str) (nomark _)) (pe_str) (pe_str)) (nomark _)) (pss_one (ps_ret (pv 7))) pss_nil))))
      (pss_one (ps_ret (pe_ifExp (pt_cmpR op_eq (pv 4) (pe_str) (nomark _)) (pe_str) (pe_str))))))), ?_⟩
  refine start_to (σ := [some _, some _, some _, some _, none, none, none, none]) rfl ?_
  try dsimp only [cxOf]
  have hF : ∀ i t, cntF (adF ad1 r1) (adF ad2 r2) N i t = if i < N then adF ad1 r1 t else adF ad2 r2 t := fun _ _ => rfl
  generalize hFF : cntF (adF ad1 r1) (adF ad2 r2) N = F at h hF
  cases c with
  | t q =>
    obtain ⟨a, rfl, ha'⟩ := hc
    have h' : ∀ {v : Ans} {H' : Hp}, Ext H0 H' → H' lf = some (.lst [.int ((N : Int) - ((l ++ [F l.length q]).length : Nat))]) → v = F l.length q → Q (.str v.s) H' := fun e hl hv => by rw [hv]; exact h _ e hl
    cases q with
    | row =>
      have : At H a (.tup [.str "row"]) := ⟨eH.at ha'⟩
      walk_at "go"
      rename_i L nL
      have eL : Ext H0 (upd H L (.lst [.str "not", .str "all", .str "any"])) := eH.trans ext_upd
      have hlL : upd H L (.lst [.str "not", .str "all", .str "any"]) lf = some (.lst [.int ((N : Int) - (l.length : Nat))]) := Ext.at ext_upd hlf
      generalize upd H L (.lst [.str "not", .str "all", .str "any"]) = H2 at eL hlL
      have : At H2 lf (.lst [.int ((N : Int) - (l.length : Nat))]) := ⟨hlL⟩
      walk_at "go"
      have e3 : Ext H0 (upd H2 lf (.lst [.int ((N : Int) - (l.length : Nat) - 1)])) := eL.mut nl
      by_cases hz : l.length < N
      · rw [decide_eq_true (show (0 : Int) < (N : Int) - (l.length : Nat) by omega)]
        walk_at "go"
        refine ⟨.t .row, tb1, cl1, rw1, ad1, r1, CA.mono e3 _ _ ⟨a, rfl, ha'⟩, Nat.zero_lt_one, rfl, hT1.mono e3, ok1, rfl, fun H4 e4 => ?_⟩
        refine h' (e3.trans e4) (e4.at (by rw [upd_same, show ((N : Int) - (l.length : Nat) - 1) = (N : Int) - ((l ++ [F l.length .row]).length : Nat) by rw [List.length_append]; show _ = (N : Int) - ((l.length + 1 : Nat) : Int); omega])) ?_
        rw [hF, if_pos hz]
        rfl
      · rw [decide_eq_false (show ¬ (0 : Int) < (N : Int) - (l.length : Nat) by omega)]
        walk_at "go"
        refine ⟨.t .row, tb2, cl2, rw2, ad2, r2, CA.mono e3 _ _ ⟨a, rfl, ha'⟩, Nat.zero_lt_one, rfl, hT2.mono e3, ok2, rfl, fun H4 e4 => ?_⟩
        refine h' (e3.trans e4) (e4.at (by rw [upd_same, show ((N : Int) - (l.length : Nat) - 1) = (N : Int) - ((l ++ [F l.length .row]).length : Nat) by rw [List.length_append]; show _ = (N : Int) - ((l.length + 1 : Nat) : Int); omega])) ?_
        rw [hF, if_neg hz]
        rfl
    | has x =>
      have : At H a (.tup [.str "has", .str x]) := ⟨eH.at ha'⟩
      walk_at "go"
      rename_i L nL
      have eL : Ext H0 (upd H L (.lst [.str "not", .str "all", .str "any"])) := eH.trans ext_upd
      have hlL : upd H L (.lst [.str "not", .str "all", .str "any"]) lf = some (.lst [.int ((N : Int) - (l.length : Nat))]) := Ext.at ext_upd hlf
      generalize upd H L (.lst [.str "not", .str "all", .str "any"]) = H2 at eL hlL
      have : At H2 lf (.lst [.int ((N : Int) - (l.length : Nat))]) := ⟨hlL⟩
      walk_at "go"
      have e3 : Ext H0 (upd H2 lf (.lst [.int ((N : Int) - (l.length : Nat) - 1)])) := eL.mut nl
      by_cases hz : l.length < N
      · rw [decide_eq_true (show (0 : Int) < (N : Int) - (l.length : Nat) by omega)]
        walk_at "go"
        refine ⟨.t (.has x), tb1, cl1, rw1, ad1, r1, CA.mono e3 _ _ ⟨a, rfl, ha'⟩, Nat.zero_lt_one, rfl, hT1.mono e3, ok1, rfl, fun H4 e4 => ?_⟩
        refine h' (e3.trans e4) (e4.at (by rw [upd_same, show ((N : Int) - (l.length : Nat) - 1) = (N : Int) - ((l ++ [F l.length (.has x)]).length : Nat) by rw [List.length_append]; show _ = (N : Int) - ((l.length + 1 : Nat) : Int); omega])) ?_
        rw [hF, if_pos hz]
        rfl
      · rw [decide_eq_false (show ¬ (0 : Int) < (N : Int) - (l.length : Nat) by omega)]
        walk_at "go"
        refine ⟨.t (.has x), tb2, cl2, rw2, ad2, r2, CA.mono e3 _ _ ⟨a, rfl, ha'⟩, Nat.zero_lt_one, rfl, hT2.mono e3, ok2, rfl, fun H4 e4 => ?_⟩
        refine h' (e3.trans e4) (e4.at (by rw [upd_same, show ((N : Int) - (l.length : Nat) - 1) = (N : Int) - ((l ++ [F l.length (.has x)]).length : Nat) by rw [List.length_append]; show _ = (N : Int) - ((l.length + 1 : Nat) : Int); omega])) ?_
        rw [hF, if_neg hz]
        rfl
    | eq x v =>
      have : At H a (.tup [.str "eq", .str x, .int v]) := ⟨eH.at ha'⟩
      walk_at "go"
      rename_i L nL
      have eL : Ext H0 (upd H L (.lst [.str "not", .str "all", .str "any"])) := eH.trans ext_upd
      have hlL : upd H L (.lst [.str "not", .str "all", .str "any"]) lf = some (.lst [.int ((N : Int) - (l.length : Nat))]) := Ext.at ext_upd hlf
      generalize upd H L (.lst [.str "not", .str "all", .str "any"]) = H2 at eL hlL
      have : At H2 lf (.lst [.int ((N : Int) - (l.length : Nat))]) := ⟨hlL⟩
      walk_at "go"
      have e3 : Ext H0 (upd H2 lf (.lst [.int ((N : Int) - (l.length : Nat) - 1)])) := eL.mut nl
      by_cases hz : l.length < N
      · rw [decide_eq_true (show (0 : Int) < (N : Int) - (l.length : Nat) by omega)]
        walk_at "go"
        refine ⟨.t (.eq x v), tb1, cl1, rw1, ad1, r1, CA.mono e3 _ _ ⟨a, rfl, ha'⟩, Nat.zero_lt_one, rfl, hT1.mono e3, ok1, rfl, fun H4 e4 => ?_⟩
        refine h' (e3.trans e4) (e4.at (by rw [upd_same, show ((N : Int) - (l.length : Nat) - 1) = (N : Int) - ((l ++ [F l.length (.eq x v)]).length : Nat) by rw [List.length_append]; show _ = (N : Int) - ((l.length + 1 : Nat) : Int); omega])) ?_
        rw [hF, if_pos hz]
        rfl
      · rw [decide_eq_false (show ¬ (0 : Int) < (N : Int) - (l.length : Nat) by omega)]
        walk_at "go"
        refine ⟨.t (.eq x v), tb2, cl2, rw2, ad2, r2, CA.mono e3 _ _ ⟨a, rfl, ha'⟩, Nat.zero_lt_one, rfl, hT2.mono e3, ok2, rfl, fun H4 e4 => ?_⟩
        refine h' (e3.trans e4) (e4.at (by rw [upd_same, show ((N : Int) - (l.length : Nat) - 1) = (N : Int) - ((l ++ [F l.length (.eq x v)]).length : Nat) by rw [List.length_append]; show _ = (N : Int) - ((l.length + 1 : Nat) : Int); omega])) ?_
        rw [hF, if_neg hz]
        rfl
    | less x v =>
      have : At H a (.tup [.str "less", .str x, .int v]) := ⟨eH.at ha'⟩
      walk_at "go"
      rename_i L nL
      have eL : Ext H0 (upd H L (.lst [.str "not", .str "all", .str "any"])) := eH.trans ext_upd
      have hlL : upd H L (.lst [.str "not", .str "all", .str "any"]) lf = some (.lst [.int ((N : Int) - (l.length : Nat))]) := Ext.at ext_upd hlf
      generalize upd H L (.lst [.str "not", .str "all", .str "any"]) = H2 at eL hlL
      have : At H2 lf (.lst [.int ((N : Int) - (l.length : Nat))]) := ⟨hlL⟩
      walk_at "go"
      have e3 : Ext H0 (upd H2 lf (.lst [.int ((N : Int) - (l.length : Nat) - 1)])) := eL.mut nl
      by_cases hz : l.length < N
      · rw [decide_eq_true (show (0 : Int) < (N : Int) - (l.length : Nat) by omega)]
        walk_at "go"
        refine ⟨.t (.less x v), tb1, cl1, rw1, ad1, r1, CA.mono e3 _ _ ⟨a, rfl, ha'⟩, Nat.zero_lt_one, rfl, hT1.mono e3, ok1, rfl, fun H4 e4 => ?_⟩
        refine h' (e3.trans e4) (e4.at (by rw [upd_same, show ((N : Int) - (l.length : Nat) - 1) = (N : Int) - ((l ++ [F l.length (.less x v)]).length : Nat) by rw [List.length_append]; show _ = (N : Int) - ((l.length + 1 : Nat) : Int); omega])) ?_
        rw [hF, if_pos hz]
        rfl
      · rw [decide_eq_false (show ¬ (0 : Int) < (N : Int) - (l.length : Nat) by omega)]
        walk_at "go"
        refine ⟨.t (.less x v), tb2, cl2, rw2, ad2, r2, CA.mono e3 _ _ ⟨a, rfl, ha'⟩, Nat.zero_lt_one, rfl, hT2.mono e3, ok2, rfl, fun H4 e4 => ?_⟩
        refine h' (e3.trans e4) (e4.at (by rw [upd_same, show ((N : Int) - (l.length : Nat) - 1) = (N : Int) - ((l ++ [F l.length (.less x v)]).length : Nat) by rw [List.length_append]; show _ = (N : Int) - ((l.length + 1 : Nat) : Int); omega])) ?_
        rw [hF, if_neg hz]
        rfl
  | not c2 =>
    obtain ⟨a, b, rfl, ha', hb⟩ := hc
    have : At H a (.tup [.str "not", b]) := ⟨eH.at ha'⟩
    walk_at "go"
    rename_i L nL
    have eL : Ext H0 (upd H L (.lst [.str "not", .str "all", .str "any"])) := eH.trans ext_upd
    have hlL : upd H L (.lst [.str "not", .str "all", .str "any"]) lf = some (.lst [.int ((N : Int) - (l.length : Nat))]) := Ext.at ext_upd hlf
    generalize upd H L (.lst [.str "not", .str "all", .str "any"]) = H2 at eL hlL
    have : At H2 a (.tup [.str "not", b]) := ⟨eL.at ha'⟩
    walk_at "go"
    intro tp ntp
    walk_at "go"
    refine ⟨upd_same, turnK, rfl, by show 3 ≤ 15; decide, ?_⟩
    rw [mergeK_nodup (by show [(.inr "yes" : Key), .inr "no", .inr "fault"].Nodup; decide +kernel), List.nil_append, updd]
    have eT : Ext H2 (upd H2 tp (.dK turnK)) := ext_upd
    have ntp0 : H0 tp = none := eL.back ntp.h
    have hTp : upd H2 tp (.dK turnK) tp = some (.dK turnK) := upd_same
    generalize upd H2 tp (.dK turnK) = H3 at eT hTp
    have e3 : Ext H0 H3 := eL.trans eT
    have : At H3 a (.tup [.str "not", b]) := ⟨e3.at ha'⟩
    have hlt : lf ≠ tp := ne_of_at (eT.at hlL) hTp fun z => nomatch z
    have hTH : Hid lf H3 tp = some (.dK turnK) := Hid.at hTp hlt.symm
    walk_at "go"
    have eH3 : Ext H0 (Hid lf H3) := ext_hidn e3 nl
    refine ⟨c2, tb1, cl1, rw1, ad1, r1, tb2, cl2, rw2, ad2, r2, Hid lf H3, lf, l, N, CA.mono eH3 _ _ hb, by have h9 : c2.dep + 1 < n + 1 := hd; omega, rfl, hT1.mono eH3, ok1, rfl, hT2.mono eH3, ok2, rfl, by unfold Hid; rw [if_pos rfl], Hid.sub lf H3, eT.at hlL, fun H4 e4 hl4 => ?_⟩
    rw [hFF] at hl4 ⊢
    have : At H4 tp (.dK turnK) := ⟨e4.at hTH⟩
    have : DVal turnK (.str (run F c2 l).1.s) (some (.str (run F c2 l).1.neg.s)) := ⟨_, rfl, turn_val⟩
    walk_at "go"
    exact h H4 (eH3.trans e4) hl4
  | seq wb cs =>
    obtain ⟨a, p, vs, rfl, ha', hp, hvs⟩ := hc
    have hP := hvs.each
    have hpl := Paired.length hP
    cases wb with
    | true =>
      have : At H a (.tup [.str "all", .ref p]) := ⟨eH.at ha'⟩
      walk_at "go"
      rename_i L nL
      have eL : Ext H0 (upd H L (.lst [.str "not", .str "all", .str "any"])) := eH.trans ext_upd
      have hlL : upd H L (.lst [.str "not", .str "all", .str "any"]) lf = some (.lst [.int ((N : Int) - (l.length : Nat))]) := Ext.at ext_upd hlf
      generalize upd H L (.lst [.str "not", .str "all", .str "any"]) = H2 at eL hlL
      have : At H2 a (.tup [.str "all", .ref p]) := ⟨eL.at ha'⟩
      have : At H2 p (.tup vs) := ⟨eL.at hp⟩
      walk_at "go"
      refine for_go (fun j σ' H' => (∃ x y, σ' = [some (.ref a), some (.ref tb1), some (.ref tb2), some (.ref lf), some (.str "all"), none, x, y]) ∧ Ext H0 H' ∧ ∃ l' : List Ans, H' lf = some (.lst [.int ((N : Int) - (l'.length : Nat))]) ∧ runL F true cs l = runL F true (cs.drop j) l') ⟨⟨none, none, rfl⟩, eL, l, hlL, rfl⟩ (fun j σ' H' _ q => sub_at (eL.at hp) (q.2.1.at hp)) ?_ ?_
      · rintro j x σ' H3 H4 hj ⟨⟨x0, y0, rfl⟩, e3, l', hl', hrun⟩ ⟨rfl, hx⟩
        obtain ⟨d, hdj, hdc⟩ := getP hP hx
        walk_at "go"
        refine ⟨d, tb1, cl1, rw1, ad1, r1, tb2, cl2, rw2, ad2, r2, H0, lf, l', N, hdc, by have h9 : depL cs + 1 < n + 1 := hd; have := depL_get hdj; omega, rfl, hT1, ok1, rfl, hT2, ok2, rfl, nl, e3, hl', fun H5 e5 hl5 => ?_⟩
        rw [hFF] at hl5 ⊢
        walk_at "go"
        have hdrop : cs.drop j = d :: cs.drop (j + 1) := by
          have hjl := (List.getElem?_eq_some_iff.mp hdj).1
          rw [List.drop_eq_getElem_cons hjl, (List.getElem?_eq_some_iff.mp hdj).2]
        have hr2 : runL F true cs l = if (run F d l').1 = cont true then runL F true (cs.drop (j + 1)) (run F d l').2 else run F d l' := by rw [hrun, hdrop]; rfl
        by_cases hz : (run F d l').1 = cont true
        · rw [decide_eq_true (show (run F d l').1 = Ans.yes from hz)]
          walk_at "go"
          exact ⟨⟨_, _, rfl⟩, e5, (run F d l').2, hl5, by rw [hr2, if_pos hz]⟩
        · rw [decide_eq_false (show ¬ (run F d l').1 = Ans.yes from hz)]
          walk_at "go"
          rw [if_neg hz] at hr2
          have := h H5 e5
          rw [show run F (.seq true cs) l = run F d l' from hr2] at this
          exact this hl5
      · rintro σ' H3 ⟨⟨x0, y0, rfl⟩, e3, l', hl', hrun⟩
        walk_at "go"
        rw [List.drop_of_length_le (by omega)] at hrun
        have := h H3 e3
        rw [show run F (.seq true cs) l = (cont true, l') from hrun] at this
        exact this hl'
    | false =>
      have : At H a (.tup [.str "any", .ref p]) := ⟨eH.at ha'⟩
      walk_at "go"
      rename_i L nL
      have eL : Ext H0 (upd H L (.lst [.str "not", .str "all", .str "any"])) := eH.trans ext_upd
      have hlL : upd H L (.lst [.str "not", .str "all", .str "any"]) lf = some (.lst [.int ((N : Int) - (l.length : Nat))]) := Ext.at ext_upd hlf
      generalize upd H L (.lst [.str "not", .str "all", .str "any"]) = H2 at eL hlL
      have : At H2 a (.tup [.str "any", .ref p]) := ⟨eL.at ha'⟩
      have : At H2 p (.tup vs) := ⟨eL.at hp⟩
      walk_at "go"
      refine for_go (fun j σ' H' => (∃ x y, σ' = [some (.ref a), some (.ref tb1), some (.ref tb2), some (.ref lf), some (.str "any"), none, x, y]) ∧ Ext H0 H' ∧ ∃ l' : List Ans, H' lf = some (.lst [.int ((N : Int) - (l'.length : Nat))]) ∧ runL F false cs l = runL F false (cs.drop j) l') ⟨⟨none, none, rfl⟩, eL, l, hlL, rfl⟩ (fun j σ' H' _ q => sub_at (eL.at hp) (q.2.1.at hp)) ?_ ?_
      · rintro j x σ' H3 H4 hj ⟨⟨x0, y0, rfl⟩, e3, l', hl', hrun⟩ ⟨rfl, hx⟩
        obtain ⟨d, hdj, hdc⟩ := getP hP hx
        walk_at "go"
        refine ⟨d, tb1, cl1, rw1, ad1, r1, tb2, cl2, rw2, ad2, r2, H0, lf, l', N, hdc, by have h9 : depL cs + 1 < n + 1 := hd; have := depL_get hdj; omega, rfl, hT1, ok1, rfl, hT2, ok2, rfl, nl, e3, hl', fun H5 e5 hl5 => ?_⟩
        rw [hFF] at hl5 ⊢
        walk_at "go"
        have hdrop : cs.drop j = d :: cs.drop (j + 1) := by
          have hjl := (List.getElem?_eq_some_iff.mp hdj).1
          rw [List.drop_eq_getElem_cons hjl, (List.getElem?_eq_some_iff.mp hdj).2]
        have hr2 : runL F false cs l = if (run F d l').1 = cont false then runL F false (cs.drop (j + 1)) (run F d l').2 else run F d l' := by rw [hrun, hdrop]; rfl
        by_cases hz : (run F d l').1 = cont false
        · rw [decide_eq_true (show (run F d l').1 = Ans.no from hz)]
          walk_at "go"
          exact ⟨⟨_, _, rfl⟩, e5, (run F d l').2, hl5, by rw [hr2, if_pos hz]⟩
        · rw [decide_eq_false (show ¬ (run F d l').1 = Ans.no from hz)]
          walk_at "go"
          rw [if_neg hz] at hr2
          have := h H5 e5
          rw [show run F (.seq false cs) l = run F d l' from hr2] at this
          exact this hl5
      · rintro σ' H3 ⟨⟨x0, y0, rfl⟩, e3, l', hl', hrun⟩
        walk_at "go"
        rw [List.drop_of_length_le (by omega)] at hrun
        have := h H3 e3
        rw [show run F (.seq false cs) l = (cont false, l') from hrun] at this
        exact this hl'
theorem ok_law_mixed_part (n : Nat) (T : Txt w K mg) : Cal PG w K mg base (4 + n) "_law_mixed_part" (sp4 (pMixP n)) := by
  induction n with
  | zero => exact mixp0 T
  | succ n ih => exact mixpS n T ih
end

end PB
namespace PB
open PySem PySem.Spec PyProof.Rows L2
local macro_rules | `(tactic| walk_at "rd") => `(tactic| (repeat refine red ?_))
local macro_rules | `(tactic| walk_at "go") => `(tactic| (repeat (first | refine red ?_ | ((with_reducible apply k_var); rfl) | refine k_new fun _ _ => ?_ | refine wp_and rfl ?_ | refine if_redT rfl ?_ | refine if_redF rfl ?_)))
local macro_rules | `(tactic| walk_at "ga") => `(tactic| (repeat (first | refine red ?_ | ((with_reducible apply k_var); rfl) | ((with_reducible apply k_aug); rfl) | refine k_new fun _ _ => ?_ | refine wp_and rfl ?_ | refine if_redT rfl ?_ | refine if_redF rfl ?_)))
local macro_rules | `(tactic| walk_at "gq") => `(tactic| (repeat ((fail_if_success (with_reducible refine seq_stop ?_)); (first | refine red ?_ | ((with_reducible apply k_var); rfl) | refine k_new fun _ _ => ?_ | refine wp_and rfl ?_ | refine if_redT rfl ?_ | refine if_redF rfl ?_))))
local macro_rules | `(tactic| walk_at "ext") => `(tactic| (repeat (first | assumption | exact Ext.refl _ | refine Ext.newI ?_ | refine Ext.trans ?_ ‹Ext _ _›)))
local macro_rules | `(tactic| walk_at "rv") => `(tactic| (repeat (first | refine red ?_ | ((with_reducible apply k_var); rfl))))
/-! ### the law: the first two that are parted -/
/-- the table of a picture -/
def TabP (cs : Cuts) (H : Hp) (v : V) (p : Pict) : Prop := ∃ tb cl rw, v = .ref tb ∧ TabS H tb cl rw (colsI 0 (addsOf cs p)) p.row
theorem TabP.mono {cs : Cuts} {H H' : Hp} {v : V} {p : Pict} (e : Ext H H') (h : TabP cs H v p) : TabP cs H' v p := by
  obtain ⟨tb, cl, rw, h1, h2⟩ := h
  exact ⟨tb, cl, rw, h1, h2.mono e⟩
section
variable {w : World} {K : PySem.W.Frag} {mg : Str → Option Value} {base : Heap}
def pMixR (cond one other count : V) (H : Hp) (Q : VK) : Prop := ∃ c p q N, CA H c cond ∧ Good c ∧ TabP (cutsOf c.ts) H one p ∧ TabP (cutsOf c.ts) H other q ∧ PictOk (cutsOf c.ts) p ∧ PictOk (cutsOf c.ts) q ∧ count = .int (N : Nat) ∧ ∀ H', Ext H H' → Q (.str (mixed (cutsOf c.ts) c p q N).s) H'
theorem ok_law_mixed_run  (T : Txt w K mg) : Cal PG w K mg base (8 + 1) "_law_mixed_run" (sp4 pMixR) := by
  obtain ⟨fd, F⟩ := T.d_law_mixed_run
  refine cal_mk F T.g_law_mixed_run sc_law_mixed_run (fun _ _ _ _ _ _ us hl => match us, hl with | [_, _, _, _], _ => rfl) fun cdv A outer s0 H vs Q E hr h => ?_
  obtain ⟨_, _, _, _, rfl, c, p, q, N, hc, good, ⟨tb1, cl1, rw1, rfl, hT1⟩, ⟨tb2, cl2, rw2, rfl, hT2⟩, okp, okq, rfl, h⟩ := h
  have c_law_mixed_part := ok_law_mixed_part (base := base) 4 T
  have cok := cutsOf_ok (ts_ok good.1)
  refine ⟨_, pss_one (ps_ret (pe_cl c_law_mixed_part hr (by first | decide | omega) rfl (pa_cons (pv 0) (pa_cons (pv 1) (pa_cons (pv 2) (pa_cons (pe_lst (pa_cons (pv 3) pa_nil)) pa_nil)))))), ?_⟩
  refine start_to (σ := [some _, some _, some _, some _]) rfl ?_
  try dsimp only [cxOf]
  walk_at "go"
  rename_i L nL
  refine ⟨c, tb1, cl1, rw1, _, _, tb2, cl2, rw2, _, _, H, L, [], N, hc, by have := good.2.1; omega, rfl, hT1, addsOf_ok cok okp, rfl, hT2, addsOf_ok cok okq, rfl, nL.h, ext_upd, by rw [upd_same]; congr 3, fun H2 e2 hl2 => ?_⟩
  rw [run_tab good okp okq]
  exact h H2 e2
/-- a condition at a picture's table -/
theorem run_pic {cond one : V} {H : Hp} {Q : VK} {c : Cond} {p : Pict} (hc : CA H c cond) (good : Good c) (ht : TabP (cutsOf c.ts) H one p) (okp : PictOk (cutsOf c.ts) p) (h : ∀ H', Ext H H' → Q (.str (outOf (cutsOf c.ts) c p).s) H') : pRunL 4 cond one (.int 0) H Q := by
  obtain ⟨tb, cl, rw, rfl, hT⟩ := ht
  refine ⟨c, tb, cl, rw, _, _, hc, by have := good.2.1; omega, rfl, hT, addsOf_ok (cutsOf_ok (ts_ok good.1)) okp, rfl, fun H2 e2 => ?_⟩
  rw [← run_ev (adF (addsOf (cutsOf c.ts) p) p.row) c [], run_tab1 good okp]
  exact h H2 e2
def pFirst (cond some_ tables many : V) (H : Hp) (Q : VK) : Prop := ∃ (c : Cond) (ps : List Pict) (sl tl : Addr) (svs tvs : List V) (m : Nat), CA H c cond ∧ Good c ∧ some_ = .ref sl ∧ H sl = some (.lst svs) ∧ Each PictR H svs ps ∧ tables = .ref tl ∧ H tl = some (.lst tvs) ∧ Each (TabP (cutsOf c.ts)) H tvs ps ∧ (∀ p, p ∈ ps → PictOk (cutsOf c.ts) p) ∧ ps.length ≤ 5000 ∧ many = .int (m : Nat) ∧ m ≤ 10 ∧
  (findN (cutsOf c.ts) c ps (List.range' 1 m) = none → ∀ H', Ext H H' → Q .non H') ∧ ∀ p q n, findN (cutsOf c.ts) c ps (List.range' 1 m) = some (p, q, n) → ∀ t u v H', Ext H H' → H' t = some (.tup [u, v, .int (n : Nat)]) → PictR H' u p → PictR H' v q → Q (.ref t) H'
theorem ok_law_first_parted  (T : Txt w K mg) : Cal PG w K mg base (9 + 1) "_law_first_parted" (sp4 pFirst) := by
  obtain ⟨fd, F⟩ := T.d_law_first_parted
  refine cal_mk F T.g_law_first_parted sc_law_first_parted (fun _ _ _ _ _ _ us hl => match us, hl with | [_, _, _, _], _ => rfl) fun cdv A outer s0 H vs Q E hr h => ?_
  obtain ⟨cond, _, _, _, rfl, c, ps, sl, tl, svs, tvs, m, hc, good, rfl, hs, hE, rfl, ht, hT, okall, hpl, rfl, hm, hN, hS⟩ := h
  have c_law_mixed_run := ok_law_mixed_run (base := base) T
  have c_law_run := (ok_law_run (base := base) 4 T).mono (show 2 + 4 ≤ 9 by omega)
  have hlen := hT.len
  have hslen := hE.len
  have : At H tl (.lst tvs) := ⟨ht⟩
  have : At H sl (.lst svs) := ⟨hs⟩
  refine ⟨_, pss_cons (ps_for PassesOwn.never rfl (pi_range2 (by rfl) T.f_range (pa_cons (pe_int) (pa_cons (pe_op op_add (pv 3) (pe_int)) pa_nil))) (pg_name (i := 4) sc_law_first_parted.nd rfl (by first | exact Or.inl rfl | exact Or.inr rfl)) (pss_one (ps_for PassesOwn.never rfl (pi_enum (by rfl) T.f_enumerate (pa_cons (pv 2) pa_nil)) (pg_tupK (K := K) (n := 2) rfl rfl (pgs_cons (pg_name (i := 5) sc_law_first_parted.nd rfl (by first | exact Or.inl rfl | exact Or.inr rfl)) (pgs_cons (pg_name (i := 6) sc_law_first_parted.nd rfl (by first | exact Or.inl rfl | exact Or.inr rfl)) pgs_nil))) (pss_one (ps_for PassesOwn.never rfl (pi_enum (by rfl) T.f_enumerate (pa_cons (pv 2) pa_nil)) (pg_tupK (K := K) (n := 2) rfl rfl (pgs_cons (pg_name (i := 7) sc_law_first_parted.nd rfl (by first | exact Or.inl rfl | exact Or.inr rfl)) (pgs_cons (pg_name (i := 8) sc_law_first_parted.nd rfl (by first | exact Or.inl rfl | exact Or.inr rfl)) pgs_nil))) (pss_cons (ps_set (i := 9) sc_law_first_parted.nd rfl (by first | exact Or.inl rfl | exact Or.inr rfl) (pe_cl c_law_mixed_run hr (by first | decide | omega) rfl (pa_cons (pv 0) (pa_cons (pv 6) (pa_cons (pv 8) (pa_cons (pv 4) pa_nil))))))
      (pss_one (ps_if (pt_cmpR (op_notInK (K := K) rfl) (pv 9) (pe_lst (pa_cons (pe_cl c_law_run hr (by first | decide | omega) rfl (pa_cons (pv 0) (pa_cons (pv 6) (pa_cons (pe_int) pa_nil)))) (pa_cons (pe_cl c_law_run hr (by first | decide | omega) rfl (pa_cons (pv 0) (pa_cons (pv 8) (pa_cons (pe_int) pa_nil)))) pa_nil))) (by rfl)) (pss_one (ps_ret (pe_tup (pa_cons (pe_ix (ix_anyK (K := K) rfl) (pv 1) (pv 5) (fun _ _ => rfl)) (pa_cons (pe_ix (ix_anyK (K := K) rfl) (pv 1) (pv 7) (fun _ _ => rfl)) (pa_cons (pv 4) pa_nil)))))) pss_nil))))))))
      (pss_one (ps_ret (pe_non))), ?_⟩
  refine start_to (σ := [some _, some _, some _, some _, none, none, none, none, none, none]) rfl ?_
  try dsimp only [cxOf]
  walk_at "go"
  refine ⟨by omega, ?_⟩
  refine for_goT (fun j σ' H' => (∃ x1 x2 x3 x4 x5 x6, σ' = [some cond, some (.ref sl), some (.ref tl), some (.int (m : Nat)), x1, x2, x3, x4, x5, x6]) ∧ Ext H H' ∧ ∀ i : Nat, i < j → findP (cutsOf c.ts) c (1 + i) ps ps = none) ⟨⟨_, _, _, _, _, _, rfl⟩, Ext.refl _, fun i z => absurd z (Nat.not_lt_zero i)⟩ ?_ ?_
  · rintro j x σ' H1 H2 hj ⟨⟨x1, x2, x3, x4, x5, x6, rfl⟩, e1, hno⟩ ⟨rfl, rfl⟩
    have hjm : j < m := by omega
    walk_at "go"
    refine for_go (fun i σ' H' => (∃ x2 x3 x4 x5 x6, σ' = [some cond, some (.ref sl), some (.ref tl), some (.int (m : Nat)), some (.int (1 + (j : Nat))), x2, x3, x4, x5, x6]) ∧ Ext H H' ∧ ∀ (a : Nat) (p : Pict), a < i → ps[a]? = some p → findQ (cutsOf c.ts) c p (1 + j) ps = none) ⟨⟨_, _, _, _, _, rfl⟩, e1, fun a p z => absurd z (Nat.not_lt_zero a)⟩ (fun j σ' H' _ q => sub_at (e1.at ht) (q.2.1.at ht)) ?_ ?_
    · rintro i x σ' H3 H4 hi ⟨⟨y2, y3, y4, y5, y6, rfl⟩, e3, hnoP⟩ ⟨T1, one, rfl, nT1, rfl, hone⟩
      obtain ⟨p, hp, htp⟩ := hT.get hone
      walk_at "go"
      have e4 : Ext H (upd H3 T1 (.tup [.int (i : Nat), one])) := e3.trans ext_upd
      generalize upd H3 T1 (.tup [.int (i : Nat), one]) = H4 at e4
      have : At H4 tl (.lst tvs) := ⟨e4.at ht⟩
      walk_at "go"
      refine for_go (fun k σ' H' => (∃ x4 x5 x6, σ' = [some cond, some (.ref sl), some (.ref tl), some (.int (m : Nat)), some (.int (1 + (j : Nat))), some (.int (i : Nat)), some one, x4, x5, x6]) ∧ Ext H H' ∧ ∀ (a : Nat) (q : Pict), a < k → ps[a]? = some q → ¬ isParted (cutsOf c.ts) c p q (1 + j)) ⟨⟨_, _, _, rfl⟩, e4, fun a p z => absurd z (Nat.not_lt_zero a)⟩ (fun j σ' H' _ q => sub_at (e4.at ht) (q.2.1.at ht)) ?_ ?_
      · rintro k x σ' H5 H6 hk ⟨⟨z4, z5, z6, rfl⟩, e5, hnoQ⟩ ⟨T2, other, rfl, nT2, rfl, hother⟩
        obtain ⟨q, hq, htq⟩ := hT.get hother
        have okp := okall p (List.mem_of_getElem? hp)
        have okq := okall q (List.mem_of_getElem? hq)
        walk_at "go"
        have e6 : Ext H (upd H5 T2 (.tup [.int (k : Nat), other])) := e5.trans ext_upd
        generalize upd H5 T2 (.tup [.int (k : Nat), other]) = H6 at e6
        refine ⟨c, p, q, 1 + j, CA.mono e6 c _ hc, good, htp.mono e6, htq.mono e6, okp, okq, congrArg V.int (by omega), fun H7 e7 => ?_⟩
        have e07 := e6.trans e7
        walk_at "go"
        refine run_pic (CA.mono e07 c _ hc) good (htp.mono e07) okp fun H8 e8 => ?_
        have e08 := e07.trans e8
        walk_at "go"
        refine run_pic (CA.mono e08 c _ hc) good (htq.mono e08) okq fun H9 e9 => ?_
        have e09 := e08.trans e9
        walk_at "go"
        rename_i L nL
        rw [← not_parted2]
        have eL : Ext H (upd H9 L (.lst [.str (outOf (cutsOf c.ts) c p).s, .str (outOf (cutsOf c.ts) c q).s])) := e09.trans ext_upd
        generalize upd H9 L (.lst [.str (outOf (cutsOf c.ts) c p).s, .str (outOf (cutsOf c.ts) c q).s]) = H10 at eL
        by_cases hz : isParted (cutsOf c.ts) c p q (1 + j)
        · rw [decide_eq_true (show mixed (cutsOf c.ts) c p q (1 + j) ≠ outOf (cutsOf c.ts) c p ∧ mixed (cutsOf c.ts) c p q (1 + j) ≠ outOf (cutsOf c.ts) c q from hz)]
          have : At H10 sl (.lst svs) := ⟨eL.at hs⟩
          obtain ⟨u, hu, hpu⟩ := hE.getD hp
          obtain ⟨v, hv, hqv⟩ := hE.getD hq
          have : Nth svs ((i : Nat) : Int) u := nth_nat hu
          have : Nth svs ((k : Nat) : Int) v := nth_nat hv
          walk_at "go"
          rename_i t nt
          have et : Ext H (upd H10 t (.tup [u, v, .int (1 + (j : Nat))])) := eL.trans ext_upd
          have hfQ : findQ (cutsOf c.ts) c p (1 + j) ps = some q := find_at hq (decide_eq_true hz) fun a y ha hy => decide_eq_false (hnoQ a y ha hy)
          have hfP : findP (cutsOf c.ts) c (1 + j) ps ps = some (p, q) := findSome_at hp (by rw [hfQ]; rfl) fun a z ha hz => by rw [hnoP a z ha hz]; rfl
          refine hS p q (1 + j) ?_ t u v _ et (by rw [upd_same]; congr 4) (hpu.mono et) (hqv.mono et)
          unfold findN
          refine findSome_at (m := j) (x := 1 + j) ?_ (by rw [hfP]; rfl) fun a n ha hn => ?_
          · rw [List.getElem?_range' (by omega), Nat.one_mul]
          · rw [List.getElem?_range' (by omega), Nat.one_mul] at hn
            cases hn
            rw [hno a ha]
            rfl
        · rw [decide_eq_false (show ¬ (mixed (cutsOf c.ts) c p q (1 + j) ≠ outOf (cutsOf c.ts) c p ∧ mixed (cutsOf c.ts) c p q (1 + j) ≠ outOf (cutsOf c.ts) c q) from hz)]
          walk_at "go"
          refine ⟨⟨_, _, _, rfl⟩, eL, fun a q' ha hq' => ?_⟩
          by_cases z : a = k
          · subst z
            rw [hq] at hq'
            cases hq'
            exact hz
          · exact hnoQ a q' (by omega) hq'
      · rintro σ' H5 ⟨⟨z4, z5, z6, rfl⟩, e5, hnoQ⟩
        walk_at "go"
        refine ⟨⟨_, _, _, _, _, rfl⟩, e5, fun a p' ha hp' => ?_⟩
        by_cases z : a = i
        · subst z
          rw [hp] at hp'
          cases hp'
          unfold findQ
          rw [List.find?_eq_none]
          intro q hq hz
          rw [decide_eq_true_iff] at hz
          obtain ⟨b, hb, hbq⟩ := List.getElem_of_mem hq
          exact hnoQ b q (by omega) (by rw [List.getElem?_eq_getElem hb, hbq]) hz
        · exact hnoP a p' (by omega) hp'
    · rintro σ' H3 ⟨⟨y2, y3, y4, y5, y6, rfl⟩, e3, hnoP⟩
      walk_at "go"
      refine ⟨⟨_, _, _, _, _, _, rfl⟩, e3, fun i hi => ?_⟩
      by_cases z : i = j
      · subst z
        unfold findP
        rw [List.findSome?_eq_none_iff]
        intro p hp
        obtain ⟨b, hb, hbq⟩ := List.getElem_of_mem hp
        rw [hnoP b p (by omega) (by rw [List.getElem?_eq_getElem hb, hbq])]
        rfl
      · exact hno i (by omega)
  · rintro σ' H1 ⟨⟨x1, x2, x3, x4, x5, x6, rfl⟩, e1, hno⟩
    walk_at "go"
    refine hN ?_ H1 e1
    unfold findN
    rw [List.findSome?_eq_none_iff]
    intro n hn
    rw [List.mem_range'_1] at hn
    have := hno (n - 1) (by omega)
    rw [show 1 + (n - 1) = n by omega] at this
    rw [this]
    rfl
end

end PB
namespace PB
open PySem PySem.Spec PyProof.Rows L2
local macro_rules | `(tactic| walk_at "rd") => `(tactic| (repeat refine red ?_))
local macro_rules | `(tactic| walk_at "go") => `(tactic| (repeat (first | refine red ?_ | ((with_reducible apply k_var); rfl) | refine k_new fun _ _ => ?_ | refine wp_and rfl ?_ | refine if_redT rfl ?_ | refine if_redF rfl ?_)))
local macro_rules | `(tactic| walk_at "ga") => `(tactic| (repeat (first | refine red ?_ | ((with_reducible apply k_var); rfl) | ((with_reducible apply k_aug); rfl) | refine k_new fun _ _ => ?_ | refine wp_and rfl ?_ | refine if_redT rfl ?_ | refine if_redF rfl ?_)))
local macro_rules | `(tactic| walk_at "gq") => `(tactic| (repeat ((fail_if_success (with_reducible refine seq_stop ?_)); (first | refine red ?_ | ((with_reducible apply k_var); rfl) | refine k_new fun _ _ => ?_ | refine wp_and rfl ?_ | refine if_redT rfl ?_ | refine if_redF rfl ?_))))
local macro_rules | `(tactic| walk_at "ext") => `(tactic| (repeat (first | assumption | exact Ext.refl _ | refine Ext.newI ?_ | refine Ext.trans ?_ ‹Ext _ _›)))
local macro_rules | `(tactic| walk_at "rv") => `(tactic| (repeat (first | refine red ?_ | ((with_reducible apply k_var); rfl))))
/-! ### the law -/
theorem refs_nepool {R : Hp → V → Pict → Prop} {H : Hp} {vs : List V} {ps : List Pict} {pn : Addr} {k : Int} (hr : ∀ v p, R H v p → ∃ a, v = .ref a) (h : Each R H vs ps) : HO.lst vs ≠ .lst [.ref pn, .int k] := fun z => by
  injection z with z
  subst z
  cases h with
  | cons _ t =>
    cases t with
    | cons h2 _ =>
      obtain ⟨_, e⟩ := hr _ _ h2
      cases e
theorem TabS.hidL {H : Hp} {tb cl rw D : Addr} {cols : List Col} {row : Bool} {acc : List V} (h : TabS H tb cl rw cols row) (hD : H D = some (.lst acc)) (hcl : cl ≠ D) (hacc : ∀ m x v, acc ≠ [.int m, .str x, .int v]) : TabS (Hid D H) tb cl rw cols row := by
  obtain ⟨h1, ⟨cvs, h2, h3⟩, h4⟩ := h
  refine ⟨Hid.at h1 (ne_of_at h1 hD fun z => nomatch z), ⟨cvs, Hid.at h2 hcl, h3.mono fun v c hc => ?_⟩, ?_⟩
  · obtain ⟨a, rfl, ha⟩ := hc
    exact ⟨a, rfl, Hid.at ha (ne_of_at ha hD fun z => by injection z with z; exact hacc _ _ _ z.symm)⟩
  · cases row with
    | false => exact Hid.at h4 (ne_of_at h4 hD fun z => nomatch z)
    | true =>
      obtain ⟨q, a, b⟩ := h4
      exact ⟨q, Hid.at a (ne_of_at a hD fun z => nomatch z), Hid.at b (ne_of_at b hD fun z => nomatch z)⟩
theorem PictR.hidL {H : Hp} {v : V} {p : Pict} {D : Addr} {xs : List V} (h : PictR H v p) (hD : H D = some (.lst xs)) : PictR (Hid D H) v p := by
  obtain ⟨a, b, e, ha, hb⟩ := h
  exact ⟨a, b, e, Hid.at ha (ne_of_at ha hD fun z => nomatch z), Hid.at hb (ne_of_at hb hD fun z => nomatch z)⟩
/-- what the law holds of a condition: its pictures, their tables -/
structure LF (c : Cond) (cv : V) (sl tl : Addr) (svs tvs : List V) (B : Hp) : Prop where
  hc : CA B c cv
  hsl : B sl = some (.lst svs)
  hE : Each PictR B svs (picsOf (cutsOf c.ts))
  htl : B tl = some (.lst tvs)
  hT : Each (TabP (cutsOf c.ts)) B tvs (picsOf (cutsOf c.ts))
theorem LF.mono {c : Cond} {cv : V} {sl tl : Addr} {svs tvs : List V} {B B' : Hp} (e : Ext B B') (h : LF c cv sl tl svs tvs B) : LF c cv sl tl svs tvs B' :=
  ⟨CA.mono e c cv h.hc, e.at h.hsl, h.hE.mono fun v p => PictR.mono e, e.at h.htl, h.hT.mono fun v p => TabP.mono e⟩
/-- what is due -/
def lawDue (c : Cond) : Option (Pict × Pict × Nat) := findN (cutsOf c.ts) c (picsOf (cutsOf c.ts)) (List.range' 1 c.ts.length)
def DueR (c : Cond) (v : V) : Prop := (lawDue c = none ∧ v = .non) ∨ ∃ r t, lawDue c = some r ∧ v = .ref t
theorem kLim (L : Nat) : 1 ≤ (if (if (3 : Int) < (L : Int) then 3 else (L : Int)) > 1 then (if (3 : Int) < (L : Int) then 3 else (L : Int)) else 1) ∧ (if (if (3 : Int) < (L : Int) then 3 else (L : Int)) > 1 then (if (3 : Int) < (L : Int) then 3 else (L : Int)) else 1) ≤ 3 ∧
    (1 ≤ L → (if (if (3 : Int) < (L : Int) then 3 else (L : Int)) > 1 then (if (3 : Int) < (L : Int) then 3 else (L : Int)) else 1) ≤ (L : Int)) := by
  by_cases h : (3 : Int) < (L : Int)
  · rw [if_pos h, if_pos (by omega)]; omega
  · rw [if_neg h]
    by_cases h2 : (L : Int) > 1
    · rw [if_pos h2]; omega
    · rw [if_neg h2]; omega
theorem parted_no {cs : Cuts} {c : Cond} {p q : Pict} {n : Nat} (h : isParted cs c p q n) : (decide (outOf cs c p = mixed cs c p q n) || (decide (outOf cs c q = mixed cs c p q n) || false)) = false := by
  have e := not_parted2 (a := outOf cs c p) (b := outOf cs c q) (o := mixed cs c p q n)
  rw [decide_eq_true (show mixed cs c p q n ≠ outOf cs c p ∧ mixed cs c p q n ≠ outOf cs c q from h)] at e
  cases hb : (decide (outOf cs c p = mixed cs c p q n) || (decide (outOf cs c q = mixed cs c p q n) || false)) with
  | false => rfl
  | true => rw [hb] at e; cases e
theorem dp_ans {K : PySem.W.Frag} {H : Hp} : ∀ {l : List Ans}, DpAll K H (l.map fun a => V.str a.s) (l.map fun a => PyData.str a.s)
  | [] => .nil
  | _ :: _ => .cons (.str _) dp_ans
theorem lay_ans : ∀ {l : List Ans}, PyData.canLayAll0 (l.map fun a => PyData.str a.s) = true ∧ PyData.depthAll (l.map fun a => PyData.str a.s) = 0
  | [] => by simp [PyData.canLayAll0, PyData.depthAll]
  | a :: r => by
    obtain ⟨h1, h2⟩ := lay_ans (l := r)
    have h3 : (PyData.str a.s).canLay0 = true := by cases a <;> decide +kernel
    rw [List.map_cons]
    simp only [PyData.canLayAll0, PyData.depthAll, PyData.depth, h1, h2, h3]
    decide
theorem shaped_ans {l : List Ans} : SeqAt.shaped (.list (l.map fun a => PyData.str a.s)) = true := by
  obtain ⟨h1, h2⟩ := lay_ans (l := l)
  have e : (PyData.list (l.map fun a => PyData.str a.s)).depth = PyData.depthAll (l.map fun a => PyData.str a.s) + 1 := by simp only [PyData.depth]
  unfold SeqAt.shaped
  rw [e, h2, show (PyData.list (l.map fun a => PyData.str a.s)).canLay0 = true by simp only [PyData.canLay0, h1]]
  decide
theorem fm_ne {a : Ans} : ∀ {l : List Ans}, (l.filterMap fun b => if b = a then none else some b) = l.filter fun b => !decide (b = a)
  | [] => rfl
  | b :: r => by
    rw [List.filterMap_cons, List.filter_cons]
    by_cases z : b = a
    · rw [if_pos z, decide_eq_true z]
      exact fm_ne
    · rw [if_neg z, decide_eq_false z]
      show b :: _ = b :: _
      rw [fm_ne]
theorem over_b {a : Ans} {l : List Ans} : (!PyData.eqv (.list (((a :: l).filterMap fun b => if b = a then none else some b).map fun a => PyData.str a.s)) (.list [])) = decide (1 < ((a :: l).foldl anAcc []).length) := by
  rw [fm_ne]
  have h := over_iff (a := a) (l := l)
  cases hf : (a :: l).filter (fun b => !decide (b = a)) with
  | nil =>
    rw [decide_eq_false (fun z => h.mp z hf)]
    rfl
  | cons b r =>
    rw [decide_eq_true (h.mpr (by rw [hf]; exact fun z => nomatch z))]
    rfl
section
variable {w : World} {K : PySem.W.Frag} {mg : Str → Option Value} {base : Heap}
def pLaw (K : PySem.W.Frag) (v : V) (H : Hp) (Q : VK) : Prop := ∃ (a : Addr) (ns : List Int), v = .ref a ∧ SqL K H a (ns.map V.int) ∧ ns.length ≤ 63 ∧ ∀ H', Q (.bl true) H'
set_option maxHeartbeats 4000000 in
theorem law_fn (T : Txt w K mg) : ∃ fd : FuncData, (∀ (s : Shared) (v : Value), BindsTo s fd ⟨[v], []⟩ [("_law_script", v)]) ∧ ∀ base : Heap, FnOk PG w K mg base CX0 (31 + 1) (He.fAd K ("law", none)) fd ["_law_script"] (sp1 (pLaw K)).sp := by
  obtain ⟨fd, F⟩ := T.d_law
  refine ⟨fd, fun s v => (FunD.bindsA (ps := ["_law_script"]) F fun _ _ _ _ _ _ us hl => match us, hl with | [_], _ => rfl) s [v] rfl, fun base => fn_mk F sc_law (fun cdv A outer s0 H vs Q E hr h => ?_)⟩
  obtain ⟨_, rfl, a, ns, rfl, hs, hns, h⟩ := h
  have c_law_opened := (ok_law_opened (base := base) T).mono (show 2 ≤ 31 by omega)
  have c_law_condition := (ok_law_condition (base := base) 3 T).mono (show 4 + 3 ≤ 31 by omega)
  have c_pictures := (ok_pictures (base := base) T).mono (show 15 ≤ 31 by omega)
  have c_past_of := (ok_past_of (base := base) T).mono (show 16 ≤ 31 by omega)
  have m_deeds := met_Past_deeds (base := base) T
  have c_law_table := (ok_law_table (base := base) T).mono (show 2 ≤ 31 by omega)
  have c_tests_of := (ok_tests_of (base := base) T).mono (show 14 ≤ 31 by omega)
  have c_law_first_parted := (ok_law_first_parted (base := base) T).mono (show 10 ≤ 31 by omega)
  have c_parted := (ok_parted (base := base) T)
  have c_law_draw := (ok_law_draw (base := base) T).mono (show 1 ≤ 31 by omega)
  have c_law_mixed_run := (ok_law_mixed_run (base := base) T).mono (show 9 ≤ 31 by omega)
  have c_mixed_outcome := (ok_mixed_outcome (base := base) T).mono (show 29 ≤ 31 by omega)
  have c_parted_paper := (ok_parted_paper (base := base) T)
  have c_law_run := (ok_law_run (base := base) 4 T).mono (show 2 + 4 ≤ 31 by omega)
  have c_accepts_parted := (ok_accepts_parted (base := base) T).mono (show 30 ≤ 31 by omega)
  have c_parted_over := (ok_parted_over (base := base) T).mono (show 30 ≤ 31 by omega)
  have := lsta_of hs
  refine ⟨_, pss_cons (ps_for PassesOwn.never rfl (pi_range1 (by rfl) T.f_range (pa_cons (pe_callB (call_max2K rfl) (by rfl) T.f_max (by decide +kernel) (pa_cons (pe_int) (pa_cons (pe_callB (call_min2K rfl) (by rfl) T.f_min (by decide +kernel) (pa_cons (pe_callB (call_lenK (K := K) rfl) (by rfl) T.f_len (by decide +kernel) (pa_cons (pv 0) pa_nil)) (pa_cons (pe_int) pa_nil))) pa_nil))) pa_nil)) (pg_name (i := 1) sc_law.nd rfl (by first | exact Or.inl rfl | exact Or.inr rfl)) (pss_cons (ps_set (i := 2) sc_law.nd rfl (by first | exact Or.inl rfl | exact Or.inr rfl) (pe_cl c_law_opened hr (by first | decide | omega) rfl (pa_cons (pv 0) (pa_cons (pv 1) (pa_cons (pe_int) pa_nil)))))
      (pss_cons (ps_set (i := 3) sc_law.nd rfl (by first | exact Or.inl rfl | exact Or.inr rfl) (pe_cl c_law_condition hr (by first | decide | omega) rfl (pa_cons (pv 2) (pa_cons (pe_int) (pa_cons (pe_int) pa_nil)))))
      (pss_cons (ps_set (i := 4) sc_law.nd rfl (by first | exact Or.inl rfl | exact Or.inr rfl) (pe_cl c_pictures hr (by first | decide | omega) rfl (pa_cons (pv 3) pa_nil)))
      (pss_one (ps_if (pt_cmpR op_lt (pe_callB (call_lenK (K := K) rfl) (by rfl) T.f_len (by decide +kernel) (pa_cons (pv 4) pa_nil)) (pe_int) (nomark _)) (pss_cons (ps_setLc (i := 5) (own := [("_law_one", 17)]) rfl sc_law.nd rfl rfl (sw_true rfl rfl rfl (by decide +kernel)) (pi_seq (pv 4)) (blkOk_by (own := [("_law_one", 17)]) (N := ["_law_script", "_law_k", "_law_pool", "_law_condition_here", "_law_some", "_law_tables", "_law_many", "_law_due", "_law_step", "_law_at", "_law_to", "_law_count", "_law_told", "_law_paper", "_law_word", "_law_first", "_law_last", "_law_one", "_law_other", "_law_ends_told", "_law_table_here"]) (sc := defScope S_law) (by decide +kernel)) (fun _ _ _ _ _ => (pg_name (i := 17) sc_law.nd rfl (by first | exact Or.inl rfl | exact Or.inr rfl))) (fun _ _ _ _ _ => pts_nil) (fun _ _ _ _ _ => (pe_cl c_law_table hr (by first | decide | omega) rfl (pa_cons (pe_mtc m_deeds hr (by first | decide | omega) (pe_cl c_past_of hr (by first | decide | omega) rfl (pa_cons (pv 3) (pa_cons (pv 17) pa_nil)))) (pa_cons (pe_int) pa_nil)))))
      (pss_cons (ps_set (i := 6) sc_law.nd rfl (by first | exact Or.inl rfl | exact Or.inr rfl) (pe_callB (call_lenK (K := K) rfl) (by rfl) T.f_len (by decide +kernel) (pa_cons (pe_cl c_tests_of hr (by first | decide | omega) rfl (pa_cons (pv 3) pa_nil)) pa_nil)))
      (pss_cons (ps_set (i := 7) sc_law.nd rfl (by first | exact Or.inl rfl | exact Or.inr rfl) (pe_cl c_law_first_parted hr (by first | decide | omega) rfl (pa_cons (pv 3) (pa_cons (pv 4) (pa_cons (pv 5) (pa_cons (pv 6) pa_nil))))))
      (pss_cons (ps_if ((pt_cmpR (op_neDK (K := K) rfl hr) (pe_cl c_parted hr (by first | decide | omega) rfl (pa_cons (pv 3) pa_nil)) (pv 7) (nomark _))) (pss_one (ps_ret (pe_bl))) pss_nil)
      (pss_cons (ps_for PassesOwn.never rfl (pi_range1 (by rfl) T.f_range (pa_cons (pe_int) pa_nil)) (pg_name (i := 8) sc_law.nd rfl (by first | exact Or.inl rfl | exact Or.inr rfl)) (pss_cons (ps_par3 (i := 9) (j := 10) (l := 11) rfl sc_law.nd rfl rfl rfl (by decide) (by decide) (by decide) rfl rfl rfl (pa_cons (pe_cl c_law_draw hr (by first | decide | omega) rfl (pa_cons (pv 2) (pa_cons (pe_callB (call_lenK (K := K) rfl) (by rfl) T.f_len (by decide +kernel) (pa_cons (pv 4) pa_nil)) pa_nil))) (pa_cons (pe_cl c_law_draw hr (by first | decide | omega) rfl (pa_cons (pv 2) (pa_cons (pe_callB (call_lenK (K := K) rfl) (by rfl) T.f_len (by decide +kernel) (pa_cons (pv 4) pa_nil)) pa_nil))) (pa_cons (pe_cl c_law_draw hr (by first | decide | omega) rfl (pa_cons (pv 2) (pa_cons (pe_op op_add (pv 6) (pe_int)) pa_nil))) pa_nil))) (by rfl))
      (pss_cons (ps_set (i := 12) sc_law.nd rfl (by first | exact Or.inl rfl | exact Or.inr rfl) (pe_cl c_law_mixed_run hr (by first | decide | omega) rfl (pa_cons (pv 3) (pa_cons (pe_ix (ix_anyK (K := K) rfl) (pv 5) (pv 9) (fun _ _ => rfl)) (pa_cons (pe_ix (ix_anyK (K := K) rfl) (pv 5) (pv 10) (fun _ _ => rfl)) (pa_cons (pv 11) pa_nil))))))
      (pss_one (ps_if (pt_cmpR op_ne (pe_cl c_mixed_outcome hr (by first | decide | omega) rfl (pa_cons (pv 3) (pa_cons (pe_ix (ix_anyK (K := K) rfl) (pv 4) (pv 9) (fun _ _ => rfl)) (pa_cons (pe_ix (ix_anyK (K := K) rfl) (pv 4) (pv 10) (fun _ _ => rfl)) (pa_cons (pv 11) pa_nil))))) (pv 12) (nomark _)) (pss_one (ps_ret (pe_bl))) pss_nil)))))
      (pss_cons (ps_set (i := 13) sc_law.nd rfl (by first | exact Or.inl rfl | exact Or.inr rfl) (pe_cl c_parted_paper hr (by first | decide | omega) rfl (pa_cons (pv 3) pa_nil)))
      (pss_cons (ps_if (pt_cmpR op_ne (pe_cmpR op_isNK (pv 13) (pe_non) (nomark _)) (pe_cmpR op_isNK (pv 7) (pe_non) (nomark _)) (nomark _)) (pss_one (ps_ret (pe_bl))) pss_nil)
      (pss_cons (ps_if (pt_cmpR op_notNK (pv 13) (pe_non) (nomark _)) (pss_cons (ps_asg (pv 13) (pg_tupK (K := K) (n := 4) rfl rfl (pgs_cons (pg_name (i := 14) sc_law.nd rfl (by first | exact Or.inl rfl | exact Or.inr rfl)) (pgs_cons (pg_name (i := 15) sc_law.nd rfl (by first | exact Or.inl rfl | exact Or.inr rfl)) (pgs_cons (pg_name (i := 16) sc_law.nd rfl (by first | exact Or.inl rfl | exact Or.inr rfl)) (pgs_cons (pg_name (i := 11) sc_law.nd rfl (by first | exact Or.inl rfl | exact Or.inr rfl)) pgs_nil))))))
      (pss_cons (ps_par (i := 17) (j := 18) rfl sc_law.nd rfl rfl (by decide) rfl rfl (pa_cons (pe_cl c_law_table hr (by first | decide | omega) rfl (pa_cons (pe_callTy (call_listK (K := K) rfl) (by rfl) T.f_list (by decide +kernel) (pa_cons (pv 15) pa_nil)) (pa_cons (pe_int) pa_nil))) (pa_cons (pe_cl c_law_table hr (by first | decide | omega) rfl (pa_cons (pe_callTy (call_listK (K := K) rfl) (by rfl) T.f_list (by decide +kernel) (pa_cons (pv 16) pa_nil)) (pa_cons (pe_int) pa_nil))) pa_nil)) (by rfl))
      (pss_cons (ps_set (i := 12) sc_law.nd rfl (by first | exact Or.inl rfl | exact Or.inr rfl) (pe_cl c_law_mixed_run hr (by first | decide | omega) rfl (pa_cons (pv 3) (pa_cons (pv 17) (pa_cons (pv 18) (pa_cons (pv 11) pa_nil))))))
      (pss_cons (ps_if (PW.pt (pw_or (pt_cmpR op_ne (pv 14) (pe_str) (nomark _)) (pw_or1 (pt_cmpR (op_inK (K := K) rfl) (pv 12) (pe_lst (pa_cons (pe_cl c_law_run hr (by first | decide | omega) rfl (pa_cons (pv 3) (pa_cons (pv 17) (pa_cons (pe_int) pa_nil)))) (pa_cons (pe_cl c_law_run hr (by first | decide | omega) rfl (pa_cons (pv 3) (pa_cons (pv 18) (pa_cons (pe_int) pa_nil)))) pa_nil))) (by rfl))))) (pss_one (ps_ret (pe_bl))) pss_nil)
      (pss_cons (ps_if (PW.pt (pw_or (pt_cmpR op_notF (pe_cl c_accepts_parted hr (by first | decide | omega) rfl (pa_cons (pv 3) (pa_cons (pv 13) pa_nil))) (pe_bl) (nomark _)) (pw_or1 (pt_cmpR op_notF (pe_cl c_accepts_parted hr (by first | decide | omega) rfl (pa_cons (pv 3) (pa_cons (pe_slice (sl_tupAK (K := K) rfl) (pv 13) po_none (po_some (pe_int))) pa_nil))) (pe_bl) (nomark _))))) (pss_one (ps_ret (pe_bl))) pss_nil)
      (pss_one (ps_if (pt_cmpR op_notF (pe_cl c_accepts_parted hr (by first | decide | omega) rfl (pa_cons (pv 3) (pa_cons (pe_tup (pa_cons (pv 14) (pa_cons (pv 15) (pa_cons (pv 15) (pa_cons (pv 11) pa_nil))))) pa_nil))) (pe_bl) (nomark _)) (pss_one (ps_ret (pe_bl))) pss_nil))))))) pss_nil)
      (pss_cons (ps_set (i := 19) sc_law.nd rfl (by first | exact Or.inl rfl | exact Or.inr rfl) (pe_lc (own := [("_law_table_here", 20)]) rfl sc_law.nd (pi_seq (pv 5)) (blkOk_by (own := [("_law_table_here", 20)]) (N := ["_law_script", "_law_k", "_law_pool", "_law_condition_here", "_law_some", "_law_tables", "_law_many", "_law_due", "_law_step", "_law_at", "_law_to", "_law_count", "_law_told", "_law_paper", "_law_word", "_law_first", "_law_last", "_law_one", "_law_other", "_law_ends_told", "_law_table_here"]) (sc := defScope S_law) (by decide +kernel)) (fun _ _ _ _ _ => (pg_name (i := 20) sc_law.nd rfl (by first | exact Or.inl rfl | exact Or.inr rfl))) (fun _ _ _ _ _ => pts_nil) (fun _ _ _ _ _ => (pe_cl c_law_run hr (by first | decide | omega) rfl (pa_cons (pv 3) (pa_cons (pv 20) (pa_cons (pe_int) pa_nil)))))))
      (pss_one (ps_if (pt_cmpR op_ne (pe_cl c_parted_over hr (by first | decide | omega) rfl (pa_cons (pv 3) pa_nil)) (pe_cmpR (op_neDK (K := K) rfl hr) (pe_lc (own := [("_law_one", 17)]) rfl sc_law.nd (pi_seq (pv 19)) (blkOk_by (own := [("_law_one", 17)]) (N := ["_law_script", "_law_k", "_law_pool", "_law_condition_here", "_law_some", "_law_tables", "_law_many", "_law_due", "_law_step", "_law_at", "_law_to", "_law_count", "_law_told", "_law_paper", "_law_word", "_law_first", "_law_last", "_law_one", "_law_other", "_law_ends_told", "_law_table_here"]) (sc := defScope S_law) (by decide +kernel)) (fun _ _ _ _ _ => (pg_name (i := 17) sc_law.nd rfl (by first | exact Or.inl rfl | exact Or.inr rfl))) (fun _ _ _ _ _ => pts_one (pt_cmpR op_ne (pv 17) (pe_ix (ix_anyK (K := K) rfl) (pv 19) (pe_int) (fun _ _ => rfl)) (nomark _))) (fun _ _ _ _ _ => (pv 17))) (pe_lst pa_nil) (nomark _)) (nomark _)) (pss_one (ps_ret (pe_bl))) pss_nil))))))))))) pss_nil))))))
      (pss_one (ps_ret (pe_bl))), ?_⟩
  refine start_to (σ := [some _, none, none, none, none, none, none, none, none, none, none, none, none, none, none, none, none, none, none, none, none]) rfl ?_
  try dsimp only [cxOf]
  walk_at "go"
  rw [List.length_map]
  obtain ⟨hM1, hM2, hM3⟩ := kLim ns.length
  generalize (if (if (3 : Int) < (ns.length : Int) then 3 else (ns.length : Int)) > 1 then (if (3 : Int) < (ns.length : Int) then 3 else (ns.length : Int)) else 1) = M at hM1 hM2 hM3
  refine ⟨by omega, ?_⟩
  refine for_goT (fun j σ' H' => (∃ x1 x2 x3 x4 x5 x6 x7 x8 x9 x10 x11 x12 x13 x14 x15 x16 x17 x18 x19 x20, σ' = [some (.ref a), x1, x2, x3, x4, x5, x6, x7, x8, x9, x10, x11, x12, x13, x14, x15, x16, x17, x18, x19, x20]) ∧ Ext H H') ⟨⟨_, _, _, _, _, _, _, _, _, _, _, _, _, _, _, _, _, _, _, _, rfl⟩, Ext.refl _⟩ ?_ ?_
  · rintro j x σ' H1 H2 hj ⟨⟨x1, x2, x3, x4, x5, x6, x7, x8, x9, x10, x11, x12, x13, x14, x15, x16, x17, x18, x19, x20, rfl⟩, e1⟩ ⟨rfl, rfl⟩
    walk_at "go"
    refine ⟨a, ns, j, rfl, sqL_ext hs e1, congrArg V.int (by omega), by omega, fun hne => by have := List.length_pos_iff.mpr hne; omega, rfl, fun pl pn ms H3 e3 npl hp3 => ?_⟩
    walk_at "go"
    refine ⟨pl, pn, ms, 0, 3, 4, rfl, hp3, rfl, Nat.le_refl _, Nat.le_refl _, rfl, by decide, by decide, fun r k4 c H4 e4 hp4 hc4 ok hcd hct => ?_⟩
    have good : Good c := ⟨ok, hcd, hct⟩
    have cok := cutsOf_ok (ts_ok good.1)
    have nplH : H pl = none := e1.back npl.h
    have eB4 : Ext H (Hid pl H4) := ext_hidn ((ext_hidn (e1.trans e3) nplH).trans e4) nplH
    have hc5 : CA H4 c r := CA.mono (Hid.sub pl H4) c r hc4
    walk_at "go"
    refine ⟨c, hc5, good, fun sl svs H5 e5 hsl hE => ?_⟩
    have : At H5 sl (.lst svs) := ⟨hsl⟩
    have hsvl := hE.len
    walk_at "go"
    have hp5 := hp4.mono e5
    have e05 : Ext H H5 := (eB4.trans (Hid.sub pl H4)).trans e5
    by_cases h14 : svs.length < 14
    · rw [decide_eq_true (show ((svs.length : Nat) : Int) < 14 by omega)]
      walk_at "gq"
      with_reducible refine seq_stop ?_
      refine seq_cut (fun σ' H' => ∃ tl tvs, σ' = [some (.ref a), some (V.int (0 + (j : Int))), some (.ref pl), some r, some (.ref sl), some (.ref tl), x6, x7, x8, x9, x10, x11, x12, x13, x14, x15, x16, x17, x18, x19, x20] ∧ PoolR H' pl pn ms k4 ∧ Ext H (Hid pl H') ∧ LF c r sl tl svs tvs (Hid pl H')) ?_ ?_
      · rintro σ' H6 ⟨tl, tvs, rfl, hp6, e06, lf6⟩
        have lfH := lf6.mono (Hid.sub pl H6)
        have hpl1 := pics_len cok
        refine red ?_
        walk_at "gq"
        refine ⟨c, lfH.hc, good, fun r7 vs7 H7 e7 nr7 hr7 hE7 => ?_⟩
        have : At H7 r7 (.lst vs7) := ⟨hr7⟩
        have hml := hE7.len
        walk_at "gq"
        rw [hml]
        with_reducible refine seq_stop ?_
        have hp7 := hp6.mono e7
        have e07 : Ext H (Hid pl H7) := e06.trans (Hid.mono e7)
        have lf7 := lf6.mono (Hid.mono e7)
        have lfH7 := lf7.mono (Hid.sub pl H7)
        refine seq_cut (fun σ' H' => ∃ due, σ' = [some (.ref a), some (V.int (0 + (j : Int))), some (.ref pl), some r, some (.ref sl), some (.ref tl), some (V.int (c.ts.length : Nat)), some due, x8, x9, x10, x11, x12, x13, x14, x15, x16, x17, x18, x19, x20] ∧ Ext H7 H' ∧ ((lawDue c = none ∧ due = .non) ∨ ∃ p q n t u v, lawDue c = some (p, q, n) ∧ due = .ref t ∧ H' t = some (.tup [u, v, .int (n : Nat)]) ∧ PictR H' u p ∧ PictR H' v q)) ?_ ?_
        · rintro σ' H8 ⟨due, rfl, e8, hdue⟩
          refine seq_cut (fun σ' H' => σ' = [some (.ref a), some (V.int (0 + (j : Int))), some (.ref pl), some r, some (.ref sl), some (.ref tl), some (V.int (c.ts.length : Nat)), some due, x8, x9, x10, x11, x12, x13, x14, x15, x16, x17, x18, x19, x20] ∧ Ext H7 H' ∧ DueR c due) ?_ ?_
          · rintro σ' H9 ⟨rfl, e9, hD⟩
            have hp9 := hp7.mono e9
            have lfB := lf7.mono (Hid.mono e9)
            have eHB : Ext H (Hid pl H9) := e07.trans (Hid.mono e9)
            have eBH : Ext (Hid pl H9) H9 := Hid.sub pl H9
            have hBpl : Hid pl H9 pl = none := by unfold Hid; rw [if_pos rfl]
            generalize Hid pl H9 = B at lfB eHB eBH hBpl
            have htl := lfB.hT.len
            have hne : (picsOf (cutsOf c.ts)).length ≠ 0 := fun z => pics_ne (List.length_eq_zero_iff.mp z)
            refine seq_cut (fun σ' H' => (∃ x8 x9 x10 x11 x12, σ' = [some (.ref a), some (V.int (0 + (j : Int))), some (.ref pl), some r, some (.ref sl), some (.ref tl), some (V.int (c.ts.length : Nat)), some due, x8, x9, x10, x11, x12, x13, x14, x15, x16, x17, x18, x19, x20]) ∧ Ext B H') ?_ ?_
            · rintro σ' H10 ⟨⟨x8, x9, x10, x11, x12, rfl⟩, e10⟩
              have lf10 := lfB.mono e10
              refine seq_cut (fun σ' H' => ∃ paper, σ' = [some (.ref a), some (V.int (0 + (j : Int))), some (.ref pl), some r, some (.ref sl), some (.ref tl), some (V.int (c.ts.length : Nat)), some due, x8, x9, x10, x11, x12, some paper, x14, x15, x16, x17, x18, x19, x20] ∧ Ext H10 H' ∧ ((lawDue c = none ∧ paper = .non) ∨ ∃ p q n t u v, lawDue c = some (p, q, n) ∧ paper = .ref t ∧ H' t = some (.tup [.str "parted", u, v, .int (n : Nat)]) ∧ DsL H' u (addsOf (cutsOf c.ts) p) p.row ∧ DsL H' v (addsOf (cutsOf c.ts) q) q.row)) ?_ ?_
              · rintro σ' H11 ⟨paper, rfl, e11, hpap⟩
                refine seq_cut (fun σ' H' => σ' = [some (.ref a), some (V.int (0 + (j : Int))), some (.ref pl), some r, some (.ref sl), some (.ref tl), some (V.int (c.ts.length : Nat)), some due, x8, x9, x10, x11, x12, some paper, x14, x15, x16, x17, x18, x19, x20] ∧ H' = H11) ?_ ?_
                · rintro σ' H12 ⟨rfl, rfl⟩
                  have lf12 := lf10.mono e11
                  refine seq_cut (fun σ' H' => (∃ x11 x12 x14 x15 x16 x17 x18, σ' = [some (.ref a), some (V.int (0 + (j : Int))), some (.ref pl), some r, some (.ref sl), some (.ref tl), some (V.int (c.ts.length : Nat)), some due, x8, x9, x10, x11, x12, some paper, x14, x15, x16, x17, x18, x19, x20]) ∧ Ext H12 H') ?_ ?_
                  · rintro σ' H13 ⟨⟨x11, x12, x14, x15, x16, x17, x18, rfl⟩, e13⟩
                    have lf13 := lf12.mono e13
                    have htlen := lf13.hT.len
                    have : At H13 tl (.lst tvs) := ⟨lf13.htl⟩
                    walk_at "go"
                    refine lc_ds (picsOf (cutsOf c.ts)) (fun p => some (outOf (cutsOf c.ts) c p)) (VR fun a : Ans => V.str a.s) (fun _ h => h) htlen (by show tvs.length ≤ 2 ^ 24; omega) ?_ ?_
                    · intro i y p H14 H15 D hp e14 nD hA hy N1 N2 k1 k2
                      obtain ⟨rfl, hy⟩ := hy
                      obtain ⟨p', hp', htp⟩ := lf13.hT.get hy
                      rw [hp] at hp'
                      cases hp'
                      walk_at "go"
                      exact run_pic (CA.mono e14 c _ lf13.hc) good (htp.mono e14) (pics_ok (List.mem_of_getElem? hp)) fun H16 e16 => k1 _ _ _ e16 rfl rfl
                    · intro D H14 ys nD e14 hD hE14
                      have hys : ys = (outsOf (cutsOf c.ts) c).map fun a => V.str a.s := by
                        rw [each_val hE14, List.filterMap_eq_map']
                        rfl
                      obtain ⟨a0, rest, hout⟩ : ∃ a0 rest, outsOf (cutsOf c.ts) c = a0 :: rest := by
                        cases ho : outsOf (cutsOf c.ts) c with
                        | nil => exact absurd (List.map_eq_nil_iff.mp ho) pics_ne
                        | cons a0 rest => exact ⟨a0, rest, rfl⟩
                      rw [hys, hout, List.map_cons] at hD
                      walk_at "go"
                      refine ⟨c, CA.mono e14 c _ lf13.hc, good, fun H15 e15 => ?_⟩
                      have : At H15 D (.lst (V.str a0.s :: rest.map fun a => V.str a.s)) := ⟨e15.at hD⟩
                      have hrl : rest.length < 2000 := by
                        have h1 : (outsOf (cutsOf c.ts) c).length = (picsOf (cutsOf c.ts)).length := List.length_map _
                        rw [hout, List.length_cons] at h1
                        omega
                      walk_at "go"
                      refine lc_ds (a0 :: rest) (fun b => if b = a0 then none else some b) (VR fun a : Ans => V.str a.s) (fun _ h => h) (by simp) (by rw [List.length_cons, List.length_map]; show rest.length + 1 ≤ 2 ^ 24; omega) ?_ ?_
                      · intro i y b H16 H17 D2 hb e16 nD2 hA2 hy N1 N2 k1 k2
                        obtain ⟨rfl, hy⟩ := hy
                        have hy2 : ((a0 :: rest).map fun a => V.str a.s)[i]? = some y := hy
                        rw [List.getElem?_map, hb] at hy2
                        cases hy2
                        have : At H17 D (.lst (V.str a0.s :: rest.map fun a => V.str a.s)) := ⟨e16.at (e15.at hD)⟩
                        walk_at "go"
                        by_cases hz : b = a0
                        · rw [decide_eq_true hz]
                          walk_at "go"
                          exact k2 _ (Ext.refl _) (if_pos hz)
                        · rw [decide_eq_false hz]
                          walk_at "go"
                          exact k1 _ _ b (Ext.refl _) (if_neg hz) rfl
                      · intro D2 H16 zs nD2 e16 hD2 hE16
                        have hzs := each_val hE16
                        rw [hzs] at hD2
                        walk_at "go"
                        rename_i E2 nE
                        refine ⟨.list (((a0 :: rest).filterMap fun b => if b = a0 then none else some b).map fun a => PyData.str a.s), .list [], .lst (SqL.of (Ext.at ext_upd hD2)) dp_ans, .lst (SqL.of upd_same) .nil, shaped_ans, shaped_ans (l := []), ?_⟩
                        refine ⟨rfl, ?_⟩
                        rw [hout, ← over_b, decide_eq_true rfl]
                        walk_at "go"
                        exact ⟨⟨_, _, _, _, _, _, _, _, _, _, _, _, _, _, _, _, _, _, _, _, rfl⟩, (((((eHB.trans e10).trans e11).trans e13).trans e14).trans e15).trans (e16.trans ext_upd)⟩
                  · intro N hN
                    rcases hpap with ⟨hd1, rfl⟩ | ⟨p, q, n, t, u, v, hd1, rfl, ht, hu, hv⟩
                    · walk_at "go"
                      exact hN _ _ ⟨⟨_, _, _, _, _, _, _, rfl⟩, Ext.refl _⟩
                    · have hmem := findN_mem hd1
                      have okp := pics_ok hmem.1
                      have okq := pics_ok hmem.2.1
                      have hn10 : n ≤ 10 := by have := hmem.2.2.1; rw [List.mem_range'_1] at this; have := good.2.2; omega
                      have hpar := hmem.2.2.2
                      obtain ⟨a1, vs1, rfl, ha1, hE1⟩ := id hu
                      obtain ⟨a2, vs2, rfl, ha2, hE2⟩ := id hv
                      have : At H12 t (.tup [.str "parted", .ref a1, .ref a2, .int (n : Nat)]) := ⟨ht⟩
                      have : At H12 a1 (.lst vs1) := ⟨ha1⟩
                      walk_at "go"
                      rename_i L1 nL1
                      refine ⟨L1, vs1, addsOf (cutsOf c.ts) p, p.row, rfl, upd_same, hE1.mono (fun v d => DeedR.mono ext_upd), addsOf_ok cok okp, rfl, fun tb1 cl1 rw1 H14 e14 _ hT1 => ?_⟩
                      have e1214 : Ext H12 H14 := Ext.trans ext_upd e14
                      have : At H14 a2 (.lst vs2) := ⟨e1214.at ha2⟩
                      walk_at "go"
                      rename_i L2 nL2
                      refine ⟨L2, vs2, addsOf (cutsOf c.ts) q, q.row, rfl, upd_same, hE2.mono (fun v d => DeedR.mono (e1214.trans ext_upd)), addsOf_ok cok okq, rfl, fun tb2 cl2 rw2 H15 e15 _ hT2 => ?_⟩
                      have e1415 : Ext H14 H15 := Ext.trans ext_upd e15
                      have e15' : Ext H12 H15 := e1214.trans e1415
                      walk_at "go"
                      refine ⟨c, p, q, n, CA.mono e15' c _ lf12.hc, good, ⟨tb1, cl1, rw1, rfl, hT1.mono e1415⟩, ⟨tb2, cl2, rw2, rfl, hT2⟩, okp, okq, rfl, fun H16 e16 => ?_⟩
                      walk_at "go"
                      refine run_pic (CA.mono (e15'.trans e16) c _ lf12.hc) good ⟨tb1, cl1, rw1, rfl, hT1.mono (e1415.trans e16)⟩ okp fun H17 e17 => ?_
                      walk_at "go"
                      refine run_pic (CA.mono ((e15'.trans e16).trans e17) c _ lf12.hc) good ⟨tb2, cl2, rw2, rfl, hT2.mono (e16.trans e17)⟩ okq fun H18 e18 => ?_
                      walk_at "go"
                      rename_i L3 nL3
                      rw [parted_no hpar]
                      have e19 : Ext H12 (upd H18 L3 (.lst [.str (outOf (cutsOf c.ts) c p).s, .str (outOf (cutsOf c.ts) c q).s])) := (((e15'.trans e16).trans e17).trans e18).trans ext_upd
                      generalize upd H18 L3 (.lst [.str (outOf (cutsOf c.ts) c p).s, .str (outOf (cutsOf c.ts) c q).s]) = H19 at e19
                      walk_at "go"
                      refine ⟨c, t, _, CA.mono e19 c _ lf12.hc, good, rfl, e19.at ht, .inr ⟨.ref a1, .ref a2, p, q, n, rfl, hu.mono e19, hv.mono e19, okp, okq, by omega, fun H20 e20 => ?_⟩⟩
                      rw [decide_eq_true hpar]
                      have e20' := e19.trans e20
                      have : At H20 t (.tup [.str "parted", .ref a1, .ref a2, .int (n : Nat)]) := ⟨e20'.at ht⟩
                      walk_at "go"
                      intro b H21 e21 hb
                      have e21' := e20'.trans e21
                      walk_at "go"
                      refine ⟨c, b, _, CA.mono e21' c _ lf12.hc, good, rfl, hb, .inl ⟨?_, fun H22 e22 => ?_⟩⟩
                      · rw [show (3 : Int) = ((3 : Nat) : Int) from rfl, cut_take]
                        show ¬ 3 = 4
                        decide
                      have e22' := e21'.trans e22
                      walk_at "go"
                      rename_i T3 nT3
                      have e23' : Ext H12 (upd H22 T3 (.tup [.str "parted", .ref a1, .ref a1, .int (n : Nat)])) := e22'.trans ext_upd
                      refine ⟨c, T3, _, CA.mono e23' c _ lf12.hc, good, rfl, upd_same, .inr ⟨.ref a1, .ref a1, p, p, n, rfl, hu.mono e23', hu.mono e23', okp, okp, by omega, fun H24 e24 => ?_⟩⟩
                      rw [decide_eq_false (show ¬ isParted (cutsOf c.ts) c p p n from fun z => z.1 mixed_self)]
                      walk_at "go"
                      exact hN _ _ ⟨⟨_, _, _, _, _, _, _, rfl⟩, e23'.trans e24⟩
                · intro N hN
                  rcases hpap with ⟨hd1, rfl⟩ | ⟨p, q, n, t, u, v, hd1, rfl, ht, hu, hv⟩
                  · rcases hD with ⟨_, rfl⟩ | ⟨_, _, hd2, _⟩
                    · walk_at "go"
                      refine ⟨rfl, ?_⟩
                      rw [decide_eq_true rfl]
                      walk_at "go"
                      exact hN _ _ ⟨rfl, rfl⟩
                    · rw [hd1] at hd2
                      cases hd2
                  · rcases hD with ⟨hd2, _⟩ | ⟨_, td, hd2, rfl⟩
                    · rw [hd1] at hd2
                      cases hd2
                    · walk_at "go"
                      refine ⟨rfl, ?_⟩
                      rw [decide_eq_true rfl]
                      walk_at "go"
                      exact hN _ _ ⟨rfl, rfl⟩
              · intro N hN
                walk_at "go"
                refine ⟨c, lf10.hc, good, fun hf H11 e11 => ?_, fun p q n hf t u v H11 e11 ht hu hv => ?_⟩
                · walk_at "go"
                  exact hN _ _ ⟨.non, rfl, e11, .inl ⟨hf, rfl⟩⟩
                · walk_at "go"
                  exact hN _ _ ⟨.ref t, rfl, e11, .inr ⟨p, q, n, t, u, v, hf, rfl, ht, hu, hv⟩⟩
            · intro N hN
              walk_at "go"
              refine ⟨by decide, ?_⟩
              refine for_goT (fun j6 σ' H' => (∃ x8 x9 x10 x11 x12, σ' = [some (.ref a), some (V.int (0 + (j : Int))), some (.ref pl), some r, some (.ref sl), some (.ref tl), some (V.int (c.ts.length : Nat)), some due, x8, x9, x10, x11, x12, x13, x14, x15, x16, x17, x18, x19, x20]) ∧ Ext B H' ∧ ∃ k', PoolR H' pl pn ms k') ⟨⟨_, _, _, _, _, rfl⟩, eBH, _, hp9⟩ ?_ ?_
              · rintro j6 x σ' H11' H11 hj6 ⟨⟨x8, x9, x10, x11, x12, rfl⟩, e11, k11, hp11⟩ ⟨rfl, rfl⟩
                have : At H11 sl (.lst svs) := ⟨(lfB.mono e11).hsl⟩
                walk_at "go"
                refine ⟨pl, pn, ms, k11, svs.length, rfl, hp11, rfl, by omega, fun d1 hd1 => ?_⟩
                have e12 := e11.mut (o := .lst [.ref pn, .int ((k11 + 1 : Nat) : Nat)]) hBpl
                have hp12 := hp11.next
                generalize upd H11 pl (.lst [.ref pn, .int ((k11 + 1 : Nat) : Nat)]) = H12 at e12 hp12
                have : At H12 sl (.lst svs) := ⟨(lfB.mono e12).hsl⟩
                walk_at "go"
                refine ⟨pl, pn, ms, k11 + 1, svs.length, rfl, hp12, rfl, by omega, fun d2 hd2 => ?_⟩
                have e13 := e12.mut (o := .lst [.ref pn, .int ((k11 + 1 + 1 : Nat) : Nat)]) hBpl
                have hp13 := hp12.next
                generalize upd H12 pl (.lst [.ref pn, .int ((k11 + 1 + 1 : Nat) : Nat)]) = H13 at e13 hp13
                walk_at "go"
                refine ⟨pl, pn, ms, k11 + 1 + 1, c.ts.length + 2, rfl, hp13, congrArg V.int (by omega), by omega, fun d3 hd3 => ?_⟩
                have e14 := e13.mut (o := .lst [.ref pn, .int ((k11 + 1 + 1 + 1 : Nat) : Nat)]) hBpl
                have hp14 := hp13.next
                generalize upd H13 pl (.lst [.ref pn, .int ((k11 + 1 + 1 + 1 : Nat) : Nat)]) = H14 at e14 hp14
                have lf14 := lfB.mono e14
                obtain ⟨p, hpd⟩ : ∃ p, (picsOf (cutsOf c.ts))[d1]? = some p := ⟨_, List.getElem?_eq_getElem (by omega)⟩
                obtain ⟨q, hqd⟩ : ∃ q, (picsOf (cutsOf c.ts))[d2]? = some q := ⟨_, List.getElem?_eq_getElem (by omega)⟩
                obtain ⟨tp, htp, hTp⟩ := lf14.hT.getD hpd
                obtain ⟨tq, htq, hTq⟩ := lf14.hT.getD hqd
                obtain ⟨sp, hsp, hPp⟩ := lf14.hE.getD hpd
                obtain ⟨sq, hsq, hPq⟩ := lf14.hE.getD hqd
                have okp := pics_ok (List.mem_of_getElem? hpd)
                have okq := pics_ok (List.mem_of_getElem? hqd)
                have : At H14 tl (.lst tvs) := ⟨lf14.htl⟩
                have : Nth tvs ((d1 : Nat) : Int) tp := nth_nat htp
                have : Nth tvs ((d2 : Nat) : Int) tq := nth_nat htq
                have : Nth svs ((d1 : Nat) : Int) sp := nth_nat hsp
                have : Nth svs ((d2 : Nat) : Int) sq := nth_nat hsq
                walk_at "go"
                refine ⟨c, p, q, d3, lf14.hc, good, hTp, hTq, okp, okq, rfl, fun H15 e15 => ?_⟩
                have : At H15 sl (.lst svs) := ⟨e15.at lf14.hsl⟩
                walk_at "go"
                refine ⟨c, p, q, d3, CA.mono e15 c _ lf14.hc, good, hPp.mono e15, hPq.mono e15, okp, okq, rfl, by have := good.2.2; omega, fun H16 e16 => ?_⟩
                walk_at "go"
                rw [decide_eq_true rfl]
                walk_at "go"
                exact ⟨⟨_, _, _, _, _, rfl⟩, (e14.trans e15).trans e16, _, (hp14.mono e15).mono e16⟩
              · rintro σ' H11 ⟨⟨x8, x9, x10, x11, x12, rfl⟩, e11, k11, hp11⟩
                exact hN _ _ ⟨⟨_, _, _, _, _, rfl⟩, e11⟩
          · intro N hN
            walk_at "go"
            have hc8 := CA.mono e8 c r lfH7.hc
            refine ⟨c, hc8, good, fun hf H9 e9 => ?_, fun p q n hf t u v H9 e9 ht hu hv => ?_⟩
            · rcases hdue with ⟨hd1, rfl⟩ | ⟨p2, q2, n2, t2, u2, v2, hd1, rfl, ht2, hu2, hv2⟩
              · walk_at "go"
                refine ⟨.none, .none, .non, .non, rfl, rfl, ?_⟩
                rw [show PyData.eqv PyData.none PyData.none = true from rfl]
                walk_at "go"
                exact hN _ _ ⟨rfl, e8.trans e9, .inl ⟨hd1, rfl⟩⟩
              · rw [show lawDue c = none from hf] at hd1
                cases hd1
            · rcases hdue with ⟨hd1, rfl⟩ | ⟨p2, q2, n2, t2, u2, v2, hd1, rfl, ht2, hu2, hv2⟩
              · rw [show lawDue c = some (p, q, n) from hf] at hd1
                cases hd1
              · rw [show lawDue c = some (p, q, n) from hf] at hd1
                cases hd1
                walk_at "go"
                refine ⟨foundD p q n, foundD p q n, .tup (SqT.of ht) (.cons (dp_pict hu) (.cons (dp_pict hv) (.cons (.int _) .nil))), .tup (SqT.of (e9.at ht2)) (.cons (dp_pict (hu2.mono e9)) (.cons (dp_pict (hv2.mono e9)) (.cons (.int _) .nil))), shaped_found, shaped_found, ?_⟩
                rw [found_same]
                walk_at "go"
                exact hN _ _ ⟨rfl, e8.trans e9, .inr ⟨(p, q, n), t2, hf, rfl⟩⟩
        · intro N hN
          walk_at "go"
          refine ⟨c, picsOf (cutsOf c.ts), sl, tl, svs, tvs, c.ts.length, lfH7.hc, good, rfl, lfH7.hsl, lfH7.hE, rfl, lfH7.htl, lfH7.hT, fun p hp => pics_ok hp, by omega, rfl, by have := good.2.2; omega, fun hf H8 e8 => ?_, fun p q n hf t u v H8 e8 ht hu hv => ?_⟩
          · walk_at "go"
            exact hN _ _ ⟨.non, rfl, e8, .inl ⟨hf, rfl⟩⟩
          · walk_at "go"
            exact hN _ _ ⟨.ref t, rfl, e8, .inr ⟨p, q, n, t, u, v, hf, rfl, ht, hu, hv⟩⟩
      · intro N hN
        walk_at "go"
        refine lc_dsA (picsOf (cutsOf c.ts)) some (fun Hh v p => TabP (cutsOf c.ts) (Hid pl Hh) v p) (fun e h => TabP.mono (Hid.mono e) h) hsvl (by show svs.length ≤ 2 ^ 24; omega) ?_ ?_
        · intro i y p H6 H7 D hp e6 nD ⟨acc, bs, hA, hEa⟩ hy N1 N2 k1 k2
          obtain ⟨rfl, hy⟩ := hy
          obtain ⟨p', hp', hpr⟩ := hE.get hy
          rw [hp] at hp'
          cases hp'
          have okp := pics_ok (List.mem_of_getElem? hp)
          walk_at "go"
          refine ⟨c, p, CA.mono (e5.trans e6) c _ hc5, good, hpr.mono e6, okp, fun x H8 e8 hx => ?_⟩
          walk_at "go"
          intro r2 vs2 H9 e9 nr2 hr2 hE2
          walk_at "go"
          refine ⟨r2, vs2, addsOf (cutsOf c.ts) p, p.row, rfl, hr2, hE2, addsOf_ok cok okp, rfl, fun tb cl rw H10 e10 ncl hT => ?_⟩
          have e610 := (e8.trans e9).trans e10
          have hA10 := e610.at hA
          have hp10 := hp5.mono (e6.trans e610)
          have hDpl : D ≠ pl := ne_of_none_at nD.h hp5.1
          refine k1 _ _ p e610 rfl ⟨tb, cl, rw, rfl, ?_⟩
          refine (hT.hidL hA10 (ne_of_none_at ncl.h ((e8.trans e9).at hA)) fun m x v z => ?_).hidL (D := pl) (Hid.at hp10.1 hDpl.symm) (ne_of_none_at ncl.h ((hp5.mono (e6.trans (e8.trans e9))).1)) (fun m x v z => by cases z)
          subst z
          cases hEa with
          | cons hh _ =>
            obtain ⟨_, _, _, e, _⟩ := hh
            cases e
        · intro D H6 ys nD e6 hD hE6
          rw [List.filterMap_some] at hE6
          walk_at "go"
          have hp6 := hp5.mono e6
          have hDpl : D ≠ pl := ne_of_none_at nD.h hp5.1
          refine hN _ _ ⟨D, ys, rfl, hp6, ext_hidn (e05.trans e6) nplH, CA.imp (tup_hid hp6.1) c r (CA.mono (e5.trans e6) c r hc5), Hid.at (e6.at hsl) (ne_of_at hsl hp5.1 (refs_nepool (fun v p ⟨a, _, e, _⟩ => ⟨a, e⟩) hE)), hE.mono fun v p hpp => (hpp.mono e6).hidL hp6.1, Hid.at hD hDpl, hE6.mono fun v p hh => TabP.mono (Hid.mono (Hid.sub D H6)) hh⟩
    · rw [decide_eq_false (show ¬ ((svs.length : Nat) : Int) < 14 by omega)]
      walk_at "go"
      exact ⟨⟨_, _, _, _, _, _, _, _, _, _, _, _, _, _, _, _, _, _, _, _, rfl⟩, e05⟩
  · rintro σ' H1 ⟨⟨x1, x2, x3, x4, x5, x6, x7, x8, x9, x10, x11, x12, x13, x14, x15, x16, x17, x18, x19, x20, rfl⟩, e1⟩
    walk_at "go"
    exact h H1
end

end PB
set_option maxHeartbeats 0
namespace PB
open PySem PySem.Spec PyProof.Rows L2
theorem facts {w : World} {K : PySem.W.Frag} {h : Heap} {mg : Str → Option Value} {f : Addr} (X : K.In h) (G : h.Ns mainGlobals mg) (hfa : mg ("law" : Str) = some (.ref f)) (c : Says w K) :
    ∃ fd : FuncData, (∀ (s : Shared) (v : Value), BindsTo s fd ⟨[v], []⟩ [("_law_script", v)]) ∧ ∀ base : Heap, K.In base → base.Ns mainGlobals mg → FnOk PG w K mg base CX0 32 f fd ["_law_script"] (sp1 (pLaw K)).sp := by
  have T : Txt w K mg := ⟨⟨h, X, G, c⟩⟩
  have e := hfa.symm.trans T.g_law
  cases e
  obtain ⟨fd, hb, hF⟩ := law_fn T
  exact ⟨fd, hb, fun base _ _ => hF base⟩
end PB
open PySem PySem.W PySem.Calls PyProof.Rows
theorem PySem.Challenge.cw_plainstore_k77_whole_parted_by_edits_bet_holds : PySem.Challenge.rw_plainstore_k77_whole_parted_by_edits_bet.Holds := by
  w_on; o_law
  refine HandSHeadRun.head_any (r := PB.R) (q := PB.qv) (H := PB.hk) (ob := PB.ob) (M := 20000) (loose := PB.loose) (d := HandSHeadRun.topDef PB.R.prog 114) (kwd := []) PB.ob_eq
    (by kernel_rfl) (fun s => by kernel_rfl) PB.runHd (by kernel_rfl) (by kernel_rfl) (by kernel_rfl) (by rfl) (by first | assumption | decide +kernel) (by decide +kernel) ⟨rfl, rfl, rfl, rfl, rfl, by decide +kernel⟩ ?hw ?hc
  case hw => w_witness2
  case hc =>
    refine L2.walk_ofE (l := PySem.Challenge.rw_plainstore_k77_whole_parted_by_edits_bet) (n := 63) (k := 32) (x := "_law_script") (CX := L2.CX0) rfl (by decide) (by kernel_rfl) ⟨rfl, by decide, by decide⟩ ?F (fun _ _ _ _ z => z)
    intro w mg fa h Y G hmg0
    obtain ⟨K, KX, c⟩ := Y
    have hmg : mg ("law" : PySem.Str) = some (.ref fa) := by
      have e : (HandSHeadRun.topDef PB.R.prog 114).name = ("law" : PySem.Str) := by kernel_rfl
      rw [← e]
      exact hmg0
    obtain ⟨fd, hb, hF⟩ := PB.facts (w := w) KX G hmg c
    exact ⟨K, fd, (PB.sp1 (PB.pLaw K)).sp, KX, hb, fun H a ns hl _ hS => ⟨.ref a, rfl, a, ns, rfl, hS, hl, fun _ => rfl⟩, hF⟩
