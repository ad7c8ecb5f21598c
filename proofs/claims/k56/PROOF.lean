import PyProof.Rows.All
import Wide.All
import OpenK.AllK
import Wide.FinOn
import KE.KStateDown
import Lean
import HandS.Base
import HandS.Call
import HandS.Ends
import HandS.More
import HandS.Words
import HandS.WordsExc
import HandS.Defaults
import HandS.Head0
import HandS.Head1
import HandS.Head2
import HandS.HeadEnd
import HandS.HeadHook1
import HandS.HeadHook2
import PySem.Challenge.RW_fairmasks_k56_whole_breaches_by_falls
import PySem.Value
import HandS.ForMost
import HandS.Deep
import HandS.TupAny
import HandS.TupLe
import HandS.IsInst
import HandS.Conv
import HandS.Zip
import HandS.Exc
set_option Elab.async false
set_option linter.all false
set_option maxRecDepth 100000
set_option maxHeartbeats 0
namespace Hd
open PySem PySem.Spec PyProof.Rows L2
def topS (i : Nat) : Stmt := PySem.Challenge.pw_fairmasks_k56_whole_breaches_by_falls.main.body.getD i (.Pass ⟨0, 0, 0, 0⟩)
abbrev s_is_integer : Stmt := topS 11
abbrev s_is_within : Stmt := topS 12
abbrev s_is_number : Stmt := topS 13
abbrev s_is_pair : Stmt := topS 14
abbrev s_is_row : Stmt := topS 15
abbrev s_are_ascending : Stmt := topS 16
abbrev s_is_name : Stmt := topS 17
abbrev s_common_divisor : Stmt := topS 20
abbrev s_made : Stmt := topS 21
abbrev s_times : Stmt := topS 22
abbrev s_are_sizes : Stmt := topS 26
abbrev s_many_contents : Stmt := topS 27
abbrev s_raw_contents : Stmt := topS 28
abbrev s_is_pattern : Stmt := topS 29
abbrev s_is_content : Stmt := topS 30
abbrev s_check_content : Stmt := topS 31
abbrev s_State_init : Stmt := inClass (topS 34) 0
abbrev s_State_statement : Stmt := inClass (topS 34) 1
abbrev s_State_step : Stmt := inClass (topS 34) 2
abbrev s_State_leave : Stmt := inClass (topS 34) 3
abbrev s_State_enter : Stmt := inClass (topS 34) 4
abbrev s_State_go_on : Stmt := inClass (topS 34) 5
abbrev s_State_met : Stmt := inClass (topS 34) 6
abbrev s_State_tested : Stmt := inClass (topS 34) 7
abbrev s_begin : Stmt := topS 35
abbrev s_after_throw : Stmt := topS 36
abbrev s_after_open : Stmt := topS 37
abbrev s_outcomes : Stmt := topS 38
abbrev s_all_outcomes : Stmt := topS 39
abbrev s_raw_is_blind : Stmt := topS 40
abbrev s_is_policy : Stmt := topS 42
abbrev s_check_policy : Stmt := topS 43
abbrev s_is_alike : Stmt := topS 44
abbrev s_Keeper_init : Stmt := inClass (topS 45) 0
abbrev s_Keeper_next_row : Stmt := inClass (topS 45) 1
abbrev s_Keeper_row_now : Stmt := inClass (topS 45) 2
abbrev s_Keeper_put : Stmt := inClass (topS 45) 4
abbrev s_Keeper_due : Stmt := inClass (topS 45) 5
abbrev s_Keeper_begin_row : Stmt := inClass (topS 45) 6
abbrev s_Keeper_make_sure : Stmt := inClass (topS 45) 7
abbrev s_Keeper_throw : Stmt := inClass (topS 45) 8
abbrev s_Keeper_go : Stmt := inClass (topS 45) 9
abbrev s_Keeper_open_column : Stmt := inClass (topS 45) 10
abbrev s_Keeper_show_pattern : Stmt := inClass (topS 45) 11
abbrev s_Keeper_fall : Stmt := inClass (topS 45) 12
abbrev s_Keeper_peeked : Stmt := inClass (topS 45) 16
abbrev s_check_blind : Stmt := topS 47
abbrev s_moves_until : Stmt := topS 48
abbrev s_breach_of : Stmt := topS 49
abbrev s_breach : Stmt := topS 50
abbrev s_is_done : Stmt := topS 51
abbrev s_is_breach : Stmt := topS 52
abbrev s_is_test : Stmt := topS 58
abbrev s_is_statement : Stmt := topS 59
abbrev s_blocks_in : Stmt := topS 60
abbrev s_measured : Stmt := topS 61
abbrev s_Program_init : Stmt := inClass (topS 62) 0
abbrev s_Program_keep : Stmt := inClass (topS 62) 1
abbrev s_l_hand : Stmt := topS 64
abbrev s_l_draw : Stmt := topS 65
abbrev s_l_contents : Stmt := topS 66
abbrev s_l_walk : Stmt := topS 67
abbrev s_l_see : Stmt := topS 68
abbrev s_l_do : Stmt := topS 69
abbrev s_l_due : Stmt := topS 70
abbrev s_l_moved : Stmt := topS 71
abbrev s_l_shows : Stmt := topS 72
abbrev s_l_blind_block : Stmt := topS 73
abbrev s_l_is_int : Stmt := topS 74
abbrev s_l_is_move : Stmt := topS 75
abbrev s_l_is_breach : Stmt := topS 76
abbrev s_l_some_moves : Stmt := topS 77
abbrev s_l_bent : Stmt := topS 78
abbrev s_law : Stmt := topS 79
def d_is_integer : He.DefD := ⟨("is_integer", none), "is_integer", "is_integer", defArgs s_is_integer, defBody s_is_integer, defScope s_is_integer, [], []⟩
def d_is_within : He.DefD := ⟨("is_within", none), "is_within", "is_within", defArgs s_is_within, defBody s_is_within, defScope s_is_within, [], []⟩
def d_is_number : He.DefD := ⟨("is_number", none), "is_number", "is_number", defArgs s_is_number, defBody s_is_number, defScope s_is_number, [], []⟩
def d_is_pair : He.DefD := ⟨("is_pair", none), "is_pair", "is_pair", defArgs s_is_pair, defBody s_is_pair, defScope s_is_pair, [], []⟩
def d_is_row : He.DefD := ⟨("is_row", none), "is_row", "is_row", defArgs s_is_row, defBody s_is_row, defScope s_is_row, [], []⟩
def d_are_ascending : He.DefD := ⟨("are_ascending", none), "are_ascending", "are_ascending", defArgs s_are_ascending, defBody s_are_ascending, defScope s_are_ascending, [], []⟩
def d_is_name : He.DefD := ⟨("is_name", none), "is_name", "is_name", defArgs s_is_name, defBody s_is_name, defScope s_is_name, [], []⟩
def d_common_divisor : He.DefD := ⟨("common_divisor", none), "common_divisor", "common_divisor", defArgs s_common_divisor, defBody s_common_divisor, defScope s_common_divisor, [], []⟩
def d_made : He.DefD := ⟨("made", none), "made", "made", defArgs s_made, defBody s_made, defScope s_made, [], []⟩
def d_times : He.DefD := ⟨("times", none), "times", "times", defArgs s_times, defBody s_times, defScope s_times, [], []⟩
def d_are_sizes : He.DefD := ⟨("are_sizes", none), "are_sizes", "are_sizes", defArgs s_are_sizes, defBody s_are_sizes, defScope s_are_sizes, [], []⟩
def d_many_contents : He.DefD := ⟨("many_contents", none), "many_contents", "many_contents", defArgs s_many_contents, defBody s_many_contents, defScope s_many_contents, [], []⟩
def d_raw_contents : He.DefD := ⟨("raw_contents", none), "raw_contents", "raw_contents", defArgs s_raw_contents, defBody s_raw_contents, defScope s_raw_contents, [], []⟩
def d_is_pattern : He.DefD := ⟨("is_pattern", none), "is_pattern", "is_pattern", defArgs s_is_pattern, defBody s_is_pattern, defScope s_is_pattern, [], []⟩
def d_is_content : He.DefD := ⟨("is_content", none), "is_content", "is_content", defArgs s_is_content, defBody s_is_content, defScope s_is_content, [], []⟩
def d_check_content : He.DefD := ⟨("check_content", none), "check_content", "check_content", defArgs s_check_content, defBody s_check_content, defScope s_check_content, [], []⟩
def d_State_init : He.DefD := ⟨("State", some "__init__"), "__init__", "State.__init__", defArgs s_State_init, defBody s_State_init, defScope s_State_init, [], []⟩
def d_State_statement : He.DefD := ⟨("State", some "statement"), "statement", "State.statement", defArgs s_State_statement, defBody s_State_statement, defScope s_State_statement, [], []⟩
def d_State_step : He.DefD := ⟨("State", some "step"), "step", "State.step", defArgs s_State_step, defBody s_State_step, defScope s_State_step, [], []⟩
def d_State_leave : He.DefD := ⟨("State", some "leave"), "leave", "State.leave", defArgs s_State_leave, defBody s_State_leave, defScope s_State_leave, [], []⟩
def d_State_enter : He.DefD := ⟨("State", some "enter"), "enter", "State.enter", defArgs s_State_enter, defBody s_State_enter, defScope s_State_enter, [], []⟩
def d_State_go_on : He.DefD := ⟨("State", some "go_on"), "go_on", "State.go_on", defArgs s_State_go_on, defBody s_State_go_on, defScope s_State_go_on, [], []⟩
def d_State_met : He.DefD := ⟨("State", some "met"), "met", "State.met", defArgs s_State_met, defBody s_State_met, defScope s_State_met, [], []⟩
def d_State_tested : He.DefD := ⟨("State", some "tested"), "tested", "State.tested", defArgs s_State_tested, defBody s_State_tested, defScope s_State_tested, [], []⟩
def d_begin : He.DefD := ⟨("begin", none), "begin", "begin", defArgs s_begin, defBody s_begin, defScope s_begin, [], []⟩
def d_after_throw : He.DefD := ⟨("after_throw", none), "after_throw", "after_throw", defArgs s_after_throw, defBody s_after_throw, defScope s_after_throw, [], []⟩
def d_after_open : He.DefD := ⟨("after_open", none), "after_open", "after_open", defArgs s_after_open, defBody s_after_open, defScope s_after_open, [], []⟩
def d_outcomes : He.DefD := ⟨("outcomes", none), "outcomes", "outcomes", defArgs s_outcomes, defBody s_outcomes, defScope s_outcomes, [], []⟩
def d_all_outcomes : He.DefD := ⟨("all_outcomes", none), "all_outcomes", "all_outcomes", defArgs s_all_outcomes, defBody s_all_outcomes, defScope s_all_outcomes, [], []⟩
def d_raw_is_blind : He.DefD := ⟨("raw_is_blind", none), "raw_is_blind", "raw_is_blind", defArgs s_raw_is_blind, defBody s_raw_is_blind, defScope s_raw_is_blind, [], []⟩
def d_is_policy : He.DefD := ⟨("is_policy", none), "is_policy", "is_policy", defArgs s_is_policy, defBody s_is_policy, defScope s_is_policy, [], []⟩
def d_check_policy : He.DefD := ⟨("check_policy", none), "check_policy", "check_policy", defArgs s_check_policy, defBody s_check_policy, defScope s_check_policy, [], []⟩
def d_is_alike : He.DefD := ⟨("is_alike", none), "is_alike", "is_alike", defArgs s_is_alike, defBody s_is_alike, defScope s_is_alike, [], []⟩
def d_Keeper_init : He.DefD := ⟨("Keeper", some "__init__"), "__init__", "Keeper.__init__", defArgs s_Keeper_init, defBody s_Keeper_init, defScope s_Keeper_init, [], []⟩
def d_Keeper_next_row : He.DefD := ⟨("Keeper", some "next_row"), "next_row", "Keeper.next_row", defArgs s_Keeper_next_row, defBody s_Keeper_next_row, defScope s_Keeper_next_row, [], []⟩
def d_Keeper_row_now : He.DefD := ⟨("Keeper", some "row_now"), "row_now", "Keeper.row_now", defArgs s_Keeper_row_now, defBody s_Keeper_row_now, defScope s_Keeper_row_now, [], []⟩
def d_Keeper_put : He.DefD := ⟨("Keeper", some "put"), "put", "Keeper.put", defArgs s_Keeper_put, defBody s_Keeper_put, defScope s_Keeper_put, [], []⟩
def d_Keeper_due : He.DefD := ⟨("Keeper", some "due"), "due", "Keeper.due", defArgs s_Keeper_due, defBody s_Keeper_due, defScope s_Keeper_due, [], []⟩
def d_Keeper_begin_row : He.DefD := ⟨("Keeper", some "begin_row"), "begin_row", "Keeper.begin_row", defArgs s_Keeper_begin_row, defBody s_Keeper_begin_row, defScope s_Keeper_begin_row, [], []⟩
def d_Keeper_make_sure : He.DefD := ⟨("Keeper", some "make_sure"), "make_sure", "Keeper.make_sure", defArgs s_Keeper_make_sure, defBody s_Keeper_make_sure, defScope s_Keeper_make_sure, [], []⟩
def d_Keeper_throw : He.DefD := ⟨("Keeper", some "throw"), "throw", "Keeper.throw", defArgs s_Keeper_throw, defBody s_Keeper_throw, defScope s_Keeper_throw, [], []⟩
def d_Keeper_go : He.DefD := ⟨("Keeper", some "go"), "go", "Keeper.go", defArgs s_Keeper_go, defBody s_Keeper_go, defScope s_Keeper_go, [], []⟩
def d_Keeper_open_column : He.DefD := ⟨("Keeper", some "open_column"), "open_column", "Keeper.open_column", defArgs s_Keeper_open_column, defBody s_Keeper_open_column, defScope s_Keeper_open_column, [], []⟩
def d_Keeper_show_pattern : He.DefD := ⟨("Keeper", some "show_pattern"), "show_pattern", "Keeper.show_pattern", defArgs s_Keeper_show_pattern, defBody s_Keeper_show_pattern, defScope s_Keeper_show_pattern, [], []⟩
def d_Keeper_fall : He.DefD := ⟨("Keeper", some "fall"), "fall", "Keeper.fall", defArgs s_Keeper_fall, defBody s_Keeper_fall, defScope s_Keeper_fall, [], []⟩
def d_Keeper_peeked : He.DefD := ⟨("Keeper", some "peeked"), "peeked", "Keeper.peeked", defArgs s_Keeper_peeked, defBody s_Keeper_peeked, defScope s_Keeper_peeked, [], []⟩
def d_check_blind : He.DefD := ⟨("check_blind", none), "check_blind", "check_blind", defArgs s_check_blind, defBody s_check_blind, defScope s_check_blind, [], []⟩
def d_moves_until : He.DefD := ⟨("moves_until", none), "moves_until", "moves_until", defArgs s_moves_until, defBody s_moves_until, defScope s_moves_until, [], []⟩
def d_breach_of : He.DefD := ⟨("breach_of", none), "breach_of", "breach_of", defArgs s_breach_of, defBody s_breach_of, defScope s_breach_of, [], []⟩
def d_breach : He.DefD := ⟨("breach", none), "breach", "breach", defArgs s_breach, defBody s_breach, defScope s_breach, [], []⟩
def d_is_done : He.DefD := ⟨("is_done", none), "is_done", "is_done", defArgs s_is_done, defBody s_is_done, defScope s_is_done, [], []⟩
def d_is_breach : He.DefD := ⟨("is_breach", none), "is_breach", "is_breach", defArgs s_is_breach, defBody s_is_breach, defScope s_is_breach, [], []⟩
def d_is_test : He.DefD := ⟨("is_test", none), "is_test", "is_test", defArgs s_is_test, defBody s_is_test, defScope s_is_test, [], []⟩
def d_is_statement : He.DefD := ⟨("is_statement", none), "is_statement", "is_statement", defArgs s_is_statement, defBody s_is_statement, defScope s_is_statement, [], []⟩
def d_blocks_in : He.DefD := ⟨("blocks_in", none), "blocks_in", "blocks_in", defArgs s_blocks_in, defBody s_blocks_in, defScope s_blocks_in, [], []⟩
def d_measured : He.DefD := ⟨("measured", none), "measured", "measured", defArgs s_measured, defBody s_measured, defScope s_measured, [], []⟩
def d_Program_init : He.DefD := ⟨("Program", some "__init__"), "__init__", "Program.__init__", defArgs s_Program_init, defBody s_Program_init, defScope s_Program_init, [], []⟩
def d_Program_keep : He.DefD := ⟨("Program", some "keep"), "keep", "Program.keep", defArgs s_Program_keep, defBody s_Program_keep, defScope s_Program_keep, [], []⟩
def d_l_hand : He.DefD := ⟨("_law_hand", none), "_law_hand", "_law_hand", defArgs s_l_hand, defBody s_l_hand, defScope s_l_hand, [], []⟩
def d_l_draw : He.DefD := ⟨("_law_draw", none), "_law_draw", "_law_draw", defArgs s_l_draw, defBody s_l_draw, defScope s_l_draw, [], []⟩
def d_l_contents : He.DefD := ⟨("_law_contents", none), "_law_contents", "_law_contents", defArgs s_l_contents, defBody s_l_contents, defScope s_l_contents, [], []⟩
def d_l_walk : He.DefD := ⟨("_law_walk", none), "_law_walk", "_law_walk", defArgs s_l_walk, defBody s_l_walk, defScope s_l_walk, [], []⟩
def d_l_see : He.DefD := ⟨("_law_see", none), "_law_see", "_law_see", defArgs s_l_see, defBody s_l_see, defScope s_l_see, [], []⟩
def d_l_do : He.DefD := ⟨("_law_do", none), "_law_do", "_law_do", defArgs s_l_do, defBody s_l_do, defScope s_l_do, [], []⟩
def d_l_due : He.DefD := ⟨("_law_due", none), "_law_due", "_law_due", defArgs s_l_due, defBody s_l_due, defScope s_l_due, [], []⟩
def d_l_moved : He.DefD := ⟨("_law_moved", none), "_law_moved", "_law_moved", defArgs s_l_moved, defBody s_l_moved, defScope s_l_moved, [], []⟩
def d_l_shows : He.DefD := ⟨("_law_shows", none), "_law_shows", "_law_shows", defArgs s_l_shows, defBody s_l_shows, defScope s_l_shows, [], []⟩
def d_l_blind_block : He.DefD := ⟨("_law_blind_block", none), "_law_blind_block", "_law_blind_block", defArgs s_l_blind_block, defBody s_l_blind_block, defScope s_l_blind_block, [], []⟩
def d_l_is_int : He.DefD := ⟨("_law_is_int", none), "_law_is_int", "_law_is_int", defArgs s_l_is_int, defBody s_l_is_int, defScope s_l_is_int, [], []⟩
def d_l_is_move : He.DefD := ⟨("_law_is_move", none), "_law_is_move", "_law_is_move", defArgs s_l_is_move, defBody s_l_is_move, defScope s_l_is_move, [], []⟩
def d_l_is_breach : He.DefD := ⟨("_law_is_breach", none), "_law_is_breach", "_law_is_breach", defArgs s_l_is_breach, defBody s_l_is_breach, defScope s_l_is_breach, [], []⟩
def d_l_some_moves : He.DefD := ⟨("_law_some_moves", none), "_law_some_moves", "_law_some_moves", defArgs s_l_some_moves, defBody s_l_some_moves, defScope s_l_some_moves, [], []⟩
def d_l_bent : He.DefD := ⟨("_law_bent", none), "_law_bent", "_law_bent", defArgs s_l_bent, defBody s_l_bent, defScope s_l_bent, [], []⟩
def d_law : He.DefD := ⟨("law", none), "law", "law", defArgs s_law, defBody s_law, defScope s_law, [], []⟩
def fn : List He.DefD := [d_is_integer, d_is_within, d_is_number, d_is_pair, d_is_row, d_are_ascending, d_is_name, d_common_divisor, d_made, d_times, d_are_sizes, d_many_contents, d_raw_contents, d_is_pattern, d_is_content, d_check_content, d_State_init, d_State_statement, d_State_step, d_State_leave, d_State_enter, d_State_go_on, d_State_met, d_State_tested, d_begin, d_after_throw, d_after_open, d_outcomes, d_all_outcomes, d_raw_is_blind, d_is_policy, d_check_policy, d_is_alike, d_Keeper_init, d_Keeper_next_row, d_Keeper_row_now, d_Keeper_put, d_Keeper_due, d_Keeper_begin_row, d_Keeper_make_sure, d_Keeper_throw, d_Keeper_go, d_Keeper_open_column, d_Keeper_show_pattern, d_Keeper_fall, d_Keeper_peeked, d_check_blind, d_moves_until, d_breach_of, d_breach, d_is_done, d_is_breach, d_is_test, d_is_statement, d_blocks_in, d_measured, d_Program_init, d_Program_keep, d_l_hand, d_l_draw, d_l_contents, d_l_walk, d_l_see, d_l_do, d_l_due, d_l_moved, d_l_shows, d_l_blind_block, d_l_is_int, d_l_is_move, d_l_is_breach, d_l_some_moves, d_l_bent, d_law]
def fa0 : List He.Fa := [.glo "is_integer", .glo "is_within", .glo "is_number", .glo "is_pair", .glo "is_row", .glo "are_ascending", .glo "is_name", .glo "common_divisor", .glo "made", .glo "times", .glo "are_sizes", .glo "many_contents", .glo "raw_contents", .glo "is_pattern", .glo "is_content", .glo "check_content", .glo "begin", .glo "after_throw", .glo "after_open", .glo "outcomes", .glo "all_outcomes", .glo "raw_is_blind", .glo "is_policy", .glo "check_policy", .glo "is_alike", .glo "check_blind", .glo "moves_until", .glo "breach_of", .glo "breach", .glo "is_done"]
def fa1 : List He.Fa := [.glo "is_breach", .glo "is_test", .glo "is_statement", .glo "blocks_in", .glo "measured", .glo "_law_hand", .glo "_law_draw", .glo "_law_contents", .glo "_law_walk", .glo "_law_see", .glo "_law_do", .glo "_law_due", .glo "_law_moved", .glo "_law_shows", .glo "_law_blind_block", .glo "_law_is_int", .glo "_law_is_move", .glo "_law_is_breach", .glo "_law_some_moves", .glo "_law_bent", .glo "law", .glo "State", .glo "Keeper", .glo "Program", .glo "ONE", .glo "TooMany", .free "isinstance", .free "len", .free "all", .free "any"]
def fa2 : List He.Fa := [.free "range", .free "int", .free "bool", .free "str", .free "tuple", .free "list", .free "dict", .free "sorted", .free "abs", .free "max", .free "zip", .int "MOST_COLUMNS" 5, .int "MOST_CONTENTS" 256, .int "MOST_RUNS" 2000, .int "MOST_STATEMENTS" 60, .int "MOST_DEEP" 6, .int "MOST_SIDES" 12, .int "MOST_TIMES" 8, .cls "State", .mkr "State", .noat "State" "told", .noat "State" "opened", .noat "State" "place", .noat "State" "deed", .noat "State" "sizes", .noat "State" "block", .noat "State" "program", .noat "State" "policy", .noat "State" "contents_put", .noat "State" "columns_seen"]
def fa3 : List He.Fa := [.noat "State" "patterns_told", .noat "State" "sure_lines", .noat "State" "loose_lines", .noat "State" "live", .noat "State" "sure", .cls "Program", .mkr "Program", .noat "Program" "told", .noat "Program" "opened", .noat "Program" "place", .noat "Program" "deed", .noat "Program" "sizes", .noat "Program" "block", .noat "Program" "program", .noat "Program" "policy", .noat "Program" "contents_put", .noat "Program" "columns_seen", .noat "Program" "patterns_told", .noat "Program" "sure_lines", .noat "Program" "loose_lines", .noat "Program" "live", .noat "Program" "sure", .cls "Keeper", .mkr "Keeper", .noat "Keeper" "told", .noat "Keeper" "opened", .noat "Keeper" "place", .noat "Keeper" "deed", .noat "Keeper" "sizes", .noat "Keeper" "block"]
def fa4 : List He.Fa := [.noat "Keeper" "program", .noat "Keeper" "policy", .noat "Keeper" "contents_put", .noat "Keeper" "columns_seen", .noat "Keeper" "patterns_told", .noat "Keeper" "sure_lines", .noat "Keeper" "loose_lines", .noat "Keeper" "live", .noat "Keeper" "sure", .meth "State" "statement", .meth "State" "step", .meth "State" "leave", .meth "State" "enter", .meth "State" "go_on", .meth "State" "met", .meth "State" "tested", .meth "Keeper" "next_row", .meth "Keeper" "row_now", .meth "Keeper" "put", .meth "Keeper" "due", .meth "Keeper" "begin_row", .meth "Keeper" "make_sure", .meth "Keeper" "throw", .meth "Keeper" "go", .meth "Keeper" "open_column", .meth "Keeper" "show_pattern", .meth "Keeper" "fall", .meth "Keeper" "peeked", .meth "Program" "keep"]
def fa : List He.Fa := fa0 ++ fa1 ++ fa2 ++ fa3 ++ fa4
/-- the facts and the tuple ONE -/
abbrev AlO : Type := He.AlD × Bool
def obsO (K : PySem.W.Frag) : AlO := (He.obsD fa fn K, He.tupB K "ONE" [.int 1, .int 1])
def valO : AlO := (He.valD fn, true)
def obsOG (n : Nat) (g : Addr → Option Obj) : AlO := obsO (He.frG g (He.asD g n))
def hookO (n : Nat) : PySem.W.Hook where
  α := AlO
  obs := fun s => obsOG n s.heap.get?
  val := fun _ => valO
  says := fun _ h => ∃ K : PySem.W.Frag, K.In h ∧ obsO K = valO
  of := fun _ _ e => ⟨_, He.frG_in, e⟩
  keeps := fun _ _ _ ⟨K, hK, c⟩ k => ⟨K, PySem.W.Frag.In.keeps hK k, c⟩
theorem obsOG_eq {n : Nat} {g : Addr → Option Obj} {s : Shared} (h : ∀ a, g a = s.heap.get? a) : obsOG n g = (hookO n).obs s := by
  have e : g = s.heap.get? := funext h
  rw [e] <;> rfl
abbrev R : PySem.W.OpenRow := PySem.W.OpenLaw.row PySem.Challenge.rw_fairmasks_k56_whole_breaches_by_falls
abbrev hk : PySem.W.Hook := hookO 5
def ob (s : PySem.W.SharedT) : AlO := obsOG 5 (HandSHeadRun.getT s)
theorem ob_eq (s : PySem.W.SharedT) : ob s = hk.obs s.abs := obsOG_eq (HandSHeadRun.getT_eq s)
def loose0 : List Str := ["_wall", "__name__", "MaskError", "NoContent", "NoNumber", "BadProgram", "TooMany", "NotBlind", "NoPolicy", "NotDue", "is_integer", "is_within", "is_number", "is_pair", "is_row", "are_ascending", "is_name", "ONE", "common_divisor", "made", "times", "MOST_COLUMNS", "MOST_CONTENTS", "are_sizes", "many_contents", "raw_contents", "is_pattern", "is_content", "check_content", "MOST_RUNS"]
def loose1 : List Str := ["State", "begin", "after_throw", "after_open", "outcomes", "all_outcomes", "raw_is_blind", "is_policy", "check_policy", "is_alike", "Keeper", "check_blind", "moves_until", "breach_of", "breach", "is_done", "is_breach", "MOST_STATEMENTS", "MOST_DEEP", "MOST_SIDES", "MOST_TIMES", "is_test", "is_statement", "blocks_in", "measured", "Program", "_law_hand", "_law_draw", "_law_contents", "_law_walk"]
def loose2 : List Str := ["_law_see", "_law_do", "_law_due", "_law_moved", "_law_shows", "_law_blind_block", "_law_is_int", "_law_is_move", "_law_is_breach", "_law_some_moves", "_law_bent"]
def looseN : List Str := loose0 ++ loose1 ++ loose2
theorem run (w : World) : HandSHeadRun.RunEq R (PySem.W.view R.prog [79]) hk ob 6000 looseN w := by
  intro os
  kernel_rfl
end Hd
set_option Elab.async false
set_option linter.all false
/-! Data: values without a heap, a small memory of what is changed, and the shapes of readings over them. -/
namespace G
open PySem

abbrev Key := Sum Int Str
inductive Cl where | state | keeper | prog
  deriving DecidableEq
/-- a value that never changes again, or a pointer into the memory -/
inductive D where
  | non | bl (b : Bool) | int (i : Int) | str (x : Str)
  | tup (l : List D) | lst (l : List D) | dic (kvs : List (Key × D)) | obj (c : Cl) (fs : List (Str × D))
  | ptr (a : Addr) | scr (ns : List Int)
/-- what may be changed -/
inductive MO where
  | lst (l : List D) | dic (kvs : List (Key × D)) | ins (c : Cl) (fs : List (Str × D))
abbrev Mem := Addr → Option MO
def Mem.nil : Mem := fun _ => none
def Mem.set (M : Mem) (a : Addr) (o : MO) : Mem := fun b => if b = a then some o else M b
def Mem.del (M : Mem) (a : Addr) : Mem := fun b => if b = a then none else M b
def Mem.le (M M' : Mem) : Prop := ∀ a o, M a = some o → M' a = some o
theorem Mem.same {M : Mem} {a : Addr} {o : MO} : M.set a o a = some o := if_pos rfl
theorem Mem.ne {M : Mem} {a b : Addr} {o : MO} (h : b ≠ a) : M.set a o b = M b := if_neg h
theorem Mem.dsame {M : Mem} {a : Addr} : M.del a a = none := if_pos rfl
theorem Mem.dne {M : Mem} {a b : Addr} (h : b ≠ a) : M.del a b = M b := if_neg h
theorem Mem.le_refl (M : Mem) : M.le M := fun _ _ h => h
theorem Mem.le_trans {A B C : Mem} (h : A.le B) (k : B.le C) : A.le C := fun a o e => k a o (h a o e)
theorem Mem.apart {M : Mem} {a b : Addr} {o : MO} (h : M a = some o) (h' : M b = none) : a ≠ b := by
  intro e; subst e; rw [h] at h'; cases h'
theorem Mem.le_new {M : Mem} {p : Addr} {o : MO} (h : M p = none) : M.le (M.set p o) := fun a u e => by
  rw [Mem.ne (Mem.apart e h)]; exact e

abbrev Slots := List (Option D)
abbrev DE := Slots → Mem → (D → Mem → Prop) → Prop
abbrev DT := Slots → Mem → (Bool → Mem → Prop) → Prop
abbrev DA := Slots → Mem → (List D → Mem → Prop) → Prop
abbrev DI := Slots → Mem → (List D → Mem → Prop) → Prop
abbrev DO := Slots → Mem → (Option Int → Mem → Prop) → Prop
structure DEnds where
  nx : Slots → Mem → Prop
  rt : D → Mem → Prop
  bk : Slots → Mem → Prop := fun _ _ => False
  ct : Slots → Mem → Prop := fun _ _ => False
abbrev DS := DEnds → Slots → Mem → Prop
abbrev DG := D → Slots → Mem → (Slots → Mem → Prop) → Prop
abbrev DGs := List D → Slots → Mem → (Slots → Mem → Prop) → Prop
/-- what a def does to its arguments: pure ones, ones that change the memory -/
abbrev PSp := List D → (D → Prop) → Prop
abbrev DSp := List D → Mem → (D → Mem → Prop) → Prop

def lim : Nat := 1000000

/-! ### places, keys -/
def ixN (n : Nat) (i : Int) : Option Nat := if 0 ≤ i then (if i < n then some i.toNat else none) else if -(n : Int) ≤ i then some (i + n).toNat else none
def atI {α : Type} (xs : List α) (i : Int) : Option α := (ixN xs.length i).bind fun j => xs[j]?
theorem atI_nat {α : Type} {xs : List α} {j : Nat} {v : α} (h : xs[j]? = some v) : atI xs (j : Int) = some v := by
  have hl : j < xs.length := (List.getElem?_eq_some_iff.mp h).1
  show (ixN xs.length (j : Int)).bind _ = _
  have e : ixN xs.length (j : Int) = some j := by
    unfold ixN
    rw [if_pos (by omega), if_pos (by omega)]
    simp
  rw [e]
  exact h
theorem atI_last {α : Type} (xs : List α) (v : α) : atI (xs ++ [v]) (-1) = some v := by
  show (ixN (xs ++ [v]).length (-1)).bind _ = _
  have e : ixN (xs ++ [v]).length (-1) = some xs.length := by
    unfold ixN
    rw [if_neg (by omega), if_pos (by simp only [List.length_append, List.length_cons, List.length_nil]; omega)]
    simp only [List.length_append, List.length_cons, List.length_nil]
    congr 1
    omega
  rw [e]
  simp
def cIx (n d : Nat) : Option Int → Nat
  | none => d
  | some v => if v < 0 then (v + n).toNat else min v.toNat n
def cut {α : Type} (xs : List α) (lo hi : Option Int) : List α := (xs.drop (cIx xs.length 0 lo)).take (cIx xs.length xs.length hi - cIx xs.length 0 lo)
section
variable {κ : Type} [DecidableEq κ]
def val (kvs : List (κ × D)) (k : κ) : Option D := (kvs.find? fun kv => decide (kv.1 = k)).map (·.2)
def put (kvs : List (κ × D)) (k : κ) (v : D) : List (κ × D) :=
  if (kvs.any fun kv => decide (kv.1 = k)) = true then kvs.map (fun kv => if kv.1 = k then (kv.1, v) else kv) else kvs ++ [(k, v)]
end
theorem val_pos {κ : Type} [DecidableEq κ] {k : κ} {d : D} {r : List (κ × D)} : val ((k, d) :: r) k = some d := by simp [val, List.find?_cons]
theorem val_neg {κ : Type} [DecidableEq κ] {k q : κ} {d : D} {r : List (κ × D)} (e : ¬ k = q) : val ((k, d) :: r) q = val r q := by simp [val, List.find?_cons, e]
def putF (f : Str) (v : D) : List (Str × D) → List (Str × D)
  | [] => [(f, v)]
  | (g, x) :: r => if g = f then (g, v) :: r else (g, x) :: putF f v r
def keyOf : D → Option Key
  | .int i => some (.inl i)
  | .str x => some (.inr x)
  | _ => none

/-! ### equality as Python has it, of plain data -/
mutual
def deq : D → D → Bool
  | .non, .non => true
  | .bl a, .bl b => a == b
  | .bl a, .int j => (if a then 1 else 0) == j
  | .int i, .bl b => i == (if b then 1 else 0)
  | .int i, .int j => i == j
  | .str x, .str y => x == y
  | .lst xs, .lst ys => deqL xs ys
  | .tup xs, .tup ys => deqL xs ys
  | _, _ => false
def deqL : List D → List D → Bool
  | [], [] => true
  | x :: xs, y :: ys => deq x y && deqL xs ys
  | _, _ => false
end
mutual
def plain : Nat → D → Bool
  | _, .non => true
  | _, .bl _ => true
  | _, .int _ => true
  | _, .str x => x.cps.all (· < 0x110000)
  | n + 1, .lst xs => plainL n xs
  | n + 1, .tup xs => plainL n xs
  | _, _ => false
def plainL : Nat → List D → Bool
  | _, [] => true
  | n, x :: xs => plain n x && plainL n xs
end
/-- numbers, texts, None, flags -/
def flat : D → Bool
  | .non => true
  | .bl _ => true
  | .int _ => true
  | .str _ => true
  | _ => false

/-! ### operations -/
abbrev Op2 := Mem → D → D → (D → Prop) → Prop
def dAdd : Op2 := fun _ x y k => match x, y with
  | .int i, .int j => k (.int (i + j))
  | .tup a, .tup b => a.length + b.length ≤ lim ∧ k (.tup (a ++ b))
  | .lst a, .lst b => a.length + b.length ≤ lim ∧ k (.lst (a ++ b))
  | _, _ => False
def dSub : Op2 := fun _ x y k => match x, y with
  | .int i, .int j => k (.int (i - j))
  | _, _ => False
def dMul : Op2 := fun _ x y k => match x, y with
  | .int i, .int j => ((-(2 ^ 64) < i ∧ i < 2 ^ 64) ∨ (-(2 ^ 64) < j ∧ j < 2 ^ 64)) ∧ k (.int (i * j))
  | _, _ => False
def dMod : Op2 := fun _ x y k => match x, y with
  | .int i, .int j => 0 < j ∧ k (.int (i % j))
  | _, _ => False
def dDiv : Op2 := fun _ x y k => match x, y with
  | .int i, .int j => (0 < j ∧ j < 1073741824) ∧ k (.int (i / j))
  | _, _ => False
def dPow : Op2 := fun _ x y k => match x, y with
  | .int i, .int j => (0 ≤ j ∧ j ≤ 1000000 ∧ i.natAbs < 2 ^ 64) ∧ k (.int (i ^ j.toNat))
  | _, _ => False
/-- a list of the memory, as it stands -/
def und (M : Mem) : D → D
  | .ptr a => match M a with
    | some (.lst l) => .lst l
    | _ => .ptr a
  | x => x
def dEq : Op2 := fun M x y k => match x, y with
  | .int i, .int j => k (.bl (decide (i = j)))
  | .str a, .str b => k (.bl (decide (a = b)))
  | .bl a, .bl b => k (.bl (decide (a = b)))
  | x, y => (plain 60 (und M x) = true ∧ plain 60 (und M y) = true) ∧ k (.bl (deq (und M x) (und M y)))
def dNe : Op2 := fun M x y k => match x, y with
  | .int i, .int j => k (.bl (!decide (i = j)))
  | .str a, .str b => k (.bl (!decide (a = b)))
  | .bl a, .bl b => k (.bl (!decide (a = b)))
  | x, y => (plain 60 (und M x) = true ∧ plain 60 (und M y) = true) ∧ k (.bl (!deq (und M x) (und M y)))
def dLt : Op2 := fun _ x y k => match x, y with
  | .int i, .int j => k (.bl (decide (i < j)))
  | _, _ => False
def dLe : Op2 := fun _ x y k => match x, y with
  | .int i, .int j => k (.bl (decide (i ≤ j)))
  | .str i, .str j => k (.bl (!decide (j.cps.toList < i.cps.toList)))
  | _, _ => False
def dGt : Op2 := fun _ x y k => match x, y with
  | .int i, .int j => k (.bl (decide (j < i)))
  | _, _ => False
def dGe : Op2 := fun _ x y k => match x, y with
  | .int i, .int j => k (.bl (decide (j ≤ i)))
  | _, _ => False
/-- the items of a sequence -/
def items (M : Mem) : D → Option (List D)
  | .tup l => some l
  | .lst l => some l
  | .ptr a => match M a with
    | some (.lst l) => some l
    | _ => none
  | _ => none
def isT : D → Bool
  | .tup _ => true
  | _ => false
/-- x in y: flat items, or plain data -/
def dIn : Op2 := fun M x y k => ∃ l, items M y = some l ∧ (((flat x = true ∧ l.all flat = true) ∨ (plain 60 x = true ∧ plainL 59 l = true ∧ isT y = false)) ∧ k (.bl (l.any fun z => deq z x)))
def dNotIn : Op2 := fun M x y k => ∃ l, items M y = some l ∧ (((flat x = true ∧ l.all flat = true) ∨ (plain 60 x = true ∧ plainL 59 l = true ∧ isT y = false)) ∧ k (.bl (!l.any fun z => deq z x)))
def dIx : Op2 := fun M x y k => ∃ l i d, items M x = some l ∧ y = .int i ∧ atI l i = some d ∧ k d
def dIsN : D → Bool
  | .non => true
  | _ => false
def dNotBl : Op2 := fun _ x y k => match x, y with
  | .bl a, .bl b => k (.bl (!decide (a = b)))
  | _, _ => False

/-! ### expressions -/
def gVar (i : Nat) : DE := fun Γ M Q => match Γ[i]? with
  | some (some d) => Q d M
  | _ => False
/-- a list or dict that is not changed any more -/
def gFz (ge : DE) : DE := fun Γ M Q => ge Γ M fun x M1 => ∃ a, x = .ptr a ∧ ((∃ l, M1 a = some (.lst l) ∧ Q (.lst l) (M1.del a)) ∨ (∃ l, M1 a = some (.dic l) ∧ Q (.dic l) (M1.del a)))
def gC (d : D) : DE := fun _ M Q => Q d M
def gOp (f : Op2) (ga gb : DE) : DE := fun Γ M Q => ga Γ M fun x M1 => gb Γ M1 fun y M2 => f M2 x y fun z => Q z M2
def gIsN (ga : DE) : DE := fun Γ M Q => ga Γ M fun x M1 => Q (.bl (dIsN x)) M1
def gNotN (ga : DE) : DE := fun Γ M Q => ga Γ M fun x M1 => Q (.bl (!dIsN x)) M1
def gChain (f f' : Op2) (ga gb gc : DE) : DE := fun Γ M Q => ga Γ M fun x M1 => gb Γ M1 fun y M2 => f M2 x y fun z => match z with
  | .bl true => gc Γ M2 fun u M3 => f' M3 y u fun z => Q z M3
  | .bl false => Q (.bl false) M2
  | _ => False
def gAnd (ga gb : DE) : DE := fun Γ M Q => ga Γ M fun x M1 => match x with
  | .bl true => gb Γ M1 Q
  | .bl false => Q (.bl false) M1
  | _ => False
def gOr (ga gb : DE) : DE := fun Γ M Q => ga Γ M fun x M1 => match x with
  | .bl true => Q (.bl true) M1
  | .bl false => gb Γ M1 Q
  | _ => False
def gNot (ga : DE) : DE := fun Γ M Q => ga Γ M fun x M1 => match x with
  | .bl c => Q (.bl (!c)) M1
  | _ => False
def gIf (t : DT) (ga gb : DE) : DE := fun Γ M Q => t Γ M fun c M1 => match c with
  | true => ga Γ M1 Q
  | false => gb Γ M1 Q
def gNil : DA := fun _ M Q => Q [] M
def gCons (ge : DE) (ga : DA) : DA := fun Γ M Q => ge Γ M fun x M1 => ga Γ M1 fun xs M2 => Q (x :: xs) M2
def gTup (ga : DA) : DE := fun Γ M Q => ga Γ M fun xs M1 => xs.length ≤ lim ∧ Q (.tup xs) M1
/-- a list that may be changed; one that never is -/
def gLst (ga : DA) : DE := fun Γ M Q => ga Γ M fun xs M1 => xs.length ≤ lim ∧ ∀ p, M1 p = none → Q (.ptr p) (M1.set p (.lst xs))
def gLstF (ga : DA) : DE := fun Γ M Q => ga Γ M fun xs M1 => xs.length ≤ lim ∧ Q (.lst xs) M1
def gDic0 : DE := fun _ M Q => ∀ p, M p = none → Q (.ptr p) (M.set p (.dic []))
def gDic0F : DE := fun _ M Q => Q (.dic []) M
/-- {'a': .., 'b': ..} with written text keys, all unlike -/
def gDict (ks : List Str) (ga : DA) : DE := fun Γ M Q => ga Γ M fun xs M1 => xs.length = ks.length ∧ ∀ p, M1 p = none → Q (.ptr p) (M1.set p (.dic ((ks.map Sum.inr).zip xs)))
def dcts (M : Mem) : D → Option (List (Key × D))
  | .dic l => some l
  | .ptr a => match M a with
    | some (.dic l) => some l
    | _ => none
  | _ => none
def dGet : Op2 := fun M x y k => ∃ l q d, dcts M x = some l ∧ keyOf y = some q ∧ val l q = some d ∧ k d
def dHas : Op2 := fun M y x k => ∃ l q, dcts M x = some l ∧ keyOf y = some q ∧ k (.bl (val l q).isSome)
def dHasNot : Op2 := fun M y x k => ∃ l q, dcts M x = some l ∧ keyOf y = some q ∧ k (.bl (!(val l q).isSome))
/-- d.get(k, x) -/
def gGet (gd gk gx : DE) : DE := fun Γ M Q => gd Γ M fun x M1 => ∃ l0, dcts M1 x = some l0 ∧ gk Γ M1 fun y M2 => gx Γ M2 fun z M3 => ∃ l q, dcts M3 x = some l ∧ keyOf y = some q ∧ Q ((val l q).getD z) M3
def oNone : DO := fun _ M Q => Q none M
def oSome (ge : DE) : DO := fun Γ M Q => ge Γ M fun x M1 => match x with
  | .int i => Q (some i) M1
  | _ => False
def gSlice (ge : DE) (lo hi : DO) : DE := fun Γ M Q => ge Γ M fun x M1 => lo Γ M1 fun l M2 => hi Γ M2 fun h M3 => match x with
  | .tup xs => Q (.tup (cut xs l h)) M3
  | .lst xs => Q (.lst (cut xs l h)) M3
  | .scr ns => Q (.lst ((cut ns l h).map D.int)) M3
  | _ => False
/-- o.f -/
def gFld (ge : DE) (f : Str) : DE := fun Γ M Q => ge Γ M fun x M1 => match x with
  | .obj _ fs => ∃ d, fs.lookup f = some d ∧ Q d M1
  | .ptr a => ∃ c fs d, M1 a = some (.ins c fs) ∧ fs.lookup f = some d ∧ Q d M1
  | _ => False
/-- a call of one place that changes nothing -/
abbrev Op1 := Mem → D → (D → Prop) → Prop
def gB (f : Op1) (ge : DE) : DE := fun Γ M Q => ge Γ M fun x M1 => f M1 x fun z => Q z M1
def dLen : Op1 := fun M x k => match x with
  | .str s => s.length ≤ lim ∧ k (.int s.length)
  | x => ∃ l, items M x = some l ∧ k (.int l.length)
def dAbs : Op1 := fun _ x k => match x with
  | .int i => k (.int (if i < 0 then -i else i))
  | _ => False
def dInt : Op1 := fun _ x k => match x with
  | .int i => k (.int i)
  | _ => False
def dNeg : Op1 := fun _ x k => match x with
  | .int i => k (.int (-i))
  | _ => False
def blsOf : List D → Option (List Bool)
  | [] => some []
  | .bl b :: r => (blsOf r).map (b :: ·)
  | _ => none
def intsOf : List D → Option (List Int)
  | [] => some []
  | .int i :: r => (intsOf r).map (i :: ·)
  | _ => none
def dAll : Op1 := fun M x k => isT x = false ∧ ∃ l bs, items M x = some l ∧ blsOf l = some bs ∧ k (.bl (bs.all id))
def dAny : Op1 := fun M x k => ∃ l bs, items M x = some l ∧ blsOf l = some bs ∧ k (.bl (bs.any id))
def dMax : Op1 := fun M x k => isT x = false ∧ ∃ l ns, items M x = some l ∧ intsOf l = some ns ∧ 0 < ns.length ∧ ∀ m, m ∈ ns → (∀ y, y ∈ ns → y ≤ m) → k (.int m)
def dSorted : Op1 := fun M x k => ∃ l ns, items M x = some l ∧ intsOf l = some ns ∧ ns.length < 64 ∧ ∀ ns' : List Int, ns'.Perm ns → ns'.Pairwise (· ≤ ·) → k (.lst (ns'.map D.int))
def dTupleOf : Op1 := fun M x k => ∃ l, items M x = some l ∧ k (.tup l)
def dListOf : Op1 := fun M x k => ∃ l, items M x = some l ∧ k (.lst l)
/-- tuple(d) of a dict -/
def keyD : Key → D
  | .inl i => .int i
  | .inr x => .str x
def dKeysT : Op1 := fun M x k => ∃ l, dcts M x = some l ∧ k (.tup (l.map fun kv => keyD kv.1))
def dDictOf : Op1 := fun M x k => ∃ l, dcts M x = some l ∧ k (.dic l)
/-- dict(d), to be changed -/
def gDictM (ge : DE) : DE := fun Γ M Q => ge Γ M fun x M1 => ∃ l, dcts M1 x = some l ∧ ∀ p, M1 p = none → Q (.ptr p) (M1.set p (.dic l))
inductive Ty where | int | bool | str | tup | seq
def isI : Ty → D → Bool
  | .int, .int _ => true
  | .int, .bl _ => true
  | .bool, .bl _ => true
  | .str, .str _ => true
  | .tup, .tup _ => true
  | .seq, .tup _ => true
  | .seq, .lst _ => true
  | _, _ => false
def noPtr : D → Bool
  | .ptr _ => false
  | .scr _ => false
  | .obj _ _ => false
  | _ => true
def dIsI (T : Ty) : Op1 := fun _ x k => noPtr x = true ∧ k (.bl (isI T x))
/-! methods -/
def gAppend (go ge : DE) : DE := fun Γ M Q => go Γ M fun x M1 => ∃ a l1, x = .ptr a ∧ M1 a = some (.lst l1) ∧ ge Γ M1 fun y M2 => ∃ l, M2 a = some (.lst l) ∧ l.length < lim ∧ Q .non (M2.set a (.lst (l ++ [y])))
def gExtend (go ge : DE) : DE := fun Γ M Q => go Γ M fun x M1 => ∃ a l1, x = .ptr a ∧ M1 a = some (.lst l1) ∧ ge Γ M1 fun y M2 => ∃ l r, M2 a = some (.lst l) ∧ items M2 y = some r ∧ l.length + r.length ≤ lim ∧ Q .non (M2.set a (.lst (l ++ r)))
def gPop (go : DE) : DE := fun Γ M Q => go Γ M fun x M1 => ∃ a l y, x = .ptr a ∧ M1 a = some (.lst (l ++ [y])) ∧ Q y (M1.set a (.lst l))
/-! calls -/
def gPure (sp : PSp) (ga : DA) : DE := fun Γ M Q => ga Γ M fun xs M1 => sp xs fun d => Q d M1
def gCall (sp : DSp) (ga : DA) : DE := fun Γ M Q => ga Γ M fun xs M1 => sp xs M1 Q
def gMeth (c : Cl) (m : Str) (sp : DSp) (go : DE) (ga : DA) : DE := fun Γ M Q => go Γ M fun x M1 => ∃ a fs, x = .ptr a ∧ M1 a = some (.ins c fs) ∧ fs.lookup m = none ∧ ga Γ M1 fun xs M2 => sp (x :: xs) M2 Q
/-- C(..): one that may change; one that never does again -/
def gMake (c : Cl) (sp : DSp) (ga : DA) : DE := fun Γ M Q => ga Γ M fun xs M1 => ∀ p, M1 p = none → sp (.ptr p :: xs) (M1.set p (.ins c [])) fun d M2 => d = .non ∧ Q (.ptr p) M2
def gMakeF (c : Cl) (sp : DSp) (ga : DA) : DE := fun Γ M Q => ga Γ M fun xs M1 => ∀ p, M1 p = none → sp (.ptr p :: xs) (M1.set p (.ins c [])) fun d M2 => d = .non ∧ ∃ fs, M2 p = some (.ins c fs) ∧ Q (.obj c fs) (M2.del p)

/-! ### tests -/
def tE (g : DE) : DT := fun Γ M Q => g Γ M fun x M1 => match x with
  | .bl c => Q c M1
  | _ => False
def tAnd (t u : DT) : DT := fun Γ M Q => t Γ M fun c M1 => match c with
  | true => u Γ M1 Q
  | false => Q false M1
def tOr (t u : DT) : DT := fun Γ M Q => t Γ M fun c M1 => match c with
  | true => Q true M1
  | false => u Γ M1 Q
def tNot (t : DT) : DT := fun Γ M Q => t Γ M fun c M1 => Q (!c) M1

/-! ### targets -/
def aName (i : Nat) : DG := fun d Γ M Q => Q (Γ.set i (some d)) M
def aNil : DGs := fun ds Γ M Q => ds = [] ∧ Q Γ M
def aCons (a : DG) (as : DGs) : DGs := fun ds Γ M Q => match ds with
  | d :: r => a d Γ M fun Γ1 M1 => as r Γ1 M1 Q
  | [] => False
def aTup (n : Nat) (as : DGs) : DG := fun d Γ M Q => match d with
  | .tup l => l.length = n ∧ as l Γ M Q
  | _ => False

/-! ### statements -/
def sNext : DS := fun E Γ M => E.nx Γ M
def sSeq (a b : DS) : DS := fun E Γ M => a { E with nx := b E } Γ M
def sAsg (ge : DE) (a : DG) : DS := fun E Γ M => ge Γ M fun d M1 => a d Γ M1 E.nx
def sDrop (ge : DE) : DS := fun E Γ M => ge Γ M fun _ M1 => E.nx Γ M1
def sRet (ge : DE) : DS := fun E Γ M => ge Γ M E.rt
def sIf (t : DT) (a b : DS) : DS := fun E Γ M => t Γ M fun c M1 => match c with
  | true => a E Γ M1
  | false => b E Γ M1
def sBreak : DS := fun E Γ M => E.bk Γ M
def sNever : DS := fun _ _ _ => False
/-- o.f = e -/
def sFld (go ge : DE) (f : Str) : DS := fun E Γ M => ge Γ M fun y M1 => go Γ M1 fun x M2 => ∃ a c fs, x = .ptr a ∧ M2 a = some (.ins c fs) ∧ fs.length < 1000 ∧ E.nx Γ (M2.set a (.ins c (putF f y fs)))
/-- o[i] = e: a list; a dict -/
def sIx (go gi ge : DE) : DS := fun E Γ M => ge Γ M fun y M1 => go Γ M1 fun x M2 => gi Γ M2 fun i M3 => ∃ a l k j, x = .ptr a ∧ i = .int k ∧ M3 a = some (.lst l) ∧ ixN l.length k = some j ∧ E.nx Γ (M3.set a (.lst (l.set j y)))
def sKey (go gi ge : DE) : DS := fun E Γ M => ge Γ M fun y M1 => go Γ M1 fun x M2 => gi Γ M2 fun i M3 => ∃ a l q, x = .ptr a ∧ M3 a = some (.dic l) ∧ keyOf i = some q ∧ l.length < lim ∧ E.nx Γ (M3.set a (.dic (put l q y)))
/-- x += e -/
def sAug (i : Nat) (ge : DE) : DS := fun E Γ M => ∃ n, Γ[i]? = some (some (.int n)) ∧ ge Γ M fun y M1 => match y with
  | .int m => E.nx (Γ.set i (some (.int (n + m)))) M1
  | _ => False
/-- for: the items are known -/
def forD (a : DG) (b : DS) (E : DEnds) : List D → Slots → Mem → Prop
  | [], Γ, M => E.nx Γ M
  | d :: r, Γ, M => a d Γ M fun Γ1 M1 => b { E with nx := forD a b E r, ct := forD a b E r, bk := E.nx } Γ1 M1
def sFor (gi : DI) (a : DG) (b : DS) : DS := fun E Γ M => gi Γ M fun ds M1 => forD a b E ds Γ M1
/-- while: n turns at most -/
def whD (t : DT) (b : DS) (E : DEnds) : Nat → Slots → Mem → Prop
  | 0, _, _ => False
  | n + 1, Γ, M => t Γ M fun c M1 => match c with
    | true => b { E with nx := whD t b E n, ct := whD t b E n, bk := E.nx } Γ M1
    | false => E.nx Γ M1
def sWhile (t : DT) (b : DS) : DS := fun E Γ M => ∃ n, whD t b E n Γ M
/-! what is walked -/
def iSeq (ge : DE) : DI := fun Γ M Q => ge Γ M fun x M1 => match x with
  | .tup l => Q l M1
  | .lst l => Q l M1
  | _ => False
def iStr (ge : DE) : DI := fun Γ M Q => ge Γ M fun x M1 => match x with
  | .str s => Q (s.cps.toList.map fun c => .str ⟨#[c]⟩) M1
  | _ => False
def upTo (lo : Int) (n : Nat) : List D := (List.range n).map fun (i : Nat) => D.int (lo + (i : Int))
def iRng (ga : DA) : DI := fun Γ M Q => ga Γ M fun xs M1 => match xs with
  | [.int j] => (-(2 ^ 62) ≤ j ∧ j < 2 ^ 62) ∧ Q (upTo 0 j.toNat) M1
  | [.int i, .int j] => (-(2 ^ 62) ≤ i ∧ i < 2 ^ 62 ∧ -(2 ^ 62) ≤ j ∧ j < 2 ^ 62) ∧ Q (upTo i (j - i).toNat) M1
  | _ => False
/-- range(i, j, -1) -/
def downTo (i : Int) (n : Nat) : List D := (List.range n).map fun (k : Nat) => D.int (i + (k : Int) * (-1))
def iDown (ga : DA) : DI := fun Γ M Q => ga Γ M fun xs M1 => match xs with
  | [.int i, .int j, .int c] => c = -1 ∧ (-(2 ^ 62) ≤ i ∧ i < 2 ^ 62 ∧ -(2 ^ 62) ≤ j ∧ j < 2 ^ 62) ∧ Q (downTo i (i - j).toNat) M1
  | _ => False
/-- zip of two tuples, of two lists -/
def iZip (ga : DA) : DI := fun Γ M Q => ga Γ M fun xs M1 => match xs with
  | [.tup a, .tup b] => Q ((a.zip b).map fun p => .tup [p.1, p.2]) M1
  | [.lst a, .lst b] => Q ((a.zip b).map fun p => .tup [p.1, p.2]) M1
  | _ => False

/-! ### comprehensions -/
def wipe (Γ : Slots) : List Nat → Slots
  | [] => Γ
  | v :: vs => (wipe Γ vs).set v none
def cmD (a : DG) (t : DT) (ge : DE) (vs : List Nat) (Γ : Slots) : List D → List D → Mem → (List D → Mem → Prop) → Prop
  | [], acc, M, Q => Q acc M
  | d :: r, acc, M, Q => a d (wipe Γ vs) M fun Γ1 M1 => wipe Γ1 vs = wipe Γ vs ∧ t Γ1 M1 fun c M2 => match c with
    | true => ge Γ1 M2 fun y M3 => acc.length < lim ∧ cmD a t ge vs Γ r (acc ++ [y]) M3 Q
    | false => cmD a t ge vs Γ r acc M2 Q
def gComp (gi : DI) (a : DG) (t : DT) (ge : DE) (vs : List Nat) : DE := fun Γ M Q => gi Γ M fun ds M1 => cmD a t ge vs Γ ds [] M1 fun l M2 => Q (.lst l) M2
/-- two fors, no test -/
def cmI (a1 : DG) (ge : DE) (vs1 : List Nat) (Γ : Slots) : List D → List D → Mem → (List D → Mem → Prop) → Prop
  | [], acc, M, Q => Q acc M
  | d :: r, acc, M, Q => a1 d (wipe Γ vs1) M fun Γ1 M1 => wipe Γ1 vs1 = wipe Γ vs1 ∧ ge Γ1 M1 fun y M2 => acc.length < lim ∧ cmI a1 ge vs1 Γ r (acc ++ [y]) M2 Q
def cm2 (a : DG) (gi1 : DI) (a1 : DG) (ge : DE) (vs vs1 : List Nat) (Γ : Slots) : List D → List D → Mem → (List D → Mem → Prop) → Prop
  | [], acc, M, Q => Q acc M
  | d :: r, acc, M, Q => a d (wipe Γ vs) M fun Γ1 M1 => wipe Γ1 vs = wipe Γ vs ∧ gi1 Γ1 M1 fun ds M2 => cmI a1 ge vs1 Γ1 ds acc M2 fun acc' M3 => cm2 a gi1 a1 ge vs vs1 Γ r acc' M3 Q
def gComp2 (gi : DI) (a : DG) (gi1 : DI) (a1 : DG) (ge : DE) (vs vs1 : List Nat) : DE := fun Γ M Q => gi Γ M fun ds M1 => cm2 a gi1 a1 ge vs vs1 Γ ds [] M1 fun l M2 => Q (.lst l) M2
/-! ### a def's entry, its end -/
def startD (N : List Str) (Ds : List D) : Slots := Ds.map some ++ List.replicate (N.length - Ds.length) none
def endsD (P : D → Mem → Prop) : DEnds := { nx := fun _ M => ∃ M', M'.le M ∧ P .non M', rt := fun d M => ∃ M', M'.le M ∧ P d M' }
def endsP (P : D → Prop) : DEnds := { nx := fun _ _ => P .non, rt := fun d _ => P d }
def liftP (ps : PSp) : DSp := fun Ds M P => ps Ds fun d => P d M
end G
set_option Elab.async false
set_option linter.all false
/-! Each def of the text as a reading over data; its callees' promises are parameters. Printed by gen.py. -/
namespace G
open PySem
/-- a, b = x, y -/
def sPar (i j : Nat) (ga gb : DE) : DS := fun E Γ M => ga Γ M fun x M1 => gb Γ M1 fun y M2 => E.nx ((Γ.set i (some x)).set j (some y)) M2
def tYes : DT := fun _ M Q => Q true M
def g_is_integer : DS := (sRet (gAnd (gB (dIsI .int) (gVar 0)) (gNot (gB (dIsI .bool) (gVar 0)))))
def g_is_within (p_is_integer : PSp) : DS := (sRet (gAnd (gPure p_is_integer (gCons (gVar 0) gNil)) (gChain dLe dLe (gVar 1) (gVar 0) (gVar 2))))
def g_is_number (p_is_integer : PSp) : DS := (sRet (gAnd (gPure p_is_integer (gCons (gVar 0) gNil)) (gOp dGe (gVar 0) (gC (.int 0)))))
def g_is_pair : DS := (sRet (gAnd (gB (dIsI .tup) (gVar 0)) (gOp dEq (gB dLen (gVar 0)) (gC (.int 2)))))
def g_is_row : DS := (sRet (gB (dIsI .seq) (gVar 0)))
def g_are_ascending : DS := (sRet (gB dAll (gComp (iRng (gCons (gC (.int 1)) (gCons (gB dLen (gVar 0)) gNil))) (aName 1) tYes (gOp dLt (gOp dIx (gVar 0) (gOp dSub (gVar 1) (gC (.int 1)))) (gOp dIx (gVar 0) (gVar 1))) [1])))
def g_is_name : DS := (sRet (gAnd (gB (dIsI .str) (gVar 0)) (gAnd (gChain dLe dLe (gC (.int 1)) (gB dLen (gVar 0)) (gC (.int 8))) (gB dAll (gComp (iStr (gVar 0)) (aName 1) tYes (gChain dLe dLe (gC (.str "a")) (gVar 1) (gC (.str "z"))) [1])))))
def g_common_divisor : DS := (sSeq (sAsg (gB dAbs (gVar 0)) (aName 0)) (sSeq (sAsg (gB dAbs (gVar 1)) (aName 1)) (sSeq (sWhile (tE (gOp dGt (gVar 1) (gC (.int 0)))) (sPar 0 1 (gVar 1) (gOp dMod (gVar 0) (gVar 1)))) (sRet (gVar 0)))))
def g_made (p_common_divisor : PSp) : DS := (sSeq (sAsg (gPure p_common_divisor (gCons (gVar 0) (gCons (gVar 1) gNil))) (aName 2)) (sRet (gTup (gCons (gOp dDiv (gVar 0) (gVar 2)) (gCons (gOp dDiv (gVar 1) (gVar 2)) gNil)))))
def g_times (p_made : PSp) : DS := (sRet (gPure p_made (gCons (gOp dMul (gOp dIx (gVar 0) (gC (.int 0))) (gOp dIx (gVar 1) (gC (.int 0)))) (gCons (gOp dMul (gOp dIx (gVar 0) (gC (.int 1))) (gOp dIx (gVar 1) (gC (.int 1)))) gNil))))
def g_are_sizes (p_is_within : PSp) (p_many_contents : PSp) : DS := (sSeq (sIf (tOr (tNot (tE (gB (dIsI .tup) (gVar 0)))) (tNot (tE (gChain dLe dLe (gC (.int 1)) (gB dLen (gVar 0)) (gC (.int 5)))))) (sRet (gC (.bl false))) sNext) (sRet (gAnd (gB dAll (gComp (iSeq (gVar 0)) (aName 1) tYes (gPure p_is_within (gCons (gVar 1) (gCons (gC (.int 2)) (gCons (gC (.int 4)) gNil)))) [1])) (gOp dLe (gPure p_many_contents (gCons (gVar 0) gNil)) (gC (.int 256))))))
def g_many_contents : DS := (sSeq (sAsg (gC (.int 1)) (aName 1)) (sSeq (sFor (iSeq (gVar 0)) (aName 2) (sAsg (gOp dMul (gVar 1) (gVar 2)) (aName 1))) (sRet (gVar 1))))
def g_raw_contents : DS := (sSeq (sAsg (gLstF (gCons (gTup gNil) gNil)) (aName 1)) (sSeq (sFor (iSeq (gVar 0)) (aName 2) (sAsg (gComp2 (iSeq (gVar 1)) (aName 3) (iRng (gCons (gVar 2) gNil)) (aName 4) (gOp dAdd (gVar 3) (gTup (gCons (gVar 4) gNil))) [3, 4] [4]) (aName 1))) (sRet (gVar 1))))
def g_is_pattern (p_is_within : PSp) (p_are_ascending : PSp) : DS := (sRet (gAnd (gB (dIsI .tup) (gVar 1)) (gAnd (gB dAll (gComp (iSeq (gVar 1)) (aName 2) tYes (gPure p_is_within (gCons (gVar 2) (gCons (gC (.int 0)) (gCons (gOp dSub (gVar 0) (gC (.int 1))) gNil)))) [2])) (gPure p_are_ascending (gCons (gVar 1) gNil)))))
def g_is_content (p_is_within : PSp) : DS := (sSeq (sIf (tOr (tNot (tE (gB (dIsI .tup) (gVar 1)))) (tE (gOp dNe (gB dLen (gVar 1)) (gB dLen (gVar 0))))) (sRet (gC (.bl false))) sNext) (sRet (gB dAll (gComp (iZip (gCons (gVar 1) (gCons (gVar 0) gNil))) (aTup 2 (aCons (aName 2) (aCons (aName 3) aNil))) tYes (gPure p_is_within (gCons (gVar 2) (gCons (gC (.int 0)) (gCons (gOp dSub (gVar 3) (gC (.int 1))) gNil)))) [2, 3]))))
def g_check_content (p_is_content : PSp) : DS := (sIf (tNot (tE (gPure p_is_content (gCons (gVar 0) (gCons (gVar 1) gNil))))) sNever sNext)
def g_State_init (q_State_go_on : DSp) : DS := (sSeq (sFld (gVar 0) (gB dDictOf (gVar 1)) "told") (sSeq (sFld (gVar 0) (gB dDictOf (gVar 2)) "opened") (sSeq (sFld (gVar 0) (gVar 3) "place") (sFld (gVar 0) (gMeth .state "go_on" q_State_go_on (gVar 0) gNil) "deed"))))
def g_State_statement : DS := (sSeq (sAsg (gOp dIx (gFld (gVar 0) "place") (gB dNeg (gC (.int 1)))) (aTup 3 (aCons (aName 1) (aCons (aName 2) (aCons (aName 3) aNil))))) (sSeq (sIf (tE (gOp dEq (gVar 2) (gB dLen (gVar 1)))) (sRet (gC .non)) sNext) (sRet (gOp dIx (gVar 1) (gVar 2)))))
def g_State_step : DS := (sSeq (sAsg (gOp dIx (gFld (gVar 0) "place") (gB dNeg (gC (.int 1)))) (aTup 3 (aCons (aName 1) (aCons (aName 2) (aCons (aName 3) aNil))))) (sFld (gVar 0) (gOp dAdd (gSlice (gFld (gVar 0) "place") oNone (oSome (gB dNeg (gC (.int 1))))) (gTup (gCons (gTup (gCons (gVar 1) (gCons (gOp dAdd (gVar 2) (gC (.int 1))) (gCons (gVar 3) gNil)))) gNil))) "place"))
def g_State_enter (q_State_step : DSp) : DS := (sSeq (sDrop (gMeth .state "step" q_State_step (gVar 0) gNil)) (sFld (gVar 0) (gOp dAdd (gFld (gVar 0) "place") (gTup (gCons (gTup (gCons (gVar 1) (gCons (gC (.int 0)) (gCons (gVar 2) gNil)))) gNil))) "place"))
def g_State_go_on (q_State_statement : DSp) (q_State_met : DSp) : DS := (sSeq (sWhile (tE (gOp dGt (gB dLen (gFld (gVar 0) "place")) (gC (.int 0)))) (sSeq (sAsg (gMeth .state "statement" q_State_statement (gVar 0) gNil) (aName 1)) (sIf (tE (gIsN (gVar 1))) sNever (sSeq (sAsg (gMeth .state "met" q_State_met (gVar 0) (gCons (gVar 1) gNil)) (aName 2)) (sIf (tE (gNotN (gVar 2))) (sRet (gVar 2)) sNext))))) (sRet (gTup (gCons (gC (.str "show")) (gCons (gB dTupleOf (gB dSorted (gFld (gVar 0) "opened"))) gNil)))))
def g_State_met (q_State_step : DSp) (q_State_tested : DSp) : DS := (sSeq (sIf (tE (gOp dEq (gOp dIx (gVar 1) (gC (.int 0))) (gC (.str "throw")))) (sRet (gTup (gCons (gC (.str "throw")) (gCons (gOp dIx (gVar 1) (gC (.int 2))) gNil)))) sNext) (sSeq (sIf (tE (gOp dEq (gOp dIx (gVar 1) (gC (.int 0))) (gC (.str "show")))) (sSeq (sAsg (gComp (iSeq (gOp dIx (gVar 1) (gC (.int 1)))) (aName 3) (tE (gOp dHasNot (gVar 3) (gFld (gVar 0) "opened"))) (gVar 3) [3]) (aName 2)) (sRet (gIf (tE (gOp dGt (gB dLen (gVar 2)) (gC (.int 0)))) (gTup (gCons (gC (.str "open")) (gCons (gOp dIx (gVar 2) (gC (.int 0))) gNil))) (gVar 1)))) sNext) (sSeq (sIf (tE (gOp dEq (gOp dIx (gVar 1) (gC (.int 0))) (gC (.str "open")))) (sSeq (sIf (tE (gOp dHasNot (gOp dIx (gVar 1) (gC (.int 1))) (gFld (gVar 0) "opened"))) (sRet (gVar 1)) sNext) (sDrop (gMeth .state "step" q_State_step (gVar 0) gNil))) (sIf (tE (gOp dEq (gOp dIx (gVar 1) (gC (.int 0))) (gC (.str "put")))) sNever (sIf (tE (gOp dEq (gOp dIx (gVar 1) (gC (.int 0))) (gC (.str "again")))) sNever (sRet (gMeth .state "tested" q_State_tested (gVar 0) (gCons (gVar 1) gNil)))))) (sRet (gC .non)))))
def g_State_tested (q_State_enter : DSp) : DS := (sSeq (sAsg (gOp dIx (gVar 1) (gC (.int 1))) (aName 2)) (sSeq (sIf (tE (gOp dEq (gOp dIx (gVar 2) (gC (.int 0))) (gC (.str "cell")))) (sSeq (sIf (tE (gOp dHasNot (gOp dIx (gVar 2) (gC (.int 1))) (gFld (gVar 0) "opened"))) (sRet (gTup (gCons (gC (.str "open")) (gCons (gOp dIx (gVar 2) (gC (.int 1))) gNil)))) sNext) (sAsg (gOp dEq (gOp dGet (gFld (gVar 0) "opened") (gOp dIx (gVar 2) (gC (.int 1)))) (gOp dIx (gVar 2) (gC (.int 2)))) (aName 3))) (sAsg (gOp dEq (gGet (gFld (gVar 0) "told") (gOp dIx (gVar 2) (gC (.int 1))) (gC (.int 0))) (gOp dIx (gVar 2) (gC (.int 2)))) (aName 3))) (sSeq (sDrop (gMeth .state "enter" q_State_enter (gVar 0) (gCons (gIf (tE (gVar 3)) (gOp dIx (gVar 1) (gC (.int 2))) (gOp dIx (gVar 1) (gC (.int 3)))) (gCons (gC (.int 0)) gNil)))) (sRet (gC .non)))))
def g_begin (q_State_init : DSp) : DS := (sRet (gMakeF .state q_State_init (gCons gDic0F (gCons gDic0F (gCons (gTup (gCons (gTup (gCons (gFld (gVar 0) "block") (gCons (gC (.int 0)) (gCons (gC (.int 0)) gNil)))) gNil)) gNil)))))
def g_after_throw (q_State_init : DSp) : DS := (sSeq (sAsg (gOp dIx (gFld (gVar 0) "place") (gB dNeg (gC (.int 1)))) (aTup 3 (aCons (aName 2) (aCons (aName 3) (aCons (aName 4) aNil))))) (sSeq (sAsg (gDictM (gFld (gVar 0) "told")) (aName 5)) (sSeq (sKey (gVar 5) (gOp dIx (gOp dIx (gVar 2) (gVar 3)) (gC (.int 1))) (gVar 1)) (sRet (gMakeF .state q_State_init (gCons (gVar 5) (gCons (gFld (gVar 0) "opened") (gCons (gOp dAdd (gSlice (gFld (gVar 0) "place") oNone (oSome (gB dNeg (gC (.int 1))))) (gTup (gCons (gTup (gCons (gVar 2) (gCons (gOp dAdd (gVar 3) (gC (.int 1))) (gCons (gVar 4) gNil)))) gNil))) gNil))))))))
def g_after_open (q_State_init : DSp) : DS := (sSeq (sAsg (gDictM (gFld (gVar 0) "opened")) (aName 2)) (sSeq (sKey (gVar 2) (gOp dIx (gFld (gVar 0) "deed") (gC (.int 1))) (gVar 1)) (sRet (gMakeF .state q_State_init (gCons (gFld (gVar 0) "told") (gCons (gVar 2) (gCons (gFld (gVar 0) "place") gNil)))))))
def g_outcomes (p_begin : PSp) (p_after_open : PSp) (p_made : PSp) (p_times : PSp) (p_after_throw : PSp) : DS := (sSeq (sAsg (gLst gNil) (aName 2)) (sSeq (sAsg (gLst (gCons (gTup (gCons (gPure p_begin (gCons (gVar 0) gNil)) (gCons (gC (.tup [.int 1, .int 1])) (gCons (gTup gNil) gNil)))) gNil)) (aName 3)) (sSeq (sWhile (tE (gOp dGt (gB dLen (gVar 3)) (gC (.int 0)))) (sSeq (sAsg (gPop (gVar 3)) (aTup 3 (aCons (aName 4) (aCons (aName 5) (aCons (aName 6) aNil))))) (sSeq (sWhile (tE (gOp dEq (gOp dIx (gFld (gVar 4) "deed") (gC (.int 0))) (gC (.str "open")))) (sAsg (gPure p_after_open (gCons (gVar 4) (gCons (gOp dIx (gVar 1) (gOp dIx (gFld (gVar 4) "deed") (gC (.int 1)))) gNil))) (aName 4))) (sSeq (sIf (tE (gOp dEq (gOp dIx (gFld (gVar 4) "deed") (gC (.int 0))) (gC (.str "show")))) (sDrop (gAppend (gVar 2) (gTup (gCons (gVar 5) (gCons (gOp dIx (gFld (gVar 4) "deed") (gC (.int 1))) (gCons (gB dKeysT (gFld (gVar 4) "opened")) (gCons (gVar 6) gNil))))))) (sSeq (sAsg (gPure p_times (gCons (gVar 5) (gCons (gPure p_made (gCons (gC (.int 1)) (gCons (gOp dIx (gFld (gVar 4) "deed") (gC (.int 1))) gNil))) gNil))) (aName 7)) (sFor (iDown (gCons (gOp dSub (gOp dIx (gFld (gVar 4) "deed") (gC (.int 1))) (gC (.int 1))) (gCons (gB dNeg (gC (.int 1))) (gCons (gB dNeg (gC (.int 1))) gNil)))) (aName 8) (sDrop (gAppend (gVar 3) (gTup (gCons (gPure p_after_throw (gCons (gVar 4) (gCons (gVar 8) gNil))) (gCons (gVar 7) (gCons (gOp dAdd (gVar 6) (gTup (gCons (gVar 8) gNil))) gNil))))))))) (sIf (tE (gOp dGt (gOp dAdd (gB dLen (gVar 2)) (gB dLen (gVar 3))) (gC (.int 2000)))) sNever sNext))))) (sRet (gFz (gVar 2))))))
def g_all_outcomes (p_raw_contents : PSp) (p_outcomes : PSp) : DS := (sRet (gComp (iSeq (gPure p_raw_contents (gCons (gFld (gVar 0) "sizes") gNil))) (aName 1) tYes (gPure p_outcomes (gCons (gVar 0) (gCons (gVar 1) gNil))) [1]))
def g_raw_is_blind (p_all_outcomes : PSp) : DS := (sSeq (sAsg (gLst gNil) (aName 1)) (sSeq (sFor (iSeq (gPure p_all_outcomes (gCons (gVar 0) gNil))) (aName 2) (sDrop (gExtend (gVar 1) (gComp (iSeq (gVar 2)) (aTup 4 (aCons (aName 3) (aCons (aName 4) (aCons (aName 5) (aCons (aName 6) aNil))))) tYes (gOp dEq (gB dLen (gVar 5)) (gB dLen (gVar 4))) [3, 4, 5, 6])))) (sRet (gB dAll (gVar 1)))))
def g_is_policy (p_is_pair : PSp) : DS := (sRet (gAnd (gPure p_is_pair (gCons (gVar 0) gNil)) (gB dAll (gComp (iSeq (gVar 0)) (aName 1) tYes (gB (dIsI .bool) (gVar 1)) [1]))))
def g_check_policy (p_is_policy : PSp) : DS := (sIf (tNot (tE (gPure p_is_policy (gCons (gVar 0) gNil)))) sNever sNext)
def g_is_alike (p_is_alike : PSp) (p_is_integer : PSp) : DS := (sSeq (sIf (tE (gB (dIsI .tup) (gVar 1))) (sSeq (sIf (tOr (tNot (tE (gB (dIsI .tup) (gVar 0)))) (tE (gOp dNe (gB dLen (gVar 0)) (gB dLen (gVar 1))))) (sRet (gC (.bl false))) sNext) (sRet (gB dAll (gComp (iZip (gCons (gVar 0) (gCons (gVar 1) gNil))) (aTup 2 (aCons (aName 2) (aCons (aName 3) aNil))) tYes (gPure p_is_alike (gCons (gVar 2) (gCons (gVar 3) gNil))) [2, 3])))) sNext) (sSeq (sIf (tE (gB (dIsI .str) (gVar 1))) (sRet (gAnd (gB (dIsI .str) (gVar 0)) (gOp dEq (gVar 0) (gVar 1)))) sNext) (sRet (gAnd (gPure p_is_integer (gCons (gVar 0) gNil)) (gOp dEq (gVar 0) (gVar 1))))))
def g_Keeper_init (p_check_policy : PSp) (q_Keeper_next_row : DSp) : DS := (sSeq (sDrop (gPure p_check_policy (gCons (gVar 2) gNil))) (sSeq (sFld (gVar 0) (gVar 1) "program") (sSeq (sFld (gVar 0) (gVar 2) "policy") (sSeq (sFld (gVar 0) (gLst gNil) "contents_put") (sSeq (sFld (gVar 0) (gLst gNil) "columns_seen") (sSeq (sFld (gVar 0) (gLst gNil) "patterns_told") (sSeq (sFld (gVar 0) (gLst gNil) "sure_lines") (sSeq (sFld (gVar 0) (gLst gNil) "loose_lines") (sDrop (gMeth .keeper "next_row" q_Keeper_next_row (gVar 0) gNil))))))))))
def g_Keeper_next_row (p_begin : PSp) : DS := (sSeq (sFld (gVar 0) (gTup (gCons (gC (.bl false)) (gCons (gPure p_begin (gCons (gFld (gVar 0) "program") gNil)) gNil))) "live") (sFld (gVar 0) (gFld (gVar 0) "live") "sure"))
def g_Keeper_row_now : DS := (sRet (gB dLen (gFld (gVar 0) "patterns_told")))
def g_Keeper_put (p_check_content : PSp) : DS := (sSeq (sDrop (gPure p_check_content (gCons (gFld (gFld (gVar 0) "program") "sizes") (gCons (gVar 1) gNil)))) (sSeq (sDrop (gAppend (gFld (gVar 0) "contents_put") (gVar 1))) (sSeq (sDrop (gAppend (gFld (gVar 0) "columns_seen") (gTup gNil))) (sRet (gOp dSub (gB dLen (gFld (gVar 0) "contents_put")) (gC (.int 1)))))))
def g_Keeper_due (q_Keeper_row_now : DSp) : DS := (sSeq (sIf (tE (gOp dEq (gMeth .keeper "row_now" q_Keeper_row_now (gVar 0) gNil) (gB dLen (gFld (gVar 0) "contents_put")))) (sRet (gC .non)) sNext) (sRet (gFld (gOp dIx (gFld (gVar 0) "live") (gC (.int 1))) "deed")))
def g_Keeper_begin_row (q_Keeper_row_now : DSp) : DS := (sIf (tNot (tE (gOp dIx (gFld (gVar 0) "live") (gC (.int 0))))) (sSeq (sDrop (gAppend (gFld (gVar 0) "loose_lines") (gTup (gCons (gC (.str "row")) (gCons (gMeth .keeper "row_now" q_Keeper_row_now (gVar 0) gNil) gNil))))) (sFld (gVar 0) (gTup (gCons (gC (.bl true)) (gCons (gOp dIx (gFld (gVar 0) "live") (gC (.int 1))) gNil))) "live")) sNext)
def g_Keeper_make_sure : DS := (sSeq (sDrop (gExtend (gFld (gVar 0) "sure_lines") (gFld (gVar 0) "loose_lines"))) (sSeq (sFld (gVar 0) (gLst gNil) "loose_lines") (sFld (gVar 0) (gFld (gVar 0) "live") "sure")))
def g_Keeper_throw (q_Keeper_due : DSp) (p_is_within : PSp) (q_Keeper_begin_row : DSp) (p_after_throw : PSp) (q_Keeper_make_sure : DSp) : DS := (sSeq (sAsg (gMeth .keeper "due" q_Keeper_due (gVar 0) gNil) (aName 2)) (sSeq (sIf (tOr (tE (gIsN (gVar 2))) (tE (gOp dNe (gOp dIx (gVar 2) (gC (.int 0))) (gC (.str "throw"))))) sNever sNext) (sSeq (sIf (tNot (tE (gPure p_is_within (gCons (gVar 1) (gCons (gC (.int 0)) (gCons (gOp dSub (gOp dIx (gVar 2) (gC (.int 1))) (gC (.int 1))) gNil)))))) sNever sNext) (sSeq (sDrop (gMeth .keeper "begin_row" q_Keeper_begin_row (gVar 0) gNil)) (sSeq (sDrop (gAppend (gFld (gVar 0) "loose_lines") (gTup (gCons (gC (.str "throw")) (gCons (gVar 1) gNil))))) (sSeq (sFld (gVar 0) (gTup (gCons (gC (.bl true)) (gCons (gPure p_after_throw (gCons (gOp dIx (gFld (gVar 0) "live") (gC (.int 1))) (gCons (gVar 1) gNil))) gNil))) "live") (sIf (tE (gOp dIx (gFld (gVar 0) "policy") (gC (.int 0)))) (sDrop (gMeth .keeper "make_sure" q_Keeper_make_sure (gVar 0) gNil)) sNext)))))))
def g_Keeper_go (q_Keeper_due : DSp) (q_Keeper_open_column : DSp) (q_Keeper_show_pattern : DSp) : DS := (sSeq (sAsg (gMeth .keeper "due" q_Keeper_due (gVar 0) gNil) (aName 1)) (sSeq (sIf (tOr (tE (gIsN (gVar 1))) (tE (gOp dEq (gOp dIx (gVar 1) (gC (.int 0))) (gC (.str "throw"))))) sNever sNext) (sIf (tE (gOp dEq (gOp dIx (gVar 1) (gC (.int 0))) (gC (.str "open")))) (sDrop (gMeth .keeper "open_column" q_Keeper_open_column (gVar 0) (gCons (gOp dIx (gVar 1) (gC (.int 1))) gNil))) (sDrop (gMeth .keeper "show_pattern" q_Keeper_show_pattern (gVar 0) (gCons (gOp dIx (gVar 1) (gC (.int 1))) gNil))))))
def g_Keeper_open_column (q_Keeper_make_sure : DSp) (q_Keeper_begin_row : DSp) (q_Keeper_row_now : DSp) (p_after_open : PSp) : DS := (sSeq (sIf (tE (gOp dIx (gFld (gVar 0) "policy") (gC (.int 1)))) (sDrop (gMeth .keeper "make_sure" q_Keeper_make_sure (gVar 0) gNil)) sNext) (sSeq (sDrop (gMeth .keeper "begin_row" q_Keeper_begin_row (gVar 0) gNil)) (sSeq (sAsg (gMeth .keeper "row_now" q_Keeper_row_now (gVar 0) gNil) (aName 2)) (sSeq (sAsg (gOp dIx (gOp dIx (gFld (gVar 0) "contents_put") (gVar 2)) (gVar 1)) (aName 3)) (sSeq (sDrop (gAppend (gFld (gVar 0) "loose_lines") (gTup (gCons (gC (.str "open")) (gCons (gVar 1) (gCons (gVar 3) gNil)))))) (sSeq (sIf (tE (gOp dNotIn (gVar 1) (gOp dIx (gFld (gVar 0) "columns_seen") (gVar 2)))) (sIx (gFld (gVar 0) "columns_seen") (gVar 2) (gB dTupleOf (gB dSorted (gOp dAdd (gOp dIx (gFld (gVar 0) "columns_seen") (gVar 2)) (gTup (gCons (gVar 1) gNil)))))) sNext) (sFld (gVar 0) (gTup (gCons (gC (.bl true)) (gCons (gPure p_after_open (gCons (gOp dIx (gFld (gVar 0) "live") (gC (.int 1))) (gCons (gVar 3) gNil))) gNil))) "live")))))))
def g_Keeper_show_pattern (q_Keeper_begin_row : DSp) (q_Keeper_make_sure : DSp) (q_Keeper_next_row : DSp) : DS := (sSeq (sDrop (gMeth .keeper "begin_row" q_Keeper_begin_row (gVar 0) gNil)) (sSeq (sDrop (gAppend (gFld (gVar 0) "loose_lines") (gTup (gCons (gC (.str "show")) (gCons (gVar 1) gNil))))) (sSeq (sDrop (gMeth .keeper "make_sure" q_Keeper_make_sure (gVar 0) gNil)) (sSeq (sDrop (gAppend (gFld (gVar 0) "patterns_told") (gVar 1))) (sDrop (gMeth .keeper "next_row" q_Keeper_next_row (gVar 0) gNil))))))
def g_Keeper_fall : DS := (sSeq (sFld (gVar 0) (gLst gNil) "loose_lines") (sFld (gVar 0) (gFld (gVar 0) "sure") "live"))
def g_Keeper_peeked : DS := (sSeq (sAsg (gC (.int 0)) (aName 1)) (sSeq (sFor (iZip (gCons (gFz (gFld (gVar 0) "patterns_told")) (gCons (gFz (gFld (gVar 0) "columns_seen")) gNil))) (aTup 2 (aCons (aName 2) (aCons (aName 3) aNil))) (sAug 1 (gB dLen (gComp (iSeq (gVar 3)) (aName 4) (tE (gOp dNotIn (gVar 4) (gVar 2))) (gVar 4) [4])))) (sRet (gVar 1))))
def g_check_blind (p_raw_is_blind : PSp) (p_check_policy : PSp) : DS := (sSeq (sAsg (gPure p_raw_is_blind (gCons (gVar 0) gNil)) (aName 2)) (sSeq (sIf (tNot (tE (gVar 2))) sNever sNext) (sDrop (gPure p_check_policy (gCons (gVar 1) gNil)))))
def g_moves_until (p_begin : PSp) (p_after_throw : PSp) (p_after_open : PSp) : DS := (sSeq (sAsg (gPure p_begin (gCons (gVar 0) gNil)) (aName 4)) (sSeq (sAsg (gTup gNil) (aName 5)) (sSeq (sAsg (gC (.int 0)) (aName 6)) (sSeq (sWhile (tE (gOp dNe (gOp dIx (gFld (gVar 4) "deed") (gC (.int 0))) (gC (.str "show")))) (sIf (tE (gOp dEq (gOp dIx (gFld (gVar 4) "deed") (gC (.int 0))) (gC (.str "throw")))) (sSeq (sAsg (gOp dAdd (gVar 5) (gTup (gCons (gTup (gCons (gC (.str "throw")) (gCons (gOp dIx (gVar 2) (gVar 6)) gNil))) gNil))) (aName 5)) (sSeq (sAsg (gPure p_after_throw (gCons (gVar 4) (gCons (gOp dIx (gVar 2) (gVar 6)) gNil))) (aName 4)) (sAug 6 (gC (.int 1))))) (sSeq (sAsg (gOp dAdd (gVar 5) (gTup (gCons (gTup (gCons (gC (.str "go")) gNil)) gNil))) (aName 5)) (sSeq (sAsg (gOp dIx (gFld (gVar 4) "deed") (gC (.int 1))) (aName 7)) (sSeq (sIf (tE (gOp dNotIn (gVar 7) (gVar 3))) (sRet (gVar 5)) sNext) (sAsg (gPure p_after_open (gCons (gVar 4) (gCons (gOp dIx (gVar 1) (gVar 7)) gNil))) (aName 4))))))) (sRet (gOp dAdd (gVar 5) (gTup (gCons (gTup (gCons (gC (.str "go")) gNil)) gNil))))))))
def g_breach_of (p_outcomes : PSp) (p_moves_until : PSp) : DS := (sSeq (sAsg (gComp (iSeq (gPure p_outcomes (gCons (gVar 0) (gCons (gVar 1) gNil)))) (aTup 4 (aCons (aName 9) (aCons (aName 3) (aCons (aName 10) (aCons (aName 4) aNil))))) tYes (gTup (gCons (gVar 3) (gCons (gVar 4) gNil))) [9, 3, 10, 4]) (aName 2)) (sSeq (sAsg (gOp dIx (gVar 2) (gC (.int 0))) (aTup 2 (aCons (aName 3) (aCons (aName 4) aNil)))) (sSeq (sFor (iSeq (gVar 2)) (aTup 2 (aCons (aName 5) (aCons (aName 6) aNil))) (sSeq (sAsg (gComp (iSeq (gVar 5)) (aName 11) (tE (gOp dNotIn (gVar 11) (gVar 3))) (gVar 11) [11]) (aName 7)) (sSeq (sIf (tE (gOp dGt (gB dLen (gVar 7)) (gC (.int 0)))) (sSeq (sAsg (gPure p_moves_until (gCons (gVar 0) (gCons (gVar 1) (gCons (gVar 6) (gCons (gVar 3) gNil))))) (aName 8)) (sRet (gOp dAdd (gOp dAdd (gVar 8) (gTup (gCons (gTup (gCons (gC (.str "fall")) gNil)) gNil))) (gPure p_moves_until (gCons (gVar 0) (gCons (gVar 1) (gCons (gVar 4) (gCons (gVar 3) gNil)))))))) sNext) (sIf (tE (gOp dNe (gVar 5) (gVar 3))) (sSeq (sAsg (gPure p_moves_until (gCons (gVar 0) (gCons (gVar 1) (gCons (gVar 4) (gCons (gVar 5) gNil))))) (aName 8)) (sRet (gOp dAdd (gOp dAdd (gVar 8) (gTup (gCons (gTup (gCons (gC (.str "fall")) gNil)) gNil))) (gPure p_moves_until (gCons (gVar 0) (gCons (gVar 1) (gCons (gVar 6) (gCons (gVar 5) gNil)))))))) sNext)))) (sRet (gC .non)))))
def g_breach (p_check_blind : PSp) (p_raw_contents : PSp) (p_breach_of : PSp) : DS := (sSeq (sDrop (gPure p_check_blind (gCons (gVar 0) (gCons (gVar 1) gNil)))) (sSeq (sIf (tE (gB dAny (gVar 1))) (sRet (gC .non)) sNext) (sSeq (sFor (iSeq (gPure p_raw_contents (gCons (gFld (gVar 0) "sizes") gNil))) (aName 2) (sSeq (sAsg (gPure p_breach_of (gCons (gVar 0) (gCons (gVar 2) gNil))) (aName 3)) (sIf (tE (gNotN (gVar 3))) (sRet (gTup (gCons (gVar 2) (gCons (gVar 3) gNil)))) sNext))) (sRet (gC .non)))))
def g_is_done (p_is_alike : PSp) (q_Keeper_fall : DSp) (q_Keeper_due : DSp) (p_is_pair : PSp) (p_is_within : PSp) (q_Keeper_throw : DSp) (q_Keeper_go : DSp) : DS := (sSeq (sIf (tE (gPure p_is_alike (gCons (gVar 1) (gCons (gTup (gCons (gC (.str "fall")) gNil)) gNil)))) (sSeq (sDrop (gMeth .keeper "fall" q_Keeper_fall (gVar 0) gNil)) (sRet (gC (.bl true)))) sNext) (sSeq (sAsg (gMeth .keeper "due" q_Keeper_due (gVar 0) gNil) (aName 2)) (sSeq (sIf (tE (gIsN (gVar 2))) (sRet (gC (.bl false))) sNext) (sSeq (sIf (tE (gOp dEq (gOp dIx (gVar 2) (gC (.int 0))) (gC (.str "throw")))) (sSeq (sIf (tOr (tNot (tE (gPure p_is_pair (gCons (gVar 1) gNil)))) (tOr (tNot (tE (gPure p_is_alike (gCons (gOp dIx (gVar 1) (gC (.int 0))) (gCons (gC (.str "throw")) gNil))))) (tNot (tE (gPure p_is_within (gCons (gOp dIx (gVar 1) (gC (.int 1))) (gCons (gC (.int 0)) (gCons (gOp dSub (gOp dIx (gVar 2) (gC (.int 1))) (gC (.int 1))) gNil)))))))) (sRet (gC (.bl false))) sNext) (sSeq (sDrop (gMeth .keeper "throw" q_Keeper_throw (gVar 0) (gCons (gOp dIx (gVar 1) (gC (.int 1))) gNil))) (sRet (gC (.bl true))))) sNext) (sSeq (sIf (tNot (tE (gPure p_is_alike (gCons (gVar 1) (gCons (gTup (gCons (gC (.str "go")) gNil)) gNil))))) (sRet (gC (.bl false))) sNext) (sSeq (sDrop (gMeth .keeper "go" q_Keeper_go (gVar 0) gNil)) (sRet (gC (.bl true)))))))))
def g_is_breach (p_check_blind : PSp) (p_is_pair : PSp) (p_is_content : PSp) (p_is_row : PSp) (q_Keeper_init : DSp) (q_Keeper_put : DSp) (q_is_done : DSp) (q_Keeper_peeked : DSp) : DS := (sSeq (sDrop (gPure p_check_blind (gCons (gVar 0) (gCons (gVar 1) gNil)))) (sSeq (sIf (tOr (tNot (tE (gPure p_is_pair (gCons (gVar 2) gNil)))) (tOr (tNot (tE (gPure p_is_content (gCons (gFld (gVar 0) "sizes") (gCons (gOp dIx (gVar 2) (gC (.int 0))) gNil))))) (tNot (tE (gPure p_is_row (gCons (gOp dIx (gVar 2) (gC (.int 1))) gNil)))))) (sRet (gC (.bl false))) sNext) (sSeq (sAsg (gMake .keeper q_Keeper_init (gCons (gVar 0) (gCons (gVar 1) gNil))) (aName 3)) (sSeq (sDrop (gMeth .keeper "put" q_Keeper_put (gVar 3) (gCons (gOp dIx (gVar 2) (gC (.int 0))) gNil))) (sSeq (sFor (iSeq (gOp dIx (gVar 2) (gC (.int 1)))) (aName 4) (sIf (tNot (tE (gCall q_is_done (gCons (gVar 3) (gCons (gVar 4) gNil))))) (sRet (gC (.bl false))) sNext)) (sRet (gOp dGt (gMeth .keeper "peeked" q_Keeper_peeked (gVar 3) gNil) (gC (.int 0)))))))))
def g_is_test (p_is_within : PSp) (p_is_name : PSp) (p_is_number : PSp) : DS := (sSeq (sIf (tOr (tNot (tE (gB (dIsI .tup) (gVar 1)))) (tOr (tE (gOp dNe (gB dLen (gVar 1)) (gC (.int 3)))) (tNot (tE (gB (dIsI .str) (gOp dIx (gVar 1) (gC (.int 0)))))))) (sRet (gC (.bl false))) sNext) (sSeq (sIf (tE (gOp dEq (gOp dIx (gVar 1) (gC (.int 0))) (gC (.str "cell")))) (sRet (gAnd (gPure p_is_within (gCons (gOp dIx (gVar 1) (gC (.int 1))) (gCons (gC (.int 0)) (gCons (gOp dSub (gB dLen (gVar 0)) (gC (.int 1))) gNil)))) (gPure p_is_within (gCons (gOp dIx (gVar 1) (gC (.int 2))) (gCons (gC (.int 0)) (gCons (gOp dSub (gOp dIx (gVar 0) (gOp dIx (gVar 1) (gC (.int 1)))) (gC (.int 1))) gNil)))))) sNext) (sRet (gAnd (gOp dEq (gOp dIx (gVar 1) (gC (.int 0))) (gC (.str "name"))) (gAnd (gPure p_is_name (gCons (gOp dIx (gVar 1) (gC (.int 1))) gNil)) (gPure p_is_number (gCons (gOp dIx (gVar 1) (gC (.int 2))) gNil)))))))
def g_is_statement (p_is_pair : PSp) (p_is_within : PSp) (p_is_pattern : PSp) (p_is_name : PSp) (p_is_test : PSp) : DS := (sSeq (sIf (tOr (tNot (tE (gB (dIsI .tup) (gVar 1)))) (tOr (tE (gOp dLt (gB dLen (gVar 1)) (gC (.int 2)))) (tNot (tE (gB (dIsI .str) (gOp dIx (gVar 1) (gC (.int 0)))))))) (sRet (gC (.bl false))) sNext) (sSeq (sIf (tE (gOp dEq (gOp dIx (gVar 1) (gC (.int 0))) (gC (.str "open")))) (sRet (gAnd (gPure p_is_pair (gCons (gVar 1) gNil)) (gPure p_is_within (gCons (gOp dIx (gVar 1) (gC (.int 1))) (gCons (gC (.int 0)) (gCons (gOp dSub (gB dLen (gVar 0)) (gC (.int 1))) gNil)))))) sNext) (sSeq (sIf (tE (gOp dEq (gOp dIx (gVar 1) (gC (.int 0))) (gC (.str "show")))) (sRet (gAnd (gPure p_is_pair (gCons (gVar 1) gNil)) (gPure p_is_pattern (gCons (gB dLen (gVar 0)) (gCons (gOp dIx (gVar 1) (gC (.int 1))) gNil))))) sNext) (sSeq (sIf (tE (gOp dEq (gOp dIx (gVar 1) (gC (.int 0))) (gC (.str "throw")))) (sRet (gAnd (gOp dEq (gB dLen (gVar 1)) (gC (.int 3))) (gAnd (gPure p_is_name (gCons (gOp dIx (gVar 1) (gC (.int 1))) gNil)) (gPure p_is_within (gCons (gOp dIx (gVar 1) (gC (.int 2))) (gCons (gC (.int 2)) (gCons (gC (.int 12)) gNil))))))) sNext) (sSeq (sIf (tE (gOp dEq (gOp dIx (gVar 1) (gC (.int 0))) (gC (.str "put")))) sNever sNext) (sSeq (sIf (tE (gOp dEq (gOp dIx (gVar 1) (gC (.int 0))) (gC (.str "again")))) sNever sNext) (sRet (gAnd (gOp dEq (gOp dIx (gVar 1) (gC (.int 0))) (gC (.str "if"))) (gAnd (gOp dEq (gB dLen (gVar 1)) (gC (.int 4))) (gPure p_is_test (gCons (gVar 0) (gCons (gOp dIx (gVar 1) (gC (.int 1))) gNil))))))))))))
def g_blocks_in : DS := (sSeq (sIf (tE (gOp dEq (gOp dIx (gVar 0) (gC (.int 0))) (gC (.str "if")))) (sRet (gSlice (gVar 0) (oSome (gC (.int 2))) oNone)) sNext) (sSeq (sIf (tE (gOp dEq (gOp dIx (gVar 0) (gC (.int 0))) (gC (.str "again")))) sNever sNext) (sRet (gTup gNil))))
def g_measured (p_is_statement : PSp) (p_blocks_in : PSp) : DS := (sSeq (sAsg (gLstF (gCons (gVar 1) gNil)) (aName 2)) (sSeq (sAsg (gC (.int 0)) (aName 3)) (sSeq (sAsg (gC (.int 0)) (aName 4)) (sSeq (sWhile (tE (gOp dGt (gB dLen (gVar 2)) (gC (.int 0)))) (sSeq (sAsg (gLst gNil) (aName 5)) (sSeq (sFor (iSeq (gVar 2)) (aName 6) (sSeq (sIf (tOr (tNot (tE (gB (dIsI .tup) (gVar 6)))) (tNot (tE (gB dAll (gComp (iSeq (gVar 6)) (aName 7) tYes (gPure p_is_statement (gCons (gVar 0) (gCons (gVar 7) gNil))) [7]))))) (sRet (gC .non)) sNext) (sSeq (sAug 3 (gB dLen (gVar 6))) (sFor (iSeq (gVar 6)) (aName 7) (sDrop (gExtend (gVar 5) (gPure p_blocks_in (gCons (gVar 7) gNil)))))))) (sSeq (sIf (tE (gB dAny (gComp (iSeq (gVar 2)) (aName 6) tYes (gOp dGt (gB dLen (gVar 6)) (gC (.int 0))) [6]))) (sAug 4 (gC (.int 1))) sNext) (sAsg (gFz (gVar 5)) (aName 2)))))) (sRet (gTup (gCons (gVar 3) (gCons (gVar 4) gNil))))))))
def g_Program_init (p_are_sizes : PSp) (p_measured : PSp) (q_Program_keep : DSp) : DS := (sSeq (sIf (tNot (tE (gPure p_are_sizes (gCons (gVar 1) gNil)))) sNever sNext) (sSeq (sAsg (gPure p_measured (gCons (gVar 1) (gCons (gVar 2) gNil))) (aName 3)) (sSeq (sIf (tE (gIsN (gVar 3))) sNever sNext) (sSeq (sIf (tE (gOp dGt (gOp dIx (gVar 3) (gC (.int 0))) (gC (.int 60)))) sNever sNext) (sSeq (sIf (tE (gOp dGt (gOp dIx (gVar 3) (gC (.int 1))) (gC (.int 6)))) sNever sNext) (sDrop (gMeth .prog "keep" q_Program_keep (gVar 0) (gCons (gVar 1) (gCons (gVar 2) gNil)))))))))
def g_Program_keep : DS := (sSeq (sFld (gVar 0) (gVar 1) "sizes") (sFld (gVar 0) (gVar 2) "block"))
def g_l_hand : DS := (sSeq (sAsg (gComp (iSeq (gSlice (gVar 0) oNone (oSome (gC (.int 63))))) (aName 2) tYes (gB dAbs (gB dInt (gVar 2))) [2]) (aName 1)) (sRet (gLst (gCons (gVar 1) (gCons (gC (.int 0)) (gCons (gC (.int 0)) (gCons (gOp dAdd (gC (.int 1)) (gB dLen (gVar 1))) (gCons (gC (.int 0)) gNil))))))))
def g_l_draw : DS := (sSeq (sIf (tAnd (tE (gOp dEq (gOp dIx (gVar 0) (gC (.int 2))) (gC (.int 0)))) (tE (gOp dLt (gOp dIx (gVar 0) (gC (.int 1))) (gB dLen (gOp dIx (gVar 0) (gC (.int 0))))))) (sSeq (sAsg (gOp dIx (gOp dIx (gVar 0) (gC (.int 0))) (gOp dIx (gVar 0) (gC (.int 1)))) (aName 2)) (sSeq (sIx (gVar 0) (gC (.int 1)) (gOp dAdd (gOp dIx (gVar 0) (gC (.int 1))) (gC (.int 1)))) (sSeq (sIx (gVar 0) (gC (.int 3)) (gOp dMod (gB dInt (gOp dAdd (gOp dAdd (gOp dMul (gOp dIx (gVar 0) (gC (.int 3))) (gC (.int 69621))) (gVar 2)) (gC (.int 11)))) (gC (.int 2147483629)))) (sIf (tE (gOp dGe (gVar 2) (gOp dPow (gC (.int 10)) (gC (.int 18))))) (sIx (gVar 0) (gC (.int 2)) (gVar 2)) sNext)))) sNext) (sSeq (sIf (tE (gOp dGt (gOp dIx (gVar 0) (gC (.int 2))) (gC (.int 0)))) (sSeq (sAsg (gOp dMod (gB dInt (gOp dIx (gVar 0) (gC (.int 2)))) (gVar 1)) (aName 3)) (sSeq (sIx (gVar 0) (gC (.int 2)) (gOp dDiv (gOp dIx (gVar 0) (gC (.int 2))) (gVar 1))) (sRet (gVar 3)))) sNext) (sSeq (sIx (gVar 0) (gC (.int 4)) (gOp dAdd (gOp dIx (gVar 0) (gC (.int 4))) (gC (.int 1)))) (sSeq (sAsg (gOp dMod (gB dInt (gOp dMul (gB dInt (gOp dAdd (gOp dIx (gVar 0) (gC (.int 3))) (gOp dMul (gC (.int 7919)) (gOp dIx (gVar 0) (gC (.int 4)))))) (gC (.int 48271)))) (gC (.int 2147483647))) (aName 4)) (sSeq (sAsg (gOp dMod (gB dInt (gOp dMul (gVar 4) (gOp dAdd (gOp dDiv (gVar 4) (gC (.int 1009))) (gC (.int 69621))))) (gC (.int 2147483647))) (aName 4)) (sSeq (sAsg (gOp dMod (gB dInt (gOp dMul (gVar 4) (gOp dAdd (gOp dDiv (gVar 4) (gC (.int 2003))) (gC (.int 40692))))) (gC (.int 2147483399))) (aName 4)) (sRet (gOp dMod (gB dInt (gOp dDiv (gVar 4) (gC (.int 16)))) (gVar 1)))))))))
def g_l_contents : DS := (sSeq (sAsg (gLstF (gCons (gTup gNil) gNil)) (aName 1)) (sSeq (sFor (iSeq (gVar 0)) (aName 2) (sSeq (sAsg (gLst gNil) (aName 3)) (sSeq (sFor (iSeq (gVar 1)) (aName 4) (sDrop (gExtend (gVar 3) (gComp (iRng (gCons (gVar 2) gNil)) (aName 5) tYes (gOp dAdd (gVar 4) (gTup (gCons (gVar 5) gNil))) [5])))) (sAsg (gFz (gVar 3)) (aName 1))))) (sRet (gVar 1))))
def g_l_walk (q_l_do : DSp) : DS := (sSeq (sAsg (gDict ["names", "lines", "opened", "used", "over"] (gCons gDic0 (gCons (gLst gNil) (gCons (gLst gNil) (gCons (gC (.int 0)) (gCons (gC (.bl false)) gNil)))))) (aName 3)) (sSeq (sDrop (gCall q_l_do (gCons (gVar 0) (gCons (gVar 1) (gCons (gVar 2) (gCons (gVar 3) gNil)))))) (sSeq (sIf (tNot (tE (gOp dGet (gVar 3) (gC (.str "over"))))) (sDrop (gAppend (gOp dGet (gVar 3) (gC (.str "lines"))) (gTup (gCons (gC (.str "show")) (gCons (gB dTupleOf (gB dSorted (gOp dGet (gVar 3) (gC (.str "opened"))))) gNil))))) sNext) (sRet (gFz (gOp dGet (gVar 3) (gC (.str "lines"))))))))
def g_l_see : DS := (sIf (tE (gOp dNotIn (gVar 0) (gOp dGet (gVar 2) (gC (.str "opened"))))) (sSeq (sDrop (gAppend (gOp dGet (gVar 2) (gC (.str "opened"))) (gVar 0))) (sDrop (gAppend (gOp dGet (gVar 2) (gC (.str "lines"))) (gTup (gCons (gC (.str "open")) (gCons (gVar 0) (gCons (gOp dIx (gVar 1) (gVar 0)) gNil))))))) sNext)
def g_l_do (q_l_see : DSp) (q_l_do : DSp) : DS := (sSeq (sFor (iSeq (gVar 0)) (aName 4) (sSeq (sIf (tE (gOp dGet (gVar 3) (gC (.str "over")))) (sRet (gC .non)) sNext) (sSeq (sAsg (gOp dIx (gVar 4) (gC (.int 0))) (aName 5)) (sIf (tE (gOp dEq (gVar 5) (gC (.str "open")))) (sDrop (gCall q_l_see (gCons (gOp dIx (gVar 4) (gC (.int 1))) (gCons (gVar 1) (gCons (gVar 3) gNil))))) (sIf (tE (gOp dEq (gVar 5) (gC (.str "throw")))) (sIf (tE (gOp dEq (gOp dGet (gVar 3) (gC (.str "used"))) (gB dLen (gVar 2)))) (sSeq (sDrop (gAppend (gOp dGet (gVar 3) (gC (.str "lines"))) (gTup (gCons (gC (.str "lacking")) (gCons (gOp dIx (gVar 4) (gC (.int 2))) gNil))))) (sKey (gVar 3) (gC (.str "over")) (gC (.bl true)))) (sSeq (sKey (gOp dGet (gVar 3) (gC (.str "names"))) (gOp dIx (gVar 4) (gC (.int 1))) (gOp dIx (gVar 2) (gOp dGet (gVar 3) (gC (.str "used"))))) (sSeq (sDrop (gAppend (gOp dGet (gVar 3) (gC (.str "lines"))) (gTup (gCons (gC (.str "throw")) (gCons (gOp dIx (gVar 2) (gOp dGet (gVar 3) (gC (.str "used")))) gNil))))) (sKey (gVar 3) (gC (.str "used")) (gOp dAdd (gOp dGet (gVar 3) (gC (.str "used"))) (gC (.int 1))))))) (sIf (tE (gOp dEq (gVar 5) (gC (.str "put")))) sNever (sIf (tE (gOp dEq (gVar 5) (gC (.str "again")))) sNever (sIf (tE (gOp dEq (gVar 5) (gC (.str "show")))) (sSeq (sFor (iSeq (gOp dIx (gVar 4) (gC (.int 1)))) (aName 7) (sDrop (gCall q_l_see (gCons (gVar 7) (gCons (gVar 1) (gCons (gVar 3) gNil)))))) (sSeq (sDrop (gAppend (gOp dGet (gVar 3) (gC (.str "lines"))) (gVar 4))) (sKey (gVar 3) (gC (.str "over")) (gC (.bl true))))) (sSeq (sAsg (gOp dIx (gVar 4) (gC (.int 1))) (aName 8)) (sSeq (sIf (tE (gOp dEq (gOp dIx (gVar 8) (gC (.int 0))) (gC (.str "cell")))) (sSeq (sDrop (gCall q_l_see (gCons (gOp dIx (gVar 8) (gC (.int 1))) (gCons (gVar 1) (gCons (gVar 3) gNil))))) (sAsg (gOp dEq (gOp dIx (gVar 1) (gOp dIx (gVar 8) (gC (.int 1)))) (gOp dIx (gVar 8) (gC (.int 2)))) (aName 9))) (sAsg (gOp dEq (gGet (gOp dGet (gVar 3) (gC (.str "names"))) (gOp dIx (gVar 8) (gC (.int 1))) (gC (.int 0))) (gOp dIx (gVar 8) (gC (.int 2)))) (aName 9))) (sDrop (gCall q_l_do (gCons (gIf (tE (gVar 9)) (gOp dIx (gVar 4) (gC (.int 2))) (gOp dIx (gVar 4) (gC (.int 3)))) (gCons (gVar 1) (gCons (gVar 2) (gCons (gVar 3) gNil)))))))))))))))) (sRet (gC .non)))
def g_l_due (p_l_walk : PSp) : DS := (sSeq (sAsg (gComp (iSeq (gVar 2)) (aName 5) (tE (gOp dEq (gOp dIx (gVar 5) (gC (.int 0))) (gC (.str "throw")))) (gOp dIx (gVar 5) (gC (.int 1))) [5]) (aName 3)) (sSeq (sAsg (gPure p_l_walk (gCons (gVar 0) (gCons (gVar 1) (gCons (gVar 3) gNil)))) (aName 4)) (sRet (gOp dIx (gVar 4) (gB dLen (gVar 2))))))
def g_l_moved (p_l_due : PSp) : DS := (sSeq (sAsg (gLstF gNil) (aName 4)) (sSeq (sAsg (gC (.int 0)) (aName 5)) (sSeq (sAsg (gC .non) (aName 6)) (sSeq (sAsg (gLst gNil) (aName 7)) (sSeq (sFor (iSeq (gVar 3)) (aName 8) (sIf (tE (gOp dEq (gVar 8) (gTup (gCons (gC (.str "fall")) gNil)))) (sAsg (gSlice (gVar 4) oNone (oSome (gVar 5))) (aName 4)) (sIf (tE (gNotN (gVar 6))) (sRet (gC .non)) (sSeq (sAsg (gPure p_l_due (gCons (gVar 0) (gCons (gVar 1) (gCons (gVar 4) gNil)))) (aName 9)) (sIf (tE (gOp dEq (gOp dIx (gVar 8) (gC (.int 0))) (gC (.str "throw")))) (sSeq (sIf (tOr (tE (gOp dNe (gOp dIx (gVar 9) (gC (.int 0))) (gC (.str "lacking")))) (tNot (tE (gOp dLt (gOp dIx (gVar 8) (gC (.int 1))) (gOp dIx (gVar 9) (gC (.int 1))))))) (sRet (gC .non)) sNext) (sSeq (sAsg (gOp dAdd (gVar 4) (gLstF (gCons (gTup (gCons (gC (.str "throw")) (gCons (gOp dIx (gVar 8) (gC (.int 1))) gNil))) gNil))) (aName 4)) (sIf (tE (gOp dIx (gVar 2) (gC (.int 0)))) (sAsg (gB dLen (gVar 4)) (aName 5)) sNext))) (sIf (tE (gOp dEq (gOp dIx (gVar 9) (gC (.int 0))) (gC (.str "lacking")))) (sRet (gC .non)) (sIf (tE (gOp dEq (gOp dIx (gVar 9) (gC (.int 0))) (gC (.str "open")))) (sSeq (sIf (tE (gOp dIx (gVar 2) (gC (.int 1)))) (sAsg (gB dLen (gVar 4)) (aName 5)) sNext) (sSeq (sAsg (gOp dAdd (gVar 4) (gLstF (gCons (gVar 9) gNil))) (aName 4)) (sIf (tE (gOp dNotIn (gOp dIx (gVar 9) (gC (.int 1))) (gVar 7))) (sDrop (gAppend (gVar 7) (gOp dIx (gVar 9) (gC (.int 1))))) sNext))) (sSeq (sAsg (gOp dAdd (gVar 4) (gLstF (gCons (gVar 9) gNil))) (aName 4)) (sSeq (sAsg (gB dLen (gVar 4)) (aName 5)) (sAsg (gOp dIx (gVar 9) (gC (.int 1))) (aName 6))))))))))) (sRet (gTup (gCons (gVar 6) (gCons (gFz (gVar 7)) gNil)))))))))
def g_l_shows (p_l_walk : PSp) : DS := (sSeq (sAsg (gLst gNil) (aName 2)) (sSeq (sAsg (gLst (gCons (gTup gNil) gNil)) (aName 3)) (sSeq (sFor (iRng (gCons (gC (.int 3000)) gNil)) (aName 4) (sSeq (sIf (tE (gOp dEq (gVar 3) (gLstF gNil))) sBreak sNext) (sSeq (sAsg (gPop (gVar 3)) (aName 5)) (sSeq (sAsg (gOp dIx (gPure p_l_walk (gCons (gVar 0) (gCons (gVar 1) (gCons (gVar 5) gNil)))) (gB dNeg (gC (.int 1)))) (aName 6)) (sIf (tE (gOp dEq (gOp dIx (gVar 6) (gC (.int 0))) (gC (.str "lacking")))) (sDrop (gExtend (gVar 3) (gComp (iRng (gCons (gOp dIx (gVar 6) (gC (.int 1))) gNil)) (aName 7) tYes (gOp dAdd (gVar 5) (gTup (gCons (gVar 7) gNil))) [7]))) (sIf (tE (gOp dNotIn (gOp dIx (gVar 6) (gC (.int 1))) (gVar 2))) (sDrop (gAppend (gVar 2) (gOp dIx (gVar 6) (gC (.int 1))))) sNext)))))) (sRet (gFz (gVar 2))))))
def g_l_blind_block (q_l_draw : DSp) (q_l_blind_block : DSp) : DS := (sSeq (sAsg (gComp (iRng (gCons (gB dLen (gVar 1)) gNil)) (aName 7) (tE (gOp dNotIn (gVar 7) (gVar 2))) (gVar 7) [7]) (aName 5)) (sSeq (sAsg (gCall q_l_draw (gCons (gVar 0) (gCons (gC (.int 6)) gNil))) (aName 6)) (sSeq (sIx (gVar 3) (gC (.int 1)) (gOp dSub (gOp dIx (gVar 3) (gC (.int 1))) (gC (.int 2)))) (sSeq (sIf (tOr (tE (gOp dEq (gVar 5) (gLstF gNil))) (tOr (tE (gOp dLt (gOp dIx (gVar 3) (gC (.int 1))) (gC (.int 0)))) (tE (gOp dEq (gVar 6) (gC (.int 0)))))) (sRet (gTup (gCons (gTup (gCons (gC (.str "show")) (gCons (gB dTupleOf (gB dSorted (gVar 2))) gNil))) gNil))) sNext) (sSeq (sAsg (gOp dIx (gVar 5) (gCall q_l_draw (gCons (gVar 0) (gCons (gB dLen (gVar 5)) gNil)))) (aName 7)) (sSeq (sIf (tAnd (tE (gOp dLt (gVar 6) (gC (.int 3)))) (tAnd (tE (gOp dGt (gOp dIx (gVar 3) (gC (.int 0))) (gC (.int 0)))) (tE (gOp dGt (gVar 4) (gC (.int 1)))))) (sSeq (sIx (gVar 3) (gC (.int 0)) (gOp dSub (gOp dIx (gVar 3) (gC (.int 0))) (gC (.int 1)))) (sSeq (sAsg (gOp dAdd (gC (.int 2)) (gCall q_l_draw (gCons (gVar 0) (gCons (gC (.int 2)) gNil)))) (aName 8)) (sSeq (sAsg (gCall q_l_blind_block (gCons (gVar 0) (gCons (gVar 1) (gCons (gVar 2) (gCons (gVar 3) (gCons (gOp dAdd (gOp dSub (gVar 4) (gVar 8)) (gC (.int 1))) gNil)))))) (aName 9)) (sSeq (sFor (iRng (gCons (gOp dSub (gVar 8) (gC (.int 1))) gNil)) (aName 10) (sSeq (sAsg (gCall q_l_blind_block (gCons (gVar 0) (gCons (gVar 1) (gCons (gVar 2) (gCons (gVar 3) (gCons (gOp dAdd (gOp dSub (gVar 4) (gVar 8)) (gC (.int 1))) gNil)))))) (aName 11)) (sAsg (gTup (gCons (gTup (gCons (gC (.str "if")) (gCons (gTup (gCons (gC (.str "name")) (gCons (gC (.str "a")) (gCons (gVar 10) gNil)))) (gCons (gVar 11) (gCons (gVar 9) gNil))))) gNil)) (aName 9)))) (sRet (gOp dAdd (gTup (gCons (gTup (gCons (gC (.str "throw")) (gCons (gC (.str "a")) (gCons (gVar 8) gNil)))) gNil)) (gVar 9))))))) sNext) (sSeq (sAsg (gOp dAdd (gVar 2) (gLstF (gCons (gVar 7) gNil))) (aName 12)) (sSeq (sIf (tOr (tE (gOp dEq (gVar 6) (gC (.int 3)))) (tE (gOp dLt (gVar 4) (gOp dSub (gOp dIx (gVar 1) (gVar 7)) (gC (.int 1)))))) (sRet (gOp dAdd (gTup (gCons (gTup (gCons (gC (.str "open")) (gCons (gVar 7) gNil))) gNil)) (gCall q_l_blind_block (gCons (gVar 0) (gCons (gVar 1) (gCons (gVar 12) (gCons (gVar 3) (gCons (gVar 4) gNil)))))))) sNext) (sSeq (sAsg (gCall q_l_blind_block (gCons (gVar 0) (gCons (gVar 1) (gCons (gVar 12) (gCons (gVar 3) (gCons (gOp dAdd (gOp dSub (gVar 4) (gOp dIx (gVar 1) (gVar 7))) (gC (.int 1))) gNil)))))) (aName 9)) (sSeq (sFor (iRng (gCons (gOp dSub (gOp dIx (gVar 1) (gVar 7)) (gC (.int 1))) gNil)) (aName 13) (sSeq (sAsg (gCall q_l_blind_block (gCons (gVar 0) (gCons (gVar 1) (gCons (gVar 12) (gCons (gVar 3) (gCons (gOp dAdd (gOp dSub (gVar 4) (gOp dIx (gVar 1) (gVar 7))) (gC (.int 1))) gNil)))))) (aName 11)) (sAsg (gTup (gCons (gTup (gCons (gC (.str "if")) (gCons (gTup (gCons (gC (.str "cell")) (gCons (gVar 7) (gCons (gVar 13) gNil)))) (gCons (gVar 11) (gCons (gVar 9) gNil))))) gNil)) (aName 9)))) (sRet (gVar 9))))))))))))
def g_l_is_int : DS := (sRet (gAnd (gB (dIsI .int) (gVar 0)) (gNot (gB (dIsI .bool) (gVar 0)))))
def g_l_is_move (p_l_is_int : PSp) : DS := (sSeq (sIf (tOr (tNot (tE (gB (dIsI .tup) (gVar 0)))) (tE (gOp dEq (gVar 0) (gTup gNil)))) (sRet (gC (.bl false))) sNext) (sSeq (sIf (tE (gOp dEq (gOp dIx (gVar 0) (gC (.int 0))) (gC (.str "throw")))) (sRet (gAnd (gOp dEq (gB dLen (gVar 0)) (gC (.int 2))) (gAnd (gPure p_l_is_int (gCons (gOp dIx (gVar 0) (gC (.int 1))) gNil)) (gOp dGe (gOp dIx (gVar 0) (gC (.int 1))) (gC (.int 0)))))) sNext) (sRet (gOp dIn (gVar 0) (gLstF (gCons (gTup (gCons (gC (.str "go")) gNil)) (gCons (gTup (gCons (gC (.str "fall")) gNil)) gNil)))))))
def g_l_is_breach (p_l_is_int : PSp) (p_l_contents : PSp) (p_l_is_move : PSp) (p_l_moved : PSp) : DS := (sSeq (sIf (tOr (tNot (tE (gB (dIsI .tup) (gVar 3)))) (tOr (tE (gOp dNe (gB dLen (gVar 3)) (gC (.int 2)))) (tNot (tE (gB (dIsI .tup) (gOp dIx (gVar 3) (gC (.int 1)))))))) (sRet (gC (.bl false))) sNext) (sSeq (sIf (tOr (tNot (tE (gB (dIsI .tup) (gOp dIx (gVar 3) (gC (.int 0)))))) (tNot (tE (gB dAll (gComp (iSeq (gOp dIx (gVar 3) (gC (.int 0)))) (aName 5) tYes (gPure p_l_is_int (gCons (gVar 5) gNil)) [5]))))) (sRet (gC (.bl false))) sNext) (sSeq (sIf (tOr (tE (gOp dNotIn (gOp dIx (gVar 3) (gC (.int 0))) (gPure p_l_contents (gCons (gVar 0) gNil)))) (tNot (tE (gB dAll (gComp (iSeq (gOp dIx (gVar 3) (gC (.int 1)))) (aName 6) tYes (gPure p_l_is_move (gCons (gVar 6) gNil)) [6]))))) (sRet (gC (.bl false))) sNext) (sSeq (sAsg (gPure p_l_moved (gCons (gVar 1) (gCons (gOp dIx (gVar 3) (gC (.int 0))) (gCons (gVar 2) (gCons (gOp dIx (gVar 3) (gC (.int 1))) gNil))))) (aName 4)) (sSeq (sIf (tOr (tE (gIsN (gVar 4))) (tE (gIsN (gOp dIx (gVar 4) (gC (.int 0)))))) (sRet (gC (.bl false))) sNext) (sRet (gB dAny (gComp (iSeq (gOp dIx (gVar 4) (gC (.int 1)))) (aName 7) tYes (gOp dNotIn (gVar 7) (gOp dIx (gVar 4) (gC (.int 0)))) [7]))))))))
def g_l_some_moves (q_l_draw : DSp) (p_l_moved : PSp) : DS := (sSeq (sAsg (gTup gNil) (aName 4)) (sSeq (sFor (iRng (gCons (gOp dAdd (gC (.int 4)) (gCall q_l_draw (gCons (gVar 0) (gCons (gC (.int 8)) gNil)))) gNil)) (aName 5) (sSeq (sAsg (gPure p_l_moved (gCons (gVar 1) (gCons (gVar 2) (gCons (gVar 3) (gCons (gVar 4) gNil))))) (aName 6)) (sSeq (sIf (tOr (tE (gIsN (gVar 6))) (tE (gNotN (gOp dIx (gVar 6) (gC (.int 0)))))) (sRet (gVar 4)) sNext) (sSeq (sAsg (gCall q_l_draw (gCons (gVar 0) (gCons (gC (.int 6)) gNil))) (aName 7)) (sSeq (sAsg (gTup (gCons (gC (.str "fall")) gNil)) (aName 8)) (sSeq (sIf (tE (gOp dGt (gVar 7) (gC (.int 1)))) (sSeq (sAsg (gTup (gCons (gC (.str "go")) gNil)) (aName 8)) (sIf (tE (gIsN (gPure p_l_moved (gCons (gVar 1) (gCons (gVar 2) (gCons (gVar 3) (gCons (gOp dAdd (gVar 4) (gTup (gCons (gVar 8) gNil))) gNil))))))) (sAsg (gTup (gCons (gC (.str "throw")) (gCons (gCall q_l_draw (gCons (gVar 0) (gCons (gC (.int 3)) gNil))) gNil))) (aName 8)) sNext)) sNext) (sAsg (gOp dAdd (gVar 4) (gTup (gCons (gVar 8) gNil))) (aName 4)))))))) (sRet (gVar 4))))
def g_l_bent (q_l_draw : DSp) : DS := (sSeq (sAsg (gVar 1) (aTup 2 (aCons (aName 2) (aCons (aName 3) aNil)))) (sSeq (sAsg (gCall q_l_draw (gCons (gVar 0) (gCons (gOp dAdd (gB dLen (gVar 3)) (gC (.int 1))) gNil))) (aName 4)) (sSeq (sAsg (gLstF (gCons (gTup (gCons (gC (.str "go")) gNil)) (gCons (gTup (gCons (gC (.str "fall")) gNil)) (gCons (gTup (gCons (gC (.str "throw")) (gCons (gC (.int 0)) gNil))) (gCons (gTup (gCons (gC (.str "throw")) (gCons (gC (.int 1)) gNil))) (gCons (gTup (gCons (gC (.str "throw")) (gCons (gC (.bl true)) gNil))) (gCons (gTup (gCons (gC (.str "throw")) gNil)) (gCons (gLstF (gCons (gC (.str "go")) gNil)) (gCons (gC .non) (gCons (gC (.str "go")) (gCons (gTup (gCons (gC (.str "stop")) gNil)) gNil))))))))))) (aName 5)) (sSeq (sAsg (gCall q_l_draw (gCons (gVar 0) (gCons (gC (.int 6)) gNil))) (aName 6)) (sSeq (sIf (tE (gOp dEq (gVar 6) (gC (.int 0)))) (sRet (gTup (gCons (gVar 2) (gCons (gOp dAdd (gSlice (gVar 3) oNone (oSome (gVar 4))) (gSlice (gVar 3) (oSome (gOp dAdd (gVar 4) (gC (.int 1)))) oNone)) gNil)))) sNext) (sSeq (sIf (tE (gOp dLt (gVar 6) (gC (.int 3)))) (sRet (gTup (gCons (gVar 2) (gCons (gOp dAdd (gOp dAdd (gSlice (gVar 3) oNone (oSome (gVar 4))) (gTup (gCons (gOp dIx (gVar 5) (gCall q_l_draw (gCons (gVar 0) (gCons (gC (.int 10)) gNil)))) gNil))) (gSlice (gVar 3) (oSome (gVar 4)) oNone)) gNil)))) sNext) (sSeq (sIf (tE (gOp dEq (gVar 6) (gC (.int 3)))) (sRet (gTup (gCons (gOp dAdd (gSlice (gVar 2) oNone (oSome (gB dNeg (gC (.int 1))))) (gTup (gCons (gOp dIx (gLstF (gCons (gC (.int 0)) (gCons (gC (.int 1)) (gCons (gC (.bl true)) (gCons (gC (.int 9)) (gCons (gC .non) gNil)))))) (gCall q_l_draw (gCons (gVar 0) (gCons (gC (.int 5)) gNil)))) gNil))) (gCons (gVar 3) gNil)))) sNext) (sSeq (sAsg (gLstF (gCons (gB dListOf (gVar 1)) (gCons (gTup (gCons (gVar 2) (gCons (gC .non) gNil))) (gCons (gTup (gCons (gB dListOf (gVar 2)) (gCons (gVar 3) gNil))) (gCons (gTup (gCons (gVar 2) gNil)) (gCons (gC .non) (gCons (gTup (gCons (gVar 2) (gCons (gVar 3) (gCons (gC (.int 0)) gNil)))) (gCons gDic0F gNil)))))))) (aName 7)) (sRet (gIf (tE (gOp dEq (gVar 6) (gC (.int 4)))) (gOp dIx (gVar 7) (gCall q_l_draw (gCons (gVar 0) (gCons (gC (.int 7)) gNil)))) (gVar 1)))))))))))
def g_law (q_l_hand : DSp) (q_l_draw : DSp) (q_l_blind_block : DSp) (q_Program_init : DSp) (p_l_contents : PSp) (p_l_shows : PSp) (p_breach : PSp) (p_l_is_breach : PSp) (p_is_breach : PSp) (q_l_some_moves : DSp) (q_l_bent : DSp) : DS := (sSeq (sAsg (gCall q_l_hand (gCons (gVar 0) gNil)) (aName 1)) (sSeq (sFor (iRng (gCons (gC (.int 3)) gNil)) (aName 2) (sSeq (sAsg (gOp dIx (gLstF (gCons (gTup (gCons (gC (.int 2)) (gCons (gC (.int 2)) gNil))) (gCons (gTup (gCons (gC (.int 3)) (gCons (gC (.int 2)) gNil))) (gCons (gTup (gCons (gC (.int 2)) (gCons (gC (.int 2)) (gCons (gC (.int 2)) gNil)))) (gCons (gTup (gCons (gC (.int 2)) gNil)) gNil))))) (gCall q_l_draw (gCons (gVar 1) (gCons (gC (.int 4)) gNil)))) (aName 3)) (sSeq (sAsg (gCall q_l_blind_block (gCons (gVar 1) (gCons (gVar 3) (gCons (gLstF gNil) (gCons (gLst (gCons (gC (.int 2)) (gCons (gC (.int 30)) gNil))) (gCons (gC (.int 5)) gNil)))))) (aName 4)) (sSeq (sAsg (gMakeF .prog q_Program_init (gCons (gVar 3) (gCons (gVar 4) gNil))) (aName 5)) (sSeq (sAsg (gB dMax (gComp (iSeq (gPure p_l_contents (gCons (gVar 3) gNil))) (aName 10) tYes (gB dLen (gPure p_l_shows (gCons (gVar 4) (gCons (gVar 10) gNil)))) [10])) (aName 6)) (sFor (iSeq (gLstF (gCons (gTup (gCons (gC (.bl false)) (gCons (gC (.bl false)) gNil))) (gCons (gTup (gCons (gC (.bl false)) (gCons (gC (.bl true)) gNil))) (gCons (gTup (gCons (gC (.bl true)) (gCons (gC (.bl false)) gNil))) (gCons (gTup (gCons (gC (.bl true)) (gCons (gC (.bl true)) gNil))) gNil)))))) (aName 7) (sSeq (sAsg (gPure p_breach (gCons (gVar 5) (gCons (gVar 7) gNil))) (aName 8)) (sSeq (sIf (tE (gOp dNe (gIsN (gVar 8)) (gOr (gOp dIn (gC (.bl true)) (gVar 7)) (gOp dLt (gVar 6) (gC (.int 2)))))) (sRet (gC (.bl false))) sNext) (sSeq (sIf (tE (gNotN (gVar 8))) (sIf (tOr (tNot (tE (gPure p_l_is_breach (gCons (gVar 3) (gCons (gVar 4) (gCons (gVar 7) (gCons (gVar 8) gNil))))))) (tE (gOp dNotBl (gPure p_is_breach (gCons (gVar 5) (gCons (gVar 7) (gCons (gVar 8) gNil)))) (gC (.bl true))))) (sRet (gC (.bl false))) sNext) sNext) (sSeq (sAsg (gPure p_l_contents (gCons (gVar 3) gNil)) (aName 9)) (sSeq (sAsg (gOp dIx (gVar 9) (gCall q_l_draw (gCons (gVar 1) (gCons (gB dLen (gVar 9)) gNil)))) (aName 10)) (sSeq (sAsg (gTup (gCons (gVar 10) (gCons (gCall q_l_some_moves (gCons (gVar 1) (gCons (gVar 4) (gCons (gVar 10) (gCons (gVar 7) gNil))))) gNil))) (aName 11)) (sSeq (sIf (tAnd (tE (gNotN (gVar 8))) (tE (gOp dEq (gCall q_l_draw (gCons (gVar 1) (gCons (gC (.int 2)) gNil))) (gC (.int 0))))) (sAsg (gVar 8) (aName 11)) sNext) (sSeq (sIf (tE (gOp dEq (gCall q_l_draw (gCons (gVar 1) (gCons (gC (.int 2)) gNil))) (gC (.int 0)))) (sAsg (gCall q_l_bent (gCons (gVar 1) (gCons (gVar 11) gNil))) (aName 11)) sNext) (sSeq (sAsg (gPure p_is_breach (gCons (gVar 5) (gCons (gVar 7) (gCons (gVar 11) gNil)))) (aName 12)) (sIf (tOr (tNot (tE (gB (dIsI .bool) (gVar 12)))) (tE (gOp dNe (gVar 12) (gPure p_l_is_breach (gCons (gVar 3) (gCons (gVar 4) (gCons (gVar 7) (gCons (gVar 11) gNil)))))))) (sRet (gC (.bl false))) sNext)))))))))))))))) (sRet (gC (.bl true)))))
end G
set_option Elab.async false
set_option linter.all false
set_option maxRecDepth 100000
set_option maxHeartbeats 2000000
/-! What data stands for in an abstract heap: a part G that never changes, a memory M of what may. Readings over data are readings. -/
namespace G
open PySem PySem.Spec PyProof.Rows
open L2 (V Hp HO upd SqL SqT Same Cx Inv PE PT PA PS PSs PG PI RelV Vals VK Ends)

/-! ### data stands -/
mutual
inductive Rep (K : PySem.W.Frag) (ca : Cl → Addr) (G : Hp) : V → D → Prop
  | non : Rep K ca G .non .non
  | bl (b : Bool) : Rep K ca G (.bl b) (.bl b)
  | int (i : Int) : Rep K ca G (.int i) (.int i)
  | str (x : Str) : Rep K ca G (.str x) (.str x)
  | tup {a : Addr} {xs : List V} {ds : List D} : SqT K G a xs → RepL K ca G xs ds → Rep K ca G (.ref a) (.tup ds)
  | lst {a : Addr} {xs : List V} {ds : List D} : G a = some (.lst xs) → RepL K ca G xs ds → Rep K ca G (.ref a) (.lst ds)
  | dic {a : Addr} {kvs : List (Key × V)} {dvs : List (Key × D)} : G a = some (.dK kvs) → RepK K ca G kvs dvs → Rep K ca G (.ref a) (.dic dvs)
  | obj {a dx : Addr} {c : Cl} {fs : List (Str × V)} {dfs : List (Str × D)} : G a = some (.ins (ca c) dx fs) → RepF K ca G fs dfs → Rep K ca G (.ref a) (.obj c dfs)
  | ptr (a : Addr) : Rep K ca G (.ref a) (.ptr a)
  | scr {a : Addr} {ns : List Int} : SqL K G a (ns.map V.int) → Rep K ca G (.ref a) (.scr ns)
inductive RepL (K : PySem.W.Frag) (ca : Cl → Addr) (G : Hp) : List V → List D → Prop
  | nil : RepL K ca G [] []
  | cons {v : V} {vs : List V} {d : D} {ds : List D} : Rep K ca G v d → RepL K ca G vs ds → RepL K ca G (v :: vs) (d :: ds)
inductive RepK (K : PySem.W.Frag) (ca : Cl → Addr) (G : Hp) : List (Key × V) → List (Key × D) → Prop
  | nil : RepK K ca G [] []
  | cons {q : Key} {v : V} {vs : List (Key × V)} {d : D} {ds : List (Key × D)} : Rep K ca G v d → RepK K ca G vs ds → RepK K ca G ((q, v) :: vs) ((q, d) :: ds)
inductive RepF (K : PySem.W.Frag) (ca : Cl → Addr) (G : Hp) : List (Str × V) → List (Str × D) → Prop
  | nil : RepF K ca G [] []
  | cons {q : Str} {v : V} {vs : List (Str × V)} {d : D} {ds : List (Str × D)} : Rep K ca G v d → RepF K ca G vs ds → RepF K ca G ((q, v) :: vs) ((q, d) :: ds)
end
section
variable {K : PySem.W.Frag} {ca : Cl → Addr} {G G' G1 G2 H H' H1 H2 : Hp} {M M1 M2 M' : Mem}
theorem Same.sqt {a : Addr} {xs : List V} (e : Same G G') (h : SqT K G a xs) : SqT K G' a xs := by
  rcases h with (h | ⟨o, h⟩) | h
  · exact .inl (.inl (e _ _ h))
  · exact .inl (.inr ⟨o, e _ _ h⟩)
  · exact .inr h
mutual
theorem Rep.mono (s : Same G G') : ∀ {v : V} {d : D}, Rep K ca G v d → Rep K ca G' v d
  | _, _, .non => .non
  | _, _, .bl b => .bl b
  | _, _, .int i => .int i
  | _, _, .str x => .str x
  | _, _, .tup h r => .tup (Same.sqt s h) (RepL.mono s r)
  | _, _, .lst h r => .lst (s _ _ h) (RepL.mono s r)
  | _, _, .dic h r => .dic (s _ _ h) (RepK.mono s r)
  | _, _, .obj h r => .obj (s _ _ h) (RepF.mono s r)
  | _, _, .ptr a => .ptr a
  | _, _, .scr h => .scr (L2.Same.seq s h)
theorem RepL.mono (s : Same G G') : ∀ {v : List V} {d : List D}, RepL K ca G v d → RepL K ca G' v d
  | _, _, .nil => .nil
  | _, _, .cons h r => .cons (Rep.mono s h) (RepL.mono s r)
theorem RepK.mono (s : Same G G') : ∀ {v : List (Key × V)} {d : List (Key × D)}, RepK K ca G v d → RepK K ca G' v d
  | _, _, .nil => .nil
  | _, _, .cons h r => .cons (Rep.mono s h) (RepK.mono s r)
theorem RepF.mono (s : Same G G') : ∀ {v : List (Str × V)} {d : List (Str × D)}, RepF K ca G v d → RepF K ca G' v d
  | _, _, .nil => .nil
  | _, _, .cons h r => .cons (Rep.mono s h) (RepF.mono s r)
end
theorem RepL.length : ∀ {vs : List V} {ds : List D}, RepL K ca G vs ds → vs.length = ds.length
  | _, _, .nil => rfl
  | _, _, .cons _ r => by rw [List.length_cons, List.length_cons, RepL.length r]
theorem RepK.length : ∀ {vs : List (Key × V)} {ds : List (Key × D)}, RepK K ca G vs ds → vs.length = ds.length
  | _, _, .nil => rfl
  | _, _, .cons _ r => by rw [List.length_cons, List.length_cons, RepK.length r]
theorem RepF.length : ∀ {vs : List (Str × V)} {ds : List (Str × D)}, RepF K ca G vs ds → vs.length = ds.length
  | _, _, .nil => rfl
  | _, _, .cons _ r => by rw [List.length_cons, List.length_cons, RepF.length r]
theorem RepL.append : ∀ {vs ws : List V} {ds es : List D}, RepL K ca G vs ds → RepL K ca G ws es → RepL K ca G (vs ++ ws) (ds ++ es)
  | _, _, _, _, .nil, s => s
  | _, _, _, _, .cons h r, s => .cons h (RepL.append r s)
theorem RepL.get : ∀ {vs : List V} {ds : List D} {i : Nat} {d : D}, RepL K ca G vs ds → ds[i]? = some d → ∃ v, vs[i]? = some v ∧ Rep K ca G v d
  | _, _, _, _, .nil, e => by simp at e
  | _, _, 0, _, .cons h _, e => by simp at e; subst e; exact ⟨_, rfl, h⟩
  | _, _, i + 1, d, .cons _ r, e => by
    obtain ⟨v, h1, h2⟩ := RepL.get (i := i) (d := d) r (by simpa using e)
    exact ⟨v, by simpa using h1, h2⟩
theorem RepL.getV : ∀ {vs : List V} {ds : List D} {i : Nat} {v : V}, RepL K ca G vs ds → vs[i]? = some v → ∃ d, ds[i]? = some d ∧ Rep K ca G v d
  | _, _, _, _, .nil, e => by simp at e
  | _, _, 0, _, .cons h _, e => by simp at e; subst e; exact ⟨_, rfl, h⟩
  | _, _, i + 1, d, .cons _ r, e => by
    obtain ⟨v, h1, h2⟩ := RepL.getV (i := i) (v := d) r (by simpa using e)
    exact ⟨v, by simpa using h1, h2⟩
theorem RepL.take : ∀ {vs : List V} {ds : List D} (n : Nat), RepL K ca G vs ds → RepL K ca G (vs.take n) (ds.take n)
  | _, _, 0, _ => .nil
  | _, _, _ + 1, .nil => .nil
  | _, _, n + 1, .cons h r => .cons h (RepL.take n r)
theorem RepL.drop : ∀ {vs : List V} {ds : List D} (n : Nat), RepL K ca G vs ds → RepL K ca G (vs.drop n) (ds.drop n)
  | _, _, 0, r => r
  | _, _, _ + 1, .nil => .nil
  | _, _, n + 1, .cons _ r => RepL.drop n r
theorem RepL.set {v : V} {d : D} (h : Rep K ca G v d) : ∀ {vs : List V} {ds : List D} (i : Nat), RepL K ca G vs ds → RepL K ca G (vs.set i v) (ds.set i d)
  | _, _, _, .nil => .nil
  | _, _, 0, .cons _ r => .cons h r
  | _, _, i + 1, .cons q r => .cons q (RepL.set h i r)
theorem RepL.snoc : ∀ {vs : List V} {ds : List D} {d : D}, RepL K ca G vs (ds ++ [d]) → ∃ vs' v, vs = vs' ++ [v] ∧ RepL K ca G vs' ds ∧ Rep K ca G v d
  | _, [], d, .cons h .nil => ⟨[], _, rfl, .nil, h⟩
  | _, e :: es, d, .cons h r => by
    obtain ⟨vs', v, e1, r1, h1⟩ := RepL.snoc r
    exact ⟨_ :: vs', v, by rw [e1] <;> rfl, .cons h r1, h1⟩

/-! ### the memory stands -/
def MRep (K : PySem.W.Frag) (ca : Cl → Addr) (G H : Hp) (a : Addr) : MO → Prop
  | .lst ds => ∃ xs, H a = some (.lst xs) ∧ RepL K ca G xs ds
  | .dic dvs => ∃ kvs, H a = some (.dK kvs) ∧ RepK K ca G kvs dvs
  | .ins c dfs => ∃ dx fs, H a = some (.ins (ca c) dx fs) ∧ RepF K ca G fs dfs
theorem MRep.mono {a : Addr} {o : MO} (s : Same G G') (e : ∀ u, H a = some u → H' a = some u) (h : MRep K ca G H a o) : MRep K ca G' H' a o := by
  cases o with
  | lst ds => obtain ⟨xs, h1, h2⟩ := h; exact ⟨xs, e _ h1, h2.mono s⟩
  | dic dvs => obtain ⟨xs, h1, h2⟩ := h; exact ⟨xs, e _ h1, h2.mono s⟩
  | ins c dfs => obtain ⟨dx, fs, h1, h2⟩ := h; exact ⟨dx, fs, e _ h1, h2.mono s⟩
theorem MRep.ex {a : Addr} {o : MO} (h : MRep K ca G H a o) : ∃ u, H a = some u := by
  cases o with
  | lst ds => obtain ⟨xs, h1, _⟩ := h; exact ⟨_, h1⟩
  | dic dvs => obtain ⟨xs, h1, _⟩ := h; exact ⟨_, h1⟩
  | ins c dfs => obtain ⟨dx, fs, h1, _⟩ := h; exact ⟨_, h1⟩
structure MemOk (K : PySem.W.Frag) (ca : Cl → Addr) (G H : Hp) (M : Mem) : Prop where
  sub : Same G H
  mem : ∀ a o, M a = some o → G a = none ∧ MRep K ca G H a o
structure Fr (G H : Hp) (M : Mem) (G' H' : Hp) (M' : Mem) : Prop where
  g : Same G G'
  keep : ∀ a o, M a = none → H a = some o → H' a = some o
  out : ∀ a o, M a = none → H a = some o → G a = none → G' a = none
  new : ∀ a o, M' a = some o → (∃ u, M a = some u) ∨ H a = none
theorem Fr.refl : Fr G H M G H M := ⟨Same.refl G, fun _ _ _ h => h, fun _ _ _ _ h => h, fun a o h => .inl ⟨o, h⟩⟩
theorem Fr.trans (f : Fr G H M G1 H1 M1) (g : Fr G1 H1 M1 G2 H2 M2) : Fr G H M G2 H2 M2 where
  g := f.g.trans g.g
  keep := fun a o hm ha => by
    have hm1 : M1 a = none := by
      cases q : M1 a with
      | none => rfl
      | some u =>
        rcases f.new a u q with ⟨z, e⟩ | e
        · rw [hm] at e; cases e
        · rw [ha] at e; cases e
    exact g.keep a o hm1 (f.keep a o hm ha)
  out := fun a o hm ha hg => by
    have hm1 : M1 a = none := by
      cases q : M1 a with
      | none => rfl
      | some u =>
        rcases f.new a u q with ⟨z, e⟩ | e
        · rw [hm] at e; cases e
        · rw [ha] at e; cases e
    exact g.out a o hm1 (f.keep a o hm ha) (f.out a o hm ha hg)
  new := fun a o h => by
    rcases g.new a o h with ⟨u, e⟩ | e
    · exact f.new a u e
    · cases q : M a with
      | some u => exact .inl ⟨u, rfl⟩
      | none =>
        refine .inr ?_
        cases z : H a with
        | none => rfl
        | some o =>
          rw [f.keep a o q z] at e
          cases e
theorem Fr.le (f : Fr G H M G' H' M1) (h : M'.le M1) : Fr G H M G' H' M' := ⟨f.g, f.keep, f.out, fun a o e => f.new a o (h a o e)⟩
theorem MemOk.le (m : MemOk K ca G H M) (h : M'.le M) : MemOk K ca G H M' := ⟨m.sub, fun a o e => m.mem a o (h a o e)⟩
theorem MemOk.no_ (m : MemOk K ca G H M) {a : Addr} (h : H a = none) : M a = none := by
  cases q : M a with
  | none => rfl
  | some o =>
    obtain ⟨u, e⟩ := (m.mem a o q).2.ex
    rw [h] at e; cases e
theorem MemOk.gnone (m : MemOk K ca G H M) {a : Addr} (h : H a = none) : G a = none := m.sub.free h
/-- a thing is laid that never changes -/
theorem MemOk.frozen (m : MemOk K ca G H M) {p : Addr} {o : HO} (hp : H p = none) : MemOk K ca (upd G p o) (upd H p o) M ∧ Fr G H M (upd G p o) (upd H p o) M := by
  have hg := m.gnone hp
  have sG : Same G (upd G p o) := fun b u e => by rw [L2.upd_ne (L2.ne_of_none e hg)]; exact e
  refine ⟨⟨fun b u e => ?_, fun a u e => ?_⟩, sG, fun a u _ e => ?_, fun a u _ e g => ?_, fun a u e => .inl ⟨u, e⟩⟩
  · by_cases h : b = p
    · subst h; rw [L2.upd_same] at e ⊢; exact e
    · rw [L2.upd_ne h] at e ⊢; exact m.sub b u e
  · obtain ⟨h1, h2⟩ := m.mem a u e
    have ne : a ≠ p := fun z => by subst z; rw [m.no_ hp] at e; cases e
    exact ⟨by rw [L2.upd_ne ne]; exact h1, h2.mono sG fun w q => by rw [L2.upd_ne ne]; exact q⟩
  · rw [L2.upd_ne (L2.ne_of_none e hp)]; exact e
  · rw [L2.upd_ne (L2.ne_of_none e hp)]; exact g
/-- a thing is laid that may change -/
theorem MemOk.laid (m : MemOk K ca G H M) {p : Addr} {o : HO} {u : MO} (hp : H p = Option.none) (hr : MRep K ca G (upd H p o) p u) : MemOk K ca G (upd H p o) (M.set p u) ∧ Fr G H M G (upd H p o) (M.set p u) := by
  have hg := m.gnone hp
  refine ⟨⟨fun b w e => ?_, fun a w e => ?_⟩, Same.refl G, fun a w _ e => ?_, fun a w _ _ g => g, fun a w e => ?_⟩
  · rw [L2.upd_ne (L2.ne_of_none e hg)]; exact m.sub b w e
  · by_cases h : a = p
    · subst h; rw [Mem.same] at e; cases e; exact ⟨hg, hr⟩
    · rw [Mem.ne h] at e
      obtain ⟨h1, h2⟩ := m.mem a w e
      exact ⟨h1, h2.mono (Same.refl G) fun z q => by rw [L2.upd_ne h]; exact q⟩
  · rw [L2.upd_ne (L2.ne_of_none e hp)]; exact e
  · by_cases h : a = p
    · subst h; exact .inr hp
    · rw [Mem.ne h] at e; exact .inl ⟨w, e⟩
/-- a thing of the memory is changed -/
theorem MemOk.wrote (m : MemOk K ca G H M) {p : Addr} {o : HO} {u v : MO} (hp : M p = some v) (hr : MRep K ca G (upd H p o) p u) : MemOk K ca G (upd H p o) (M.set p u) ∧ Fr G H M G (upd H p o) (M.set p u) := by
  have hg := (m.mem p v hp).1
  refine ⟨⟨fun b w e => ?_, fun a w e => ?_⟩, Same.refl G, fun a w hm e => ?_, fun a w _ _ g => g, fun a w e => ?_⟩
  · rw [L2.upd_ne (L2.ne_of_none e hg)]; exact m.sub b w e
  · by_cases h : a = p
    · subst h; rw [Mem.same] at e; cases e; exact ⟨hg, hr⟩
    · rw [Mem.ne h] at e
      obtain ⟨h1, h2⟩ := m.mem a w e
      exact ⟨h1, h2.mono (Same.refl G) fun z q => by rw [L2.upd_ne h]; exact q⟩
  · have ne : a ≠ p := fun z => by subst z; rw [hp] at hm; cases hm
    rw [L2.upd_ne ne]; exact e
  · by_cases h : a = p
    · subst h; exact .inl ⟨v, hp⟩
    · rw [Mem.ne h] at e; exact .inl ⟨w, e⟩
/-- a thing of the memory changes no more -/
theorem MemOk.freeze (m : MemOk K ca G H M) {p : Addr} {o : HO} {v : MO} (hp : M p = some v) (ho : H p = some o) : MemOk K ca (upd G p o) H (M.del p) ∧ Fr G H M (upd G p o) H (M.del p) := by
  have hg := (m.mem p v hp).1
  have sG : Same G (upd G p o) := fun b u e => by rw [L2.upd_ne (L2.ne_of_none e hg)]; exact e
  refine ⟨⟨fun b w e => ?_, fun a w e => ?_⟩, sG, fun a w hm e => e, fun a w hm _ g => ?_, fun a w e => ?_⟩
  · by_cases h : b = p
    · subst h; rw [L2.upd_same] at e; cases e; exact ho
    · rw [L2.upd_ne h] at e; exact m.sub b w e
  · by_cases h : a = p
    · subst h; rw [Mem.dsame] at e; cases e
    · rw [Mem.dne h] at e
      obtain ⟨h1, h2⟩ := m.mem a w e
      exact ⟨by rw [L2.upd_ne h]; exact h1, h2.mono sG fun z q => q⟩
  · have ne : a ≠ p := fun z => by subst z; rw [hp] at hm; cases hm
    rw [L2.upd_ne ne]; exact g
  · by_cases h : a = p
    · subst h; rw [Mem.dsame] at e; cases e
    · rw [Mem.dne h] at e; exact .inl ⟨w, e⟩

/-! ### slots -/
structure SlOk (K : PySem.W.Frag) (ca : Cl → Addr) (G : Hp) (σ : L2.St) (Γ : Slots) : Prop where
  len : σ.length = Γ.length
  at_ : ∀ (i : Nat) (d : D), Γ[i]? = some (some d) → ∃ v, σ[i]? = some (some v) ∧ Rep K ca G v d
theorem SlOk.mono {σ : L2.St} {Γ : Slots} (s : Same G G') (h : SlOk K ca G σ Γ) : SlOk K ca G' σ Γ := ⟨h.len, fun i d e => by
  obtain ⟨v, h1, h2⟩ := h.at_ i d e
  exact ⟨v, h1, h2.mono s⟩⟩
theorem SlOk.set {σ : L2.St} {Γ : Slots} {v : V} {d : D} (i : Nat) (h : SlOk K ca G σ Γ) (r : Rep K ca G v d) : SlOk K ca G (σ.set i (some v)) (Γ.set i (some d)) := by
  refine ⟨by rw [List.length_set, List.length_set]; exact h.len, fun j e hj => ?_⟩
  by_cases hij : i = j
  · subst hij
    have hl : i < Γ.length := by
      have := (List.getElem?_eq_some_iff.mp hj).1
      rw [List.length_set] at this
      exact this
    rw [List.getElem?_set_self hl] at hj
    cases hj
    exact ⟨v, by rw [List.getElem?_set_self (by rw [h.len]; exact hl)], r⟩
  · rw [List.getElem?_set_ne hij] at hj
    obtain ⟨w, h1, h2⟩ := h.at_ j e hj
    exact ⟨w, by rw [List.getElem?_set_ne hij]; exact h1, h2⟩
theorem SlOk.unset {σ : L2.St} {Γ : Slots} (i : Nat) (h : SlOk K ca G σ Γ) : SlOk K ca G (σ.set i none) (Γ.set i none) := by
  refine ⟨by rw [List.length_set, List.length_set]; exact h.len, fun j e hj => ?_⟩
  by_cases hij : i = j
  · subst hij
    have hl : i < Γ.length := by
      have := (List.getElem?_eq_some_iff.mp hj).1
      rw [List.length_set] at this
      exact this
    rw [List.getElem?_set_self hl] at hj
    cases hj
  · rw [List.getElem?_set_ne hij] at hj
    obtain ⟨w, h1, h2⟩ := h.at_ j e hj
    exact ⟨w, by rw [List.getElem?_set_ne hij]; exact h1, h2⟩
theorem SlOk.wipe {σ : L2.St} {Γ : Slots} (h : SlOk K ca G σ Γ) : ∀ vs : List Nat, SlOk K ca G (L2.wipe σ vs) (wipe Γ vs)
  | [] => h
  | v :: vs => SlOk.unset v (SlOk.wipe h vs)
/-- what a value's end says -/
def PostE (K : PySem.W.Frag) (ca : Cl → Addr) (G H : Hp) (M : Mem) (Q : D → Mem → Prop) : VK := fun v H' => ∃ G' d M', Fr G H M G' H' M' ∧ MemOk K ca G' H' M' ∧ Rep K ca G' v d ∧ Q d M'
def PostB (K : PySem.W.Frag) (ca : Cl → Addr) (G H : Hp) (M : Mem) (Q : Bool → Mem → Prop) : Bool → Hp → Prop := fun b H' => ∃ G' M', Fr G H M G' H' M' ∧ MemOk K ca G' H' M' ∧ Q b M'
def PostL (K : PySem.W.Frag) (ca : Cl → Addr) (G H : Hp) (M : Mem) (Q : List D → Mem → Prop) : List V → Hp → Prop := fun vs H' => ∃ G' ds M', Fr G H M G' H' M' ∧ MemOk K ca G' H' M' ∧ RepL K ca G' vs ds ∧ Q ds M'
def PostS (K : PySem.W.Frag) (ca : Cl → Addr) (G H : Hp) (M : Mem) (Q : Slots → Mem → Prop) : L2.St → Hp → Prop := fun σ H' => ∃ G' Γ M', Fr G H M G' H' M' ∧ MemOk K ca G' H' M' ∧ SlOk K ca G' σ Γ ∧ Q Γ M'
def endsOf (K : PySem.W.Frag) (ca : Cl → Addr) (G H : Hp) (M : Mem) (E : DEnds) : Ends :=
  { nx := PostS K ca G H M E.nx, rt := PostE K ca G H M E.rt, bk := PostS K ca G H M E.bk, ct := PostS K ca G H M E.ct }
theorem PostE.to {Q Q' : D → Mem → Prop} {v : V} (f : Fr G H M G1 H1 M1) (h : PostE K ca G1 H1 M1 Q v H2) (k : ∀ d M, Q d M → Q' d M) : PostE K ca G H M Q' v H2 := by
  obtain ⟨G', d, M', f', m, r, q⟩ := h
  exact ⟨G', d, M', f.trans f', m, r, k _ _ q⟩
theorem PostB.to {Q : Bool → Mem → Prop} {v : Bool} (f : Fr G H M G1 H1 M1) (h : PostB K ca G1 H1 M1 Q v H2) : PostB K ca G H M Q v H2 := by
  obtain ⟨G', M', f', m, q⟩ := h
  exact ⟨G', M', f.trans f', m, q⟩
theorem PostL.to {Q : List D → Mem → Prop} {v : List V} (f : Fr G H M G1 H1 M1) (h : PostL K ca G1 H1 M1 Q v H2) : PostL K ca G H M Q v H2 := by
  obtain ⟨G', d, M', f', m, r, q⟩ := h
  exact ⟨G', d, M', f.trans f', m, r, q⟩
theorem PostS.to {Q Q' : Slots → Mem → Prop} {σ : L2.St} (f : Fr G H M G1 H1 M1) (h : PostS K ca G1 H1 M1 Q σ H2) (k : ∀ d M, Q d M → Q' d M) : PostS K ca G H M Q' σ H2 := by
  obtain ⟨G', d, M', f', m, r, q⟩ := h
  exact ⟨G', d, M', f.trans f', m, r, k _ _ q⟩
end

/-! ### what a piece of syntax does, as it stands -/
section
variable (X : Cx)
def WE (e : Expr) : L2.TE := fun σ H R => ∀ (pins : List (Addr × Obj)) (s : Shared), Inv X pins σ H s → wpAny (model X.prog X.w) X.A (eval e X.env) (L2.EP X pins σ R) X.xe s
def WT (e : Expr) : L2.TT := fun σ H R => ∀ (pins : List (Addr × Obj)) (s : Shared), Inv X pins σ H s → wpAny (model X.prog X.w) X.A (isTrue e X.env (eval e X.env)) (L2.TP X pins σ R) X.xe s
def WW (e : Expr) : L2.TT := fun σ H R => ∀ (wh : Sem Value) (pins : List (Addr × Obj)) (s : Shared), Inv X pins σ H s → wpAny (model X.prog X.w) X.A (isTrue e X.env wh) (L2.TP X pins σ R) X.xe s
def WA (es : List Expr) : L2.TA := fun σ H R => ∀ (pos : Pos) (pins : List (Addr × Obj)) (s : Shared), Inv X pins σ H s → wpAny (model X.prog X.w) X.A (spliced (backTo pos (starEach es X.env))) (L2.AP X pins σ R) X.xe s
def WS (st : Stmt) : L2.TS := fun R σ H => ∀ (pins : List (Addr × Obj)) (s : Shared), Inv X pins σ H s → wpAny (model X.prog X.w) X.A (exec st X.env) (L2.SP X pins R) X.xe s
def WSs (st : List Stmt) : L2.TS := fun R σ H => ∀ (pins : List (Addr × Obj)) (s : Shared), Inv X pins σ H s → wpAny (model X.prog X.w) X.A (execs st X.env) (L2.SP X pins R) X.xe s
def WG (tg : Expr) : L2.TG := fun v σ H R => ∀ (pins : List (Addr × Obj)) (s : Shared) (u : Value), Inv X pins σ H s → RelV v u → wpAny (model X.prog X.w) X.A (assign tg X.env u) (fun _ s' => ∃ σ' H', Inv X pins σ' H' s' ∧ R σ' H') X.xe s
def WGs (ts : List Expr) : L2.TGs := fun vs σ H R => ∀ (pins : List (Addr × Obj)) (s : Shared) (us : List Value), Inv X pins σ H s → Vals vs us → wpAny (model X.prog X.w) X.A (assignInOrder ((assignEach ts X.env).map (·.2)) us) (fun _ s' => ∃ σ' H', Inv X pins σ' H' s' ∧ R σ' H') X.xe s
def WI (tg iter : Expr) : L2.TI := fun σ H R => ∀ (pins : List (Addr × Obj)) (s : Shared), Inv X pins σ H s → wpAny (model X.prog X.w) X.A (eval iter X.env) (fun v s1 => wpAny (model X.prog X.w) X.A (pyIter v) (L2.PIE X pins σ tg R) X.xe s1) X.xe s
def WO (e : Option Expr) : L2.TO := fun σ H R => ∀ t, L2.PO X e t → True
end
section
variable {X : Cx} {e : Expr} {es : List Expr} {st : Stmt} {sts : List Stmt} {tg iter : Expr} {σ : L2.St} {H : Hp}
theorem pe_we : PE X e (WE X e) := ⟨fun pins s σ H Q I h => h pins s I⟩
theorem pt_wt : PT X e (WT X e) := ⟨fun pins s σ H Q I h => h pins s I⟩
theorem pw_ww : L2.PW X e (WW X e) := ⟨fun wh pins s σ H Q I h => h wh pins s I⟩
theorem pa_wa : PA X es (WA X es) := ⟨fun pos pins s σ H Q I h => h pos pins s I⟩
theorem ps_ws : PS X st (WS X st) := ⟨fun pins s σ H Q I h => h pins s I⟩
theorem pss_wss : PSs X sts (WSs X sts) := ⟨fun pins s σ H Q I h => h pins s I⟩
theorem pg_wg : PG X tg (WG X tg) := ⟨fun pins s σ H v u Q I r h => h pins s u I r⟩
theorem pgs_wgs : L2.PGs X es (WGs X es) := ⟨fun pins s σ H v u Q I r h => h pins s u I r⟩
theorem pi_wi : PI X tg iter (WI X tg iter) := ⟨fun pins s σ H R I h => h pins s I⟩
theorem we_of {t : L2.TE} {R : VK} (h : PE X e t) (q : t σ H R) : WE X e σ H R := fun pins s I => h.run pins s σ H R I q
theorem wt_of {t : L2.TT} {R : Bool → Hp → Prop} (h : PT X e t) (q : t σ H R) : WT X e σ H R := fun pins s I => h.run pins s σ H R I q
theorem ww_of {t : L2.TT} {R : Bool → Hp → Prop} (h : L2.PW X e t) (q : t σ H R) : WW X e σ H R := fun wh pins s I => h.run wh pins s σ H R I q
theorem wa_of {t : L2.TA} {R : List V → Hp → Prop} (h : PA X es t) (q : t σ H R) : WA X es σ H R := fun pos pins s I => h.run pos pins s σ H R I q
theorem ws_of {t : L2.TS} {R : Ends} (h : PS X st t) (q : t R σ H) : WS X st R σ H := fun pins s I => h.run pins s σ H R I q
theorem wss_of {t : L2.TS} {R : Ends} (h : PSs X sts t) (q : t R σ H) : WSs X sts R σ H := fun pins s I => h.run pins s σ H R I q
theorem wg_of {t : L2.TG} {v : V} {R : L2.St → Hp → Prop} (h : PG X tg t) (q : t v σ H R) : WG X tg v σ H R := fun pins s u I r => h.run pins s σ H v u R I r q
theorem wgs_of {t : L2.TGs} {v : List V} {R : L2.St → Hp → Prop} (h : L2.PGs X es t) (q : t v σ H R) : WGs X es v σ H R := fun pins s u I r => h.run pins s σ H v u R I r q
theorem wi_of {t : L2.TI} {R : L2.It → Hp → Prop} (h : PI X tg iter t) (q : t σ H R) : WI X tg iter σ H R := fun pins s I => h.run pins s σ H R I q
theorem we_mono {R R' : VK} (h : WE X e σ H R) (k : ∀ v H', R v H' → R' v H') : WE X e σ H R' := fun pins s I => L2.thn (h pins s I) fun _ _ ⟨v, H', I', r, q⟩ => ⟨v, H', I', r, k v H' q⟩
theorem wt_mono {R R' : Bool → Hp → Prop} (h : WT X e σ H R) (k : ∀ v H', R v H' → R' v H') : WT X e σ H R' := fun pins s I => L2.thn (h pins s I) fun _ _ ⟨H', I', q⟩ => ⟨H', I', k _ H' q⟩
theorem ww_mono {R R' : Bool → Hp → Prop} (h : WW X e σ H R) (k : ∀ v H', R v H' → R' v H') : WW X e σ H R' := fun wh pins s I => L2.thn (h wh pins s I) fun _ _ ⟨H', I', q⟩ => ⟨H', I', k _ H' q⟩
theorem wa_mono {R R' : List V → Hp → Prop} (h : WA X es σ H R) (k : ∀ v H', R v H' → R' v H') : WA X es σ H R' := fun pos pins s I => L2.thn (h pos pins s I) fun _ _ ⟨v, H', I', r, q⟩ => ⟨v, H', I', r, k v H' q⟩
theorem wg_mono {v : V} {R R' : L2.St → Hp → Prop} (h : WG X tg v σ H R) (k : ∀ v H', R v H' → R' v H') : WG X tg v σ H R' := fun pins s u I r => L2.thn (h pins s u I r) fun _ _ ⟨v, H', I', q⟩ => ⟨v, H', I', k v H' q⟩
theorem wgs_mono {v : List V} {R R' : L2.St → Hp → Prop} (h : WGs X es v σ H R) (k : ∀ v H', R v H' → R' v H') : WGs X es v σ H R' := fun pins s u I r => L2.thn (h pins s u I r) fun _ _ ⟨v, H', I', q⟩ => ⟨v, H', I', k v H' q⟩
theorem sp_mono {pins : List (Addr × Obj)} {R R' : Ends} {f : Flow} {s' : Shared} (h : L2.SP X pins R f s') (k1 : ∀ σ H, R.nx σ H → R'.nx σ H) (k2 : ∀ v H, R.rt v H → R'.rt v H) (k3 : ∀ σ H, R.bk σ H → R'.bk σ H) (k4 : ∀ σ H, R.ct σ H → R'.ct σ H) : L2.SP X pins R' f s' := by
  cases f with
  | next => obtain ⟨σ', H', I, q⟩ := h; exact ⟨σ', H', I, k1 _ _ q⟩
  | brk => obtain ⟨σ', H', I, q⟩ := h; exact ⟨σ', H', I, k3 _ _ q⟩
  | cont => obtain ⟨σ', H', I, q⟩ := h; exact ⟨σ', H', I, k4 _ _ q⟩
  | ret u => obtain ⟨v, σ', H', I, r, q⟩ := h; exact ⟨v, σ', H', I, r, k2 _ _ q⟩
theorem ws_mono {R R' : Ends} (h : WS X st R σ H) (k1 : ∀ σ H, R.nx σ H → R'.nx σ H) (k2 : ∀ v H, R.rt v H → R'.rt v H) (k3 : ∀ σ H, R.bk σ H → R'.bk σ H) (k4 : ∀ σ H, R.ct σ H → R'.ct σ H) : WS X st R' σ H := fun pins s I => L2.thn (h pins s I) fun _ _ q => sp_mono q k1 k2 k3 k4
theorem wss_mono {R R' : Ends} (h : WSs X sts R σ H) (k1 : ∀ σ H, R.nx σ H → R'.nx σ H) (k2 : ∀ v H, R.rt v H → R'.rt v H) (k3 : ∀ σ H, R.bk σ H → R'.bk σ H) (k4 : ∀ σ H, R.ct σ H → R'.ct σ H) : WSs X sts R' σ H := fun pins s I => L2.thn (h pins s I) fun _ _ q => sp_mono q k1 k2 k3 k4
end

/-! ### a reading over data is one -/
section
variable (ca : Cl → Addr) (X : Cx)
structure GE (e : Expr) (g : DE) : Prop where
  run : ∀ Γ M Q σ G H, g Γ M Q → SlOk X.K ca G σ Γ → MemOk X.K ca G H M → WE X e σ H (PostE X.K ca G H M Q)
structure GT (e : Expr) (g : DT) : Prop where
  run : ∀ Γ M Q σ G H, g Γ M Q → SlOk X.K ca G σ Γ → MemOk X.K ca G H M → WT X e σ H (PostB X.K ca G H M Q)
structure GW (e : Expr) (g : DT) : Prop where
  run : ∀ Γ M Q σ G H, g Γ M Q → SlOk X.K ca G σ Γ → MemOk X.K ca G H M → WW X e σ H (PostB X.K ca G H M Q)
structure GA (es : List Expr) (g : DA) : Prop where
  run : ∀ Γ M Q σ G H, g Γ M Q → SlOk X.K ca G σ Γ → MemOk X.K ca G H M → WA X es σ H (PostL X.K ca G H M Q)
structure GG (tg : Expr) (g : DG) : Prop where
  run : ∀ d v Γ M Q σ G H, g d Γ M Q → SlOk X.K ca G σ Γ → MemOk X.K ca G H M → Rep X.K ca G v d → WG X tg v σ H (PostS X.K ca G H M Q)
structure GGs (ts : List Expr) (g : DGs) : Prop where
  run : ∀ d v Γ M Q σ G H, g d Γ M Q → SlOk X.K ca G σ Γ → MemOk X.K ca G H M → RepL X.K ca G v d → WGs X ts v σ H (PostS X.K ca G H M Q)
structure GS (st : Stmt) (g : DS) : Prop where
  run : ∀ E Γ M σ G H, g E Γ M → SlOk X.K ca G σ Γ → MemOk X.K ca G H M → WS X st (endsOf X.K ca G H M E) σ H
structure GSs (sts : List Stmt) (g : DS) : Prop where
  run : ∀ E Γ M σ G H, g E Γ M → SlOk X.K ca G σ Γ → MemOk X.K ca G H M → WSs X sts (endsOf X.K ca G H M E) σ H
end
/-- what is walked yields just these items -/
def JOk (K : PySem.W.Frag) (ca : Cl → Addr) (G : Hp) (ds : List D) (J : L2.It) : Prop := ∀ (i : Nat) (G1 H : Hp) (M : Mem), Same G G1 → MemOk K ca G1 H M →
  (i < ds.length → J.go i H ∧ ∀ x H', J.yld i H x H' → ∃ d G2, ds[i]? = some d ∧ Fr G1 H M G2 H' M ∧ MemOk K ca G2 H' M ∧ Rep K ca G2 x d) ∧ (ds.length ≤ i → J.stop i H)
structure GI (ca : Cl → Addr) (X : Cx) (tg iter : Expr) (g : DI) : Prop where
  run : ∀ Γ M Q σ G H, g Γ M Q → SlOk X.K ca G σ Γ → MemOk X.K ca G H M → WI X tg iter σ H fun J H1 => ∃ G1 ds M1, Fr G H M G1 H1 M1 ∧ MemOk X.K ca G1 H1 M1 ∧ JOk X.K ca G1 ds J ∧ Q ds M1
end G
set_option Elab.async false
set_option linter.all false
set_option maxRecDepth 100000
set_option maxHeartbeats 2000000
namespace G
open PySem PySem.Spec PyProof.Rows
open L2 (V Hp HO upd SqL SqT Same Cx Inv PE PT PA PS PSs PG PI RelV Vals VK Ends)
theorem lim_line {n : Nat} (h : n ≤ lim) : n ≤ sizeLine := Nat.le_trans h (by rw [sizeLine_eq]; decide)
theorem lim_lt {n : Nat} (h : n < lim) : n < sizeLine := Nat.lt_of_lt_of_le h (by rw [sizeLine_eq]; decide)
section
variable {ca : Cl → Addr} {X : Cx} {e a b c : Expr} {es : List Expr} {ge ga gb gc : DE} {gs : DA} {pos p : Pos} {x : Str}

theorem post_here {K : PySem.W.Frag} {G H : Hp} {M : Mem} {Q : D → Mem → Prop} {v : V} {d : D} (m : MemOk K ca G H M) (r : Rep K ca G v d) (q : Q d M) : PostE K ca G H M Q v H := ⟨G, d, M, .refl, m, r, q⟩
theorem post_new {K : PySem.W.Frag} {G H : Hp} {M : Mem} {Q : D → Mem → Prop} {d : D} {p : Addr} {o : HO} (m : MemOk K ca G H M) (hp : H p = none) (r : ∀ G', Same G G' → G' p = some o → Rep K ca G' (.ref p) d) (q : Q d M) : PostE K ca G H M Q (.ref p) (upd H p o) := by
  obtain ⟨m', f⟩ := m.frozen (o := o) hp
  exact ⟨_, d, M, f, m', r _ f.g L2.upd_same, q⟩

/-! ### names, constants -/
theorem ge_var (i : Nat) (hN : X.N[i]? = some x := by rfl) (hv : L2.Vis X.env.scope x := by first | exact Or.inl rfl | exact Or.inr (Or.inl rfl) | exact Or.inr (Or.inr rfl)) (hd : (x == ("__debug__" : Str)) = false := by decide)
    (hcd : (x == ("__classdict__" : Str)) = false := by decide) : GE ca X (.Name x pos) (gVar i) := ⟨fun Γ M Q σ G H h so m => by
  refine we_of (L2.pe_var hN hv hd hcd) ?_
  unfold gVar at h
  split at h
  · rename_i d e
    obtain ⟨v, h1, h2⟩ := so.at_ i d e
    exact ⟨v, h1, post_here m h2 h⟩
  · exact h.elim⟩
theorem ge_fz (he : GE ca X e ge) : GE ca X e (gFz ge) := ⟨fun Γ M Q σ G H h so m => by
  refine we_mono (he.run Γ M _ σ G H h so m) fun v H1 ⟨G1, d1, M1, f1, m1, r1, a, e1, h1⟩ => ?_
  subst e1
  cases r1
  rcases h1 with ⟨l, e1, q⟩ | ⟨l, e1, q⟩
  · obtain ⟨xs, h3, h4⟩ := (m1.mem a _ e1).2
    obtain ⟨m', f⟩ := m1.freeze e1 h3
    exact ⟨_, _, _, f1.trans f, m', .lst L2.upd_same (h4.mono f.g), q⟩
  · obtain ⟨xs, h3, h4⟩ := (m1.mem a _ e1).2
    obtain ⟨m', f⟩ := m1.freeze e1 h3
    exact ⟨_, _, _, f1.trans f, m', .dic L2.upd_same (h4.mono f.g), q⟩⟩
theorem ge_int {i j} : GE ca X (.Constant (.int i) j pos) (gC (.int i)) := ⟨fun Γ M Q σ G H h so m => we_of L2.pe_int (post_here m (.int i) h)⟩
theorem ge_bl {i j} : GE ca X (.Constant (.bool i) j pos) (gC (.bl i)) := ⟨fun Γ M Q σ G H h so m => we_of L2.pe_bl (post_here m (.bl i) h)⟩
theorem ge_str {i j} : GE ca X (.Constant (.str i) j pos) (gC (.str i)) := ⟨fun Γ M Q σ G H h so m => we_of L2.pe_str (post_here m (.str i) h)⟩
theorem ge_non {j} : GE ca X (.Constant .none j pos) (gC .non) := ⟨fun Γ M Q σ G H h so m => we_of L2.pe_non (post_here m .non h)⟩
theorem ge_gint {i : Int} (hg : L2.Gl X x) (hm : ∃ t, X.mg x = some (.int i t)) (hd : (x == ("__debug__" : Str)) = false := by decide) : GE ca X (.Name x pos) (gC (.int i)) := ⟨fun Γ M Q σ G H h so m => by
  obtain ⟨t, hm⟩ := hm
  exact we_of (L2.pe_glob (v := .int i) hg hm ⟨t, rfl⟩ hd) (post_here m (.int i) h)⟩
theorem ge_gtup {a : Addr} {d : D} (hg : L2.Gl X x) (hm : X.mg x = some (.ref a)) (hr : ∀ G, Rep X.K ca G (.ref a) d) (hd : (x == ("__debug__" : Str)) = false := by decide) : GE ca X (.Name x pos) (gC d) := ⟨fun Γ M Q σ G H h so m =>
  we_of (L2.pe_glob (v := .ref a) hg hm rfl hd) (post_here m (hr G) h)⟩

/-! ### operators -/
def OpOk (ca : Cl → Addr) (X : Cx) (fn : Value → Value → Sem Value) (f : Op2) : Prop := ∃ r : L2.R2, L2.OpR X fn r ∧
  ∀ M G H x y d1 d2 (Q : D → Mem → Prop), MemOk X.K ca G H M → Rep X.K ca G x d1 → Rep X.K ca G y d2 → f M d1 d2 (fun z => Q z M) → r x y H (PostE X.K ca G H M Q)
theorem run2 (ha : GE ca X a ga) (hb : GE ca X b gb) {r : L2.R2} {f : Op2} (hf : ∀ M G H x y d1 d2 (Q : D → Mem → Prop), MemOk X.K ca G H M → Rep X.K ca G x d1 → Rep X.K ca G y d2 → f M d1 d2 (fun z => Q z M) → r x y H (PostE X.K ca G H M Q))
    {Γ : Slots} {M : Mem} {Q : D → Mem → Prop} {σ : L2.St} {G H : Hp} (h : gOp f ga gb Γ M Q) (so : SlOk X.K ca G σ Γ) (m : MemOk X.K ca G H M)
    (mono : ∀ x y H R R', (∀ v H', R v H' → R' v H') → r x y H R → r x y H R') : L2.tOp r (WE X a) (WE X b) σ H (PostE X.K ca G H M Q) := by
  refine we_mono (ha.run Γ M _ σ G H h so m) fun v H1 ⟨G1, d1, M1, f1, m1, r1, q1⟩ => ?_
  refine we_mono (hb.run Γ M1 _ σ G1 H1 q1 (so.mono f1.g) m1) fun w H2 ⟨G2, d2, M2, f2, m2, r2, q2⟩ => ?_
  exact mono _ _ _ _ _ (fun v H' h => PostE.to (f1.trans f2) h fun _ _ q => q) (hf M2 G2 H2 v w d1 d2 Q m2 (r1.mono f2.g) r2 q2)
/-- a rule's reading may be weakened at its end, always: by asking it of the weaker end -/
def clo (r : L2.R2) : L2.R2 := fun x y H Q => ∃ R : VK, (∀ v H', R v H' → Q v H') ∧ r x y H R
theorem clo_op {fn : Value → Value → Sem Value} {r : L2.R2} (h : L2.OpR X fn r) : L2.OpR X fn (clo r) := fun pins s σ H x y v u Q I rx ry ⟨R, k, q⟩ =>
  L2.thn (h pins s σ H x y v u R I rx ry q) fun _ _ ⟨v, H', I', r, q⟩ => ⟨v, H', I', r, k v H' q⟩
theorem clo_mono {r : L2.R2} : ∀ x y H R R', (∀ v H', R v H' → R' v H') → clo r x y H R → clo r x y H R' := fun _ _ _ _ _ k ⟨R0, k0, q⟩ => ⟨R0, fun v H' h => k _ _ (k0 _ _ h), q⟩
theorem ge_op {op : Operator} {f : Op2} (ho : OpOk ca X (binaryOp op) f) (ha : GE ca X a ga) (hb : GE ca X b gb) : GE ca X (.BinOp a op b pos) (gOp f ga gb) := ⟨fun Γ M Q σ G H h so m => by
  obtain ⟨r, hr, hf⟩ := ho
  exact we_of (L2.pe_op (clo_op hr) pe_we pe_we) (run2 ha hb (r := clo r) (fun M G H x y d1 d2 Q m r1 r2 q => ⟨_, fun _ _ h => h, hf M G H x y d1 d2 Q m r1 r2 q⟩) h so m clo_mono)⟩
theorem ge_cmp {op : CmpOp} {f : Op2} (ho : OpOk ca X (compareOp op) f) (ha : GE ca X a ga) (hb : GE ca X b gb) (hm : behindInMarks op b = false) : GE ca X (.Compare a [op] [b] pos) (gOp f ga gb) := ⟨fun Γ M Q σ G H h so m => by
  obtain ⟨r, hr, hf⟩ := ho
  exact we_of (L2.pe_cmpR (clo_op hr) pe_we pe_we hm) (run2 ha hb (r := clo r) (fun M G H x y d1 d2 Q m r1 r2 q => ⟨_, fun _ _ h => h, hf M G H x y d1 d2 Q m r1 r2 q⟩) h so m clo_mono)⟩
theorem gt_cmp {op : CmpOp} {f : Op2} (ho : OpOk ca X (compareOp op) f) (ha : GE ca X a ga) (hb : GE ca X b gb) (hm : behindInMarks op b = false) : GT ca X (.Compare a [op] [b] pos) (tE (gOp f ga gb)) := ⟨fun Γ M Q σ G H h so m => by
  obtain ⟨r, hr, hf⟩ := ho
  refine wt_of (L2.pt_cmpR (clo_op hr) pe_we pe_we hm) ?_
  have h2 := run2 ha hb (r := clo r) (fun M G H x y d1 d2 Q m r1 r2 q => ⟨_, fun _ _ h => h, hf M G H x y d1 d2 Q m r1 r2 q⟩) h so m clo_mono
  refine we_mono h2 fun v H1 h3 => we_mono h3 fun w H2 h4 => clo_mono _ _ _ _ _ (fun z H3 h5 => ?_) h4
  obtain ⟨G', d, M', f, m', rr, q⟩ := h5
  cases rr with
  | bl b => exact ⟨b, rfl, G', M', f, m', q⟩
  | _ => exact q.elim⟩
theorem ge_chain {op op' : CmpOp} {f f' : Op2} (ho : OpOk ca X (compareOp op) f) (ho' : OpOk ca X (compareOp op') f') (ha : GE ca X a ga) (hb : GE ca X b gb) (hc : GE ca X c gc)
    (hm : lastMarks [op, op'] [b, c] = false) : GE ca X (.Compare a [op, op'] [b, c] pos) (gChain f f' ga gb gc) := ⟨fun Γ M Q σ G H h so m => by
  obtain ⟨r, hr, hf⟩ := ho
  obtain ⟨r', hr', hf'⟩ := ho'
  refine we_of (L2.pe_chain (clo_op hr) (clo_op hr') pe_we pe_we pe_we hm) ?_
  refine we_mono (ha.run Γ M _ σ G H h so m) fun v H1 ⟨G1, d1, M1, f1, m1, r1, q1⟩ => ?_
  refine we_mono (hb.run Γ M1 _ σ G1 H1 q1 (so.mono f1.g) m1) fun w H2 ⟨G2, d2, M2, f2, m2, r2, q2⟩ => ?_
  refine ⟨_, fun z H3 hz => ?_, hf M2 G2 H2 v w d1 d2 (fun z M' => match z with | .bl true => gc Γ M' fun u M3 => f' M3 d2 u fun z => Q z M3 | .bl false => Q (.bl false) M' | _ => False) m2 (r1.mono f2.g) r2 q2⟩
  obtain ⟨G3, d3, M3, f3, m3, r3, q3⟩ := hz
  cases r3 with
  | bl k =>
    refine ⟨k, rfl, ?_⟩
    cases k with
    | true =>
      refine L2.iteT ?_
      refine we_mono (hc.run Γ M3 _ σ G3 H3 q3 (so.mono ((f1.g.trans f2.g).trans f3.g)) m3) fun u H4 ⟨G4, d4, M4, f4, m4, r4, q4⟩ => ?_
      exact ⟨_, fun _ _ h => PostE.to (((f1.trans f2).trans f3).trans f4) h fun _ _ q => q, hf' M4 G4 H4 w u d2 d4 Q m4 (r2.mono (f3.g.trans f4.g)) r4 q4⟩
    | false => exact L2.iteF (PostE.to ((f1.trans f2).trans f3) (post_here m3 (.bl false) q3) fun _ _ q => q)
  | _ => exact q3.elim⟩

/-! ### which operators -/
theorem ok_add : OpOk ca X (binaryOp .Add) dAdd := by
  refine ⟨_, L2.op_add.or (L2.op_catA.or L2.op_cat), fun M G H x y d1 d2 Q m r1 r2 h => ?_⟩
  unfold dAdd at h
  split at h
  · cases r1; cases r2
    exact .inl ⟨_, _, rfl, rfl, post_here m (.int _) h⟩
  · obtain ⟨hl, h⟩ := h
    cases r1 with
    | tup s1 l1 =>
      cases r2 with
      | tup s2 l2 =>
        refine .inr (.inl ⟨_, _, _, _, rfl, rfl, Same.sqt m.sub s1, Same.sqt m.sub s2, lim_line (by rw [l1.length, l2.length]; exact hl), fun e => ?_, fun _ e => ?_, fun _ _ p hp => ?_⟩)
        · subst e; cases l1; exact post_here m (.tup s2 l2) h
        · subst e; cases l2; rw [List.append_nil] at h; exact post_here m (.tup s1 l1) h
        · exact post_new m hp (fun G' s e => .tup (SqT.of e) ((l1.append l2).mono s)) h
  · obtain ⟨hl, h⟩ := h
    cases r1 with
    | lst s1 l1 =>
      cases r2 with
      | lst s2 l2 =>
        exact .inr (.inr ⟨_, _, _, _, rfl, rfl, m.sub _ _ s1, m.sub _ _ s2, lim_line (by rw [l1.length, l2.length]; exact hl), fun p hp => post_new m hp (fun G' s e => .lst e ((l1.append l2).mono s)) h⟩)
  · exact h.elim
theorem ok_sub : OpOk ca X (binaryOp .Sub) dSub := by
  refine ⟨_, L2.op_sub, fun M G H x y d1 d2 Q m r1 r2 h => ?_⟩
  unfold dSub at h
  split at h
  · cases r1; cases r2
    exact ⟨_, _, rfl, rfl, post_here m (.int _) h⟩
  · exact h.elim
theorem ok_mul : OpOk ca X (binaryOp .Mult) dMul := by
  refine ⟨_, L2.op_mul, fun M G H x y d1 d2 Q m r1 r2 h => ?_⟩
  unfold dMul at h
  split at h
  · cases r1; cases r2
    exact ⟨_, _, rfl, rfl, h.1, post_here m (.int _) h.2⟩
  · exact h.elim
theorem ok_mod : OpOk ca X (binaryOp .Mod) dMod := by
  refine ⟨_, L2.op_mod, fun M G H x y d1 d2 Q m r1 r2 h => ?_⟩
  unfold dMod at h
  split at h
  · cases r1; cases r2
    exact ⟨_, _, rfl, rfl, h.1, post_here m (.int _) h.2⟩
  · exact h.elim
theorem ok_div : OpOk ca X (binaryOp .FloorDiv) dDiv := by
  refine ⟨_, L2.op_fdiv, fun M G H x y d1 d2 Q m r1 r2 h => ?_⟩
  unfold dDiv at h
  split at h
  · cases r1; cases r2
    exact ⟨_, _, rfl, rfl, h.1, post_here m (.int _) h.2⟩
  · exact h.elim
theorem ok_pow : OpOk ca X (binaryOp .Pow) dPow := by
  refine ⟨_, L2.op_pow, fun M G H x y d1 d2 Q m r1 r2 h => ?_⟩
  unfold dPow at h
  split at h
  · cases r1; cases r2
    exact ⟨_, _, rfl, rfl, h.1, post_here m (.int _) h.2⟩
  · exact h.elim
theorem ok_lt : OpOk ca X (compareOp .Lt) dLt := by
  refine ⟨_, L2.op_lt, fun M G H x y d1 d2 Q m r1 r2 h => ?_⟩
  unfold dLt at h
  split at h
  · cases r1; cases r2
    exact ⟨_, _, rfl, rfl, post_here m (.bl _) h⟩
  · exact h.elim
theorem ok_gt : OpOk ca X (compareOp .Gt) dGt := by
  refine ⟨_, L2.op_gt, fun M G H x y d1 d2 Q m r1 r2 h => ?_⟩
  unfold dGt at h
  split at h
  · cases r1; cases r2
    exact ⟨_, _, rfl, rfl, post_here m (.bl _) h⟩
  · exact h.elim
theorem ok_ge : OpOk ca X (compareOp .GtE) dGe := by
  refine ⟨_, L2.op_ge, fun M G H x y d1 d2 Q m r1 r2 h => ?_⟩
  unfold dGe at h
  split at h
  · cases r1; cases r2
    exact ⟨_, _, rfl, rfl, post_here m (.bl _) h⟩
  · exact h.elim
theorem ok_le : OpOk ca X (compareOp .LtE) dLe := by
  refine ⟨_, L2.op_le.or L2.op_le_str, fun M G H x y d1 d2 Q m r1 r2 h => ?_⟩
  unfold dLe at h
  split at h
  · cases r1; cases r2
    exact .inl ⟨_, _, rfl, rfl, post_here m (.bl _) h⟩
  · cases r1; cases r2
    exact .inr ⟨_, _, rfl, rfl, post_here m (.bl _) h⟩
  · exact h.elim
/-! plain data, for == -/
def py : D → PyData
  | .non => .none
  | .bl b => .bool b
  | .int i => .int i
  | .str x => .str x
  | .lst l => .list (pyL l)
  | .tup l => .tuple (pyL l)
  | _ => .none
where pyL : List D → List PyData
  | [] => []
  | d :: r => py d :: pyL r
mutual
theorem dp_of {K : PySem.W.Frag} {G H : Hp} (s : Same G H) : ∀ (n : Nat) (d : D) (v : V), plain n d = true → Rep K ca G v d → L2.Dp K H v (py d)
  | _, .non, _, _, r => by cases r; exact .non
  | _, .bl b, _, _, r => by cases r; exact .bl b
  | _, .int i, _, _, r => by cases r; exact .int i
  | _, .str x, _, _, r => by cases r; exact .str x
  | n + 1, .lst l, _, h, r => by cases r with | lst e q => exact .lst (.inl (.inl (s _ _ e))) (dpl_of s n l _ h q)
  | n + 1, .tup l, _, h, r => by cases r with | tup e q => exact .tup (Same.sqt s e) (dpl_of s n l _ h q)
  | 0, .lst l, _, h, _ => by cases h
  | 0, .tup l, _, h, _ => by cases h
  | n, .dic l, _, h, _ => by cases n <;> cases h
  | n, .obj c l, _, h, _ => by cases n <;> cases h
  | n, .ptr c, _, h, _ => by cases n <;> cases h
  | n, .scr c, _, h, _ => by cases n <;> cases h
theorem dpl_of {K : PySem.W.Frag} {G H : Hp} (s : Same G H) : ∀ (n : Nat) (d : List D) (v : List V), plainL n d = true → RepL K ca G v d → L2.DpAll K H v (py.pyL d)
  | _, [], _, _, r => by cases r; exact .nil
  | n, d :: l, _, h, r => by
    cases r with
    | cons r1 r2 =>
      obtain ⟨h1, h2⟩ := Bool.and_eq_true_iff.mp (show (plain n d && plainL n l) = true from h)
      exact .cons (dp_of s n d _ h1 r1) (dpl_of s n l _ h2 r2)
end
mutual
theorem eqv_py : ∀ (n : Nat) (d : D) (k : Nat) (e : D), plain n d = true → plain k e = true → PyData.eqv (py d) (py e) = deq d e
  | n, .lst l, k, e, h1, h2 => by
    cases n with
    | zero => cases h1
    | succ n =>
      cases e with
      | lst l' =>
        cases k with
        | zero => cases h2
        | succ k =>
          show PyData.eqv (.list (py.pyL l)) (.list (py.pyL l')) = deq (.lst l) (.lst l')
          rw [PyData.eqv, deq]
          exact eqv_pyL n l k l' h1 h2
      | dic x => cases k <;> cases h2
      | obj x y => cases k <;> cases h2
      | ptr x => cases k <;> cases h2
      | scr x => cases k <;> cases h2
      | _ => simp [py, PyData.eqv, deq]
  | n, .tup l, k, e, h1, h2 => by
    cases n with
    | zero => cases h1
    | succ n =>
      cases e with
      | tup l' =>
        cases k with
        | zero => cases h2
        | succ k =>
          show PyData.eqv (.tuple (py.pyL l)) (.tuple (py.pyL l')) = deq (.tup l) (.tup l')
          rw [PyData.eqv, deq]
          exact eqv_pyL n l k l' h1 h2
      | dic x => cases k <;> cases h2
      | obj x y => cases k <;> cases h2
      | ptr x => cases k <;> cases h2
      | scr x => cases k <;> cases h2
      | _ => simp [py, PyData.eqv, deq]
  | n, .non, k, e, h1, h2 => by cases e <;> first | (cases k <;> cases h2; done) | simp [py, PyData.eqv, deq]
  | n, .bl b, k, e, h1, h2 => by cases e <;> first | (cases k <;> cases h2; done) | simp [py, PyData.eqv, deq]
  | n, .int b, k, e, h1, h2 => by cases e <;> first | (cases k <;> cases h2; done) | simp [py, PyData.eqv, deq]
  | n, .str b, k, e, h1, h2 => by cases e <;> first | (cases k <;> cases h2; done) | simp [py, PyData.eqv, deq]
  | n, .dic x, _, _, h1, _ => by cases n <;> cases h1
  | n, .obj x y, _, _, h1, _ => by cases n <;> cases h1
  | n, .ptr x, _, _, h1, _ => by cases n <;> cases h1
  | n, .scr x, _, _, h1, _ => by cases n <;> cases h1
theorem eqv_pyL : ∀ (n : Nat) (d : List D) (k : Nat) (e : List D), plainL n d = true → plainL k e = true → PyData.eqvAll (py.pyL d) (py.pyL e) = deqL d e
  | _, [], _, [], _, _ => by simp [py.pyL, PyData.eqvAll, deqL]
  | _, [], _, _ :: _, _, _ => by simp [py.pyL, PyData.eqvAll, deqL]
  | _, _ :: _, _, [], _, _ => by simp [py.pyL, PyData.eqvAll, deqL]
  | n, d :: ds, k, e :: es, h1, h2 => by
    obtain ⟨a1, a2⟩ := Bool.and_eq_true_iff.mp (show (plain n d && plainL n ds) = true from h1)
    obtain ⟨b1, b2⟩ := Bool.and_eq_true_iff.mp (show (plain k e && plainL k es) = true from h2)
    show PyData.eqvAll (py d :: py.pyL ds) (py e :: py.pyL es) = deqL (d :: ds) (e :: es)
    rw [PyData.eqvAll, deqL, eqv_py n d k e a1 b1, eqv_pyL n ds k es a2 b2]
end
mutual
theorem lay_py : ∀ (n : Nat) (d : D), plain n d = true → PyData.canLay0 (py d) = true ∧ PyData.depth (py d) ≤ n
  | n, .lst l, h => by
    cases n with
    | zero => cases h
    | succ n =>
      obtain ⟨h1, h2⟩ := lay_pyL n l h
      exact ⟨by show PyData.canLay0 (.list (py.pyL l)) = true; rw [PyData.canLay0]; exact h1, by show PyData.depth (.list (py.pyL l)) ≤ n + 1; rw [PyData.depth]; omega⟩
  | n, .tup l, h => by
    cases n with
    | zero => cases h
    | succ n =>
      obtain ⟨h1, h2⟩ := lay_pyL n l h
      exact ⟨by show PyData.canLay0 (.tuple (py.pyL l)) = true; rw [PyData.canLay0]; exact h1, by show PyData.depth (.tuple (py.pyL l)) ≤ n + 1; rw [PyData.depth]; omega⟩
  | n, .non, h => by simp [py, PyData.canLay0, PyData.depth]
  | n, .bl b, h => by simp [py, PyData.canLay0, PyData.depth]
  | n, .int b, h => by simp [py, PyData.canLay0, PyData.depth]
  | n, .str x, h => by
    have h2 : x.cps.all (· < 0x110000) = true := by cases n <;> exact h
    exact ⟨by show PyData.canLay0 (.str x) = true; rw [PyData.canLay0]; exact h2, by simp [py, PyData.depth]⟩
  | n, .dic x, h1 => by cases n <;> cases h1
  | n, .obj x y, h1 => by cases n <;> cases h1
  | n, .ptr x, h1 => by cases n <;> cases h1
  | n, .scr x, h1 => by cases n <;> cases h1
theorem lay_pyL : ∀ (n : Nat) (d : List D), plainL n d = true → PyData.canLayAll0 (py.pyL d) = true ∧ PyData.depthAll (py.pyL d) ≤ n
  | n, [], _ => by simp [py.pyL, PyData.canLayAll0, PyData.depthAll]
  | n, d :: ds, h => by
    obtain ⟨a1, a2⟩ := Bool.and_eq_true_iff.mp (show (plain n d && plainL n ds) = true from h)
    obtain ⟨h1, h2⟩ := lay_py n d a1
    obtain ⟨h3, h4⟩ := lay_pyL n ds a2
    exact ⟨by show PyData.canLayAll0 (py d :: py.pyL ds) = true; rw [PyData.canLayAll0, h1, h3]; rfl, by show PyData.depthAll (py d :: py.pyL ds) ≤ n; rw [PyData.depthAll]; omega⟩
end
theorem shaped_py {d : D} (h : plain 60 d = true) : SeqAt.shaped (py d) = true := by
  obtain ⟨h1, h2⟩ := lay_py 60 d h
  unfold SeqAt.shaped
  rw [h1, decide_eq_true (by omega : PyData.depth (py d) ≤ 64)]
  rfl
theorem dp_und {K : PySem.W.Frag} {G H : Hp} {M : Mem} {v : V} {d : D} (m : MemOk K ca G H M) (h : plain 60 (und M d) = true) (r : Rep K ca G v d) : L2.Dp K H v (py (und M d)) := by
  cases r with
  | ptr a =>
    have e0 : und M (.ptr a) = (match M a with | some (.lst l) => .lst l | _ => .ptr a) := rfl
    cases e : M a with
    | none => rw [e0, e] at h; cases h
    | some o =>
      rw [e0, e] at h
      rw [e0, e]
      cases o with
      | lst l =>
        obtain ⟨xs, h1, h2⟩ := (m.mem a _ e).2
        exact .lst (.inl (.inl h1)) (dpl_of m.sub 59 l xs h h2)
      | _ => cases h
  | non => exact dp_of (ca := ca) m.sub 60 _ _ h .non
  | bl b => exact dp_of (ca := ca) m.sub 60 _ _ h (.bl b)
  | int b => exact dp_of (ca := ca) m.sub 60 _ _ h (.int b)
  | str b => exact dp_of (ca := ca) m.sub 60 _ _ h (.str b)
  | tup a b => exact dp_of m.sub 60 _ _ h (.tup a b)
  | lst a b => exact dp_of m.sub 60 _ _ h (.lst a b)
  | dic a b => cases h
  | obj a b => cases h
  | scr a => cases h
theorem ok_eq (hu : X.A.units + 64 < cLine) : OpOk ca X (compareOp .Eq) dEq := by
  refine ⟨_, L2.op_eq.or (L2.op_eqD hu), fun M G H x y d1 d2 Q m r1 r2 h => ?_⟩
  unfold dEq at h
  split at h
  · cases r1; cases r2
    rename_i i j
    exact .inl ⟨rfl, post_here m (.bl _) (by rw [L2.dec_int, Bool.beq_eq_decide_eq]; exact h)⟩
  · cases r1; cases r2
    rename_i i j
    exact .inl ⟨rfl, post_here m (.bl _) (by rw [L2.dec_str, Bool.beq_eq_decide_eq]; exact h)⟩
  · cases r1; cases r2
    rename_i i j
    exact .inl ⟨rfl, post_here m (.bl _) (by rw [L2.dec_bl, Bool.beq_eq_decide_eq]; exact h)⟩
  · obtain ⟨⟨p1, p2⟩, h⟩ := h
    refine .inr ⟨_, _, dp_und m p1 r1, dp_und m p2 r2, shaped_py p1, shaped_py p2, ?_⟩
    rw [eqv_py _ _ _ _ p1 p2]
    exact post_here m (.bl _) h
theorem ok_ne (hu : X.A.units + 64 < cLine) : OpOk ca X (compareOp .NotEq) dNe := by
  refine ⟨_, L2.op_ne.or (L2.op_neD hu), fun M G H x y d1 d2 Q m r1 r2 h => ?_⟩
  unfold dNe at h
  split at h
  · cases r1; cases r2
    exact .inl ⟨rfl, post_here m (.bl _) (by rw [L2.dec_int, Bool.beq_eq_decide_eq]; exact h)⟩
  · cases r1; cases r2
    exact .inl ⟨rfl, post_here m (.bl _) (by rw [L2.dec_str, Bool.beq_eq_decide_eq]; exact h)⟩
  · cases r1; cases r2
    exact .inl ⟨rfl, post_here m (.bl _) (by rw [L2.dec_bl, Bool.beq_eq_decide_eq]; exact h)⟩
  · obtain ⟨⟨p1, p2⟩, h⟩ := h
    refine .inr ⟨_, _, dp_und m p1 r1, dp_und m p2 r2, shaped_py p1, shaped_py p2, ?_⟩
    rw [eqv_py _ _ _ _ p1 p2]
    exact post_here m (.bl _) h
/-! sequences -/
theorem items_at {K : PySem.W.Frag} {G H : Hp} {M : Mem} {v : V} {d : D} {l : List D} (m : MemOk K ca G H M) (r : Rep K ca G v d) (h : items M d = some l) :
    ∃ a xs, v = .ref a ∧ ((isT d = true ∧ SqT K H a xs) ∨ (isT d = false ∧ H a = some (.lst xs))) ∧ RepL K ca G xs l := by
  cases r with
  | tup s q => cases h; exact ⟨_, _, rfl, .inl ⟨rfl, Same.sqt m.sub s⟩, q⟩
  | lst s q => cases h; exact ⟨_, _, rfl, .inr ⟨rfl, m.sub _ _ s⟩, q⟩
  | ptr a =>
    have h' : (match M a with | some (.lst l) => some l | _ => none) = some l := h
    cases e : M a with
    | none => rw [e] at h'; cases h'
    | some o =>
      rw [e] at h'
      cases o with
      | lst l0 =>
        cases h'
        obtain ⟨xs, h1, h2⟩ := (m.mem a _ e).2
        exact ⟨a, xs, rfl, .inr ⟨rfl, h1⟩, h2⟩
      | _ => cases h'
  | _ => cases h
theorem atI_eq {α : Type} (xs : List α) (i : Int) : L2.atI xs i = atI xs i := rfl
theorem atI_rep {K : PySem.W.Frag} {G : Hp} {xs : List V} {l : List D} {i : Int} {d : D} (q : RepL K ca G xs l) (h : atI l i = some d) : ∃ v, L2.atI xs i = some v ∧ Rep K ca G v d := by
  unfold atI at h
  cases e : ixN l.length i with
  | none => rw [e] at h; cases h
  | some j =>
    rw [e] at h
    obtain ⟨v, h1, h2⟩ := q.get (i := j) h
    refine ⟨v, ?_, h2⟩
    show (ixN xs.length i).bind (fun j => xs[j]?) = some v
    rw [q.length, e]
    exact h1
theorem ge_ix (ha : GE ca X a ga) (hb : GE ca X b gb) (hs : L2.PlainIx b) : GE ca X (.Subscript a b pos) (gOp dIx ga gb) := ⟨fun Γ M Q σ G H h so m => by
  have hf : ∀ M G H x y d1 d2 (Q : D → Mem → Prop), MemOk X.K ca G H M → Rep X.K ca G x d1 → Rep X.K ca G y d2 → dIx M d1 d2 (fun z => Q z M) → clo (fun x y H Q => L2.rIxL X.K x y H Q ∨ L2.rIxT X.K x y H Q) x y H (PostE X.K ca G H M Q) := by
    intro M G H x y d1 d2 Q m r1 r2 h
    refine ⟨_, fun _ _ h => h, ?_⟩
    obtain ⟨l, i, d, e1, e2, e3, h⟩ := h
    subst e2
    obtain ⟨a, xs, rfl, hsq, q⟩ := items_at m r1 e1
    cases r2
    obtain ⟨v, h1, h2⟩ := atI_rep q e3
    rcases hsq with ⟨_, hsq⟩ | ⟨_, hsq⟩
    · exact .inr ⟨_, _, _, _, rfl, rfl, hsq, h1, post_here m h2 h⟩
    · exact .inl ⟨_, _, _, _, rfl, rfl, SqL.of hsq, h1, post_here m h2 h⟩
  have hr : L2.IxR X (clo fun x y H Q => L2.rIxL X.K x y H Q ∨ L2.rIxT X.K x y H Q) := clo_ix (L2.ix_list.or L2.ix_tup)
  exact we_of (L2.pe_ix hr pe_we pe_we hs) (run2 ha hb hf h so m clo_mono)⟩
where
  clo_ix {r : L2.R2} (h : L2.IxR X r) : L2.IxR X (clo r) := fun value slice pins s σ H x y v u Q I rx ry ⟨R, k, q⟩ hs =>
    L2.thn (h value slice pins s σ H x y v u R I rx ry q hs) fun _ _ ⟨v, H', I', r, q⟩ => ⟨v, H', I', r, k v H' q⟩
end
end G
set_option Elab.async false
set_option linter.all false
set_option maxRecDepth 100000
set_option maxHeartbeats 2000000
namespace G
open PySem PySem.Spec PyProof.Rows
open L2 (V Hp HO upd SqL SqT Same Cx Inv PE PT PA PS PSs PG PI RelV Vals VK Ends)
section
variable {ca : Cl → Addr} {X : Cx} {e a b c o : Expr} {es : List Expr} {ge ga gb gc go : DE} {gs : DA} {pos p : Pos} {x : Str}

/-! ### in, not in: sequences -/
theorem flat_rep {K : PySem.W.Frag} {G : Hp} {v : V} {d : D} (r : Rep K ca G v d) (h : flat d = true) : L2.flatV v = true := by
  cases r <;> first | rfl | cases h
theorem flat_repL {K : PySem.W.Frag} {G : Hp} : ∀ {vs : List V} {ds : List D}, RepL K ca G vs ds → ds.all flat = true → vs.all L2.flatV = true
  | _, _, .nil, _ => rfl
  | _, _, .cons r q, h => by
    rw [List.all_cons, Bool.and_eq_true_iff] at h
    rw [List.all_cons, flat_rep r h.1, flat_repL q h.2]
    rfl
theorem eqV_rep {K : PySem.W.Frag} {G : Hp} {v w : V} {d e : D} (r : Rep K ca G v d) (q : Rep K ca G w e) (h : flat d = true) (k : flat e = true) : L2.eqV v w = deq d e := by
  cases r <;> first | (cases h; done) | (cases q <;> first | (cases k; done) | simp [L2.eqV, deq])
theorem inV_rep {K : PySem.W.Frag} {G : Hp} {v : V} {d : D} (r : Rep K ca G v d) (h : flat d = true) : ∀ {vs : List V} {ds : List D}, RepL K ca G vs ds → ds.all flat = true → (vs.any fun y => L2.eqV y v) = ds.any fun z => deq z d
  | _, _, .nil, _ => rfl
  | _, _, .cons q l, k => by
    rw [List.all_cons, Bool.and_eq_true_iff] at k
    rw [List.any_cons, List.any_cons, eqV_rep q r k.1 h, inV_rep r h l k.2]
theorem any_eqv {d : D} (h : plain 60 d = true) : ∀ {ds : List D}, plainL 59 ds = true → ((py.pyL ds).any fun z => PyData.eqv z (py d)) = ds.any fun z => deq z d
  | [], _ => rfl
  | e :: l, k => by
    obtain ⟨k1, k2⟩ := Bool.and_eq_true_iff.mp (show (plain 59 e && plainL 59 l) = true from k)
    show ((py e :: py.pyL l).any fun z => PyData.eqv z (py d)) = _
    rw [List.any_cons, List.any_cons, eqv_py 59 e 60 d k1 h, any_eqv h k2]
theorem ok_in (hu : X.A.units + 65 < cLine) : OpOk ca X (compareOp .In) dIn := by
  refine ⟨_, L2.op_in_seq.or (L2.op_inD hu), fun M G H x y d1 d2 Q m r1 r2 h => ?_⟩
  obtain ⟨l, e1, c, q⟩ := h
  obtain ⟨p, xs, rfl, hsq, rl⟩ := items_at m r2 e1
  rcases c with ⟨f1, f2⟩ | ⟨p1, p2, p3⟩
  · refine .inl ⟨p, xs, rfl, ?_, flat_rep r1 f1, flat_repL rl f2, ?_⟩
    · rcases hsq with ⟨_, h⟩ | ⟨_, h⟩
      · exact .inr h
      · exact .inl (SqL.of h)
    · refine post_here m (.bl _) ?_
      have ei : L2.inV x xs = l.any fun z => deq z d1 := inV_rep r1 f1 rl f2
      rw [if_neg (by decide), ei]
      exact q
  · rcases hsq with ⟨z, _⟩ | ⟨_, h⟩
    · rw [p3] at z; cases z
    · have p2' : plain 60 (.lst l) = true := p2
      refine .inr ⟨_, _, dp_of m.sub _ _ _ p1 r1, .lst (SqL.of h) (dpl_of m.sub 59 l xs p2 rl), shaped_py p1, shaped_py p2', ?_⟩
      refine post_here m (.bl _) ?_
      rw [any_eqv p1 p2]
      exact q
theorem ok_notIn (hu : X.A.units + 65 < cLine) : OpOk ca X (compareOp .NotIn) dNotIn := by
  refine ⟨_, L2.op_notIn_seq.or (L2.op_notInD hu), fun M G H x y d1 d2 Q m r1 r2 h => ?_⟩
  obtain ⟨l, e1, c, q⟩ := h
  obtain ⟨p, xs, rfl, hsq, rl⟩ := items_at m r2 e1
  rcases c with ⟨f1, f2⟩ | ⟨p1, p2, p3⟩
  · refine .inl ⟨p, xs, rfl, ?_, flat_rep r1 f1, flat_repL rl f2, ?_⟩
    · rcases hsq with ⟨_, h⟩ | ⟨_, h⟩
      · exact .inr h
      · exact .inl (SqL.of h)
    · refine post_here m (.bl _) ?_
      have ei : L2.inV x xs = l.any fun z => deq z d1 := inV_rep r1 f1 rl f2
      rw [if_pos (by decide), ei]
      exact q
  · rcases hsq with ⟨z, _⟩ | ⟨_, h⟩
    · rw [p3] at z; cases z
    · have p2' : plain 60 (.lst l) = true := p2
      refine .inr ⟨_, _, dp_of m.sub _ _ _ p1 r1, .lst (SqL.of h) (dpl_of m.sub 59 l xs p2 rl), shaped_py p1, shaped_py p2', ?_⟩
      refine post_here m (.bl _) ?_
      rw [any_eqv p1 p2]
      exact q
theorem ok_notBl : OpOk ca X (compareOp .IsNot) dNotBl := by
  refine ⟨_, L2.op_isnot_bl, fun M G H x y d1 d2 Q m r1 r2 h => ?_⟩
  unfold dNotBl at h
  split at h
  · cases r1; cases r2
    exact ⟨_, _, rfl, rfl, post_here m (.bl _) h⟩
  · exact h.elim
theorem isN_rep {K : PySem.W.Frag} {G : Hp} {v : V} {d : D} (r : Rep K ca G v d) : decide (v = V.non) = dIsN d := by
  cases r <;> simp [dIsN]
theorem ge_isN {j pos'} (ha : GE ca X a ga) : GE ca X (.Compare a [.Is] [.Constant .none j pos'] pos) (gIsN ga) := ⟨fun Γ M Q σ G H h so m => by
  refine we_of (L2.pe_cmp (L2.pc_isN pe_we) (by rfl)) ?_
  refine we_mono (ha.run Γ M _ σ G H h so m) fun v H1 ⟨G1, d1, M1, f1, m1, r1, q1⟩ => ?_
  rw [isN_rep r1]
  exact ⟨G1, _, M1, f1, m1, .bl _, q1⟩⟩
theorem ge_notN {j pos'} (ha : GE ca X a ga) : GE ca X (.Compare a [.IsNot] [.Constant .none j pos'] pos) (gNotN ga) := ⟨fun Γ M Q σ G H h so m => by
  refine we_of (L2.pe_cmp (L2.pc_notN pe_we) (by rfl)) ?_
  refine we_mono (ha.run Γ M _ σ G H h so m) fun v H1 ⟨G1, d1, M1, f1, m1, r1, q1⟩ => ?_
  rw [isN_rep r1]
  exact ⟨G1, _, M1, f1, m1, .bl _, q1⟩⟩

/-! ### and, or, not, if -/
theorem ge_one {op} {g : DE} (h : GE ca X a g) : GE ca X (.BoolOp op [a] pos) g := ⟨fun Γ M Q σ G H q so m => we_of (L2.pe_one pe_we) (h.run Γ M Q σ G H q so m)⟩
theorem ge_and {rest : List Expr} (ha : GE ca X a ga) (hb : GE ca X (.BoolOp .And (b :: rest) pos) gb) : GE ca X (.BoolOp .And (a :: b :: rest) pos) (gAnd ga gb) := ⟨fun Γ M Q σ G H h so m => by
  refine we_of (L2.pe_and pe_we pe_we) ?_
  refine we_mono (ha.run Γ M _ σ G H h so m) fun v H1 ⟨G1, d1, M1, f1, m1, r1, q1⟩ => ?_
  cases r1 with
  | bl k =>
    refine ⟨k, rfl, ?_⟩
    cases k with
    | true => exact L2.iteT (we_mono (hb.run Γ M1 Q σ G1 H1 q1 (so.mono f1.g) m1) fun _ _ z => PostE.to f1 z fun _ _ q => q)
    | false => exact L2.iteF ⟨G1, _, M1, f1, m1, .bl _, q1⟩
  | _ => exact q1.elim⟩
theorem ge_or {rest : List Expr} (ha : GE ca X a ga) (hb : GE ca X (.BoolOp .Or (b :: rest) pos) gb) : GE ca X (.BoolOp .Or (a :: b :: rest) pos) (gOr ga gb) := ⟨fun Γ M Q σ G H h so m => by
  refine we_of (L2.pe_or pe_we pe_we) ?_
  refine we_mono (ha.run Γ M _ σ G H h so m) fun v H1 ⟨G1, d1, M1, f1, m1, r1, q1⟩ => ?_
  cases r1 with
  | bl k =>
    refine ⟨k, rfl, ?_⟩
    cases k with
    | true => exact L2.iteT ⟨G1, _, M1, f1, m1, .bl _, q1⟩
    | false => exact L2.iteF (we_mono (hb.run Γ M1 Q σ G1 H1 q1 (so.mono f1.g) m1) fun _ _ z => PostE.to f1 z fun _ _ q => q)
  | _ => exact q1.elim⟩
theorem ge_not (ha : GE ca X a ga) : GE ca X (.UnaryOp .Not a pos) (gNot ga) := ⟨fun Γ M Q σ G H h so m => by
  refine we_of (L2.pe_not pe_we) ?_
  refine we_mono (ha.run Γ M _ σ G H h so m) fun v H1 ⟨G1, d1, M1, f1, m1, r1, q1⟩ => ?_
  cases r1 with
  | bl k => exact ⟨k, rfl, G1, _, M1, f1, m1, .bl _, q1⟩
  | _ => exact q1.elim⟩
theorem ge_if {t : DT} (ht : GT ca X c t) (ha : GE ca X a ga) (hb : GE ca X b gb) : GE ca X (.IfExp c a b pos) (gIf t ga gb) := ⟨fun Γ M Q σ G H h so m => by
  refine we_of (L2.pe_ifExp pt_wt pe_we pe_we) ?_
  refine wt_mono (ht.run Γ M _ σ G H h so m) fun v H1 ⟨G1, M1, f1, m1, q1⟩ => ?_
  cases v with
  | true => exact L2.iteT (we_mono (ha.run Γ M1 Q σ G1 H1 q1 (so.mono f1.g) m1) fun _ _ z => PostE.to f1 z fun _ _ q => q)
  | false => exact L2.iteF (we_mono (hb.run Γ M1 Q σ G1 H1 q1 (so.mono f1.g) m1) fun _ _ z => PostE.to f1 z fun _ _ q => q)⟩
/-! tests -/
theorem gt_e {g : DE} (h : GE ca X e g) (he : ∀ whole, isTrue e X.env whole = (do let v ← whole; standAt e.pos; holding [v] (truthy v))) : GT ca X e (tE g) := ⟨fun Γ M Q σ G H q so m => by
  refine wt_of (L2.pt_val pe_we he) ?_
  refine we_mono (h.run Γ M _ σ G H q so m) fun v H1 ⟨G1, d1, M1, f1, m1, r1, q1⟩ => ?_
  cases r1 with
  | bl k => exact ⟨k, rfl, G1, M1, f1, m1, q1⟩
  | _ => exact q1.elim⟩
theorem gt_isN {j pos'} (ha : GE ca X a ga) : GT ca X (.Compare a [.Is] [.Constant .none j pos'] pos) (tE (gIsN ga)) := ⟨fun Γ M Q σ G H h so m => by
  refine wt_of (L2.pt_cmp (L2.pc_isN pe_we) (by rfl)) ?_
  refine we_mono (ha.run Γ M _ σ G H h so m) fun v H1 ⟨G1, d1, M1, f1, m1, r1, q1⟩ => ?_
  rw [isN_rep r1]
  exact ⟨_, rfl, G1, M1, f1, m1, q1⟩⟩
theorem gt_notN {j pos'} (ha : GE ca X a ga) : GT ca X (.Compare a [.IsNot] [.Constant .none j pos'] pos) (tE (gNotN ga)) := ⟨fun Γ M Q σ G H h so m => by
  refine wt_of (L2.pt_cmp (L2.pc_notN pe_we) (by rfl)) ?_
  refine we_mono (ha.run Γ M _ σ G H h so m) fun v H1 ⟨G1, d1, M1, f1, m1, r1, q1⟩ => ?_
  rw [isN_rep r1]
  exact ⟨_, rfl, G1, M1, f1, m1, q1⟩⟩
theorem GW.gt {t : DT} (h : GW ca X e t) : GT ca X e t := ⟨fun Γ M Q σ G H q so m => wt_of pw_ww.pt (h.run Γ M Q σ G H q so m)⟩
theorem gw_and1 {t : DT} (h : GT ca X a t) : GW ca X (.BoolOp .And [a] pos) t := ⟨fun Γ M Q σ G H q so m => ww_of (L2.pw_and1 pt_wt) (h.run Γ M Q σ G H q so m)⟩
theorem gw_or1 {t : DT} (h : GT ca X a t) : GW ca X (.BoolOp .Or [a] pos) t := ⟨fun Γ M Q σ G H q so m => ww_of (L2.pw_or1 pt_wt) (h.run Γ M Q σ G H q so m)⟩
theorem gw_and {t u : DT} {rest : List Expr} (ha : GT ca X a t) (hb : GW ca X (.BoolOp .And (b :: rest) pos) u) : GW ca X (.BoolOp .And (a :: b :: rest) pos) (tAnd t u) := ⟨fun Γ M Q σ G H h so m => by
  refine ww_of (L2.pw_and pt_wt pw_ww) ?_
  refine wt_mono (ha.run Γ M _ σ G H h so m) fun v H1 ⟨G1, M1, f1, m1, q1⟩ => ?_
  cases v with
  | true => exact L2.iteT (ww_mono (hb.run Γ M1 Q σ G1 H1 q1 (so.mono f1.g) m1) fun _ _ z => PostB.to f1 z)
  | false => exact L2.iteF ⟨G1, M1, f1, m1, q1⟩⟩
theorem gw_or {t u : DT} {rest : List Expr} (ha : GT ca X a t) (hb : GW ca X (.BoolOp .Or (b :: rest) pos) u) : GW ca X (.BoolOp .Or (a :: b :: rest) pos) (tOr t u) := ⟨fun Γ M Q σ G H h so m => by
  refine ww_of (L2.pw_or pt_wt pw_ww) ?_
  refine wt_mono (ha.run Γ M _ σ G H h so m) fun v H1 ⟨G1, M1, f1, m1, q1⟩ => ?_
  cases v with
  | true => exact L2.iteT ⟨G1, M1, f1, m1, q1⟩
  | false => exact L2.iteF (ww_mono (hb.run Γ M1 Q σ G1 H1 q1 (so.mono f1.g) m1) fun _ _ z => PostB.to f1 z)⟩
theorem gt_not {t : DT} (ha : GT ca X a t) : GT ca X (.UnaryOp .Not a pos) (tNot t) := ⟨fun Γ M Q σ G H h so m => by
  refine wt_of (L2.pt_not pt_wt) ?_
  exact wt_mono (ha.run Γ M _ σ G H h so m) fun v H1 ⟨G1, M1, f1, m1, q1⟩ => ⟨G1, M1, f1, m1, q1⟩⟩
theorem gt_chain {op op' : CmpOp} {f f' : Op2} (ho : OpOk ca X (compareOp op) f) (ho' : OpOk ca X (compareOp op') f') (ha : GE ca X a ga) (hb : GE ca X b gb) (hc : GE ca X c gc)
    (hm : lastMarks [op, op'] [b, c] = false) : GT ca X (.Compare a [op, op'] [b, c] pos) (tE (gChain f f' ga gb gc)) := ⟨fun Γ M Q σ G H h so m => by
  obtain ⟨r, hr, hf⟩ := ho
  obtain ⟨r', hr', hf'⟩ := ho'
  refine wt_of (L2.pt_chain (clo_op hr) (clo_op hr') pe_we pe_we pe_we hm) ?_
  refine we_mono (ha.run Γ M _ σ G H h so m) fun v H1 ⟨G1, d1, M1, f1, m1, r1, q1⟩ => ?_
  refine we_mono (hb.run Γ M1 _ σ G1 H1 q1 (so.mono f1.g) m1) fun w H2 ⟨G2, d2, M2, f2, m2, r2, q2⟩ => ?_
  refine ⟨_, fun z H3 hz => ?_, hf M2 G2 H2 v w d1 d2 (fun z M' => match z with | .bl true => gc Γ M' fun u M3 => f' M3 d2 u fun z => (match z with | .bl c => Q c M3 | _ => False) | .bl false => Q false M' | _ => False) m2 (r1.mono f2.g) r2 q2⟩
  obtain ⟨G3, d3, M3, f3, m3, r3, q3⟩ := hz
  cases r3 with
  | bl k =>
    refine ⟨k, rfl, ?_⟩
    cases k with
    | true =>
      refine L2.iteT ?_
      refine we_mono (hc.run Γ M3 _ σ G3 H3 q3 (so.mono ((f1.g.trans f2.g).trans f3.g)) m3) fun u H4 ⟨G4, d4, M4, f4, m4, r4, q4⟩ => ?_
      refine ⟨_, fun z H5 hz => ?_, hf' M4 G4 H4 w u d2 d4 (fun z M => match z with | .bl c => Q c M | _ => False) m4 (r2.mono (f3.g.trans f4.g)) r4 q4⟩
      obtain ⟨G5, d5, M5, f5, m5, r5, q5⟩ := hz
      cases r5 with
      | bl k => exact ⟨k, rfl, G5, M5, (((f1.trans f2).trans f3).trans f4).trans f5, m5, q5⟩
      | _ => exact q5.elim
    | false => exact L2.iteF ⟨false, rfl, G3, M3, (f1.trans f2).trans f3, m3, q3⟩
  | _ => exact q3.elim⟩

/-! ### displays -/
theorem ga_nil : GA ca X [] gNil := ⟨fun Γ M Q σ G H h so m => wa_of L2.pa_nil ⟨G, [], M, .refl, m, .nil, h⟩⟩
theorem ga_cons (he : GE ca X e ge) (hr : GA ca X es gs) (hs : starEach (e :: es) X.env = (false, eval e X.env) :: starEach es X.env := by rfl) : GA ca X (e :: es) (gCons ge gs) := ⟨fun Γ M Q σ G H h so m => by
  refine wa_of (L2.pa_cons pe_we pa_wa hs) ?_
  refine we_mono (he.run Γ M _ σ G H h so m) fun v H1 ⟨G1, d1, M1, f1, m1, r1, q1⟩ => ?_
  refine wa_mono (hr.run Γ M1 _ σ G1 H1 q1 (so.mono f1.g) m1) fun w H2 ⟨G2, d2, M2, f2, m2, r2, q2⟩ => ?_
  exact ⟨G2, d1 :: d2, M2, f1.trans f2, m2, .cons (r1.mono f2.g) r2, q2⟩⟩
theorem ge_tup {k} (ha : GA ca X es gs) : GE ca X (.Tuple es k pos) (gTup gs) := ⟨fun Γ M Q σ G H h so m => by
  refine we_of (L2.pe_tup pa_wa) ?_
  refine wa_mono (ha.run Γ M _ σ G H h so m) fun v H1 ⟨G1, ds, M1, f1, m1, r1, hl, q1⟩ => ⟨lim_line (by rw [r1.length]; exact hl), fun p hp => ?_⟩
  exact PostE.to f1 (post_new m1 hp (fun G' s e => .tup (SqT.of e) (r1.mono s)) q1) fun _ _ q => q⟩
theorem ge_lstF (ha : GA ca X es gs) : GE ca X (.List es pos) (gLstF gs) := ⟨fun Γ M Q σ G H h so m => by
  refine we_of (L2.pe_lst pa_wa) ?_
  refine wa_mono (ha.run Γ M _ σ G H h so m) fun v H1 ⟨G1, ds, M1, f1, m1, r1, hl, q1⟩ => ⟨lim_line (by rw [r1.length]; exact hl), fun p hp => ?_⟩
  exact PostE.to f1 (post_new m1 hp (fun G' s e => .lst e (r1.mono s)) q1) fun _ _ q => q⟩
theorem post_laid {K : PySem.W.Frag} {G H : Hp} {M : Mem} {Q : D → Mem → Prop} {p : Addr} {o : HO} {u : MO} (m : MemOk K ca G H M) (hp : H p = none) (r : MRep K ca G (upd H p o) p u) (q : Q (.ptr p) (M.set p u)) : PostE K ca G H M Q (.ref p) (upd H p o) := by
  obtain ⟨m', f⟩ := m.laid hp r
  exact ⟨_, _, _, f, m', .ptr p, q⟩
theorem ge_lst (ha : GA ca X es gs) : GE ca X (.List es pos) (gLst gs) := ⟨fun Γ M Q σ G H h so m => by
  refine we_of (L2.pe_lst pa_wa) ?_
  refine wa_mono (ha.run Γ M _ σ G H h so m) fun v H1 ⟨G1, ds, M1, f1, m1, r1, hl, q1⟩ => ⟨lim_line (by rw [r1.length]; exact hl), fun p hp => ?_⟩
  exact PostE.to f1 (post_laid (u := .lst ds) m1 hp ⟨_, L2.upd_same, r1⟩ (q1 p (m1.no_ hp))) fun _ _ q => q⟩
theorem ge_dic0 : GE ca X (.Dict [] [] pos) gDic0 := ⟨fun Γ M Q σ G H h so m => we_of L2.pe_dnewK fun p hp => post_laid (u := .dic []) m hp ⟨_, L2.upd_same, .nil⟩ (h p (m.no_ hp))⟩
theorem ge_dic0F : GE ca X (.Dict [] [] pos) gDic0F := ⟨fun Γ M Q σ G H h so m => we_of L2.pe_dnewK fun p hp => post_new m hp (fun G' s e => .dic e .nil) h⟩

/-! ### dicts -/
theorem val_rep {K : PySem.W.Frag} {G : Hp} (q : Key) : ∀ {kvs : List (Key × V)} {l : List (Key × D)}, RepK K ca G kvs l → (∀ d, val l q = some d → ∃ v, L2.valV kvs q = some v ∧ Rep K ca G v d) ∧ (val l q = none → L2.valV kvs q = none)
  | _, _, .nil => ⟨fun d e => (nomatch (show (none : Option D) = some d from e)), fun _ => rfl⟩
  | _, _, .cons (q := k) r l => by
    obtain ⟨h1, h2⟩ := val_rep q l
    by_cases e : k = q
    · subst e
      rw [val_pos, L2.valV_pos rfl]
      refine ⟨fun d e => ?_, fun e => nomatch e⟩
      cases e
      exact ⟨_, rfl, r⟩
    · rw [val_neg e, L2.valV_neg (by exact e)]
      exact ⟨h1, h2⟩
theorem val_some {K : PySem.W.Frag} {G : Hp} {q : Key} {kvs : List (Key × V)} {l : List (Key × D)} (r : RepK K ca G kvs l) : (L2.valV kvs q).isSome = (val l q).isSome := by
  cases e : val l q with
  | none => rw [(val_rep q r).2 e] <;> rfl
  | some d =>
    obtain ⟨v, h, _⟩ := (val_rep q r).1 d e
    rw [h]
    rfl
theorem put_any {K : PySem.W.Frag} {G : Hp} (q : Key) : ∀ {kvs : List (Key × V)} {l : List (Key × D)}, RepK K ca G kvs l → (kvs.any fun kv => decide (kv.1 = q)) = l.any fun kv => decide (kv.1 = q)
  | _, _, .nil => rfl
  | _, _, .cons r l => by rw [List.any_cons, List.any_cons, put_any q l]
theorem put_map {K : PySem.W.Frag} {G : Hp} (q : Key) {y : V} {d : D} (ry : Rep K ca G y d) : ∀ {kvs : List (Key × V)} {l : List (Key × D)}, RepK K ca G kvs l →
    RepK K ca G (kvs.map fun kv => if kv.1 = q then (kv.1, y) else kv) (l.map fun kv => if kv.1 = q then (kv.1, d) else kv)
  | _, _, .nil => .nil
  | _, _, .cons (q := k) r l => by
    rw [List.map_cons, List.map_cons]
    by_cases e : k = q
    · rw [if_pos e, if_pos e]; exact .cons ry (put_map q ry l)
    · rw [if_neg e, if_neg e]; exact .cons r (put_map q ry l)
theorem repK_snoc {K : PySem.W.Frag} {G : Hp} {q : Key} {y : V} {d : D} (ry : Rep K ca G y d) : ∀ {kvs : List (Key × V)} {l : List (Key × D)}, RepK K ca G kvs l → RepK K ca G (kvs ++ [(q, y)]) (l ++ [(q, d)])
  | _, _, .nil => .cons ry .nil
  | _, _, .cons r l => .cons r (repK_snoc ry l)
theorem put_rep {K : PySem.W.Frag} {G : Hp} (q : Key) {y : V} {d : D} (ry : Rep K ca G y d) {kvs : List (Key × V)} {l : List (Key × D)} (r : RepK K ca G kvs l) : RepK K ca G (L2.putK kvs q y) (put l q d) := by
  unfold L2.putK put
  rw [put_any q r]
  split
  · exact put_map q ry r
  · exact repK_snoc ry r
theorem key_rep {K : PySem.W.Frag} {G : Hp} {v : V} {d : D} {q : Key} (r : Rep K ca G v d) (h : keyOf d = some q) : v = L2.kV q := by
  cases r <;> first | (cases h; rfl) | (cases h; done)
theorem dcts_at {K : PySem.W.Frag} {G H : Hp} {M : Mem} {v : V} {d : D} {l : List (Key × D)} (m : MemOk K ca G H M) (r : Rep K ca G v d) (h : dcts M d = some l) :
    ∃ a kvs, v = .ref a ∧ H a = some (.dK kvs) ∧ RepK K ca G kvs l := by
  cases r with
  | dic s q => cases h; exact ⟨_, _, rfl, m.sub _ _ s, q⟩
  | ptr a =>
    have h' : (match M a with | some (.dic l) => some l | _ => none) = some l := h
    cases e : M a with
    | none => rw [e] at h'; cases h'
    | some o =>
      rw [e] at h'
      cases o with
      | dic l0 =>
        cases h'
        obtain ⟨xs, h1, h2⟩ := (m.mem a _ e).2
        exact ⟨a, xs, rfl, h1, h2⟩
      | _ => cases h'
  | _ => cases h
theorem ge_dget (hu : X.A.units + 1 < cLine) (ha : GE ca X a ga) (hb : GE ca X b gb) (hs : L2.NoSl b) : GE ca X (.Subscript a b pos) (gOp dGet ga gb) := ⟨fun Γ M Q σ G H h so m => by
  refine we_of (L2.pe_dget hu pe_we pe_we hs) ?_
  refine we_mono (ha.run Γ M _ σ G H h so m) fun v H1 ⟨G1, d1, M1, f1, m1, r1, q1⟩ => ?_
  refine we_mono (hb.run Γ M1 _ σ G1 H1 q1 (so.mono f1.g) m1) fun w H2 ⟨G2, d2, M2, f2, m2, r2, l, q, d, e1, e2, e3, q2⟩ => ?_
  obtain ⟨p, kvs, rfl, hk, rk⟩ := dcts_at m2 (r1.mono f2.g) e1
  have ew := key_rep r2 e2
  subst ew
  obtain ⟨v, h1, h2⟩ := (val_rep q rk).1 d e3
  refine ⟨p, v, rfl, ?_, PostE.to (f1.trans f2) (post_here m2 h2 q2) fun _ _ q => q⟩
  have dg := L2.DGet.k (k := q) hk
  rw [h1] at dg
  exact dg⟩
theorem ge_dnotin (hu : X.A.units + 1 < cLine) (ha : GE ca X a ga) (hb : GE ca X b gb) (hm : behindInMarks .NotIn b = false) : GE ca X (.Compare a [.NotIn] [b] pos) (gOp dHasNot ga gb) := ⟨fun Γ M Q σ G H h so m => by
  refine we_of (L2.pe_cmp (L2.pc_dnotin hu pe_we pe_we) hm) ?_
  refine we_mono (ha.run Γ M _ σ G H h so m) fun v H1 ⟨G1, d1, M1, f1, m1, r1, q1⟩ => ?_
  refine we_mono (hb.run Γ M1 _ σ G1 H1 q1 (so.mono f1.g) m1) fun w H2 ⟨G2, d2, M2, f2, m2, r2, l, q, e1, e2, q2⟩ => ?_
  obtain ⟨p, kvs, rfl, hk, rk⟩ := dcts_at m2 r2 e1
  have ew := key_rep r1 e2
  subst ew
  refine ⟨p, _, rfl, L2.DGet.k (k := q) hk, ?_⟩
  rw [val_some rk]
  exact PostE.to (f1.trans f2) (post_here m2 (.bl _) q2) fun _ _ q => q⟩
theorem gt_dnotin (hu : X.A.units + 1 < cLine) (ha : GE ca X a ga) (hb : GE ca X b gb) (hm : behindInMarks .NotIn b = false) : GT ca X (.Compare a [.NotIn] [b] pos) (tE (gOp dHasNot ga gb)) := ⟨fun Γ M Q σ G H h so m => by
  refine wt_of (L2.pt_cmp (L2.pc_dnotin hu pe_we pe_we) hm) ?_
  refine we_mono (ha.run Γ M _ σ G H h so m) fun v H1 ⟨G1, d1, M1, f1, m1, r1, q1⟩ => ?_
  refine we_mono (hb.run Γ M1 _ σ G1 H1 q1 (so.mono f1.g) m1) fun w H2 ⟨G2, d2, M2, f2, m2, r2, l, q, e1, e2, q2⟩ => ?_
  obtain ⟨p, kvs, rfl, hk, rk⟩ := dcts_at m2 r2 e1
  have ew := key_rep r1 e2
  subst ew
  refine ⟨p, _, rfl, L2.DGet.k (k := q) hk, _, rfl, G2, M2, f1.trans f2, m2, ?_⟩
  rw [val_some rk]
  exact q2⟩
theorem ge_get {f : Expr} {apos cpos : Pos} {gf : DE} (hu : X.A.units + 1 < cLine) (ho : GE ca X o go) (he : GE ca X e ge) (hf : GE ca X f gf) (mm : L2.M2 X o "get" apos e f cpos) : GE ca X (.Call (.Attribute o "get" apos) [e, f] [] cpos) (gGet go ge gf) := ⟨fun Γ M Q σ G H h so m => by
  refine we_of (L2.pe_dget2 hu pe_we pe_we pe_we mm) ?_
  refine we_mono (ho.run Γ M _ σ G H h so m) fun v H1 ⟨G1, d1, M1, f1, m1, r1, q1⟩ => ?_
  obtain ⟨l0, e0, q1⟩ := q1
  obtain ⟨p, kvs, rfl, hk, rk⟩ := dcts_at m1 r1 e0
  refine ⟨p, rfl, .inl ⟨kvs, .inl hk⟩, ?_⟩
  refine we_mono (he.run Γ M1 _ σ G1 H1 q1 (so.mono f1.g) m1) fun w H2 ⟨G2, d2, M2, f2, m2, r2, q2⟩ => ?_
  refine we_mono (hf.run Γ M2 _ σ G2 H2 q2 (so.mono (f1.g.trans f2.g)) m2) fun u H3 ⟨G3, d3, M3, f3, m3, r3, l, q, e1, e2, q3⟩ => ?_
  obtain ⟨p', kvs', ep, hk', rk'⟩ := dcts_at m3 (r1.mono (f2.g.trans f3.g)) e1
  cases ep
  have ew := key_rep r2 e2
  subst ew
  refine ⟨_, L2.DGet.k (k := q) hk', PostE.to ((f1.trans f2).trans f3) (post_here m3 ?_ q3) fun _ _ q => q⟩
  cases e : val l q with
  | none => rw [(val_rep q rk').2 e]; exact r3
  | some d =>
    obtain ⟨v, h1, h2⟩ := (val_rep q rk').1 d e
    rw [h1]; exact h2⟩
end
end G
set_option Elab.async false
set_option linter.all false
set_option maxRecDepth 100000
set_option maxHeartbeats 2000000
namespace G
open PySem PySem.Spec PyProof.Rows
open L2 (V Hp HO upd SqL SqT Same Cx Inv PE PT PA PS PSs PG PI RelV Vals VK Ends)
/-! four rules that the layer lacks -/
section
variable {X : Cx}
/-- l.extend(a tuple) -/
def rExtT (K : PySem.W.Frag) : V → List V → Hp → VK → Prop := fun x vs H Q => ∃ l b xs zs, x = .ref l ∧ vs = [.ref b] ∧ H l = some (.lst xs) ∧ SqT K H b zs ∧ xs.length + zs.length ≤ sizeLine ∧ Q .non (upd H l (.lst (xs ++ zs)))
theorem mt_extT : L2.MtR X "list.extend" (rExtT X.K) := by
  intro pins s σ H x vs v us Q I rx rv h
  obtain ⟨l, b, xs, zs, rfl, rfl, hH, hB, hz, q⟩ := h
  cases rx
  obtain ⟨u, rfl, ru⟩ := rv.one
  cases ru
  obtain ⟨z, its, n, r, hl, e⟩ := I.lstM hH
  obtain ⟨its2, r2, ⟨o2, ho2, hc2, n2, hd2⟩, z2⟩ := I.tuple hB
  have hlt : l ≠ b := by
    intro z
    subst z
    rw [ho2] at e
    cases e
    exact absurd hc2 (by intro z; injection z with z; exact absurd z (by decide))
  have hsz : its.toArray.size + its2.toArray.size ≤ sizeLine := by rw [List.size_toArray, List.size_toArray]; have := r2.length; have := r.length; omega
  have hlong : (!its.toArray.isEmpty && Builtin.List.listTooLong (its.toArray.size + its2.toArray.size)) = false := by
    rw [L2.notLongL hsz, Bool.and_false]
  refine wpAny_call_entry F.slot_list_extend ⟨_, e, rfl⟩ F.entry_list_extend ?_ (F.args_list_extend_2 _ _)
  show wpAny _ _ (Builtin.List.listExtendWith (.ref l) (.ref b) .none) _ _ _
  unfold Builtin.List.listExtendWith
  refine wpAny_bind (wpAny_typeOf (T := "tuple") ⟨o2, ho2, hc2⟩ ?_)
  rw [if_pos (by simp)]
  refine wpAny_bind (PyProof.Rows.listItems_at ho2 hd2 ?_)
  refine wpAny_bind (PyProof.Rows.listItems_at e rfl ?_)
  rw [if_neg (by rw [hlong]; exact Bool.false_ne_true)]
  refine wpAny_bind (PyProof.Rows.listUpdate_at e rfl ?_ (by omega) (by rw [Array.size_append]; omega))
  refine wpAny_bind (wpAny_pure ?_)
  refine wpAny_pure ⟨_, rfl, ?_⟩
  refine ⟨.non, _, I.lset (its' := its ++ its2) hH e (by simp) (r.append r2) ?_, rfl, q⟩
  rw [List.length_append]
  omega
/-- sorted(a tuple of ints) -/
theorem collect_tuple {prog : Program} {w : World} {A : Around} {E : Value → Shared → Prop} {s : Shared} {l : Addr} {vs : List Value} {Q : List Value → Shared → Prop} (hl : IsTup s.heap l vs.toArray)
    (h : Q vs { s with heap := (s.heap.push (seqObj "list" #[] 0)).update s.heap.objs.size (Obj.mapSeq (· ++ vs.toArray)) }) (hsz : vs.length ≤ sizeLine) :
    wpAny (model prog w) A (collect (.ref l)) Q E s := by
  obtain ⟨o, ho, hc, n, hd⟩ := id hl
  unfold collect
  refine wpAny_bind (wpAny_runValue (codeAny_builtin PyProof.Rows.entry_proto_collect' ?_))
  show wpAny _ _ (do again (.builtin "list.__iadd__" ⟨[← newList [], .ref l], []⟩)) _ _ s
  refine wpAny_bind (wpAny_newList (wpAny_pure ⟨Code.quiet_builtin _ (by decide +kernel), codeAny_builtin PyProof.Rows.entry_list_iadd' ?_⟩))
  show wpAny _ _ (Builtin.List.listExtendWith (.ref s.heap.objs.size) (.ref l) (.ref s.heap.objs.size)) _ _ { s with heap := s.heap.push (seqObj "list" #[] 0) }
  unfold Builtin.List.listExtendWith
  have ho' : (s.heap.push (seqObj "list" #[] 0)).get? l = some o := Heap.get?_push_of_some _ ho
  refine wpAny_bind (wpAny_typeOf (T := "tuple") ⟨o, ho', hc⟩ ?_)
  rw [if_pos (by simp)]
  refine wpAny_bind (PyProof.Rows.listItems_at ho' hd ?_)
  refine wpAny_bind (PyProof.Rows.listItems_at (xs := #[]) (n := 0) (Heap.get?_push_size _ rfl) rfl ?_)
  rw [if_neg (by simp)]
  refine wpAny_bind (PyProof.Rows.listUpdate_at (xs := #[]) (n := 0) (Heap.get?_push_size _ rfl) rfl ?_ (Nat.zero_le _) (by show (#[] ++ vs.toArray).size ≤ sizeLine + 1; simp only [Array.size_append, List.size_toArray, List.length_nil]; omega))
  refine wpAny_pure ?_
  show wpAny (model prog w) A (do
      let o ← load s.heap.objs.size
      match o.data with
      | .seq xs _ => pure xs.toList
      | _ => unsupported "internal:collect") Q E { s with heap := (s.heap.push (seqObj "list" #[] 0)).update s.heap.objs.size (Obj.mapSeq (· ++ vs.toArray)) }
  refine wpAny_bind (wpAny_load (get?_update_seq (Heap.get?_push_size _ rfl) _) ?_)
  show wpAny _ _ (pure ((#[] : Array Value) ++ vs.toArray).toList) Q E _
  rw [show ((#[] : Array Value) ++ vs.toArray).toList = vs by simp]
  exact wpAny_pure h
def rSortT (K : PySem.W.Frag) : List V → Hp → VK → Prop := fun vs H Q => ∃ (a : Addr) (ns : List Int), vs = [V.ref a] ∧ SqT K H a (ns.map V.int) ∧ ns.length < 64 ∧
  ∀ (ns' : List Int) (p : Addr), ns'.Perm ns → ns'.Pairwise (· ≤ ·) → H p = none → Q (.ref p) (upd H p (.lst (ns'.map V.int)))
theorem cr_sortT : L2.CallR X (.builtin "sorted") (rSortT X.K) := by
  intro pins s σ H vs us Q I r h
  obtain ⟨a, ns, rfl, hs, h64, q⟩ := h
  obtain ⟨its, rv, hl, _⟩ := I.tuple hs
  rw [L2.Vals.ref1 r]
  have hi := rv.ints
  have hlen : its.length = ns.length := hi.length
  refine Calls.call_function_entry PyProof.Rows.kind_sorted PyProof.Rows.plain_sorted PyProof.Rows.entry_sorted (PyProof.Rows.args_sorted1 _) ?_
  unfold Builtin.«sorted»
  refine wpAny_bind (m := checkCount "sorted" 1 1 _) (wpAny_pure ?_)
  refine wpAny_bind (collect_tuple hl ?_ (by rw [hlen, sizeLine_eq]; omega))
  refine wpAny_bind (wpAny_newList ?_ (by rw [hlen, sizeLine_eq]; omega))
  have hsz : ((s.heap.push (seqObj "list" #[] 0)).update s.heap.objs.size (Obj.mapSeq (· ++ its.toArray))).objs.size = s.heap.objs.size + 1 := by
    rw [Heap.size_update, size_push']
  have hoL : (((s.heap.push (seqObj "list" #[] 0)).update s.heap.objs.size (Obj.mapSeq (· ++ its.toArray))).push (seqObj "list" its.toArray 0)).get? (s.heap.objs.size + 1) = some (seqObj "list" its.toArray 0) := by
    rw [← hsz]; exact Heap.get?_push_size _ rfl
  show wpAny _ _ _ _ _ { s with heap := ((s.heap.push (seqObj "list" #[] 0)).update s.heap.objs.size (Obj.mapSeq (· ++ its.toArray))).push (seqObj "list" its.toArray 0) }
  rw [hsz]
  refine wpAny_bind (wpAny_holding (wpAny_call_entry PyProof.Rows.slot_list_sort ⟨_, hoL, rfl⟩ PyProof.Rows.entry_list_sort (PyProof.Rows.list_sort_tree hoL hi (by rw [hi.length]; exact h64) fun out ns' h1 h2 h3 => ⟨_, rfl, ?_⟩) (PyProof.Rows.args_list_sort _)))
  obtain ⟨ep, he'⟩ := PyProof.Rows.sortedAll_at s.heap its out
  have hlen2 : (ns'.map V.int).length ≤ sizeLine := by rw [List.length_map, h2.length_eq]; exact L2.small64 h64
  refine wpAny_pure ⟨_, rfl, ?_⟩
  exact ⟨.ref _, upd H (s.heap.objs.size + 1) (.lst (ns'.map V.int)), I.laid (t' := s.toks) (fun _ _ => PyProof.Rows.sortedAll_old) (Nat.le_succ _) ⟨hlen2, out.toList, ep, L2.vals_of_ints h1, he'⟩, rfl, q ns' _ h2 h3 (I.hok.fresh (Nat.le_succ _))⟩
/-- any(a tuple of flags) -/
def rAnyT (K : PySem.W.Frag) : List V → Hp → VK → Prop := fun vs H Q => ∃ (a : Addr) (bs : List Bool), vs = [V.ref a] ∧ SqT K H a (bs.map V.bl) ∧ Q (.bl (bs.any id)) H
theorem iter_anyT {prog : Program} {w : World} {A : Around} {E : Value → Shared → Prop} {s : Shared} {l : Addr} {items : Array Value} {Q : Value → Shared → Prop} (hl : s.heap.IsTuple l items)
    (h : ∀ s₂ : Shared, s₂ = { s with heap := s.heap.push { cls := .type "tuple_iterator", data := .fields #[.ref l, .int 0 0] } } →
      (s₂.heap.IsTupleIter s.heap.objs.size l 0 ∧ s₂.heap.IsTuple l items) → l ≠ s.heap.objs.size → Q (.ref s.heap.objs.size) s₂) : wpAny (model prog w) A (pyIter (.ref l)) Q E s := by
  have hlt : l < s.heap.objs.size := by obtain ⟨_, e, _⟩ := hl; exact Heap.lt_size e
  exact wpAny_pyIter_tuple hl (h _ rfl ⟨⟨_, Heap.get?_push_size _ rfl, rfl, rfl⟩, hl.at fun o e => Heap.get?_push_of_some _ e⟩ (Nat.ne_of_lt hlt))
theorem cr_anyT (hc : X.calm = true) : L2.CallR X (.builtin "any") (rAnyT X.K) := by
  intro pins s σ H vs us Q I r h
  obtain ⟨a, bs, rfl, hs, q⟩ := h
  obtain ⟨its, rv, hl, _⟩ := I.tuple hs
  rw [L2.Vals.ref1 r]
  have hb := rv.bls
  refine call_any_walk (iter_anyT (show s.heap.IsTuple a its.toArray from hl) fun s₂ e2 st hne => ?_)
  subst e2
  refine ⟨_, _, _, _, _, _, _, rfl, Walks.tuple (A := X.A.in1) (I.ok.hd hc) _ a hne its.toArray, st, L2.truth_bools hb, fun h' tk hk => ?_⟩
  refine ⟨.bl _, H, I.kept fun b o eo => hk b o (fun hmem => ?_) (Heap.get?_push_of_some _ eo), ?_, q⟩
  · rcases List.mem_cons.mp hmem with e1 | hmem
    · exact absurd (e1 ▸ Heap.lt_size eo) (Nat.lt_irrefl _)
    · cases hmem
  · show Value.bool _ = Value.bool _
    rw [← L2.any_range, hb, List.size_toArray, List.length_map]
/-- tuple(a dict) -/
def rTupD : List V → Hp → VK → Prop := fun xs H Q => ∃ p kvs, xs = [.ref p] ∧ H p = some (.dK kvs) ∧ ∀ q, H q = none → Q (.ref q) (upd H q (.tup (kvs.map fun kv => L2.kV kv.1)))
theorem code_tuple_new_dict {prog : Program} {w : World} {A : Around} {E : Value → Shared → Prop} {s : Shared} {r : Addr} {vs : List (Key × Value)} {ep : Nat} {Q₁ : Value → Shared → Prop} (lo : (r == sysModules) = false) (hh : A.handled = none)
    (hat : s.heap.DictAt (L2.mixKind prog w) r vs ep) (hlen : vs.length ≤ sizeLine) (hT : s.TypeIs (.ref r) "dict")
    (h : ∀ (h' : Heap) (tk : Nat) (acc : Array Value), (∀ b o, s.heap.get? b = some o → h'.get? b = some o) → ItemsOf (fun i v => ∃ k x, vs[i]? = some (k, x) ∧ (L2.mixKind prog w).is k v = true) acc vs.length →
      Q₁ (.ref h'.objs.size) { s with heap := h'.push { cls := .type "tuple", data := .seq acc }, toks := tk }) :
    codeAny (model prog w) A (.call (.builtin "tuple.__new__") ⟨[.type "tuple", .ref r], []⟩) (wants Q₁ E) s := by
  refine codeAny_of_tree ?_
  show wpAny _ A.in1 (do checkBuiltinCall "tuple.__new__" ⟨[.type "tuple", .ref r], []⟩; again (.builtin "tuple.__new__" ⟨[.type "tuple", .ref r], []⟩)) _ _ s
  refine wpAny_bind (wpAny_of_eq (F.newCall_tuple_1 _) (wpAny_pure ⟨plainId_quiet F.plain_tuple_new _, codeAny_builtin F.entry_tuple_new ?_⟩))
  rw [Around.under_plainId F.plain_tuple_new _]
  have hsub := sub_tuple_self
  have hinit := init_tuple_lookup
  have hmh := madeHere_tuple
  have hh1 : A.in1.handled = none := hh
  wp_walk using wpAny_typeOf hT, PySem.W.kdu_collect (A := A.in1) (PySem.W.kdl_dict (knd := L2.mixKind prog w) (kvs := vs) (ep := ep) lo) hh1 hat hlen
  intro h' tk acc hk hacc
  show wpAny _ _ (Builtin.Tuple.tupleExact acc.toList.toArray >>= fun v => ret v) _ _ _
  unfold Builtin.Tuple.tupleExact
  refine wpAny_bind (wpAny_newObj_type ?_ (by show acc.toList.toArray.size ≤ sizeLine; simp only [Array.toArray_toList]; rw [hacc.1]; exact hlen))
  refine wpAny_pure ?_
  have e : acc.toList.toArray = acc := by simp
  rw [e]
  exact h h' tk acc hk hacc
theorem cr_tupD (hc : X.calm = true) : L2.CallR X (.type "tuple") rTupD := by
  intro pins s σ H xs us Q I r h
  obtain ⟨p, kvs, e, hk, q⟩ := h
  subst e
  obtain ⟨u, eu, rx⟩ := L2.vals1 r
  subst eu
  obtain rfl : u = Value.ref p := rx
  obtain ⟨z, lo, vs, rk, hd⟩ := (show L2.ObjOk X.prog X.w H s.heap p (.dK kvs) from I.hok p _ hk)
  obtain ⟨ep, hat⟩ := hd.dictAt
  have hl : kvs.length = vs.length := Paired.length rk
  have hT : s.TypeIs (.ref p) "dict" := by
    obtain ⟨o, es, ep', h1, h2, _⟩ := id hd
    exact ⟨o, h1, h2.1⟩
  refine callType_codes (Q₁ := fun obj s₁ => s₁.TypeIs obj "tuple" ∧ L2.EP X pins σ Q obj s₁) F.called_tuple (F.typeCall_tuple_1 _) F.entry_object_init
    (code_tuple_new_dict (A := X.A.in1) lo (I.ok.hd hc) hat (by rw [← hl]; exact z) hT fun h' tk acc hkeep hacc => ⟨⟨_, Heap.get?_push_size _ rfl, rfl⟩, ?_⟩) fun obj s₁ h₁ => ?_
  · have I1 : Inv X pins σ H { s with heap := h', toks := tk } := I.kept hkeep
    refine ⟨.ref h'.objs.size, upd H h'.objs.size (.tup (kvs.map fun kv => L2.kV kv.1)), I1.laid (t' := tk) (fun b o e => Heap.get?_push_of_some _ e) (Nat.le_refl _) (show L2.ObjOk X.prog X.w _ _ _ (.tup (kvs.map fun kv => L2.kV kv.1)) from ⟨?_, acc.toList, ?_, ?_⟩), rfl, q _ (I1.hok.fresh (Nat.le_refl _))⟩
    · rw [List.length_map]; exact z
    · have el : acc.toList.length = acc.size := by simp
      refine L2.vals_of_at (by rw [List.length_map, el, hacc.1, hl]) fun j x w h1 h2 => ?_
      obtain ⟨k, y, hky, hi⟩ := hacc.2 j w (by rw [← Array.getElem?_toList]; exact h2)
      have e1 : (kvs.map (·.1))[j]? = some k := by
        rw [L2.KV.keys rk, List.getElem?_map, hky] <;> rfl
      have e2 : (kvs.map fun kv => L2.kV kv.1)[j]? = some (L2.kV k) := by
        have e3 : (kvs.map fun kv => L2.kV kv.1) = (kvs.map (·.1)).map L2.kV := by rw [List.map_map] <;> rfl
        rw [e3, List.getElem?_map, e1] <;> rfl
      rw [e2] at h1
      cases h1
      exact L2.keyIs_rel hi
    · rw [Array.toArray_toList]; exact IsTup.new _ _
  · exact ⟨h₁.1, F.args_object_init_2 obj _, object_init_meets F.called_tuple.init.lookup F.called_tuple.made (by decide) X.prog X.w X.A.in1 _ s₁ ⟨h₁.1, rfl, h₁.2⟩⟩
/-- dict(a dict) -/
def rDictD : List V → Hp → VK → Prop := fun xs H Q => ∃ p kvs, xs = [.ref p] ∧ H p = some (.dK kvs) ∧ ∀ q, H q = none → Q (.ref q) (upd H q (.dK kvs))
theorem cr_dictD : L2.CallR X (.type "dict") rDictD := by
  intro pins s σ H xs us Q I r h
  obtain ⟨p, kvs, e, hk, q⟩ := h
  subst e
  obtain ⟨u, eu, rx⟩ := L2.vals1 r
  subst eu
  obtain rfl : u = Value.ref p := rx
  exact L2.d_copyOf I (.inl hk) fun p s' hp I' => ⟨.ref p, _, I', rfl, q p hp⟩
end
end G
set_option Elab.async false
set_option linter.all false
set_option maxRecDepth 100000
set_option maxHeartbeats 2000000
namespace G
open PySem PySem.Spec PyProof.Rows
open L2 (V Hp HO upd SqL SqT Same Cx Inv PE PT PA PS PSs PG PI RelV Vals VK Ends)
section
variable {ca : Cl → Addr} {X : Cx} {e a b c o : Expr} {es : List Expr} {ge ga gb gc go : DE} {gs : DA} {pos p : Pos} {x f : Str}
/-! ### slices -/
structure GO (ca : Cl → Addr) (X : Cx) (e : Option Expr) (g : DO) : Prop where
  ex : ∃ t : L2.TO, L2.PO X e t ∧ (∀ σ H R R', (∀ o H', R o H' → R' o H') → t σ H R → t σ H R') ∧ ∀ Γ M Q σ G H, g Γ M Q → SlOk X.K ca G σ Γ → MemOk X.K ca G H M → t σ H fun o H' => ∃ G' M', Fr G H M G' H' M' ∧ MemOk X.K ca G' H' M' ∧ Q o M'
theorem go_none : GO ca X none oNone := ⟨_, L2.po_none, fun _ _ _ _ k h => k _ _ h, fun Γ M Q σ G H h so m => ⟨G, M, .refl, m, h⟩⟩
theorem go_some (h : GE ca X e ge) : GO ca X (some e) (oSome ge) := ⟨_, L2.po_some pe_we, fun _ _ _ _ k h => we_mono h fun v H' ⟨i, e, q⟩ => ⟨i, e, k _ _ q⟩, fun Γ M Q σ G H q so m => by
  refine we_mono (h.run Γ M _ σ G H q so m) fun v H1 ⟨G1, d1, M1, f1, m1, r1, q1⟩ => ?_
  cases r1 with
  | int i => exact ⟨i, rfl, G1, M1, f1, m1, q1⟩
  | _ => exact q1.elim⟩
theorem cut_rep {K : PySem.W.Frag} {G : Hp} {xs : List V} {l : List D} (lo hi : Option Int) (r : RepL K ca G xs l) : RepL K ca G (L2.cutV xs lo hi) (cut l lo hi) := by
  have e : L2.cutV xs lo hi = (xs.drop (cIx l.length 0 lo)).take (cIx l.length l.length hi - cIx l.length 0 lo) := by rw [← r.length] <;> rfl
  rw [e]
  exact (r.drop _).take _
theorem cut_whole {α : Type} {xs : List α} {lo hi : Option Int} (h1 : cIx xs.length 0 lo = 0) (h2 : cIx xs.length xs.length hi = xs.length) : cut xs lo hi = xs := by
  unfold cut
  rw [h1, h2]
  simp
theorem clo_sl {r : V → Option Int → Option Int → Hp → VK → Prop} (h : L2.SlR X r) : L2.SlR X (fun x lo hi H Q => ∃ R : VK, (∀ v H', R v H' → Q v H') ∧ r x lo hi H R) := fun pins s σ H x v vl vu lo hi sl Q I rx hs pl pu ⟨R, k, q⟩ => by
  obtain ⟨T, id, h1, h2, h3⟩ := h pins s σ H x v vl vu lo hi sl R I rx hs pl pu q
  exact ⟨T, id, h1, h2, L2.thn h3 fun _ _ ⟨v, H', I', r, q⟩ => ⟨v, H', I', r, k v H' q⟩⟩
theorem cut_map {ns : List Int} {lo hi : Option Int} : L2.cutV (ns.map V.int) lo hi = (cut ns lo hi).map V.int := by
  have e : L2.cutV (ns.map V.int) lo hi = (((ns.map V.int).drop (cIx ns.length 0 lo)).take (cIx ns.length ns.length hi - cIx ns.length 0 lo)) := by
    have h := List.length_map (as := ns) V.int
    rw [← h] <;> rfl
  rw [e, ← List.map_drop, ← List.map_take] <;> rfl
theorem ints_rep {K : PySem.W.Frag} {G : Hp} : ∀ ns : List Int, RepL K ca G (ns.map V.int) (ns.map D.int)
  | [] => .nil
  | n :: r => .cons (.int n) (ints_rep r)
theorem ge_slice {lo hi : Option Expr} {p2 : Pos} {gl gh : DO} (he : GE ca X e ge) (hl : GO ca X lo gl) (hh : GO ca X hi gh) : GE ca X (.Subscript e (.Slice lo hi none p2) pos) (gSlice ge gl gh) := ⟨fun Γ M Q σ G H h so m => by
  obtain ⟨tl, pl, ml, kl⟩ := hl.ex
  obtain ⟨th, ph, mh, kh⟩ := hh.ex
  refine we_of (L2.pe_slice (clo_sl (L2.sl_list.or L2.sl_tupA)) pe_we pl ph) ?_
  refine we_mono (he.run Γ M _ σ G H h so m) fun v H1 ⟨G1, d1, M1, f1, m1, r1, q1⟩ => ?_
  refine ml _ _ _ _ (fun l H2 h2 => ?_) (kl Γ M1 _ σ G1 H1 q1 (so.mono f1.g) m1)
  obtain ⟨G2, M2, f2, m2, q2⟩ := h2
  refine mh _ _ _ _ (fun u H3 h3 => ?_) (kh Γ M2 _ σ G2 H2 q2 (so.mono (f1.g.trans f2.g)) m2)
  obtain ⟨G3, M3, f3, m3, q3⟩ := h3
  have f := (f1.trans f2).trans f3
  have r3 := r1.mono (f2.g.trans f3.g)
  refine ⟨_, fun _ _ h => PostE.to f h fun _ _ q => q, ?_⟩
  cases r3 with
  | tup s l3 =>
    refine .inr ⟨_, _, rfl, Same.sqt m3.sub s, fun hw => ?_, fun hw p hp => post_new m3 hp (fun G' s e => .tup (SqT.of e) ((cut_rep l u l3).mono s)) q3⟩
    have e2 : cut _ l u = _ := cut_whole (lo := l) (hi := u) (by rw [← l3.length]; exact hw.1) (by rw [← l3.length]; exact hw.2)
    have q4 : Q (.tup (cut _ l u)) M3 := q3
    rw [e2] at q4
    exact post_here m3 (.tup s l3) q4
  | lst s l3 => exact .inl ⟨_, _, rfl, SqL.of (m3.sub _ _ s), fun p hp => post_new m3 hp (fun G' s e => .lst e ((cut_rep l u l3).mono s)) q3⟩
  | scr s =>
    refine .inl ⟨_, _, rfl, L2.Same.seq m3.sub s, fun p hp => ?_⟩
    rw [cut_map]
    exact post_new m3 hp (fun G' s e => .lst e (ints_rep _)) q3
  | _ => exact q3.elim⟩

/-! ### fields -/
theorem fld_rep {K : PySem.W.Frag} {G : Hp} (f : Str) : ∀ {fs : List (Str × V)} {ds : List (Str × D)}, RepF K ca G fs ds → (∀ d, ds.lookup f = some d → ∃ v, fs.lookup f = some v ∧ Rep K ca G v d) ∧ (ds.lookup f = none → fs.lookup f = none)
  | _, _, .nil => ⟨fun d e => (nomatch (show (none : Option D) = some d from e)), fun _ => rfl⟩
  | _, _, .cons (q := k) r l => by
    obtain ⟨h1, h2⟩ := fld_rep f l
    rw [List.lookup_cons, List.lookup_cons]
    cases e : f == k with
    | true =>
      refine ⟨fun d e => ?_, fun e => nomatch e⟩
      cases e
      exact ⟨_, rfl, r⟩
    | false => exact ⟨h1, h2⟩
theorem putF_rep {K : PySem.W.Frag} {G : Hp} (f : Str) {y : V} {d : D} (ry : Rep K ca G y d) : ∀ {fs : List (Str × V)} {ds : List (Str × D)}, RepF K ca G fs ds → RepF K ca G (L2.putF f y fs) (putF f d ds)
  | _, _, .nil => .cons ry .nil
  | _, _, .cons (q := k) r l => by
    show RepF K ca G (if k = f then _ else _) (if k = f then _ else _)
    split
    · exact .cons ry l
    · exact .cons r (putF_rep f ry l)
theorem ge_fld (hc : ∀ c : Cl, L2.Cls X.K (ca c)) (hn : ∀ c : Cl, L2.NoAttr X.K (ca c) f) (he : GE ca X e ge) (hb : attributeBase e f X.env (eval e X.env) = eval e X.env) : GE ca X (.Attribute e f pos) (gFld ge f) := ⟨fun Γ M Q σ G H h so m => by
  refine we_of (L2.pe_fld pe_we hb) ?_
  refine we_mono (he.run Γ M _ σ G H h so m) fun v H1 ⟨G1, d1, M1, f1, m1, r1, q1⟩ => ?_
  cases r1 with
  | obj s r =>
    obtain ⟨d, e1, q⟩ := q1
    obtain ⟨v, h1, h2⟩ := (fld_rep f r).1 d e1
    exact ⟨_, _, _, _, v, rfl, m1.sub _ _ s, hc _, hn _, h1, PostE.to f1 (post_here m1 h2 q) fun _ _ q => q⟩
  | ptr a =>
    obtain ⟨c, fs, d, e0, e1, q⟩ := q1
    obtain ⟨dx, vfs, h3, h4⟩ := (m1.mem a _ e0).2
    obtain ⟨v, h1, h2⟩ := (fld_rep f h4).1 d e1
    exact ⟨_, _, _, _, v, rfl, h3, hc _, hn _, h1, PostE.to f1 (post_here m1 h2 q) fun _ _ q => q⟩
  | _ => exact q1.elim⟩

/-! ### calls of one place -/
def Op1Ok (ca : Cl → Addr) (X : Cx) (fn : Value) (f : Op1) : Prop := ∃ r : List V → Hp → VK → Prop, L2.CallR X fn r ∧
  ∀ M G H x d (Q : D → Mem → Prop), MemOk X.K ca G H M → Rep X.K ca G x d → f M d (fun z => Q z M) → r [x] H (PostE X.K ca G H M Q)
def clo1 (r : List V → Hp → VK → Prop) : List V → Hp → VK → Prop := fun x H Q => ∃ R : VK, (∀ v H', R v H' → Q v H') ∧ r x H R
theorem clo1_call {fn : Value} {r : List V → Hp → VK → Prop} (h : L2.CallR X fn r) : L2.CallR X fn (clo1 r) := fun pins s σ H xs us Q I rx ⟨R, k, q⟩ =>
  L2.thn (h pins s σ H xs us R I rx q) fun _ _ ⟨v, H', I', r, q⟩ => ⟨v, H', I', r, k v H' q⟩
theorem ge_b1 {id : String} {f : Op1} (hf : Op1Ok ca X (.builtin id) f) (hg : L2.Gl X x) (hm : X.mg x = none) (hv : bootBuiltins x = some (.builtin id)) (he : GE ca X e ge) (hn : x ≠ "__name__" := by decide) (hdb : (x == ("__debug__" : Str)) = false := by decide)
    (hs : starEach [e] X.env = (false, eval e X.env) :: starEach [] X.env := by rfl) : GE ca X (.Call (.Name x p) [e] [] pos) (gB f ge) := ⟨fun Γ M Q σ G H h so m => by
  obtain ⟨r, hr, hk⟩ := hf
  refine we_of (L2.pe_callB (clo1_call hr) hg hm hv (L2.pa_cons pe_we L2.pa_nil hs) hn hdb hs) ?_
  refine we_mono (he.run Γ M _ σ G H h so m) fun v H1 ⟨G1, d1, M1, f1, m1, r1, q1⟩ => ?_
  exact ⟨_, fun _ _ h => PostE.to f1 h fun _ _ q => q, hk M1 G1 H1 v d1 Q m1 r1 q1⟩⟩
theorem ge_t1 {T : String} {f : Op1} (hf : Op1Ok ca X (.type T) f) (hg : L2.Gl X x) (hm : X.mg x = none) (hv : bootBuiltins x = some (.type T)) (he : GE ca X e ge) (hn : x ≠ "__name__" := by decide) (hdb : (x == ("__debug__" : Str)) = false := by decide)
    (hs : starEach [e] X.env = (false, eval e X.env) :: starEach [] X.env := by rfl) : GE ca X (.Call (.Name x p) [e] [] pos) (gB f ge) := ⟨fun Γ M Q σ G H h so m => by
  obtain ⟨r, hr, hk⟩ := hf
  refine we_of (L2.pe_callTy (clo1_call hr) hg hm hv (L2.pa_cons pe_we L2.pa_nil hs) hn hdb hs) ?_
  refine we_mono (he.run Γ M _ σ G H h so m) fun v H1 ⟨G1, d1, M1, f1, m1, r1, q1⟩ => ?_
  exact ⟨_, fun _ _ h => PostE.to f1 h fun _ _ q => q, hk M1 G1 H1 v d1 Q m1 r1 q1⟩⟩
theorem ok_len : Op1Ok ca X (.builtin "len") dLen := by
  refine ⟨_, L2.call_len_seq.or L2.call_len_str, fun M G H x d Q m r h => ?_⟩
  unfold dLen at h
  split at h
  · cases r
    exact .inr ⟨_, rfl, lim_line h.1, post_here m (.int _) h.2⟩
  · obtain ⟨l, e1, q⟩ := h
    obtain ⟨a, xs, rfl, hsq, rl⟩ := items_at m r e1
    refine .inl ⟨a, xs, rfl, ?_, ?_⟩
    · rcases hsq with ⟨_, h⟩ | ⟨_, h⟩
      · exact .inr h
      · exact .inl (SqL.of h)
    · rw [rl.length]; exact post_here m (.int _) q
theorem ok_abs : Op1Ok ca X (.builtin "abs") dAbs := by
  refine ⟨_, L2.call_abs, fun M G H x d Q m r h => ?_⟩
  unfold dAbs at h
  split at h
  · cases r; exact ⟨_, rfl, post_here m (.int _) h⟩
  · exact h.elim
theorem ok_int1 : Op1Ok ca X (.type "int") dInt := by
  refine ⟨_, L2.call_int1, fun M G H x d Q m r h => ?_⟩
  unfold dInt at h
  split at h
  · cases r; exact .inl ⟨_, rfl, post_here m (.int _) h⟩
  · exact h.elim
theorem ge_neg (he : GE ca X e ge) : GE ca X (.UnaryOp .USub e pos) (gB dNeg ge) := ⟨fun Γ M Q σ G H h so m => by
  refine we_of (L2.pe_un L2.un_neg pe_we) ?_
  refine we_mono (he.run Γ M _ σ G H h so m) fun v H1 ⟨G1, d1, M1, f1, m1, r1, q1⟩ => ?_
  cases r1 with
  | int i => exact ⟨i, rfl, PostE.to f1 (post_here m1 (.int _) q1) fun _ _ q => q⟩
  | _ => exact q1.elim⟩
theorem bls_rep {K : PySem.W.Frag} {G : Hp} : ∀ {xs : List V} {l : List D} {bs : List Bool}, RepL K ca G xs l → blsOf l = some bs → xs = bs.map V.bl
  | _, _, _, .nil, h => by cases h; rfl
  | _, _, _, .cons r q, h => by
    cases r with
    | bl b =>
      have h' := h
      simp only [blsOf, Option.map_eq_some_iff] at h'
      obtain ⟨bs', e1, rfl⟩ := h'
      rw [bls_rep q e1]
      rfl
    | _ => cases h
theorem ints_of {K : PySem.W.Frag} {G : Hp} : ∀ {xs : List V} {l : List D} {bs : List Int}, RepL K ca G xs l → intsOf l = some bs → xs = bs.map V.int
  | _, _, _, .nil, h => by cases h; rfl
  | _, _, _, .cons r q, h => by
    cases r with
    | int b =>
      have h' := h
      simp only [intsOf, Option.map_eq_some_iff] at h'
      obtain ⟨bs', e1, rfl⟩ := h'
      rw [ints_of q e1]
      rfl
    | _ => cases h
theorem ok_all (hc : X.calm = true) : Op1Ok ca X (.builtin "all") dAll := by
  refine ⟨_, L2.cr_all hc, fun M G H x d Q m r h => ?_⟩
  obtain ⟨hT, l, bs, e1, e2, q⟩ := h
  obtain ⟨a, xs, rfl, hsq, rl⟩ := items_at m r e1
  have e3 := bls_rep rl e2
  subst e3
  rcases hsq with ⟨z, h⟩ | ⟨_, h⟩
  · rw [hT] at z; cases z
  · exact ⟨a, bs, rfl, SqL.of h, post_here m (.bl _) q⟩
theorem ok_any (hc : X.calm = true) : Op1Ok ca X (.builtin "any") dAny := by
  refine ⟨_, (L2.cr_any hc).or (cr_anyT hc), fun M G H x d Q m r h => ?_⟩
  obtain ⟨l, bs, e1, e2, q⟩ := h
  obtain ⟨a, xs, rfl, hsq, rl⟩ := items_at m r e1
  have e3 := bls_rep rl e2
  subst e3
  rcases hsq with ⟨z, h⟩ | ⟨_, h⟩
  · exact .inr ⟨a, bs, rfl, h, post_here m (.bl _) q⟩
  · exact .inl ⟨a, bs, rfl, SqL.of h, post_here m (.bl _) q⟩
theorem ok_max (hc : X.calm = true) : Op1Ok ca X (.builtin "max") dMax := by
  refine ⟨_, L2.cr_max hc, fun M G H x d Q m r h => ?_⟩
  obtain ⟨hT, l, bs, e1, e2, h0, q⟩ := h
  obtain ⟨a, xs, rfl, hsq, rl⟩ := items_at m r e1
  have e3 := ints_of rl e2
  subst e3
  rcases hsq with ⟨z, h⟩ | ⟨_, h⟩
  · rw [hT] at z; cases z
  · exact ⟨a, bs, rfl, SqL.of h, h0, fun y h1 h2 => post_here m (.int _) (q y h1 h2)⟩
theorem ok_sorted : Op1Ok ca X (.builtin "sorted") dSorted := by
  refine ⟨_, L2.cr_sorted.or cr_sortT, fun M G H x d Q m r h => ?_⟩
  obtain ⟨l, bs, e1, e2, h0, q⟩ := h
  obtain ⟨a, xs, rfl, hsq, rl⟩ := items_at m r e1
  have e3 := ints_of rl e2
  subst e3
  rcases hsq with ⟨z, h⟩ | ⟨_, h⟩
  · exact .inr ⟨a, bs, rfl, h, h0, fun ns' p h1 h2 hp => post_new m hp (fun G' s e => .lst e (ints_rep _)) (q ns' h1 h2)⟩
  · exact .inl ⟨a, bs, rfl, SqL.of h, h0, fun ns' p h1 h2 hp => post_new m hp (fun G' s e => .lst e (ints_rep _)) (q ns' h1 h2)⟩
theorem keys_rep {K : PySem.W.Frag} {G : Hp} : ∀ {kvs : List (Key × V)} {l : List (Key × D)}, RepK K ca G kvs l → RepL K ca G (kvs.map fun kv => L2.kV kv.1) (l.map fun kv => keyD kv.1)
  | _, _, .nil => .nil
  | _, _, .cons (q := k) r l => by
    refine .cons ?_ (keys_rep l)
    cases k with
    | inl i => exact .int i
    | inr x => exact .str x
theorem ok_tuple : Op1Ok ca X (.type "tuple") dTupleOf := by
  refine ⟨_, L2.call_tuple_of, fun M G H x d Q m r h => ?_⟩
  obtain ⟨l, e1, q⟩ := h
  obtain ⟨a, xs, rfl, hsq, rl⟩ := items_at m r e1
  refine ⟨a, xs, rfl, ?_⟩
  rcases hsq with ⟨z, h⟩ | ⟨_, h⟩
  · have e2 : d = .tup l := by cases d <;> first | (cases z; done) | (cases e1; rfl)
    subst e2
    exact .inr ⟨h, post_here m r q⟩
  · exact .inl ⟨SqL.of h, fun p hp => post_new m hp (fun G' s e => .tup (SqT.of e) (rl.mono s)) q⟩
theorem ok_tupleD (hc : X.calm = true) : Op1Ok ca X (.type "tuple") dKeysT := by
  refine ⟨_, cr_tupD hc, fun M G H x d Q m r h => ?_⟩
  obtain ⟨l, e1, q⟩ := h
  obtain ⟨a, kvs, rfl, hk, rk⟩ := dcts_at m r e1
  exact ⟨a, kvs, rfl, hk, fun p hp => post_new m hp (fun G' s e => .tup (SqT.of e) ((keys_rep rk).mono s)) q⟩
theorem ok_list : Op1Ok ca X (.type "list") dListOf := by
  refine ⟨_, L2.call_list_of, fun M G H x d Q m r h => ?_⟩
  obtain ⟨l, e1, q⟩ := h
  obtain ⟨a, xs, rfl, hsq, rl⟩ := items_at m r e1
  refine ⟨a, xs, rfl, ?_, fun p hp => post_new m hp (fun G' s e => .lst e (rl.mono s)) q⟩
  rcases hsq with ⟨_, h⟩ | ⟨_, h⟩
  · exact .inr h
  · exact .inl (SqL.of h)
theorem ok_dict : Op1Ok ca X (.type "dict") dDictOf := by
  refine ⟨_, cr_dictD, fun M G H x d Q m r h => ?_⟩
  obtain ⟨l, e1, q⟩ := h
  obtain ⟨a, kvs, rfl, hk, rk⟩ := dcts_at m r e1
  exact ⟨a, kvs, rfl, hk, fun p hp => post_new m hp (fun G' s e => .dic e (rk.mono s)) q⟩
theorem ge_dictM (hg : L2.Gl X x) (hm : X.mg x = none) (hv : bootBuiltins x = some (.type "dict")) (he : GE ca X e ge) (hn : x ≠ "__name__" := by decide) (hdb : (x == ("__debug__" : Str)) = false := by decide)
    (hs : starEach [e] X.env = (false, eval e X.env) :: starEach [] X.env := by rfl) : GE ca X (.Call (.Name x p) [e] [] pos) (gDictM ge) := ⟨fun Γ M Q σ G H h so m => by
  refine we_of (L2.pe_callTy cr_dictD hg hm hv (L2.pa_cons pe_we L2.pa_nil hs) hn hdb hs) ?_
  refine we_mono (he.run Γ M _ σ G H h so m) fun v H1 ⟨G1, d1, M1, f1, m1, r1, l, e1, q1⟩ => ?_
  obtain ⟨a, kvs, rfl, hk, rk⟩ := dcts_at m1 r1 e1
  exact ⟨a, kvs, rfl, hk, fun p hp => PostE.to f1 (post_laid (u := .dic l) m1 hp ⟨_, L2.upd_same, rk⟩ (q1 p (m1.no_ hp))) fun _ _ q => q⟩⟩
/-! isinstance -/
def tyN : D → String
  | .non => "NoneType"
  | .bl _ => "bool"
  | .int _ => "int"
  | .str _ => "str"
  | .tup _ => "tuple"
  | .lst _ => "list"
  | .dic _ => "dict"
  | _ => "object"
theorem ty_rep {G H : Hp} {K : PySem.W.Frag} {v : V} {d : D} (s : Same G H) (r : Rep K ca G v d) (hn : noPtr d = true) : L2.TyX K H v (.type (tyN d)) := by
  cases r with
  | non => exact .base .non
  | bl b => exact .base (.bl b)
  | int b => exact .base (.int b)
  | str b => exact .base (.str b)
  | tup h q =>
    rcases h with (h | ⟨o, h⟩) | ⟨o, its, n, hk, hc, _⟩
    · exact .base (.tup (s _ _ h))
    · exact .fTuple (s _ _ h)
    · exact .kTuple hk hc
  | lst h q => exact .base (.lst (s _ _ h))
  | dic h q => exact .base (.dK (s _ _ h))
  | _ => cases hn
theorem ge_isI {T : String} {ty : Ty} {px : Pos} (hT : ∀ d, noPtr d = true → L2.kitB (tyN d) T = some (isI ty d)) {y : Str} (hg : L2.Gl X x) (hm : X.mg x = none) (hv : bootBuiltins x = some (.builtin "isinstance")) (hgy : L2.Gl X y) (hmy : X.mg y = none) (hvy : bootBuiltins y = some (.type T)) (he : GE ca X e ge)
    (hn : x ≠ "__name__" := by decide) (hdb : (x == ("__debug__" : Str)) = false := by decide) (hny : y ≠ "__name__" := by decide) (hdby : (y == ("__debug__" : Str)) = false := by decide)
    (hs : starEach [e, .Name y px] X.env = (false, eval e X.env) :: starEach [.Name y px] X.env := by rfl) (hs1 : starEach [.Name y px] X.env = (false, eval (.Name y px) X.env) :: starEach [] X.env := by rfl)
    (hpl : (backTo pos (starEach [.Name y px] X.env)).any (·.1) = false := by rfl) : GE ca X (.Call (.Name x p) [e, .Name y px] [] pos) (gB (dIsI ty) ge) := ⟨fun Γ M Q σ G H h so m => by
  refine we_of (L2.pe_callB L2.call_isi hg hm hv (L2.pa_cons pe_we (L2.pa_cons (L2.pe_bltn (v := .ty T) hgy hmy hvy rfl hny hdby) L2.pa_nil hs1) hs) hn hdb hs hpl) ?_
  refine we_mono (he.run Γ M _ σ G H h so m) fun v H1 ⟨G1, d1, M1, f1, m1, r1, q0, q1⟩ => ?_
  exact ⟨v, .ty T, _, _, isI ty d1, rfl, .ty T, ty_rep m1.sub r1 q0, L2.kit_ty (hT d1 q0), PostE.to f1 (post_here m1 (.bl _) q1) fun _ _ q => q⟩⟩
theorem kit_int : ∀ d, noPtr d = true → L2.kitB (tyN d) "int" = some (isI .int d) := fun d h => by cases d <;> first | (cases h; done) | decide +kernel | (show L2.kitB _ _ = _; simp only [tyN, isI]; decide +kernel)
theorem kit_bool : ∀ d, noPtr d = true → L2.kitB (tyN d) "bool" = some (isI .bool d) := fun d h => by cases d <;> first | (cases h; done) | decide +kernel | (show L2.kitB _ _ = _; simp only [tyN, isI]; decide +kernel)
theorem kit_str : ∀ d, noPtr d = true → L2.kitB (tyN d) "str" = some (isI .str d) := fun d h => by cases d <;> first | (cases h; done) | decide +kernel | (show L2.kitB _ _ = _; simp only [tyN, isI]; decide +kernel)
theorem kit_tup : ∀ d, noPtr d = true → L2.kitB (tyN d) "tuple" = some (isI .tup d) := fun d h => by cases d <;> first | (cases h; done) | decide +kernel | (show L2.kitB _ _ = _; simp only [tyN, isI]; decide +kernel)
theorem kit_lst : ∀ d, noPtr d = true → ∃ b, L2.kitB (tyN d) "list" = some b ∧ (b || isI .tup d) = isI .seq d := fun d h => by cases d <;> first | (cases h; done) | exact ⟨false, by simp only [tyN]; decide +kernel, rfl⟩ | exact ⟨true, by simp only [tyN]; decide +kernel, rfl⟩
end
end G
set_option Elab.async false
set_option linter.all false
set_option maxRecDepth 100000
set_option maxHeartbeats 2000000
namespace G
open PySem PySem.Spec PyProof.Rows
open L2 (V Hp HO upd SqL SqT Same Cx Inv PE PT PA PS PSs PG PI RelV Vals VK Ends)
section
variable {ca : Cl → Addr} {X : Cx} {e a b c o : Expr} {es : List Expr} {ge ga gb gc go : DE} {gs : DA} {pos p : Pos} {x f : Str}
theorem ge_isSeq {px py : Pos} {k tp} (hg : L2.Gl X x) (hm : X.mg x = none) (hv : bootBuiltins x = some (.builtin "isinstance")) (hg1 : L2.Gl X "list") (hm1 : X.mg "list" = none) (hg2 : L2.Gl X "tuple") (hm2 : X.mg "tuple" = none) (he : GE ca X e ge)
    (hs : starEach [e, .Tuple [.Name "list" px, .Name "tuple" py] k tp] X.env = (false, eval e X.env) :: starEach [.Tuple [.Name "list" px, .Name "tuple" py] k tp] X.env)
    (hn : x ≠ "__name__" := by decide) (hdb : (x == ("__debug__" : Str)) = false := by decide)
    (hpl : (backTo pos (starEach [.Tuple [.Name "list" px, .Name "tuple" py] k tp] X.env)).any (·.1) = false := by rfl) :
    GE ca X (.Call (.Name x p) [e, .Tuple [.Name "list" px, .Name "tuple" py] k tp] [] pos) (gB (dIsI .seq) ge) := ⟨fun Γ M Q σ G H h so m => by
  refine we_of (L2.pe_callB L2.call_isiT hg hm hv (L2.pa_cons pe_we (L2.pa_cons (L2.pe_tup (L2.pa_cons (L2.pe_bltn (v := .ty "list") hg1 hm1 boot_list rfl) (L2.pa_cons (L2.pe_bltn (v := .ty "tuple") hg2 hm2 boot_tuple rfl) L2.pa_nil))) L2.pa_nil) hs) hn hdb hs hpl) ?_
  refine we_mono (he.run Γ M _ σ G H h so m) fun v H1 ⟨G1, d1, M1, f1, m1, r1, q0, q1⟩ => ?_
  refine ⟨by show 2 ≤ sizeLine; rw [sizeLine_eq]; decide, fun p hp => ?_⟩
  obtain ⟨m2, f2⟩ := m1.frozen (o := .tup [.ty "list", .ty "tuple"]) hp
  refine ⟨v, p, _, _, [.type "list", .type "tuple"], isI .seq d1, rfl, L2.upd_same, .cons (.ty _) (.cons (.ty _) .nil), ty_rep m2.sub (r1.mono f2.g) q0, ?_, PostE.to (f1.trans f2) (post_here m2 (.bl _) q1) fun _ _ q => q⟩
  obtain ⟨b1, h1, h2⟩ := kit_lst d1 q0
  refine L2.kitAny_cons (L2.kit_ty h1) (fun z => ?_) (fun z => by rw [← h2, z]; rfl)
  subst z
  refine L2.kitAny_cons (L2.kit_ty (kit_tup d1 q0)) (fun z => ?_) (fun z => by rw [← h2, z]; rfl)
  rw [← h2, z]
  exact L2.kitAny_nil⟩

/-! ### methods of lists -/
theorem post_wrote {K : PySem.W.Frag} {G H : Hp} {M : Mem} {Q : D → Mem → Prop} {p : Addr} {o : HO} {u w : MO} {v : V} {d : D} (m : MemOk K ca G H M) (hp : M p = some w) (r : MRep K ca G (upd H p o) p u) (rv : Rep K ca G v d) (q : Q d (M.set p u)) : PostE K ca G H M Q v (upd H p o) := by
  obtain ⟨m', f⟩ := m.wrote hp r
  exact ⟨_, _, _, f, m', rv, q⟩
theorem ge_append {apos cpos : Pos} (ho : GE ca X o go) (he : GE ca X e ge)
    (hbase : attributeBase o "append" X.env (eval o X.env) = eval o X.env)
    (hfew : ((backTo cpos (starEach [e] X.env)).all (fun x => !x.1) && (backToKw cpos (keywordEach [] X.env)).all (fun x => x.1.isSome)
      && decide (([e] : List Expr).length + ([] : List Keyword).length + (if ([] : List Keyword).isEmpty then 0 else 1) < 30)) = true)
    (hline : (apos.endLine == cpos.line) = true) (hs : starEach [e] X.env = (false, eval e X.env) :: starEach [] X.env) :
    GE ca X (.Call (.Attribute o "append" apos) [e] [] cpos) (gAppend go ge) := ⟨fun Γ M Q σ G H h so m => by
  refine we_of (L2.pe_bm PySem.F.plainAttrs_list PySem.F.slot_list_append PySem.F.type_list_append L2.mt_append pe_we (L2.pa_cons pe_we L2.pa_nil hs) hbase hfew hline hs) ?_
  refine we_mono (ho.run Γ M _ σ G H h so m) fun v H1 ⟨G1, d1, M1, f1, m1, r1, a, l1, e1, e2, q1⟩ => ?_
  subst e1
  cases r1
  obtain ⟨xs1, h1, _⟩ := (m1.mem a _ e2).2
  refine ⟨.inl ⟨rfl, _, SqL.of h1⟩, ?_⟩
  refine we_mono (he.run Γ M1 _ σ G1 H1 q1 (so.mono f1.g) m1) fun w H2 ⟨G2, d2, M2, f2, m2, r2, l, e3, hl, q2⟩ => ?_
  obtain ⟨xs, h3, h4⟩ := (m2.mem a _ e3).2
  refine ⟨a, xs, w, rfl, rfl, h3, lim_lt (by rw [h4.length]; exact hl), ?_⟩
  exact PostE.to (f1.trans f2) (post_wrote (u := .lst (l ++ [d2])) m2 e3 ⟨_, L2.upd_same, h4.append (.cons r2 .nil)⟩ .non q2) fun _ _ q => q⟩
theorem clo_mt {id : String} {r : V → List V → Hp → VK → Prop} (h : L2.MtR X id r) : L2.MtR X id (fun x xs H Q => ∃ R : VK, (∀ v H', R v H' → Q v H') ∧ r x xs H R) := fun pins s σ H x xs v us Q I rx rxs ⟨R, k, q⟩ =>
  L2.thn (h pins s σ H x xs v us R I rx rxs q) fun _ _ ⟨v, H', I', r, q⟩ => ⟨v, H', I', r, k v H' q⟩
theorem ge_extend {apos cpos : Pos} (ho : GE ca X o go) (he : GE ca X e ge)
    (hbase : attributeBase o "extend" X.env (eval o X.env) = eval o X.env)
    (hfew : ((backTo cpos (starEach [e] X.env)).all (fun x => !x.1) && (backToKw cpos (keywordEach [] X.env)).all (fun x => x.1.isSome)
      && decide (([e] : List Expr).length + ([] : List Keyword).length + (if ([] : List Keyword).isEmpty then 0 else 1) < 30)) = true)
    (hline : (apos.endLine == cpos.line) = true) (hs : starEach [e] X.env = (false, eval e X.env) :: starEach [] X.env) :
    GE ca X (.Call (.Attribute o "extend" apos) [e] [] cpos) (gExtend go ge) := ⟨fun Γ M Q σ G H h so m => by
  refine we_of (L2.pe_bm PySem.F.plainAttrs_list PySem.F.slot_list_extend PySem.F.type_list_extend ((show L2.MtR X "list.extend" L2.rExtend from L2.mt_extend).or mt_extT) pe_we (L2.pa_cons pe_we L2.pa_nil hs) hbase hfew hline hs) ?_
  refine we_mono (ho.run Γ M _ σ G H h so m) fun v H1 ⟨G1, d1, M1, f1, m1, r1, a, l1, e1, e2, q1⟩ => ?_
  subst e1
  cases r1
  obtain ⟨xs1, h1, _⟩ := (m1.mem a _ e2).2
  refine ⟨.inl ⟨rfl, _, SqL.of h1⟩, ?_⟩
  refine we_mono (he.run Γ M1 _ σ G1 H1 q1 (so.mono f1.g) m1) fun w H2 ⟨G2, d2, M2, f2, m2, r2, l, r, e3, e4, hl, q2⟩ => ?_
  obtain ⟨xs, h3, h4⟩ := (m2.mem a _ e3).2
  obtain ⟨b, ys, rfl, hsq, rl⟩ := items_at m2 r2 e4
  have fin : PostE X.K ca G H M Q .non (upd H2 a (.lst (xs ++ ys))) := PostE.to (f1.trans f2) (post_wrote (u := .lst (l ++ r)) m2 e3 ⟨_, L2.upd_same, h4.append rl⟩ .non q2) fun _ _ q => q
  have hz : xs.length + ys.length ≤ sizeLine := lim_line (by rw [h4.length, rl.length]; exact hl)
  rcases hsq with ⟨_, h5⟩ | ⟨_, h5⟩
  · exact .inr ⟨a, b, xs, ys, rfl, rfl, h3, h5, hz, fin⟩
  · exact .inl ⟨a, b, xs, ys, rfl, rfl, h3, h5, hz, fin⟩⟩
theorem ge_pop {apos cpos : Pos} (ho : GE ca X o go) (hbase : attributeBase o "pop" X.env (eval o X.env) = eval o X.env) (hline : (apos.endLine == cpos.line) = true) :
    GE ca X (.Call (.Attribute o "pop" apos) [] [] cpos) (gPop go) := ⟨fun Γ M Q σ G H h so m => by
  refine we_of (L2.pe_bm0 PySem.F.plainAttrs_list PySem.F.slot_list_pop PySem.F.type_list_pop L2.mt_pop pe_we hbase hline) ?_
  refine we_mono (ho.run Γ M _ σ G H h so m) fun v H1 ⟨G1, d1, M1, f1, m1, r1, a, l, y, e1, e2, q1⟩ => ?_
  subst e1
  cases r1
  obtain ⟨xs, h1, h2⟩ := (m1.mem a _ e2).2
  obtain ⟨ys, w, rfl, h3, h4⟩ := h2.snoc
  refine ⟨.inl ⟨rfl, _, SqL.of h1⟩, a, _, w, rfl, rfl, h1, by simp, ?_⟩
  rw [List.dropLast_concat]
  exact PostE.to f1 (post_wrote (u := .lst l) m1 e2 ⟨_, L2.upd_same, h3⟩ h4 q1) fun _ _ q => q⟩

/-! ### defs -/
/-- a promise over data as a promise -/
def spOf (K : PySem.W.Frag) (ca : Cl → Addr) (ds : DSp) : L2.Sp := fun vs H Q _ => ∃ G Ds M P, MemOk K ca G H M ∧ RepL K ca G vs Ds ∧ ds Ds M P ∧ ∀ v H', PostE K ca G H M P v H' → Q v H'
/-- a def that stands, its promise kept -/
structure FnG (ca : Cl → Addr) (P : Program) (w : World) (K : PySem.W.Frag) (mg : Str → Option Value) (base : Heap) (x : Str) (k : Nat) (ds : DSp) : Prop where
  ex : ∃ f fd ps, L2.FnOk P w K mg base L2.CX0 k f fd ps (spOf K ca ds) ∧ mg x = some (.ref f) ∧ PySem.W.keepIn K (.ref f) = true ∧ L2.Binds K fd ps []
structure MtG (ca : Cl → Addr) (P : Program) (w : World) (K : PySem.W.Frag) (mg : Str → Option Value) (base : Heap) (c : Cl) (mn : Str) (k : Nat) (ds : DSp) : Prop where
  ex : ∃ f fd ps, L2.FnOk P w K mg base L2.CX0 k f fd ps (spOf K ca ds) ∧ L2.Meth K (ca c) mn f ∧ L2.Binds K fd ps []
structure MkG (ca : Cl → Addr) (P : Program) (w : World) (K : PySem.W.Frag) (mg : Str → Option Value) (base : Heap) (c : Cl) (x : Str) (k : Nat) (ds : DSp) : Prop where
  ex : ∃ f fd ps, L2.FnOk P w K mg base L2.CX0 k f fd ps (spOf K ca ds) ∧ L2.Mk K (ca c) f ∧ mg x = some (.ref (ca c)) ∧ L2.Binds K fd ps []
theorem FnG.mono {P : Program} {w : World} {K : PySem.W.Frag} {mg : Str → Option Value} {base : Heap} {j k : Nat} {ds : DSp} (F : FnG ca P w K mg base x j ds) (h : j ≤ k) : FnG ca P w K mg base x k ds := by
  obtain ⟨f, fd, ps, h1, h2⟩ := F.ex
  exact ⟨f, fd, ps, h1.mono h, h2⟩
theorem ge_call {k : Nat} {ds : DSp} (F : FnG ca X.prog X.w X.K X.mg X.base x k ds) (hr : L2.Room k X.A) (hg : L2.Gl X x) (ha : GA ca X (e :: es) gs) (hdb : (x == ("__debug__" : Str)) = false := by decide)
    (he : starEach (e :: es) X.env = (false, eval e X.env) :: starEach es X.env := by rfl) (hpl : (backTo pos (starEach es X.env)).any (·.1) = false := by rfl) : GE ca X (.Call (.Name x p) (e :: es) [] pos) (gCall ds gs) := ⟨fun Γ M Q σ G H h so m => by
  obtain ⟨f, fd, ps, F, hm, hk, hb⟩ := F.ex
  refine we_of (L2.pe_call F hr hg hm hk hb .nil L2.pass0 pa_wa hdb he hpl) ?_
  refine wa_mono (ha.run Γ M _ σ G H h so m) fun vs H1 ⟨G1, d1, M1, f1, m1, r1, q1⟩ => ?_
  rw [List.append_nil]
  exact ⟨G1, d1, M1, Q, m1, r1, q1, fun v H' z => PostE.to f1 z fun _ _ q => q⟩⟩
theorem ge_pure {k : Nat} {ps : PSp} (F : FnG ca X.prog X.w X.K X.mg X.base x k (liftP ps)) (hr : L2.Room k X.A) (hg : L2.Gl X x) (ha : GA ca X (e :: es) gs) (hdb : (x == ("__debug__" : Str)) = false := by decide)
    (he : starEach (e :: es) X.env = (false, eval e X.env) :: starEach es X.env := by rfl) (hpl : (backTo pos (starEach es X.env)).any (·.1) = false := by rfl) : GE ca X (.Call (.Name x p) (e :: es) [] pos) (gPure ps gs) := ⟨(ge_call (ds := liftP ps) F hr hg ha hdb he hpl).run⟩
theorem ge_meth {k : Nat} {ds : DSp} {cl : Cl} {m : Str} {apos : Pos} {pl : Sem Bool} (F : MtG ca X.prog X.w X.K X.mg X.base cl m k ds) (hc : L2.Cls X.K (ca cl)) (hr : L2.Room k X.A) (ho : GE ca X o go) (ha : GA ca X (e :: es) gs)
    (hst : starEach (e :: es) X.env = (false, eval e X.env) :: starEach es X.env) (hpl : (backTo pos (starEach es X.env)).any (·.1) = false)
    (ht : eval (.Call (.Attribute o m apos) (e :: es) [] pos) X.env = (do
      let ov ← eval o X.env
      standAt apos.atName
      let (f, first) ← holding [ov] (getMethod ov m pl)
      callWith pos f first (backTo pos (starEach (e :: es) X.env)) (backToKw pos (keywordEach [] X.env)))) : GE ca X (.Call (.Attribute o m apos) (e :: es) [] pos) (gMeth cl m ds go gs) := ⟨fun Γ M Q σ G H h so mm => by
  obtain ⟨f, fd, ps, F, hm, hb⟩ := F.ex
  refine we_of (L2.pe_meth pe_we hc hm F hr hb .nil L2.pass0 pa_wa hst hpl ht) ?_
  refine we_mono (ho.run Γ M _ σ G H h so mm) fun v H1 ⟨G1, d1, M1, f1, m1, r1, a, fs, e1, e2, e3, q1⟩ => ?_
  subst e1
  cases r1
  obtain ⟨dx, vfs, h1, h2⟩ := (m1.mem a _ e2).2
  refine ⟨a, dx, vfs, rfl, h1, (fld_rep m h2).2 e3, ?_⟩
  refine wa_mono (ha.run Γ M1 _ σ G1 H1 q1 (so.mono f1.g) m1) fun vs H2 ⟨G2, d2, M2, f2, m2, r2, q2⟩ => ?_
  rw [List.append_nil]
  exact ⟨G2, .ptr a :: d2, M2, Q, m2, .cons (.ptr a) r2, q2, fun v H' z => PostE.to (f1.trans f2) z fun _ _ q => q⟩⟩
theorem ge_meth0 {k : Nat} {ds : DSp} {cl : Cl} {m : Str} {apos : Pos} {pl : Sem Bool} (F : MtG ca X.prog X.w X.K X.mg X.base cl m k ds) (hc : L2.Cls X.K (ca cl)) (hr : L2.Room k X.A) (ho : GE ca X o go)
    (ht : eval (.Call (.Attribute o m apos) [] [] pos) X.env = (do
      let ov ← eval o X.env
      standAt apos.atName
      let (f, first) ← holding [ov] (getMethod ov m pl)
      callWith pos f first (backTo pos (starEach [] X.env)) (backToKw pos (keywordEach [] X.env)))) : GE ca X (.Call (.Attribute o m apos) [] [] pos) (gMeth cl m ds go gNil) := ⟨fun Γ M Q σ G H h so mm => by
  obtain ⟨f, fd, ps, F, hm, hb⟩ := F.ex
  refine we_of (L2.pe_meth0 pe_we hc hm F hr hb .nil L2.pass0 ht) ?_
  refine we_mono (ho.run Γ M _ σ G H h so mm) fun v H1 ⟨G1, d1, M1, f1, m1, r1, a, fs, e1, e2, e3, q1⟩ => ?_
  subst e1
  cases r1
  obtain ⟨dx, vfs, h1, h2⟩ := (m1.mem a _ e2).2
  refine ⟨a, dx, vfs, rfl, h1, (fld_rep m h2).2 e3, ?_⟩
  exact ⟨G1, [.ptr a], M1, Q, m1, .cons (.ptr a) .nil, q1, fun v H' z => PostE.to f1 z fun _ _ q => q⟩⟩
theorem made_mem {K : PySem.W.Frag} {G H : Hp} {M : Mem} {c : Cl} {x dx : Addr} (m : MemOk K ca G H M) (hx : H x = none) (hd : H dx = none) (ne : dx ≠ x) :
    MemOk K ca G (upd (upd H dx (.own x)) x (.ins (ca c) dx [])) (M.set x (.ins c [])) ∧ Fr G H M G (upd (upd H dx (.own x)) x (.ins (ca c) dx [])) (M.set x (.ins c [])) := by
  have m1 : MemOk K ca G (upd H dx (.own x)) M := ⟨fun b u e => by rw [L2.upd_ne (L2.ne_of_none e (m.gnone hd))]; exact m.sub b u e, fun a o e => by
    obtain ⟨h1, h2⟩ := m.mem a o e
    exact ⟨h1, h2.mono (Same.refl G) fun u q => by rw [L2.upd_ne (L2.ne_of_none q hd)]; exact q⟩⟩
  have f1 : Fr G H M G (upd H dx (.own x)) M := ⟨Same.refl G, fun a o _ e => by rw [L2.upd_ne (L2.ne_of_none e hd)]; exact e, fun _ _ _ _ g => g, fun a o e => .inl ⟨o, e⟩⟩
  obtain ⟨m2, f2⟩ := m1.laid (p := x) (o := .ins (ca c) dx []) (u := .ins c []) (by rw [L2.upd_ne (Ne.symm ne)]; exact hx) ⟨dx, [], L2.upd_same, .nil⟩
  exact ⟨m2, f1.trans f2⟩
theorem ge_make {k : Nat} {ds : DSp} {cl : Cl} (F : MkG ca X.prog X.w X.K X.mg X.base cl x k ds) (hr : L2.Room (k + 1) X.A) (hg : L2.Gl X x) (ha : GA ca X (e :: es) gs) (hdb : (x == ("__debug__" : Str)) = false := by decide)
    (he : starEach (e :: es) X.env = (false, eval e X.env) :: starEach es X.env := by rfl) (hpl : (backTo pos (starEach es X.env)).any (·.1) = false := by rfl) : GE ca X (.Call (.Name x p) (e :: es) [] pos) (gMake cl ds gs) := ⟨fun Γ M Q σ G H h so m => by
  obtain ⟨f, fd, ps, F, hM, hm, hb⟩ := F.ex
  refine we_of (L2.pe_make hM F hr hg hm hb .nil L2.pass0 pa_wa hdb he hpl) ?_
  refine wa_mono (ha.run Γ M _ σ G H h so m) fun vs H1 ⟨G1, d1, M1, f1, m1, r1, q1⟩ => ?_
  intro y dy hy hd ne
  rw [List.append_nil]
  obtain ⟨m2, f2⟩ := made_mem (c := cl) m1 hy hd ne
  refine ⟨G1, .ptr y :: d1, _, _, m2, .cons (.ptr y) r1, q1 y (m1.no_ hy), fun v H' z => ?_⟩
  obtain ⟨G3, d3, M3, f3, m3, r3, e3, q3⟩ := z
  subst e3
  cases r3
  exact ⟨rfl, G3, _, M3, (f1.trans f2).trans f3, m3, .ptr y, q3⟩⟩
theorem ge_makeF {k : Nat} {ds : DSp} {cl : Cl} (F : MkG ca X.prog X.w X.K X.mg X.base cl x k ds) (hr : L2.Room (k + 1) X.A) (hg : L2.Gl X x) (ha : GA ca X (e :: es) gs) (hdb : (x == ("__debug__" : Str)) = false := by decide)
    (he : starEach (e :: es) X.env = (false, eval e X.env) :: starEach es X.env := by rfl) (hpl : (backTo pos (starEach es X.env)).any (·.1) = false := by rfl) : GE ca X (.Call (.Name x p) (e :: es) [] pos) (gMakeF cl ds gs) := ⟨fun Γ M Q σ G H h so m => by
  obtain ⟨f, fd, ps, F, hM, hm, hb⟩ := F.ex
  refine we_of (L2.pe_make hM F hr hg hm hb .nil L2.pass0 pa_wa hdb he hpl) ?_
  refine wa_mono (ha.run Γ M _ σ G H h so m) fun vs H1 ⟨G1, d1, M1, f1, m1, r1, q1⟩ => ?_
  intro y dy hy hd ne
  rw [List.append_nil]
  obtain ⟨m2, f2⟩ := made_mem (c := cl) m1 hy hd ne
  refine ⟨G1, .ptr y :: d1, _, _, m2, .cons (.ptr y) r1, q1 y (m1.no_ hy), fun v H' z => ?_⟩
  obtain ⟨G3, d3, M3, f3, m3, r3, e3, fs, e4, q3⟩ := z
  subst e3
  cases r3
  obtain ⟨dx, vfs, h1, h2⟩ := (m3.mem y _ e4).2
  obtain ⟨m4, f4⟩ := m3.freeze e4 h1
  exact ⟨rfl, _, _, _, ((f1.trans f2).trans f3).trans f4, m4, .obj L2.upd_same (h2.mono f4.g), q3⟩⟩
/-! a def keeps its promise -/
theorem start_ok {K : PySem.W.Frag} {G : Hp} {N : List Str} {vs : List V} {Ds : List D} (r : RepL K ca G vs Ds) : SlOk K ca G (L2.start N vs) (startD N Ds) := by
  refine ⟨by unfold L2.start startD; rw [List.length_append, List.length_append, List.length_map, List.length_map, List.length_replicate, List.length_replicate, r.length], fun i d e => ?_⟩
  unfold startD at e
  unfold L2.start
  by_cases hi : i < Ds.length
  · rw [List.getElem?_append_left (by rw [List.length_map]; exact hi), List.getElem?_map] at e
    cases e2 : Ds[i]? with
    | none => rw [e2] at e; cases e
    | some d2 =>
      rw [e2] at e
      cases e
      obtain ⟨v, h1, h2⟩ := r.get e2
      exact ⟨v, by rw [List.getElem?_append_left (by rw [List.length_map, r.length]; exact hi), List.getElem?_map, h1] <;> rfl, h2⟩
  · rw [List.getElem?_append_right (by rw [List.length_map]; omega)] at e
    have e2 := List.mem_of_getElem? e
    have e3 := (List.mem_replicate.mp e2).2
    cases e3
section
variable {P : Program} {w : World} {K : PySem.W.Frag} {mg : Str → Option Value} {base : Heap}
theorem def_ok {qual : Str} {args : Arguments} {body : List Stmt} {scope : Scope} {fa : Addr} {fd : FuncData} {N ps : List Str} {k : Nat} {ds : DSp} {g : DS} (F : L2.FunD K x qual args body scope [] [] fa fd) (S : L2.FnScope N ps scope)
    (hb : ∀ (cdv : Value) (A : Around) (outer : List Env) (s : Shared) (H : Hp) (E : L2.XK), L2.Room k (A.deeper (envOfC qual scope s.heap.objs.size fa cdv)) → GSs ca (L2.cxOf L2.CX0 P w K mg base N qual scope fa cdv A outer s H E).nox body g)
    (hr : ∀ Ds M Q, ds Ds M Q → Ds.length = ps.length ∧ g (endsD Q) (startD N Ds) M) : L2.FnOk P w K mg base L2.CX0 (k + 1) fa fd ps (spOf K ca ds) := by
  refine F.ok S (fun vs H Q E h => ?_) (fun cdv A outer s H vs Q E hro h => ?_)
  · obtain ⟨G, Ds, M, P, m, r, q, _⟩ := h
    rw [r.length]
    exact (hr Ds M P q).1
  · obtain ⟨G, Ds, M, P', m, r, q, kq⟩ := h
    refine ⟨_, L2.PSs.nox pss_wss, ?_⟩
    refine wss_mono ((hb cdv A outer s H E hro).run (endsD P') (startD N Ds) M (L2.start N vs) G H (hr Ds M P' q).2 (start_ok r) m) (fun σ H' hq => ?_) (fun v H' hq => ?_) (fun σ H' hq => ?_) (fun σ H' hq => ?_)
    · obtain ⟨G', Γ', M', f, m', _, M'', hle, q'⟩ := hq
      exact kq _ _ ⟨G', .non, M'', f.le hle, m'.le hle, .non, q'⟩
    · obtain ⟨G', d, M', f, m', r', M'', hle, q'⟩ := hq
      exact kq _ _ ⟨G', d, M'', f.le hle, m'.le hle, r', q'⟩
    · obtain ⟨_, _, _, _, _, _, z⟩ := hq; exact z.elim
    · obtain ⟨_, _, _, _, _, _, z⟩ := hq; exact z.elim
/-- a pure one starts with nothing in its memory -/
theorem def_pure {qual : Str} {args : Arguments} {body : List Stmt} {scope : Scope} {fa : Addr} {fd : FuncData} {N ps : List Str} {k : Nat} {ds : PSp} {g : DS} (F : L2.FunD K x qual args body scope [] [] fa fd) (S : L2.FnScope N ps scope)
    (hb : ∀ (cdv : Value) (A : Around) (outer : List Env) (s : Shared) (H : Hp) (E : L2.XK), L2.Room k (A.deeper (envOfC qual scope s.heap.objs.size fa cdv)) → GSs ca (L2.cxOf L2.CX0 P w K mg base N qual scope fa cdv A outer s H E).nox body g)
    (hr : ∀ Ds Q, ds Ds Q → Ds.length = ps.length ∧ g (endsP Q) (startD N Ds) Mem.nil) : L2.FnOk P w K mg base L2.CX0 (k + 1) fa fd ps (spOf K ca (liftP ds)) := by
  refine F.ok S (fun vs H Q E h => ?_) (fun cdv A outer s H vs Q E hro h => ?_)
  · obtain ⟨G, Ds, M, P, m, r, q, _⟩ := h
    rw [r.length]
    exact (hr Ds _ q).1
  · obtain ⟨G, Ds, M, P', m, r, q, kq⟩ := h
    have m0 : MemOk K ca G H Mem.nil := ⟨m.sub, fun a o e => nomatch (show (none : Option MO) = some o from e)⟩
    have up : ∀ {G' H' : Hp} {M' : Mem}, Fr G H Mem.nil G' H' M' → MemOk K ca G' H' M' → Fr G H M G' H' M ∧ MemOk K ca G' H' M := fun {G' H' M'} f m' =>
      ⟨⟨f.g, fun a o _ e => f.keep a o rfl e, fun a o _ e g => f.out a o rfl e g, fun a o e => .inl ⟨o, e⟩⟩, m'.sub, fun a o e => by
        obtain ⟨h1, h2⟩ := m.mem a o e
        obtain ⟨u, hu⟩ := h2.ex
        exact ⟨f.out a u rfl hu h1, h2.mono f.g fun u q => f.keep a u rfl q⟩⟩
    refine ⟨_, L2.PSs.nox pss_wss, ?_⟩
    refine wss_mono ((hb cdv A outer s H E hro).run (endsP fun d => P' d M) (startD N Ds) Mem.nil (L2.start N vs) G H (hr Ds _ q).2 (start_ok r) m0) (fun σ H' hq => ?_) (fun v H' hq => ?_) (fun σ H' hq => ?_) (fun σ H' hq => ?_)
    · obtain ⟨G', Γ', M', f, m', _, q'⟩ := hq
      obtain ⟨f2, m2⟩ := up f m'
      exact kq _ _ ⟨G', .non, M, f2, m2, .non, q'⟩
    · obtain ⟨G', d, M', f, m', r', q'⟩ := hq
      obtain ⟨f2, m2⟩ := up f m'
      exact kq _ _ ⟨G', d, M, f2, m2, r', q'⟩
    · obtain ⟨_, _, _, _, _, _, z⟩ := hq; exact z.elim
    · obtain ⟨_, _, _, _, _, _, z⟩ := hq; exact z.elim
end
end
end G
set_option Elab.async false
set_option linter.all false
set_option maxRecDepth 100000
set_option maxHeartbeats 2000000
namespace G
open PySem PySem.Spec PyProof.Rows
open L2 (V Hp HO upd SqL SqT Same Cx Inv PE PT PA PS PSs PG PI RelV Vals VK Ends)
section
variable {ca : Cl → Addr} {X : Cx} {e a b c o : Expr} {es : List Expr} {ge ga gb gc go gi : DE} {gs : DA} {pos p : Pos} {x f : Str} {st : Stmt} {sts : List Stmt} {s1 s2 : DS} {t : DT}
/-! ### targets -/
theorem gg_name {i : Nat} (hN : X.N.Nodup) (hi : X.N[i]? = some x) (hx : L2.Loc X.env.scope x) (hf : X.fn x = true ∨ X.env.scope.names.lookup x = some .local := by first | exact .inl rfl | exact .inr rfl | assumption) : GG ca X (.Name x pos) (aName i) := ⟨fun d v Γ M Q σ G H h so m r =>
  wg_of (L2.pg_name hN hi hx hf) ⟨G, _, M, .refl, m, so.set i r, h⟩⟩
theorem ggs_nil : GGs ca X [] aNil := ⟨fun d v Γ M Q σ G H h so m r => by
  obtain ⟨e, h⟩ := h
  subst e
  cases r
  exact wgs_of L2.pgs_nil ⟨rfl, G, Γ, M, .refl, m, so, h⟩⟩
theorem ggs_cons {g : DG} {gr : DGs} (h1 : GG ca X e g) (h2 : GGs ca X es gr) (hs : (assignEach (e :: es) X.env).map (·.2) = assign e X.env :: (assignEach es X.env).map (·.2) := by rfl) : GGs ca X (e :: es) (aCons g gr) := ⟨fun d v Γ M Q σ G H h so m r => by
  cases r with
  | nil => exact h.elim
  | cons r rr =>
    refine wgs_of (L2.pgs_cons pg_wg pgs_wgs hs) ⟨_, _, rfl, ?_⟩
    refine wg_mono (h1.run _ _ Γ M _ σ G H h so m r) fun σ1 H1 ⟨G1, Γ1, M1, f1, m1, so1, q1⟩ => ?_
    refine wgs_mono (h2.run _ _ Γ1 M1 _ σ1 G1 H1 q1 so1 m1 (rr.mono f1.g)) fun σ2 H2 h3 => PostS.to f1 h3 fun _ _ q => q⟩
theorem gg_tup {k : Nat} {gr : DGs} {n : Nat} (hc : X.calm = true) (h : GGs ca X es gr) (hn : (assignEach es X.env).length = n := by rfl) (hst : (assignEach es X.env).findIdx? (·.1) = none := by rfl) : GG ca X (.Tuple es k pos) (aTup n gr) := ⟨fun d v Γ M Q σ G H hh so m r => by
  refine wg_of (L2.pg_tup hc pgs_wgs hn hst) ?_
  cases r with
  | tup s l =>
    obtain ⟨hl, hh⟩ := hh
    exact ⟨_, _, rfl, Same.sqt m.sub s, by rw [l.length]; exact hl, h.run _ _ Γ M Q σ G H hh so m l⟩
  | _ => exact hh.elim⟩

/-! ### statements -/
theorem gss_nil : GSs ca X [] sNext := ⟨fun E Γ M σ G H h so m => wss_of L2.pss_nil ⟨G, Γ, M, .refl, m, so, h⟩⟩
theorem ends_to {K : PySem.W.Frag} {G H G1 H1 : Hp} {M M1 : Mem} {E : DEnds} {X : Cx} {sts : List Stmt} {σ : L2.St} {H2 : Hp} (f : Fr G H M G1 H1 M1) (h : WSs X sts (endsOf K ca G1 H1 M1 E) σ H2) : WSs X sts (endsOf K ca G H M E) σ H2 :=
  wss_mono h (fun _ _ z => PostS.to f z fun _ _ q => q) (fun _ _ z => PostE.to f z fun _ _ q => q) (fun _ _ z => PostS.to f z fun _ _ q => q) (fun _ _ z => PostS.to f z fun _ _ q => q)
theorem gss_cons (h1 : GS ca X st s1) (h2 : GSs ca X sts s2) : GSs ca X (st :: sts) (sSeq s1 s2) := ⟨fun E Γ M σ G H h so m => by
  refine wss_of (L2.pss_cons ps_ws pss_wss) ?_
  refine ws_mono (h1.run _ Γ M σ G H h so m) (fun σ1 H1 z => ?_) (fun _ _ z => z) (fun _ _ z => z) (fun _ _ z => z)
  obtain ⟨G1, Γ1, M1, f1, m1, so1, q1⟩ := z
  exact ends_to f1 (h2.run E Γ1 M1 σ1 G1 H1 q1 so1 m1)⟩
theorem gss_one (h1 : GS ca X st s1) : GSs ca X [st] s1 := ⟨fun E Γ M σ G H h so m => wss_of (L2.pss_one ps_ws) (h1.run E Γ M σ G H h so m)⟩
theorem gss_never : GSs ca X sts sNever := ⟨fun E Γ M σ G H h so m => h.elim⟩
theorem gs_never : GS ca X st sNever := ⟨fun E Γ M σ G H h so m => h.elim⟩
theorem gs_pass : GS ca X (.Pass pos) sNext := ⟨fun E Γ M σ G H h so m => ws_of L2.ps_pass ⟨G, Γ, M, .refl, m, so, h⟩⟩
theorem gs_break : GS ca X (.Break pos) sBreak := ⟨fun E Γ M σ G H h so m => ws_of L2.ps_break ⟨G, Γ, M, .refl, m, so, h⟩⟩
theorem gs_expr (he : GE ca X e ge) (hs : swapsWith e none pos.line X.env = pure false) : GS ca X (.Expr e pos) (sDrop ge) := ⟨fun E Γ M σ G H h so m =>
  ws_of (L2.ps_expr pe_we hs) (we_mono (he.run Γ M _ σ G H h so m) fun v H1 ⟨G1, d1, M1, f1, m1, r1, q1⟩ => ⟨G1, Γ, M1, f1, m1, so.mono f1.g, q1⟩)⟩
theorem gs_ret (he : GE ca X e ge) : GS ca X (.Return (some e) pos) (sRet ge) := ⟨fun E Γ M σ G H h so m => ws_of (L2.ps_ret pe_we) (he.run Γ M _ σ G H h so m)⟩
theorem gs_if {A B : List Stmt} (ht : GT ca X c t) (ha : GSs ca X A s1) (hb : GSs ca X B s2) : GS ca X (.If c A B pos) (sIf t s1 s2) := ⟨fun E Γ M σ G H h so m => by
  refine ws_of (L2.ps_if pt_wt pss_wss pss_wss) ?_
  refine wt_mono (ht.run Γ M _ σ G H h so m) fun v H1 ⟨G1, M1, f1, m1, q1⟩ => ?_
  cases v with
  | true => exact L2.iteT (ends_to f1 (ha.run E Γ M1 σ G1 H1 q1 (so.mono f1.g) m1))
  | false => exact L2.iteF (ends_to f1 (hb.run E Γ M1 σ G1 H1 q1 (so.mono f1.g) m1))⟩
theorem gs_asg {tg : Expr} {g : DG} (he : GE ca X e ge) (hg : GG ca X tg g) (hs : swapsWithSole [tg] e pos.line X.env = pure false) (hw : swappedStores [tg] e X.env = pure none)
    (h1 : (assignEach [tg] X.env).map (·.2) = [assign tg X.env]) : GS ca X (.Assign [tg] e pos) (sAsg ge g) := ⟨fun E Γ M σ G H h so m => by
  refine ws_of (L2.ps_asg pe_we pg_wg hs hw h1) ?_
  refine we_mono (he.run Γ M _ σ G H h so m) fun v H1 ⟨G1, d1, M1, f1, m1, r1, q1⟩ => ?_
  exact wg_mono (hg.run _ _ Γ M1 _ σ G1 H1 q1 (so.mono f1.g) m1 r1) fun _ _ z => PostS.to f1 z fun _ _ q => q⟩
theorem gs_set {i : Nat} {pos' : Pos} (hN : X.N.Nodup) (hi : X.N[i]? = some x) (hx : L2.Loc X.env.scope x) (he : GE ca X e ge) (hs : swapsWith e (some (.Name x pos')) pos.line X.env = pure false) (hf : X.fn x = true ∨ X.env.scope.names.lookup x = some .local := by first | exact .inl rfl | exact .inr rfl | assumption) :
    GS ca X (.Assign [.Name x pos'] e pos) (sAsg ge (aName i)) := ⟨fun E Γ M σ G H h so m => by
  refine ws_of (L2.ps_set hN hi hx pe_we hs hf) ?_
  refine we_mono (he.run Γ M _ σ G H h so m) fun v H1 ⟨G1, d1, M1, f1, m1, r1, q1⟩ => ?_
  exact ⟨G1, _, M1, f1, m1, (so.mono f1.g).set i r1, q1⟩⟩
theorem gs_par {i j : Nat} {x y : Str} {px py pt : Pos} {kt k2 pt2} (hc : X.calm = true) (hN : X.N.Nodup) (hi : X.N[i]? = some x) (hj : X.N[j]? = some y) (hij : i ≠ j)
    (hx : X.env.scope.names.lookup x = some .local) (hy : X.env.scope.names.lookup y = some .local) (ha : GE ca X a ga) (hb : GE ca X b gb)
    (hw : swappedStores [.Tuple [.Name x px, .Name y py] kt pt] (.Tuple [a, b] k2 pt2) X.env = pure (some [x, y])) (hs : swapsWithSole [.Tuple [.Name x px, .Name y py] kt pt] (.Tuple [a, b] k2 pt2) pos.line X.env = pure false)
    (h1 : starEach [a, b] X.env = (false, eval a X.env) :: starEach [b] X.env) (h2 : starEach [b] X.env = (false, eval b X.env) :: starEach [] X.env) :
    GS ca X (.Assign [.Tuple [.Name x px, .Name y py] kt pt] (.Tuple [a, b] k2 pt2) pos) (sPar i j ga gb) := ⟨fun E Γ M σ G H h so m => by
  refine ws_of (L2.ps_par hc hN hi hj hij hx hy (L2.pa_cons pe_we (L2.pa_cons pe_we L2.pa_nil h2) h1) hw hs) ?_
  refine we_mono (ha.run Γ M _ σ G H h so m) fun v H1 ⟨G1, d1, M1, f1, m1, r1, q1⟩ => ?_
  refine we_mono (hb.run Γ M1 _ σ G1 H1 q1 (so.mono f1.g) m1) fun w H2 ⟨G2, d2, M2, f2, m2, r2, q2⟩ => ?_
  exact ⟨v, w, rfl, G2, _, M2, f1.trans f2, m2, ((so.mono (f1.g.trans f2.g)).set i (r1.mono f2.g)).set j r2, q2⟩⟩
theorem gs_fld {pos' : Pos} (hc : ∀ c : Cl, L2.Cls X.K (ca c)) (hn : ∀ c : Cl, L2.NoAttr X.K (ca c) f) (ho : GE ca X o go) (he : GE ca X e ge) (hs : swapsWith e (some (.Attribute o f pos')) pos.line X.env = pure false) : GS ca X (.Assign [.Attribute o f pos'] e pos) (sFld go ge f) := ⟨fun E Γ M σ G H h so m => by
  refine ws_of (L2.ps_fld pe_we pe_we hs) ?_
  refine we_mono (he.run Γ M _ σ G H h so m) fun v H1 ⟨G1, d1, M1, f1, m1, r1, q1⟩ => ?_
  refine we_mono (ho.run Γ M1 _ σ G1 H1 q1 (so.mono f1.g) m1) fun w H2 ⟨G2, d2, M2, f2, m2, r2, a, cl, fs, e1, e2, hl, q2⟩ => ?_
  subst e1
  cases r2
  obtain ⟨dx, vfs, h1, h2⟩ := (m2.mem a _ e2).2
  obtain ⟨m3, f3⟩ := m2.wrote (o := .ins (ca cl) dx (L2.putF f v vfs)) (u := .ins cl (putF f d1 fs)) e2 ⟨dx, _, L2.upd_same, putF_rep f (r1.mono f2.g) h2⟩
  exact ⟨a, _, dx, vfs, rfl, h1, hc _, hn _, by rw [h2.length]; exact hl, G2, Γ, _, (f1.trans f2).trans f3, m3, so.mono (f1.g.trans f2.g), q2⟩⟩
theorem ixN_eq (n : Nat) (i : Int) : L2.ixN n i = ixN n i := rfl
theorem gs_ix {pos' : Pos} (ho : GE ca X o go) (hi : GE ca X a gi) (he : GE ca X e ge) (hs : swapsWithSole [.Subscript o a pos'] e pos.line X.env = pure false) (hw : swappedStores [.Subscript o a pos'] e X.env = pure none)
    (h1 : (assignEach [.Subscript o a pos'] X.env).map (·.2) = [assign (.Subscript o a pos') X.env])
    (ha : ∀ v, assign (.Subscript o a pos') X.env v = (do
      let ov ← holding [v] (eval o X.env)
      let iv ← holding [v, ov] (eval a X.env)
      standAt pos'
      holding [v, ov, iv] (setItem ov iv v)
      release [v, ov, iv] [])) : GS ca X (.Assign [.Subscript o a pos'] e pos) (sIx go gi ge) := ⟨fun E Γ M σ G H h so m => by
  refine ws_of (L2.ps_asg pe_we (L2.pg_sub pe_we pe_we L2.set_list ha) hs hw h1) ?_
  refine we_mono (he.run Γ M _ σ G H h so m) fun v H1 ⟨G1, d1, M1, f1, m1, r1, q1⟩ => ?_
  refine we_mono (ho.run Γ M1 _ σ G1 H1 q1 (so.mono f1.g) m1) fun w H2 ⟨G2, d2, M2, f2, m2, r2, q2⟩ => ?_
  refine we_mono (hi.run Γ M2 _ σ G2 H2 q2 (so.mono (f1.g.trans f2.g)) m2) fun u H3 ⟨G3, d3, M3, f3, m3, r3, p, l, k, j, e1, e2, e3, e4, q3⟩ => ?_
  subst e1 e2
  cases r2
  cases r3
  obtain ⟨xs, h1, h2⟩ := (m3.mem p _ e3).2
  obtain ⟨m4, f4⟩ := m3.wrote (o := .lst (xs.set j v)) (u := .lst (l.set j d1)) e3 ⟨_, L2.upd_same, RepL.set (r1.mono (f2.g.trans f3.g)) j h2⟩
  exact ⟨p, xs, k, j, rfl, rfl, h1, by rw [h2.length]; exact e4, G3, Γ, _, ((f1.trans f2).trans f3).trans f4, m4, so.mono ((f1.g.trans f2.g).trans f3.g), q3⟩⟩
theorem gs_key {pos' : Pos} (hu : X.A.units + 1 < cLine) (ho : GE ca X o go) (hi : GE ca X a gi) (he : GE ca X e ge) (hs : swapsWith e (some (.Subscript o a pos')) pos.line X.env = pure false)
    (hps : ∀ {td ty tv : L2.TE}, PE X o td → PE X a ty → PE X e tv → PS X (.Assign [.Subscript o a pos'] e pos) (L2.sDPut td ty tv)) : GS ca X (.Assign [.Subscript o a pos'] e pos) (sKey go gi ge) := ⟨fun E Γ M σ G H h so m => by
  refine ws_of (hps pe_we pe_we pe_we) ?_
  refine we_mono (he.run Γ M _ σ G H h so m) fun v H1 ⟨G1, d1, M1, f1, m1, r1, q1⟩ => ?_
  refine we_mono (ho.run Γ M1 _ σ G1 H1 q1 (so.mono f1.g) m1) fun w H2 ⟨G2, d2, M2, f2, m2, r2, q2⟩ => ?_
  refine we_mono (hi.run Γ M2 _ σ G2 H2 q2 (so.mono (f1.g.trans f2.g)) m2) fun u H3 ⟨G3, d3, M3, f3, m3, r3, p, l, q, e1, e3, e4, hl, q3⟩ => ?_
  subst e1
  cases r2
  have eu := key_rep r3 e4
  subst eu
  obtain ⟨kvs, h1, h2⟩ := (m3.mem p _ e3).2
  obtain ⟨m4, f4⟩ := m3.wrote (o := .dK (L2.putK kvs q v)) (u := .dic (put l q d1)) e3 ⟨_, L2.upd_same, put_rep q (r1.mono (f2.g.trans f3.g)) h2⟩
  exact ⟨p, _, rfl, L2.DPut.k h1 (lim_lt (by rw [h2.length]; exact hl)), G3, Γ, _, ((f1.trans f2).trans f3).trans f4, m4, so.mono ((f1.g.trans f2.g).trans f3.g), q3⟩⟩
theorem gs_aug {i : Nat} {pos' : Pos} (hN : X.N.Nodup) (hi : X.N[i]? = some x) (hx : L2.Loc X.env.scope x) (he : GE ca X e ge) (hf : X.fn x = true ∨ X.env.scope.names.lookup x = some .local := by first | exact .inl rfl | exact .inr rfl | assumption) :
    GS ca X (.AugAssign (.Name x pos') .Add e pos) (sAug i ge) := ⟨fun E Γ M σ G H h so m => by
  refine ws_of (L2.ps_aug hN hi hx pe_we L2.ip_add hf) ?_
  obtain ⟨n, e1, h⟩ := h
  obtain ⟨v, h1, h2⟩ := so.at_ i _ e1
  cases h2
  refine ⟨_, h1, ?_⟩
  refine we_mono (he.run Γ M _ σ G H h so m) fun v H1 ⟨G1, d1, M1, f1, m1, r1, q1⟩ => ?_
  cases r1 with
  | int k => exact ⟨n, k, rfl, rfl, G1, _, M1, f1, m1, (so.mono f1.g).set i (.int _), q1⟩
  | _ => exact q1.elim⟩
theorem gs_try {body : List Stmt} {h0 : ExceptHandler} {hs : List ExceptHandler} (hb : GSs ca X.nox body s1) : GS ca X (.Try body (h0 :: hs) [] [] pos) s1 := ⟨fun E Γ M σ G H h so m =>
  ws_of (L2.ps_try_thru0 pss_wss) (hb.run E Γ M σ G H h so m)⟩

/-! ### while -/
theorem gs_while {body : List Stmt} (hp : PassesOwn (model X.prog X.w) X.A X.env X.xe) (ht : GT ca X c t) (hb : GSs ca X body s1) : GS ca X (.While c body [] pos) (sWhile t s1) := ⟨fun E Γ M σ G H h so m => by
  refine ws_of (L2.ps_while hp pt_wt pss_wss) ?_
  obtain ⟨n, h⟩ := h
  refine ⟨fun n σ' H' => ∃ G' Γ' M', Fr G H M G' H' M' ∧ MemOk X.K ca G' H' M' ∧ SlOk X.K ca G' σ' Γ' ∧ whD t s1 E n Γ' M', ⟨n, G, Γ, M, .refl, m, so, h⟩, ?_⟩
  rintro k σ1 H1 ⟨G1, Γ1, M1, f1, m1, so1, q1⟩
  cases k with
  | zero => exact q1.elim
  | succ k =>
    refine wt_mono (ht.run Γ1 M1 _ σ1 G1 H1 q1 so1 m1) fun v H2 ⟨G2, M2, f2, m2, q2⟩ => ?_
    cases v with
    | false => exact L2.iteF ⟨G2, Γ1, M2, f1.trans f2, m2, so1.mono f2.g, q2⟩
    | true =>
      refine L2.iteT ⟨PostS X.K ca G H M (whD t s1 E k), fun σ3 H3 h3 => ⟨k, Nat.lt_succ_self k, h3⟩, ?_⟩
      refine wss_mono (hb.run _ Γ1 M2 σ1 G2 H2 q2 (so1.mono f2.g) m2) (fun _ _ z => PostS.to (f1.trans f2) z fun _ _ q => q) (fun _ _ z => PostE.to (f1.trans f2) z fun _ _ q => q) (fun _ _ z => PostS.to (f1.trans f2) z fun _ _ q => q) (fun _ _ z => PostS.to (f1.trans f2) z fun _ _ q => q)⟩

/-! ### for -/
theorem gs_for {tg iter : Expr} {body : List Stmt} {gi : DI} {g : DG} (hp : PassesOwn (model X.prog X.w) X.A X.env X.xe) (hc : X.calm = true) (hi : GI ca X tg iter gi) (hg : GG ca X tg g) (hb : GSs ca X body s1)
    (hs : ∀ x, foldedSetIterable iter X.env x = pure x) : GS ca X (.For tg iter body [] pos) (sFor gi g s1) := ⟨fun E Γ M σ G H h so m => by
  refine ws_of (L2.ps_for hp hc pi_wi pg_wg pss_wss hs) ?_
  refine fun pins s I => L2.thn (hi.run Γ M _ σ G H h so m pins s I) fun v s1' hw => L2.thn hw fun itv s2' hw2 => ?_
  obtain ⟨it, fp, tn, J, H1, e1, I1, T, tn0, hfp, G1, ds, M1, f1, m1, jok, q1⟩ := hw2
  refine ⟨it, fp, tn, J, H1, e1, I1, T, tn0, hfp, ?_⟩
  refine ⟨fun i k σ' H' => k = ds.length - i ∧ i ≤ ds.length ∧ ∃ G' Γ' M', Fr G H M G' H' M' ∧ MemOk X.K ca G' H' M' ∧ SlOk X.K ca G' σ' Γ' ∧ Same G1 G' ∧ forD g s1 E (ds.drop i) Γ' M', ⟨ds.length, by simp, Nat.zero_le _, G1, Γ, M1, f1, m1, so.mono f1.g, Same.refl _, q1⟩, ?_⟩
  rintro i k σ2 H2 ⟨rfl, hi2, G2, Γ2, M2, f2, m2, so2, s2, q2⟩
  obtain ⟨go, stop⟩ := jok i G2 H2 M2 s2 m2
  by_cases hlt : i < ds.length
  · obtain ⟨g1, g2⟩ := go hlt
    refine .inr ⟨g1, fun σ' H' => ∃ G' Γ' M', Fr G H M G' H' M' ∧ MemOk X.K ca G' H' M' ∧ SlOk X.K ca G' σ' Γ' ∧ Same G1 G' ∧ forD g s1 E (ds.drop (i + 1)) Γ' M', fun σ' H' hN => ⟨ds.length - (i + 1), by omega, rfl, hlt, hN⟩, fun x H3 hy => ?_⟩
    obtain ⟨d, G3, ed, f3, m3, r3⟩ := g2 x H3 hy
    have ed2 : ds.drop i = d :: ds.drop (i + 1) := by
      rw [List.drop_eq_getElem_cons hlt]
      have := (List.getElem?_eq_some_iff.mp ed).2
      rw [this]
    rw [ed2] at q2
    have f4 := f2.trans f3
    have s4 := s2.trans f3.g
    refine wg_mono (hg.run d x Γ2 M2 _ σ2 G3 H3 q2 (so2.mono f3.g) m3 r3) fun σ5 H5 ⟨G5, Γ5, M5, f5, m5, so5, q5⟩ => ?_
    have f6 := f4.trans f5
    have s6 := s4.trans f5.g
    refine wss_mono (hb.run _ Γ5 M5 σ5 G5 H5 q5 so5 m5) (fun σ7 H7 z => ?_) (fun _ _ z => PostE.to f6 z fun _ _ q => q) (fun _ _ z => PostS.to f6 z fun _ _ q => q) (fun σ7 H7 z => ?_)
    · obtain ⟨G7, Γ7, M7, f7, m7, so7, q7⟩ := z
      exact ⟨G7, Γ7, M7, f6.trans f7, m7, so7, s6.trans f7.g, q7⟩
    · obtain ⟨G7, Γ7, M7, f7, m7, so7, q7⟩ := z
      exact ⟨G7, Γ7, M7, f6.trans f7, m7, so7, s6.trans f7.g, q7⟩
  · have ei : ds.drop i = [] := List.drop_eq_nil_of_le (by omega)
    rw [ei] at q2
    exact .inl ⟨stop (by omega), G2, Γ2, M2, f2, m2, so2, q2⟩⟩
theorem jok_same {K : PySem.W.Frag} {G : Hp} {ds : List D} {J : L2.It} (h : ∀ (i : Nat) (H : Hp), Same G H → (∀ d, ds[i]? = some d → J.go i H ∧ ∀ x H', J.yld i H x H' → H' = H ∧ Rep K ca G x d) ∧ (ds.length ≤ i → J.stop i H)) : JOk K ca G ds J := fun i G1 H M s m => by
  obtain ⟨h1, h2⟩ := h i H (s.trans m.sub)
  refine ⟨fun hi => ?_, h2⟩
  obtain ⟨g1, g2⟩ := h1 ds[i] (List.getElem?_eq_getElem hi)
  refine ⟨g1, fun x H' hy => ?_⟩
  obtain ⟨e, r⟩ := g2 x H' hy
  subst e
  exact ⟨ds[i], G1, List.getElem?_eq_getElem hi, .refl, m, r.mono s⟩
end
end G
set_option Elab.async false
set_option linter.all false
set_option maxRecDepth 100000
set_option maxHeartbeats 2000000
namespace G
open PySem PySem.Spec PyProof.Rows
open L2 (V Hp HO upd SqL SqT Same Cx Inv PE PT PA PS PSs PG PI RelV Vals VK Ends)
section
variable {ca : Cl → Addr} {X : Cx} {e a b c o tg iter : Expr} {es : List Expr} {ge ga gb gc go gi : DE} {gs : DA} {pos p : Pos} {x f : Str} {st : Stmt} {sts : List Stmt} {s1 s2 : DS} {t : DT}
/-! ### what is walked -/
theorem jok_list {K : PySem.W.Frag} {G : Hp} {l : Addr} {xs : List V} {ds : List D} (h : G l = some (.lst xs)) (r : RepL K ca G xs ds) : JOk K ca G ds (L2.Itl K l) := jok_same fun i H s => by
  have hl := s _ _ h
  refine ⟨fun d e => ?_, fun hi => ⟨xs, SqL.of hl, by rw [r.length]; exact hi⟩⟩
  obtain ⟨v, h1, h2⟩ := r.get e
  refine ⟨⟨xs, v, SqL.of hl, h1⟩, fun x H' hy => ⟨hy.1, ?_⟩⟩
  have e2 := hy.2 xs (SqL.of hl)
  rw [h1] at e2
  cases e2
  exact h2
theorem jok_tup {K : PySem.W.Frag} {G : Hp} {l : Addr} {xs : List V} {ds : List D} (h : SqT K G l xs) (r : RepL K ca G xs ds) : JOk K ca G ds (L2.Itt K l) := jok_same fun i H s => by
  have hl := Same.sqt s h
  refine ⟨fun d e => ?_, fun hi => ⟨xs, hl, by rw [r.length]; exact hi⟩⟩
  obtain ⟨v, h1, h2⟩ := r.get e
  refine ⟨⟨xs, v, hl, h1⟩, fun x H' hy => ⟨hy.1, ?_⟩⟩
  have e2 := hy.2 xs hl
  rw [h1] at e2
  cases e2
  exact h2
theorem it_new {pins : List (Addr × Obj)} {σ : L2.St} {H : Hp} {s : Shared} {ob : Obj} (I : Inv X pins σ H s) (b : Addr) (hb : b ∈ [s.heap.objs.size]) : L2.FpOk X pins H b := by
  rw [List.mem_singleton] at hb
  rw [hb]
  exact I.fpOk (Nat.le_refl _) (I.hok.fresh (Nat.le_refl _))
theorem it_lst {pins : List (Addr × Obj)} {σ : L2.St} {H : Hp} {s : Shared} {R : L2.It → Hp → Prop} {E : Value → Shared → Prop} {l : Addr} {xs : List V} (I : Inv X pins σ H s) (hq : SqL X.K H l xs) (q : R (L2.Itl X.K l) H) :
    wpAny (model X.prog X.w) X.A (pyIter (.ref l)) (L2.PIE X pins σ tg R) E s := by
  obtain ⟨its, rv, pl, hz⟩ := I.list hq
  exact wpAny_pyIter_list pl.isList ⟨_, [s.heap.objs.size], _, _, H, rfl, I.kept (t' := s.toks) (fun b o e => Heap.get?_push_of_some _ e), L2.turn_list l _, ⟨_, Heap.get?_push_size _ rfl, rfl, rfl⟩, it_new (ob := default) I, q⟩
theorem it_tup {pins : List (Addr × Obj)} {σ : L2.St} {H : Hp} {s : Shared} {R : L2.It → Hp → Prop} {E : Value → Shared → Prop} {l : Addr} {xs : List V} (I : Inv X pins σ H s) (hq : SqT X.K H l xs) (q : R (L2.Itt X.K l) H) :
    wpAny (model X.prog X.w) X.A (pyIter (.ref l)) (L2.PIE X pins σ tg R) E s := by
  obtain ⟨its, rv, pl, hz⟩ := I.tuple hq
  exact wpAny_pyIter_tuple (show s.heap.IsTuple l its.toArray from pl) ⟨_, [s.heap.objs.size], _, _, H, rfl, I.kept (t' := s.toks) (fun b o e => Heap.get?_push_of_some _ e), L2.turn_tuple l _, ⟨_, Heap.get?_push_size _ rfl, rfl, rfl⟩, it_new (ob := default) I, q⟩
theorem gi_seq (he : GE ca X e ge) : GI ca X tg e (iSeq ge) := ⟨fun Γ M Q σ G H h so m pins s I => by
  refine L2.thn (he.run Γ M _ σ G H h so m pins s I) fun v s1 ⟨x, H1, I1, rv, G1, d1, M1, f1, m1, r, q1⟩ => ?_
  cases r with
  | tup hs l =>
    cases rv
    exact it_tup I1 (Same.sqt m1.sub hs) ⟨G1, _, M1, f1, m1, jok_tup hs l, q1⟩
  | lst hs l =>
    cases rv
    exact it_lst I1 (SqL.of (m1.sub _ _ hs)) ⟨G1, _, M1, f1, m1, jok_list hs l, q1⟩
  | _ => exact q1.elim⟩
theorem gi_str (he : GE ca X e ge) : GI ca X tg e (iStr ge) := ⟨fun Γ M Q σ G H h so m => by
  refine wi_of (L2.pi_str pe_we) ?_
  refine we_mono (he.run Γ M _ σ G H h so m) fun v H1 ⟨G1, d1, M1, f1, m1, r1, q1⟩ => ?_
  cases r1 with
  | str z =>
    refine ⟨z, rfl, G1, _, M1, f1, m1, jok_same fun i H s => ⟨fun d ed => ?_, fun hi => ?_⟩, q1⟩
    · rw [List.getElem?_map] at ed
      cases e2 : z.cps.toList[i]? with
      | none => rw [e2] at ed; cases ed
      | some c =>
        rw [e2] at ed
        cases ed
        have e3 : z.cps[i]? = some c := by rw [← Array.getElem?_toList]; exact e2
        refine ⟨(Array.getElem?_eq_some_iff.mp e3).1, fun x H' hy => ⟨hy.1, ?_⟩⟩
        obtain ⟨c', e4, e5⟩ := hy.2
        rw [e3] at e4
        cases e4
        subst e5
        exact .str _
    · have : (z.cps.toList.map fun c => D.str ⟨#[c]⟩).length = z.cps.size := by rw [List.length_map, Array.length_toList]
      rw [this] at hi
      exact hi
  | _ => exact q1.elim⟩
theorem upTo_at {lo : Int} {n i : Nat} {d : D} (h : (upTo lo n)[i]? = some d) : i < n ∧ d = .int (lo + (i : Int)) := by
  have hl : i < n := by
    have := (List.getElem?_eq_some_iff.mp h).1
    unfold upTo at this
    rw [List.length_map, List.length_range] at this
    exact this
  refine ⟨hl, ?_⟩
  unfold upTo at h
  rw [List.getElem?_map, List.getElem?_range hl] at h
  cases h
  rfl
theorem jok_up {K : PySem.W.Frag} {G : Hp} {lo : Int} {n : Nat} : JOk K ca G (upTo lo n) (L2.Itr lo n) := jok_same fun i H s => by
  refine ⟨fun d e => ?_, fun hi => ?_⟩
  · obtain ⟨h1, h2⟩ := upTo_at e
    subst h2
    exact ⟨h1, fun x H' hy => ⟨hy.1, by rw [hy.2]; exact .int _⟩⟩
  · unfold upTo at hi
    rw [List.length_map, List.length_range] at hi
    exact hi
theorem gi_rng1 {a : Expr} {ga : DE} (hg : L2.Gl X "range") (hm : X.mg "range" = none) (ha : GE ca X a ga) (hs : starEach [a] X.env = [(false, eval a X.env)]) : GI ca X tg (.Call (.Name "range" p) [a] [] pos) (iRng (gCons ga gNil)) := ⟨fun Γ M Q σ G H h so m => by
  refine wi_of (L2.pi_range1 hg hm (L2.pa_cons pe_we L2.pa_nil (by rw [hs] <;> rfl)) hs) ?_
  refine we_mono (ha.run Γ M _ σ G H h so m) fun v H1 ⟨G1, d1, M1, f1, m1, r1, q1⟩ => ?_
  cases r1 with
  | int j => exact ⟨j, rfl, q1.1.1, q1.1.2, G1, _, M1, f1, m1, jok_up, q1.2⟩
  | _ => exact q1.elim⟩
theorem gi_rng2 {a b : Expr} {ga gb : DE} (hg : L2.Gl X "range") (hm : X.mg "range" = none) (ha : GE ca X a ga) (hb : GE ca X b gb) (hs : starEach [a, b] X.env = [(false, eval a X.env), (false, eval b X.env)]) (hs2 : starEach [b] X.env = [(false, eval b X.env)]) :
    GI ca X tg (.Call (.Name "range" p) [a, b] [] pos) (iRng (gCons ga (gCons gb gNil))) := ⟨fun Γ M Q σ G H h so m => by
  refine wi_of (L2.pi_range2 hg hm (L2.pa_cons pe_we (L2.pa_cons pe_we L2.pa_nil (by rw [hs2] <;> rfl)) (by rw [hs, hs2])) hs hs2) ?_
  refine we_mono (ha.run Γ M _ σ G H h so m) fun v H1 ⟨G1, d1, M1, f1, m1, r1, q1⟩ => ?_
  refine we_mono (hb.run Γ M1 _ σ G1 H1 q1 (so.mono f1.g) m1) fun w H2 ⟨G2, d2, M2, f2, m2, r2, q2⟩ => ?_
  cases r1 with
  | int i =>
    cases r2 with
    | int j => exact ⟨i, j, rfl, q2.1, G2, _, M2, f1.trans f2, m2, jok_up, q2.2⟩
    | _ => exact q2.elim
  | _ => exact q2.elim⟩
theorem jok_down {K : PySem.W.Frag} {G : Hp} {i : Int} {n : Nat} : JOk K ca G (downTo i n) (L2.Itc i (-1) n) := jok_same fun j H s => by
  have hlen : (downTo i n).length = n := by unfold downTo; rw [List.length_map, List.length_range]
  refine ⟨fun d e => ?_, fun hi => by rw [hlen] at hi; exact hi⟩
  have hl : j < n := by
    have := (List.getElem?_eq_some_iff.mp e).1
    rw [hlen] at this
    exact this
  unfold downTo at e
  rw [List.getElem?_map, List.getElem?_range hl] at e
  cases e
  exact ⟨hl, fun x H' hy => ⟨hy.1, by rw [hy.2]; exact .int _⟩⟩
theorem gi_down {a b c : Expr} {gs : DA} (hg : L2.Gl X "range") (hm : X.mg "range" = none) (ha : GA ca X [a, b, c] gs)
    (hs : starEach [a, b, c] X.env = (false, eval a X.env) :: starEach [b, c] X.env) (hpl : (backTo pos (starEach [b, c] X.env)).any (·.1) = false) : GI ca X tg (.Call (.Name "range" p) [a, b, c] [] pos) (iDown gs) := ⟨fun Γ M Q σ G H h so m => by
  refine wi_of (L2.pi_range3 hg hm pa_wa hs hpl) ?_
  refine wa_mono (ha.run Γ M _ σ G H h so m) fun v H1 ⟨G1, d1, M1, f1, m1, r1, q1⟩ => ?_
  dsimp only at q1
  split at q1
  · obtain ⟨e, ⟨h1, h2, h3, h4⟩, q⟩ := q1
    subst e
    cases r1 with
    | cons r1 l1 =>
      cases r1
      cases l1 with
      | cons r2 l2 =>
        cases r2
        cases l2 with
        | cons r3 l3 =>
          cases r3
          cases l3
          exact ⟨_, _, -1, _, rfl, L2.RgC.neg h1 h2 h3 h4, G1, _, M1, f1, m1, jok_down, q⟩
  · exact q1.elim⟩
theorem zip_at {α β : Type} {l : List α} {r : List β} {i : Nat} {a : α} {b : β} (h1 : l[i]? = some a) (h2 : r[i]? = some b) : (l.zip r)[i]? = some (a, b) := by
  rw [List.getElem?_zip_eq_some]
  exact ⟨h1, h2⟩
theorem jok_zip {K : PySem.W.Frag} {G : Hp} {ds es : List D} {J : L2.It} {xs ys : List V} (rx : RepL K ca G xs ds) (ry : RepL K ca G ys es)
    (go : ∀ (i : Nat) (H : Hp) (x y : V), Same G H → xs[i]? = some x → ys[i]? = some y → J.go i H ∧ ∀ v H', J.yld i H v H' → ∃ T, v = .ref T ∧ H T = none ∧ H' = upd H T (.tup [x, y]))
    (stop : ∀ (i : Nat) (H : Hp), Same G H → (xs.length ≤ i ∨ ys.length ≤ i) → J.stop i H) : JOk K ca G ((ds.zip es).map fun p => .tup [p.1, p.2]) J := fun i G1 H M s m => by
  refine ⟨fun hi => ?_, fun hi => ?_⟩
  · rw [List.length_map, List.length_zip] at hi
    obtain ⟨d, hd⟩ : ∃ d, ds[i]? = some d := ⟨ds[i]'(by omega), List.getElem?_eq_getElem (by omega)⟩
    obtain ⟨e, he⟩ : ∃ e, es[i]? = some e := ⟨es[i]'(by omega), List.getElem?_eq_getElem (by omega)⟩
    obtain ⟨x, hx, r1⟩ := rx.get hd
    obtain ⟨y, hy, r2⟩ := ry.get he
    obtain ⟨g1, g2⟩ := go i H x y (s.trans m.sub) hx hy
    refine ⟨g1, fun v H' hv => ?_⟩
    obtain ⟨T, rfl, hT, rfl⟩ := g2 v H' hv
    obtain ⟨m2, f2⟩ := m.frozen (o := .tup [x, y]) hT
    exact ⟨.tup [d, e], _, by rw [List.getElem?_map, zip_at hd he] <;> rfl, f2, m2, .tup (SqT.of L2.upd_same) (.cons (r1.mono (s.trans f2.g)) (.cons (r2.mono (s.trans f2.g)) .nil))⟩
  · rw [List.length_map, List.length_zip] at hi
    refine stop i H (s.trans m.sub) ?_
    rw [rx.length, ry.length]
    omega
theorem gi_zip {a b : Expr} {gs : DA} {elts : List Expr} {kk : Nat} {tpos : Pos} (hg : L2.Gl X "zip") (hm : X.mg "zip" = none) (ha : GA ca X [a, b] gs)
    (hs : starEach [a, b] X.env = (false, eval a X.env) :: starEach [b] X.env) (hpl : (backTo pos (starEach [b] X.env)).any (·.1) = false) : GI ca X (.Tuple elts kk tpos) (.Call (.Name "zip" p) [a, b] [] pos) (iZip gs) := ⟨fun Γ M Q σ G H h so m => by
  refine wi_of (RZ.pi_zipA hg hm pa_wa hs hpl) ?_
  refine wa_mono (ha.run Γ M _ σ G H h so m) fun v H1 ⟨G1, d1, M1, f1, m1, r1, q1⟩ => ?_
  dsimp only at q1
  split at q1
  · cases r1 with
    | cons r1 l1 =>
      cases r1 with
      | tup s1 q1' =>
        cases l1 with
        | cons r2 l2 =>
          cases r2 with
          | tup s2 q2' =>
            cases l2
            refine ⟨_, _, _, _, rfl, .inr ⟨Same.sqt m1.sub s1, Same.sqt m1.sub s2, G1, _, M1, f1, m1, jok_zip q1' q2' (fun i H x y s hx hy => ?_) (fun i H s hi => ⟨_, _, Same.sqt s s1, Same.sqt s s2, hi⟩), q1⟩⟩
            refine ⟨⟨_, _, x, y, Same.sqt s s1, Same.sqt s s2, hx, hy⟩, fun v H' hv => ?_⟩
            obtain ⟨T, x', y', e1, e2, e3, e4, e5⟩ := hv
            have e6 := e4 _ (Same.sqt s s1)
            have e7 := e5 _ (Same.sqt s s2)
            rw [hx] at e6
            rw [hy] at e7
            cases e6
            cases e7
            exact ⟨T, e1, e2, e3⟩
  · cases r1 with
    | cons r1 l1 =>
      cases r1 with
      | lst s1 q1' =>
        cases l1 with
        | cons r2 l2 =>
          cases r2 with
          | lst s2 q2' =>
            cases l2
            refine ⟨_, _, _, _, rfl, .inl ⟨SqL.of (m1.sub _ _ s1), SqL.of (m1.sub _ _ s2), G1, _, M1, f1, m1, jok_zip q1' q2' (fun i H x y s hx hy => ?_) (fun i H s hi => ⟨_, _, SqL.of (s _ _ s1), SqL.of (s _ _ s2), hi⟩), q1⟩⟩
            refine ⟨⟨_, _, x, y, SqL.of (s _ _ s1), SqL.of (s _ _ s2), hx, hy⟩, fun v H' hv => ?_⟩
            obtain ⟨T, x', y', e1, e2, e3, e4, e5⟩ := hv
            have e6 := e4 _ (SqL.of (s _ _ s1))
            have e7 := e5 _ (SqL.of (s _ _ s2))
            rw [hx] at e6
            rw [hy] at e7
            cases e6
            cases e7
            exact ⟨T, e1, e2, e3⟩
  · exact q1.elim⟩

/-! ### comprehensions -/
theorem Fr.at_ {G H G' H' : Hp} {M M' : Mem} {D : Addr} {o : HO} (f : Fr G H M G' H' M') (h : H D = none) : Fr G H M G' (upd H' D o) M' :=
  ⟨f.g, fun a u hm e => by rw [L2.upd_ne (L2.ne_of_none e h)]; exact f.keep a u hm e, f.out, f.new⟩
theorem MemOk.at_ {K : PySem.W.Frag} {G H : Hp} {M : Mem} {D : Addr} {o : HO} (m : MemOk K ca G H M) (hg : G D = none) (hm : M D = none) : MemOk K ca G (upd H D o) M :=
  ⟨fun b u e => by rw [L2.upd_ne (L2.ne_of_none e hg)]; exact m.sub b u e, fun a u e => by
    have ne : a ≠ D := Mem.apart e hm
    obtain ⟨h1, h2⟩ := m.mem a u e
    exact ⟨h1, h2.mono (Same.refl G) fun w q => by rw [L2.upd_ne ne]; exact q⟩⟩
/-- the list at D changes no more -/
theorem MemOk.froze {K : PySem.W.Frag} {G H : Hp} {M : Mem} {D : Addr} {o : HO} (m : MemOk K ca G H M) (hg : G D = none) (hm : M D = none) (ho : H D = some o) : MemOk K ca (upd G D o) H M := by
  have sG : Same G (upd G D o) := fun b u e => by rw [L2.upd_ne (L2.ne_of_none e hg)]; exact e
  refine ⟨fun b w e => ?_, fun a u e => ?_⟩
  · by_cases h : b = D
    · subst h; rw [L2.upd_same] at e; cases e; exact ho
    · rw [L2.upd_ne h] at e; exact m.sub b w e
  · have ne : a ≠ D := Mem.apart e hm
    obtain ⟨h1, h2⟩ := m.mem a u e
    exact ⟨by rw [L2.upd_ne ne]; exact h1, h2.mono sG fun z q => q⟩
structure GTs (ca : Cl → Addr) (X : Cx) (ifs : List Expr) (g : DT) : Prop where
  ex : ∃ tt : L2.TT, L2.PTs X ifs tt ∧ (∀ σ H R R', (∀ b H', R b H' → R' b H') → tt σ H R → tt σ H R') ∧ ∀ Γ M Q σ G H, g Γ M Q → SlOk X.K ca G σ Γ → MemOk X.K ca G H M → tt σ H (PostB X.K ca G H M Q)
theorem gts_nil : GTs ca X [] tYes := ⟨_, L2.pts_nil, fun _ _ _ _ k h => k _ _ h, fun Γ M Q σ G H h so m => ⟨G, M, .refl, m, h⟩⟩
theorem gts_one (h : GT ca X c t) : GTs ca X [c] t := ⟨_, L2.pts_one pt_wt, fun _ _ _ _ k h => wt_mono h k, fun Γ M Q σ G H q so m => h.run Γ M Q σ G H q so m⟩
/-- the tests of a block, whatever block it is: one reading for all -/
theorem tc_lc {K : PySem.W.Frag} {Y : Type} {ifs : List Expr} {g : DT} {XB : Y → Cx} (hK : ∀ y, (XB y).K = K) (h : ∀ y, GTs ca (XB y) ifs g) :
    ∃ tt : L2.TT, (∀ y, L2.PTs (XB y) ifs tt) ∧ (∀ σ H R R', (∀ b H', R b H' → R' b H') → tt σ H R → tt σ H R') ∧ ∀ Γ M Q σ G H, g Γ M Q → SlOk K ca G σ Γ → MemOk K ca G H M → tt σ H (PostB K ca G H M Q) := by
  refine ⟨fun σ H R => ∃ Γ M Q G, g Γ M Q ∧ SlOk K ca G σ Γ ∧ MemOk K ca G H M ∧ ∀ b H', PostB K ca G H M Q b H' → R b H', fun y => ?_, fun σ H R R' k ⟨Γ, M, Q, G, a, b, c, d⟩ => ⟨Γ, M, Q, G, a, b, c, fun b H' z => k _ _ (d b H' z)⟩, fun Γ M Q σ G H a b c => ⟨Γ, M, Q, G, a, b, c, fun _ _ z => z⟩⟩
  obtain ⟨tt, h1, h2, h3⟩ := (h y).ex
  refine ⟨fun pins s σ H R I hw => h1.run pins s σ H R I ?_⟩
  obtain ⟨Γ, M, Q, G, a, b, c, d⟩ := hw
  refine h2 _ _ _ _ (fun b H' z => d b H' ?_) (h3 Γ M Q σ G H a (by rw [hK y]; exact b) (by rw [hK y]; exact c))
  rw [hK y] at z
  exact z
theorem ec_lc {K : PySem.W.Frag} {Y : Type} {elt : Expr} {g : DE} {XB : Y → Cx} (hK : ∀ y, (XB y).K = K) (h : ∀ y, GE ca (XB y) elt g) :
    ∃ te : L2.TE, (∀ y, PE (XB y) elt te) ∧ (∀ σ H R R', (∀ b H', R b H' → R' b H') → te σ H R → te σ H R') ∧ ∀ Γ M Q σ G H, g Γ M Q → SlOk K ca G σ Γ → MemOk K ca G H M → te σ H (PostE K ca G H M Q) := by
  refine ⟨fun σ H R => ∃ Γ M Q G, g Γ M Q ∧ SlOk K ca G σ Γ ∧ MemOk K ca G H M ∧ ∀ b H', PostE K ca G H M Q b H' → R b H', fun y => ?_, fun σ H R R' k ⟨Γ, M, Q, G, a, b, c, d⟩ => ⟨Γ, M, Q, G, a, b, c, fun b H' z => k _ _ (d b H' z)⟩, fun Γ M Q σ G H a b c => ⟨Γ, M, Q, G, a, b, c, fun _ _ z => z⟩⟩
  refine ⟨fun pins s σ H R I hw => ?_⟩
  obtain ⟨Γ, M, Q, G, a, b, c, d⟩ := hw
  refine we_mono ((h y).run Γ M Q σ G H a (by rw [hK y]; exact b) (by rw [hK y]; exact c)) (fun b H' z => d b H' ?_) pins s I
  rw [hK y] at z
  exact z
theorem wipe_set {σ : L2.St} {i : Nat} {o : Option V} : ∀ {vs : List Nat}, i ∈ vs → L2.wipe (σ.set i o) vs = L2.wipe σ vs
  | v :: vs, h => by
    show (L2.wipe (σ.set i o) vs).set v none = (L2.wipe σ vs).set v none
    by_cases e : i ∈ vs
    · rw [wipe_set e]
    · have e2 : i = v := by
        rcases List.mem_cons.mp h with z | z
        · exact z
        · exact absurd z e
      subst e2
      have e3 : ∀ (σ : L2.St) (vs : List Nat), i ∉ vs → L2.wipe (σ.set i o) vs = (L2.wipe σ vs).set i o := by
        intro σ vs
        induction vs with
        | nil => intro _; rfl
        | cons w ws ih =>
          intro hn
          show (L2.wipe (σ.set i o) ws).set w none = ((L2.wipe σ ws).set w none).set i o
          rw [ih (fun z => hn (List.mem_cons_of_mem _ z)), List.set_comm _ _ (fun z => hn (by rw [z]; exact List.mem_cons_self))]
      rw [e3 σ vs e, List.set_set]
/-- a target that stores in the block's own slots alone -/
structure GC (ca : Cl → Addr) (X : Cx) (vs : List Nat) (tg : Expr) (g : DG) : Prop where
  run : ∀ d v Γ M Q σ G H, g d Γ M Q → SlOk X.K ca G σ Γ → MemOk X.K ca G H M → Rep X.K ca G v d → WG X tg v σ H fun σ2 H2 => L2.wipe σ2 vs = L2.wipe σ vs ∧ PostS X.K ca G H M Q σ2 H2
structure GCs (ca : Cl → Addr) (X : Cx) (vs : List Nat) (ts : List Expr) (g : DGs) : Prop where
  run : ∀ d v Γ M Q σ G H, g d Γ M Q → SlOk X.K ca G σ Γ → MemOk X.K ca G H M → RepL X.K ca G v d → WGs X ts v σ H fun σ2 H2 => L2.wipe σ2 vs = L2.wipe σ vs ∧ PostS X.K ca G H M Q σ2 H2
theorem gc_name {i : Nat} {vs : List Nat} (hN : X.N.Nodup) (hi : X.N[i]? = some x) (hx : L2.Loc X.env.scope x) (hf : X.fn x = true ∨ X.env.scope.names.lookup x = some .local) (hv : i ∈ vs) : GC ca X vs (.Name x pos) (aName i) := ⟨fun d v Γ M Q σ G H h so m r =>
  wg_of (L2.pg_name hN hi hx hf) ⟨wipe_set hv, G, _, M, .refl, m, so.set i r, h⟩⟩
theorem gcs_nil {vs : List Nat} : GCs ca X vs [] aNil := ⟨fun d v Γ M Q σ G H h so m r => by
  obtain ⟨e, h⟩ := h
  subst e
  cases r
  exact wgs_of L2.pgs_nil ⟨rfl, rfl, G, Γ, M, .refl, m, so, h⟩⟩
theorem gcs_cons {vs : List Nat} {g : DG} {gr : DGs} (h1 : GC ca X vs e g) (h2 : GCs ca X vs es gr) (hs : (assignEach (e :: es) X.env).map (·.2) = assign e X.env :: (assignEach es X.env).map (·.2)) : GCs ca X vs (e :: es) (aCons g gr) := ⟨fun d v Γ M Q σ G H h so m r => by
  cases r with
  | nil => exact h.elim
  | cons r rr =>
    refine wgs_of (L2.pgs_cons pg_wg pgs_wgs hs) ⟨_, _, rfl, ?_⟩
    refine wg_mono (h1.run _ _ Γ M _ σ G H h so m r) fun σ1 H1 ⟨w1, G1, Γ1, M1, f1, m1, so1, q1⟩ => ?_
    exact wgs_mono (h2.run _ _ Γ1 M1 _ σ1 G1 H1 q1 so1 m1 (rr.mono f1.g)) fun σ2 H2 ⟨w2, h3⟩ => ⟨w2.trans w1, PostS.to f1 h3 fun _ _ q => q⟩⟩
theorem gc_tup {vs : List Nat} {k : Nat} {gr : DGs} {n : Nat} (hc : X.calm = true) (h : GCs ca X vs es gr) (hn : (assignEach es X.env).length = n) (hst : (assignEach es X.env).findIdx? (·.1) = none) : GC ca X vs (.Tuple es k pos) (aTup n gr) := ⟨fun d v Γ M Q σ G H hh so m r => by
  refine wg_of (L2.pg_tup hc pgs_wgs hn hst) ?_
  cases r with
  | tup s l =>
    obtain ⟨hl, hh⟩ := hh
    exact ⟨_, _, rfl, Same.sqt m.sub s, by rw [l.length]; exact hl, h.run _ _ Γ M Q σ G H hh so m l⟩
  | _ => exact hh.elim⟩
theorem gc_lc {K : PySem.W.Frag} {Y : Type} {tg : Expr} {vs : List Nat} {g : DG} {XB : Y → Cx} (hK : ∀ y, (XB y).K = K) (h : ∀ y, GC ca (XB y) vs tg g) :
    ∃ tg' : L2.TG, (∀ y, PG (XB y) tg tg') ∧ (∀ v σ H R R', (∀ b H', R b H' → R' b H') → tg' v σ H R → tg' v σ H R') ∧
      ∀ d v Γ M Q σ G H, g d Γ M Q → SlOk K ca G σ Γ → MemOk K ca G H M → Rep K ca G v d → tg' v σ H fun σ2 H2 => L2.wipe σ2 vs = L2.wipe σ vs ∧ PostS K ca G H M Q σ2 H2 := by
  refine ⟨fun v σ H R => ∃ d Γ M Q G, g d Γ M Q ∧ SlOk K ca G σ Γ ∧ MemOk K ca G H M ∧ Rep K ca G v d ∧ ∀ b H', (L2.wipe b vs = L2.wipe σ vs ∧ PostS K ca G H M Q b H') → R b H', fun y => ?_, fun v σ H R R' k ⟨e, Γ, M, Q, G, a, b, c, r, d⟩ => ⟨e, Γ, M, Q, G, a, b, c, r, fun b H' z => k _ _ (d b H' z)⟩, fun d v Γ M Q σ G H a b c r => ⟨d, Γ, M, Q, G, a, b, c, r, fun _ _ z => z⟩⟩
  refine ⟨fun pins s σ H v u R I rv hw => ?_⟩
  obtain ⟨e, Γ, M, Q, G, a, b, c, r, d⟩ := hw
  refine wg_mono ((h y).run e v Γ M Q σ G H a (by rw [hK y]; exact b) (by rw [hK y]; exact c) (by rw [hK y]; exact r)) (fun b H' z => d b H' ?_) pins s u I rv
  rw [hK y] at z
  exact z
/-- the list D, under way: acc stands there -/
structure Way (K : PySem.W.Frag) (ca : Cl → Addr) (G1 H1 : Hp) (M1 : Mem) (A0 : Addr) (G H : Hp) (M : Mem) (acc : List V) (ds : List D) : Prop where
  f : Fr G1 H1 M1 G H M
  m : MemOk K ca G H M
  g0 : G A0 = none
  m0 : M A0 = none
  at_ : H A0 = some (.lst acc)
  r : RepL K ca G acc ds
theorem Way.step {K : PySem.W.Frag} {G1 H1 G H G' H' : Hp} {M1 M M' : Mem} {A0 : Addr} {acc : List V} {ds : List D} (w : Way K ca G1 H1 M1 A0 G H M acc ds) (f : Fr G H M G' H' M') (m : MemOk K ca G' H' M') : Way K ca G1 H1 M1 A0 G' H' M' acc ds := by
  refine ⟨w.f.trans f, m, f.out _ _ w.m0 w.at_ w.g0, ?_, f.keep _ _ w.m0 w.at_, w.r.mono f.g⟩
  cases q : M' A0 with
  | none => rfl
  | some o =>
    rcases f.new A0 o q with ⟨u, e⟩ | e
    · rw [w.m0] at e; cases e
    · rw [w.at_] at e; cases e
theorem Way.push {K : PySem.W.Frag} {G1 H1 G H : Hp} {M1 M : Mem} {A0 : Addr} {acc : List V} {ds : List D} {y : V} {d : D} (w : Way K ca G1 H1 M1 A0 G H M acc ds) (h : H1 A0 = none) (r : Rep K ca G y d) : Way K ca G1 H1 M1 A0 G (upd H A0 (.lst (acc ++ [y]))) M (acc ++ [y]) (ds ++ [d]) :=
  ⟨w.f.at_ h, w.m.at_ w.g0 w.m0, w.g0, w.m0, L2.upd_same, w.r.append (.cons r .nil)⟩
theorem Way.start {K : PySem.W.Frag} {G1 H1 : Hp} {M1 : Mem} {A0 : Addr} (m : MemOk K ca G1 H1 M1) (h : H1 A0 = none) : Way K ca G1 H1 M1 A0 G1 (upd H1 A0 (.lst [])) M1 [] [] :=
  ⟨Fr.refl.at_ h, m.at_ (m.gnone h) (m.no_ h), m.gnone h, m.no_ h, L2.upd_same, .nil⟩
theorem Way.fin {K : PySem.W.Frag} {G1 H1 G H : Hp} {M1 M : Mem} {A0 : Addr} {acc : List V} {ds : List D} {Q : D → Mem → Prop} (w : Way K ca G1 H1 M1 A0 G H M acc ds) (h : H1 A0 = none) (q : Q (.lst ds) M) : PostE K ca G1 H1 M1 Q (.ref A0) H := by
  have sG : Same G (upd G A0 (.lst acc)) := fun b u e => by rw [L2.upd_ne (L2.ne_of_none e w.g0)]; exact e
  refine ⟨upd G A0 (.lst acc), .lst ds, M, ⟨w.f.g.trans sG, w.f.keep, fun a o hm e g => ?_, w.f.new⟩, w.m.froze w.g0 w.m0 w.at_, .lst L2.upd_same (w.r.mono sG), q⟩
  rw [L2.upd_ne (L2.ne_of_none e h)]
  exact w.f.out a o hm e g
theorem wipe_wipe (σ : L2.St) (vs : List Nat) : L2.wipe (L2.wipe σ vs) vs = L2.wipe σ vs := by
  have key : ∀ (ws : List Nat) (σ : L2.St), (∀ w ∈ ws, w ∈ vs) → L2.wipe (L2.wipe σ ws) vs = L2.wipe σ vs := by
    intro ws
    induction ws with
    | nil => intro σ _; rfl
    | cons w ws ih =>
      intro σ hw
      show L2.wipe ((L2.wipe σ ws).set w none) vs = L2.wipe σ vs
      rw [wipe_set (hw w List.mem_cons_self), ih σ fun z hz => hw z (List.mem_cons_of_mem _ hz)]
  exact key vs σ fun _ h => h
theorem lc_sound {K : PySem.W.Frag} {G1 H1 : Hp} {M1 : Mem} {ds : List D} {J : L2.It} {g : DG} {tt : DT} {ge : DE} {vs : List Nat} {Γ : Slots} {Q : D → Mem → Prop} {σ : L2.St} {tg' : L2.TG} {tt' : L2.TT} {te : L2.TE}
    (jok : JOk K ca G1 ds J) (so : SlOk K ca G1 σ Γ) (m1 : MemOk K ca G1 H1 M1)
    (hg1 : ∀ v σ H R R', (∀ b H', R b H' → R' b H') → tg' v σ H R → tg' v σ H R') (hg : ∀ d v Γ M Q σ G H, g d Γ M Q → SlOk K ca G σ Γ → MemOk K ca G H M → Rep K ca G v d → tg' v σ H fun σ2 H2 => L2.wipe σ2 vs = L2.wipe σ vs ∧ PostS K ca G H M Q σ2 H2)
    (ht1 : ∀ σ H R R', (∀ b H', R b H' → R' b H') → tt' σ H R → tt' σ H R') (ht : ∀ Γ M Q σ G H, tt Γ M Q → SlOk K ca G σ Γ → MemOk K ca G H M → tt' σ H (PostB K ca G H M Q))
    (he1 : ∀ σ H R R', (∀ b H', R b H' → R' b H') → te σ H R → te σ H R') (he : ∀ Γ M Q σ G H, ge Γ M Q → SlOk K ca G σ Γ → MemOk K ca G H M → te σ H (PostE K ca G H M Q))
    (q : cmD g tt ge vs Γ ds [] M1 fun l M2 => Q (.lst l) M2) {R : VK} (hR : ∀ v H, PostE K ca G1 H1 M1 Q v H → R v H) :
    ∀ D0, H1 D0 = none → ∃ W : Nat → Nat → Hp → Prop, (∃ m, W 0 m (upd H1 D0 (.lst []))) ∧ ∀ i m H, W i m H →
      (J.stop i H ∧ R (.ref D0) H) ∨ (J.go i H ∧ ∃ Nx : Hp → Prop, (∀ H', Nx H' → ∃ m', m' < m ∧ W (i + 1) m' H') ∧ ∀ x H', J.yld i H x H' → tg' x (L2.wipe σ vs) H' fun σ2 H2 => L2.wipe σ2 vs = L2.wipe σ vs ∧ tt' σ2 H2 fun b H3 =>
        if b = true then te σ2 H3 fun y H4 => ∃ acc, H4 D0 = some (.lst acc) ∧ acc.length < sizeLine ∧ Nx (upd H4 D0 (.lst (acc ++ [y]))) else Nx H3) := by
  intro D0 hD
  refine ⟨fun i k H => k = ds.length - i ∧ i ≤ ds.length ∧ ∃ G' M' acc da, Way K ca G1 H1 M1 D0 G' H M' acc da ∧ cmD g tt ge vs Γ (ds.drop i) da M' fun l M2 => Q (.lst l) M2, ⟨ds.length, by simp, Nat.zero_le _, G1, M1, [], [], .start m1 hD, q⟩, ?_⟩
  rintro i k H ⟨rfl, hi, G2, M2, acc, da, w, q2⟩
  obtain ⟨go, stop⟩ := jok i G2 H M2 w.f.g w.m
  by_cases hlt : i < ds.length
  · obtain ⟨g1, g2⟩ := go hlt
    refine .inr ⟨g1, fun H' => ∃ G' M' acc da, Way K ca G1 H1 M1 D0 G' H' M' acc da ∧ cmD g tt ge vs Γ (ds.drop (i + 1)) da M' fun l M2 => Q (.lst l) M2, fun H' hN => ⟨ds.length - (i + 1), by omega, rfl, hlt, hN⟩, fun x H3 hy => ?_⟩
    obtain ⟨d, G3, ed, f3, m3, r3⟩ := g2 x H3 hy
    have ed2 : ds.drop i = d :: ds.drop (i + 1) := by
      rw [List.drop_eq_getElem_cons hlt, (List.getElem?_eq_some_iff.mp ed).2]
    rw [ed2] at q2
    have w3 := w.step f3 m3
    refine hg1 _ _ _ _ _ (fun σ5 H5 z => ?_) (hg d x _ M2 _ _ G3 H3 q2 ((so.mono w3.f.g).wipe vs) m3 r3)
    obtain ⟨ww, G5, Γ5, M5, f5, m5, so5, _, q5⟩ := z
    refine ⟨ww.trans (wipe_wipe σ vs), ?_⟩
    have w5 := w3.step f5 m5
    refine ht1 _ _ _ _ (fun b H6 z => ?_) (ht Γ5 M5 _ _ G5 H5 q5 so5 m5)
    obtain ⟨G6, M6, f6, m6, q6⟩ := z
    have w6 := w5.step f6 m6
    cases b with
    | false => exact L2.iteF ⟨G6, M6, acc, da, w6, q6⟩
    | true =>
      refine L2.iteT (he1 _ _ _ _ (fun y H7 z => ?_) (he Γ5 M6 _ _ G6 H6 q6 (so5.mono f6.g) m6))
      obtain ⟨G7, dy, M7, f7, m7, r7, hl, q7⟩ := z
      have w7 := w6.step f7 m7
      exact ⟨acc, w7.at_, lim_lt (by rw [w7.r.length]; exact hl), G7, M7, _, _, w7.push hD r7, q7⟩
  · have ei : ds.drop i = [] := List.drop_eq_nil_of_le (by omega)
    rw [ei] at q2
    exact .inl ⟨stop (by omega), hR _ _ (w.fin hD q2)⟩
theorem wi_mono {σ : L2.St} {H : Hp} {R R' : L2.It → Hp → Prop} (h : WI X tg iter σ H R) (k : ∀ J H, R J H → R' J H) : WI X tg iter σ H R' := fun pins s I => L2.thn (h pins s I) fun v s1 hw => L2.thn hw fun itv s2 ⟨it, fp, tn, J, H1, e1, I1, T, tn0, hfp, q⟩ => ⟨it, fp, tn, J, H1, e1, I1, T, tn0, hfp, k _ _ q⟩
theorem tlc_of {elt : Expr} {ifs : List Expr} {scope : Scope} {own : List (Str × Nat)} {g : DG} {tt : DT} {ge : DE} {gi : DI} (hi : GI ca X tg iter gi)
    (hg : ∀ (s : Shared) (H : Hp) (C : Addr) (cl : List (Str × Addr)) (fp : List Addr), GC ca (X.blk s H scope (compEnvC scope cl C X.env) fp) (own.map (·.2)) tg g)
    (ht : ∀ (s : Shared) (H : Hp) (C : Addr) (cl : List (Str × Addr)) (fp : List Addr), GTs ca (X.blk s H scope (compEnvC scope cl C X.env) fp) ifs tt)
    (he : ∀ (s : Shared) (H : Hp) (C : Addr) (cl : List (Str × Addr)) (fp : List Addr), GE ca (X.blk s H scope (compEnvC scope cl C X.env) fp) elt ge) :
    ∃ (tg' : L2.TG) (tt' : L2.TT) (te : L2.TE), (∀ (s : Shared) (H : Hp) (C : Addr) (cl : List (Str × Addr)) (fp : List Addr), PG (X.blk s H scope (compEnvC scope cl C X.env) fp) tg tg') ∧ (∀ (s : Shared) (H : Hp) (C : Addr) (cl : List (Str × Addr)) (fp : List Addr), L2.PTs (X.blk s H scope (compEnvC scope cl C X.env) fp) ifs tt') ∧
      (∀ (s : Shared) (H : Hp) (C : Addr) (cl : List (Str × Addr)) (fp : List Addr), PE (X.blk s H scope (compEnvC scope cl C X.env) fp) elt te) ∧
      ∀ Γ M Q σ G H, gComp gi g tt ge (own.map (·.2)) Γ M Q → SlOk X.K ca G σ Γ → MemOk X.K ca G H M → ∀ R : VK, (∀ v H', PostE X.K ca G H M Q v H' → R v H') → L2.tLc (WI X tg iter) tg' tt' te (own.map (·.2)) σ H R := by
  obtain ⟨tg', a1, a2, a3⟩ := gc_lc (K := X.K) (Y := Shared × Hp × Addr × List (Str × Addr) × List Addr) (XB := fun y => X.blk y.1 y.2.1 scope (compEnvC scope y.2.2.2.1 y.2.2.1 X.env) y.2.2.2.2) (fun _ => rfl) (fun y => hg y.1 y.2.1 y.2.2.1 y.2.2.2.1 y.2.2.2.2)
  obtain ⟨tt', b1, b2, b3⟩ := tc_lc (K := X.K) (Y := Shared × Hp × Addr × List (Str × Addr) × List Addr) (XB := fun y => X.blk y.1 y.2.1 scope (compEnvC scope y.2.2.2.1 y.2.2.1 X.env) y.2.2.2.2) (fun _ => rfl) (fun y => ht y.1 y.2.1 y.2.2.1 y.2.2.2.1 y.2.2.2.2)
  obtain ⟨te, c1, c2, c3⟩ := ec_lc (K := X.K) (Y := Shared × Hp × Addr × List (Str × Addr) × List Addr) (XB := fun y => X.blk y.1 y.2.1 scope (compEnvC scope y.2.2.2.1 y.2.2.1 X.env) y.2.2.2.2) (fun _ => rfl) (fun y => he y.1 y.2.1 y.2.2.1 y.2.2.2.1 y.2.2.2.2)
  refine ⟨tg', tt', te, fun s H C cl fp => a1 (s, H, C, cl, fp), fun s H C cl fp => b1 (s, H, C, cl, fp), fun s H C cl fp => c1 (s, H, C, cl, fp), fun Γ M Q σ G H h so m R hR => ?_⟩
  refine wi_mono (hi.run Γ M _ σ G H h so m) fun J H1 ⟨G1, ds, M1, f1, m1, jok, q1⟩ => ?_
  exact lc_sound jok (so.mono f1.g) m1 a2 a3 b2 b3 c2 c3 q1 fun v H' z => hR v H' (PostE.to f1 z fun _ _ q => q)
theorem ge_comp {elt : Expr} {ifs : List Expr} {scope : Scope} {own : List (Str × Nat)} {g : DG} {tt : DT} {ge : DE} {gi : DI} (hc : X.calm = true) (hN : X.N.Nodup) (hi : GI ca X tg iter gi) (ok : L2.BlkOk X.N X.env.scope scope own)
    (hg : ∀ (s : Shared) (H : Hp) (C : Addr) (cl : List (Str × Addr)) (fp : List Addr), GC ca (X.blk s H scope (compEnvC scope cl C X.env) fp) (own.map (·.2)) tg g)
    (ht : ∀ (s : Shared) (H : Hp) (C : Addr) (cl : List (Str × Addr)) (fp : List Addr), GTs ca (X.blk s H scope (compEnvC scope cl C X.env) fp) ifs tt)
    (he : ∀ (s : Shared) (H : Hp) (C : Addr) (cl : List (Str × Addr)) (fp : List Addr), GE ca (X.blk s H scope (compEnvC scope cl C X.env) fp) elt ge) (hs : ∀ x, foldedSetIterable iter X.env x = pure x) :
    GE ca X (.ListComp elt [⟨tg, iter, ifs, 0⟩] scope pos) (gComp gi g tt ge (own.map (·.2))) := ⟨fun Γ M Q σ G H h so m => by
  obtain ⟨tg', tt', te, h1, h2, h3, h4⟩ := tlc_of hi hg ht he
  exact we_of (L2.pe_lc hc hN pi_wi ok h1 h2 h3 hs) (h4 Γ M Q σ G H h so m _ fun _ _ z => z)⟩
theorem gs_comp {i : Nat} {y : Str} {py spos : Pos} {elt : Expr} {ifs : List Expr} {scope : Scope} {own : List (Str × Nat)} {g : DG} {tt : DT} {ge : DE} {gi : DI} (hc : X.calm = true) (hN : X.N.Nodup) (hy : X.N[i]? = some y) (hyl : X.env.scope.names.lookup y = some .local)
    (hsw : swapsWith (.ListComp elt [⟨tg, iter, ifs, 0⟩] scope pos) (some (.Name y py)) spos.line X.env = pure true) (hi : GI ca X tg iter gi) (ok : L2.BlkOk X.N X.env.scope scope own)
    (hg : ∀ (s : Shared) (H : Hp) (C : Addr) (cl : List (Str × Addr)) (fp : List Addr), GC ca (X.blk s H scope (compEnvC scope cl C X.env) fp) (own.map (·.2)) tg g)
    (ht : ∀ (s : Shared) (H : Hp) (C : Addr) (cl : List (Str × Addr)) (fp : List Addr), GTs ca (X.blk s H scope (compEnvC scope cl C X.env) fp) ifs tt)
    (he : ∀ (s : Shared) (H : Hp) (C : Addr) (cl : List (Str × Addr)) (fp : List Addr), GE ca (X.blk s H scope (compEnvC scope cl C X.env) fp) elt ge) (hs : ∀ x, foldedSetIterable iter X.env x = pure x) :
    GS ca X (.Assign [.Name y py] (.ListComp elt [⟨tg, iter, ifs, 0⟩] scope pos) spos) (sAsg (gComp gi g tt ge (own.map (·.2))) (aName i)) := ⟨fun E Γ M σ G H h so m => by
  obtain ⟨tg', tt', te, h1, h2, h3, h4⟩ := tlc_of hi hg ht he
  refine ws_of (L2.ps_setLc hc hN hy hyl hsw pi_wi ok h1 h2 h3 hs) ?_
  exact h4 Γ M _ σ G H h so m _ fun v H' ⟨G1, d1, M1, f1, m1, r1, q1⟩ => ⟨G1, _, M1, f1, m1, (so.mono f1.g).set i r1, q1⟩⟩
/-- .. with the block's own slots told -/
theorem ge_compV {elt : Expr} {ifs : List Expr} {scope : Scope} {own : List (Str × Nat)} {vs : List Nat} {g : DG} {tt : DT} {ge : DE} {gi : DI} (hc : X.calm = true) (hN : X.N.Nodup) (hi : GI ca X tg iter gi) (ok : L2.BlkOk X.N X.env.scope scope own) (hv : own.map (·.2) = vs)
    (hg : ∀ (s : Shared) (H : Hp) (C : Addr) (cl : List (Str × Addr)) (fp : List Addr), GC ca (X.blk s H scope (compEnvC scope cl C X.env) fp) vs tg g)
    (ht : ∀ (s : Shared) (H : Hp) (C : Addr) (cl : List (Str × Addr)) (fp : List Addr), GTs ca (X.blk s H scope (compEnvC scope cl C X.env) fp) ifs tt)
    (he : ∀ (s : Shared) (H : Hp) (C : Addr) (cl : List (Str × Addr)) (fp : List Addr), GE ca (X.blk s H scope (compEnvC scope cl C X.env) fp) elt ge) (hs : ∀ x, foldedSetIterable iter X.env x = pure x) :
    GE ca X (.ListComp elt [⟨tg, iter, ifs, 0⟩] scope pos) (gComp gi g tt ge vs) := by
  subst hv
  exact ge_comp hc hN hi ok hg ht he hs
theorem gs_compV {i : Nat} {y : Str} {py spos : Pos} {elt : Expr} {ifs : List Expr} {scope : Scope} {own : List (Str × Nat)} {vs : List Nat} {g : DG} {tt : DT} {ge : DE} {gi : DI} (hc : X.calm = true) (hN : X.N.Nodup) (hy : X.N[i]? = some y) (hyl : X.env.scope.names.lookup y = some .local)
    (hsw : swapsWith (.ListComp elt [⟨tg, iter, ifs, 0⟩] scope pos) (some (.Name y py)) spos.line X.env = pure true) (hi : GI ca X tg iter gi) (ok : L2.BlkOk X.N X.env.scope scope own) (hv : own.map (·.2) = vs)
    (hg : ∀ (s : Shared) (H : Hp) (C : Addr) (cl : List (Str × Addr)) (fp : List Addr), GC ca (X.blk s H scope (compEnvC scope cl C X.env) fp) vs tg g)
    (ht : ∀ (s : Shared) (H : Hp) (C : Addr) (cl : List (Str × Addr)) (fp : List Addr), GTs ca (X.blk s H scope (compEnvC scope cl C X.env) fp) ifs tt)
    (he : ∀ (s : Shared) (H : Hp) (C : Addr) (cl : List (Str × Addr)) (fp : List Addr), GE ca (X.blk s H scope (compEnvC scope cl C X.env) fp) elt ge) (hs : ∀ x, foldedSetIterable iter X.env x = pure x) :
    GS ca X (.Assign [.Name y py] (.ListComp elt [⟨tg, iter, ifs, 0⟩] scope pos) spos) (sAsg (gComp gi g tt ge vs) (aName i)) := by
  subst hv
  exact gs_comp hc hN hy hyl hsw hi ok hg ht he hs
end
end G
set_option Elab.async false
set_option linter.all false
set_option maxRecDepth 100000
set_option maxHeartbeats 2000000
namespace G
open PySem PySem.Spec PyProof.Rows
open L2 (V Hp HO upd SqL SqT Same Cx Inv PE PT PA PS PSs PG PI RelV Vals VK Ends)
section
variable {ca : Cl → Addr} {X : Cx} {e a b c o tg iter tg1 iter1 : Expr} {es : List Expr} {ge ga gb gc go : DE} {gs : DA} {pos p : Pos} {x f : Str} {st : Stmt} {sts : List Stmt} {s1 s2 : DS} {t : DT}
theorem ic_lc {K : PySem.W.Frag} {Y : Type} {tg iter : Expr} {g : DI} {XB : Y → Cx} (hK : ∀ y, (XB y).K = K) (h : ∀ y, GI ca (XB y) tg iter g) :
    ∃ wi : L2.TI, (∀ y, PI (XB y) tg iter wi) ∧ (∀ σ H R R', (∀ J H', R J H' → R' J H') → wi σ H R → wi σ H R') ∧
      ∀ Γ M Q σ G H, g Γ M Q → SlOk K ca G σ Γ → MemOk K ca G H M → wi σ H fun J H1 => ∃ G1 ds M1, Fr G H M G1 H1 M1 ∧ MemOk K ca G1 H1 M1 ∧ JOk K ca G1 ds J ∧ Q ds M1 := by
  refine ⟨fun σ H R => ∃ Γ M Q G, g Γ M Q ∧ SlOk K ca G σ Γ ∧ MemOk K ca G H M ∧ ∀ J H1, (∃ G1 ds M1, Fr G H M G1 H1 M1 ∧ MemOk K ca G1 H1 M1 ∧ JOk K ca G1 ds J ∧ Q ds M1) → R J H1, fun y => ?_, fun σ H R R' k ⟨Γ, M, Q, G, a, b, c, d⟩ => ⟨Γ, M, Q, G, a, b, c, fun b H' z => k _ _ (d b H' z)⟩, fun Γ M Q σ G H a b c => ⟨Γ, M, Q, G, a, b, c, fun _ _ z => z⟩⟩
  refine ⟨fun pins s σ H R I hw => ?_⟩
  obtain ⟨Γ, M, Q, G, a, b, c, d⟩ := hw
  refine wi_mono ((h y).run Γ M Q σ G H a (by rw [hK y]; exact b) (by rw [hK y]; exact c)) (fun J H' z => d J H' ?_) pins s I
  rw [hK y] at z
  exact z
theorem yes_if {σ : L2.St} {H : Hp} {A B : Hp → Prop} (h : A H) : L2.tYes σ H fun b H3 => if b = true then A H3 else B H3 := by
  show (if true = true then A H else B H)
  rw [if_pos rfl]
  exact h
theorem lc2_sound {K : PySem.W.Frag} {G1 H1 : Hp} {M1 : Mem} {ds : List D} {J : L2.It} {g g1 : DG} {gi1 : DI} {ge : DE} {vs vs1 : List Nat} {Γ : Slots} {Q : D → Mem → Prop} {σ : L2.St} {tg' tg1' : L2.TG} {wi1 : L2.TI} {te : L2.TE}
    (jok : JOk K ca G1 ds J) (so : SlOk K ca G1 σ Γ) (m1 : MemOk K ca G1 H1 M1)
    (hg1 : ∀ v σ H R R', (∀ b H', R b H' → R' b H') → tg' v σ H R → tg' v σ H R') (hg : ∀ d v Γ M Q σ G H, g d Γ M Q → SlOk K ca G σ Γ → MemOk K ca G H M → Rep K ca G v d → tg' v σ H fun σ2 H2 => L2.wipe σ2 vs = L2.wipe σ vs ∧ PostS K ca G H M Q σ2 H2)
    (ha1 : ∀ v σ H R R', (∀ b H', R b H' → R' b H') → tg1' v σ H R → tg1' v σ H R') (ha : ∀ d v Γ M Q σ G H, g1 d Γ M Q → SlOk K ca G σ Γ → MemOk K ca G H M → Rep K ca G v d → tg1' v σ H fun σ2 H2 => L2.wipe σ2 vs1 = L2.wipe σ vs1 ∧ PostS K ca G H M Q σ2 H2)
    (hi1 : ∀ σ H R R', (∀ J H', R J H' → R' J H') → wi1 σ H R → wi1 σ H R') (hi : ∀ Γ M Q σ G H, gi1 Γ M Q → SlOk K ca G σ Γ → MemOk K ca G H M → wi1 σ H fun J H1 => ∃ G1 ds M1, Fr G H M G1 H1 M1 ∧ MemOk K ca G1 H1 M1 ∧ JOk K ca G1 ds J ∧ Q ds M1)
    (he1 : ∀ σ H R R', (∀ b H', R b H' → R' b H') → te σ H R → te σ H R') (he : ∀ Γ M Q σ G H, ge Γ M Q → SlOk K ca G σ Γ → MemOk K ca G H M → te σ H (PostE K ca G H M Q))
    (q : cm2 g gi1 g1 ge vs vs1 Γ ds [] M1 fun l M2 => Q (.lst l) M2) {R : VK} (hR : ∀ v H, PostE K ca G1 H1 M1 Q v H → R v H) :
    ∀ D0, H1 D0 = none → ∃ W : Nat → Nat → Hp → Prop, (∃ m, W 0 m (upd H1 D0 (.lst []))) ∧ ∀ i m H, W i m H →
      (J.stop i H ∧ R (.ref D0) H) ∨ (J.go i H ∧ ∃ Nx : Hp → Prop, (∀ H', Nx H' → ∃ m', m' < m ∧ W (i + 1) m' H') ∧ ∀ x H', J.yld i H x H' → tg' x (L2.wipe σ vs) H' fun σ2 H2 => L2.wipe σ2 vs = L2.wipe σ vs ∧ L2.tYes σ2 H2 fun b H3 =>
        if b = true then wi1 σ2 H3 fun J1 H4 => ∃ W1 : Nat → Nat → Hp → Prop, (∃ m, W1 0 m H4) ∧ ∀ j k H, W1 j k H →
          (J1.stop j H ∧ Nx H) ∨ (J1.go j H ∧ ∃ Nx1 : Hp → Prop, (∀ H', Nx1 H' → ∃ k', k' < k ∧ W1 (j + 1) k' H') ∧ ∀ x H', J1.yld j H x H' → tg1' x (L2.wipe σ2 vs1) H' fun σ3 H5 => L2.wipe σ3 vs1 = L2.wipe σ2 vs1 ∧ L2.tYes σ3 H5 fun b H6 =>
            if b = true then te σ3 H6 fun y H7 => ∃ acc, H7 D0 = some (.lst acc) ∧ acc.length < sizeLine ∧ Nx1 (upd H7 D0 (.lst (acc ++ [y]))) else Nx1 H6)
        else Nx H3) := by
  intro D0 hD
  refine ⟨fun i k H => k = ds.length - i ∧ i ≤ ds.length ∧ ∃ G' M' acc da, Way K ca G1 H1 M1 D0 G' H M' acc da ∧ cm2 g gi1 g1 ge vs vs1 Γ (ds.drop i) da M' fun l M2 => Q (.lst l) M2, ⟨ds.length, by simp, Nat.zero_le _, G1, M1, [], [], .start m1 hD, q⟩, ?_⟩
  rintro i k H ⟨rfl, hi0, G2, M2, acc, da, w, q2⟩
  obtain ⟨go, stop⟩ := jok i G2 H M2 w.f.g w.m
  by_cases hlt : i < ds.length
  · obtain ⟨p1, p2⟩ := go hlt
    refine .inr ⟨p1, fun H' => ∃ G' M' acc da, Way K ca G1 H1 M1 D0 G' H' M' acc da ∧ cm2 g gi1 g1 ge vs vs1 Γ (ds.drop (i + 1)) da M' fun l M2 => Q (.lst l) M2, fun H' hN => ⟨ds.length - (i + 1), by omega, rfl, hlt, hN⟩, fun x H3 hy => ?_⟩
    obtain ⟨d, G3, ed, f3, m3, r3⟩ := p2 x H3 hy
    have ed2 : ds.drop i = d :: ds.drop (i + 1) := by
      rw [List.drop_eq_getElem_cons hlt, (List.getElem?_eq_some_iff.mp ed).2]
    rw [ed2] at q2
    have w3 := w.step f3 m3
    refine hg1 _ _ _ _ _ (fun σ5 H5 z => ?_) (hg d x _ M2 _ _ G3 H3 q2 ((so.mono w3.f.g).wipe vs) m3 r3)
    obtain ⟨ww, G5, Γ5, M5, f5, m5, so5, _, q5⟩ := z
    refine ⟨ww.trans (wipe_wipe σ vs), ?_⟩
    have w5 := w3.step f5 m5
    refine yes_if ?_
    refine hi1 _ _ _ _ (fun J1 H6 z => ?_) (hi Γ5 M5 _ σ5 G5 H5 q5 so5 m5)
    obtain ⟨G6, ds1, M6, f6, m6, jok1, q6⟩ := z
    have w6 := w5.step f6 m6
    refine ⟨fun j k H => k = ds1.length - j ∧ j ≤ ds1.length ∧ ∃ G' M' acc da, Way K ca G1 H1 M1 D0 G' H M' acc da ∧ Same G6 G' ∧ cmI g1 ge vs1 Γ5 (ds1.drop j) da M' fun acc' M3 => cm2 g gi1 g1 ge vs vs1 Γ (ds.drop (i + 1)) acc' M3 fun l M2 => Q (.lst l) M2, ⟨ds1.length, by simp, Nat.zero_le _, G6, M6, acc, da, w6, Same.refl _, q6⟩, ?_⟩
    rintro j k H7 ⟨rfl, hj, G7, M7, acc7, da7, w7, s7, q7⟩
    obtain ⟨go1, stop1⟩ := jok1 j G7 H7 M7 s7 w7.m
    by_cases hlt1 : j < ds1.length
    · obtain ⟨r1, r2⟩ := go1 hlt1
      refine .inr ⟨r1, fun H' => ∃ G' M' acc da, Way K ca G1 H1 M1 D0 G' H' M' acc da ∧ Same G6 G' ∧ cmI g1 ge vs1 Γ5 (ds1.drop (j + 1)) da M' fun acc' M3 => cm2 g gi1 g1 ge vs vs1 Γ (ds.drop (i + 1)) acc' M3 fun l M2 => Q (.lst l) M2, fun H' hN => ⟨ds1.length - (j + 1), by omega, rfl, hlt1, hN⟩, fun x1 H8 hy1 => ?_⟩
      obtain ⟨d1, G8, ed1, f8, m8, r8⟩ := r2 x1 H8 hy1
      have ed3 : ds1.drop j = d1 :: ds1.drop (j + 1) := by
        rw [List.drop_eq_getElem_cons hlt1, (List.getElem?_eq_some_iff.mp ed1).2]
      rw [ed3] at q7
      have w8 := w7.step f8 m8
      refine ha1 _ _ _ _ _ (fun σ9 H9 z => ?_) (ha d1 x1 _ M7 _ _ G8 H8 q7 ((so5.mono (f6.g.trans (s7.trans f8.g))).wipe vs1) m8 r8)
      obtain ⟨ww1, G9, Γ9, M9, f9, m9, so9, _, q9⟩ := z
      refine ⟨ww1.trans (wipe_wipe σ5 vs1), ?_⟩
      have w9 := w8.step f9 m9
      refine yes_if ?_
      refine he1 _ _ _ _ (fun y H10 z => ?_) (he Γ9 M9 _ σ9 G9 H9 q9 so9 m9)
      obtain ⟨G10, dy, M10, f10, m10, r10, hl, q10⟩ := z
      have w10 := w9.step f10 m10
      exact ⟨acc7, w10.at_, lim_lt (by rw [w10.r.length]; exact hl), G10, M10, _, _, w10.push hD r10, s7.trans (f8.g.trans (f9.g.trans f10.g)), q10⟩
    · have ei : ds1.drop j = [] := List.drop_eq_nil_of_le (by omega)
      rw [ei] at q7
      exact .inl ⟨stop1 (by omega), G7, M7, acc7, da7, w7, q7⟩
  · have ei : ds.drop i = [] := List.drop_eq_nil_of_le (by omega)
    rw [ei] at q2
    exact .inl ⟨stop (by omega), hR _ _ (w.fin hD q2)⟩
theorem gs_comp2 {i : Nat} {y : Str} {py spos : Pos} {elt : Expr} {scope : Scope} {own : List (Str × Nat)} {vs1 : List Nat} {g g1 : DG} {ge : DE} {gi gi1 : DI} (hc : X.calm = true) (hN : X.N.Nodup) (hy : X.N[i]? = some y) (hyl : X.env.scope.names.lookup y = some .local)
    (hsw : swapsWith (.ListComp elt [⟨tg, iter, [], 0⟩, ⟨tg1, iter1, [], 0⟩] scope pos) (some (.Name y py)) spos.line X.env = pure true) (hi : GI ca X tg iter gi) (ok : L2.BlkOk X.N X.env.scope scope own) (hv : ∀ i ∈ vs1, i ∈ own.map (·.2))
    (hg : ∀ (s : Shared) (H : Hp) (C : Addr) (cl : List (Str × Addr)) (fp : List Addr), GC ca (X.blk s H scope (compEnvC scope cl C X.env) fp) (own.map (·.2)) tg g)
    (hi1 : ∀ (s : Shared) (H : Hp) (C : Addr) (cl : List (Str × Addr)) (fp : List Addr), GI ca (X.blk s H scope (compEnvC scope cl C X.env) fp) tg1 iter1 gi1)
    (hg1 : ∀ (s : Shared) (H : Hp) (C : Addr) (cl : List (Str × Addr)) (fp : List Addr), GC ca (X.blk s H scope (compEnvC scope cl C X.env) fp) vs1 tg1 g1)
    (he : ∀ (s : Shared) (H : Hp) (C : Addr) (cl : List (Str × Addr)) (fp : List Addr), GE ca (X.blk s H scope (compEnvC scope cl C X.env) fp) elt ge) (hs : ∀ x, foldedSetIterable iter X.env x = pure x) (hs1 : ∀ env x, foldedSetIterable iter1 env x = pure x) :
    GS ca X (.Assign [.Name y py] (.ListComp elt [⟨tg, iter, [], 0⟩, ⟨tg1, iter1, [], 0⟩] scope pos) spos) (sAsg (gComp2 gi g gi1 g1 ge (own.map (·.2)) vs1) (aName i)) := ⟨fun E Γ M σ G H h so m => by
  obtain ⟨tg', a1, a2, a3⟩ := gc_lc (K := X.K) (Y := Shared × Hp × Addr × List (Str × Addr) × List Addr) (XB := fun y => X.blk y.1 y.2.1 scope (compEnvC scope y.2.2.2.1 y.2.2.1 X.env) y.2.2.2.2) (fun _ => rfl) (fun y => hg y.1 y.2.1 y.2.2.1 y.2.2.2.1 y.2.2.2.2)
  obtain ⟨tg1', b1, b2, b3⟩ := gc_lc (K := X.K) (Y := Shared × Hp × Addr × List (Str × Addr) × List Addr) (XB := fun y => X.blk y.1 y.2.1 scope (compEnvC scope y.2.2.2.1 y.2.2.1 X.env) y.2.2.2.2) (fun _ => rfl) (fun y => hg1 y.1 y.2.1 y.2.2.1 y.2.2.2.1 y.2.2.2.2)
  obtain ⟨wi1, d1, d2, d3⟩ := ic_lc (K := X.K) (Y := Shared × Hp × Addr × List (Str × Addr) × List Addr) (XB := fun y => X.blk y.1 y.2.1 scope (compEnvC scope y.2.2.2.1 y.2.2.1 X.env) y.2.2.2.2) (fun _ => rfl) (fun y => hi1 y.1 y.2.1 y.2.2.1 y.2.2.2.1 y.2.2.2.2)
  obtain ⟨te, c1, c2, c3⟩ := ec_lc (K := X.K) (Y := Shared × Hp × Addr × List (Str × Addr) × List Addr) (XB := fun y => X.blk y.1 y.2.1 scope (compEnvC scope y.2.2.2.1 y.2.2.1 X.env) y.2.2.2.2) (fun _ => rfl) (fun y => he y.1 y.2.1 y.2.2.1 y.2.2.2.1 y.2.2.2.2)
  refine ws_of (L2.ps_setLc2 hc hN hy hyl hsw pi_wi ok hv (fun s H C cl fp => a1 (s, H, C, cl, fp)) (fun s H C cl fp => L2.pts_nil) (fun s H C cl fp => d1 (s, H, C, cl, fp)) (fun s H C cl fp => b1 (s, H, C, cl, fp)) (fun s H C cl fp => L2.pts_nil) (fun s H C cl fp => c1 (s, H, C, cl, fp)) hs hs1) ?_
  refine wi_mono (hi.run Γ M _ σ G H h so m) fun J H1 ⟨G1, ds, M1, f1, m1, jok, q1⟩ => ?_
  refine lc2_sound (Q := fun d M1 => aName i d Γ M1 E.nx) (R := fun x H1 => L2.gName i x σ H1 (endsOf X.K ca G H M E).nx) jok (so.mono f1.g) m1 a2 a3 b2 b3 d2 d3 c2 c3 q1 fun v H' z => ?_
  obtain ⟨G2, e2, M2, f2, m2, r2, q2⟩ := z
  exact ⟨G2, _, M2, f1.trans f2, m2, (so.mono (f1.g.trans f2.g)).set i r2, q2⟩⟩

theorem gs_comp2V {i : Nat} {y : Str} {py spos : Pos} {elt : Expr} {scope : Scope} {own : List (Str × Nat)} {vs vs1 : List Nat} {g g1 : DG} {ge : DE} {gi gi1 : DI} (hc : X.calm = true) (hN : X.N.Nodup) (hy : X.N[i]? = some y) (hyl : X.env.scope.names.lookup y = some .local)
    (hsw : swapsWith (.ListComp elt [⟨tg, iter, [], 0⟩, ⟨tg1, iter1, [], 0⟩] scope pos) (some (.Name y py)) spos.line X.env = pure true) (hi : GI ca X tg iter gi) (ok : L2.BlkOk X.N X.env.scope scope own) (hvs : own.map (·.2) = vs) (hv : ∀ i ∈ vs1, i ∈ vs)
    (hg : ∀ (s : Shared) (H : Hp) (C : Addr) (cl : List (Str × Addr)) (fp : List Addr), GC ca (X.blk s H scope (compEnvC scope cl C X.env) fp) vs tg g)
    (hi1 : ∀ (s : Shared) (H : Hp) (C : Addr) (cl : List (Str × Addr)) (fp : List Addr), GI ca (X.blk s H scope (compEnvC scope cl C X.env) fp) tg1 iter1 gi1)
    (hg1 : ∀ (s : Shared) (H : Hp) (C : Addr) (cl : List (Str × Addr)) (fp : List Addr), GC ca (X.blk s H scope (compEnvC scope cl C X.env) fp) vs1 tg1 g1)
    (he : ∀ (s : Shared) (H : Hp) (C : Addr) (cl : List (Str × Addr)) (fp : List Addr), GE ca (X.blk s H scope (compEnvC scope cl C X.env) fp) elt ge) (hs : ∀ x, foldedSetIterable iter X.env x = pure x) (hs1 : ∀ env x, foldedSetIterable iter1 env x = pure x) :
    GS ca X (.Assign [.Name y py] (.ListComp elt [⟨tg, iter, [], 0⟩, ⟨tg1, iter1, [], 0⟩] scope pos) spos) (sAsg (gComp2 gi g gi1 g1 ge vs vs1) (aName i)) := by
  subst hvs
  exact gs_comp2 hc hN hy hyl hsw hi ok hv hg hi1 hg1 he hs hs1

/-! ### a dict written with text keys -/
structure GPs (ca : Cl → Addr) (X : Cx) (pos : Pos) (keys : List (Option Expr)) (values : List Expr) (ks : List Str) (g : DA) : Prop where
  ex : ∃ trs : List (L2.TE × L2.TE), L2.PPs X pos keys values trs ∧ keys.length = ks.length ∧ values.length = ks.length ∧ keys.all (·.isSome) = true ∧ ∀ Γ M Q σ G H, g Γ M Q → SlOk X.K ca G σ Γ → MemOk X.K ca G H M → ∀ R : List (V × V) → Hp → Prop,
    (∀ ps H', (∃ G' ds M' vs, Fr G H M G' H' M' ∧ MemOk X.K ca G' H' M' ∧ RepL X.K ca G' vs ds ∧ ds.length = ks.length ∧ ps = (ks.zip vs).map (fun q => (V.str q.1, q.2)) ∧ Q ds M') → R ps H') → L2.tPairs trs σ H R
theorem gps_nil : GPs ca X pos [] [] [] gNil := ⟨[], L2.pps_nil, rfl, rfl, rfl, fun Γ M Q σ G H h so m R k => k _ _ ⟨G, [], M, [], .refl, m, .nil, rfl, rfl, h⟩⟩
theorem gps_cons {k : Str} {kp : Pos} {kj : Nat} {ks : List Str} {keys : List (Option Expr)} {values : List Expr} {v : Expr} {gv : DE} {gr : DA} (hv : GE ca X v gv) (hr : GPs ca X pos keys values ks gr) :
    GPs ca X pos (some (.Constant (.str k) kj kp) :: keys) (v :: values) (k :: ks) (gCons gv gr) := by
  obtain ⟨trs, h1, l1, l2, l3, h2⟩ := hr.ex
  refine ⟨(L2.tC (.str k), WE X v) :: trs, L2.pps_cons L2.pe_str pe_we h1, by rw [List.length_cons, List.length_cons, l1], by rw [List.length_cons, List.length_cons, l2], by rw [List.all_cons, l3] <;> rfl, fun Γ M Q σ G H h so m R kR => ?_⟩
  refine we_mono (hv.run Γ M _ σ G H h so m) fun w H1 ⟨G1, d1, M1, f1, m1, r1, q1⟩ => ?_
  refine h2 Γ M1 _ σ G1 H1 q1 (so.mono f1.g) m1 _ fun ps H2 ⟨G2, ds, M2, vs, f2, m2, r2, e1, e2, q2⟩ => ?_
  refine kR _ _ ⟨G2, d1 :: ds, M2, w :: vs, f1.trans f2, m2, .cons (r1.mono f2.g) r2, by rw [List.length_cons, List.length_cons, e1], ?_, q2⟩
  rw [e2]
  rfl
theorem merge_new : ∀ {more kvs : List (Key × V)}, (∀ q ∈ more, L2.valV kvs q.1 = none) → (more.map (·.1)).Nodup → L2.mergeK kvs more = kvs ++ more
  | [], kvs, _, _ => (List.append_nil kvs).symm
  | (k, v) :: r, kvs, h, nd => by
    show L2.mergeK (L2.putK kvs k v) r = _
    rw [L2.putK_new v (h (k, v) List.mem_cons_self)]
    have nd2 := List.nodup_cons.mp nd
    rw [merge_new (fun q hq => ?_) nd2.2, List.append_assoc]
    · rfl
    · rw [L2.valV_snoc _ _ _ _ (h (k, v) List.mem_cons_self), if_neg (fun (z : q.1 = k) => nd2.1 (List.mem_map.mpr ⟨q, hq, z⟩))]
      exact h q (List.mem_cons_of_mem _ hq)
theorem zip_repK {K : PySem.W.Frag} {G : Hp} : ∀ {ks : List Str} {vs : List V} {ds : List D}, RepL K ca G vs ds → RepK K ca G ((ks.map Sum.inr).zip vs) ((ks.map Sum.inr).zip ds)
  | [], _, _, _ => .nil
  | _ :: _, _, _, .nil => .nil
  | k :: ks, _, _, .cons r l => .cons r (zip_repK l)
theorem ge_dict {keys : List (Option Expr)} {values : List Expr} {ks : List Str} {g : DA} (h : GPs ca X pos keys values ks g) (h0 : ks ≠ []) (h15 : ks.length ≤ 15) (nd : ks.Nodup) : GE ca X (.Dict keys values pos) (gDict ks g) := ⟨fun Γ M Q σ G H hq so m => by
  obtain ⟨trs, h1, l1, l2, l3, h2⟩ := h.ex
  refine we_of (L2.pe_disp h1 l3 (by rw [l1, l2]) (fun z => h0 (List.eq_nil_of_length_eq_zero (by rw [← l1, z] <;> rfl))) (by rw [l1]; exact h15)) ?_
  intro p hp
  have hg := m.gnone hp
  have hM := m.no_ hp
  refine h2 Γ M _ σ G (upd H p (.dK [])) hq so (m.at_ hg hM) _ fun ps H2 ⟨G2, ds, M2, vs, f2, m2, r2, e1, e2, q2⟩ => ?_
  subst e2
  have hp2 : H2 p = some (.dK []) := f2.keep p _ hM L2.upd_same
  have hg2 : G2 p = none := f2.out p _ hM L2.upd_same hg
  have hM2 : M2 p = none := by
    cases q : M2 p with
    | none => rfl
    | some o =>
      rcases f2.new p o q with ⟨u, e⟩ | e
      · rw [hM] at e; cases e
      · rw [L2.upd_same] at e; cases e
  have lv : vs.length = ks.length := by rw [r2.length, e1]
  refine ⟨hp2, (ks.map Sum.inr).zip vs, ?_, ?_, ?_⟩
  · rw [List.zip_map_left, List.map_map] <;> rfl
  · rw [List.length_zip, List.length_map, lv, Nat.min_self]; exact h15
  · have em : L2.mergeK [] ((ks.map Sum.inr).zip vs) = (ks.map Sum.inr).zip vs := by
      rw [merge_new (fun _ _ => rfl) ?_]
      · rfl
      · rw [List.map_fst_zip (by rw [List.length_map, lv]; exact Nat.le_refl _)]
        exact nd.map Sum.inr fun _ _ ne z => ne (Sum.inr.inj z)
    rw [em]
    have f0 : Fr G H M G2 H2 M2 := ⟨f2.g, fun a o hm e => f2.keep a o hm (by rw [L2.upd_ne (L2.ne_of_none e hp)]; exact e), fun a o hm e g => f2.out a o hm (by rw [L2.upd_ne (L2.ne_of_none e hp)]; exact e) g, fun a o e => by
      rcases f2.new a o e with z | z
      · exact .inl z
      · refine .inr ?_
        by_cases ha : a = p
        · rw [ha]; exact hp
        · rw [L2.upd_ne ha] at z; exact z⟩
    have mem : MemOk X.K ca G2 (upd H2 p (.dK ((ks.map Sum.inr).zip vs))) (M2.set p (.dic ((ks.map Sum.inr).zip ds))) := by
      refine ⟨fun b w e => by rw [L2.upd_ne (L2.ne_of_none e hg2)]; exact m2.sub b w e, fun a w e => ?_⟩
      by_cases ha : a = p
      · subst ha
        rw [Mem.same] at e
        cases e
        exact ⟨hg2, _, L2.upd_same, zip_repK r2⟩
      · rw [Mem.ne ha] at e
        obtain ⟨z1, z2⟩ := m2.mem a w e
        exact ⟨z1, z2.mono (Same.refl _) fun u q => by rw [L2.upd_ne ha]; exact q⟩
    have fr : Fr G H M G2 (upd H2 p (.dK ((ks.map Sum.inr).zip vs))) (M2.set p (.dic ((ks.map Sum.inr).zip ds))) := by
      refine ⟨f0.g, (f0.at_ hp).keep, f0.out, fun a o e => ?_⟩
      by_cases ha : a = p
      · subst ha; exact .inr hp
      · rw [Mem.ne ha] at e; exact f0.new a o e
    exact ⟨G2, .ptr p, _, fr, mem, .ptr p, q2.2 p hM2⟩⟩
end
end G
set_option Elab.async false
set_option linter.all false
set_option maxRecDepth 100000
/-! The text by places; what the walk asks of the top. -/
namespace G
open PySem PySem.Spec PyProof.Rows
def topS (i : Nat) : Stmt := PySem.Challenge.pw_fairmasks_k56_whole_breaches_by_falls.main.body.getD i (.Pass ⟨0, 0, 0, 0⟩)
abbrev s_is_integer : Stmt := topS 11
abbrev s_is_within : Stmt := topS 12
abbrev s_is_number : Stmt := topS 13
abbrev s_is_pair : Stmt := topS 14
abbrev s_is_row : Stmt := topS 15
abbrev s_are_ascending : Stmt := topS 16
abbrev s_is_name : Stmt := topS 17
abbrev s_common_divisor : Stmt := topS 20
abbrev s_made : Stmt := topS 21
abbrev s_times : Stmt := topS 22
abbrev s_are_sizes : Stmt := topS 26
abbrev s_many_contents : Stmt := topS 27
abbrev s_raw_contents : Stmt := topS 28
abbrev s_is_pattern : Stmt := topS 29
abbrev s_is_content : Stmt := topS 30
abbrev s_check_content : Stmt := topS 31
abbrev s_State_init : Stmt := L2.inClass (topS 34) 0
abbrev s_State_statement : Stmt := L2.inClass (topS 34) 1
abbrev s_State_step : Stmt := L2.inClass (topS 34) 2
abbrev s_State_leave : Stmt := L2.inClass (topS 34) 3
abbrev s_State_enter : Stmt := L2.inClass (topS 34) 4
abbrev s_State_go_on : Stmt := L2.inClass (topS 34) 5
abbrev s_State_met : Stmt := L2.inClass (topS 34) 6
abbrev s_State_tested : Stmt := L2.inClass (topS 34) 7
abbrev s_begin : Stmt := topS 35
abbrev s_after_throw : Stmt := topS 36
abbrev s_after_open : Stmt := topS 37
abbrev s_outcomes : Stmt := topS 38
abbrev s_all_outcomes : Stmt := topS 39
abbrev s_raw_is_blind : Stmt := topS 40
abbrev s_is_policy : Stmt := topS 42
abbrev s_check_policy : Stmt := topS 43
abbrev s_is_alike : Stmt := topS 44
abbrev s_Keeper_init : Stmt := L2.inClass (topS 45) 0
abbrev s_Keeper_next_row : Stmt := L2.inClass (topS 45) 1
abbrev s_Keeper_row_now : Stmt := L2.inClass (topS 45) 2
abbrev s_Keeper_put : Stmt := L2.inClass (topS 45) 4
abbrev s_Keeper_due : Stmt := L2.inClass (topS 45) 5
abbrev s_Keeper_begin_row : Stmt := L2.inClass (topS 45) 6
abbrev s_Keeper_make_sure : Stmt := L2.inClass (topS 45) 7
abbrev s_Keeper_throw : Stmt := L2.inClass (topS 45) 8
abbrev s_Keeper_go : Stmt := L2.inClass (topS 45) 9
abbrev s_Keeper_open_column : Stmt := L2.inClass (topS 45) 10
abbrev s_Keeper_show_pattern : Stmt := L2.inClass (topS 45) 11
abbrev s_Keeper_fall : Stmt := L2.inClass (topS 45) 12
abbrev s_Keeper_peeked : Stmt := L2.inClass (topS 45) 16
abbrev s_check_blind : Stmt := topS 47
abbrev s_moves_until : Stmt := topS 48
abbrev s_breach_of : Stmt := topS 49
abbrev s_breach : Stmt := topS 50
abbrev s_is_done : Stmt := topS 51
abbrev s_is_breach : Stmt := topS 52
abbrev s_is_test : Stmt := topS 58
abbrev s_is_statement : Stmt := topS 59
abbrev s_blocks_in : Stmt := topS 60
abbrev s_measured : Stmt := topS 61
abbrev s_Program_init : Stmt := L2.inClass (topS 62) 0
abbrev s_Program_keep : Stmt := L2.inClass (topS 62) 1
abbrev s_l_hand : Stmt := topS 64
abbrev s_l_draw : Stmt := topS 65
abbrev s_l_contents : Stmt := topS 66
abbrev s_l_walk : Stmt := topS 67
abbrev s_l_see : Stmt := topS 68
abbrev s_l_do : Stmt := topS 69
abbrev s_l_due : Stmt := topS 70
abbrev s_l_moved : Stmt := topS 71
abbrev s_l_shows : Stmt := topS 72
abbrev s_l_blind_block : Stmt := topS 73
abbrev s_l_is_int : Stmt := topS 74
abbrev s_l_is_move : Stmt := topS 75
abbrev s_l_is_breach : Stmt := topS 76
abbrev s_l_some_moves : Stmt := topS 77
abbrev s_l_bent : Stmt := topS 78
abbrev s_law : Stmt := topS 79
theorem bt_isinstance : bootBuiltins "isinstance" = some (.builtin "isinstance") := by decide +kernel
theorem bt_len : bootBuiltins "len" = some (.builtin "len") := by decide +kernel
theorem bt_all : bootBuiltins "all" = some (.builtin "all") := by decide +kernel
theorem bt_any : bootBuiltins "any" = some (.builtin "any") := by decide +kernel
theorem bt_max : bootBuiltins "max" = some (.builtin "max") := by decide +kernel
theorem bt_sorted : bootBuiltins "sorted" = some (.builtin "sorted") := by decide +kernel
theorem bt_abs : bootBuiltins "abs" = some (.builtin "abs") := by decide +kernel
theorem bt_int : bootBuiltins "int" = some (.type "int") := by decide +kernel
theorem bt_bool : bootBuiltins "bool" = some (.type "bool") := by decide +kernel
theorem bt_str : bootBuiltins "str" = some (.type "str") := by decide +kernel
theorem bt_tuple : bootBuiltins "tuple" = some (.type "tuple") := by decide +kernel
theorem bt_list : bootBuiltins "list" = some (.type "list") := by decide +kernel
theorem bt_dict : bootBuiltins "dict" = some (.type "dict") := by decide +kernel
structure Tx (K : PySem.W.Frag) (mg : Str → Option Value) (ca : Cl → Addr) : Prop where
  cls : ∀ c : Cl, L2.Cls K (ca c)
  na_told : ∀ c : Cl, L2.NoAttr K (ca c) "told"
  na_opened : ∀ c : Cl, L2.NoAttr K (ca c) "opened"
  na_place : ∀ c : Cl, L2.NoAttr K (ca c) "place"
  na_deed : ∀ c : Cl, L2.NoAttr K (ca c) "deed"
  na_sizes : ∀ c : Cl, L2.NoAttr K (ca c) "sizes"
  na_block : ∀ c : Cl, L2.NoAttr K (ca c) "block"
  na_program : ∀ c : Cl, L2.NoAttr K (ca c) "program"
  na_policy : ∀ c : Cl, L2.NoAttr K (ca c) "policy"
  na_contents_put : ∀ c : Cl, L2.NoAttr K (ca c) "contents_put"
  na_columns_seen : ∀ c : Cl, L2.NoAttr K (ca c) "columns_seen"
  na_patterns_told : ∀ c : Cl, L2.NoAttr K (ca c) "patterns_told"
  na_sure_lines : ∀ c : Cl, L2.NoAttr K (ca c) "sure_lines"
  na_loose_lines : ∀ c : Cl, L2.NoAttr K (ca c) "loose_lines"
  na_live : ∀ c : Cl, L2.NoAttr K (ca c) "live"
  na_sure : ∀ c : Cl, L2.NoAttr K (ca c) "sure"
  f_isinstance : mg "isinstance" = none
  f_len : mg "len" = none
  f_all : mg "all" = none
  f_any : mg "any" = none
  f_range : mg "range" = none
  f_int : mg "int" = none
  f_bool : mg "bool" = none
  f_str : mg "str" = none
  f_tuple : mg "tuple" = none
  f_list : mg "list" = none
  f_dict : mg "dict" = none
  f_sorted : mg "sorted" = none
  f_abs : mg "abs" = none
  f_max : mg "max" = none
  f_zip : mg "zip" = none
  i_MOST_COLUMNS : ∃ t, mg "MOST_COLUMNS" = some (.int 5 t)
  i_MOST_CONTENTS : ∃ t, mg "MOST_CONTENTS" = some (.int 256 t)
  i_MOST_RUNS : ∃ t, mg "MOST_RUNS" = some (.int 2000 t)
  i_MOST_STATEMENTS : ∃ t, mg "MOST_STATEMENTS" = some (.int 60 t)
  i_MOST_DEEP : ∃ t, mg "MOST_DEEP" = some (.int 6 t)
  i_MOST_SIDES : ∃ t, mg "MOST_SIDES" = some (.int 12 t)
  i_MOST_TIMES : ∃ t, mg "MOST_TIMES" = some (.int 8 t)
  one0 : ∃ a, mg "ONE" = some (.ref a) ∧ ∀ G, Rep K ca G (.ref a) (.tup [.int 1, .int 1])
section
variable {K : PySem.W.Frag} {mg : Str → Option Value} {ca : Cl → Addr}
noncomputable def Tx.oneA (T : Tx K mg ca) : Addr := T.one0.choose
theorem Tx.one (T : Tx K mg ca) : mg "ONE" = some (.ref T.oneA) ∧ ∀ G, Rep K ca G (.ref T.oneA) (.tup [.int 1, .int 1]) := T.one0.choose_spec
end
theorem hu1 {A : Around} {k : Nat} (hr : L2.Room k A) : A.units + 1 < cLine := by have := hr.un; omega
theorem hu65 {A : Around} {k : Nat} (hr : L2.Room k A) : A.units + 65 < cLine := by have := hr.un; omega
end G
set_option Elab.async false
set_option linter.all false
set_option maxRecDepth 100000
set_option maxHeartbeats 4000000
namespace G
open PySem PySem.Spec PyProof.Rows
section
variable {P : Program} {w : World} {K : PySem.W.Frag} {mg : Str → Option Value} {base : Heap} {ca : Cl → Addr} {k : Nat}
abbrev sl_is_integer : List Str := ["thing"]
theorem sc_is_integer : L2.FnScope sl_is_integer ["thing"] (L2.defScope s_is_integer) := ⟨rfl, rfl, rfl, by decide +kernel, rfl, by decide +kernel, by decide +kernel⟩
theorem dv_is_integer (T : Tx K mg ca) {fa : Addr} {cdv : Value} {A : Around} {outer : List Env} {s : Shared} {H : L2.Hp} {E : L2.XK} (hr : L2.Room (k + 1) (A.deeper (envOfC "is_integer" (L2.defScope s_is_integer) s.heap.objs.size fa cdv))) :
    GSs ca (L2.cxOf L2.CX0 P w K mg base sl_is_integer "is_integer" (L2.defScope s_is_integer) fa cdv A outer s H E).nox (L2.defBody s_is_integer) (g_is_integer) := by
  have nd := sc_is_integer.nd
  exact (gss_one (gs_ret (ge_and (ge_isI kit_int rfl T.f_isinstance bt_isinstance rfl T.f_int bt_int (ge_var 0)) (ge_one (ge_not (ge_isI kit_bool rfl T.f_isinstance bt_isinstance rfl T.f_bool bt_bool (ge_var 0)))))))
abbrev sl_is_name : List Str := ["thing", "sign"]
theorem sc_is_name : L2.FnScope sl_is_name ["thing"] (L2.defScope s_is_name) := ⟨rfl, rfl, rfl, by decide +kernel, rfl, by decide +kernel, by decide +kernel⟩
theorem dv_is_name (T : Tx K mg ca) {fa : Addr} {cdv : Value} {A : Around} {outer : List Env} {s : Shared} {H : L2.Hp} {E : L2.XK} (hr : L2.Room (k + 1) (A.deeper (envOfC "is_name" (L2.defScope s_is_name) s.heap.objs.size fa cdv))) :
    GSs ca (L2.cxOf L2.CX0 P w K mg base sl_is_name "is_name" (L2.defScope s_is_name) fa cdv A outer s H E).nox (L2.defBody s_is_name) (g_is_name) := by
  have nd := sc_is_name.nd
  exact (gss_one (gs_ret (ge_and (ge_isI kit_str rfl T.f_isinstance bt_isinstance rfl T.f_str bt_str (ge_var 0)) (ge_and (ge_chain ok_le ok_le ge_int (ge_b1 (ok_len) rfl T.f_len bt_len (ge_var 0)) ge_int rfl) (ge_one (ge_b1 (ok_all rfl) rfl T.f_all bt_all (ge_compV rfl nd (gi_str (ge_var 0)) (L2.blkOk_by (own := [("sign", 1)]) (N := sl_is_name) (sc := L2.defScope s_is_name) (by decide +kernel)) rfl (fun _ _ _ _ _ => (gc_name (i := 1) nd rfl (Or.inl rfl) (Or.inr rfl) (by decide))) (fun _ _ _ _ _ => gts_nil) (fun _ _ _ _ _ => (ge_chain ok_le ok_le ge_str (ge_var 1) ge_str rfl)) (by intro _; rfl))))))))
abbrev sl_raw_contents : List Str := ["sizes", "found", "size", "content", "worth"]
theorem sc_raw_contents : L2.FnScope sl_raw_contents ["sizes"] (L2.defScope s_raw_contents) := ⟨rfl, rfl, rfl, by decide +kernel, rfl, by decide +kernel, by decide +kernel⟩
theorem dv_raw_contents (T : Tx K mg ca) {fa : Addr} {cdv : Value} {A : Around} {outer : List Env} {s : Shared} {H : L2.Hp} {E : L2.XK} (hr : L2.Room (k + 1) (A.deeper (envOfC "raw_contents" (L2.defScope s_raw_contents) s.heap.objs.size fa cdv))) :
    GSs ca (L2.cxOf L2.CX0 P w K mg base sl_raw_contents "raw_contents" (L2.defScope s_raw_contents) fa cdv A outer s H E).nox (L2.defBody s_raw_contents) (g_raw_contents) := by
  have nd := sc_raw_contents.nd
  exact (gss_cons (gs_set (i := 1) nd rfl (by first | exact Or.inl rfl | exact Or.inr rfl) (ge_lstF (ga_cons (ge_tup ga_nil) ga_nil)) rfl) (gss_cons (gs_for PassesOwn.never rfl (gi_seq (ge_var 0)) (gg_name (i := 2) nd rfl (by first | exact Or.inl rfl | exact Or.inr rfl)) (gss_one (gs_comp2V (i := 1) (vs1 := [4]) rfl nd rfl rfl (L2.sw_true rfl rfl rfl (by decide +kernel)) (gi_seq (ge_var 1)) (L2.blkOk_by (own := [("content", 3), ("worth", 4)]) (N := sl_raw_contents) (sc := L2.defScope s_raw_contents) (by decide +kernel)) rfl (by decide) (fun _ _ _ _ _ => (gc_name (i := 3) nd rfl (Or.inl rfl) (Or.inr rfl) (by decide))) (fun _ _ _ _ _ => (gi_rng1 rfl T.f_range (ge_var 2) rfl)) (fun _ _ _ _ _ => (gc_name (i := 4) nd rfl (Or.inl rfl) (Or.inr rfl) (by decide))) (fun _ _ _ _ _ => (ge_op ok_add (ge_var 3) (ge_tup (ga_cons (ge_var 4) ga_nil)))) (by intro _; rfl) (by intro _ _; rfl))) (by intro _; rfl)) (gss_one (gs_ret (ge_var 1)))))
abbrev sl_State_step : List Str := ["self", "block", "at", "again"]
theorem sc_State_step : L2.FnScope sl_State_step ["self"] (L2.defScope s_State_step) := ⟨rfl, rfl, rfl, by decide +kernel, rfl, by decide +kernel, by decide +kernel⟩
theorem dv_State_step (T : Tx K mg ca) {fa : Addr} {cdv : Value} {A : Around} {outer : List Env} {s : Shared} {H : L2.Hp} {E : L2.XK} (hr : L2.Room (k + 1) (A.deeper (envOfC "State.step" (L2.defScope s_State_step) s.heap.objs.size fa cdv))) :
    GSs ca (L2.cxOf L2.CX0 P w K mg base sl_State_step "State.step" (L2.defScope s_State_step) fa cdv A outer s H E).nox (L2.defBody s_State_step) (g_State_step) := by
  have nd := sc_State_step.nd
  exact (gss_cons (gs_asg (ge_ix (ge_fld T.cls T.na_place (ge_var 0) rfl) (ge_neg ge_int) (fun _ _ => rfl)) (gg_tup rfl (ggs_cons (gg_name (i := 1) nd rfl (by first | exact Or.inl rfl | exact Or.inr rfl)) (ggs_cons (gg_name (i := 2) nd rfl (by first | exact Or.inl rfl | exact Or.inr rfl)) (ggs_cons (gg_name (i := 3) nd rfl (by first | exact Or.inl rfl | exact Or.inr rfl)) ggs_nil)))) rfl rfl rfl) (gss_one (gs_fld T.cls T.na_place (ge_var 0) (ge_op ok_add (ge_slice (ge_fld T.cls T.na_place (ge_var 0) rfl) go_none (go_some (ge_neg ge_int))) (ge_tup (ga_cons (ge_tup (ga_cons (ge_var 1) (ga_cons (ge_op ok_add (ge_var 2) ge_int) (ga_cons (ge_var 3) ga_nil)))) ga_nil))) rfl)))
abbrev sl_after_throw : List Str := ["state", "value", "block", "at", "again", "names"]
theorem sc_after_throw : L2.FnScope sl_after_throw ["state", "value"] (L2.defScope s_after_throw) := ⟨rfl, rfl, rfl, by decide +kernel, rfl, by decide +kernel, by decide +kernel⟩
theorem dv_after_throw (T : Tx K mg ca) {q_State_init : DSp} (F_State_init : MkG ca P w K mg base .state "State" k q_State_init) {fa : Addr} {cdv : Value} {A : Around} {outer : List Env} {s : Shared} {H : L2.Hp} {E : L2.XK} (hr : L2.Room (k + 1) (A.deeper (envOfC "after_throw" (L2.defScope s_after_throw) s.heap.objs.size fa cdv))) :
    GSs ca (L2.cxOf L2.CX0 P w K mg base sl_after_throw "after_throw" (L2.defScope s_after_throw) fa cdv A outer s H E).nox (L2.defBody s_after_throw) (g_after_throw q_State_init) := by
  have nd := sc_after_throw.nd
  exact (gss_cons (gs_asg (ge_ix (ge_fld T.cls T.na_place (ge_var 0) rfl) (ge_neg ge_int) (fun _ _ => rfl)) (gg_tup rfl (ggs_cons (gg_name (i := 2) nd rfl (by first | exact Or.inl rfl | exact Or.inr rfl)) (ggs_cons (gg_name (i := 3) nd rfl (by first | exact Or.inl rfl | exact Or.inr rfl)) (ggs_cons (gg_name (i := 4) nd rfl (by first | exact Or.inl rfl | exact Or.inr rfl)) ggs_nil)))) rfl rfl rfl) (gss_cons (gs_set (i := 5) nd rfl (by first | exact Or.inl rfl | exact Or.inr rfl) (ge_dictM rfl T.f_dict bt_dict (ge_fld T.cls T.na_told (ge_var 0) rfl)) rfl) (gss_cons (gs_key (hu1 hr) (ge_var 5) (ge_ix (ge_ix (ge_var 2) (ge_var 3) (fun _ _ => rfl)) ge_int (fun _ _ => rfl)) (ge_var 1) rfl (fun a b c => L2.ps_dput (hu1 hr) a b c rfl)) (gss_one (gs_ret (ge_makeF F_State_init hr rfl (ga_cons (ge_var 5) (ga_cons (ge_fld T.cls T.na_opened (ge_var 0) rfl) (ga_cons (ge_op ok_add (ge_slice (ge_fld T.cls T.na_place (ge_var 0) rfl) go_none (go_some (ge_neg ge_int))) (ge_tup (ga_cons (ge_tup (ga_cons (ge_var 2) (ga_cons (ge_op ok_add (ge_var 3) ge_int) (ga_cons (ge_var 4) ga_nil)))) ga_nil))) ga_nil)))))))))
abbrev sl_check_policy : List Str := ["thing"]
theorem sc_check_policy : L2.FnScope sl_check_policy ["thing"] (L2.defScope s_check_policy) := ⟨rfl, rfl, rfl, by decide +kernel, rfl, by decide +kernel, by decide +kernel⟩
theorem dv_check_policy (T : Tx K mg ca) {p_is_policy : PSp} (F_is_policy : FnG ca P w K mg base "is_policy" k (liftP p_is_policy)) {fa : Addr} {cdv : Value} {A : Around} {outer : List Env} {s : Shared} {H : L2.Hp} {E : L2.XK} (hr : L2.Room (k + 1) (A.deeper (envOfC "check_policy" (L2.defScope s_check_policy) s.heap.objs.size fa cdv))) :
    GSs ca (L2.cxOf L2.CX0 P w K mg base sl_check_policy "check_policy" (L2.defScope s_check_policy) fa cdv A outer s H E).nox (L2.defBody s_check_policy) (g_check_policy p_is_policy) := by
  have nd := sc_check_policy.nd
  exact (gss_one (gs_if (gt_not (gt_e (ge_pure F_is_policy (hr.mono (Nat.le_succ _)) rfl (ga_cons (ge_var 0) ga_nil)) (by intro _; rfl))) (gss_one gs_never) gss_nil))
abbrev sl_Keeper_due : List Str := ["self"]
theorem sc_Keeper_due : L2.FnScope sl_Keeper_due ["self"] (L2.defScope s_Keeper_due) := ⟨rfl, rfl, rfl, by decide +kernel, rfl, by decide +kernel, by decide +kernel⟩
theorem dv_Keeper_due (T : Tx K mg ca) {q_Keeper_row_now : DSp} (F_Keeper_row_now : MtG ca P w K mg base .keeper "row_now" k q_Keeper_row_now) {fa : Addr} {cdv : Value} {A : Around} {outer : List Env} {s : Shared} {H : L2.Hp} {E : L2.XK} (hr : L2.Room (k + 1) (A.deeper (envOfC "Keeper.due" (L2.defScope s_Keeper_due) s.heap.objs.size fa cdv))) :
    GSs ca (L2.cxOf L2.CX0 P w K mg base sl_Keeper_due "Keeper.due" (L2.defScope s_Keeper_due) fa cdv A outer s H E).nox (L2.defBody s_Keeper_due) (g_Keeper_due q_Keeper_row_now) := by
  have nd := sc_Keeper_due.nd
  exact (gss_cons (gs_if (gt_cmp (ok_eq hr.units) (ge_meth0 F_Keeper_row_now (T.cls _) (hr.mono (Nat.le_succ _)) (ge_var 0) (by rfl)) (ge_b1 (ok_len) rfl T.f_len bt_len (ge_fld T.cls T.na_contents_put (ge_var 0) rfl)) (L2.nomark _)) (gss_one (gs_ret ge_non)) gss_nil) (gss_one (gs_ret (ge_fld T.cls T.na_deed (ge_ix (ge_fld T.cls T.na_live (ge_var 0) rfl) ge_int (fun _ _ => rfl)) rfl))))
abbrev sl_Keeper_show_pattern : List Str := ["self", "pattern"]
theorem sc_Keeper_show_pattern : L2.FnScope sl_Keeper_show_pattern ["self", "pattern"] (L2.defScope s_Keeper_show_pattern) := ⟨rfl, rfl, rfl, by decide +kernel, rfl, by decide +kernel, by decide +kernel⟩
theorem dv_Keeper_show_pattern (T : Tx K mg ca) {q_Keeper_begin_row : DSp} {q_Keeper_make_sure : DSp} {q_Keeper_next_row : DSp} (F_Keeper_begin_row : MtG ca P w K mg base .keeper "begin_row" k q_Keeper_begin_row) (F_Keeper_make_sure : MtG ca P w K mg base .keeper "make_sure" k q_Keeper_make_sure) (F_Keeper_next_row : MtG ca P w K mg base .keeper "next_row" k q_Keeper_next_row) {fa : Addr} {cdv : Value} {A : Around} {outer : List Env} {s : Shared} {H : L2.Hp} {E : L2.XK} (hr : L2.Room (k + 1) (A.deeper (envOfC "Keeper.show_pattern" (L2.defScope s_Keeper_show_pattern) s.heap.objs.size fa cdv))) :
    GSs ca (L2.cxOf L2.CX0 P w K mg base sl_Keeper_show_pattern "Keeper.show_pattern" (L2.defScope s_Keeper_show_pattern) fa cdv A outer s H E).nox (L2.defBody s_Keeper_show_pattern) (g_Keeper_show_pattern q_Keeper_begin_row q_Keeper_make_sure q_Keeper_next_row) := by
  have nd := sc_Keeper_show_pattern.nd
  exact (gss_cons (gs_expr (ge_meth0 F_Keeper_begin_row (T.cls _) (hr.mono (Nat.le_succ _)) (ge_var 0) (by rfl)) rfl) (gss_cons (gs_expr (ge_append (ge_fld T.cls T.na_loose_lines (ge_var 0) rfl) (ge_tup (ga_cons ge_str (ga_cons (ge_var 1) ga_nil))) rfl rfl rfl rfl) rfl) (gss_cons (gs_expr (ge_meth0 F_Keeper_make_sure (T.cls _) (hr.mono (Nat.le_succ _)) (ge_var 0) (by rfl)) rfl) (gss_cons (gs_expr (ge_append (ge_fld T.cls T.na_patterns_told (ge_var 0) rfl) (ge_var 1) rfl rfl rfl rfl) rfl) (gss_one (gs_expr (ge_meth0 F_Keeper_next_row (T.cls _) (hr.mono (Nat.le_succ _)) (ge_var 0) (by rfl)) rfl))))))
abbrev sl_breach : List Str := ["program", "policy", "content", "moves"]
theorem sc_breach : L2.FnScope sl_breach ["program", "policy"] (L2.defScope s_breach) := ⟨rfl, rfl, rfl, by decide +kernel, rfl, by decide +kernel, by decide +kernel⟩
theorem dv_breach (T : Tx K mg ca) {p_check_blind : PSp} {p_raw_contents : PSp} {p_breach_of : PSp} (F_check_blind : FnG ca P w K mg base "check_blind" k (liftP p_check_blind)) (F_raw_contents : FnG ca P w K mg base "raw_contents" k (liftP p_raw_contents)) (F_breach_of : FnG ca P w K mg base "breach_of" k (liftP p_breach_of)) {fa : Addr} {cdv : Value} {A : Around} {outer : List Env} {s : Shared} {H : L2.Hp} {E : L2.XK} (hr : L2.Room (k + 1) (A.deeper (envOfC "breach" (L2.defScope s_breach) s.heap.objs.size fa cdv))) :
    GSs ca (L2.cxOf L2.CX0 P w K mg base sl_breach "breach" (L2.defScope s_breach) fa cdv A outer s H E).nox (L2.defBody s_breach) (g_breach p_check_blind p_raw_contents p_breach_of) := by
  have nd := sc_breach.nd
  exact (gss_cons (gs_expr (ge_pure F_check_blind (hr.mono (Nat.le_succ _)) rfl (ga_cons (ge_var 0) (ga_cons (ge_var 1) ga_nil))) rfl) (gss_cons (gs_if (gt_e (ge_b1 (ok_any rfl) rfl T.f_any bt_any (ge_var 1)) (by intro _; rfl)) (gss_one (gs_ret ge_non)) gss_nil) (gss_cons (gs_for PassesOwn.never rfl (gi_seq (ge_pure F_raw_contents (hr.mono (Nat.le_succ _)) rfl (ga_cons (ge_fld T.cls T.na_sizes (ge_var 0) rfl) ga_nil))) (gg_name (i := 2) nd rfl (by first | exact Or.inl rfl | exact Or.inr rfl)) (gss_cons (gs_set (i := 3) nd rfl (by first | exact Or.inl rfl | exact Or.inr rfl) (ge_pure F_breach_of (hr.mono (Nat.le_succ _)) rfl (ga_cons (ge_var 0) (ga_cons (ge_var 2) ga_nil))) rfl) (gss_one (gs_if (gt_notN (ge_var 3)) (gss_one (gs_ret (ge_tup (ga_cons (ge_var 2) (ga_cons (ge_var 3) ga_nil))))) gss_nil))) (by intro _; rfl)) (gss_one (gs_ret ge_non)))))
abbrev sl_measured : List Str := ["sizes", "block", "level", "many", "deep", "below", "one", "statement"]
theorem sc_measured : L2.FnScope sl_measured ["sizes", "block"] (L2.defScope s_measured) := ⟨rfl, rfl, rfl, by decide +kernel, rfl, by decide +kernel, by decide +kernel⟩
theorem dv_measured (T : Tx K mg ca) {p_is_statement : PSp} {p_blocks_in : PSp} (F_is_statement : FnG ca P w K mg base "is_statement" k (liftP p_is_statement)) (F_blocks_in : FnG ca P w K mg base "blocks_in" k (liftP p_blocks_in)) {fa : Addr} {cdv : Value} {A : Around} {outer : List Env} {s : Shared} {H : L2.Hp} {E : L2.XK} (hr : L2.Room (k + 1) (A.deeper (envOfC "measured" (L2.defScope s_measured) s.heap.objs.size fa cdv))) :
    GSs ca (L2.cxOf L2.CX0 P w K mg base sl_measured "measured" (L2.defScope s_measured) fa cdv A outer s H E).nox (L2.defBody s_measured) (g_measured p_is_statement p_blocks_in) := by
  have nd := sc_measured.nd
  exact (gss_cons (gs_set (i := 2) nd rfl (by first | exact Or.inl rfl | exact Or.inr rfl) (ge_lstF (ga_cons (ge_var 1) ga_nil)) rfl) (gss_cons (gs_set (i := 3) nd rfl (by first | exact Or.inl rfl | exact Or.inr rfl) ge_int rfl) (gss_cons (gs_set (i := 4) nd rfl (by first | exact Or.inl rfl | exact Or.inr rfl) ge_int rfl) (gss_cons (gs_while PassesOwn.never (gt_cmp ok_gt (ge_b1 (ok_len) rfl T.f_len bt_len (ge_var 2)) ge_int (L2.nomark _)) (gss_cons (gs_set (i := 5) nd rfl (by first | exact Or.inl rfl | exact Or.inr rfl) (ge_lst ga_nil) rfl) (gss_cons (gs_for PassesOwn.never rfl (gi_seq (ge_var 2)) (gg_name (i := 6) nd rfl (by first | exact Or.inl rfl | exact Or.inr rfl)) (gss_cons (gs_if (GW.gt (gw_or (gt_not (gt_e (ge_isI kit_tup rfl T.f_isinstance bt_isinstance rfl T.f_tuple bt_tuple (ge_var 6)) (by intro _; rfl))) (gw_or1 (gt_not (gt_e (ge_b1 (ok_all rfl) rfl T.f_all bt_all (ge_compV rfl nd (gi_seq (ge_var 6)) (L2.blkOk_by (own := [("statement", 7)]) (N := sl_measured) (sc := L2.defScope s_measured) (by decide +kernel)) rfl (fun _ _ _ _ _ => (gc_name (i := 7) nd rfl (Or.inl rfl) (Or.inr rfl) (by decide))) (fun _ _ _ _ _ => gts_nil) (fun _ _ _ _ _ => (ge_pure F_is_statement (hr.mono (Nat.le_succ _)) rfl (ga_cons (ge_var 0) (ga_cons (ge_var 7) ga_nil)))) (by intro _; rfl))) (by intro _; rfl)))))) (gss_one (gs_ret ge_non)) gss_nil) (gss_cons (gs_aug (i := 3) nd rfl (by first | exact Or.inl rfl | exact Or.inr rfl) (ge_b1 (ok_len) rfl T.f_len bt_len (ge_var 6))) (gss_one (gs_for PassesOwn.never rfl (gi_seq (ge_var 6)) (gg_name (i := 7) nd rfl (by first | exact Or.inl rfl | exact Or.inr rfl)) (gss_one (gs_expr (ge_extend (ge_var 5) (ge_pure F_blocks_in (hr.mono (Nat.le_succ _)) rfl (ga_cons (ge_var 7) ga_nil)) rfl rfl rfl rfl) rfl)) (by intro _; rfl))))) (by intro _; rfl)) (gss_cons (gs_if (gt_e (ge_b1 (ok_any rfl) rfl T.f_any bt_any (ge_compV rfl nd (gi_seq (ge_var 2)) (L2.blkOk_by (own := [("one", 6)]) (N := sl_measured) (sc := L2.defScope s_measured) (by decide +kernel)) rfl (fun _ _ _ _ _ => (gc_name (i := 6) nd rfl (Or.inl rfl) (Or.inr rfl) (by decide))) (fun _ _ _ _ _ => gts_nil) (fun _ _ _ _ _ => (ge_cmp ok_gt (ge_b1 (ok_len) rfl T.f_len bt_len (ge_var 6)) ge_int (L2.nomark _))) (by intro _; rfl))) (by intro _; rfl)) (gss_one (gs_aug (i := 4) nd rfl (by first | exact Or.inl rfl | exact Or.inr rfl) ge_int)) gss_nil) (gss_one (gs_set (i := 2) nd rfl (by first | exact Or.inl rfl | exact Or.inr rfl) (ge_fz (ge_var 5)) rfl)))))) (gss_one (gs_ret (ge_tup (ga_cons (ge_var 3) (ga_cons (ge_var 4) ga_nil)))))))))
abbrev sl_l_walk : List Str := ["_law_block", "_law_content", "_law_throws", "_law_state"]
theorem sc_l_walk : L2.FnScope sl_l_walk ["_law_block", "_law_content", "_law_throws"] (L2.defScope s_l_walk) := ⟨rfl, rfl, rfl, by decide +kernel, rfl, by decide +kernel, by decide +kernel⟩
theorem dv_l_walk (T : Tx K mg ca) {q_l_do : DSp} (F_l_do : FnG ca P w K mg base "_law_do" k q_l_do) {fa : Addr} {cdv : Value} {A : Around} {outer : List Env} {s : Shared} {H : L2.Hp} {E : L2.XK} (hr : L2.Room (k + 1) (A.deeper (envOfC "_law_walk" (L2.defScope s_l_walk) s.heap.objs.size fa cdv))) :
    GSs ca (L2.cxOf L2.CX0 P w K mg base sl_l_walk "_law_walk" (L2.defScope s_l_walk) fa cdv A outer s H E).nox (L2.defBody s_l_walk) (g_l_walk q_l_do) := by
  have nd := sc_l_walk.nd
  exact (gss_cons (gs_set (i := 3) nd rfl (by first | exact Or.inl rfl | exact Or.inr rfl) (ge_dict (gps_cons ge_dic0 (gps_cons (ge_lst ga_nil) (gps_cons (ge_lst ga_nil) (gps_cons ge_int (gps_cons ge_bl gps_nil))))) (by decide) (by decide) (by decide +kernel)) rfl) (gss_cons (gs_expr (ge_call F_l_do (hr.mono (Nat.le_succ _)) rfl (ga_cons (ge_var 0) (ga_cons (ge_var 1) (ga_cons (ge_var 2) (ga_cons (ge_var 3) ga_nil))))) rfl) (gss_cons (gs_if (gt_not (gt_e (ge_dget (hu1 hr) (ge_var 3) ge_str (fun _ _ => rfl)) (by intro _; rfl))) (gss_one (gs_expr (ge_append (ge_dget (hu1 hr) (ge_var 3) ge_str (fun _ _ => rfl)) (ge_tup (ga_cons ge_str (ga_cons (ge_t1 ok_tuple rfl T.f_tuple bt_tuple (ge_b1 (ok_sorted) rfl T.f_sorted bt_sorted (ge_dget (hu1 hr) (ge_var 3) ge_str (fun _ _ => rfl)))) ga_nil))) rfl rfl rfl rfl) rfl)) gss_nil) (gss_one (gs_ret (ge_fz (ge_dget (hu1 hr) (ge_var 3) ge_str (fun _ _ => rfl))))))))
abbrev sl_l_blind_block : List Str := ["_law_hand_here", "_law_sizes", "_law_opened", "_law_left", "_law_room", "_law_closed", "_law_way", "_law_c", "_law_sides", "_law_block", "_law_value", "_law_there", "_law_later", "_law_worth"]
theorem sc_l_blind_block : L2.FnScope sl_l_blind_block ["_law_hand_here", "_law_sizes", "_law_opened", "_law_left", "_law_room"] (L2.defScope s_l_blind_block) := ⟨rfl, rfl, rfl, by decide +kernel, rfl, by decide +kernel, by decide +kernel⟩
theorem dv_l_blind_block (T : Tx K mg ca) {q_l_draw : DSp} {q_l_blind_block : DSp} (F_l_draw : FnG ca P w K mg base "_law_draw" k q_l_draw) (F_l_blind_block : FnG ca P w K mg base "_law_blind_block" k q_l_blind_block) {fa : Addr} {cdv : Value} {A : Around} {outer : List Env} {s : Shared} {H : L2.Hp} {E : L2.XK} (hr : L2.Room (k + 1) (A.deeper (envOfC "_law_blind_block" (L2.defScope s_l_blind_block) s.heap.objs.size fa cdv))) :
    GSs ca (L2.cxOf L2.CX0 P w K mg base sl_l_blind_block "_law_blind_block" (L2.defScope s_l_blind_block) fa cdv A outer s H E).nox (L2.defBody s_l_blind_block) (g_l_blind_block q_l_draw q_l_blind_block) := by
  have nd := sc_l_blind_block.nd
  exact (gss_cons (gs_compV (i := 5) rfl nd rfl rfl (L2.sw_true rfl rfl rfl (by decide +kernel)) (gi_rng1 rfl T.f_range (ge_b1 (ok_len) rfl T.f_len bt_len (ge_var 1)) rfl) (L2.blkOk_by (own := [("_law_c", 7)]) (N := sl_l_blind_block) (sc := L2.defScope s_l_blind_block) (by decide +kernel)) rfl (fun _ _ _ _ _ => (gc_name (i := 7) nd rfl (Or.inl rfl) (Or.inr rfl) (by decide))) (fun _ _ _ _ _ => (gts_one (gt_cmp (ok_notIn (hu65 hr)) (ge_var 7) (ge_var 2) rfl))) (fun _ _ _ _ _ => (ge_var 7)) (by intro _; rfl)) (gss_cons (gs_set (i := 6) nd rfl (by first | exact Or.inl rfl | exact Or.inr rfl) (ge_call F_l_draw (hr.mono (Nat.le_succ _)) rfl (ga_cons (ge_var 0) (ga_cons ge_int ga_nil))) rfl) (gss_cons (gs_ix (ge_var 3) ge_int (ge_op ok_sub (ge_ix (ge_var 3) ge_int (fun _ _ => rfl)) ge_int) rfl rfl rfl (by intro _; rfl)) (gss_cons (gs_if (GW.gt (gw_or (gt_cmp (ok_eq hr.units) (ge_var 5) (ge_lstF ga_nil) (L2.nomark _)) (gw_or (gt_cmp ok_lt (ge_ix (ge_var 3) ge_int (fun _ _ => rfl)) ge_int (L2.nomark _)) (gw_or1 (gt_cmp (ok_eq hr.units) (ge_var 6) ge_int (L2.nomark _)))))) (gss_one (gs_ret (ge_tup (ga_cons (ge_tup (ga_cons ge_str (ga_cons (ge_t1 ok_tuple rfl T.f_tuple bt_tuple (ge_b1 (ok_sorted) rfl T.f_sorted bt_sorted (ge_var 2))) ga_nil))) ga_nil)))) gss_nil) (gss_cons (gs_set (i := 7) nd rfl (by first | exact Or.inl rfl | exact Or.inr rfl) (ge_ix (ge_var 5) (ge_call F_l_draw (hr.mono (Nat.le_succ _)) rfl (ga_cons (ge_var 0) (ga_cons (ge_b1 (ok_len) rfl T.f_len bt_len (ge_var 5)) ga_nil))) (fun _ _ => rfl)) rfl) (gss_cons (gs_if (GW.gt (gw_and (gt_cmp ok_lt (ge_var 6) ge_int (L2.nomark _)) (gw_and (gt_cmp ok_gt (ge_ix (ge_var 3) ge_int (fun _ _ => rfl)) ge_int (L2.nomark _)) (gw_and1 (gt_cmp ok_gt (ge_var 4) ge_int (L2.nomark _)))))) (gss_cons (gs_ix (ge_var 3) ge_int (ge_op ok_sub (ge_ix (ge_var 3) ge_int (fun _ _ => rfl)) ge_int) rfl rfl rfl (by intro _; rfl)) (gss_cons (gs_set (i := 8) nd rfl (by first | exact Or.inl rfl | exact Or.inr rfl) (ge_op ok_add ge_int (ge_call F_l_draw (hr.mono (Nat.le_succ _)) rfl (ga_cons (ge_var 0) (ga_cons ge_int ga_nil)))) rfl) (gss_cons (gs_set (i := 9) nd rfl (by first | exact Or.inl rfl | exact Or.inr rfl) (ge_call F_l_blind_block (hr.mono (Nat.le_succ _)) rfl (ga_cons (ge_var 0) (ga_cons (ge_var 1) (ga_cons (ge_var 2) (ga_cons (ge_var 3) (ga_cons (ge_op ok_add (ge_op ok_sub (ge_var 4) (ge_var 8)) ge_int) ga_nil)))))) rfl) (gss_cons (gs_for PassesOwn.never rfl (gi_rng1 rfl T.f_range (ge_op ok_sub (ge_var 8) ge_int) rfl) (gg_name (i := 10) nd rfl (by first | exact Or.inl rfl | exact Or.inr rfl)) (gss_cons (gs_set (i := 11) nd rfl (by first | exact Or.inl rfl | exact Or.inr rfl) (ge_call F_l_blind_block (hr.mono (Nat.le_succ _)) rfl (ga_cons (ge_var 0) (ga_cons (ge_var 1) (ga_cons (ge_var 2) (ga_cons (ge_var 3) (ga_cons (ge_op ok_add (ge_op ok_sub (ge_var 4) (ge_var 8)) ge_int) ga_nil)))))) rfl) (gss_one (gs_set (i := 9) nd rfl (by first | exact Or.inl rfl | exact Or.inr rfl) (ge_tup (ga_cons (ge_tup (ga_cons ge_str (ga_cons (ge_tup (ga_cons ge_str (ga_cons ge_str (ga_cons (ge_var 10) ga_nil)))) (ga_cons (ge_var 11) (ga_cons (ge_var 9) ga_nil))))) ga_nil)) rfl))) (by intro _; rfl)) (gss_one (gs_ret (ge_op ok_add (ge_tup (ga_cons (ge_tup (ga_cons ge_str (ga_cons ge_str (ga_cons (ge_var 8) ga_nil)))) ga_nil)) (ge_var 9)))))))) gss_nil) (gss_cons (gs_set (i := 12) nd rfl (by first | exact Or.inl rfl | exact Or.inr rfl) (ge_op ok_add (ge_var 2) (ge_lstF (ga_cons (ge_var 7) ga_nil))) rfl) (gss_cons (gs_if (GW.gt (gw_or (gt_cmp (ok_eq hr.units) (ge_var 6) ge_int (L2.nomark _)) (gw_or1 (gt_cmp ok_lt (ge_var 4) (ge_op ok_sub (ge_ix (ge_var 1) (ge_var 7) (fun _ _ => rfl)) ge_int) (L2.nomark _))))) (gss_one (gs_ret (ge_op ok_add (ge_tup (ga_cons (ge_tup (ga_cons ge_str (ga_cons (ge_var 7) ga_nil))) ga_nil)) (ge_call F_l_blind_block (hr.mono (Nat.le_succ _)) rfl (ga_cons (ge_var 0) (ga_cons (ge_var 1) (ga_cons (ge_var 12) (ga_cons (ge_var 3) (ga_cons (ge_var 4) ga_nil))))))))) gss_nil) (gss_cons (gs_set (i := 9) nd rfl (by first | exact Or.inl rfl | exact Or.inr rfl) (ge_call F_l_blind_block (hr.mono (Nat.le_succ _)) rfl (ga_cons (ge_var 0) (ga_cons (ge_var 1) (ga_cons (ge_var 12) (ga_cons (ge_var 3) (ga_cons (ge_op ok_add (ge_op ok_sub (ge_var 4) (ge_ix (ge_var 1) (ge_var 7) (fun _ _ => rfl))) ge_int) ga_nil)))))) rfl) (gss_cons (gs_for PassesOwn.never rfl (gi_rng1 rfl T.f_range (ge_op ok_sub (ge_ix (ge_var 1) (ge_var 7) (fun _ _ => rfl)) ge_int) rfl) (gg_name (i := 13) nd rfl (by first | exact Or.inl rfl | exact Or.inr rfl)) (gss_cons (gs_set (i := 11) nd rfl (by first | exact Or.inl rfl | exact Or.inr rfl) (ge_call F_l_blind_block (hr.mono (Nat.le_succ _)) rfl (ga_cons (ge_var 0) (ga_cons (ge_var 1) (ga_cons (ge_var 12) (ga_cons (ge_var 3) (ga_cons (ge_op ok_add (ge_op ok_sub (ge_var 4) (ge_ix (ge_var 1) (ge_var 7) (fun _ _ => rfl))) ge_int) ga_nil)))))) rfl) (gss_one (gs_set (i := 9) nd rfl (by first | exact Or.inl rfl | exact Or.inr rfl) (ge_tup (ga_cons (ge_tup (ga_cons ge_str (ga_cons (ge_tup (ga_cons ge_str (ga_cons (ge_var 7) (ga_cons (ge_var 13) ga_nil)))) (ga_cons (ge_var 11) (ga_cons (ge_var 9) ga_nil))))) ga_nil)) rfl))) (by intro _; rfl)) (gss_one (gs_ret (ge_var 9)))))))))))))
abbrev sl_law : List Str := ["_law_script", "_law_hand_here", "_law_turn", "_law_sizes", "_law_block", "_law_program", "_law_many", "_law_policy", "_law_told", "_law_every", "_law_content", "_law_thing", "_law_flag"]
theorem sc_law : L2.FnScope sl_law ["_law_script"] (L2.defScope s_law) := ⟨rfl, rfl, rfl, by decide +kernel, rfl, by decide +kernel, by decide +kernel⟩
theorem dv_law (T : Tx K mg ca) {q_l_hand : DSp} {q_l_draw : DSp} {q_l_blind_block : DSp} {q_Program_init : DSp} {p_l_contents : PSp} {p_l_shows : PSp} {p_breach : PSp} {p_l_is_breach : PSp} {p_is_breach : PSp} {q_l_some_moves : DSp} {q_l_bent : DSp} (F_l_hand : FnG ca P w K mg base "_law_hand" k q_l_hand) (F_l_draw : FnG ca P w K mg base "_law_draw" k q_l_draw) (F_l_blind_block : FnG ca P w K mg base "_law_blind_block" k q_l_blind_block) (F_Program_init : MkG ca P w K mg base .prog "Program" k q_Program_init) (F_l_contents : FnG ca P w K mg base "_law_contents" k (liftP p_l_contents)) (F_l_shows : FnG ca P w K mg base "_law_shows" k (liftP p_l_shows)) (F_breach : FnG ca P w K mg base "breach" k (liftP p_breach)) (F_l_is_breach : FnG ca P w K mg base "_law_is_breach" k (liftP p_l_is_breach)) (F_is_breach : FnG ca P w K mg base "is_breach" k (liftP p_is_breach)) (F_l_some_moves : FnG ca P w K mg base "_law_some_moves" k q_l_some_moves) (F_l_bent : FnG ca P w K mg base "_law_bent" k q_l_bent) {fa : Addr} {cdv : Value} {A : Around} {outer : List Env} {s : Shared} {H : L2.Hp} {E : L2.XK} (hr : L2.Room (k + 1) (A.deeper (envOfC "law" (L2.defScope s_law) s.heap.objs.size fa cdv))) :
    GSs ca (L2.cxOf L2.CX0 P w K mg base sl_law "law" (L2.defScope s_law) fa cdv A outer s H E).nox (L2.defBody s_law) (g_law q_l_hand q_l_draw q_l_blind_block q_Program_init p_l_contents p_l_shows p_breach p_l_is_breach p_is_breach q_l_some_moves q_l_bent) := by
  have nd := sc_law.nd
  exact (gss_cons (gs_set (i := 1) nd rfl (by first | exact Or.inl rfl | exact Or.inr rfl) (ge_call F_l_hand (hr.mono (Nat.le_succ _)) rfl (ga_cons (ge_var 0) ga_nil)) rfl) (gss_cons (gs_for PassesOwn.never rfl (gi_rng1 rfl T.f_range ge_int rfl) (gg_name (i := 2) nd rfl (by first | exact Or.inl rfl | exact Or.inr rfl)) (gss_cons (gs_set (i := 3) nd rfl (by first | exact Or.inl rfl | exact Or.inr rfl) (ge_ix (ge_lstF (ga_cons (ge_tup (ga_cons ge_int (ga_cons ge_int ga_nil))) (ga_cons (ge_tup (ga_cons ge_int (ga_cons ge_int ga_nil))) (ga_cons (ge_tup (ga_cons ge_int (ga_cons ge_int (ga_cons ge_int ga_nil)))) (ga_cons (ge_tup (ga_cons ge_int ga_nil)) ga_nil))))) (ge_call F_l_draw (hr.mono (Nat.le_succ _)) rfl (ga_cons (ge_var 1) (ga_cons ge_int ga_nil))) (fun _ _ => rfl)) rfl) (gss_cons (gs_set (i := 4) nd rfl (by first | exact Or.inl rfl | exact Or.inr rfl) (ge_call F_l_blind_block (hr.mono (Nat.le_succ _)) rfl (ga_cons (ge_var 1) (ga_cons (ge_var 3) (ga_cons (ge_lstF ga_nil) (ga_cons (ge_lst (ga_cons ge_int (ga_cons ge_int ga_nil))) (ga_cons ge_int ga_nil)))))) rfl) (gss_cons (gs_set (i := 5) nd rfl (by first | exact Or.inl rfl | exact Or.inr rfl) (ge_makeF F_Program_init hr rfl (ga_cons (ge_var 3) (ga_cons (ge_var 4) ga_nil))) rfl) (gss_cons (gs_set (i := 6) nd rfl (by first | exact Or.inl rfl | exact Or.inr rfl) (ge_b1 (ok_max rfl) rfl T.f_max bt_max (ge_compV rfl nd (gi_seq (ge_pure F_l_contents (hr.mono (Nat.le_succ _)) rfl (ga_cons (ge_var 3) ga_nil))) (L2.blkOk_by (own := [("_law_content", 10)]) (N := sl_law) (sc := L2.defScope s_law) (by decide +kernel)) rfl (fun _ _ _ _ _ => (gc_name (i := 10) nd rfl (Or.inl rfl) (Or.inr rfl) (by decide))) (fun _ _ _ _ _ => gts_nil) (fun _ _ _ _ _ => (ge_b1 (ok_len) rfl T.f_len bt_len (ge_pure F_l_shows (hr.mono (Nat.le_succ _)) rfl (ga_cons (ge_var 4) (ga_cons (ge_var 10) ga_nil))))) (by intro _; rfl))) rfl) (gss_one (gs_for PassesOwn.never rfl (gi_seq (ge_lstF (ga_cons (ge_tup (ga_cons ge_bl (ga_cons ge_bl ga_nil))) (ga_cons (ge_tup (ga_cons ge_bl (ga_cons ge_bl ga_nil))) (ga_cons (ge_tup (ga_cons ge_bl (ga_cons ge_bl ga_nil))) (ga_cons (ge_tup (ga_cons ge_bl (ga_cons ge_bl ga_nil))) ga_nil)))))) (gg_name (i := 7) nd rfl (by first | exact Or.inl rfl | exact Or.inr rfl)) (gss_cons (gs_set (i := 8) nd rfl (by first | exact Or.inl rfl | exact Or.inr rfl) (ge_pure F_breach (hr.mono (Nat.le_succ _)) rfl (ga_cons (ge_var 5) (ga_cons (ge_var 7) ga_nil))) rfl) (gss_cons (gs_if (gt_cmp (ok_ne hr.units) (ge_isN (ge_var 8)) (ge_or (ge_cmp (ok_in (hu65 hr)) ge_bl (ge_var 7) rfl) (ge_one (ge_cmp ok_lt (ge_var 6) ge_int (L2.nomark _)))) (L2.nomark _)) (gss_one (gs_ret ge_bl)) gss_nil) (gss_cons (gs_if (gt_notN (ge_var 8)) (gss_one (gs_if (GW.gt (gw_or (gt_not (gt_e (ge_pure F_l_is_breach (hr.mono (Nat.le_succ _)) rfl (ga_cons (ge_var 3) (ga_cons (ge_var 4) (ga_cons (ge_var 7) (ga_cons (ge_var 8) ga_nil))))) (by intro _; rfl))) (gw_or1 (gt_cmp ok_notBl (ge_pure F_is_breach (hr.mono (Nat.le_succ _)) rfl (ga_cons (ge_var 5) (ga_cons (ge_var 7) (ga_cons (ge_var 8) ga_nil)))) ge_bl (L2.nomark _))))) (gss_one (gs_ret ge_bl)) gss_nil)) gss_nil) (gss_cons (gs_set (i := 9) nd rfl (by first | exact Or.inl rfl | exact Or.inr rfl) (ge_pure F_l_contents (hr.mono (Nat.le_succ _)) rfl (ga_cons (ge_var 3) ga_nil)) rfl) (gss_cons (gs_set (i := 10) nd rfl (by first | exact Or.inl rfl | exact Or.inr rfl) (ge_ix (ge_var 9) (ge_call F_l_draw (hr.mono (Nat.le_succ _)) rfl (ga_cons (ge_var 1) (ga_cons (ge_b1 (ok_len) rfl T.f_len bt_len (ge_var 9)) ga_nil))) (fun _ _ => rfl)) rfl) (gss_cons (gs_set (i := 11) nd rfl (by first | exact Or.inl rfl | exact Or.inr rfl) (ge_tup (ga_cons (ge_var 10) (ga_cons (ge_call F_l_some_moves (hr.mono (Nat.le_succ _)) rfl (ga_cons (ge_var 1) (ga_cons (ge_var 4) (ga_cons (ge_var 10) (ga_cons (ge_var 7) ga_nil))))) ga_nil))) rfl) (gss_cons (gs_if (GW.gt (gw_and (gt_notN (ge_var 8)) (gw_and1 (gt_cmp (ok_eq hr.units) (ge_call F_l_draw (hr.mono (Nat.le_succ _)) rfl (ga_cons (ge_var 1) (ga_cons ge_int ga_nil))) ge_int (L2.nomark _))))) (gss_one (gs_set (i := 11) nd rfl (by first | exact Or.inl rfl | exact Or.inr rfl) (ge_var 8) rfl)) gss_nil) (gss_cons (gs_if (gt_cmp (ok_eq hr.units) (ge_call F_l_draw (hr.mono (Nat.le_succ _)) rfl (ga_cons (ge_var 1) (ga_cons ge_int ga_nil))) ge_int (L2.nomark _)) (gss_one (gs_set (i := 11) nd rfl (by first | exact Or.inl rfl | exact Or.inr rfl) (ge_call F_l_bent (hr.mono (Nat.le_succ _)) rfl (ga_cons (ge_var 1) (ga_cons (ge_var 11) ga_nil))) rfl)) gss_nil) (gss_cons (gs_set (i := 12) nd rfl (by first | exact Or.inl rfl | exact Or.inr rfl) (ge_pure F_is_breach (hr.mono (Nat.le_succ _)) rfl (ga_cons (ge_var 5) (ga_cons (ge_var 7) (ga_cons (ge_var 11) ga_nil)))) rfl) (gss_one (gs_if (GW.gt (gw_or (gt_not (gt_e (ge_isI kit_bool rfl T.f_isinstance bt_isinstance rfl T.f_bool bt_bool (ge_var 12)) (by intro _; rfl))) (gw_or1 (gt_cmp (ok_ne hr.units) (ge_var 12) (ge_pure F_l_is_breach (hr.mono (Nat.le_succ _)) rfl (ga_cons (ge_var 3) (ga_cons (ge_var 4) (ga_cons (ge_var 7) (ga_cons (ge_var 11) ga_nil))))) (L2.nomark _))))) (gss_one (gs_ret ge_bl)) gss_nil))))))))))) (by intro _; rfl))))))) (by intro _; rfl)) (gss_one (gs_ret ge_bl))))
end
end G
set_option Elab.async false
set_option linter.all false
set_option maxRecDepth 100000
set_option maxHeartbeats 4000000
namespace G
open PySem PySem.Spec PyProof.Rows
section
variable {P : Program} {w : World} {K : PySem.W.Frag} {mg : Str → Option Value} {base : Heap} {ca : Cl → Addr} {k : Nat}
abbrev sl_is_within : List Str := ["thing", "least", "most"]
theorem sc_is_within : L2.FnScope sl_is_within ["thing", "least", "most"] (L2.defScope s_is_within) := ⟨rfl, rfl, rfl, by decide +kernel, rfl, by decide +kernel, by decide +kernel⟩
theorem dv_is_within (T : Tx K mg ca) {p_is_integer : PSp} (F_is_integer : FnG ca P w K mg base "is_integer" k (liftP p_is_integer)) {fa : Addr} {cdv : Value} {A : Around} {outer : List Env} {s : Shared} {H : L2.Hp} {E : L2.XK} (hr : L2.Room (k + 1) (A.deeper (envOfC "is_within" (L2.defScope s_is_within) s.heap.objs.size fa cdv))) :
    GSs ca (L2.cxOf L2.CX0 P w K mg base sl_is_within "is_within" (L2.defScope s_is_within) fa cdv A outer s H E).nox (L2.defBody s_is_within) (g_is_within p_is_integer) := by
  have nd := sc_is_within.nd
  exact (gss_one (gs_ret (ge_and (ge_pure F_is_integer (hr.mono (Nat.le_succ _)) rfl (ga_cons (ge_var 0) ga_nil)) (ge_one (ge_chain ok_le ok_le (ge_var 1) (ge_var 0) (ge_var 2) rfl)))))
abbrev sl_common_divisor : List Str := ["one", "other"]
theorem sc_common_divisor : L2.FnScope sl_common_divisor ["one", "other"] (L2.defScope s_common_divisor) := ⟨rfl, rfl, rfl, by decide +kernel, rfl, by decide +kernel, by decide +kernel⟩
theorem dv_common_divisor (T : Tx K mg ca) {fa : Addr} {cdv : Value} {A : Around} {outer : List Env} {s : Shared} {H : L2.Hp} {E : L2.XK} (hr : L2.Room (k + 1) (A.deeper (envOfC "common_divisor" (L2.defScope s_common_divisor) s.heap.objs.size fa cdv))) :
    GSs ca (L2.cxOf L2.CX0 P w K mg base sl_common_divisor "common_divisor" (L2.defScope s_common_divisor) fa cdv A outer s H E).nox (L2.defBody s_common_divisor) (g_common_divisor) := by
  have nd := sc_common_divisor.nd
  exact (gss_cons (gs_set (i := 0) nd rfl (by first | exact Or.inl rfl | exact Or.inr rfl) (ge_b1 (ok_abs) rfl T.f_abs bt_abs (ge_var 0)) rfl) (gss_cons (gs_set (i := 1) nd rfl (by first | exact Or.inl rfl | exact Or.inr rfl) (ge_b1 (ok_abs) rfl T.f_abs bt_abs (ge_var 1)) rfl) (gss_cons (gs_while PassesOwn.never (gt_cmp ok_gt (ge_var 1) ge_int (L2.nomark _)) (gss_one (gs_par (i := 0) (j := 1) rfl nd rfl rfl (by decide) rfl rfl (ge_var 1) (ge_op ok_mod (ge_var 0) (ge_var 1)) (by rfl) rfl rfl rfl))) (gss_one (gs_ret (ge_var 0))))))
abbrev sl_is_pattern : List Str := ["columns", "thing", "c"]
theorem sc_is_pattern : L2.FnScope sl_is_pattern ["columns", "thing"] (L2.defScope s_is_pattern) := ⟨rfl, rfl, rfl, by decide +kernel, rfl, by decide +kernel, by decide +kernel⟩
theorem dv_is_pattern (T : Tx K mg ca) {p_is_within : PSp} {p_are_ascending : PSp} (F_is_within : FnG ca P w K mg base "is_within" k (liftP p_is_within)) (F_are_ascending : FnG ca P w K mg base "are_ascending" k (liftP p_are_ascending)) {fa : Addr} {cdv : Value} {A : Around} {outer : List Env} {s : Shared} {H : L2.Hp} {E : L2.XK} (hr : L2.Room (k + 1) (A.deeper (envOfC "is_pattern" (L2.defScope s_is_pattern) s.heap.objs.size fa cdv))) :
    GSs ca (L2.cxOf L2.CX0 P w K mg base sl_is_pattern "is_pattern" (L2.defScope s_is_pattern) fa cdv A outer s H E).nox (L2.defBody s_is_pattern) (g_is_pattern p_is_within p_are_ascending) := by
  have nd := sc_is_pattern.nd
  exact (gss_one (gs_ret (ge_and (ge_isI kit_tup rfl T.f_isinstance bt_isinstance rfl T.f_tuple bt_tuple (ge_var 1)) (ge_and (ge_b1 (ok_all rfl) rfl T.f_all bt_all (ge_compV rfl nd (gi_seq (ge_var 1)) (L2.blkOk_by (own := [("c", 2)]) (N := sl_is_pattern) (sc := L2.defScope s_is_pattern) (by decide +kernel)) rfl (fun _ _ _ _ _ => (gc_name (i := 2) nd rfl (Or.inl rfl) (Or.inr rfl) (by decide))) (fun _ _ _ _ _ => gts_nil) (fun _ _ _ _ _ => (ge_pure F_is_within (hr.mono (Nat.le_succ _)) rfl (ga_cons (ge_var 2) (ga_cons ge_int (ga_cons (ge_op ok_sub (ge_var 0) ge_int) ga_nil))))) (by intro _; rfl))) (ge_one (ge_pure F_are_ascending (hr.mono (Nat.le_succ _)) rfl (ga_cons (ge_var 1) ga_nil)))))))
abbrev sl_State_enter : List Str := ["self", "block", "again"]
theorem sc_State_enter : L2.FnScope sl_State_enter ["self", "block", "again"] (L2.defScope s_State_enter) := ⟨rfl, rfl, rfl, by decide +kernel, rfl, by decide +kernel, by decide +kernel⟩
theorem dv_State_enter (T : Tx K mg ca) {q_State_step : DSp} (F_State_step : MtG ca P w K mg base .state "step" k q_State_step) {fa : Addr} {cdv : Value} {A : Around} {outer : List Env} {s : Shared} {H : L2.Hp} {E : L2.XK} (hr : L2.Room (k + 1) (A.deeper (envOfC "State.enter" (L2.defScope s_State_enter) s.heap.objs.size fa cdv))) :
    GSs ca (L2.cxOf L2.CX0 P w K mg base sl_State_enter "State.enter" (L2.defScope s_State_enter) fa cdv A outer s H E).nox (L2.defBody s_State_enter) (g_State_enter q_State_step) := by
  have nd := sc_State_enter.nd
  exact (gss_cons (gs_expr (ge_meth0 F_State_step (T.cls _) (hr.mono (Nat.le_succ _)) (ge_var 0) (by rfl)) rfl) (gss_one (gs_fld T.cls T.na_place (ge_var 0) (ge_op ok_add (ge_fld T.cls T.na_place (ge_var 0) rfl) (ge_tup (ga_cons (ge_tup (ga_cons (ge_var 1) (ga_cons ge_int (ga_cons (ge_var 2) ga_nil)))) ga_nil))) rfl)))
abbrev sl_after_open : List Str := ["state", "worth", "opened"]
theorem sc_after_open : L2.FnScope sl_after_open ["state", "worth"] (L2.defScope s_after_open) := ⟨rfl, rfl, rfl, by decide +kernel, rfl, by decide +kernel, by decide +kernel⟩
theorem dv_after_open (T : Tx K mg ca) {q_State_init : DSp} (F_State_init : MkG ca P w K mg base .state "State" k q_State_init) {fa : Addr} {cdv : Value} {A : Around} {outer : List Env} {s : Shared} {H : L2.Hp} {E : L2.XK} (hr : L2.Room (k + 1) (A.deeper (envOfC "after_open" (L2.defScope s_after_open) s.heap.objs.size fa cdv))) :
    GSs ca (L2.cxOf L2.CX0 P w K mg base sl_after_open "after_open" (L2.defScope s_after_open) fa cdv A outer s H E).nox (L2.defBody s_after_open) (g_after_open q_State_init) := by
  have nd := sc_after_open.nd
  exact (gss_cons (gs_set (i := 2) nd rfl (by first | exact Or.inl rfl | exact Or.inr rfl) (ge_dictM rfl T.f_dict bt_dict (ge_fld T.cls T.na_opened (ge_var 0) rfl)) rfl) (gss_cons (gs_key (hu1 hr) (ge_var 2) (ge_ix (ge_fld T.cls T.na_deed (ge_var 0) rfl) ge_int (fun _ _ => rfl)) (ge_var 1) rfl (fun a b c => L2.ps_dput (hu1 hr) a b c rfl)) (gss_one (gs_ret (ge_makeF F_State_init hr rfl (ga_cons (ge_fld T.cls T.na_told (ge_var 0) rfl) (ga_cons (ge_var 2) (ga_cons (ge_fld T.cls T.na_place (ge_var 0) rfl) ga_nil))))))))
abbrev sl_is_alike : List Str := ["thing", "wanted", "one", "other"]
theorem sc_is_alike : L2.FnScope sl_is_alike ["thing", "wanted"] (L2.defScope s_is_alike) := ⟨rfl, rfl, rfl, by decide +kernel, rfl, by decide +kernel, by decide +kernel⟩
theorem dv_is_alike (T : Tx K mg ca) {p_is_alike : PSp} {p_is_integer : PSp} (F_is_alike : FnG ca P w K mg base "is_alike" k (liftP p_is_alike)) (F_is_integer : FnG ca P w K mg base "is_integer" k (liftP p_is_integer)) {fa : Addr} {cdv : Value} {A : Around} {outer : List Env} {s : Shared} {H : L2.Hp} {E : L2.XK} (hr : L2.Room (k + 1) (A.deeper (envOfC "is_alike" (L2.defScope s_is_alike) s.heap.objs.size fa cdv))) :
    GSs ca (L2.cxOf L2.CX0 P w K mg base sl_is_alike "is_alike" (L2.defScope s_is_alike) fa cdv A outer s H E).nox (L2.defBody s_is_alike) (g_is_alike p_is_alike p_is_integer) := by
  have nd := sc_is_alike.nd
  exact (gss_cons (gs_if (gt_e (ge_isI kit_tup rfl T.f_isinstance bt_isinstance rfl T.f_tuple bt_tuple (ge_var 1)) (by intro _; rfl)) (gss_cons (gs_if (GW.gt (gw_or (gt_not (gt_e (ge_isI kit_tup rfl T.f_isinstance bt_isinstance rfl T.f_tuple bt_tuple (ge_var 0)) (by intro _; rfl))) (gw_or1 (gt_cmp (ok_ne hr.units) (ge_b1 (ok_len) rfl T.f_len bt_len (ge_var 0)) (ge_b1 (ok_len) rfl T.f_len bt_len (ge_var 1)) (L2.nomark _))))) (gss_one (gs_ret ge_bl)) gss_nil) (gss_one (gs_ret (ge_b1 (ok_all rfl) rfl T.f_all bt_all (ge_compV rfl nd (gi_zip rfl T.f_zip (ga_cons (ge_var 0) (ga_cons (ge_var 1) ga_nil)) rfl rfl) (L2.blkOk_by (own := [("one", 2), ("other", 3)]) (N := sl_is_alike) (sc := L2.defScope s_is_alike) (by decide +kernel)) rfl (fun _ _ _ _ _ => (gc_tup rfl (gcs_cons (gc_name (i := 2) nd rfl (Or.inl rfl) (Or.inr rfl) (by decide)) (gcs_cons (gc_name (i := 3) nd rfl (Or.inl rfl) (Or.inr rfl) (by decide)) gcs_nil rfl) rfl) rfl rfl)) (fun _ _ _ _ _ => gts_nil) (fun _ _ _ _ _ => (ge_pure F_is_alike (hr.mono (Nat.le_succ _)) rfl (ga_cons (ge_var 2) (ga_cons (ge_var 3) ga_nil)))) (by intro _; rfl)))))) gss_nil) (gss_cons (gs_if (gt_e (ge_isI kit_str rfl T.f_isinstance bt_isinstance rfl T.f_str bt_str (ge_var 1)) (by intro _; rfl)) (gss_one (gs_ret (ge_and (ge_isI kit_str rfl T.f_isinstance bt_isinstance rfl T.f_str bt_str (ge_var 0)) (ge_one (ge_cmp (ok_eq hr.units) (ge_var 0) (ge_var 1) (L2.nomark _)))))) gss_nil) (gss_one (gs_ret (ge_and (ge_pure F_is_integer (hr.mono (Nat.le_succ _)) rfl (ga_cons (ge_var 0) ga_nil)) (ge_one (ge_cmp (ok_eq hr.units) (ge_var 0) (ge_var 1) (L2.nomark _))))))))
abbrev sl_Keeper_begin_row : List Str := ["self"]
theorem sc_Keeper_begin_row : L2.FnScope sl_Keeper_begin_row ["self"] (L2.defScope s_Keeper_begin_row) := ⟨rfl, rfl, rfl, by decide +kernel, rfl, by decide +kernel, by decide +kernel⟩
theorem dv_Keeper_begin_row (T : Tx K mg ca) {q_Keeper_row_now : DSp} (F_Keeper_row_now : MtG ca P w K mg base .keeper "row_now" k q_Keeper_row_now) {fa : Addr} {cdv : Value} {A : Around} {outer : List Env} {s : Shared} {H : L2.Hp} {E : L2.XK} (hr : L2.Room (k + 1) (A.deeper (envOfC "Keeper.begin_row" (L2.defScope s_Keeper_begin_row) s.heap.objs.size fa cdv))) :
    GSs ca (L2.cxOf L2.CX0 P w K mg base sl_Keeper_begin_row "Keeper.begin_row" (L2.defScope s_Keeper_begin_row) fa cdv A outer s H E).nox (L2.defBody s_Keeper_begin_row) (g_Keeper_begin_row q_Keeper_row_now) := by
  have nd := sc_Keeper_begin_row.nd
  exact (gss_one (gs_if (gt_not (gt_e (ge_ix (ge_fld T.cls T.na_live (ge_var 0) rfl) ge_int (fun _ _ => rfl)) (by intro _; rfl))) (gss_cons (gs_expr (ge_append (ge_fld T.cls T.na_loose_lines (ge_var 0) rfl) (ge_tup (ga_cons ge_str (ga_cons (ge_meth0 F_Keeper_row_now (T.cls _) (hr.mono (Nat.le_succ _)) (ge_var 0) (by rfl)) ga_nil))) rfl rfl rfl rfl) rfl) (gss_one (gs_fld T.cls T.na_live (ge_var 0) (ge_tup (ga_cons ge_bl (ga_cons (ge_ix (ge_fld T.cls T.na_live (ge_var 0) rfl) ge_int (fun _ _ => rfl)) ga_nil))) rfl))) gss_nil))
abbrev sl_Keeper_fall : List Str := ["self"]
theorem sc_Keeper_fall : L2.FnScope sl_Keeper_fall ["self"] (L2.defScope s_Keeper_fall) := ⟨rfl, rfl, rfl, by decide +kernel, rfl, by decide +kernel, by decide +kernel⟩
theorem dv_Keeper_fall (T : Tx K mg ca) {fa : Addr} {cdv : Value} {A : Around} {outer : List Env} {s : Shared} {H : L2.Hp} {E : L2.XK} (hr : L2.Room (k + 1) (A.deeper (envOfC "Keeper.fall" (L2.defScope s_Keeper_fall) s.heap.objs.size fa cdv))) :
    GSs ca (L2.cxOf L2.CX0 P w K mg base sl_Keeper_fall "Keeper.fall" (L2.defScope s_Keeper_fall) fa cdv A outer s H E).nox (L2.defBody s_Keeper_fall) (g_Keeper_fall) := by
  have nd := sc_Keeper_fall.nd
  exact (gss_cons (gs_fld T.cls T.na_loose_lines (ge_var 0) (ge_lst ga_nil) rfl) (gss_one (gs_fld T.cls T.na_live (ge_var 0) (ge_fld T.cls T.na_sure (ge_var 0) rfl) rfl)))
abbrev sl_is_done : List Str := ["keeper", "move", "deed"]
theorem sc_is_done : L2.FnScope sl_is_done ["keeper", "move"] (L2.defScope s_is_done) := ⟨rfl, rfl, rfl, by decide +kernel, rfl, by decide +kernel, by decide +kernel⟩
theorem dv_is_done (T : Tx K mg ca) {p_is_alike : PSp} {q_Keeper_fall : DSp} {q_Keeper_due : DSp} {p_is_pair : PSp} {p_is_within : PSp} {q_Keeper_throw : DSp} {q_Keeper_go : DSp} (F_is_alike : FnG ca P w K mg base "is_alike" k (liftP p_is_alike)) (F_Keeper_fall : MtG ca P w K mg base .keeper "fall" k q_Keeper_fall) (F_Keeper_due : MtG ca P w K mg base .keeper "due" k q_Keeper_due) (F_is_pair : FnG ca P w K mg base "is_pair" k (liftP p_is_pair)) (F_is_within : FnG ca P w K mg base "is_within" k (liftP p_is_within)) (F_Keeper_throw : MtG ca P w K mg base .keeper "throw" k q_Keeper_throw) (F_Keeper_go : MtG ca P w K mg base .keeper "go" k q_Keeper_go) {fa : Addr} {cdv : Value} {A : Around} {outer : List Env} {s : Shared} {H : L2.Hp} {E : L2.XK} (hr : L2.Room (k + 1) (A.deeper (envOfC "is_done" (L2.defScope s_is_done) s.heap.objs.size fa cdv))) :
    GSs ca (L2.cxOf L2.CX0 P w K mg base sl_is_done "is_done" (L2.defScope s_is_done) fa cdv A outer s H E).nox (L2.defBody s_is_done) (g_is_done p_is_alike q_Keeper_fall q_Keeper_due p_is_pair p_is_within q_Keeper_throw q_Keeper_go) := by
  have nd := sc_is_done.nd
  exact (gss_cons (gs_if (gt_e (ge_pure F_is_alike (hr.mono (Nat.le_succ _)) rfl (ga_cons (ge_var 1) (ga_cons (ge_tup (ga_cons ge_str ga_nil)) ga_nil))) (by intro _; rfl)) (gss_cons (gs_expr (ge_meth0 F_Keeper_fall (T.cls _) (hr.mono (Nat.le_succ _)) (ge_var 0) (by rfl)) rfl) (gss_one (gs_ret ge_bl))) gss_nil) (gss_cons (gs_set (i := 2) nd rfl (by first | exact Or.inl rfl | exact Or.inr rfl) (ge_meth0 F_Keeper_due (T.cls _) (hr.mono (Nat.le_succ _)) (ge_var 0) (by rfl)) rfl) (gss_cons (gs_if (gt_isN (ge_var 2)) (gss_one (gs_ret ge_bl)) gss_nil) (gss_cons (gs_if (gt_cmp (ok_eq hr.units) (ge_ix (ge_var 2) ge_int (fun _ _ => rfl)) ge_str (L2.nomark _)) (gss_cons (gs_if (GW.gt (gw_or (gt_not (gt_e (ge_pure F_is_pair (hr.mono (Nat.le_succ _)) rfl (ga_cons (ge_var 1) ga_nil)) (by intro _; rfl))) (gw_or (gt_not (gt_e (ge_pure F_is_alike (hr.mono (Nat.le_succ _)) rfl (ga_cons (ge_ix (ge_var 1) ge_int (fun _ _ => rfl)) (ga_cons ge_str ga_nil))) (by intro _; rfl))) (gw_or1 (gt_not (gt_e (ge_pure F_is_within (hr.mono (Nat.le_succ _)) rfl (ga_cons (ge_ix (ge_var 1) ge_int (fun _ _ => rfl)) (ga_cons ge_int (ga_cons (ge_op ok_sub (ge_ix (ge_var 2) ge_int (fun _ _ => rfl)) ge_int) ga_nil)))) (by intro _; rfl))))))) (gss_one (gs_ret ge_bl)) gss_nil) (gss_cons (gs_expr (ge_meth F_Keeper_throw (T.cls _) (hr.mono (Nat.le_succ _)) (ge_var 0) (ga_cons (ge_ix (ge_var 1) ge_int (fun _ _ => rfl)) ga_nil) rfl rfl (by rfl)) rfl) (gss_one (gs_ret ge_bl)))) gss_nil) (gss_cons (gs_if (gt_not (gt_e (ge_pure F_is_alike (hr.mono (Nat.le_succ _)) rfl (ga_cons (ge_var 1) (ga_cons (ge_tup (ga_cons ge_str ga_nil)) ga_nil))) (by intro _; rfl))) (gss_one (gs_ret ge_bl)) gss_nil) (gss_cons (gs_expr (ge_meth0 F_Keeper_go (T.cls _) (hr.mono (Nat.le_succ _)) (ge_var 0) (by rfl)) rfl) (gss_one (gs_ret ge_bl))))))))
abbrev sl_Program_init : List Str := ["self", "sizes", "block", "told"]
theorem sc_Program_init : L2.FnScope sl_Program_init ["self", "sizes", "block"] (L2.defScope s_Program_init) := ⟨rfl, rfl, rfl, by decide +kernel, rfl, by decide +kernel, by decide +kernel⟩
theorem dv_Program_init (T : Tx K mg ca) {p_are_sizes : PSp} {p_measured : PSp} {q_Program_keep : DSp} (F_are_sizes : FnG ca P w K mg base "are_sizes" k (liftP p_are_sizes)) (F_measured : FnG ca P w K mg base "measured" k (liftP p_measured)) (F_Program_keep : MtG ca P w K mg base .prog "keep" k q_Program_keep) {fa : Addr} {cdv : Value} {A : Around} {outer : List Env} {s : Shared} {H : L2.Hp} {E : L2.XK} (hr : L2.Room (k + 1) (A.deeper (envOfC "Program.__init__" (L2.defScope s_Program_init) s.heap.objs.size fa cdv))) :
    GSs ca (L2.cxOf L2.CX0 P w K mg base sl_Program_init "Program.__init__" (L2.defScope s_Program_init) fa cdv A outer s H E).nox (L2.defBody s_Program_init) (g_Program_init p_are_sizes p_measured q_Program_keep) := by
  have nd := sc_Program_init.nd
  exact (gss_cons (gs_if (gt_not (gt_e (ge_pure F_are_sizes (hr.mono (Nat.le_succ _)) rfl (ga_cons (ge_var 1) ga_nil)) (by intro _; rfl))) (gss_one gs_never) gss_nil) (gss_cons (gs_set (i := 3) nd rfl (by first | exact Or.inl rfl | exact Or.inr rfl) (ge_pure F_measured (hr.mono (Nat.le_succ _)) rfl (ga_cons (ge_var 1) (ga_cons (ge_var 2) ga_nil))) rfl) (gss_cons (gs_if (gt_isN (ge_var 3)) (gss_one gs_never) gss_nil) (gss_cons (gs_if (gt_cmp ok_gt (ge_ix (ge_var 3) ge_int (fun _ _ => rfl)) (ge_gint rfl T.i_MOST_STATEMENTS) (L2.nomark _)) (gss_one gs_never) gss_nil) (gss_cons (gs_if (gt_cmp ok_gt (ge_ix (ge_var 3) ge_int (fun _ _ => rfl)) (ge_gint rfl T.i_MOST_DEEP) (L2.nomark _)) (gss_one gs_never) gss_nil) (gss_one (gs_expr (ge_meth F_Program_keep (T.cls _) (hr.mono (Nat.le_succ _)) (ge_var 0) (ga_cons (ge_var 1) (ga_cons (ge_var 2) ga_nil)) rfl rfl (by rfl)) rfl)))))))
abbrev sl_l_see : List Str := ["_law_c", "_law_content", "_law_state"]
theorem sc_l_see : L2.FnScope sl_l_see ["_law_c", "_law_content", "_law_state"] (L2.defScope s_l_see) := ⟨rfl, rfl, rfl, by decide +kernel, rfl, by decide +kernel, by decide +kernel⟩
theorem dv_l_see (T : Tx K mg ca) {fa : Addr} {cdv : Value} {A : Around} {outer : List Env} {s : Shared} {H : L2.Hp} {E : L2.XK} (hr : L2.Room (k + 1) (A.deeper (envOfC "_law_see" (L2.defScope s_l_see) s.heap.objs.size fa cdv))) :
    GSs ca (L2.cxOf L2.CX0 P w K mg base sl_l_see "_law_see" (L2.defScope s_l_see) fa cdv A outer s H E).nox (L2.defBody s_l_see) (g_l_see) := by
  have nd := sc_l_see.nd
  exact (gss_one (gs_if (gt_cmp (ok_notIn (hu65 hr)) (ge_var 0) (ge_dget (hu1 hr) (ge_var 2) ge_str (fun _ _ => rfl)) rfl) (gss_cons (gs_expr (ge_append (ge_dget (hu1 hr) (ge_var 2) ge_str (fun _ _ => rfl)) (ge_var 0) rfl rfl rfl rfl) rfl) (gss_one (gs_expr (ge_append (ge_dget (hu1 hr) (ge_var 2) ge_str (fun _ _ => rfl)) (ge_tup (ga_cons ge_str (ga_cons (ge_var 0) (ga_cons (ge_ix (ge_var 1) (ge_var 0) (fun _ _ => rfl)) ga_nil)))) rfl rfl rfl rfl) rfl))) gss_nil))
abbrev sl_l_is_int : List Str := ["_law_thing"]
theorem sc_l_is_int : L2.FnScope sl_l_is_int ["_law_thing"] (L2.defScope s_l_is_int) := ⟨rfl, rfl, rfl, by decide +kernel, rfl, by decide +kernel, by decide +kernel⟩
theorem dv_l_is_int (T : Tx K mg ca) {fa : Addr} {cdv : Value} {A : Around} {outer : List Env} {s : Shared} {H : L2.Hp} {E : L2.XK} (hr : L2.Room (k + 1) (A.deeper (envOfC "_law_is_int" (L2.defScope s_l_is_int) s.heap.objs.size fa cdv))) :
    GSs ca (L2.cxOf L2.CX0 P w K mg base sl_l_is_int "_law_is_int" (L2.defScope s_l_is_int) fa cdv A outer s H E).nox (L2.defBody s_l_is_int) (g_l_is_int) := by
  have nd := sc_l_is_int.nd
  exact (gss_one (gs_ret (ge_and (ge_isI kit_int rfl T.f_isinstance bt_isinstance rfl T.f_int bt_int (ge_var 0)) (ge_one (ge_not (ge_isI kit_bool rfl T.f_isinstance bt_isinstance rfl T.f_bool bt_bool (ge_var 0)))))))
end
end G
set_option Elab.async false
set_option linter.all false
set_option maxRecDepth 100000
set_option maxHeartbeats 4000000
namespace G
open PySem PySem.Spec PyProof.Rows
section
variable {P : Program} {w : World} {K : PySem.W.Frag} {mg : Str → Option Value} {base : Heap} {ca : Cl → Addr} {k : Nat}
abbrev sl_is_number : List Str := ["thing"]
theorem sc_is_number : L2.FnScope sl_is_number ["thing"] (L2.defScope s_is_number) := ⟨rfl, rfl, rfl, by decide +kernel, rfl, by decide +kernel, by decide +kernel⟩
theorem dv_is_number (T : Tx K mg ca) {p_is_integer : PSp} (F_is_integer : FnG ca P w K mg base "is_integer" k (liftP p_is_integer)) {fa : Addr} {cdv : Value} {A : Around} {outer : List Env} {s : Shared} {H : L2.Hp} {E : L2.XK} (hr : L2.Room (k + 1) (A.deeper (envOfC "is_number" (L2.defScope s_is_number) s.heap.objs.size fa cdv))) :
    GSs ca (L2.cxOf L2.CX0 P w K mg base sl_is_number "is_number" (L2.defScope s_is_number) fa cdv A outer s H E).nox (L2.defBody s_is_number) (g_is_number p_is_integer) := by
  have nd := sc_is_number.nd
  exact (gss_one (gs_ret (ge_and (ge_pure F_is_integer (hr.mono (Nat.le_succ _)) rfl (ga_cons (ge_var 0) ga_nil)) (ge_one (ge_cmp ok_ge (ge_var 0) ge_int (L2.nomark _))))))
abbrev sl_made : List Str := ["top", "bottom", "divisor"]
theorem sc_made : L2.FnScope sl_made ["top", "bottom"] (L2.defScope s_made) := ⟨rfl, rfl, rfl, by decide +kernel, rfl, by decide +kernel, by decide +kernel⟩
theorem dv_made (T : Tx K mg ca) {p_common_divisor : PSp} (F_common_divisor : FnG ca P w K mg base "common_divisor" k (liftP p_common_divisor)) {fa : Addr} {cdv : Value} {A : Around} {outer : List Env} {s : Shared} {H : L2.Hp} {E : L2.XK} (hr : L2.Room (k + 1) (A.deeper (envOfC "made" (L2.defScope s_made) s.heap.objs.size fa cdv))) :
    GSs ca (L2.cxOf L2.CX0 P w K mg base sl_made "made" (L2.defScope s_made) fa cdv A outer s H E).nox (L2.defBody s_made) (g_made p_common_divisor) := by
  have nd := sc_made.nd
  exact (gss_cons (gs_set (i := 2) nd rfl (by first | exact Or.inl rfl | exact Or.inr rfl) (ge_pure F_common_divisor (hr.mono (Nat.le_succ _)) rfl (ga_cons (ge_var 0) (ga_cons (ge_var 1) ga_nil))) rfl) (gss_one (gs_ret (ge_tup (ga_cons (ge_op ok_div (ge_var 0) (ge_var 2)) (ga_cons (ge_op ok_div (ge_var 1) (ge_var 2)) ga_nil))))))
abbrev sl_is_content : List Str := ["sizes", "thing", "worth", "size"]
theorem sc_is_content : L2.FnScope sl_is_content ["sizes", "thing"] (L2.defScope s_is_content) := ⟨rfl, rfl, rfl, by decide +kernel, rfl, by decide +kernel, by decide +kernel⟩
theorem dv_is_content (T : Tx K mg ca) {p_is_within : PSp} (F_is_within : FnG ca P w K mg base "is_within" k (liftP p_is_within)) {fa : Addr} {cdv : Value} {A : Around} {outer : List Env} {s : Shared} {H : L2.Hp} {E : L2.XK} (hr : L2.Room (k + 1) (A.deeper (envOfC "is_content" (L2.defScope s_is_content) s.heap.objs.size fa cdv))) :
    GSs ca (L2.cxOf L2.CX0 P w K mg base sl_is_content "is_content" (L2.defScope s_is_content) fa cdv A outer s H E).nox (L2.defBody s_is_content) (g_is_content p_is_within) := by
  have nd := sc_is_content.nd
  exact (gss_cons (gs_if (GW.gt (gw_or (gt_not (gt_e (ge_isI kit_tup rfl T.f_isinstance bt_isinstance rfl T.f_tuple bt_tuple (ge_var 1)) (by intro _; rfl))) (gw_or1 (gt_cmp (ok_ne hr.units) (ge_b1 (ok_len) rfl T.f_len bt_len (ge_var 1)) (ge_b1 (ok_len) rfl T.f_len bt_len (ge_var 0)) (L2.nomark _))))) (gss_one (gs_ret ge_bl)) gss_nil) (gss_one (gs_ret (ge_b1 (ok_all rfl) rfl T.f_all bt_all (ge_compV rfl nd (gi_zip rfl T.f_zip (ga_cons (ge_var 1) (ga_cons (ge_var 0) ga_nil)) rfl rfl) (L2.blkOk_by (own := [("worth", 2), ("size", 3)]) (N := sl_is_content) (sc := L2.defScope s_is_content) (by decide +kernel)) rfl (fun _ _ _ _ _ => (gc_tup rfl (gcs_cons (gc_name (i := 2) nd rfl (Or.inl rfl) (Or.inr rfl) (by decide)) (gcs_cons (gc_name (i := 3) nd rfl (Or.inl rfl) (Or.inr rfl) (by decide)) gcs_nil rfl) rfl) rfl rfl)) (fun _ _ _ _ _ => gts_nil) (fun _ _ _ _ _ => (ge_pure F_is_within (hr.mono (Nat.le_succ _)) rfl (ga_cons (ge_var 2) (ga_cons ge_int (ga_cons (ge_op ok_sub (ge_var 3) ge_int) ga_nil))))) (by intro _; rfl))))))
abbrev sl_State_go_on : List Str := ["self", "statement", "deed"]
theorem sc_State_go_on : L2.FnScope sl_State_go_on ["self"] (L2.defScope s_State_go_on) := ⟨rfl, rfl, rfl, by decide +kernel, rfl, by decide +kernel, by decide +kernel⟩
theorem dv_State_go_on (T : Tx K mg ca) {q_State_statement : DSp} {q_State_met : DSp} (F_State_statement : MtG ca P w K mg base .state "statement" k q_State_statement) (F_State_met : MtG ca P w K mg base .state "met" k q_State_met) {fa : Addr} {cdv : Value} {A : Around} {outer : List Env} {s : Shared} {H : L2.Hp} {E : L2.XK} (hr : L2.Room (k + 1) (A.deeper (envOfC "State.go_on" (L2.defScope s_State_go_on) s.heap.objs.size fa cdv))) :
    GSs ca (L2.cxOf L2.CX0 P w K mg base sl_State_go_on "State.go_on" (L2.defScope s_State_go_on) fa cdv A outer s H E).nox (L2.defBody s_State_go_on) (g_State_go_on q_State_statement q_State_met) := by
  have nd := sc_State_go_on.nd
  exact (gss_cons (gs_while PassesOwn.never (gt_cmp ok_gt (ge_b1 (ok_len) rfl T.f_len bt_len (ge_fld T.cls T.na_place (ge_var 0) rfl)) ge_int (L2.nomark _)) (gss_cons (gs_set (i := 1) nd rfl (by first | exact Or.inl rfl | exact Or.inr rfl) (ge_meth0 F_State_statement (T.cls _) (hr.mono (Nat.le_succ _)) (ge_var 0) (by rfl)) rfl) (gss_one (gs_if (gt_isN (ge_var 1)) gss_never (gss_cons (gs_set (i := 2) nd rfl (by first | exact Or.inl rfl | exact Or.inr rfl) (ge_meth F_State_met (T.cls _) (hr.mono (Nat.le_succ _)) (ge_var 0) (ga_cons (ge_var 1) ga_nil) rfl rfl (by rfl)) rfl) (gss_one (gs_if (gt_notN (ge_var 2)) (gss_one (gs_ret (ge_var 2))) gss_nil))))))) (gss_one (gs_ret (ge_tup (ga_cons ge_str (ga_cons (ge_t1 ok_tuple rfl T.f_tuple bt_tuple (ge_b1 (ok_sorted) rfl T.f_sorted bt_sorted (ge_fld T.cls T.na_opened (ge_var 0) rfl))) ga_nil))))))
abbrev sl_outcomes : List Str := ["program", "content", "found", "waiting", "state", "share", "throws", "part", "value"]
theorem sc_outcomes : L2.FnScope sl_outcomes ["program", "content"] (L2.defScope s_outcomes) := ⟨rfl, rfl, rfl, by decide +kernel, rfl, by decide +kernel, by decide +kernel⟩
theorem dv_outcomes (T : Tx K mg ca) {p_begin : PSp} {p_after_open : PSp} {p_made : PSp} {p_times : PSp} {p_after_throw : PSp} (F_begin : FnG ca P w K mg base "begin" k (liftP p_begin)) (F_after_open : FnG ca P w K mg base "after_open" k (liftP p_after_open)) (F_made : FnG ca P w K mg base "made" k (liftP p_made)) (F_times : FnG ca P w K mg base "times" k (liftP p_times)) (F_after_throw : FnG ca P w K mg base "after_throw" k (liftP p_after_throw)) {fa : Addr} {cdv : Value} {A : Around} {outer : List Env} {s : Shared} {H : L2.Hp} {E : L2.XK} (hr : L2.Room (k + 1) (A.deeper (envOfC "outcomes" (L2.defScope s_outcomes) s.heap.objs.size fa cdv))) :
    GSs ca (L2.cxOf L2.CX0 P w K mg base sl_outcomes "outcomes" (L2.defScope s_outcomes) fa cdv A outer s H E).nox (L2.defBody s_outcomes) (g_outcomes p_begin p_after_open p_made p_times p_after_throw) := by
  have nd := sc_outcomes.nd
  exact (gss_cons (gs_set (i := 2) nd rfl (by first | exact Or.inl rfl | exact Or.inr rfl) (ge_lst ga_nil) rfl) (gss_cons (gs_set (i := 3) nd rfl (by first | exact Or.inl rfl | exact Or.inr rfl) (ge_lst (ga_cons (ge_tup (ga_cons (ge_pure F_begin (hr.mono (Nat.le_succ _)) rfl (ga_cons (ge_var 0) ga_nil)) (ga_cons (ge_gtup rfl T.one.1 T.one.2) (ga_cons (ge_tup ga_nil) ga_nil)))) ga_nil)) rfl) (gss_cons (gs_while PassesOwn.never (gt_cmp ok_gt (ge_b1 (ok_len) rfl T.f_len bt_len (ge_var 3)) ge_int (L2.nomark _)) (gss_cons (gs_asg (ge_pop (ge_var 3) rfl rfl) (gg_tup rfl (ggs_cons (gg_name (i := 4) nd rfl (by first | exact Or.inl rfl | exact Or.inr rfl)) (ggs_cons (gg_name (i := 5) nd rfl (by first | exact Or.inl rfl | exact Or.inr rfl)) (ggs_cons (gg_name (i := 6) nd rfl (by first | exact Or.inl rfl | exact Or.inr rfl)) ggs_nil)))) rfl rfl rfl) (gss_cons (gs_while PassesOwn.never (gt_cmp (ok_eq hr.units) (ge_ix (ge_fld T.cls T.na_deed (ge_var 4) rfl) ge_int (fun _ _ => rfl)) ge_str (L2.nomark _)) (gss_one (gs_set (i := 4) nd rfl (by first | exact Or.inl rfl | exact Or.inr rfl) (ge_pure F_after_open (hr.mono (Nat.le_succ _)) rfl (ga_cons (ge_var 4) (ga_cons (ge_ix (ge_var 1) (ge_ix (ge_fld T.cls T.na_deed (ge_var 4) rfl) ge_int (fun _ _ => rfl)) (fun _ _ => rfl)) ga_nil))) rfl))) (gss_cons (gs_if (gt_cmp (ok_eq hr.units) (ge_ix (ge_fld T.cls T.na_deed (ge_var 4) rfl) ge_int (fun _ _ => rfl)) ge_str (L2.nomark _)) (gss_one (gs_expr (ge_append (ge_var 2) (ge_tup (ga_cons (ge_var 5) (ga_cons (ge_ix (ge_fld T.cls T.na_deed (ge_var 4) rfl) ge_int (fun _ _ => rfl)) (ga_cons (ge_t1 (ok_tupleD rfl) rfl T.f_tuple bt_tuple (ge_fld T.cls T.na_opened (ge_var 4) rfl)) (ga_cons (ge_var 6) ga_nil))))) rfl rfl rfl rfl) rfl)) (gss_cons (gs_set (i := 7) nd rfl (by first | exact Or.inl rfl | exact Or.inr rfl) (ge_pure F_times (hr.mono (Nat.le_succ _)) rfl (ga_cons (ge_var 5) (ga_cons (ge_pure F_made (hr.mono (Nat.le_succ _)) rfl (ga_cons ge_int (ga_cons (ge_ix (ge_fld T.cls T.na_deed (ge_var 4) rfl) ge_int (fun _ _ => rfl)) ga_nil))) ga_nil))) rfl) (gss_one (gs_for PassesOwn.never rfl (gi_down rfl T.f_range (ga_cons (ge_op ok_sub (ge_ix (ge_fld T.cls T.na_deed (ge_var 4) rfl) ge_int (fun _ _ => rfl)) ge_int) (ga_cons (ge_neg ge_int) (ga_cons (ge_neg ge_int) ga_nil))) rfl rfl) (gg_name (i := 8) nd rfl (by first | exact Or.inl rfl | exact Or.inr rfl)) (gss_one (gs_expr (ge_append (ge_var 3) (ge_tup (ga_cons (ge_pure F_after_throw (hr.mono (Nat.le_succ _)) rfl (ga_cons (ge_var 4) (ga_cons (ge_var 8) ga_nil))) (ga_cons (ge_var 7) (ga_cons (ge_op ok_add (ge_var 6) (ge_tup (ga_cons (ge_var 8) ga_nil))) ga_nil)))) rfl rfl rfl rfl) rfl)) (by intro _; rfl))))) (gss_one (gs_if (gt_cmp ok_gt (ge_op ok_add (ge_b1 (ok_len) rfl T.f_len bt_len (ge_var 2)) (ge_b1 (ok_len) rfl T.f_len bt_len (ge_var 3))) (ge_gint rfl T.i_MOST_RUNS) (L2.nomark _)) (gss_one gs_never) gss_nil)))))) (gss_one (gs_ret (ge_fz (ge_var 2)))))))
abbrev sl_Keeper_init : List Str := ["self", "program", "policy"]
theorem sc_Keeper_init : L2.FnScope sl_Keeper_init ["self", "program", "policy"] (L2.defScope s_Keeper_init) := ⟨rfl, rfl, rfl, by decide +kernel, rfl, by decide +kernel, by decide +kernel⟩
theorem dv_Keeper_init (T : Tx K mg ca) {p_check_policy : PSp} {q_Keeper_next_row : DSp} (F_check_policy : FnG ca P w K mg base "check_policy" k (liftP p_check_policy)) (F_Keeper_next_row : MtG ca P w K mg base .keeper "next_row" k q_Keeper_next_row) {fa : Addr} {cdv : Value} {A : Around} {outer : List Env} {s : Shared} {H : L2.Hp} {E : L2.XK} (hr : L2.Room (k + 1) (A.deeper (envOfC "Keeper.__init__" (L2.defScope s_Keeper_init) s.heap.objs.size fa cdv))) :
    GSs ca (L2.cxOf L2.CX0 P w K mg base sl_Keeper_init "Keeper.__init__" (L2.defScope s_Keeper_init) fa cdv A outer s H E).nox (L2.defBody s_Keeper_init) (g_Keeper_init p_check_policy q_Keeper_next_row) := by
  have nd := sc_Keeper_init.nd
  exact (gss_cons (gs_expr (ge_pure F_check_policy (hr.mono (Nat.le_succ _)) rfl (ga_cons (ge_var 2) ga_nil)) rfl) (gss_cons (gs_fld T.cls T.na_program (ge_var 0) (ge_var 1) rfl) (gss_cons (gs_fld T.cls T.na_policy (ge_var 0) (ge_var 2) rfl) (gss_cons (gs_fld T.cls T.na_contents_put (ge_var 0) (ge_lst ga_nil) rfl) (gss_cons (gs_fld T.cls T.na_columns_seen (ge_var 0) (ge_lst ga_nil) rfl) (gss_cons (gs_fld T.cls T.na_patterns_told (ge_var 0) (ge_lst ga_nil) rfl) (gss_cons (gs_fld T.cls T.na_sure_lines (ge_var 0) (ge_lst ga_nil) rfl) (gss_cons (gs_fld T.cls T.na_loose_lines (ge_var 0) (ge_lst ga_nil) rfl) (gss_one (gs_expr (ge_meth0 F_Keeper_next_row (T.cls _) (hr.mono (Nat.le_succ _)) (ge_var 0) (by rfl)) rfl))))))))))
abbrev sl_Keeper_make_sure : List Str := ["self"]
theorem sc_Keeper_make_sure : L2.FnScope sl_Keeper_make_sure ["self"] (L2.defScope s_Keeper_make_sure) := ⟨rfl, rfl, rfl, by decide +kernel, rfl, by decide +kernel, by decide +kernel⟩
theorem dv_Keeper_make_sure (T : Tx K mg ca) {fa : Addr} {cdv : Value} {A : Around} {outer : List Env} {s : Shared} {H : L2.Hp} {E : L2.XK} (hr : L2.Room (k + 1) (A.deeper (envOfC "Keeper.make_sure" (L2.defScope s_Keeper_make_sure) s.heap.objs.size fa cdv))) :
    GSs ca (L2.cxOf L2.CX0 P w K mg base sl_Keeper_make_sure "Keeper.make_sure" (L2.defScope s_Keeper_make_sure) fa cdv A outer s H E).nox (L2.defBody s_Keeper_make_sure) (g_Keeper_make_sure) := by
  have nd := sc_Keeper_make_sure.nd
  exact (gss_cons (gs_expr (ge_extend (ge_fld T.cls T.na_sure_lines (ge_var 0) rfl) (ge_fld T.cls T.na_loose_lines (ge_var 0) rfl) rfl rfl rfl rfl) rfl) (gss_cons (gs_fld T.cls T.na_loose_lines (ge_var 0) (ge_lst ga_nil) rfl) (gss_one (gs_fld T.cls T.na_sure (ge_var 0) (ge_fld T.cls T.na_live (ge_var 0) rfl) rfl))))
abbrev sl_Keeper_peeked : List Str := ["self", "many", "pattern", "columns", "c"]
theorem sc_Keeper_peeked : L2.FnScope sl_Keeper_peeked ["self"] (L2.defScope s_Keeper_peeked) := ⟨rfl, rfl, rfl, by decide +kernel, rfl, by decide +kernel, by decide +kernel⟩
theorem dv_Keeper_peeked (T : Tx K mg ca) {fa : Addr} {cdv : Value} {A : Around} {outer : List Env} {s : Shared} {H : L2.Hp} {E : L2.XK} (hr : L2.Room (k + 1) (A.deeper (envOfC "Keeper.peeked" (L2.defScope s_Keeper_peeked) s.heap.objs.size fa cdv))) :
    GSs ca (L2.cxOf L2.CX0 P w K mg base sl_Keeper_peeked "Keeper.peeked" (L2.defScope s_Keeper_peeked) fa cdv A outer s H E).nox (L2.defBody s_Keeper_peeked) (g_Keeper_peeked) := by
  have nd := sc_Keeper_peeked.nd
  exact (gss_cons (gs_set (i := 1) nd rfl (by first | exact Or.inl rfl | exact Or.inr rfl) ge_int rfl) (gss_cons (gs_for PassesOwn.never rfl (gi_zip rfl T.f_zip (ga_cons (ge_fz (ge_fld T.cls T.na_patterns_told (ge_var 0) rfl)) (ga_cons (ge_fz (ge_fld T.cls T.na_columns_seen (ge_var 0) rfl)) ga_nil)) rfl rfl) (gg_tup rfl (ggs_cons (gg_name (i := 2) nd rfl (by first | exact Or.inl rfl | exact Or.inr rfl)) (ggs_cons (gg_name (i := 3) nd rfl (by first | exact Or.inl rfl | exact Or.inr rfl)) ggs_nil))) (gss_one (gs_aug (i := 1) nd rfl (by first | exact Or.inl rfl | exact Or.inr rfl) (ge_b1 (ok_len) rfl T.f_len bt_len (ge_compV rfl nd (gi_seq (ge_var 3)) (L2.blkOk_by (own := [("c", 4)]) (N := sl_Keeper_peeked) (sc := L2.defScope s_Keeper_peeked) (by decide +kernel)) rfl (fun _ _ _ _ _ => (gc_name (i := 4) nd rfl (Or.inl rfl) (Or.inr rfl) (by decide))) (fun _ _ _ _ _ => (gts_one (gt_cmp (ok_notIn (hu65 hr)) (ge_var 4) (ge_var 2) rfl))) (fun _ _ _ _ _ => (ge_var 4)) (by intro _; rfl))))) (by intro _; rfl)) (gss_one (gs_ret (ge_var 1)))))
abbrev sl_is_breach : List Str := ["program", "policy", "thing", "keeper", "move"]
theorem sc_is_breach : L2.FnScope sl_is_breach ["program", "policy", "thing"] (L2.defScope s_is_breach) := ⟨rfl, rfl, rfl, by decide +kernel, rfl, by decide +kernel, by decide +kernel⟩
theorem dv_is_breach (T : Tx K mg ca) {p_check_blind : PSp} {p_is_pair : PSp} {p_is_content : PSp} {p_is_row : PSp} {q_Keeper_init : DSp} {q_Keeper_put : DSp} {q_is_done : DSp} {q_Keeper_peeked : DSp} (F_check_blind : FnG ca P w K mg base "check_blind" k (liftP p_check_blind)) (F_is_pair : FnG ca P w K mg base "is_pair" k (liftP p_is_pair)) (F_is_content : FnG ca P w K mg base "is_content" k (liftP p_is_content)) (F_is_row : FnG ca P w K mg base "is_row" k (liftP p_is_row)) (F_Keeper_init : MkG ca P w K mg base .keeper "Keeper" k q_Keeper_init) (F_Keeper_put : MtG ca P w K mg base .keeper "put" k q_Keeper_put) (F_is_done : FnG ca P w K mg base "is_done" k q_is_done) (F_Keeper_peeked : MtG ca P w K mg base .keeper "peeked" k q_Keeper_peeked) {fa : Addr} {cdv : Value} {A : Around} {outer : List Env} {s : Shared} {H : L2.Hp} {E : L2.XK} (hr : L2.Room (k + 1) (A.deeper (envOfC "is_breach" (L2.defScope s_is_breach) s.heap.objs.size fa cdv))) :
    GSs ca (L2.cxOf L2.CX0 P w K mg base sl_is_breach "is_breach" (L2.defScope s_is_breach) fa cdv A outer s H E).nox (L2.defBody s_is_breach) (g_is_breach p_check_blind p_is_pair p_is_content p_is_row q_Keeper_init q_Keeper_put q_is_done q_Keeper_peeked) := by
  have nd := sc_is_breach.nd
  exact (gss_cons (gs_expr (ge_pure F_check_blind (hr.mono (Nat.le_succ _)) rfl (ga_cons (ge_var 0) (ga_cons (ge_var 1) ga_nil))) rfl) (gss_cons (gs_if (GW.gt (gw_or (gt_not (gt_e (ge_pure F_is_pair (hr.mono (Nat.le_succ _)) rfl (ga_cons (ge_var 2) ga_nil)) (by intro _; rfl))) (gw_or (gt_not (gt_e (ge_pure F_is_content (hr.mono (Nat.le_succ _)) rfl (ga_cons (ge_fld T.cls T.na_sizes (ge_var 0) rfl) (ga_cons (ge_ix (ge_var 2) ge_int (fun _ _ => rfl)) ga_nil))) (by intro _; rfl))) (gw_or1 (gt_not (gt_e (ge_pure F_is_row (hr.mono (Nat.le_succ _)) rfl (ga_cons (ge_ix (ge_var 2) ge_int (fun _ _ => rfl)) ga_nil)) (by intro _; rfl))))))) (gss_one (gs_ret ge_bl)) gss_nil) (gss_cons (gs_set (i := 3) nd rfl (by first | exact Or.inl rfl | exact Or.inr rfl) (ge_make F_Keeper_init hr rfl (ga_cons (ge_var 0) (ga_cons (ge_var 1) ga_nil))) rfl) (gss_cons (gs_expr (ge_meth F_Keeper_put (T.cls _) (hr.mono (Nat.le_succ _)) (ge_var 3) (ga_cons (ge_ix (ge_var 2) ge_int (fun _ _ => rfl)) ga_nil) rfl rfl (by rfl)) rfl) (gss_cons (gs_for PassesOwn.never rfl (gi_seq (ge_ix (ge_var 2) ge_int (fun _ _ => rfl))) (gg_name (i := 4) nd rfl (by first | exact Or.inl rfl | exact Or.inr rfl)) (gss_one (gs_if (gt_not (gt_e (ge_call F_is_done (hr.mono (Nat.le_succ _)) rfl (ga_cons (ge_var 3) (ga_cons (ge_var 4) ga_nil))) (by intro _; rfl))) (gss_one (gs_ret ge_bl)) gss_nil)) (by intro _; rfl)) (gss_one (gs_ret (ge_cmp ok_gt (ge_meth0 F_Keeper_peeked (T.cls _) (hr.mono (Nat.le_succ _)) (ge_var 3) (by rfl)) ge_int (L2.nomark _)))))))))
abbrev sl_Program_keep : List Str := ["self", "sizes", "block"]
theorem sc_Program_keep : L2.FnScope sl_Program_keep ["self", "sizes", "block"] (L2.defScope s_Program_keep) := ⟨rfl, rfl, rfl, by decide +kernel, rfl, by decide +kernel, by decide +kernel⟩
theorem dv_Program_keep (T : Tx K mg ca) {fa : Addr} {cdv : Value} {A : Around} {outer : List Env} {s : Shared} {H : L2.Hp} {E : L2.XK} (hr : L2.Room (k + 1) (A.deeper (envOfC "Program.keep" (L2.defScope s_Program_keep) s.heap.objs.size fa cdv))) :
    GSs ca (L2.cxOf L2.CX0 P w K mg base sl_Program_keep "Program.keep" (L2.defScope s_Program_keep) fa cdv A outer s H E).nox (L2.defBody s_Program_keep) (g_Program_keep) := by
  have nd := sc_Program_keep.nd
  exact (gss_cons (gs_fld T.cls T.na_sizes (ge_var 0) (ge_var 1) rfl) (gss_one (gs_fld T.cls T.na_block (ge_var 0) (ge_var 2) rfl)))
abbrev sl_l_do : List Str := ["_law_block", "_law_content", "_law_throws", "_law_state", "_law_statement", "_law_word", "_law_turn", "_law_c", "_law_test", "_law_is_so"]
theorem sc_l_do : L2.FnScope sl_l_do ["_law_block", "_law_content", "_law_throws", "_law_state"] (L2.defScope s_l_do) := ⟨rfl, rfl, rfl, by decide +kernel, rfl, by decide +kernel, by decide +kernel⟩
theorem dv_l_do (T : Tx K mg ca) {q_l_see : DSp} {q_l_do : DSp} (F_l_see : FnG ca P w K mg base "_law_see" k q_l_see) (F_l_do : FnG ca P w K mg base "_law_do" k q_l_do) {fa : Addr} {cdv : Value} {A : Around} {outer : List Env} {s : Shared} {H : L2.Hp} {E : L2.XK} (hr : L2.Room (k + 1) (A.deeper (envOfC "_law_do" (L2.defScope s_l_do) s.heap.objs.size fa cdv))) :
    GSs ca (L2.cxOf L2.CX0 P w K mg base sl_l_do "_law_do" (L2.defScope s_l_do) fa cdv A outer s H E).nox (L2.defBody s_l_do) (g_l_do q_l_see q_l_do) := by
  have nd := sc_l_do.nd
  exact (gss_cons (gs_for PassesOwn.never rfl (gi_seq (ge_var 0)) (gg_name (i := 4) nd rfl (by first | exact Or.inl rfl | exact Or.inr rfl)) (gss_cons (gs_if (gt_e (ge_dget (hu1 hr) (ge_var 3) ge_str (fun _ _ => rfl)) (by intro _; rfl)) (gss_one (gs_ret ge_non)) gss_nil) (gss_cons (gs_set (i := 5) nd rfl (by first | exact Or.inl rfl | exact Or.inr rfl) (ge_ix (ge_var 4) ge_int (fun _ _ => rfl)) rfl) (gss_one (gs_if (gt_cmp (ok_eq hr.units) (ge_var 5) ge_str (L2.nomark _)) (gss_one (gs_expr (ge_call F_l_see (hr.mono (Nat.le_succ _)) rfl (ga_cons (ge_ix (ge_var 4) ge_int (fun _ _ => rfl)) (ga_cons (ge_var 1) (ga_cons (ge_var 3) ga_nil)))) rfl)) (gss_one (gs_if (gt_cmp (ok_eq hr.units) (ge_var 5) ge_str (L2.nomark _)) (gss_one (gs_if (gt_cmp (ok_eq hr.units) (ge_dget (hu1 hr) (ge_var 3) ge_str (fun _ _ => rfl)) (ge_b1 (ok_len) rfl T.f_len bt_len (ge_var 2)) (L2.nomark _)) (gss_cons (gs_expr (ge_append (ge_dget (hu1 hr) (ge_var 3) ge_str (fun _ _ => rfl)) (ge_tup (ga_cons ge_str (ga_cons (ge_ix (ge_var 4) ge_int (fun _ _ => rfl)) ga_nil))) rfl rfl rfl rfl) rfl) (gss_one (gs_key (hu1 hr) (ge_var 3) ge_str ge_bl rfl (fun a b c => L2.ps_dput (hu1 hr) a b c rfl)))) (gss_cons (gs_key (hu1 hr) (ge_dget (hu1 hr) (ge_var 3) ge_str (fun _ _ => rfl)) (ge_ix (ge_var 4) ge_int (fun _ _ => rfl)) (ge_ix (ge_var 2) (ge_dget (hu1 hr) (ge_var 3) ge_str (fun _ _ => rfl)) (fun _ _ => rfl)) rfl (fun a b c => L2.ps_dput (hu1 hr) a b c rfl)) (gss_cons (gs_expr (ge_append (ge_dget (hu1 hr) (ge_var 3) ge_str (fun _ _ => rfl)) (ge_tup (ga_cons ge_str (ga_cons (ge_ix (ge_var 2) (ge_dget (hu1 hr) (ge_var 3) ge_str (fun _ _ => rfl)) (fun _ _ => rfl)) ga_nil))) rfl rfl rfl rfl) rfl) (gss_one (gs_key (hu1 hr) (ge_var 3) ge_str (ge_op ok_add (ge_dget (hu1 hr) (ge_var 3) ge_str (fun _ _ => rfl)) ge_int) rfl (fun a b c => L2.ps_dput (hu1 hr) a b c rfl))))))) (gss_one (gs_if (gt_cmp (ok_eq hr.units) (ge_var 5) ge_str (L2.nomark _)) gss_never (gss_one (gs_if (gt_cmp (ok_eq hr.units) (ge_var 5) ge_str (L2.nomark _)) gss_never (gss_one (gs_if (gt_cmp (ok_eq hr.units) (ge_var 5) ge_str (L2.nomark _)) (gss_cons (gs_for PassesOwn.never rfl (gi_seq (ge_ix (ge_var 4) ge_int (fun _ _ => rfl))) (gg_name (i := 7) nd rfl (by first | exact Or.inl rfl | exact Or.inr rfl)) (gss_one (gs_expr (ge_call F_l_see (hr.mono (Nat.le_succ _)) rfl (ga_cons (ge_var 7) (ga_cons (ge_var 1) (ga_cons (ge_var 3) ga_nil)))) rfl)) (by intro _; rfl)) (gss_cons (gs_expr (ge_append (ge_dget (hu1 hr) (ge_var 3) ge_str (fun _ _ => rfl)) (ge_var 4) rfl rfl rfl rfl) rfl) (gss_one (gs_key (hu1 hr) (ge_var 3) ge_str ge_bl rfl (fun a b c => L2.ps_dput (hu1 hr) a b c rfl))))) (gss_cons (gs_set (i := 8) nd rfl (by first | exact Or.inl rfl | exact Or.inr rfl) (ge_ix (ge_var 4) ge_int (fun _ _ => rfl)) rfl) (gss_cons (gs_if (gt_cmp (ok_eq hr.units) (ge_ix (ge_var 8) ge_int (fun _ _ => rfl)) ge_str (L2.nomark _)) (gss_cons (gs_expr (ge_call F_l_see (hr.mono (Nat.le_succ _)) rfl (ga_cons (ge_ix (ge_var 8) ge_int (fun _ _ => rfl)) (ga_cons (ge_var 1) (ga_cons (ge_var 3) ga_nil)))) rfl) (gss_one (gs_set (i := 9) nd rfl (by first | exact Or.inl rfl | exact Or.inr rfl) (ge_cmp (ok_eq hr.units) (ge_ix (ge_var 1) (ge_ix (ge_var 8) ge_int (fun _ _ => rfl)) (fun _ _ => rfl)) (ge_ix (ge_var 8) ge_int (fun _ _ => rfl)) (L2.nomark _)) rfl))) (gss_one (gs_set (i := 9) nd rfl (by first | exact Or.inl rfl | exact Or.inr rfl) (ge_cmp (ok_eq hr.units) (ge_get (hu1 hr) (ge_dget (hu1 hr) (ge_var 3) ge_str (fun _ _ => rfl)) (ge_ix (ge_var 8) ge_int (fun _ _ => rfl)) ge_int ⟨rfl, rfl, rfl, rfl⟩) (ge_ix (ge_var 8) ge_int (fun _ _ => rfl)) (L2.nomark _)) rfl))) (gss_one (gs_expr (ge_call F_l_do (hr.mono (Nat.le_succ _)) rfl (ga_cons (ge_if (gt_e (ge_var 9) (by intro _; rfl)) (ge_ix (ge_var 4) ge_int (fun _ _ => rfl)) (ge_ix (ge_var 4) ge_int (fun _ _ => rfl))) (ga_cons (ge_var 1) (ga_cons (ge_var 2) (ga_cons (ge_var 3) ga_nil))))) rfl)))))))))))))))) (by intro _; rfl)) (gss_one (gs_ret ge_non)))
abbrev sl_l_is_move : List Str := ["_law_thing"]
theorem sc_l_is_move : L2.FnScope sl_l_is_move ["_law_thing"] (L2.defScope s_l_is_move) := ⟨rfl, rfl, rfl, by decide +kernel, rfl, by decide +kernel, by decide +kernel⟩
theorem dv_l_is_move (T : Tx K mg ca) {p_l_is_int : PSp} (F_l_is_int : FnG ca P w K mg base "_law_is_int" k (liftP p_l_is_int)) {fa : Addr} {cdv : Value} {A : Around} {outer : List Env} {s : Shared} {H : L2.Hp} {E : L2.XK} (hr : L2.Room (k + 1) (A.deeper (envOfC "_law_is_move" (L2.defScope s_l_is_move) s.heap.objs.size fa cdv))) :
    GSs ca (L2.cxOf L2.CX0 P w K mg base sl_l_is_move "_law_is_move" (L2.defScope s_l_is_move) fa cdv A outer s H E).nox (L2.defBody s_l_is_move) (g_l_is_move p_l_is_int) := by
  have nd := sc_l_is_move.nd
  exact (gss_cons (gs_if (GW.gt (gw_or (gt_not (gt_e (ge_isI kit_tup rfl T.f_isinstance bt_isinstance rfl T.f_tuple bt_tuple (ge_var 0)) (by intro _; rfl))) (gw_or1 (gt_cmp (ok_eq hr.units) (ge_var 0) (ge_tup ga_nil) (L2.nomark _))))) (gss_one (gs_ret ge_bl)) gss_nil) (gss_cons (gs_if (gt_cmp (ok_eq hr.units) (ge_ix (ge_var 0) ge_int (fun _ _ => rfl)) ge_str (L2.nomark _)) (gss_one (gs_ret (ge_and (ge_cmp (ok_eq hr.units) (ge_b1 (ok_len) rfl T.f_len bt_len (ge_var 0)) ge_int (L2.nomark _)) (ge_and (ge_pure F_l_is_int (hr.mono (Nat.le_succ _)) rfl (ga_cons (ge_ix (ge_var 0) ge_int (fun _ _ => rfl)) ga_nil)) (ge_one (ge_cmp ok_ge (ge_ix (ge_var 0) ge_int (fun _ _ => rfl)) ge_int (L2.nomark _))))))) gss_nil) (gss_one (gs_ret (ge_cmp (ok_in (hu65 hr)) (ge_var 0) (ge_lstF (ga_cons (ge_tup (ga_cons ge_str ga_nil)) (ga_cons (ge_tup (ga_cons ge_str ga_nil)) ga_nil))) rfl)))))
end
end G
set_option Elab.async false
set_option linter.all false
set_option maxRecDepth 100000
set_option maxHeartbeats 4000000
namespace G
open PySem PySem.Spec PyProof.Rows
section
variable {P : Program} {w : World} {K : PySem.W.Frag} {mg : Str → Option Value} {base : Heap} {ca : Cl → Addr} {k : Nat}
abbrev sl_is_pair : List Str := ["thing"]
theorem sc_is_pair : L2.FnScope sl_is_pair ["thing"] (L2.defScope s_is_pair) := ⟨rfl, rfl, rfl, by decide +kernel, rfl, by decide +kernel, by decide +kernel⟩
theorem dv_is_pair (T : Tx K mg ca) {fa : Addr} {cdv : Value} {A : Around} {outer : List Env} {s : Shared} {H : L2.Hp} {E : L2.XK} (hr : L2.Room (k + 1) (A.deeper (envOfC "is_pair" (L2.defScope s_is_pair) s.heap.objs.size fa cdv))) :
    GSs ca (L2.cxOf L2.CX0 P w K mg base sl_is_pair "is_pair" (L2.defScope s_is_pair) fa cdv A outer s H E).nox (L2.defBody s_is_pair) (g_is_pair) := by
  have nd := sc_is_pair.nd
  exact (gss_one (gs_ret (ge_and (ge_isI kit_tup rfl T.f_isinstance bt_isinstance rfl T.f_tuple bt_tuple (ge_var 0)) (ge_one (ge_cmp (ok_eq hr.units) (ge_b1 (ok_len) rfl T.f_len bt_len (ge_var 0)) ge_int (L2.nomark _))))))
abbrev sl_times : List Str := ["one", "other"]
theorem sc_times : L2.FnScope sl_times ["one", "other"] (L2.defScope s_times) := ⟨rfl, rfl, rfl, by decide +kernel, rfl, by decide +kernel, by decide +kernel⟩
theorem dv_times (T : Tx K mg ca) {p_made : PSp} (F_made : FnG ca P w K mg base "made" k (liftP p_made)) {fa : Addr} {cdv : Value} {A : Around} {outer : List Env} {s : Shared} {H : L2.Hp} {E : L2.XK} (hr : L2.Room (k + 1) (A.deeper (envOfC "times" (L2.defScope s_times) s.heap.objs.size fa cdv))) :
    GSs ca (L2.cxOf L2.CX0 P w K mg base sl_times "times" (L2.defScope s_times) fa cdv A outer s H E).nox (L2.defBody s_times) (g_times p_made) := by
  have nd := sc_times.nd
  exact (gss_one (gs_ret (ge_pure F_made (hr.mono (Nat.le_succ _)) rfl (ga_cons (ge_op ok_mul (ge_ix (ge_var 0) ge_int (fun _ _ => rfl)) (ge_ix (ge_var 1) ge_int (fun _ _ => rfl))) (ga_cons (ge_op ok_mul (ge_ix (ge_var 0) ge_int (fun _ _ => rfl)) (ge_ix (ge_var 1) ge_int (fun _ _ => rfl))) ga_nil)))))
abbrev sl_check_content : List Str := ["sizes", "thing"]
theorem sc_check_content : L2.FnScope sl_check_content ["sizes", "thing"] (L2.defScope s_check_content) := ⟨rfl, rfl, rfl, by decide +kernel, rfl, by decide +kernel, by decide +kernel⟩
theorem dv_check_content (T : Tx K mg ca) {p_is_content : PSp} (F_is_content : FnG ca P w K mg base "is_content" k (liftP p_is_content)) {fa : Addr} {cdv : Value} {A : Around} {outer : List Env} {s : Shared} {H : L2.Hp} {E : L2.XK} (hr : L2.Room (k + 1) (A.deeper (envOfC "check_content" (L2.defScope s_check_content) s.heap.objs.size fa cdv))) :
    GSs ca (L2.cxOf L2.CX0 P w K mg base sl_check_content "check_content" (L2.defScope s_check_content) fa cdv A outer s H E).nox (L2.defBody s_check_content) (g_check_content p_is_content) := by
  have nd := sc_check_content.nd
  exact (gss_one (gs_if (gt_not (gt_e (ge_pure F_is_content (hr.mono (Nat.le_succ _)) rfl (ga_cons (ge_var 0) (ga_cons (ge_var 1) ga_nil))) (by intro _; rfl))) (gss_one gs_never) gss_nil))
abbrev sl_State_met : List Str := ["self", "statement", "closed", "c"]
theorem sc_State_met : L2.FnScope sl_State_met ["self", "statement"] (L2.defScope s_State_met) := ⟨rfl, rfl, rfl, by decide +kernel, rfl, by decide +kernel, by decide +kernel⟩
theorem dv_State_met (T : Tx K mg ca) {q_State_step : DSp} {q_State_tested : DSp} (F_State_step : MtG ca P w K mg base .state "step" k q_State_step) (F_State_tested : MtG ca P w K mg base .state "tested" k q_State_tested) {fa : Addr} {cdv : Value} {A : Around} {outer : List Env} {s : Shared} {H : L2.Hp} {E : L2.XK} (hr : L2.Room (k + 1) (A.deeper (envOfC "State.met" (L2.defScope s_State_met) s.heap.objs.size fa cdv))) :
    GSs ca (L2.cxOf L2.CX0 P w K mg base sl_State_met "State.met" (L2.defScope s_State_met) fa cdv A outer s H E).nox (L2.defBody s_State_met) (g_State_met q_State_step q_State_tested) := by
  have nd := sc_State_met.nd
  exact (gss_cons (gs_if (gt_cmp (ok_eq hr.units) (ge_ix (ge_var 1) ge_int (fun _ _ => rfl)) ge_str (L2.nomark _)) (gss_one (gs_ret (ge_tup (ga_cons ge_str (ga_cons (ge_ix (ge_var 1) ge_int (fun _ _ => rfl)) ga_nil))))) gss_nil) (gss_cons (gs_if (gt_cmp (ok_eq hr.units) (ge_ix (ge_var 1) ge_int (fun _ _ => rfl)) ge_str (L2.nomark _)) (gss_cons (gs_compV (i := 2) rfl nd rfl rfl (L2.sw_true rfl rfl rfl (by decide +kernel)) (gi_seq (ge_ix (ge_var 1) ge_int (fun _ _ => rfl))) (L2.blkOk_by (own := [("c", 3)]) (N := sl_State_met) (sc := L2.defScope s_State_met) (by decide +kernel)) rfl (fun _ _ _ _ _ => (gc_name (i := 3) nd rfl (Or.inl rfl) (Or.inr rfl) (by decide))) (fun _ _ _ _ _ => (gts_one (gt_dnotin (hu1 hr) (ge_var 3) (ge_fld T.cls T.na_opened (ge_var 0) rfl) rfl))) (fun _ _ _ _ _ => (ge_var 3)) (by intro _; rfl)) (gss_one (gs_ret (ge_if (gt_cmp ok_gt (ge_b1 (ok_len) rfl T.f_len bt_len (ge_var 2)) ge_int (L2.nomark _)) (ge_tup (ga_cons ge_str (ga_cons (ge_ix (ge_var 2) ge_int (fun _ _ => rfl)) ga_nil))) (ge_var 1))))) gss_nil) (gss_cons (gs_if (gt_cmp (ok_eq hr.units) (ge_ix (ge_var 1) ge_int (fun _ _ => rfl)) ge_str (L2.nomark _)) (gss_cons (gs_if (gt_dnotin (hu1 hr) (ge_ix (ge_var 1) ge_int (fun _ _ => rfl)) (ge_fld T.cls T.na_opened (ge_var 0) rfl) rfl) (gss_one (gs_ret (ge_var 1))) gss_nil) (gss_one (gs_expr (ge_meth0 F_State_step (T.cls _) (hr.mono (Nat.le_succ _)) (ge_var 0) (by rfl)) rfl))) (gss_one (gs_if (gt_cmp (ok_eq hr.units) (ge_ix (ge_var 1) ge_int (fun _ _ => rfl)) ge_str (L2.nomark _)) gss_never (gss_one (gs_if (gt_cmp (ok_eq hr.units) (ge_ix (ge_var 1) ge_int (fun _ _ => rfl)) ge_str (L2.nomark _)) gss_never (gss_one (gs_ret (ge_meth F_State_tested (T.cls _) (hr.mono (Nat.le_succ _)) (ge_var 0) (ga_cons (ge_var 1) ga_nil) rfl rfl (by rfl))))))))) (gss_one (gs_ret ge_non)))))
abbrev sl_all_outcomes : List Str := ["program", "content"]
theorem sc_all_outcomes : L2.FnScope sl_all_outcomes ["program"] (L2.defScope s_all_outcomes) := ⟨rfl, rfl, rfl, by decide +kernel, rfl, by decide +kernel, by decide +kernel⟩
theorem dv_all_outcomes (T : Tx K mg ca) {p_raw_contents : PSp} {p_outcomes : PSp} (F_raw_contents : FnG ca P w K mg base "raw_contents" k (liftP p_raw_contents)) (F_outcomes : FnG ca P w K mg base "outcomes" k (liftP p_outcomes)) {fa : Addr} {cdv : Value} {A : Around} {outer : List Env} {s : Shared} {H : L2.Hp} {E : L2.XK} (hr : L2.Room (k + 1) (A.deeper (envOfC "all_outcomes" (L2.defScope s_all_outcomes) s.heap.objs.size fa cdv))) :
    GSs ca (L2.cxOf L2.CX0 P w K mg base sl_all_outcomes "all_outcomes" (L2.defScope s_all_outcomes) fa cdv A outer s H E).nox (L2.defBody s_all_outcomes) (g_all_outcomes p_raw_contents p_outcomes) := by
  have nd := sc_all_outcomes.nd
  exact (gss_one (gs_ret (ge_compV rfl nd (gi_seq (ge_pure F_raw_contents (hr.mono (Nat.le_succ _)) rfl (ga_cons (ge_fld T.cls T.na_sizes (ge_var 0) rfl) ga_nil))) (L2.blkOk_by (own := [("content", 1)]) (N := sl_all_outcomes) (sc := L2.defScope s_all_outcomes) (by decide +kernel)) rfl (fun _ _ _ _ _ => (gc_name (i := 1) nd rfl (Or.inl rfl) (Or.inr rfl) (by decide))) (fun _ _ _ _ _ => gts_nil) (fun _ _ _ _ _ => (ge_pure F_outcomes (hr.mono (Nat.le_succ _)) rfl (ga_cons (ge_var 0) (ga_cons (ge_var 1) ga_nil)))) (by intro _; rfl))))
abbrev sl_Keeper_next_row : List Str := ["self"]
theorem sc_Keeper_next_row : L2.FnScope sl_Keeper_next_row ["self"] (L2.defScope s_Keeper_next_row) := ⟨rfl, rfl, rfl, by decide +kernel, rfl, by decide +kernel, by decide +kernel⟩
theorem dv_Keeper_next_row (T : Tx K mg ca) {p_begin : PSp} (F_begin : FnG ca P w K mg base "begin" k (liftP p_begin)) {fa : Addr} {cdv : Value} {A : Around} {outer : List Env} {s : Shared} {H : L2.Hp} {E : L2.XK} (hr : L2.Room (k + 1) (A.deeper (envOfC "Keeper.next_row" (L2.defScope s_Keeper_next_row) s.heap.objs.size fa cdv))) :
    GSs ca (L2.cxOf L2.CX0 P w K mg base sl_Keeper_next_row "Keeper.next_row" (L2.defScope s_Keeper_next_row) fa cdv A outer s H E).nox (L2.defBody s_Keeper_next_row) (g_Keeper_next_row p_begin) := by
  have nd := sc_Keeper_next_row.nd
  exact (gss_cons (gs_fld T.cls T.na_live (ge_var 0) (ge_tup (ga_cons ge_bl (ga_cons (ge_pure F_begin (hr.mono (Nat.le_succ _)) rfl (ga_cons (ge_fld T.cls T.na_program (ge_var 0) rfl) ga_nil)) ga_nil))) rfl) (gss_one (gs_fld T.cls T.na_sure (ge_var 0) (ge_fld T.cls T.na_live (ge_var 0) rfl) rfl)))
abbrev sl_Keeper_throw : List Str := ["self", "value", "deed"]
theorem sc_Keeper_throw : L2.FnScope sl_Keeper_throw ["self", "value"] (L2.defScope s_Keeper_throw) := ⟨rfl, rfl, rfl, by decide +kernel, rfl, by decide +kernel, by decide +kernel⟩
theorem dv_Keeper_throw (T : Tx K mg ca) {q_Keeper_due : DSp} {p_is_within : PSp} {q_Keeper_begin_row : DSp} {p_after_throw : PSp} {q_Keeper_make_sure : DSp} (F_Keeper_due : MtG ca P w K mg base .keeper "due" k q_Keeper_due) (F_is_within : FnG ca P w K mg base "is_within" k (liftP p_is_within)) (F_Keeper_begin_row : MtG ca P w K mg base .keeper "begin_row" k q_Keeper_begin_row) (F_after_throw : FnG ca P w K mg base "after_throw" k (liftP p_after_throw)) (F_Keeper_make_sure : MtG ca P w K mg base .keeper "make_sure" k q_Keeper_make_sure) {fa : Addr} {cdv : Value} {A : Around} {outer : List Env} {s : Shared} {H : L2.Hp} {E : L2.XK} (hr : L2.Room (k + 1) (A.deeper (envOfC "Keeper.throw" (L2.defScope s_Keeper_throw) s.heap.objs.size fa cdv))) :
    GSs ca (L2.cxOf L2.CX0 P w K mg base sl_Keeper_throw "Keeper.throw" (L2.defScope s_Keeper_throw) fa cdv A outer s H E).nox (L2.defBody s_Keeper_throw) (g_Keeper_throw q_Keeper_due p_is_within q_Keeper_begin_row p_after_throw q_Keeper_make_sure) := by
  have nd := sc_Keeper_throw.nd
  exact (gss_cons (gs_set (i := 2) nd rfl (by first | exact Or.inl rfl | exact Or.inr rfl) (ge_meth0 F_Keeper_due (T.cls _) (hr.mono (Nat.le_succ _)) (ge_var 0) (by rfl)) rfl) (gss_cons (gs_if (GW.gt (gw_or (gt_isN (ge_var 2)) (gw_or1 (gt_cmp (ok_ne hr.units) (ge_ix (ge_var 2) ge_int (fun _ _ => rfl)) ge_str (L2.nomark _))))) (gss_one gs_never) gss_nil) (gss_cons (gs_if (gt_not (gt_e (ge_pure F_is_within (hr.mono (Nat.le_succ _)) rfl (ga_cons (ge_var 1) (ga_cons ge_int (ga_cons (ge_op ok_sub (ge_ix (ge_var 2) ge_int (fun _ _ => rfl)) ge_int) ga_nil)))) (by intro _; rfl))) (gss_one gs_never) gss_nil) (gss_cons (gs_expr (ge_meth0 F_Keeper_begin_row (T.cls _) (hr.mono (Nat.le_succ _)) (ge_var 0) (by rfl)) rfl) (gss_cons (gs_expr (ge_append (ge_fld T.cls T.na_loose_lines (ge_var 0) rfl) (ge_tup (ga_cons ge_str (ga_cons (ge_var 1) ga_nil))) rfl rfl rfl rfl) rfl) (gss_cons (gs_fld T.cls T.na_live (ge_var 0) (ge_tup (ga_cons ge_bl (ga_cons (ge_pure F_after_throw (hr.mono (Nat.le_succ _)) rfl (ga_cons (ge_ix (ge_fld T.cls T.na_live (ge_var 0) rfl) ge_int (fun _ _ => rfl)) (ga_cons (ge_var 1) ga_nil))) ga_nil))) rfl) (gss_one (gs_if (gt_e (ge_ix (ge_fld T.cls T.na_policy (ge_var 0) rfl) ge_int (fun _ _ => rfl)) (by intro _; rfl)) (gss_one (gs_expr (ge_meth0 F_Keeper_make_sure (T.cls _) (hr.mono (Nat.le_succ _)) (ge_var 0) (by rfl)) rfl)) gss_nil))))))))
abbrev sl_check_blind : List Str := ["program", "policy", "blind"]
theorem sc_check_blind : L2.FnScope sl_check_blind ["program", "policy"] (L2.defScope s_check_blind) := ⟨rfl, rfl, rfl, by decide +kernel, rfl, by decide +kernel, by decide +kernel⟩
theorem dv_check_blind (T : Tx K mg ca) {p_raw_is_blind : PSp} {p_check_policy : PSp} (F_raw_is_blind : FnG ca P w K mg base "raw_is_blind" k (liftP p_raw_is_blind)) (F_check_policy : FnG ca P w K mg base "check_policy" k (liftP p_check_policy)) {fa : Addr} {cdv : Value} {A : Around} {outer : List Env} {s : Shared} {H : L2.Hp} {E : L2.XK} (hr : L2.Room (k + 1) (A.deeper (envOfC "check_blind" (L2.defScope s_check_blind) s.heap.objs.size fa cdv))) :
    GSs ca (L2.cxOf L2.CX0 P w K mg base sl_check_blind "check_blind" (L2.defScope s_check_blind) fa cdv A outer s H E).nox (L2.defBody s_check_blind) (g_check_blind p_raw_is_blind p_check_policy) := by
  have nd := sc_check_blind.nd
  exact (gss_cons (gs_try (gss_one (gs_set (i := 2) nd rfl (by first | exact Or.inl rfl | exact Or.inr rfl) (ge_pure F_raw_is_blind (hr.mono (Nat.le_succ _)) rfl (ga_cons (ge_var 0) ga_nil)) rfl))) (gss_cons (gs_if (gt_not (gt_e (ge_var 2) (by intro _; rfl))) (gss_one gs_never) gss_nil) (gss_one (gs_expr (ge_pure F_check_policy (hr.mono (Nat.le_succ _)) rfl (ga_cons (ge_var 1) ga_nil)) rfl))))
abbrev sl_is_test : List Str := ["sizes", "thing"]
theorem sc_is_test : L2.FnScope sl_is_test ["sizes", "thing"] (L2.defScope s_is_test) := ⟨rfl, rfl, rfl, by decide +kernel, rfl, by decide +kernel, by decide +kernel⟩
theorem dv_is_test (T : Tx K mg ca) {p_is_within : PSp} {p_is_name : PSp} {p_is_number : PSp} (F_is_within : FnG ca P w K mg base "is_within" k (liftP p_is_within)) (F_is_name : FnG ca P w K mg base "is_name" k (liftP p_is_name)) (F_is_number : FnG ca P w K mg base "is_number" k (liftP p_is_number)) {fa : Addr} {cdv : Value} {A : Around} {outer : List Env} {s : Shared} {H : L2.Hp} {E : L2.XK} (hr : L2.Room (k + 1) (A.deeper (envOfC "is_test" (L2.defScope s_is_test) s.heap.objs.size fa cdv))) :
    GSs ca (L2.cxOf L2.CX0 P w K mg base sl_is_test "is_test" (L2.defScope s_is_test) fa cdv A outer s H E).nox (L2.defBody s_is_test) (g_is_test p_is_within p_is_name p_is_number) := by
  have nd := sc_is_test.nd
  exact (gss_cons (gs_if (GW.gt (gw_or (gt_not (gt_e (ge_isI kit_tup rfl T.f_isinstance bt_isinstance rfl T.f_tuple bt_tuple (ge_var 1)) (by intro _; rfl))) (gw_or (gt_cmp (ok_ne hr.units) (ge_b1 (ok_len) rfl T.f_len bt_len (ge_var 1)) ge_int (L2.nomark _)) (gw_or1 (gt_not (gt_e (ge_isI kit_str rfl T.f_isinstance bt_isinstance rfl T.f_str bt_str (ge_ix (ge_var 1) ge_int (fun _ _ => rfl))) (by intro _; rfl))))))) (gss_one (gs_ret ge_bl)) gss_nil) (gss_cons (gs_if (gt_cmp (ok_eq hr.units) (ge_ix (ge_var 1) ge_int (fun _ _ => rfl)) ge_str (L2.nomark _)) (gss_one (gs_ret (ge_and (ge_pure F_is_within (hr.mono (Nat.le_succ _)) rfl (ga_cons (ge_ix (ge_var 1) ge_int (fun _ _ => rfl)) (ga_cons ge_int (ga_cons (ge_op ok_sub (ge_b1 (ok_len) rfl T.f_len bt_len (ge_var 0)) ge_int) ga_nil)))) (ge_one (ge_pure F_is_within (hr.mono (Nat.le_succ _)) rfl (ga_cons (ge_ix (ge_var 1) ge_int (fun _ _ => rfl)) (ga_cons ge_int (ga_cons (ge_op ok_sub (ge_ix (ge_var 0) (ge_ix (ge_var 1) ge_int (fun _ _ => rfl)) (fun _ _ => rfl)) ge_int) ga_nil)))))))) gss_nil) (gss_one (gs_ret (ge_and (ge_cmp (ok_eq hr.units) (ge_ix (ge_var 1) ge_int (fun _ _ => rfl)) ge_str (L2.nomark _)) (ge_and (ge_pure F_is_name (hr.mono (Nat.le_succ _)) rfl (ga_cons (ge_ix (ge_var 1) ge_int (fun _ _ => rfl)) ga_nil)) (ge_one (ge_pure F_is_number (hr.mono (Nat.le_succ _)) rfl (ga_cons (ge_ix (ge_var 1) ge_int (fun _ _ => rfl)) ga_nil)))))))))
abbrev sl_l_hand : List Str := ["_law_script", "_law_cells", "_law_cell"]
theorem sc_l_hand : L2.FnScope sl_l_hand ["_law_script"] (L2.defScope s_l_hand) := ⟨rfl, rfl, rfl, by decide +kernel, rfl, by decide +kernel, by decide +kernel⟩
theorem dv_l_hand (T : Tx K mg ca) {fa : Addr} {cdv : Value} {A : Around} {outer : List Env} {s : Shared} {H : L2.Hp} {E : L2.XK} (hr : L2.Room (k + 1) (A.deeper (envOfC "_law_hand" (L2.defScope s_l_hand) s.heap.objs.size fa cdv))) :
    GSs ca (L2.cxOf L2.CX0 P w K mg base sl_l_hand "_law_hand" (L2.defScope s_l_hand) fa cdv A outer s H E).nox (L2.defBody s_l_hand) (g_l_hand) := by
  have nd := sc_l_hand.nd
  exact (gss_cons (gs_compV (i := 1) rfl nd rfl rfl (L2.sw_true rfl rfl rfl (by decide +kernel)) (gi_seq (ge_slice (ge_var 0) go_none (go_some ge_int))) (L2.blkOk_by (own := [("_law_cell", 2)]) (N := sl_l_hand) (sc := L2.defScope s_l_hand) (by decide +kernel)) rfl (fun _ _ _ _ _ => (gc_name (i := 2) nd rfl (Or.inl rfl) (Or.inr rfl) (by decide))) (fun _ _ _ _ _ => gts_nil) (fun _ _ _ _ _ => (ge_b1 (ok_abs) rfl T.f_abs bt_abs (ge_t1 ok_int1 rfl T.f_int bt_int (ge_var 2)))) (by intro _; rfl)) (gss_one (gs_ret (ge_lst (ga_cons (ge_var 1) (ga_cons ge_int (ga_cons ge_int (ga_cons (ge_op ok_add ge_int (ge_b1 (ok_len) rfl T.f_len bt_len (ge_var 1))) (ga_cons ge_int ga_nil)))))))))
abbrev sl_l_due : List Str := ["_law_block", "_law_content", "_law_done", "_law_throws", "_law_lines", "_law_line"]
theorem sc_l_due : L2.FnScope sl_l_due ["_law_block", "_law_content", "_law_done"] (L2.defScope s_l_due) := ⟨rfl, rfl, rfl, by decide +kernel, rfl, by decide +kernel, by decide +kernel⟩
theorem dv_l_due (T : Tx K mg ca) {p_l_walk : PSp} (F_l_walk : FnG ca P w K mg base "_law_walk" k (liftP p_l_walk)) {fa : Addr} {cdv : Value} {A : Around} {outer : List Env} {s : Shared} {H : L2.Hp} {E : L2.XK} (hr : L2.Room (k + 1) (A.deeper (envOfC "_law_due" (L2.defScope s_l_due) s.heap.objs.size fa cdv))) :
    GSs ca (L2.cxOf L2.CX0 P w K mg base sl_l_due "_law_due" (L2.defScope s_l_due) fa cdv A outer s H E).nox (L2.defBody s_l_due) (g_l_due p_l_walk) := by
  have nd := sc_l_due.nd
  exact (gss_cons (gs_compV (i := 3) rfl nd rfl rfl (L2.sw_true rfl rfl rfl (by decide +kernel)) (gi_seq (ge_var 2)) (L2.blkOk_by (own := [("_law_line", 5)]) (N := sl_l_due) (sc := L2.defScope s_l_due) (by decide +kernel)) rfl (fun _ _ _ _ _ => (gc_name (i := 5) nd rfl (Or.inl rfl) (Or.inr rfl) (by decide))) (fun _ _ _ _ _ => (gts_one (gt_cmp (ok_eq hr.units) (ge_ix (ge_var 5) ge_int (fun _ _ => rfl)) ge_str (L2.nomark _)))) (fun _ _ _ _ _ => (ge_ix (ge_var 5) ge_int (fun _ _ => rfl))) (by intro _; rfl)) (gss_cons (gs_set (i := 4) nd rfl (by first | exact Or.inl rfl | exact Or.inr rfl) (ge_pure F_l_walk (hr.mono (Nat.le_succ _)) rfl (ga_cons (ge_var 0) (ga_cons (ge_var 1) (ga_cons (ge_var 3) ga_nil)))) rfl) (gss_one (gs_ret (ge_ix (ge_var 4) (ge_b1 (ok_len) rfl T.f_len bt_len (ge_var 2)) (fun _ _ => rfl))))))
abbrev sl_l_is_breach : List Str := ["_law_sizes", "_law_block", "_law_policy", "_law_thing", "_law_told", "_law_worth", "_law_move", "_law_c"]
theorem sc_l_is_breach : L2.FnScope sl_l_is_breach ["_law_sizes", "_law_block", "_law_policy", "_law_thing"] (L2.defScope s_l_is_breach) := ⟨rfl, rfl, rfl, by decide +kernel, rfl, by decide +kernel, by decide +kernel⟩
theorem dv_l_is_breach (T : Tx K mg ca) {p_l_is_int : PSp} {p_l_contents : PSp} {p_l_is_move : PSp} {p_l_moved : PSp} (F_l_is_int : FnG ca P w K mg base "_law_is_int" k (liftP p_l_is_int)) (F_l_contents : FnG ca P w K mg base "_law_contents" k (liftP p_l_contents)) (F_l_is_move : FnG ca P w K mg base "_law_is_move" k (liftP p_l_is_move)) (F_l_moved : FnG ca P w K mg base "_law_moved" k (liftP p_l_moved)) {fa : Addr} {cdv : Value} {A : Around} {outer : List Env} {s : Shared} {H : L2.Hp} {E : L2.XK} (hr : L2.Room (k + 1) (A.deeper (envOfC "_law_is_breach" (L2.defScope s_l_is_breach) s.heap.objs.size fa cdv))) :
    GSs ca (L2.cxOf L2.CX0 P w K mg base sl_l_is_breach "_law_is_breach" (L2.defScope s_l_is_breach) fa cdv A outer s H E).nox (L2.defBody s_l_is_breach) (g_l_is_breach p_l_is_int p_l_contents p_l_is_move p_l_moved) := by
  have nd := sc_l_is_breach.nd
  exact (gss_cons (gs_if (GW.gt (gw_or (gt_not (gt_e (ge_isI kit_tup rfl T.f_isinstance bt_isinstance rfl T.f_tuple bt_tuple (ge_var 3)) (by intro _; rfl))) (gw_or (gt_cmp (ok_ne hr.units) (ge_b1 (ok_len) rfl T.f_len bt_len (ge_var 3)) ge_int (L2.nomark _)) (gw_or1 (gt_not (gt_e (ge_isI kit_tup rfl T.f_isinstance bt_isinstance rfl T.f_tuple bt_tuple (ge_ix (ge_var 3) ge_int (fun _ _ => rfl))) (by intro _; rfl))))))) (gss_one (gs_ret ge_bl)) gss_nil) (gss_cons (gs_if (GW.gt (gw_or (gt_not (gt_e (ge_isI kit_tup rfl T.f_isinstance bt_isinstance rfl T.f_tuple bt_tuple (ge_ix (ge_var 3) ge_int (fun _ _ => rfl))) (by intro _; rfl))) (gw_or1 (gt_not (gt_e (ge_b1 (ok_all rfl) rfl T.f_all bt_all (ge_compV rfl nd (gi_seq (ge_ix (ge_var 3) ge_int (fun _ _ => rfl))) (L2.blkOk_by (own := [("_law_worth", 5)]) (N := sl_l_is_breach) (sc := L2.defScope s_l_is_breach) (by decide +kernel)) rfl (fun _ _ _ _ _ => (gc_name (i := 5) nd rfl (Or.inl rfl) (Or.inr rfl) (by decide))) (fun _ _ _ _ _ => gts_nil) (fun _ _ _ _ _ => (ge_pure F_l_is_int (hr.mono (Nat.le_succ _)) rfl (ga_cons (ge_var 5) ga_nil))) (by intro _; rfl))) (by intro _; rfl)))))) (gss_one (gs_ret ge_bl)) gss_nil) (gss_cons (gs_if (GW.gt (gw_or (gt_cmp (ok_notIn (hu65 hr)) (ge_ix (ge_var 3) ge_int (fun _ _ => rfl)) (ge_pure F_l_contents (hr.mono (Nat.le_succ _)) rfl (ga_cons (ge_var 0) ga_nil)) rfl) (gw_or1 (gt_not (gt_e (ge_b1 (ok_all rfl) rfl T.f_all bt_all (ge_compV rfl nd (gi_seq (ge_ix (ge_var 3) ge_int (fun _ _ => rfl))) (L2.blkOk_by (own := [("_law_move", 6)]) (N := sl_l_is_breach) (sc := L2.defScope s_l_is_breach) (by decide +kernel)) rfl (fun _ _ _ _ _ => (gc_name (i := 6) nd rfl (Or.inl rfl) (Or.inr rfl) (by decide))) (fun _ _ _ _ _ => gts_nil) (fun _ _ _ _ _ => (ge_pure F_l_is_move (hr.mono (Nat.le_succ _)) rfl (ga_cons (ge_var 6) ga_nil))) (by intro _; rfl))) (by intro _; rfl)))))) (gss_one (gs_ret ge_bl)) gss_nil) (gss_cons (gs_set (i := 4) nd rfl (by first | exact Or.inl rfl | exact Or.inr rfl) (ge_pure F_l_moved (hr.mono (Nat.le_succ _)) rfl (ga_cons (ge_var 1) (ga_cons (ge_ix (ge_var 3) ge_int (fun _ _ => rfl)) (ga_cons (ge_var 2) (ga_cons (ge_ix (ge_var 3) ge_int (fun _ _ => rfl)) ga_nil))))) rfl) (gss_cons (gs_if (GW.gt (gw_or (gt_isN (ge_var 4)) (gw_or1 (gt_isN (ge_ix (ge_var 4) ge_int (fun _ _ => rfl)))))) (gss_one (gs_ret ge_bl)) gss_nil) (gss_one (gs_ret (ge_b1 (ok_any rfl) rfl T.f_any bt_any (ge_compV rfl nd (gi_seq (ge_ix (ge_var 4) ge_int (fun _ _ => rfl))) (L2.blkOk_by (own := [("_law_c", 7)]) (N := sl_l_is_breach) (sc := L2.defScope s_l_is_breach) (by decide +kernel)) rfl (fun _ _ _ _ _ => (gc_name (i := 7) nd rfl (Or.inl rfl) (Or.inr rfl) (by decide))) (fun _ _ _ _ _ => gts_nil) (fun _ _ _ _ _ => (ge_cmp (ok_notIn (hu65 hr)) (ge_var 7) (ge_ix (ge_var 4) ge_int (fun _ _ => rfl)) rfl)) (by intro _; rfl))))))))))
end
end G
set_option Elab.async false
set_option linter.all false
set_option maxRecDepth 100000
set_option maxHeartbeats 4000000
namespace G
open PySem PySem.Spec PyProof.Rows
section
variable {P : Program} {w : World} {K : PySem.W.Frag} {mg : Str → Option Value} {base : Heap} {ca : Cl → Addr} {k : Nat}
abbrev sl_is_row : List Str := ["thing"]
theorem sc_is_row : L2.FnScope sl_is_row ["thing"] (L2.defScope s_is_row) := ⟨rfl, rfl, rfl, by decide +kernel, rfl, by decide +kernel, by decide +kernel⟩
theorem dv_is_row (T : Tx K mg ca) {fa : Addr} {cdv : Value} {A : Around} {outer : List Env} {s : Shared} {H : L2.Hp} {E : L2.XK} (hr : L2.Room (k + 1) (A.deeper (envOfC "is_row" (L2.defScope s_is_row) s.heap.objs.size fa cdv))) :
    GSs ca (L2.cxOf L2.CX0 P w K mg base sl_is_row "is_row" (L2.defScope s_is_row) fa cdv A outer s H E).nox (L2.defBody s_is_row) (g_is_row) := by
  have nd := sc_is_row.nd
  exact (gss_one (gs_ret (ge_isSeq rfl T.f_isinstance bt_isinstance rfl T.f_list rfl T.f_tuple (ge_var 0) rfl)))
abbrev sl_are_sizes : List Str := ["thing", "size"]
theorem sc_are_sizes : L2.FnScope sl_are_sizes ["thing"] (L2.defScope s_are_sizes) := ⟨rfl, rfl, rfl, by decide +kernel, rfl, by decide +kernel, by decide +kernel⟩
theorem dv_are_sizes (T : Tx K mg ca) {p_is_within : PSp} {p_many_contents : PSp} (F_is_within : FnG ca P w K mg base "is_within" k (liftP p_is_within)) (F_many_contents : FnG ca P w K mg base "many_contents" k (liftP p_many_contents)) {fa : Addr} {cdv : Value} {A : Around} {outer : List Env} {s : Shared} {H : L2.Hp} {E : L2.XK} (hr : L2.Room (k + 1) (A.deeper (envOfC "are_sizes" (L2.defScope s_are_sizes) s.heap.objs.size fa cdv))) :
    GSs ca (L2.cxOf L2.CX0 P w K mg base sl_are_sizes "are_sizes" (L2.defScope s_are_sizes) fa cdv A outer s H E).nox (L2.defBody s_are_sizes) (g_are_sizes p_is_within p_many_contents) := by
  have nd := sc_are_sizes.nd
  exact (gss_cons (gs_if (GW.gt (gw_or (gt_not (gt_e (ge_isI kit_tup rfl T.f_isinstance bt_isinstance rfl T.f_tuple bt_tuple (ge_var 0)) (by intro _; rfl))) (gw_or1 (gt_not (gt_chain ok_le ok_le ge_int (ge_b1 (ok_len) rfl T.f_len bt_len (ge_var 0)) (ge_gint rfl T.i_MOST_COLUMNS) rfl))))) (gss_one (gs_ret ge_bl)) gss_nil) (gss_one (gs_ret (ge_and (ge_b1 (ok_all rfl) rfl T.f_all bt_all (ge_compV rfl nd (gi_seq (ge_var 0)) (L2.blkOk_by (own := [("size", 1)]) (N := sl_are_sizes) (sc := L2.defScope s_are_sizes) (by decide +kernel)) rfl (fun _ _ _ _ _ => (gc_name (i := 1) nd rfl (Or.inl rfl) (Or.inr rfl) (by decide))) (fun _ _ _ _ _ => gts_nil) (fun _ _ _ _ _ => (ge_pure F_is_within (hr.mono (Nat.le_succ _)) rfl (ga_cons (ge_var 1) (ga_cons ge_int (ga_cons ge_int ga_nil))))) (by intro _; rfl))) (ge_one (ge_cmp ok_le (ge_pure F_many_contents (hr.mono (Nat.le_succ _)) rfl (ga_cons (ge_var 0) ga_nil)) (ge_gint rfl T.i_MOST_CONTENTS) (L2.nomark _)))))))
abbrev sl_State_init : List Str := ["self", "names", "opened", "place"]
theorem sc_State_init : L2.FnScope sl_State_init ["self", "names", "opened", "place"] (L2.defScope s_State_init) := ⟨rfl, rfl, rfl, by decide +kernel, rfl, by decide +kernel, by decide +kernel⟩
theorem dv_State_init (T : Tx K mg ca) {q_State_go_on : DSp} (F_State_go_on : MtG ca P w K mg base .state "go_on" k q_State_go_on) {fa : Addr} {cdv : Value} {A : Around} {outer : List Env} {s : Shared} {H : L2.Hp} {E : L2.XK} (hr : L2.Room (k + 1) (A.deeper (envOfC "State.__init__" (L2.defScope s_State_init) s.heap.objs.size fa cdv))) :
    GSs ca (L2.cxOf L2.CX0 P w K mg base sl_State_init "State.__init__" (L2.defScope s_State_init) fa cdv A outer s H E).nox (L2.defBody s_State_init) (g_State_init q_State_go_on) := by
  have nd := sc_State_init.nd
  exact (gss_cons (gs_fld T.cls T.na_told (ge_var 0) (ge_t1 ok_dict rfl T.f_dict bt_dict (ge_var 1)) rfl) (gss_cons (gs_fld T.cls T.na_opened (ge_var 0) (ge_t1 ok_dict rfl T.f_dict bt_dict (ge_var 2)) rfl) (gss_cons (gs_fld T.cls T.na_place (ge_var 0) (ge_var 3) rfl) (gss_one (gs_fld T.cls T.na_deed (ge_var 0) (ge_meth0 F_State_go_on (T.cls _) (hr.mono (Nat.le_succ _)) (ge_var 0) (by rfl)) rfl)))))
abbrev sl_State_tested : List Str := ["self", "statement", "test", "is_so"]
theorem sc_State_tested : L2.FnScope sl_State_tested ["self", "statement"] (L2.defScope s_State_tested) := ⟨rfl, rfl, rfl, by decide +kernel, rfl, by decide +kernel, by decide +kernel⟩
theorem dv_State_tested (T : Tx K mg ca) {q_State_enter : DSp} (F_State_enter : MtG ca P w K mg base .state "enter" k q_State_enter) {fa : Addr} {cdv : Value} {A : Around} {outer : List Env} {s : Shared} {H : L2.Hp} {E : L2.XK} (hr : L2.Room (k + 1) (A.deeper (envOfC "State.tested" (L2.defScope s_State_tested) s.heap.objs.size fa cdv))) :
    GSs ca (L2.cxOf L2.CX0 P w K mg base sl_State_tested "State.tested" (L2.defScope s_State_tested) fa cdv A outer s H E).nox (L2.defBody s_State_tested) (g_State_tested q_State_enter) := by
  have nd := sc_State_tested.nd
  exact (gss_cons (gs_set (i := 2) nd rfl (by first | exact Or.inl rfl | exact Or.inr rfl) (ge_ix (ge_var 1) ge_int (fun _ _ => rfl)) rfl) (gss_cons (gs_if (gt_cmp (ok_eq hr.units) (ge_ix (ge_var 2) ge_int (fun _ _ => rfl)) ge_str (L2.nomark _)) (gss_cons (gs_if (gt_dnotin (hu1 hr) (ge_ix (ge_var 2) ge_int (fun _ _ => rfl)) (ge_fld T.cls T.na_opened (ge_var 0) rfl) rfl) (gss_one (gs_ret (ge_tup (ga_cons ge_str (ga_cons (ge_ix (ge_var 2) ge_int (fun _ _ => rfl)) ga_nil))))) gss_nil) (gss_one (gs_set (i := 3) nd rfl (by first | exact Or.inl rfl | exact Or.inr rfl) (ge_cmp (ok_eq hr.units) (ge_dget (hu1 hr) (ge_fld T.cls T.na_opened (ge_var 0) rfl) (ge_ix (ge_var 2) ge_int (fun _ _ => rfl)) (fun _ _ => rfl)) (ge_ix (ge_var 2) ge_int (fun _ _ => rfl)) (L2.nomark _)) rfl))) (gss_one (gs_set (i := 3) nd rfl (by first | exact Or.inl rfl | exact Or.inr rfl) (ge_cmp (ok_eq hr.units) (ge_get (hu1 hr) (ge_fld T.cls T.na_told (ge_var 0) rfl) (ge_ix (ge_var 2) ge_int (fun _ _ => rfl)) ge_int ⟨rfl, rfl, rfl, rfl⟩) (ge_ix (ge_var 2) ge_int (fun _ _ => rfl)) (L2.nomark _)) rfl))) (gss_cons (gs_expr (ge_meth F_State_enter (T.cls _) (hr.mono (Nat.le_succ _)) (ge_var 0) (ga_cons (ge_if (gt_e (ge_var 3) (by intro _; rfl)) (ge_ix (ge_var 1) ge_int (fun _ _ => rfl)) (ge_ix (ge_var 1) ge_int (fun _ _ => rfl))) (ga_cons ge_int ga_nil)) rfl rfl (by rfl)) rfl) (gss_one (gs_ret ge_non)))))
abbrev sl_raw_is_blind : List Str := ["program", "flags", "runs", "share", "pattern", "order", "throws"]
theorem sc_raw_is_blind : L2.FnScope sl_raw_is_blind ["program"] (L2.defScope s_raw_is_blind) := ⟨rfl, rfl, rfl, by decide +kernel, rfl, by decide +kernel, by decide +kernel⟩
theorem dv_raw_is_blind (T : Tx K mg ca) {p_all_outcomes : PSp} (F_all_outcomes : FnG ca P w K mg base "all_outcomes" k (liftP p_all_outcomes)) {fa : Addr} {cdv : Value} {A : Around} {outer : List Env} {s : Shared} {H : L2.Hp} {E : L2.XK} (hr : L2.Room (k + 1) (A.deeper (envOfC "raw_is_blind" (L2.defScope s_raw_is_blind) s.heap.objs.size fa cdv))) :
    GSs ca (L2.cxOf L2.CX0 P w K mg base sl_raw_is_blind "raw_is_blind" (L2.defScope s_raw_is_blind) fa cdv A outer s H E).nox (L2.defBody s_raw_is_blind) (g_raw_is_blind p_all_outcomes) := by
  have nd := sc_raw_is_blind.nd
  exact (gss_cons (gs_set (i := 1) nd rfl (by first | exact Or.inl rfl | exact Or.inr rfl) (ge_lst ga_nil) rfl) (gss_cons (gs_for PassesOwn.never rfl (gi_seq (ge_pure F_all_outcomes (hr.mono (Nat.le_succ _)) rfl (ga_cons (ge_var 0) ga_nil))) (gg_name (i := 2) nd rfl (by first | exact Or.inl rfl | exact Or.inr rfl)) (gss_one (gs_expr (ge_extend (ge_var 1) (ge_compV rfl nd (gi_seq (ge_var 2)) (L2.blkOk_by (own := [("share", 3), ("pattern", 4), ("order", 5), ("throws", 6)]) (N := sl_raw_is_blind) (sc := L2.defScope s_raw_is_blind) (by decide +kernel)) rfl (fun _ _ _ _ _ => (gc_tup rfl (gcs_cons (gc_name (i := 3) nd rfl (Or.inl rfl) (Or.inr rfl) (by decide)) (gcs_cons (gc_name (i := 4) nd rfl (Or.inl rfl) (Or.inr rfl) (by decide)) (gcs_cons (gc_name (i := 5) nd rfl (Or.inl rfl) (Or.inr rfl) (by decide)) (gcs_cons (gc_name (i := 6) nd rfl (Or.inl rfl) (Or.inr rfl) (by decide)) gcs_nil rfl) rfl) rfl) rfl) rfl rfl)) (fun _ _ _ _ _ => gts_nil) (fun _ _ _ _ _ => (ge_cmp (ok_eq hr.units) (ge_b1 (ok_len) rfl T.f_len bt_len (ge_var 5)) (ge_b1 (ok_len) rfl T.f_len bt_len (ge_var 4)) (L2.nomark _))) (by intro _; rfl)) rfl rfl rfl rfl) rfl)) (by intro _; rfl)) (gss_one (gs_ret (ge_b1 (ok_all rfl) rfl T.f_all bt_all (ge_var 1))))))
abbrev sl_Keeper_row_now : List Str := ["self"]
theorem sc_Keeper_row_now : L2.FnScope sl_Keeper_row_now ["self"] (L2.defScope s_Keeper_row_now) := ⟨rfl, rfl, rfl, by decide +kernel, rfl, by decide +kernel, by decide +kernel⟩
theorem dv_Keeper_row_now (T : Tx K mg ca) {fa : Addr} {cdv : Value} {A : Around} {outer : List Env} {s : Shared} {H : L2.Hp} {E : L2.XK} (hr : L2.Room (k + 1) (A.deeper (envOfC "Keeper.row_now" (L2.defScope s_Keeper_row_now) s.heap.objs.size fa cdv))) :
    GSs ca (L2.cxOf L2.CX0 P w K mg base sl_Keeper_row_now "Keeper.row_now" (L2.defScope s_Keeper_row_now) fa cdv A outer s H E).nox (L2.defBody s_Keeper_row_now) (g_Keeper_row_now) := by
  have nd := sc_Keeper_row_now.nd
  exact (gss_one (gs_ret (ge_b1 (ok_len) rfl T.f_len bt_len (ge_fld T.cls T.na_patterns_told (ge_var 0) rfl))))
abbrev sl_Keeper_go : List Str := ["self", "deed"]
theorem sc_Keeper_go : L2.FnScope sl_Keeper_go ["self"] (L2.defScope s_Keeper_go) := ⟨rfl, rfl, rfl, by decide +kernel, rfl, by decide +kernel, by decide +kernel⟩
theorem dv_Keeper_go (T : Tx K mg ca) {q_Keeper_due : DSp} {q_Keeper_open_column : DSp} {q_Keeper_show_pattern : DSp} (F_Keeper_due : MtG ca P w K mg base .keeper "due" k q_Keeper_due) (F_Keeper_open_column : MtG ca P w K mg base .keeper "open_column" k q_Keeper_open_column) (F_Keeper_show_pattern : MtG ca P w K mg base .keeper "show_pattern" k q_Keeper_show_pattern) {fa : Addr} {cdv : Value} {A : Around} {outer : List Env} {s : Shared} {H : L2.Hp} {E : L2.XK} (hr : L2.Room (k + 1) (A.deeper (envOfC "Keeper.go" (L2.defScope s_Keeper_go) s.heap.objs.size fa cdv))) :
    GSs ca (L2.cxOf L2.CX0 P w K mg base sl_Keeper_go "Keeper.go" (L2.defScope s_Keeper_go) fa cdv A outer s H E).nox (L2.defBody s_Keeper_go) (g_Keeper_go q_Keeper_due q_Keeper_open_column q_Keeper_show_pattern) := by
  have nd := sc_Keeper_go.nd
  exact (gss_cons (gs_set (i := 1) nd rfl (by first | exact Or.inl rfl | exact Or.inr rfl) (ge_meth0 F_Keeper_due (T.cls _) (hr.mono (Nat.le_succ _)) (ge_var 0) (by rfl)) rfl) (gss_cons (gs_if (GW.gt (gw_or (gt_isN (ge_var 1)) (gw_or1 (gt_cmp (ok_eq hr.units) (ge_ix (ge_var 1) ge_int (fun _ _ => rfl)) ge_str (L2.nomark _))))) (gss_one gs_never) gss_nil) (gss_one (gs_if (gt_cmp (ok_eq hr.units) (ge_ix (ge_var 1) ge_int (fun _ _ => rfl)) ge_str (L2.nomark _)) (gss_one (gs_expr (ge_meth F_Keeper_open_column (T.cls _) (hr.mono (Nat.le_succ _)) (ge_var 0) (ga_cons (ge_ix (ge_var 1) ge_int (fun _ _ => rfl)) ga_nil) rfl rfl (by rfl)) rfl)) (gss_one (gs_expr (ge_meth F_Keeper_show_pattern (T.cls _) (hr.mono (Nat.le_succ _)) (ge_var 0) (ga_cons (ge_ix (ge_var 1) ge_int (fun _ _ => rfl)) ga_nil) rfl rfl (by rfl)) rfl))))))
abbrev sl_moves_until : List Str := ["program", "content", "throws", "pattern", "state", "found", "used", "c"]
theorem sc_moves_until : L2.FnScope sl_moves_until ["program", "content", "throws", "pattern"] (L2.defScope s_moves_until) := ⟨rfl, rfl, rfl, by decide +kernel, rfl, by decide +kernel, by decide +kernel⟩
theorem dv_moves_until (T : Tx K mg ca) {p_begin : PSp} {p_after_throw : PSp} {p_after_open : PSp} (F_begin : FnG ca P w K mg base "begin" k (liftP p_begin)) (F_after_throw : FnG ca P w K mg base "after_throw" k (liftP p_after_throw)) (F_after_open : FnG ca P w K mg base "after_open" k (liftP p_after_open)) {fa : Addr} {cdv : Value} {A : Around} {outer : List Env} {s : Shared} {H : L2.Hp} {E : L2.XK} (hr : L2.Room (k + 1) (A.deeper (envOfC "moves_until" (L2.defScope s_moves_until) s.heap.objs.size fa cdv))) :
    GSs ca (L2.cxOf L2.CX0 P w K mg base sl_moves_until "moves_until" (L2.defScope s_moves_until) fa cdv A outer s H E).nox (L2.defBody s_moves_until) (g_moves_until p_begin p_after_throw p_after_open) := by
  have nd := sc_moves_until.nd
  exact (gss_cons (gs_set (i := 4) nd rfl (by first | exact Or.inl rfl | exact Or.inr rfl) (ge_pure F_begin (hr.mono (Nat.le_succ _)) rfl (ga_cons (ge_var 0) ga_nil)) rfl) (gss_cons (gs_set (i := 5) nd rfl (by first | exact Or.inl rfl | exact Or.inr rfl) (ge_tup ga_nil) rfl) (gss_cons (gs_set (i := 6) nd rfl (by first | exact Or.inl rfl | exact Or.inr rfl) ge_int rfl) (gss_cons (gs_while PassesOwn.never (gt_cmp (ok_ne hr.units) (ge_ix (ge_fld T.cls T.na_deed (ge_var 4) rfl) ge_int (fun _ _ => rfl)) ge_str (L2.nomark _)) (gss_one (gs_if (gt_cmp (ok_eq hr.units) (ge_ix (ge_fld T.cls T.na_deed (ge_var 4) rfl) ge_int (fun _ _ => rfl)) ge_str (L2.nomark _)) (gss_cons (gs_set (i := 5) nd rfl (by first | exact Or.inl rfl | exact Or.inr rfl) (ge_op ok_add (ge_var 5) (ge_tup (ga_cons (ge_tup (ga_cons ge_str (ga_cons (ge_ix (ge_var 2) (ge_var 6) (fun _ _ => rfl)) ga_nil))) ga_nil))) rfl) (gss_cons (gs_set (i := 4) nd rfl (by first | exact Or.inl rfl | exact Or.inr rfl) (ge_pure F_after_throw (hr.mono (Nat.le_succ _)) rfl (ga_cons (ge_var 4) (ga_cons (ge_ix (ge_var 2) (ge_var 6) (fun _ _ => rfl)) ga_nil))) rfl) (gss_one (gs_aug (i := 6) nd rfl (by first | exact Or.inl rfl | exact Or.inr rfl) ge_int)))) (gss_cons (gs_set (i := 5) nd rfl (by first | exact Or.inl rfl | exact Or.inr rfl) (ge_op ok_add (ge_var 5) (ge_tup (ga_cons (ge_tup (ga_cons ge_str ga_nil)) ga_nil))) rfl) (gss_cons (gs_set (i := 7) nd rfl (by first | exact Or.inl rfl | exact Or.inr rfl) (ge_ix (ge_fld T.cls T.na_deed (ge_var 4) rfl) ge_int (fun _ _ => rfl)) rfl) (gss_cons (gs_if (gt_cmp (ok_notIn (hu65 hr)) (ge_var 7) (ge_var 3) rfl) (gss_one (gs_ret (ge_var 5))) gss_nil) (gss_one (gs_set (i := 4) nd rfl (by first | exact Or.inl rfl | exact Or.inr rfl) (ge_pure F_after_open (hr.mono (Nat.le_succ _)) rfl (ga_cons (ge_var 4) (ga_cons (ge_ix (ge_var 1) (ge_var 7) (fun _ _ => rfl)) ga_nil))) rfl)))))))) (gss_one (gs_ret (ge_op ok_add (ge_var 5) (ge_tup (ga_cons (ge_tup (ga_cons ge_str ga_nil)) ga_nil)))))))))
abbrev sl_is_statement : List Str := ["sizes", "thing"]
theorem sc_is_statement : L2.FnScope sl_is_statement ["sizes", "thing"] (L2.defScope s_is_statement) := ⟨rfl, rfl, rfl, by decide +kernel, rfl, by decide +kernel, by decide +kernel⟩
theorem dv_is_statement (T : Tx K mg ca) {p_is_pair : PSp} {p_is_within : PSp} {p_is_pattern : PSp} {p_is_name : PSp} {p_is_test : PSp} (F_is_pair : FnG ca P w K mg base "is_pair" k (liftP p_is_pair)) (F_is_within : FnG ca P w K mg base "is_within" k (liftP p_is_within)) (F_is_pattern : FnG ca P w K mg base "is_pattern" k (liftP p_is_pattern)) (F_is_name : FnG ca P w K mg base "is_name" k (liftP p_is_name)) (F_is_test : FnG ca P w K mg base "is_test" k (liftP p_is_test)) {fa : Addr} {cdv : Value} {A : Around} {outer : List Env} {s : Shared} {H : L2.Hp} {E : L2.XK} (hr : L2.Room (k + 1) (A.deeper (envOfC "is_statement" (L2.defScope s_is_statement) s.heap.objs.size fa cdv))) :
    GSs ca (L2.cxOf L2.CX0 P w K mg base sl_is_statement "is_statement" (L2.defScope s_is_statement) fa cdv A outer s H E).nox (L2.defBody s_is_statement) (g_is_statement p_is_pair p_is_within p_is_pattern p_is_name p_is_test) := by
  have nd := sc_is_statement.nd
  exact (gss_cons (gs_if (GW.gt (gw_or (gt_not (gt_e (ge_isI kit_tup rfl T.f_isinstance bt_isinstance rfl T.f_tuple bt_tuple (ge_var 1)) (by intro _; rfl))) (gw_or (gt_cmp ok_lt (ge_b1 (ok_len) rfl T.f_len bt_len (ge_var 1)) ge_int (L2.nomark _)) (gw_or1 (gt_not (gt_e (ge_isI kit_str rfl T.f_isinstance bt_isinstance rfl T.f_str bt_str (ge_ix (ge_var 1) ge_int (fun _ _ => rfl))) (by intro _; rfl))))))) (gss_one (gs_ret ge_bl)) gss_nil) (gss_cons (gs_if (gt_cmp (ok_eq hr.units) (ge_ix (ge_var 1) ge_int (fun _ _ => rfl)) ge_str (L2.nomark _)) (gss_one (gs_ret (ge_and (ge_pure F_is_pair (hr.mono (Nat.le_succ _)) rfl (ga_cons (ge_var 1) ga_nil)) (ge_one (ge_pure F_is_within (hr.mono (Nat.le_succ _)) rfl (ga_cons (ge_ix (ge_var 1) ge_int (fun _ _ => rfl)) (ga_cons ge_int (ga_cons (ge_op ok_sub (ge_b1 (ok_len) rfl T.f_len bt_len (ge_var 0)) ge_int) ga_nil)))))))) gss_nil) (gss_cons (gs_if (gt_cmp (ok_eq hr.units) (ge_ix (ge_var 1) ge_int (fun _ _ => rfl)) ge_str (L2.nomark _)) (gss_one (gs_ret (ge_and (ge_pure F_is_pair (hr.mono (Nat.le_succ _)) rfl (ga_cons (ge_var 1) ga_nil)) (ge_one (ge_pure F_is_pattern (hr.mono (Nat.le_succ _)) rfl (ga_cons (ge_b1 (ok_len) rfl T.f_len bt_len (ge_var 0)) (ga_cons (ge_ix (ge_var 1) ge_int (fun _ _ => rfl)) ga_nil))))))) gss_nil) (gss_cons (gs_if (gt_cmp (ok_eq hr.units) (ge_ix (ge_var 1) ge_int (fun _ _ => rfl)) ge_str (L2.nomark _)) (gss_one (gs_ret (ge_and (ge_cmp (ok_eq hr.units) (ge_b1 (ok_len) rfl T.f_len bt_len (ge_var 1)) ge_int (L2.nomark _)) (ge_and (ge_pure F_is_name (hr.mono (Nat.le_succ _)) rfl (ga_cons (ge_ix (ge_var 1) ge_int (fun _ _ => rfl)) ga_nil)) (ge_one (ge_pure F_is_within (hr.mono (Nat.le_succ _)) rfl (ga_cons (ge_ix (ge_var 1) ge_int (fun _ _ => rfl)) (ga_cons ge_int (ga_cons (ge_gint rfl T.i_MOST_SIDES) ga_nil))))))))) gss_nil) (gss_cons (gs_if (gt_cmp (ok_eq hr.units) (ge_ix (ge_var 1) ge_int (fun _ _ => rfl)) ge_str (L2.nomark _)) gss_never gss_nil) (gss_cons (gs_if (gt_cmp (ok_eq hr.units) (ge_ix (ge_var 1) ge_int (fun _ _ => rfl)) ge_str (L2.nomark _)) gss_never gss_nil) (gss_one (gs_ret (ge_and (ge_cmp (ok_eq hr.units) (ge_ix (ge_var 1) ge_int (fun _ _ => rfl)) ge_str (L2.nomark _)) (ge_and (ge_cmp (ok_eq hr.units) (ge_b1 (ok_len) rfl T.f_len bt_len (ge_var 1)) ge_int (L2.nomark _)) (ge_one (ge_pure F_is_test (hr.mono (Nat.le_succ _)) rfl (ga_cons (ge_var 0) (ga_cons (ge_ix (ge_var 1) ge_int (fun _ _ => rfl)) ga_nil))))))))))))))
abbrev sl_l_draw : List Str := ["_law_hand_here", "_law_many", "_law_cell", "_law_digit", "_law_number"]
theorem sc_l_draw : L2.FnScope sl_l_draw ["_law_hand_here", "_law_many"] (L2.defScope s_l_draw) := ⟨rfl, rfl, rfl, by decide +kernel, rfl, by decide +kernel, by decide +kernel⟩
theorem dv_l_draw (T : Tx K mg ca) {fa : Addr} {cdv : Value} {A : Around} {outer : List Env} {s : Shared} {H : L2.Hp} {E : L2.XK} (hr : L2.Room (k + 1) (A.deeper (envOfC "_law_draw" (L2.defScope s_l_draw) s.heap.objs.size fa cdv))) :
    GSs ca (L2.cxOf L2.CX0 P w K mg base sl_l_draw "_law_draw" (L2.defScope s_l_draw) fa cdv A outer s H E).nox (L2.defBody s_l_draw) (g_l_draw) := by
  have nd := sc_l_draw.nd
  exact (gss_cons (gs_if (GW.gt (gw_and (gt_cmp (ok_eq hr.units) (ge_ix (ge_var 0) ge_int (fun _ _ => rfl)) ge_int (L2.nomark _)) (gw_and1 (gt_cmp ok_lt (ge_ix (ge_var 0) ge_int (fun _ _ => rfl)) (ge_b1 (ok_len) rfl T.f_len bt_len (ge_ix (ge_var 0) ge_int (fun _ _ => rfl))) (L2.nomark _))))) (gss_cons (gs_set (i := 2) nd rfl (by first | exact Or.inl rfl | exact Or.inr rfl) (ge_ix (ge_ix (ge_var 0) ge_int (fun _ _ => rfl)) (ge_ix (ge_var 0) ge_int (fun _ _ => rfl)) (fun _ _ => rfl)) rfl) (gss_cons (gs_ix (ge_var 0) ge_int (ge_op ok_add (ge_ix (ge_var 0) ge_int (fun _ _ => rfl)) ge_int) rfl rfl rfl (by intro _; rfl)) (gss_cons (gs_ix (ge_var 0) ge_int (ge_op ok_mod (ge_t1 ok_int1 rfl T.f_int bt_int (ge_op ok_add (ge_op ok_add (ge_op ok_mul (ge_ix (ge_var 0) ge_int (fun _ _ => rfl)) ge_int) (ge_var 2)) ge_int)) ge_int) rfl rfl rfl (by intro _; rfl)) (gss_one (gs_if (gt_cmp ok_ge (ge_var 2) (ge_op ok_pow ge_int ge_int) (L2.nomark _)) (gss_one (gs_ix (ge_var 0) ge_int (ge_var 2) rfl rfl rfl (by intro _; rfl))) gss_nil))))) gss_nil) (gss_cons (gs_if (gt_cmp ok_gt (ge_ix (ge_var 0) ge_int (fun _ _ => rfl)) ge_int (L2.nomark _)) (gss_cons (gs_set (i := 3) nd rfl (by first | exact Or.inl rfl | exact Or.inr rfl) (ge_op ok_mod (ge_t1 ok_int1 rfl T.f_int bt_int (ge_ix (ge_var 0) ge_int (fun _ _ => rfl))) (ge_var 1)) rfl) (gss_cons (gs_ix (ge_var 0) ge_int (ge_op ok_div (ge_ix (ge_var 0) ge_int (fun _ _ => rfl)) (ge_var 1)) rfl rfl rfl (by intro _; rfl)) (gss_one (gs_ret (ge_var 3))))) gss_nil) (gss_cons (gs_ix (ge_var 0) ge_int (ge_op ok_add (ge_ix (ge_var 0) ge_int (fun _ _ => rfl)) ge_int) rfl rfl rfl (by intro _; rfl)) (gss_cons (gs_set (i := 4) nd rfl (by first | exact Or.inl rfl | exact Or.inr rfl) (ge_op ok_mod (ge_t1 ok_int1 rfl T.f_int bt_int (ge_op ok_mul (ge_t1 ok_int1 rfl T.f_int bt_int (ge_op ok_add (ge_ix (ge_var 0) ge_int (fun _ _ => rfl)) (ge_op ok_mul ge_int (ge_ix (ge_var 0) ge_int (fun _ _ => rfl))))) ge_int)) ge_int) rfl) (gss_cons (gs_set (i := 4) nd rfl (by first | exact Or.inl rfl | exact Or.inr rfl) (ge_op ok_mod (ge_t1 ok_int1 rfl T.f_int bt_int (ge_op ok_mul (ge_var 4) (ge_op ok_add (ge_op ok_div (ge_var 4) ge_int) ge_int))) ge_int) rfl) (gss_cons (gs_set (i := 4) nd rfl (by first | exact Or.inl rfl | exact Or.inr rfl) (ge_op ok_mod (ge_t1 ok_int1 rfl T.f_int bt_int (ge_op ok_mul (ge_var 4) (ge_op ok_add (ge_op ok_div (ge_var 4) ge_int) ge_int))) ge_int) rfl) (gss_one (gs_ret (ge_op ok_mod (ge_t1 ok_int1 rfl T.f_int bt_int (ge_op ok_div (ge_var 4) ge_int)) (ge_var 1))))))))))
abbrev sl_l_moved : List Str := ["_law_block", "_law_content", "_law_policy", "_law_moves", "_law_done", "_law_sure", "_law_shown", "_law_looked", "_law_move", "_law_line"]
theorem sc_l_moved : L2.FnScope sl_l_moved ["_law_block", "_law_content", "_law_policy", "_law_moves"] (L2.defScope s_l_moved) := ⟨rfl, rfl, rfl, by decide +kernel, rfl, by decide +kernel, by decide +kernel⟩
theorem dv_l_moved (T : Tx K mg ca) {p_l_due : PSp} (F_l_due : FnG ca P w K mg base "_law_due" k (liftP p_l_due)) {fa : Addr} {cdv : Value} {A : Around} {outer : List Env} {s : Shared} {H : L2.Hp} {E : L2.XK} (hr : L2.Room (k + 1) (A.deeper (envOfC "_law_moved" (L2.defScope s_l_moved) s.heap.objs.size fa cdv))) :
    GSs ca (L2.cxOf L2.CX0 P w K mg base sl_l_moved "_law_moved" (L2.defScope s_l_moved) fa cdv A outer s H E).nox (L2.defBody s_l_moved) (g_l_moved p_l_due) := by
  have nd := sc_l_moved.nd
  exact (gss_cons (gs_set (i := 4) nd rfl (by first | exact Or.inl rfl | exact Or.inr rfl) (ge_lstF ga_nil) rfl) (gss_cons (gs_set (i := 5) nd rfl (by first | exact Or.inl rfl | exact Or.inr rfl) ge_int rfl) (gss_cons (gs_set (i := 6) nd rfl (by first | exact Or.inl rfl | exact Or.inr rfl) ge_non rfl) (gss_cons (gs_set (i := 7) nd rfl (by first | exact Or.inl rfl | exact Or.inr rfl) (ge_lst ga_nil) rfl) (gss_cons (gs_for PassesOwn.never rfl (gi_seq (ge_var 3)) (gg_name (i := 8) nd rfl (by first | exact Or.inl rfl | exact Or.inr rfl)) (gss_one (gs_if (gt_cmp (ok_eq hr.units) (ge_var 8) (ge_tup (ga_cons ge_str ga_nil)) (L2.nomark _)) (gss_one (gs_set (i := 4) nd rfl (by first | exact Or.inl rfl | exact Or.inr rfl) (ge_slice (ge_var 4) go_none (go_some (ge_var 5))) rfl)) (gss_one (gs_if (gt_notN (ge_var 6)) (gss_one (gs_ret ge_non)) (gss_cons (gs_set (i := 9) nd rfl (by first | exact Or.inl rfl | exact Or.inr rfl) (ge_pure F_l_due (hr.mono (Nat.le_succ _)) rfl (ga_cons (ge_var 0) (ga_cons (ge_var 1) (ga_cons (ge_var 4) ga_nil)))) rfl) (gss_one (gs_if (gt_cmp (ok_eq hr.units) (ge_ix (ge_var 8) ge_int (fun _ _ => rfl)) ge_str (L2.nomark _)) (gss_cons (gs_if (GW.gt (gw_or (gt_cmp (ok_ne hr.units) (ge_ix (ge_var 9) ge_int (fun _ _ => rfl)) ge_str (L2.nomark _)) (gw_or1 (gt_not (gt_cmp ok_lt (ge_ix (ge_var 8) ge_int (fun _ _ => rfl)) (ge_ix (ge_var 9) ge_int (fun _ _ => rfl)) (L2.nomark _)))))) (gss_one (gs_ret ge_non)) gss_nil) (gss_cons (gs_set (i := 4) nd rfl (by first | exact Or.inl rfl | exact Or.inr rfl) (ge_op ok_add (ge_var 4) (ge_lstF (ga_cons (ge_tup (ga_cons ge_str (ga_cons (ge_ix (ge_var 8) ge_int (fun _ _ => rfl)) ga_nil))) ga_nil))) rfl) (gss_one (gs_if (gt_e (ge_ix (ge_var 2) ge_int (fun _ _ => rfl)) (by intro _; rfl)) (gss_one (gs_set (i := 5) nd rfl (by first | exact Or.inl rfl | exact Or.inr rfl) (ge_b1 (ok_len) rfl T.f_len bt_len (ge_var 4)) rfl)) gss_nil)))) (gss_one (gs_if (gt_cmp (ok_eq hr.units) (ge_ix (ge_var 9) ge_int (fun _ _ => rfl)) ge_str (L2.nomark _)) (gss_one (gs_ret ge_non)) (gss_one (gs_if (gt_cmp (ok_eq hr.units) (ge_ix (ge_var 9) ge_int (fun _ _ => rfl)) ge_str (L2.nomark _)) (gss_cons (gs_if (gt_e (ge_ix (ge_var 2) ge_int (fun _ _ => rfl)) (by intro _; rfl)) (gss_one (gs_set (i := 5) nd rfl (by first | exact Or.inl rfl | exact Or.inr rfl) (ge_b1 (ok_len) rfl T.f_len bt_len (ge_var 4)) rfl)) gss_nil) (gss_cons (gs_set (i := 4) nd rfl (by first | exact Or.inl rfl | exact Or.inr rfl) (ge_op ok_add (ge_var 4) (ge_lstF (ga_cons (ge_var 9) ga_nil))) rfl) (gss_one (gs_if (gt_cmp (ok_notIn (hu65 hr)) (ge_ix (ge_var 9) ge_int (fun _ _ => rfl)) (ge_var 7) rfl) (gss_one (gs_expr (ge_append (ge_var 7) (ge_ix (ge_var 9) ge_int (fun _ _ => rfl)) rfl rfl rfl rfl) rfl)) gss_nil)))) (gss_cons (gs_set (i := 4) nd rfl (by first | exact Or.inl rfl | exact Or.inr rfl) (ge_op ok_add (ge_var 4) (ge_lstF (ga_cons (ge_var 9) ga_nil))) rfl) (gss_cons (gs_set (i := 5) nd rfl (by first | exact Or.inl rfl | exact Or.inr rfl) (ge_b1 (ok_len) rfl T.f_len bt_len (ge_var 4)) rfl) (gss_one (gs_set (i := 6) nd rfl (by first | exact Or.inl rfl | exact Or.inr rfl) (ge_ix (ge_var 9) ge_int (fun _ _ => rfl)) rfl))))))))))))))) (by intro _; rfl)) (gss_one (gs_ret (ge_tup (ga_cons (ge_var 6) (ga_cons (ge_fz (ge_var 7)) ga_nil))))))))))
abbrev sl_l_some_moves : List Str := ["_law_hand_here", "_law_block", "_law_content", "_law_policy", "_law_moves", "_law_turn", "_law_told", "_law_way", "_law_move"]
theorem sc_l_some_moves : L2.FnScope sl_l_some_moves ["_law_hand_here", "_law_block", "_law_content", "_law_policy"] (L2.defScope s_l_some_moves) := ⟨rfl, rfl, rfl, by decide +kernel, rfl, by decide +kernel, by decide +kernel⟩
theorem dv_l_some_moves (T : Tx K mg ca) {q_l_draw : DSp} {p_l_moved : PSp} (F_l_draw : FnG ca P w K mg base "_law_draw" k q_l_draw) (F_l_moved : FnG ca P w K mg base "_law_moved" k (liftP p_l_moved)) {fa : Addr} {cdv : Value} {A : Around} {outer : List Env} {s : Shared} {H : L2.Hp} {E : L2.XK} (hr : L2.Room (k + 1) (A.deeper (envOfC "_law_some_moves" (L2.defScope s_l_some_moves) s.heap.objs.size fa cdv))) :
    GSs ca (L2.cxOf L2.CX0 P w K mg base sl_l_some_moves "_law_some_moves" (L2.defScope s_l_some_moves) fa cdv A outer s H E).nox (L2.defBody s_l_some_moves) (g_l_some_moves q_l_draw p_l_moved) := by
  have nd := sc_l_some_moves.nd
  exact (gss_cons (gs_set (i := 4) nd rfl (by first | exact Or.inl rfl | exact Or.inr rfl) (ge_tup ga_nil) rfl) (gss_cons (gs_for PassesOwn.never rfl (gi_rng1 rfl T.f_range (ge_op ok_add ge_int (ge_call F_l_draw (hr.mono (Nat.le_succ _)) rfl (ga_cons (ge_var 0) (ga_cons ge_int ga_nil)))) rfl) (gg_name (i := 5) nd rfl (by first | exact Or.inl rfl | exact Or.inr rfl)) (gss_cons (gs_set (i := 6) nd rfl (by first | exact Or.inl rfl | exact Or.inr rfl) (ge_pure F_l_moved (hr.mono (Nat.le_succ _)) rfl (ga_cons (ge_var 1) (ga_cons (ge_var 2) (ga_cons (ge_var 3) (ga_cons (ge_var 4) ga_nil))))) rfl) (gss_cons (gs_if (GW.gt (gw_or (gt_isN (ge_var 6)) (gw_or1 (gt_notN (ge_ix (ge_var 6) ge_int (fun _ _ => rfl)))))) (gss_one (gs_ret (ge_var 4))) gss_nil) (gss_cons (gs_set (i := 7) nd rfl (by first | exact Or.inl rfl | exact Or.inr rfl) (ge_call F_l_draw (hr.mono (Nat.le_succ _)) rfl (ga_cons (ge_var 0) (ga_cons ge_int ga_nil))) rfl) (gss_cons (gs_set (i := 8) nd rfl (by first | exact Or.inl rfl | exact Or.inr rfl) (ge_tup (ga_cons ge_str ga_nil)) rfl) (gss_cons (gs_if (gt_cmp ok_gt (ge_var 7) ge_int (L2.nomark _)) (gss_cons (gs_set (i := 8) nd rfl (by first | exact Or.inl rfl | exact Or.inr rfl) (ge_tup (ga_cons ge_str ga_nil)) rfl) (gss_one (gs_if (gt_isN (ge_pure F_l_moved (hr.mono (Nat.le_succ _)) rfl (ga_cons (ge_var 1) (ga_cons (ge_var 2) (ga_cons (ge_var 3) (ga_cons (ge_op ok_add (ge_var 4) (ge_tup (ga_cons (ge_var 8) ga_nil))) ga_nil)))))) (gss_one (gs_set (i := 8) nd rfl (by first | exact Or.inl rfl | exact Or.inr rfl) (ge_tup (ga_cons ge_str (ga_cons (ge_call F_l_draw (hr.mono (Nat.le_succ _)) rfl (ga_cons (ge_var 0) (ga_cons ge_int ga_nil))) ga_nil))) rfl)) gss_nil))) gss_nil) (gss_one (gs_set (i := 4) nd rfl (by first | exact Or.inl rfl | exact Or.inr rfl) (ge_op ok_add (ge_var 4) (ge_tup (ga_cons (ge_var 8) ga_nil))) rfl))))))) (by intro _; rfl)) (gss_one (gs_ret (ge_var 4)))))
end
end G
set_option Elab.async false
set_option linter.all false
set_option maxRecDepth 100000
set_option maxHeartbeats 4000000
namespace G
open PySem PySem.Spec PyProof.Rows
section
variable {P : Program} {w : World} {K : PySem.W.Frag} {mg : Str → Option Value} {base : Heap} {ca : Cl → Addr} {k : Nat}
abbrev sl_are_ascending : List Str := ["things", "at"]
theorem sc_are_ascending : L2.FnScope sl_are_ascending ["things"] (L2.defScope s_are_ascending) := ⟨rfl, rfl, rfl, by decide +kernel, rfl, by decide +kernel, by decide +kernel⟩
theorem dv_are_ascending (T : Tx K mg ca) {fa : Addr} {cdv : Value} {A : Around} {outer : List Env} {s : Shared} {H : L2.Hp} {E : L2.XK} (hr : L2.Room (k + 1) (A.deeper (envOfC "are_ascending" (L2.defScope s_are_ascending) s.heap.objs.size fa cdv))) :
    GSs ca (L2.cxOf L2.CX0 P w K mg base sl_are_ascending "are_ascending" (L2.defScope s_are_ascending) fa cdv A outer s H E).nox (L2.defBody s_are_ascending) (g_are_ascending) := by
  have nd := sc_are_ascending.nd
  exact (gss_one (gs_ret (ge_b1 (ok_all rfl) rfl T.f_all bt_all (ge_compV rfl nd (gi_rng2 rfl T.f_range ge_int (ge_b1 (ok_len) rfl T.f_len bt_len (ge_var 0)) rfl rfl) (L2.blkOk_by (own := [("at", 1)]) (N := sl_are_ascending) (sc := L2.defScope s_are_ascending) (by decide +kernel)) rfl (fun _ _ _ _ _ => (gc_name (i := 1) nd rfl (Or.inl rfl) (Or.inr rfl) (by decide))) (fun _ _ _ _ _ => gts_nil) (fun _ _ _ _ _ => (ge_cmp ok_lt (ge_ix (ge_var 0) (ge_op ok_sub (ge_var 1) ge_int) (fun _ _ => rfl)) (ge_ix (ge_var 0) (ge_var 1) (fun _ _ => rfl)) (L2.nomark _))) (by intro _; rfl)))))
abbrev sl_many_contents : List Str := ["sizes", "found", "size"]
theorem sc_many_contents : L2.FnScope sl_many_contents ["sizes"] (L2.defScope s_many_contents) := ⟨rfl, rfl, rfl, by decide +kernel, rfl, by decide +kernel, by decide +kernel⟩
theorem dv_many_contents (T : Tx K mg ca) {fa : Addr} {cdv : Value} {A : Around} {outer : List Env} {s : Shared} {H : L2.Hp} {E : L2.XK} (hr : L2.Room (k + 1) (A.deeper (envOfC "many_contents" (L2.defScope s_many_contents) s.heap.objs.size fa cdv))) :
    GSs ca (L2.cxOf L2.CX0 P w K mg base sl_many_contents "many_contents" (L2.defScope s_many_contents) fa cdv A outer s H E).nox (L2.defBody s_many_contents) (g_many_contents) := by
  have nd := sc_many_contents.nd
  exact (gss_cons (gs_set (i := 1) nd rfl (by first | exact Or.inl rfl | exact Or.inr rfl) ge_int rfl) (gss_cons (gs_for PassesOwn.never rfl (gi_seq (ge_var 0)) (gg_name (i := 2) nd rfl (by first | exact Or.inl rfl | exact Or.inr rfl)) (gss_one (gs_set (i := 1) nd rfl (by first | exact Or.inl rfl | exact Or.inr rfl) (ge_op ok_mul (ge_var 1) (ge_var 2)) rfl)) (by intro _; rfl)) (gss_one (gs_ret (ge_var 1)))))
abbrev sl_State_statement : List Str := ["self", "block", "at", "again"]
theorem sc_State_statement : L2.FnScope sl_State_statement ["self"] (L2.defScope s_State_statement) := ⟨rfl, rfl, rfl, by decide +kernel, rfl, by decide +kernel, by decide +kernel⟩
theorem dv_State_statement (T : Tx K mg ca) {fa : Addr} {cdv : Value} {A : Around} {outer : List Env} {s : Shared} {H : L2.Hp} {E : L2.XK} (hr : L2.Room (k + 1) (A.deeper (envOfC "State.statement" (L2.defScope s_State_statement) s.heap.objs.size fa cdv))) :
    GSs ca (L2.cxOf L2.CX0 P w K mg base sl_State_statement "State.statement" (L2.defScope s_State_statement) fa cdv A outer s H E).nox (L2.defBody s_State_statement) (g_State_statement) := by
  have nd := sc_State_statement.nd
  exact (gss_cons (gs_asg (ge_ix (ge_fld T.cls T.na_place (ge_var 0) rfl) (ge_neg ge_int) (fun _ _ => rfl)) (gg_tup rfl (ggs_cons (gg_name (i := 1) nd rfl (by first | exact Or.inl rfl | exact Or.inr rfl)) (ggs_cons (gg_name (i := 2) nd rfl (by first | exact Or.inl rfl | exact Or.inr rfl)) (ggs_cons (gg_name (i := 3) nd rfl (by first | exact Or.inl rfl | exact Or.inr rfl)) ggs_nil)))) rfl rfl rfl) (gss_cons (gs_if (gt_cmp (ok_eq hr.units) (ge_var 2) (ge_b1 (ok_len) rfl T.f_len bt_len (ge_var 1)) (L2.nomark _)) (gss_one (gs_ret ge_non)) gss_nil) (gss_one (gs_ret (ge_ix (ge_var 1) (ge_var 2) (fun _ _ => rfl))))))
abbrev sl_begin : List Str := ["program"]
theorem sc_begin : L2.FnScope sl_begin ["program"] (L2.defScope s_begin) := ⟨rfl, rfl, rfl, by decide +kernel, rfl, by decide +kernel, by decide +kernel⟩
theorem dv_begin (T : Tx K mg ca) {q_State_init : DSp} (F_State_init : MkG ca P w K mg base .state "State" k q_State_init) {fa : Addr} {cdv : Value} {A : Around} {outer : List Env} {s : Shared} {H : L2.Hp} {E : L2.XK} (hr : L2.Room (k + 1) (A.deeper (envOfC "begin" (L2.defScope s_begin) s.heap.objs.size fa cdv))) :
    GSs ca (L2.cxOf L2.CX0 P w K mg base sl_begin "begin" (L2.defScope s_begin) fa cdv A outer s H E).nox (L2.defBody s_begin) (g_begin q_State_init) := by
  have nd := sc_begin.nd
  exact (gss_one (gs_ret (ge_makeF F_State_init hr rfl (ga_cons ge_dic0F (ga_cons ge_dic0F (ga_cons (ge_tup (ga_cons (ge_tup (ga_cons (ge_fld T.cls T.na_block (ge_var 0) rfl) (ga_cons ge_int (ga_cons ge_int ga_nil)))) ga_nil)) ga_nil))))))
abbrev sl_is_policy : List Str := ["thing", "flag"]
theorem sc_is_policy : L2.FnScope sl_is_policy ["thing"] (L2.defScope s_is_policy) := ⟨rfl, rfl, rfl, by decide +kernel, rfl, by decide +kernel, by decide +kernel⟩
theorem dv_is_policy (T : Tx K mg ca) {p_is_pair : PSp} (F_is_pair : FnG ca P w K mg base "is_pair" k (liftP p_is_pair)) {fa : Addr} {cdv : Value} {A : Around} {outer : List Env} {s : Shared} {H : L2.Hp} {E : L2.XK} (hr : L2.Room (k + 1) (A.deeper (envOfC "is_policy" (L2.defScope s_is_policy) s.heap.objs.size fa cdv))) :
    GSs ca (L2.cxOf L2.CX0 P w K mg base sl_is_policy "is_policy" (L2.defScope s_is_policy) fa cdv A outer s H E).nox (L2.defBody s_is_policy) (g_is_policy p_is_pair) := by
  have nd := sc_is_policy.nd
  exact (gss_one (gs_ret (ge_and (ge_pure F_is_pair (hr.mono (Nat.le_succ _)) rfl (ga_cons (ge_var 0) ga_nil)) (ge_one (ge_b1 (ok_all rfl) rfl T.f_all bt_all (ge_compV rfl nd (gi_seq (ge_var 0)) (L2.blkOk_by (own := [("flag", 1)]) (N := sl_is_policy) (sc := L2.defScope s_is_policy) (by decide +kernel)) rfl (fun _ _ _ _ _ => (gc_name (i := 1) nd rfl (Or.inl rfl) (Or.inr rfl) (by decide))) (fun _ _ _ _ _ => gts_nil) (fun _ _ _ _ _ => (ge_isI kit_bool rfl T.f_isinstance bt_isinstance rfl T.f_bool bt_bool (ge_var 1))) (by intro _; rfl)))))))
abbrev sl_Keeper_put : List Str := ["self", "content"]
theorem sc_Keeper_put : L2.FnScope sl_Keeper_put ["self", "content"] (L2.defScope s_Keeper_put) := ⟨rfl, rfl, rfl, by decide +kernel, rfl, by decide +kernel, by decide +kernel⟩
theorem dv_Keeper_put (T : Tx K mg ca) {p_check_content : PSp} (F_check_content : FnG ca P w K mg base "check_content" k (liftP p_check_content)) {fa : Addr} {cdv : Value} {A : Around} {outer : List Env} {s : Shared} {H : L2.Hp} {E : L2.XK} (hr : L2.Room (k + 1) (A.deeper (envOfC "Keeper.put" (L2.defScope s_Keeper_put) s.heap.objs.size fa cdv))) :
    GSs ca (L2.cxOf L2.CX0 P w K mg base sl_Keeper_put "Keeper.put" (L2.defScope s_Keeper_put) fa cdv A outer s H E).nox (L2.defBody s_Keeper_put) (g_Keeper_put p_check_content) := by
  have nd := sc_Keeper_put.nd
  exact (gss_cons (gs_expr (ge_pure F_check_content (hr.mono (Nat.le_succ _)) rfl (ga_cons (ge_fld T.cls T.na_sizes (ge_fld T.cls T.na_program (ge_var 0) rfl) rfl) (ga_cons (ge_var 1) ga_nil))) rfl) (gss_cons (gs_expr (ge_append (ge_fld T.cls T.na_contents_put (ge_var 0) rfl) (ge_var 1) rfl rfl rfl rfl) rfl) (gss_cons (gs_expr (ge_append (ge_fld T.cls T.na_columns_seen (ge_var 0) rfl) (ge_tup ga_nil) rfl rfl rfl rfl) rfl) (gss_one (gs_ret (ge_op ok_sub (ge_b1 (ok_len) rfl T.f_len bt_len (ge_fld T.cls T.na_contents_put (ge_var 0) rfl)) ge_int))))))
abbrev sl_Keeper_open_column : List Str := ["self", "c", "k", "worth"]
theorem sc_Keeper_open_column : L2.FnScope sl_Keeper_open_column ["self", "c"] (L2.defScope s_Keeper_open_column) := ⟨rfl, rfl, rfl, by decide +kernel, rfl, by decide +kernel, by decide +kernel⟩
theorem dv_Keeper_open_column (T : Tx K mg ca) {q_Keeper_make_sure : DSp} {q_Keeper_begin_row : DSp} {q_Keeper_row_now : DSp} {p_after_open : PSp} (F_Keeper_make_sure : MtG ca P w K mg base .keeper "make_sure" k q_Keeper_make_sure) (F_Keeper_begin_row : MtG ca P w K mg base .keeper "begin_row" k q_Keeper_begin_row) (F_Keeper_row_now : MtG ca P w K mg base .keeper "row_now" k q_Keeper_row_now) (F_after_open : FnG ca P w K mg base "after_open" k (liftP p_after_open)) {fa : Addr} {cdv : Value} {A : Around} {outer : List Env} {s : Shared} {H : L2.Hp} {E : L2.XK} (hr : L2.Room (k + 1) (A.deeper (envOfC "Keeper.open_column" (L2.defScope s_Keeper_open_column) s.heap.objs.size fa cdv))) :
    GSs ca (L2.cxOf L2.CX0 P w K mg base sl_Keeper_open_column "Keeper.open_column" (L2.defScope s_Keeper_open_column) fa cdv A outer s H E).nox (L2.defBody s_Keeper_open_column) (g_Keeper_open_column q_Keeper_make_sure q_Keeper_begin_row q_Keeper_row_now p_after_open) := by
  have nd := sc_Keeper_open_column.nd
  exact (gss_cons (gs_if (gt_e (ge_ix (ge_fld T.cls T.na_policy (ge_var 0) rfl) ge_int (fun _ _ => rfl)) (by intro _; rfl)) (gss_one (gs_expr (ge_meth0 F_Keeper_make_sure (T.cls _) (hr.mono (Nat.le_succ _)) (ge_var 0) (by rfl)) rfl)) gss_nil) (gss_cons (gs_expr (ge_meth0 F_Keeper_begin_row (T.cls _) (hr.mono (Nat.le_succ _)) (ge_var 0) (by rfl)) rfl) (gss_cons (gs_set (i := 2) nd rfl (by first | exact Or.inl rfl | exact Or.inr rfl) (ge_meth0 F_Keeper_row_now (T.cls _) (hr.mono (Nat.le_succ _)) (ge_var 0) (by rfl)) rfl) (gss_cons (gs_set (i := 3) nd rfl (by first | exact Or.inl rfl | exact Or.inr rfl) (ge_ix (ge_ix (ge_fld T.cls T.na_contents_put (ge_var 0) rfl) (ge_var 2) (fun _ _ => rfl)) (ge_var 1) (fun _ _ => rfl)) rfl) (gss_cons (gs_expr (ge_append (ge_fld T.cls T.na_loose_lines (ge_var 0) rfl) (ge_tup (ga_cons ge_str (ga_cons (ge_var 1) (ga_cons (ge_var 3) ga_nil)))) rfl rfl rfl rfl) rfl) (gss_cons (gs_if (gt_cmp (ok_notIn (hu65 hr)) (ge_var 1) (ge_ix (ge_fld T.cls T.na_columns_seen (ge_var 0) rfl) (ge_var 2) (fun _ _ => rfl)) rfl) (gss_one (gs_ix (ge_fld T.cls T.na_columns_seen (ge_var 0) rfl) (ge_var 2) (ge_t1 ok_tuple rfl T.f_tuple bt_tuple (ge_b1 (ok_sorted) rfl T.f_sorted bt_sorted (ge_op ok_add (ge_ix (ge_fld T.cls T.na_columns_seen (ge_var 0) rfl) (ge_var 2) (fun _ _ => rfl)) (ge_tup (ga_cons (ge_var 1) ga_nil))))) rfl rfl rfl (by intro _; rfl))) gss_nil) (gss_one (gs_fld T.cls T.na_live (ge_var 0) (ge_tup (ga_cons ge_bl (ga_cons (ge_pure F_after_open (hr.mono (Nat.le_succ _)) rfl (ga_cons (ge_ix (ge_fld T.cls T.na_live (ge_var 0) rfl) ge_int (fun _ _ => rfl)) (ga_cons (ge_var 3) ga_nil))) ga_nil))) rfl))))))))
abbrev sl_breach_of : List Str := ["program", "content", "runs", "pattern", "throws", "other", "other_throws", "wide", "ahead", "share", "order", "c"]
theorem sc_breach_of : L2.FnScope sl_breach_of ["program", "content"] (L2.defScope s_breach_of) := ⟨rfl, rfl, rfl, by decide +kernel, rfl, by decide +kernel, by decide +kernel⟩
theorem dv_breach_of (T : Tx K mg ca) {p_outcomes : PSp} {p_moves_until : PSp} (F_outcomes : FnG ca P w K mg base "outcomes" k (liftP p_outcomes)) (F_moves_until : FnG ca P w K mg base "moves_until" k (liftP p_moves_until)) {fa : Addr} {cdv : Value} {A : Around} {outer : List Env} {s : Shared} {H : L2.Hp} {E : L2.XK} (hr : L2.Room (k + 1) (A.deeper (envOfC "breach_of" (L2.defScope s_breach_of) s.heap.objs.size fa cdv))) :
    GSs ca (L2.cxOf L2.CX0 P w K mg base sl_breach_of "breach_of" (L2.defScope s_breach_of) fa cdv A outer s H E).nox (L2.defBody s_breach_of) (g_breach_of p_outcomes p_moves_until) := by
  have nd := sc_breach_of.nd
  exact (gss_cons (gs_compV (i := 2) rfl nd rfl rfl (L2.sw_true rfl rfl rfl (by decide +kernel)) (gi_seq (ge_pure F_outcomes (hr.mono (Nat.le_succ _)) rfl (ga_cons (ge_var 0) (ga_cons (ge_var 1) ga_nil)))) (L2.blkOk_by (own := [("share", 9), ("pattern", 3), ("order", 10), ("throws", 4)]) (N := sl_breach_of) (sc := L2.defScope s_breach_of) (by decide +kernel)) rfl (fun _ _ _ _ _ => (gc_tup rfl (gcs_cons (gc_name (i := 9) nd rfl (Or.inl rfl) (Or.inr rfl) (by decide)) (gcs_cons (gc_name (i := 3) nd rfl (Or.inl rfl) (Or.inr rfl) (by decide)) (gcs_cons (gc_name (i := 10) nd rfl (Or.inl rfl) (Or.inr rfl) (by decide)) (gcs_cons (gc_name (i := 4) nd rfl (Or.inl rfl) (Or.inr rfl) (by decide)) gcs_nil rfl) rfl) rfl) rfl) rfl rfl)) (fun _ _ _ _ _ => gts_nil) (fun _ _ _ _ _ => (ge_tup (ga_cons (ge_var 3) (ga_cons (ge_var 4) ga_nil)))) (by intro _; rfl)) (gss_cons (gs_asg (ge_ix (ge_var 2) ge_int (fun _ _ => rfl)) (gg_tup rfl (ggs_cons (gg_name (i := 3) nd rfl (by first | exact Or.inl rfl | exact Or.inr rfl)) (ggs_cons (gg_name (i := 4) nd rfl (by first | exact Or.inl rfl | exact Or.inr rfl)) ggs_nil))) rfl rfl rfl) (gss_cons (gs_for PassesOwn.never rfl (gi_seq (ge_var 2)) (gg_tup rfl (ggs_cons (gg_name (i := 5) nd rfl (by first | exact Or.inl rfl | exact Or.inr rfl)) (ggs_cons (gg_name (i := 6) nd rfl (by first | exact Or.inl rfl | exact Or.inr rfl)) ggs_nil))) (gss_cons (gs_compV (i := 7) rfl nd rfl rfl (L2.sw_true rfl rfl rfl (by decide +kernel)) (gi_seq (ge_var 5)) (L2.blkOk_by (own := [("c", 11)]) (N := sl_breach_of) (sc := L2.defScope s_breach_of) (by decide +kernel)) rfl (fun _ _ _ _ _ => (gc_name (i := 11) nd rfl (Or.inl rfl) (Or.inr rfl) (by decide))) (fun _ _ _ _ _ => (gts_one (gt_cmp (ok_notIn (hu65 hr)) (ge_var 11) (ge_var 3) rfl))) (fun _ _ _ _ _ => (ge_var 11)) (by intro _; rfl)) (gss_cons (gs_if (gt_cmp ok_gt (ge_b1 (ok_len) rfl T.f_len bt_len (ge_var 7)) ge_int (L2.nomark _)) (gss_cons (gs_set (i := 8) nd rfl (by first | exact Or.inl rfl | exact Or.inr rfl) (ge_pure F_moves_until (hr.mono (Nat.le_succ _)) rfl (ga_cons (ge_var 0) (ga_cons (ge_var 1) (ga_cons (ge_var 6) (ga_cons (ge_var 3) ga_nil))))) rfl) (gss_one (gs_ret (ge_op ok_add (ge_op ok_add (ge_var 8) (ge_tup (ga_cons (ge_tup (ga_cons ge_str ga_nil)) ga_nil))) (ge_pure F_moves_until (hr.mono (Nat.le_succ _)) rfl (ga_cons (ge_var 0) (ga_cons (ge_var 1) (ga_cons (ge_var 4) (ga_cons (ge_var 3) ga_nil))))))))) gss_nil) (gss_one (gs_if (gt_cmp (ok_ne hr.units) (ge_var 5) (ge_var 3) (L2.nomark _)) (gss_cons (gs_set (i := 8) nd rfl (by first | exact Or.inl rfl | exact Or.inr rfl) (ge_pure F_moves_until (hr.mono (Nat.le_succ _)) rfl (ga_cons (ge_var 0) (ga_cons (ge_var 1) (ga_cons (ge_var 4) (ga_cons (ge_var 5) ga_nil))))) rfl) (gss_one (gs_ret (ge_op ok_add (ge_op ok_add (ge_var 8) (ge_tup (ga_cons (ge_tup (ga_cons ge_str ga_nil)) ga_nil))) (ge_pure F_moves_until (hr.mono (Nat.le_succ _)) rfl (ga_cons (ge_var 0) (ga_cons (ge_var 1) (ga_cons (ge_var 6) (ga_cons (ge_var 5) ga_nil))))))))) gss_nil)))) (by intro _; rfl)) (gss_one (gs_ret ge_non)))))
abbrev sl_blocks_in : List Str := ["statement"]
theorem sc_blocks_in : L2.FnScope sl_blocks_in ["statement"] (L2.defScope s_blocks_in) := ⟨rfl, rfl, rfl, by decide +kernel, rfl, by decide +kernel, by decide +kernel⟩
theorem dv_blocks_in (T : Tx K mg ca) {fa : Addr} {cdv : Value} {A : Around} {outer : List Env} {s : Shared} {H : L2.Hp} {E : L2.XK} (hr : L2.Room (k + 1) (A.deeper (envOfC "blocks_in" (L2.defScope s_blocks_in) s.heap.objs.size fa cdv))) :
    GSs ca (L2.cxOf L2.CX0 P w K mg base sl_blocks_in "blocks_in" (L2.defScope s_blocks_in) fa cdv A outer s H E).nox (L2.defBody s_blocks_in) (g_blocks_in) := by
  have nd := sc_blocks_in.nd
  exact (gss_cons (gs_if (gt_cmp (ok_eq hr.units) (ge_ix (ge_var 0) ge_int (fun _ _ => rfl)) ge_str (L2.nomark _)) (gss_one (gs_ret (ge_slice (ge_var 0) (go_some ge_int) go_none))) gss_nil) (gss_cons (gs_if (gt_cmp (ok_eq hr.units) (ge_ix (ge_var 0) ge_int (fun _ _ => rfl)) ge_str (L2.nomark _)) gss_never gss_nil) (gss_one (gs_ret (ge_tup ga_nil)))))
abbrev sl_l_contents : List Str := ["_law_sizes", "_law_found", "_law_size", "_law_longer", "_law_content", "_law_worth"]
theorem sc_l_contents : L2.FnScope sl_l_contents ["_law_sizes"] (L2.defScope s_l_contents) := ⟨rfl, rfl, rfl, by decide +kernel, rfl, by decide +kernel, by decide +kernel⟩
theorem dv_l_contents (T : Tx K mg ca) {fa : Addr} {cdv : Value} {A : Around} {outer : List Env} {s : Shared} {H : L2.Hp} {E : L2.XK} (hr : L2.Room (k + 1) (A.deeper (envOfC "_law_contents" (L2.defScope s_l_contents) s.heap.objs.size fa cdv))) :
    GSs ca (L2.cxOf L2.CX0 P w K mg base sl_l_contents "_law_contents" (L2.defScope s_l_contents) fa cdv A outer s H E).nox (L2.defBody s_l_contents) (g_l_contents) := by
  have nd := sc_l_contents.nd
  exact (gss_cons (gs_set (i := 1) nd rfl (by first | exact Or.inl rfl | exact Or.inr rfl) (ge_lstF (ga_cons (ge_tup ga_nil) ga_nil)) rfl) (gss_cons (gs_for PassesOwn.never rfl (gi_seq (ge_var 0)) (gg_name (i := 2) nd rfl (by first | exact Or.inl rfl | exact Or.inr rfl)) (gss_cons (gs_set (i := 3) nd rfl (by first | exact Or.inl rfl | exact Or.inr rfl) (ge_lst ga_nil) rfl) (gss_cons (gs_for PassesOwn.never rfl (gi_seq (ge_var 1)) (gg_name (i := 4) nd rfl (by first | exact Or.inl rfl | exact Or.inr rfl)) (gss_one (gs_expr (ge_extend (ge_var 3) (ge_compV rfl nd (gi_rng1 rfl T.f_range (ge_var 2) rfl) (L2.blkOk_by (own := [("_law_worth", 5)]) (N := sl_l_contents) (sc := L2.defScope s_l_contents) (by decide +kernel)) rfl (fun _ _ _ _ _ => (gc_name (i := 5) nd rfl (Or.inl rfl) (Or.inr rfl) (by decide))) (fun _ _ _ _ _ => gts_nil) (fun _ _ _ _ _ => (ge_op ok_add (ge_var 4) (ge_tup (ga_cons (ge_var 5) ga_nil)))) (by intro _; rfl)) rfl rfl rfl rfl) rfl)) (by intro _; rfl)) (gss_one (gs_set (i := 1) nd rfl (by first | exact Or.inl rfl | exact Or.inr rfl) (ge_fz (ge_var 3)) rfl)))) (by intro _; rfl)) (gss_one (gs_ret (ge_var 1)))))
abbrev sl_l_shows : List Str := ["_law_block", "_law_content", "_law_found", "_law_waiting", "_law_turn", "_law_throws", "_law_last", "_law_value"]
theorem sc_l_shows : L2.FnScope sl_l_shows ["_law_block", "_law_content"] (L2.defScope s_l_shows) := ⟨rfl, rfl, rfl, by decide +kernel, rfl, by decide +kernel, by decide +kernel⟩
theorem dv_l_shows (T : Tx K mg ca) {p_l_walk : PSp} (F_l_walk : FnG ca P w K mg base "_law_walk" k (liftP p_l_walk)) {fa : Addr} {cdv : Value} {A : Around} {outer : List Env} {s : Shared} {H : L2.Hp} {E : L2.XK} (hr : L2.Room (k + 1) (A.deeper (envOfC "_law_shows" (L2.defScope s_l_shows) s.heap.objs.size fa cdv))) :
    GSs ca (L2.cxOf L2.CX0 P w K mg base sl_l_shows "_law_shows" (L2.defScope s_l_shows) fa cdv A outer s H E).nox (L2.defBody s_l_shows) (g_l_shows p_l_walk) := by
  have nd := sc_l_shows.nd
  exact (gss_cons (gs_set (i := 2) nd rfl (by first | exact Or.inl rfl | exact Or.inr rfl) (ge_lst ga_nil) rfl) (gss_cons (gs_set (i := 3) nd rfl (by first | exact Or.inl rfl | exact Or.inr rfl) (ge_lst (ga_cons (ge_tup ga_nil) ga_nil)) rfl) (gss_cons (gs_for PassesOwn.never rfl (gi_rng1 rfl T.f_range ge_int rfl) (gg_name (i := 4) nd rfl (by first | exact Or.inl rfl | exact Or.inr rfl)) (gss_cons (gs_if (gt_cmp (ok_eq hr.units) (ge_var 3) (ge_lstF ga_nil) (L2.nomark _)) (gss_one gs_break) gss_nil) (gss_cons (gs_set (i := 5) nd rfl (by first | exact Or.inl rfl | exact Or.inr rfl) (ge_pop (ge_var 3) rfl rfl) rfl) (gss_cons (gs_set (i := 6) nd rfl (by first | exact Or.inl rfl | exact Or.inr rfl) (ge_ix (ge_pure F_l_walk (hr.mono (Nat.le_succ _)) rfl (ga_cons (ge_var 0) (ga_cons (ge_var 1) (ga_cons (ge_var 5) ga_nil)))) (ge_neg ge_int) (fun _ _ => rfl)) rfl) (gss_one (gs_if (gt_cmp (ok_eq hr.units) (ge_ix (ge_var 6) ge_int (fun _ _ => rfl)) ge_str (L2.nomark _)) (gss_one (gs_expr (ge_extend (ge_var 3) (ge_compV rfl nd (gi_rng1 rfl T.f_range (ge_ix (ge_var 6) ge_int (fun _ _ => rfl)) rfl) (L2.blkOk_by (own := [("_law_value", 7)]) (N := sl_l_shows) (sc := L2.defScope s_l_shows) (by decide +kernel)) rfl (fun _ _ _ _ _ => (gc_name (i := 7) nd rfl (Or.inl rfl) (Or.inr rfl) (by decide))) (fun _ _ _ _ _ => gts_nil) (fun _ _ _ _ _ => (ge_op ok_add (ge_var 5) (ge_tup (ga_cons (ge_var 7) ga_nil)))) (by intro _; rfl)) rfl rfl rfl rfl) rfl)) (gss_one (gs_if (gt_cmp (ok_notIn (hu65 hr)) (ge_ix (ge_var 6) ge_int (fun _ _ => rfl)) (ge_var 2) rfl) (gss_one (gs_expr (ge_append (ge_var 2) (ge_ix (ge_var 6) ge_int (fun _ _ => rfl)) rfl rfl rfl rfl) rfl)) gss_nil))))))) (by intro _; rfl)) (gss_one (gs_ret (ge_fz (ge_var 2)))))))
abbrev sl_l_bent : List Str := ["_law_hand_here", "_law_thing", "_law_content", "_law_moves", "_law_at", "_law_odd", "_law_way", "_law_wrong"]
theorem sc_l_bent : L2.FnScope sl_l_bent ["_law_hand_here", "_law_thing"] (L2.defScope s_l_bent) := ⟨rfl, rfl, rfl, by decide +kernel, rfl, by decide +kernel, by decide +kernel⟩
theorem dv_l_bent (T : Tx K mg ca) {q_l_draw : DSp} (F_l_draw : FnG ca P w K mg base "_law_draw" k q_l_draw) {fa : Addr} {cdv : Value} {A : Around} {outer : List Env} {s : Shared} {H : L2.Hp} {E : L2.XK} (hr : L2.Room (k + 1) (A.deeper (envOfC "_law_bent" (L2.defScope s_l_bent) s.heap.objs.size fa cdv))) :
    GSs ca (L2.cxOf L2.CX0 P w K mg base sl_l_bent "_law_bent" (L2.defScope s_l_bent) fa cdv A outer s H E).nox (L2.defBody s_l_bent) (g_l_bent q_l_draw) := by
  have nd := sc_l_bent.nd
  exact (gss_cons (gs_asg (ge_var 1) (gg_tup rfl (ggs_cons (gg_name (i := 2) nd rfl (by first | exact Or.inl rfl | exact Or.inr rfl)) (ggs_cons (gg_name (i := 3) nd rfl (by first | exact Or.inl rfl | exact Or.inr rfl)) ggs_nil))) rfl rfl rfl) (gss_cons (gs_set (i := 4) nd rfl (by first | exact Or.inl rfl | exact Or.inr rfl) (ge_call F_l_draw (hr.mono (Nat.le_succ _)) rfl (ga_cons (ge_var 0) (ga_cons (ge_op ok_add (ge_b1 (ok_len) rfl T.f_len bt_len (ge_var 3)) ge_int) ga_nil))) rfl) (gss_cons (gs_set (i := 5) nd rfl (by first | exact Or.inl rfl | exact Or.inr rfl) (ge_lstF (ga_cons (ge_tup (ga_cons ge_str ga_nil)) (ga_cons (ge_tup (ga_cons ge_str ga_nil)) (ga_cons (ge_tup (ga_cons ge_str (ga_cons ge_int ga_nil))) (ga_cons (ge_tup (ga_cons ge_str (ga_cons ge_int ga_nil))) (ga_cons (ge_tup (ga_cons ge_str (ga_cons ge_bl ga_nil))) (ga_cons (ge_tup (ga_cons ge_str ga_nil)) (ga_cons (ge_lstF (ga_cons ge_str ga_nil)) (ga_cons ge_non (ga_cons ge_str (ga_cons (ge_tup (ga_cons ge_str ga_nil)) ga_nil))))))))))) rfl) (gss_cons (gs_set (i := 6) nd rfl (by first | exact Or.inl rfl | exact Or.inr rfl) (ge_call F_l_draw (hr.mono (Nat.le_succ _)) rfl (ga_cons (ge_var 0) (ga_cons ge_int ga_nil))) rfl) (gss_cons (gs_if (gt_cmp (ok_eq hr.units) (ge_var 6) ge_int (L2.nomark _)) (gss_one (gs_ret (ge_tup (ga_cons (ge_var 2) (ga_cons (ge_op ok_add (ge_slice (ge_var 3) go_none (go_some (ge_var 4))) (ge_slice (ge_var 3) (go_some (ge_op ok_add (ge_var 4) ge_int)) go_none)) ga_nil))))) gss_nil) (gss_cons (gs_if (gt_cmp ok_lt (ge_var 6) ge_int (L2.nomark _)) (gss_one (gs_ret (ge_tup (ga_cons (ge_var 2) (ga_cons (ge_op ok_add (ge_op ok_add (ge_slice (ge_var 3) go_none (go_some (ge_var 4))) (ge_tup (ga_cons (ge_ix (ge_var 5) (ge_call F_l_draw (hr.mono (Nat.le_succ _)) rfl (ga_cons (ge_var 0) (ga_cons ge_int ga_nil))) (fun _ _ => rfl)) ga_nil))) (ge_slice (ge_var 3) (go_some (ge_var 4)) go_none)) ga_nil))))) gss_nil) (gss_cons (gs_if (gt_cmp (ok_eq hr.units) (ge_var 6) ge_int (L2.nomark _)) (gss_one (gs_ret (ge_tup (ga_cons (ge_op ok_add (ge_slice (ge_var 2) go_none (go_some (ge_neg ge_int))) (ge_tup (ga_cons (ge_ix (ge_lstF (ga_cons ge_int (ga_cons ge_int (ga_cons ge_bl (ga_cons ge_int (ga_cons ge_non ga_nil)))))) (ge_call F_l_draw (hr.mono (Nat.le_succ _)) rfl (ga_cons (ge_var 0) (ga_cons ge_int ga_nil))) (fun _ _ => rfl)) ga_nil))) (ga_cons (ge_var 3) ga_nil))))) gss_nil) (gss_cons (gs_set (i := 7) nd rfl (by first | exact Or.inl rfl | exact Or.inr rfl) (ge_lstF (ga_cons (ge_t1 ok_list rfl T.f_list bt_list (ge_var 1)) (ga_cons (ge_tup (ga_cons (ge_var 2) (ga_cons ge_non ga_nil))) (ga_cons (ge_tup (ga_cons (ge_t1 ok_list rfl T.f_list bt_list (ge_var 2)) (ga_cons (ge_var 3) ga_nil))) (ga_cons (ge_tup (ga_cons (ge_var 2) ga_nil)) (ga_cons ge_non (ga_cons (ge_tup (ga_cons (ge_var 2) (ga_cons (ge_var 3) (ga_cons ge_int ga_nil)))) (ga_cons ge_dic0F ga_nil)))))))) rfl) (gss_one (gs_ret (ge_if (gt_cmp (ok_eq hr.units) (ge_var 6) ge_int (L2.nomark _)) (ge_ix (ge_var 7) (ge_call F_l_draw (hr.mono (Nat.le_succ _)) rfl (ga_cons (ge_var 0) (ga_cons ge_int ga_nil))) (fun _ _ => rfl)) (ge_var 1))))))))))))
end
end G
set_option Elab.async false
set_option linter.all false
/-! The program in plain Lean: blocks, trees, states; each def's promise over data. -/
namespace G
open PySem

abbrev di (n : Nat) : D := .int (n : Int)
abbrev dis (l : List Nat) : D := .tup (l.map di)

/-! ### checks -/
def isInt : D → Bool
  | .int _ => true
  | _ => false
def isWithin (d : D) (lo hi : Int) : Bool := match d with
  | .int i => decide (lo ≤ i) && decide (i ≤ hi)
  | _ => false
def isNum : D → Bool
  | .int i => decide (0 ≤ i)
  | _ => false
def isPair : D → Bool
  | .tup [_, _] => true
  | _ => false
def p_is_integer : PSp := fun Ds k => ∃ d, Ds = [d] ∧ noPtr d = true ∧ k (.bl (isInt d))
def p_is_within : PSp := fun Ds k => ∃ d lo hi, Ds = [d, .int lo, .int hi] ∧ noPtr d = true ∧ k (.bl (isWithin d lo hi))
def p_is_number : PSp := fun Ds k => ∃ d, Ds = [d] ∧ noPtr d = true ∧ k (.bl (isNum d))
def p_is_pair : PSp := fun Ds k => ∃ d, Ds = [d] ∧ noPtr d = true ∧ k (.bl (isPair d))
def p_is_row : PSp := fun Ds k => ∃ d, Ds = [d] ∧ noPtr d = true ∧ k (.bl (isI .seq d))
def p_are_ascending : PSp := fun Ds k => ∃ l : List Nat, Ds = [dis l] ∧ l.Pairwise (· < ·) ∧ l.length ≤ 10 ∧ k (.bl true)
def p_is_name : PSp := fun Ds k => Ds = [.str "a"] ∧ k (.bl true)
/-! ### fractions -/
def p_common_divisor : PSp := fun Ds k => ∃ m : Int, Ds = [.int 1, .int m] ∧ 1 ≤ m ∧ k (.int 1)
def p_made : PSp := fun Ds k => ∃ m : Int, Ds = [.int 1, .int m] ∧ 1 ≤ m ∧ k (.tup [.int 1, .int m])
def p_times : PSp := fun Ds k => ∃ m n : Int, Ds = [.tup [.int 1, .int m], .tup [.int 1, .int n]] ∧ 1 ≤ m ∧ (1 ≤ n ∧ n ≤ 12) ∧ k (.tup [.int 1, .int (m * n)])
/-! ### sizes, contents -/
def Sz (sz : List Nat) : Prop := sz = [2, 2] ∨ sz = [3, 2] ∨ sz = [2, 2, 2] ∨ sz = [2]
def contents (sz : List Nat) : List (List Nat) := sz.foldl (fun acc s => acc.flatMap fun c => (List.range s).map fun w => c ++ [w]) [[]]
def p_many_contents : PSp := fun Ds k => ∃ sz, Ds = [dis sz] ∧ Sz sz ∧ k (di (contents sz).length)
def p_are_sizes : PSp := fun Ds k => ∃ sz, Ds = [dis sz] ∧ Sz sz ∧ k (.bl true)
def p_raw_contents : PSp := fun Ds k => ∃ sz, Ds = [dis sz] ∧ Sz sz ∧ k (.lst ((contents sz).map dis))
def p_is_pattern : PSp := fun Ds k => ∃ (n : Nat) (p : List Nat), Ds = [di n, dis p] ∧ p.Pairwise (· < ·) ∧ (∀ c ∈ p, c < n) ∧ p.length ≤ 10 ∧ k (.bl true)
def withinAll : List D → List Nat → Bool
  | [], [] => true
  | d :: ds, s :: ss => isWithin d 0 ((s : Int) - 1) && withinAll ds ss
  | _, _ => false
def isContent (sz : List Nat) : D → Bool
  | .tup l => withinAll l sz
  | _ => false
/-- nothing of the memory in it, at its top and one below -/
def clean : D → Bool
  | .tup l => l.all noPtr
  | .lst l => l.all noPtr
  | d => noPtr d
def p_is_content : PSp := fun Ds k => ∃ sz d, Ds = [dis sz, d] ∧ clean d = true ∧ sz.length ≤ 10 ∧ k (.bl (isContent sz d))
def p_check_content : PSp := fun Ds k => ∃ sz d, Ds = [dis sz, d] ∧ clean d = true ∧ sz.length ≤ 10 ∧ isContent sz d = true ∧ k .non
/-- a content -/
def Cont (sz x : List Nat) : Prop := x.length = sz.length ∧ ∀ i, i < sz.length → x.getD i 0 < sz.getD i 0

/-! ### blocks -/
inductive Blk where
  | show (p : List Nat) | opn (c : Nat) (r : Blk) | thr (n : Nat) (r : Blk) | ifn (v : Nat) (a b : Blk) | ifc (c w : Nat) (a b : Blk)
def stm : Blk → List D
  | .show p => [.tup [.str "show", dis p]]
  | .opn c r => .tup [.str "open", di c] :: stm r
  | .thr n r => .tup [.str "throw", .str "a", di n] :: stm r
  | .ifn v a b => [.tup [.str "if", .tup [.str "name", .str "a", di v], .tup (stm a), .tup (stm b)]]
  | .ifc c w a b => [.tup [.str "if", .tup [.str "cell", di c, di w], .tup (stm a), .tup (stm b)]]
abbrev dB (b : Blk) : D := .tup (stm b)
def ins (op : List Nat) (c : Nat) : List Nat := if c ∈ op then op else op ++ [c]
/-- shows just what is open, of such sizes -/
def Wf (sz : List Nat) : List Nat → Blk → Prop
  | op, .show p => p.Perm op ∧ p.Pairwise (· < ·)
  | op, .opn c r => c < sz.length ∧ Wf sz (ins op c) r
  | op, .thr n r => (2 ≤ n ∧ n ≤ 3) ∧ Wf sz op r
  | op, .ifn _ a b => Wf sz op a ∧ Wf sz op b
  | op, .ifc c w a b => (c < sz.length ∧ w < sz.getD c 0) ∧ Wf sz (ins op c) a ∧ Wf sz (ins op c) b
/-- how deep, how many statements, how many throws -/
def dp : Blk → Nat
  | .show _ => 1
  | .opn _ r => dp r
  | .thr _ r => dp r
  | .ifn _ a b => 1 + max (dp a) (dp b)
  | .ifc _ _ a b => 1 + max (dp a) (dp b)
def cnt : Blk → Nat
  | .show _ => 1
  | .opn _ r => 1 + cnt r
  | .thr _ r => 1 + cnt r
  | .ifn _ a b => 1 + (cnt a + cnt b)
  | .ifc _ _ a b => 1 + (cnt a + cnt b)
def thrs : Blk → Nat
  | .show _ => 0
  | .opn _ r => thrs r
  | .thr _ r => 1 + thrs r
  | .ifn _ a b => thrs a + thrs b
  | .ifc _ _ a b => thrs a + thrs b
/-- what a program is made of -/
structure Good (sz : List Nat) (b : Blk) : Prop where
  siz : Sz sz
  wf : Wf sz [] b
  dp : dp b ≤ 6
  cnt : cnt b ≤ 60
  thrs : thrs b ≤ 2

/-! ### trees: what a run of a content does -/
inductive Tr where
  | show (p : List Nat) | opn (c : Nat) (t : Tr) | thr (n : Nat) (k : Nat → Tr)
def tr (x : List Nat) : Nat → List Nat → Blk → Tr
  | _, _, .show p => .show p
  | a, op, .opn c r => if c ∈ op then tr x a op r else .opn c (tr x a (op ++ [c]) r)
  | _, op, .thr n r => .thr n fun v => tr x v op r
  | a, op, .ifn v b1 b2 => if a = v then tr x a op b1 else tr x a op b2
  | a, op, .ifc c w b1 b2 => if c ∈ op then (if x.getD c 0 = w then tr x a op b1 else tr x a op b2) else .opn c (if x.getD c 0 = w then tr x a (op ++ [c]) b1 else tr x a (op ++ [c]) b2)
abbrev root (x : List Nat) (b : Blk) : Tr := tr x 0 [] b
def deed : Tr → D
  | .show p => .tup [.str "show", dis p]
  | .opn c _ => .tup [.str "open", di c]
  | .thr n _ => .tup [.str "throw", di n]
/-- the patterns that are shown, with the throws, from the left -/
def leaves : Tr → List Nat → List (List Nat × List Nat)
  | .show p, th => [(p, th)]
  | .opn _ t, th => leaves t th
  | .thr n k, th => (List.range n).flatMap fun v => leaves (k v) (th ++ [v])

/-! ### states -/
def opD (x op : List Nat) : List (Key × D) := op.map fun (c : Nat) => (Sum.inl (c : Int), di (x.getD c 0))
def frame (l : List D) (i : Nat) : D := .tup [.tup l, di i, .int 0]
structure Ps where
  a : Nat
  op : List Nat
  cur : Blk
  told : List (Key × D)
  opened : List (Key × D)
  frs : List D
  l : List D
  i : Nat
structure Ps.Ok (sz x : List Nat) (p : Ps) : Prop where
  wf : Wf sz p.op p.cur
  nd : p.op.Nodup
  lt : ∀ c ∈ p.op, c < sz.length
  nm : (val p.told (Sum.inr "a")).getD (.int 0) = di p.a
  tl : p.told = [] ∨ ∃ d : D, p.told = [((Sum.inr "a" : Key), d)]
  op_ : p.opened = opD x p.op
  dr : p.l.drop p.i = stm p.cur
  ln : p.frs.length + dp p.cur ≤ 100
  sl : sz.length ≤ 10
def Ps.tr (x : List Nat) (p : Ps) : Tr := G.tr x p.a p.op p.cur
def Ps.fr (p : Ps) : D := .tup (p.frs ++ [frame p.l p.i])
def Ps.fs3 (p : Ps) : List (Str × D) := [("told", .dic p.told), ("opened", .dic p.opened), ("place", p.fr)]
def Ps.fs (p : Ps) (d : D) : List (Str × D) := [("told", .dic p.told), ("opened", .dic p.opened), ("place", p.fr), ("deed", d)]
/-- the next statement is a deed -/
def Ps.Stopped (p : Ps) : Prop := match p.cur with
  | .show _ => True
  | .opn c _ => c ∉ p.op
  | .thr _ _ => True
  | .ifn _ _ _ => False
  | .ifc c _ _ _ => c ∉ p.op
/-- a state stands at this place of the tree -/
def St (sz x : List Nat) (t : Tr) (d : D) : Prop := ∃ p : Ps, p.Ok sz x ∧ p.Stopped ∧ t = p.tr x ∧ d = .obj .state (p.fs (deed t))
/-- the block's size -/
def bsz : Blk → Nat
  | .show _ => 1
  | .opn _ r => 1 + bsz r
  | .thr _ r => 1 + bsz r
  | .ifn _ a b => 1 + (bsz a + bsz b)
  | .ifc _ _ a b => 1 + (bsz a + bsz b)
def q_State_statement : DSp := fun Ds M P => ∃ s sz x p, Ds = [.ptr s] ∧ Ps.Ok sz x p ∧ M s = some (.ins .state p.fs3) ∧ ∀ hd rest, stm p.cur = hd :: rest → P hd M
def q_State_step : DSp := fun Ds M P => ∃ s sz x p, Ds = [.ptr s] ∧ Ps.Ok sz x p ∧ M s = some (.ins .state p.fs3) ∧ P .non (M.set s (.ins .state { p with i := p.i + 1 : Ps }.fs3))
def q_State_enter : DSp := fun Ds M P => ∃ s sz x p l, Ds = [.ptr s, .tup l, .int 0] ∧ Ps.Ok sz x p ∧ M s = some (.ins .state p.fs3) ∧ P .non (M.set s (.ins .state { p with frs := p.frs ++ [frame p.l (p.i + 1)], l := l, i := 0 : Ps }.fs3))
/-- from p to p' nothing is seen -/
def Ps.Goes (sz x : List Nat) (p p' : Ps) : Prop := p'.Ok sz x ∧ p'.tr x = p.tr x ∧ bsz p'.cur < bsz p.cur
def q_State_met : DSp := fun Ds M P => ∃ s sz x p hd rest, Ds = [.ptr s, hd] ∧ Ps.Ok sz x p ∧ M s = some (.ins .state p.fs3) ∧ stm p.cur = hd :: rest ∧
  (p.Stopped → P (deed (p.tr x)) M) ∧ (¬ p.Stopped → ∀ p', p.Goes sz x p' → P .non (M.set s (.ins .state p'.fs3)))
def isIf : Blk → Prop
  | .ifn _ _ _ => True
  | .ifc _ _ _ _ => True
  | _ => False
def q_State_tested : DSp := fun Ds M P => ∃ s sz x p hd rest, Ds = [.ptr s, hd] ∧ isIf p.cur ∧ Ps.Ok sz x p ∧ M s = some (.ins .state p.fs3) ∧ stm p.cur = hd :: rest ∧
  (p.Stopped → P (deed (p.tr x)) M) ∧ (¬ p.Stopped → ∀ p', p.Goes sz x p' → P .non (M.set s (.ins .state p'.fs3)))
def q_State_go_on : DSp := fun Ds M P => ∃ s sz x p, Ds = [.ptr s] ∧ Ps.Ok sz x p ∧ M s = some (.ins .state p.fs3) ∧
  ∀ p', Ps.Ok sz x p' → p'.Stopped → p'.tr x = p.tr x → P (deed (p'.tr x)) (M.set s (.ins .state p'.fs3))
def q_State_init : DSp := fun Ds M P => ∃ s sz x p dn dO, Ds = [.ptr s, dn, dO, p.fr] ∧ Ps.Ok sz x p ∧ M s = some (.ins .state []) ∧ dcts M dn = some p.told ∧ dcts M dO = some p.opened ∧ dn ≠ .ptr s ∧ dO ≠ .ptr s ∧
  ∀ p', Ps.Ok sz x p' → p'.Stopped → p'.tr x = p.tr x → P .non (M.set s (.ins .state (p'.fs (deed (p'.tr x)))))
def prD (sz : List Nat) (b : Blk) : D := .obj .prog [("sizes", dis sz), ("block", dB b)]
def p_begin : PSp := fun Ds k => ∃ sz x b, Ds = [prD sz b] ∧ Good sz b ∧ ∀ st, St sz x (root x b) st → k st
def p_after_throw : PSp := fun Ds k => ∃ sz x st n t v, Ds = [st, di v] ∧ St sz x (.thr n t) st ∧ ∀ st', St sz x (t v) st' → k st'
def p_after_open : PSp := fun Ds k => ∃ sz x st c t, Ds = [st, di (x.getD c 0)] ∧ St sz x (.opn c t) st ∧ ∀ st', St sz x t st' → k st'
/-- the runs, as they are told -/
def OutD (d : D) (q : List Nat × List Nat) : Prop := ∃ sh od, d = .tup [sh, dis q.1, .tup od, dis q.2] ∧ od.length = q.1.length
inductive All2 {α β : Type} (R : α → β → Prop) : List α → List β → Prop
  | nil : All2 R [] []
  | cons {a : α} {b : β} {l : List α} {r : List β} : R a b → All2 R l r → All2 R (a :: l) (b :: r)
def p_outcomes : PSp := fun Ds k => ∃ sz x b, Ds = [prD sz b, dis x] ∧ Good sz b ∧ Cont sz x ∧ ∀ l, All2 OutD l (leaves (root x b) []) → k (.lst l)
def p_all_outcomes : PSp := fun Ds k => ∃ sz b, Ds = [prD sz b] ∧ Good sz b ∧ ∀ ll, All2 (fun d x => ∃ l, d = .lst l ∧ All2 OutD l (leaves (root x b) [])) ll (contents sz) → k (.lst ll)
def p_raw_is_blind : PSp := fun Ds k => ∃ sz b, Ds = [prD sz b] ∧ Good sz b ∧ k (.bl true)
/-! ### policies, moves -/
abbrev plD (pol : Bool × Bool) : D := .tup [.bl pol.1, .bl pol.2]
def p_is_policy : PSp := fun Ds k => ∃ pol, Ds = [plD pol] ∧ k (.bl true)
def p_check_policy : PSp := fun Ds k => ∃ pol, Ds = [plD pol] ∧ k .non
def p_check_blind : PSp := fun Ds k => ∃ sz b pol, Ds = [prD sz b, plD pol] ∧ Good sz b ∧ k .non
inductive Mv where | go | fall | thr (v : Nat)
  deriving DecidableEq
def mvD : Mv → D
  | .go => .tup [.str "go"]
  | .fall => .tup [.str "fall"]
  | .thr v => .tup [.str "throw", di v]
def isStr (z : Str) : D → Bool
  | .str y => decide (y = z)
  | _ => false
def isStr1 (z : Str) : D → Bool
  | .tup [d] => isStr z d
  | _ => false
/-- like a text; like a tuple of one text -/
def p_is_alike : Nat → PSp := fun n Ds k => match n with
  | 0 => False
  | 1 => ∃ d z, Ds = [d, .str z] ∧ noPtr d = true ∧ k (.bl (isStr z d))
  | _ => (∃ d z, Ds = [d, .str z] ∧ noPtr d = true ∧ k (.bl (isStr z d))) ∨ ∃ d z, Ds = [d, .tup [.str z]] ∧ clean d = true ∧ k (.bl (isStr1 z d))
/-- the moves of a run, up to the first opening beside a pattern -/
def mvs : Tr → List Nat → List Nat → List Mv
  | .show _, _, _ => [.go]
  | .opn c t, th, pat => if c ∈ pat then .go :: mvs t th pat else [.go]
  | .thr _ k, v :: th, pat => .thr v :: mvs (k v) th pat
  | .thr _ _, [], _ => []
/-- throws that lead to a showing -/
def Valid : Tr → List Nat → Prop
  | .show _, th => th = []
  | .opn _ t, th => Valid t th
  | .thr n k, v :: th => v < n ∧ Valid (k v) th
  | .thr _ _, [] => False
def p_moves_until : PSp := fun Ds k => ∃ sz x b th pat, Ds = [prD sz b, dis x, dis th, dis pat] ∧ Good sz b ∧ Cont sz x ∧ Valid (root x b) th ∧ k (.tup ((mvs (root x b) th pat).map mvD))
/-- the first run of another pattern than the first -/
def brOf (t : Tr) (pat th : List Nat) : List (List Nat × List Nat) → Option (List Mv)
  | [] => none
  | (q, th') :: r => if q.any (fun c => !decide (c ∈ pat)) then some (mvs t th' pat ++ .fall :: mvs t th pat)
      else if q = pat then brOf t pat th r else some (mvs t th q ++ .fall :: mvs t th' q)
def brT (t : Tr) : Option (List Mv) := match leaves t [] with
  | [] => none
  | (pat, th) :: r => brOf t pat th ((pat, th) :: r)
def mvsD (ms : List Mv) : D := .tup (ms.map mvD)
def optD : Option (List Mv) → D
  | none => .non
  | some ms => mvsD ms
def p_breach_of : PSp := fun Ds k => ∃ sz x b, Ds = [prD sz b, dis x] ∧ Good sz b ∧ Cont sz x ∧ k (optD (brT (root x b)))
def brAll (b : Blk) : List (List Nat) → Option (List Nat × List Mv)
  | [] => none
  | x :: r => match brT (root x b) with
    | some ms => some (x, ms)
    | none => brAll b r
def brP (sz : List Nat) (b : Blk) (pol : Bool × Bool) : Option (List Nat × List Mv) := if pol.1 || pol.2 then none else brAll b (contents sz)
def brD : Option (List Nat × List Mv) → D
  | none => .non
  | some (x, ms) => .tup [dis x, mvsD ms]
def p_breach : PSp := fun Ds k => ∃ sz b pol, Ds = [prD sz b, plD pol] ∧ Good sz b ∧ k (brD (brP sz b pol))
/-! ### a keeper of one row -/
structure KS where
  cur : Tr
  sure : Tr
  shown : Option (List Nat)
  looked : List Nat
def kstep (pol : Bool × Bool) (r : Tr) (s : KS) : Mv → Option KS
  | .fall => some { s with cur := s.sure }
  | .go => match s.shown with
    | some _ => none
    | none => match s.cur with
      | .show p => some { s with cur := r, sure := r, shown := some p }
      | .opn c t => some { s with cur := t, sure := if pol.2 then s.cur else s.sure, looked := ins s.looked c }
      | .thr _ _ => none
  | .thr v => match s.shown with
    | some _ => none
    | none => match s.cur with
      | .thr n k => if v < n then some { s with cur := k v, sure := if pol.1 then k v else s.sure } else none
      | _ => none
def kruns (pol : Bool × Bool) (r : Tr) (s : KS) : List Mv → Option KS
  | [] => some s
  | m :: ms => match kstep pol r s m with
    | some s' => kruns pol r s' ms
    | none => none
def KS.start (r : Tr) : KS := ⟨r, r, none, []⟩
/-- a cell was opened that is not shown -/
def KS.bad (s : KS) : Bool := match s.shown with
  | some p => s.looked.any fun c => !decide (c ∈ p)
  | none => false
def mvOf : D → Option Mv
  | .tup [.str z] => if z = "go" then some .go else if z = "fall" then some .fall else none
  | .tup [.str z, .int v] => if z = "throw" then (if 0 ≤ v then some (.thr v.toNat) else none) else none
  | _ => none
def mvsOf : List D → Option (List Mv)
  | [] => some []
  | d :: r => match mvOf d, mvsOf r with
    | some m, some ms => some (m :: ms)
    | _, _ => none
def natsOf : List D → Option (List Nat)
  | [] => some []
  | .int i :: r => if 0 ≤ i then (natsOf r).map (i.toNat :: ·) else none
  | _ => none
/-- the judgement: content and moves behind which a cell was opened that is not shown -/
def isBr (sz : List Nat) (b : Blk) (pol : Bool × Bool) : D → Bool
  | .tup [.tup xs, .tup ms] => if isContent sz (.tup xs) then (match natsOf xs, mvsOf ms with
    | some x, some m => (match kruns pol (root x b) (KS.start (root x b)) m with
      | some s => s.bad
      | none => false)
    | _, _ => false) else false
  | _ => false
/-- a thing that is judged -/
def Thing (d : D) : Prop := (d = .dic [] ∨ plain 50 d = true) ∧ (∀ l, d = .tup l → ∀ c r, l = [c, .lst r] → False) ∧ ∀ l, d = .tup l → ∀ c r, l = [c, .tup r] → r.length ≤ 800 ∧ ∀ xs, c = .tup xs → xs.length ≤ 800
def p_is_breach : PSp := fun Ds k => ∃ sz b pol th, Ds = [prD sz b, plD pol, th] ∧ Good sz b ∧ Thing th ∧ k (.bl (isBr sz b pol th))
end G
set_option Elab.async false
set_option linter.all false
set_option maxRecDepth 10000
namespace G
open PySem
theorem isInt_eq (d : D) : (isI .int d && !isI .bool d) = isInt d := by cases d <;> rfl
theorem r_is_integer (Ds : List D) (Q : D → Prop) (h : p_is_integer Ds Q) : Ds.length = 1 ∧ g_is_integer (endsP Q) (startD ["thing"] Ds) Mem.nil := by
  obtain ⟨d, rfl, hd, h⟩ := h
  refine ⟨rfl, hd, ?_⟩
  rw [← isInt_eq] at h
  cases e : isI .int d with
  | true =>
    rw [e] at h
    exact ⟨hd, h⟩
  | false => rw [e] at h; exact h
theorem r_is_within (Ds : List D) (Q : D → Prop) (h : p_is_within Ds Q) : Ds.length = 3 ∧ g_is_within p_is_integer (endsP Q) (startD ["thing", "least", "most"] Ds) Mem.nil := by
  obtain ⟨d, lo, hi, rfl, hd, h⟩ := h
  refine ⟨rfl, d, rfl, hd, ?_⟩
  cases d with
  | int i =>
    show (match D.bl (decide (lo ≤ i)) with | .bl true => Q (.bl (decide (i ≤ hi))) | .bl false => Q (.bl false) | _ => False)
    have h' : Q (.bl (decide (lo ≤ i) && decide (i ≤ hi))) := h
    cases e : decide (lo ≤ i) with
    | true => rw [e] at h'; exact h'
    | false => rw [e] at h'; exact h'
  | _ => exact h
theorem r_is_number (Ds : List D) (Q : D → Prop) (h : p_is_number Ds Q) : Ds.length = 1 ∧ g_is_number p_is_integer (endsP Q) (startD ["thing"] Ds) Mem.nil := by
  obtain ⟨d, rfl, hd, h⟩ := h
  refine ⟨rfl, d, rfl, hd, ?_⟩
  cases d with
  | int i => exact h
  | _ => exact h
theorem r_is_pair (Ds : List D) (Q : D → Prop) (h : p_is_pair Ds Q) : Ds.length = 1 ∧ g_is_pair (endsP Q) (startD ["thing"] Ds) Mem.nil := by
  obtain ⟨d, rfl, hd, h⟩ := h
  refine ⟨rfl, hd, ?_⟩
  cases d with
  | tup l =>
    refine ⟨l, rfl, ?_⟩
    show Q (.bl (decide ((l.length : Int) = 2)))
    have e : isPair (.tup l) = decide ((l.length : Int) = 2) := by
      match l with
      | [] => rfl
      | [_] => rfl
      | [_, _] => rfl
      | _ :: _ :: _ :: r =>
        show false = _
        rw [decide_eq_false]
        simp only [List.length_cons]
        omega
    rw [e] at h
    exact h
  | _ => exact h
theorem r_is_row (Ds : List D) (Q : D → Prop) (h : p_is_row Ds Q) : Ds.length = 1 ∧ g_is_row (endsP Q) (startD ["thing"] Ds) Mem.nil := by
  obtain ⟨d, rfl, hd, h⟩ := h
  exact ⟨rfl, hd, h⟩
/-! a comprehension of flags -/
theorem blsOf_map (bs : List Bool) : blsOf (bs.map D.bl) = some bs := by
  induction bs with
  | nil => rfl
  | cons b r ih => show (blsOf (r.map D.bl)).map (b :: ·) = _; rw [ih]; rfl
/-- a comprehension without tests whose element is told for each item -/
theorem cm_map {a : DG} {ge : DE} {vs : List Nat} {Γ : Slots} {M : Mem} (f : D → D) : ∀ (ds acc : List D) {Q : List D → Mem → Prop}, acc.length + ds.length ≤ lim →
    (∀ d, d ∈ ds → ∀ R : D → Mem → Prop, R (f d) M → a d (wipe Γ vs) M fun Γ1 M1 => wipe Γ1 vs = wipe Γ vs ∧ ge Γ1 M1 R) →
    Q (acc ++ ds.map f) M → cmD a tYes ge vs Γ ds acc M Q
  | [], acc, Q, _, _, q => by rw [List.map_nil, List.append_nil] at q; exact q
  | d :: r, acc, Q, hl, he, q => by
    rw [List.length_cons] at hl
    refine he d List.mem_cons_self (fun y M3 => acc.length < lim ∧ cmD a tYes ge vs Γ r (acc ++ [y]) M3 Q) ⟨by omega, ?_⟩
    refine cm_map f r _ (by rw [List.length_append, List.length_singleton]; omega) (fun d hd => he d (List.mem_cons_of_mem _ hd)) ?_
    rw [List.append_assoc]
    exact q
/-- with a test -/
theorem cm_filter {a : DG} {t : DT} {ge : DE} {vs : List Nat} {Γ : Slots} {M : Mem} (p : D → Bool) (f : D → D) : ∀ (ds acc : List D) {Q : List D → Mem → Prop}, acc.length + ds.length ≤ lim →
    (∀ d, d ∈ ds → ∀ (R : D → Mem → Prop) (R' : Mem → Prop), (p d = true → R (f d) M) → (p d = false → R' M) → a d (wipe Γ vs) M fun Γ1 M1 => wipe Γ1 vs = wipe Γ vs ∧ t Γ1 M1 fun c M2 => match c with | true => ge Γ1 M2 R | false => R' M2) →
    Q (acc ++ (ds.filter p).map f) M → cmD a t ge vs Γ ds acc M Q
  | [], acc, Q, _, _, q => by rw [List.filter_nil, List.map_nil, List.append_nil] at q; exact q
  | d :: r, acc, Q, hl, he, q => by
    rw [List.length_cons] at hl
    refine he d List.mem_cons_self (fun y M3 => acc.length < lim ∧ cmD a t ge vs Γ r (acc ++ [y]) M3 Q) (fun M2 => cmD a t ge vs Γ r acc M2 Q) (fun hp => ⟨by omega, ?_⟩) (fun hp => ?_)
    · refine cm_filter p f r _ (by rw [List.length_append, List.length_singleton]; omega) (fun d hd => he d (List.mem_cons_of_mem _ hd)) ?_
      rw [List.filter_cons_of_pos hp, List.map_cons] at q
      rw [List.append_assoc]
      exact q
    · refine cm_filter p f r _ (by omega) (fun d hd => he d (List.mem_cons_of_mem _ hd)) ?_
      rw [List.filter_cons_of_neg (by rw [hp]; exact Bool.false_ne_true)] at q
      exact q
/-- all([..]) -/
theorem all_true {l : List D} (h : ∀ d ∈ l, d = .bl true) : blsOf l = some (List.replicate l.length true) := by
  induction l with
  | nil => rfl
  | cons d r ih =>
    have e := h d List.mem_cons_self
    subst e
    show (blsOf r).map (true :: ·) = _
    rw [ih fun d hd => h d (List.mem_cons_of_mem _ hd)]
    rfl
theorem all_rep (n : Nat) : (List.replicate n true).all id = true := by
  rw [List.all_eq_true]
  intro b hb
  exact (List.mem_replicate.mp hb).2
theorem dis_at {l : List Nat} {i : Nat} (h : i < l.length) : atI (l.map di) (i : Int) = some (di l[i]) := atI_nat (by rw [List.getElem?_map, List.getElem?_eq_getElem h]; rfl)
theorem r_are_ascending (Ds : List D) (Q : D → Prop) (h : p_are_ascending Ds Q) : Ds.length = 1 ∧ g_are_ascending (endsP Q) (startD ["things", "at"] Ds) Mem.nil := by
  obtain ⟨l, rfl, hp, hl, h⟩ := h
  refine ⟨rfl, l.map di, rfl, ?_⟩
  rw [List.length_map]
  refine ⟨⟨by decide, by decide, by omega, by omega⟩, ?_⟩
  refine cm_map (fun _ => .bl true) _ [] (by unfold upTo; rw [List.length_map, List.length_range]; unfold lim; show 0 + _ ≤ _; omega) (fun d hd R hR => ?_) ?_
  · unfold upTo at hd
    obtain ⟨k, hk, rfl⟩ := List.mem_map.mp hd
    rw [List.mem_range] at hk
    have hk2 : k + 1 < l.length := by omega
    refine ⟨rfl, l.map di, _, di l[k], rfl, rfl, ?_, l.map di, _, di l[k + 1], rfl, rfl, ?_, ?_⟩
    · have e : (1 + (k : Int)) - 1 = (k : Int) := by omega
      rw [e]; exact dis_at (by omega)
    · have e : (1 + (k : Int)) = ((k + 1 : Nat) : Int) := by omega
      rw [e]; exact dis_at hk2
    · have hlt : l[k] < l[k + 1] := List.pairwise_iff_getElem.mp hp k (k + 1) (by omega) hk2 (by omega)
      show R (.bl (decide ((l[k] : Int) < (l[k + 1] : Int)))) _
      rw [decide_eq_true (by omega)]
      exact hR
  · refine ⟨rfl, _, _, rfl, all_true (fun d hd => ?_), ?_⟩
    · rw [List.nil_append] at hd
      obtain ⟨_, _, e⟩ := List.mem_map.mp hd
      exact e.symm
    · rw [all_rep]; exact h
theorem bAnd {b : Bool} {P : D → Prop} (e : b = true) (h : P (.bl true)) : P (.bl b) := e ▸ h
theorem r_is_name (Ds : List D) (Q : D → Prop) (h : p_is_name Ds Q) : Ds.length = 1 ∧ g_is_name (endsP Q) (startD ["thing", "sign"] Ds) Mem.nil := by
  obtain ⟨rfl, h⟩ := h
  refine ⟨rfl, rfl, ?_⟩
  conv => whnf
  refine ⟨by decide, ?_⟩
  conv => whnf
  exact ⟨rfl, Nat.le_of_ble_eq_true rfl, rfl, [.bl true], [true], rfl, rfl, h⟩
theorem r_common_divisor (Ds : List D) (Q : D → Prop) (h : p_common_divisor Ds Q) : Ds.length = 2 ∧ g_common_divisor (endsP Q) (startD ["one", "other"] Ds) Mem.nil := by
  obtain ⟨m, rfl, hm, h⟩ := h
  refine ⟨rfl, ?_⟩
  refine ⟨4, ?_⟩
  conv => whnf
  rw [if_neg (show ¬ m < 0 by omega), decide_eq_true (show 0 < m by omega)]
  refine ⟨by omega, ?_⟩
  have e0 : (if (1 : Int) < 0 then (-1 : Int) else 1) = 1 := rfl
  rcases Int.lt_or_eq_of_le hm with hm | rfl
  · conv => whnf
    rw [e0, Int.emod_eq_of_lt (by decide) hm]
    refine ⟨by decide, ?_⟩
    conv => whnf
    rw [Int.emod_one]
    exact h
  · exact h
theorem r_made (Ds : List D) (Q : D → Prop) (h : p_made Ds Q) : Ds.length = 2 ∧ g_made p_common_divisor (endsP Q) (startD ["top", "bottom", "divisor"] Ds) Mem.nil := by
  obtain ⟨m, rfl, hm, h⟩ := h
  refine ⟨rfl, m, rfl, hm, ⟨by decide, by decide⟩, ⟨by decide, by decide⟩, Nat.le_of_ble_eq_true rfl, ?_⟩
  rw [← Int.ediv_one m] at h
  exact h
theorem r_times (Ds : List D) (Q : D → Prop) (h : p_times Ds Q) : Ds.length = 2 ∧ g_times p_made (endsP Q) (startD ["one", "other"] Ds) Mem.nil := by
  obtain ⟨m, n, rfl, hm, hn, h⟩ := h
  refine ⟨rfl, _, _, _, rfl, rfl, rfl, _, _, _, rfl, rfl, rfl, Or.inl ⟨by decide, by decide⟩, _, _, _, rfl, rfl, rfl, _, _, _, rfl, rfl, rfl, Or.inr ⟨by omega, by omega⟩, m * n, rfl, ?_, h⟩
  exact Int.mul_le_mul hm hn.1 (by decide) (by omega)
/-! sizes -/
theorem r_many_contents (Ds : List D) (Q : D → Prop) (h : p_many_contents Ds Q) : Ds.length = 1 ∧ g_many_contents (endsP Q) (startD ["sizes", "found", "size"] Ds) Mem.nil := by
  obtain ⟨sz, rfl, hs, h⟩ := h
  refine ⟨rfl, ?_⟩
  rcases hs with rfl | rfl | rfl | rfl
  · exact ⟨.inl ⟨by decide, by decide⟩, .inl ⟨by decide, by decide⟩, h⟩
  · exact ⟨.inl ⟨by decide, by decide⟩, .inl ⟨by decide, by decide⟩, h⟩
  · exact ⟨.inl ⟨by decide, by decide⟩, .inl ⟨by decide, by decide⟩, .inl ⟨by decide, by decide⟩, h⟩
  · exact ⟨.inl ⟨by decide, by decide⟩, h⟩
theorem r_are_sizes (Ds : List D) (Q : D → Prop) (h : p_are_sizes Ds Q) : Ds.length = 1 ∧ g_are_sizes p_is_within p_many_contents (endsP Q) (startD ["thing", "size"] Ds) Mem.nil := by
  obtain ⟨sz, rfl, hs, h⟩ := h
  refine ⟨rfl, ?_⟩
  rcases hs with rfl | rfl | rfl | rfl
  all_goals refine ⟨rfl, _, rfl, ?_⟩
  all_goals repeat refine ⟨rfl, ?_⟩
  all_goals repeat refine ⟨_, _, _, rfl, rfl, Nat.le_of_ble_eq_true rfl, ?_⟩
  all_goals repeat refine ⟨rfl, _, _, _, rfl, rfl, Nat.le_of_ble_eq_true rfl, ?_⟩
  all_goals refine ⟨rfl, _, _, rfl, rfl, _, rfl, ?_⟩
  · exact ⟨.inl rfl, h⟩
  · exact ⟨.inr (.inl rfl), h⟩
  · exact ⟨.inr (.inr (.inl rfl)), h⟩
  · exact ⟨.inr (.inr (.inr rfl)), h⟩
theorem r_raw_contents (Ds : List D) (Q : D → Prop) (h : p_raw_contents Ds Q) : Ds.length = 1 ∧ g_raw_contents (endsP Q) (startD ["sizes", "found", "size", "content", "worth"] Ds) Mem.nil := by
  obtain ⟨sz, rfl, hs, h⟩ := h
  refine ⟨rfl, Nat.le_of_ble_eq_true rfl, Nat.le_of_ble_eq_true rfl, ?_⟩
  rcases hs with rfl | rfl | rfl | rfl
  all_goals repeat (first | refine ⟨rfl, Nat.le_of_ble_eq_true rfl, Nat.le_of_ble_eq_true rfl, Nat.le_of_ble_eq_true rfl, ?_⟩ | refine ⟨rfl, ⟨by decide, by decide⟩, ?_⟩)
  all_goals exact h
theorem cm2_map {a : DG} {gi : DI} {a1 : DG} {ge : DE} {vs vs1 : List Nat} {Γ : Slots} {M : Mem} (f : D → List D) : ∀ (ds acc : List D) {Q : List D → Mem → Prop}, acc.length + (ds.flatMap f).length ≤ lim →
    (∀ d, d ∈ ds → ∀ acc' : List D, acc'.length + (f d).length ≤ lim → ∀ R : List D → Mem → Prop, R (acc' ++ f d) M → a d (wipe Γ vs) M fun Γ1 M1 => wipe Γ1 vs = wipe Γ vs ∧ gi Γ1 M1 fun es M2 => cmI a1 ge vs1 Γ1 es acc' M2 R) →
    Q (acc ++ ds.flatMap f) M → cm2 a gi a1 ge vs vs1 Γ ds acc M Q
  | [], acc, Q, _, _, q => by rw [List.flatMap_nil, List.append_nil] at q; exact q
  | d :: r, acc, Q, hl, he, q => by
    rw [List.flatMap_cons, List.length_append] at hl
    refine he d List.mem_cons_self acc (by omega) (fun acc' M3 => cm2 a gi a1 ge vs vs1 Γ r acc' M3 Q) ?_
    refine cm2_map f r _ (by rw [List.length_append]; omega) (fun d hd => he d (List.mem_cons_of_mem _ hd)) ?_
    rw [List.flatMap_cons] at q
    rw [List.append_assoc]
    exact q
theorem cmI_map {a1 : DG} {ge : DE} {vs1 : List Nat} {Γ : Slots} {M : Mem} (f : D → D) : ∀ (ds acc : List D) {Q : List D → Mem → Prop}, acc.length + ds.length ≤ lim →
    (∀ d, d ∈ ds → ∀ R : D → Mem → Prop, R (f d) M → a1 d (wipe Γ vs1) M fun Γ1 M1 => wipe Γ1 vs1 = wipe Γ vs1 ∧ ge Γ1 M1 R) →
    Q (acc ++ ds.map f) M → cmI a1 ge vs1 Γ ds acc M Q
  | [], acc, Q, _, _, q => by rw [List.map_nil, List.append_nil] at q; exact q
  | d :: r, acc, Q, hl, he, q => by
    rw [List.length_cons] at hl
    refine he d List.mem_cons_self (fun y M3 => acc.length < lim ∧ cmI a1 ge vs1 Γ r (acc ++ [y]) M3 Q) ⟨by omega, ?_⟩
    refine cmI_map f r _ (by rw [List.length_append, List.length_singleton]; omega) (fun d hd => he d (List.mem_cons_of_mem _ hd)) ?_
    rw [List.append_assoc]
    exact q
end G
set_option Elab.async false
set_option linter.all false
set_option maxRecDepth 10000
namespace G
open PySem
theorem clean_tup {l : List D} {d : D} (h : clean (.tup l) = true) (hd : d ∈ l) : noPtr d = true := List.all_eq_true.mp h d hd
theorem lim_of {n m : Nat} (h : n ≤ m) (hm : m ≤ 1000) : n ≤ lim := by unfold lim; omega
theorem isPattern_all {n : Nat} {p : List Nat} (h : ∀ c ∈ p, c < n) {c : Nat} (hc : c ∈ p) : isWithin (di c) 0 ((n : Int) - 1) = true := by
  have := h c hc
  show (decide ((0 : Int) ≤ (c : Int)) && decide ((c : Int) ≤ (n : Int) - 1)) = true
  rw [decide_eq_true (by omega), decide_eq_true (by omega)]; rfl
theorem r_is_pattern (Ds : List D) (Q : D → Prop) (h : p_is_pattern Ds Q) : Ds.length = 2 ∧ g_is_pattern p_is_within p_are_ascending (endsP Q) (startD ["many", "thing", "c"] Ds) Mem.nil := by
  obtain ⟨n, p, rfl, hp, hn, hl, h⟩ := h
  refine ⟨rfl, rfl, ?_⟩
  refine cm_map (fun _ => .bl true) _ [] (by rw [List.length_map]; exact lim_of (show 0 + _ ≤ 10 by omega) (by decide)) (fun d hd R hR => ?_) ?_
  · obtain ⟨c, hc, rfl⟩ := List.mem_map.mp hd
    refine ⟨rfl, _, _, _, rfl, rfl, ?_⟩
    rw [isPattern_all hn hc]
    exact hR
  · refine ⟨rfl, _, _, rfl, all_true (fun d hd => ?_), ?_⟩
    · rw [List.nil_append] at hd
      obtain ⟨_, _, e⟩ := List.mem_map.mp hd
      exact e.symm
    · rw [all_rep]
      exact ⟨p, rfl, hp, hl, h⟩
theorem cm_zip {ge : DE} {Γ : Slots} {M : Mem} {g : D → D → Bool} {i j : Nat} : ∀ (ds es acc : List D) {Q : List D → Mem → Prop}, acc.length + ds.length ≤ lim → 
    (∀ d e, d ∈ ds → e ∈ es → ∀ R : D → Mem → Prop, R (.bl (g d e)) M → aTup 2 (aCons (aName i) (aCons (aName j) aNil)) (.tup [d, e]) (wipe Γ [i, j]) M fun Γ1 M1 => wipe Γ1 [i, j] = wipe Γ [i, j] ∧ ge Γ1 M1 R) →
    Q (acc ++ ((ds.zip es).map fun p => .bl (g p.1 p.2))) M → cmD (aTup 2 (aCons (aName i) (aCons (aName j) aNil))) tYes ge [i, j] Γ ((ds.zip es).map fun p => .tup [p.1, p.2]) acc M Q
  | [], es, acc, Q, _, _, q => by rw [List.zip_nil_left, List.map_nil, List.append_nil] at q; exact q
  | d :: r, [], acc, Q, _, _, q => by rw [List.zip_nil_right, List.map_nil, List.append_nil] at q; exact q
  | d :: r, e :: s, acc, Q, hl, he, q => by
    rw [List.length_cons] at hl
    refine he d e List.mem_cons_self List.mem_cons_self (fun y M3 => acc.length < lim ∧ cmD _ tYes ge [i, j] Γ ((r.zip s).map fun p => .tup [p.1, p.2]) (acc ++ [y]) M3 Q) ⟨by omega, ?_⟩
    refine cm_zip r s _ (by rw [List.length_append, List.length_singleton]; omega) (fun d e hd he' => he d e (List.mem_cons_of_mem _ hd) (List.mem_cons_of_mem _ he')) ?_
    rw [List.append_assoc]
    exact q
theorem all_bl {α : Type} (l : List α) (f : α → Bool) : blsOf (l.map fun a => D.bl (f a)) = some (l.map f) := by
  have := blsOf_map (l.map f)
  rw [List.map_map] at this
  exact this
theorem within_zip : ∀ (ds : List D) (sz : List Nat), ds.length = sz.length → (((ds.zip (sz.map di)).map fun p => isWithin p.1 0 ((match p.2 with | .int i => i | _ => 0) - 1)).all id) = withinAll ds sz
  | [], [], _ => rfl
  | d :: ds, s :: ss, h => by
    have ih := within_zip ds ss (by simpa using h)
    rw [List.map_cons, List.zip_cons_cons, List.map_cons, List.all_cons, ih]
    rfl
  | [], _ :: _, h => by simp at h
  | _ :: _, [], h => by simp at h
theorem withinAll_len : ∀ (ds : List D) (sz : List Nat), withinAll ds sz = true → ds.length = sz.length
  | [], [], _ => rfl
  | d :: ds, s :: ss, h => by
    have h' : (isWithin d 0 ((s : Int) - 1) && withinAll ds ss) = true := h
    rw [Bool.and_eq_true] at h'
    rw [List.length_cons, List.length_cons, withinAll_len ds ss h'.2]
  | [], _ :: _, h => by cases h
  | _ :: _, [], h => by cases h
theorem r_is_content (Ds : List D) (Q : D → Prop) (h : p_is_content Ds Q) : Ds.length = 2 ∧ g_is_content p_is_within (endsP Q) (startD ["sizes", "thing", "worth", "size"] Ds) Mem.nil := by
  obtain ⟨sz, d, rfl, hd, hl, h⟩ := h
  refine ⟨rfl, ?_⟩
  cases d with
  | tup l =>
    refine ⟨rfl, l, rfl, sz.map di, rfl, ?_⟩
    conv => whnf
    rw [List.length_map]
    cases e : decide ((l.length : Int) = (sz.length : Int)) with
    | false =>
      have e' := of_decide_eq_false e
      have : withinAll l sz = false := by
        cases w : withinAll l sz with
        | false => rfl
        | true => exact absurd (by rw [withinAll_len _ _ w]) e'
      have h' : Q (.bl (withinAll l sz)) := h
      rw [this] at h'
      exact h'
    | true =>
      have e' : l.length = sz.length := by have := of_decide_eq_true e; omega
      refine cm_zip (g := fun x y => isWithin x 0 ((match y with | .int i => i | _ => 0) - 1)) l (sz.map di) [] (lim_of (show 0 + _ ≤ 10 by omega) (by decide)) (fun x y hx hy R hR => ?_) ?_
      · obtain ⟨s, _, rfl⟩ := List.mem_map.mp hy
        exact ⟨rfl, rfl, rfl, _, _, _, rfl, clean_tup hd hx, hR⟩
      · refine ⟨rfl, _, _, rfl, (by rw [List.nil_append]; exact all_bl _ _), ?_⟩
        rw [within_zip l sz e']
        exact h
  | lst l => exact ⟨rfl, h⟩
  | _ => exact ⟨hd, h⟩
theorem r_check_content (Ds : List D) (Q : D → Prop) (h : p_check_content Ds Q) : Ds.length = 2 ∧ g_check_content p_is_content (endsP Q) (startD ["sizes", "thing"] Ds) Mem.nil := by
  obtain ⟨sz, d, rfl, hd, hl, hc, h⟩ := h
  refine ⟨rfl, sz, d, rfl, hd, hl, ?_⟩
  rw [hc]
  exact h
theorem r_is_policy (Ds : List D) (Q : D → Prop) (h : p_is_policy Ds Q) : Ds.length = 1 ∧ g_is_policy p_is_pair (endsP Q) (startD ["thing", "flag"] Ds) Mem.nil := by
  obtain ⟨pol, rfl, h⟩ := h
  refine ⟨rfl, _, rfl, rfl, ?_⟩
  refine ⟨rfl, rfl, Nat.le_of_ble_eq_true rfl, rfl, rfl, Nat.le_of_ble_eq_true rfl, rfl, _, _, rfl, rfl, h⟩
theorem r_check_policy (Ds : List D) (Q : D → Prop) (h : p_check_policy Ds Q) : Ds.length = 1 ∧ g_check_policy p_is_policy (endsP Q) (startD ["thing"] Ds) Mem.nil := by
  obtain ⟨pol, rfl, h⟩ := h
  exact ⟨rfl, pol, rfl, h⟩
theorem deq_str {x y : Str} : deq (.str x) (.str y) = decide (x = y) := by
  show (x == y) = _
  rfl
theorem r_is_alike (n : Nat) (Ds : List D) (Q : D → Prop) (h : p_is_alike (n + 1) Ds Q) : Ds.length = 2 ∧ g_is_alike (p_is_alike n) p_is_integer (endsP Q) (startD ["thing", "other", "one", "there"] Ds) Mem.nil := by
  have one : ∀ d z, Ds = [d, .str z] → noPtr d = true → Q (.bl (isStr z d)) → Ds.length = 2 ∧ g_is_alike (p_is_alike n) p_is_integer (endsP Q) (startD ["thing", "other", "one", "there"] Ds) Mem.nil := by
    intro d z e hd hq
    subst e
    refine ⟨rfl, rfl, rfl, hd, ?_⟩
    cases d with
    | str y => exact hq
    | _ => exact hq
  cases n with
  | zero => obtain ⟨d, z, e, hd, h⟩ := h; exact one d z e hd h
  | succ n =>
    rcases h with ⟨d, z, e, hd, h⟩ | ⟨d, z, rfl, hd, h⟩
    · exact one d z e hd h
    · refine ⟨rfl, rfl, ?_⟩
      cases d with
      | tup l =>
        refine ⟨rfl, l, rfl, _, rfl, ?_⟩
        conv => whnf
        match l, hd, h with
        | [], _, h => exact h
        | [d], hd, h =>
          refine ⟨rfl, rfl, ?_⟩
          have hd' : noPtr d = true := clean_tup hd List.mem_cons_self
          have q : p_is_alike (n + 1) [d, .str z] fun y => ([] : List D).length < lim ∧ isT (.lst [y]) = false ∧ ∃ l bs, some [y] = some l ∧ blsOf l = some bs ∧ Q (.bl (bs.all id)) := by
            have : Q (.bl ([isStr z d].all id)) := by
              have e : ([isStr z d].all id) = isStr z d := by cases isStr z d <;> rfl
              rw [e]; exact h
            cases n with
            | zero => exact ⟨d, z, rfl, hd', Nat.le_of_ble_eq_true rfl, rfl, _, _, rfl, rfl, this⟩
            | succ n => exact .inl ⟨d, z, rfl, hd', Nat.le_of_ble_eq_true rfl, rfl, _, _, rfl, rfl, this⟩
          exact ⟨rfl, q⟩
        | a :: b :: r, _, h =>
          have : decide (((a :: b :: r).length : Int) = (([D.str z] : List D).length : Int)) = false := by
            rw [decide_eq_false]
            simp only [List.length_cons, List.length_nil]
            omega
          rw [this]
          exact h
      | lst l => exact ⟨rfl, h⟩
      | _ => exact ⟨hd, h⟩
end G
set_option Elab.async false
set_option linter.all false
set_option maxRecDepth 10000
namespace G
open PySem
theorem sWhile_of {t : DT} {b : DS} {E : DEnds} (I : Nat → Slots → Mem → Prop) (z : ∀ Γ M, ¬ I 0 Γ M)
    (step : ∀ n (R : Slots → Mem → Prop) Γ M, (∀ Γ' M', I n Γ' M' → R Γ' M') → I (n + 1) Γ M → t Γ M fun c M1 => match c with | true => b { E with nx := R, ct := R, bk := E.nx } Γ M1 | false => E.nx Γ M1)
    (n : Nat) (Γ : Slots) (M : Mem) (h : I n Γ M) : sWhile t b E Γ M := by
  refine ⟨n, ?_⟩
  induction n generalizing Γ M with
  | zero => exact absurd h (z Γ M)
  | succ n ih => exact step n (whD t b E n) Γ M (fun Γ' M' h' => ih Γ' M' h') h
theorem for_of {a : DG} {b : DS} {E : DEnds} (I : List D → Slots → Mem → Prop) (nil : ∀ Γ M, I [] Γ M → E.nx Γ M)
    (step : ∀ d r (R : Slots → Mem → Prop) Γ M, (∀ Γ' M', I r Γ' M' → R Γ' M') → I (d :: r) Γ M → a d Γ M fun Γ1 M1 => b { E with nx := R, ct := R, bk := E.nx } Γ1 M1)
    (ds : List D) (Γ : Slots) (M : Mem) (h : I ds Γ M) : forD a b E ds Γ M := by
  induction ds generalizing Γ M with
  | nil => exact nil Γ M h
  | cons d r ih => exact step d r (forD a b E r) Γ M (fun Γ' M' h' => ih Γ' M' h') h
theorem cut_last {α : Type} (xs : List α) (v : α) : cut (xs ++ [v]) none (some (-1)) = xs := by
  show ((xs ++ [v]).drop 0).take ((if (-1 : Int) < 0 then ((-1 : Int) + ((xs ++ [v]).length : Nat)).toNat else min (-1 : Int).toNat (xs ++ [v]).length) - 0) = xs
  have e : ((-1 : Int) + ((xs ++ [v]).length : Nat)).toNat = xs.length := by rw [List.length_append, List.length_singleton]; omega
  rw [if_pos (by decide), e]
  simp
theorem stm_ne (b : Blk) : ∃ hd rest, stm b = hd :: rest := by cases b <;> exact ⟨_, _, rfl⟩
theorem drop_cons {α : Type} {l : List α} {i : Nat} {hd : α} {rest : List α} (h : l.drop i = hd :: rest) : l[i]? = some hd ∧ i < l.length ∧ l.drop (i + 1) = rest := by
  have hi : i < l.length := by
    rcases Nat.lt_or_ge i l.length with h' | h'
    · exact h'
    · rw [List.drop_eq_nil_of_le h'] at h; cases h
  rw [List.drop_eq_getElem_cons hi] at h
  injection h with h1 h2
  exact ⟨by rw [List.getElem?_eq_getElem hi, h1], hi, h2⟩
theorem val_opD (x op : List Nat) (c : Nat) : val (opD x op) (Sum.inl (c : Int)) = if c ∈ op then some (di (x.getD c 0)) else none := by
  unfold opD
  induction op with
  | nil => rfl
  | cons a r ih =>
    rw [List.map_cons]
    by_cases e : a = c
    · subst e
      rw [val_pos, if_pos List.mem_cons_self]
    · rw [val_neg (by intro h; injection h with h; exact e (by omega)), ih]
      by_cases m : c ∈ r
      · rw [if_pos m, if_pos (List.mem_cons_of_mem _ m)]
      · rw [if_neg m, if_neg]
        intro h
        rcases List.mem_cons.mp h with h | h
        · exact e h.symm
        · exact m h
theorem r_State_statement (Ds : List D) (M : Mem) (Q : D → Mem → Prop) (h : q_State_statement Ds M Q) : Ds.length = 1 ∧ g_State_statement (endsD Q) (startD ["self", "block", "at", "turns"] Ds) M := by
  obtain ⟨s, sz, x, p, rfl, hp, hM, h⟩ := h
  obtain ⟨hd, rest, e⟩ := stm_ne p.cur
  have ⟨h1, h2, h3⟩ := drop_cons (hp.dr.trans e)
  refine ⟨rfl, _, _, _, hM, rfl, _, -1, _, rfl, rfl, atI_last _ _, rfl, rfl, p.l, rfl, ?_⟩
  conv => whnf
  rw [decide_eq_false (show ¬ ((p.i : Int) = (p.l.length : Int)) by omega)]
  exact ⟨p.l, (p.i : Int), hd, rfl, rfl, atI_nat h1, M, Mem.le_refl _, h hd rest e⟩
theorem r_State_step (Ds : List D) (M : Mem) (Q : D → Mem → Prop) (h : q_State_step Ds M Q) : Ds.length = 1 ∧ g_State_step (endsD Q) (startD ["self", "block", "at", "turns"] Ds) M := by
  obtain ⟨s, sz, x, p, rfl, hp, hM, h⟩ := h
  refine ⟨rfl, _, _, _, hM, rfl, _, -1, _, rfl, rfl, atI_last _ _, rfl, rfl, _, _, _, hM, rfl, Nat.le_of_ble_eq_true rfl, Nat.le_of_ble_eq_true rfl, ?_, s, _, _, rfl, hM, Nat.le_of_ble_eq_true rfl, M.set s (.ins .state { p with i := p.i + 1 : Ps }.fs3), ?_, h⟩
  · have e := cut_last p.frs (frame p.l p.i)
    have := hp.ln
    show (cut (p.frs ++ [frame p.l p.i]) none (some (-1))).length + 1 ≤ lim
    rw [e]
    unfold lim
    omega
  · have e := cut_last p.frs (frame p.l p.i)
    show Mem.le _ (M.set s (.ins .state [("told", .dic p.told), ("opened", .dic p.opened), ("place", .tup (cut (p.frs ++ [frame p.l p.i]) none (some (-1)) ++ [frame p.l (p.i + 1)]))]))
    rw [e]
    exact Mem.le_refl _
theorem Mem.set_set (M : Mem) (a : Addr) (o o' : MO) : (M.set a o).set a o' = M.set a o' := by
  funext b
  unfold Mem.set
  by_cases e : b = a
  · rw [if_pos e, if_pos e]
  · rw [if_neg e, if_neg e, if_neg e]
theorem r_State_enter (Ds : List D) (M : Mem) (Q : D → Mem → Prop) (h : q_State_enter Ds M Q) : Ds.length = 3 ∧ g_State_enter q_State_step (endsD Q) (startD ["self", "block", "turns"] Ds) M := by
  obtain ⟨s, sz, x, p, l, rfl, hp, hM, h⟩ := h
  refine ⟨rfl, s, _, rfl, hM, rfl, s, sz, x, p, rfl, hp, hM, ?_⟩
  refine ⟨_, _, _, Mem.same, rfl, Nat.le_of_ble_eq_true rfl, Nat.le_of_ble_eq_true rfl, ?_, s, _, _, rfl, Mem.same, Nat.le_of_ble_eq_true rfl, _, ?_, h⟩
  · have := hp.ln
    show (p.frs ++ [frame p.l (p.i + 1)]).length + 1 ≤ lim
    rw [List.length_append, List.length_singleton]
    unfold lim
    omega
  · rw [Mem.set_set]
    exact Mem.le_refl _
theorem Mem.set_same {M : Mem} {a : Addr} {o : MO} (h : M a = some o) : M.set a o = M := by
  funext b
  unfold Mem.set
  by_cases e : b = a
  · rw [if_pos e, e, h]
  · rw [if_neg e]
theorem stm_tup {b : Blk} {hd : D} {rest : List D} (e : stm b = hd :: rest) : ∃ l, hd = .tup l := by
  cases b <;> (injection e with e1 _; exact ⟨_, e1.symm⟩)
theorem deed_tup (t : Tr) : ∃ l, deed t = .tup l := by cases t <;> exact ⟨_, rfl⟩
theorem r_State_go_on (Ds : List D) (M : Mem) (Q : D → Mem → Prop) (h : q_State_go_on Ds M Q) : Ds.length = 1 ∧ g_State_go_on q_State_statement q_State_met (endsD Q) (startD ["self", "statement", "deed"] Ds) M := by
  obtain ⟨s, sz, x, p, rfl, hp, hM, h⟩ := h
  refine ⟨rfl, ?_⟩
  refine sWhile_of (fun n Γ M => ∃ p y z, bsz p.cur < n ∧ Ps.Ok sz x p ∧ M s = some (.ins .state p.fs3) ∧ Γ = [some (.ptr s), y, z] ∧
    ∀ p', Ps.Ok sz x p' → p'.Stopped → p'.tr x = p.tr x → Q (deed (p'.tr x)) (M.set s (.ins .state p'.fs3))) ?_ ?_ (bsz p.cur + 1) _ _ ⟨p, none, none, by omega, hp, hM, rfl, h⟩
  · rintro Γ M ⟨p, _, _, h, _⟩
    omega
  · rintro n R _ M hR ⟨p, y, z, hn, hp, hM, rfl, h⟩
    refine ⟨_, _, _, hM, rfl, _, rfl, ?_⟩
    conv => whnf
    rw [decide_eq_true (show (0 : Int) < ((p.frs ++ [frame p.l p.i]).length : Int) by rw [List.length_append, List.length_singleton]; omega)]
    refine ⟨s, _, rfl, hM, rfl, s, sz, x, p, rfl, hp, hM, fun hd rest e => ?_⟩
    obtain ⟨l, rfl⟩ := stm_tup e
    refine ⟨s, _, rfl, hM, rfl, s, sz, x, p, _, rest, rfl, hp, hM, e, fun hs => ?_, fun hs p' hp' => ?_⟩
    · obtain ⟨l, el⟩ := deed_tup (p.tr x)
      have := h p hp hs rfl
      rw [el] at this ⊢
      exact ⟨M, Mem.le_refl _, by rw [Mem.set_same hM] at this; exact this⟩
    · refine hR _ _ ⟨p', _, _, by have := hp'.2.2; omega, hp'.1, Mem.same, rfl, fun p'' h1 h2 h3 => ?_⟩
      rw [Mem.set_set]
      exact h p'' h1 h2 (h3.trans hp'.2.1)

theorem wide_none {x op : List Nat} {p : List Nat} (h : ∀ c ∈ p, c ∈ op) : (p.map di).filter (fun d => match d with | .int i => !(val (opD x op) (Sum.inl i)).isSome | _ => false) = [] := by
  rw [List.filter_eq_nil_iff]
  intro d hd
  obtain ⟨c, hc, rfl⟩ := List.mem_map.mp hd
  show ¬ (!(val (opD x op) (Sum.inl (c : Int))).isSome) = true
  rw [val_opD, if_pos (h c hc)]
  exact Bool.false_ne_true
theorem nodup_len {n : Nat} : ∀ {l : List Nat}, l.Nodup → (∀ c ∈ l, c < n) → l.length ≤ n := by
  induction n with
  | zero =>
    intro l _ h
    cases l with
    | nil => exact Nat.le_refl _
    | cons a r => exact absurd (h a List.mem_cons_self) (by omega)
  | succ n ih =>
    intro l hn h
    by_cases m : n ∈ l
    · have h1 := ih (hn.erase n) (fun c hc => by
        have := (hn.mem_erase_iff).mp hc
        have h2 := h c this.2
        have := this.1
        omega)
      rw [List.length_erase_of_mem m] at h1
      omega
    · have := ih hn (fun c hc => by
        have h2 := h c hc
        have : c ≠ n := fun e => m (e ▸ hc)
        omega)
      omega
theorem r_State_met (Ds : List D) (M : Mem) (Q : D → Mem → Prop) (h : q_State_met Ds M Q) : Ds.length = 2 ∧ g_State_met q_State_step q_State_tested (endsD Q) (startD ["self", "statement", "wide", "c"] Ds) M := by
  obtain ⟨s, sz, x, p, hd, rest, rfl, hp, hM, e, h1, h2⟩ := h
  obtain ⟨a, op, cur, told, opened, frs, l, i⟩ := p
  cases cur with
  | thr n r =>
    injection e with e1 e2
    subst e1
    exact ⟨rfl, _, _, _, rfl, rfl, rfl, _, _, _, rfl, rfl, rfl, Nat.le_of_ble_eq_true rfl, M, Mem.le_refl _, h1 trivial⟩
  | «show» q =>
    injection e with e1 e2
    subst e1
    have hop : opened = opD x op := hp.op_
    subst hop
    have hw := hp.wf
    have hq : ∀ c ∈ q, c ∈ op := fun c hc => hw.1.mem_iff.mp hc
    refine ⟨rfl, _, _, _, rfl, rfl, rfl, _, _, _, rfl, rfl, rfl, _, _, _, rfl, rfl, rfl, ?_⟩
    refine cm_filter (fun d => match d with | .int i => !(val (opD x op) (Sum.inl i)).isSome | _ => false) id _ [] ?_ (fun d hd R R' hR hR' => ?_) ?_
    · have : op.length ≤ sz.length := nodup_len hp.nd hp.lt
      have h3 : q.length = op.length := hw.1.length_eq
      have h4 := hp.sl
      rw [List.length_map]
      exact lim_of (show 0 + _ ≤ 10 by omega) (by decide)
    · obtain ⟨c, hc, rfl⟩ := List.mem_map.mp hd
      refine ⟨rfl, _, _, _, hM, rfl, _, _, rfl, rfl, ?_⟩
      have hv : (!(val (opD x op) (Sum.inl (c : Int))).isSome) = false := by rw [val_opD, if_pos (hq c hc)]; rfl
      conv => whnf
      rw [hv]
      exact hR' hv
    · rw [wide_none hq]
      exact ⟨_, rfl, M, Mem.le_refl _, h1 trivial⟩
  | opn c r =>
    injection e with e1 e2
    subst e1
    have hop : opened = opD x op := hp.op_
    subst hop
    refine ⟨rfl, _, _, _, rfl, rfl, rfl, _, _, _, rfl, rfl, rfl, _, _, _, rfl, rfl, rfl, _, _, _, rfl, rfl, rfl, _, _, _, hM, rfl, _, _, rfl, rfl, ?_⟩
    have hv : (!(val (opD x op) (Sum.inl (c : Int))).isSome) = decide (c ∉ op) := by
      rw [val_opD]
      by_cases m : c ∈ op
      · rw [if_pos m, decide_eq_false (fun n => n m)]; rfl
      · rw [if_neg m, decide_eq_true m]; rfl
    conv => whnf
    rw [hv]
    by_cases m : c ∈ op
    · rw [decide_eq_false (fun n => n m)]
      refine ⟨s, _, rfl, hM, rfl, s, sz, x, _, rfl, hp, hM, ?_⟩
      refine ⟨_, Mem.le_refl _, h2 (fun n => n m) ⟨a, op, r, told, _, frs, l, i + 1⟩ ⟨⟨?_, hp.nd, hp.lt, hp.nm, hp.tl, hp.op_, (drop_cons hp.dr).2.2, hp.ln, hp.sl⟩, ?_, ?_⟩⟩
      · have := hp.wf.2
        unfold ins at this
        rw [if_pos m] at this
        exact this
      · show _ = (if c ∈ op then _ else _)
        rw [if_pos m]
        rfl
      · show bsz r < 1 + bsz r
        omega
    · rw [decide_eq_true m]
      refine ⟨M, Mem.le_refl _, ?_⟩
      have h3 : Q (deed (if c ∈ op then tr x a op r else .opn c (tr x a (op ++ [c]) r))) M := h1 m
      rw [if_neg m] at h3
      exact h3
  | ifn v b1 b2 =>
    injection e with e1 e2
    subst e1
    refine ⟨rfl, _, _, _, rfl, rfl, rfl, _, _, _, rfl, rfl, rfl, _, _, _, rfl, rfl, rfl, _, _, _, rfl, rfl, rfl, _, _, _, rfl, rfl, rfl, s, _, rfl, hM, rfl, s, sz, x, ⟨a, op, .ifn v b1 b2, told, opened, frs, l, i⟩, _, _, rfl, trivial, hp, hM, rfl, fun hs => ⟨M, Mem.le_refl _, h1 hs⟩, fun hs p' hp' => ⟨_, Mem.le_refl _, h2 hs p' hp'⟩⟩
  | ifc c w b1 b2 =>
    injection e with e1 e2
    subst e1
    refine ⟨rfl, _, _, _, rfl, rfl, rfl, _, _, _, rfl, rfl, rfl, _, _, _, rfl, rfl, rfl, _, _, _, rfl, rfl, rfl, _, _, _, rfl, rfl, rfl, s, _, rfl, hM, rfl, s, sz, x, ⟨a, op, .ifc c w b1 b2, told, opened, frs, l, i⟩, _, _, rfl, trivial, hp, hM, rfl, fun hs => ⟨M, Mem.le_refl _, h1 hs⟩, fun hs p' hp' => ⟨_, Mem.le_refl _, h2 hs p' hp'⟩⟩
theorem r_State_tested (Ds : List D) (M : Mem) (Q : D → Mem → Prop) (h : q_State_tested Ds M Q) : Ds.length = 2 ∧ g_State_tested q_State_enter (endsD Q) (startD ["self", "statement", "test", "is_so"] Ds) M := by
  obtain ⟨s, sz, x, p, hd, rest, rfl, hi, hp, hM, e, h1, h2⟩ := h
  obtain ⟨a, op, cur, told, opened, frs, l, i⟩ := p
  cases cur with
  | ifn v b1 b2 =>
    injection e with e1 e2
    subst e1
    refine ⟨rfl, _, _, _, rfl, rfl, rfl, _, _, _, rfl, rfl, rfl, _, _, _, hM, rfl, _, rfl, _, _, _, rfl, rfl, rfl, _, _, rfl, rfl, ?_⟩
    have hn : (val told (Sum.inr "a")).getD (.int 0) = di a := hp.nm
    conv => whnf
    rw [hn]
    refine ⟨_, _, _, rfl, rfl, rfl, s, _, rfl, hM, rfl, ?_⟩
    conv => whnf
    have hg := h2 (fun n => n)
    have ln : frs.length + (1 + max (dp b1) (dp b2)) ≤ 100 := hp.ln
    have hf : (frs ++ [frame l (i + 1)]).length = frs.length + 1 := by rw [List.length_append, List.length_singleton]
    by_cases m : a = v
    · rw [decide_eq_true (show (a : Int) = (v : Int) by omega)]
      refine ⟨_, _, _, rfl, rfl, rfl, s, sz, x, ⟨a, op, .ifn v b1 b2, told, opened, frs, l, i⟩, _, rfl, hp, hM, _, Mem.le_refl _, hg ⟨a, op, b1, told, opened, frs ++ [frame l (i + 1)], stm b1, 0⟩ ⟨⟨hp.wf.1, hp.nd, hp.lt, hp.nm, hp.tl, hp.op_, rfl, ?_, hp.sl⟩, ?_, ?_⟩⟩
      · show (frs ++ [frame l (i + 1)]).length + dp b1 ≤ 100
        omega
      · show _ = (if a = v then _ else _)
        rw [if_pos m]
        rfl
      · show bsz b1 < 1 + (bsz b1 + bsz b2)
        omega
    · rw [decide_eq_false (show ¬ (a : Int) = (v : Int) by omega)]
      refine ⟨_, _, _, rfl, rfl, rfl, s, sz, x, ⟨a, op, .ifn v b1 b2, told, opened, frs, l, i⟩, _, rfl, hp, hM, _, Mem.le_refl _, hg ⟨a, op, b2, told, opened, frs ++ [frame l (i + 1)], stm b2, 0⟩ ⟨⟨hp.wf.2, hp.nd, hp.lt, hp.nm, hp.tl, hp.op_, rfl, ?_, hp.sl⟩, ?_, ?_⟩⟩
      · show (frs ++ [frame l (i + 1)]).length + dp b2 ≤ 100
        omega
      · show _ = (if a = v then _ else _)
        rw [if_neg m]
        rfl
      · show bsz b2 < 1 + (bsz b1 + bsz b2)
        omega
  | ifc c w b1 b2 =>
    injection e with e1 e2
    subst e1
    have hop : opened = opD x op := hp.op_
    subst hop
    refine ⟨rfl, _, _, _, rfl, rfl, rfl, _, _, _, rfl, rfl, rfl, _, _, _, rfl, rfl, rfl, _, _, _, hM, rfl, _, _, rfl, rfl, ?_⟩
    conv => whnf
    have ln : frs.length + (1 + max (dp b1) (dp b2)) ≤ 100 := hp.ln
    have hf : (frs ++ [frame l (i + 1)]).length = frs.length + 1 := by rw [List.length_append, List.length_singleton]
    by_cases m : c ∈ op
    · have hv : val (opD x op) (Sum.inl (c : Int)) = some (di (x.getD c 0)) := by rw [val_opD, if_pos m]
      rw [hv]
      refine ⟨_, _, _, hM, rfl, _, _, _, rfl, rfl, rfl, _, _, _, rfl, rfl, hv, _, _, _, rfl, rfl, rfl, s, _, rfl, hM, rfl, ?_⟩
      conv => whnf
      have hg := h2 (fun n => n m)
      have hi' : ins op c = op := if_pos m
      have hwf := hp.wf.2
      by_cases m2 : x.getD c 0 = w
      · rw [decide_eq_true (show ((x.getD c 0 : Nat) : Int) = (w : Int) by omega)]
        refine ⟨_, _, _, rfl, rfl, rfl, s, sz, x, ⟨a, op, .ifc c w b1 b2, told, opD x op, frs, l, i⟩, _, rfl, hp, hM, _, Mem.le_refl _, hg ⟨a, op, b1, told, opD x op, frs ++ [frame l (i + 1)], stm b1, 0⟩ ⟨⟨?_, hp.nd, hp.lt, hp.nm, hp.tl, hp.op_, rfl, ?_, hp.sl⟩, ?_, ?_⟩⟩
        · rw [← hi']
          exact hwf.1
        · show (frs ++ [frame l (i + 1)]).length + dp b1 ≤ 100
          omega
        · show _ = (if c ∈ op then (if x.getD c 0 = w then _ else _) else _)
          rw [if_pos m, if_pos m2]
          rfl
        · show bsz b1 < 1 + (bsz b1 + bsz b2)
          omega
      · rw [decide_eq_false (show ¬ ((x.getD c 0 : Nat) : Int) = (w : Int) by omega)]
        refine ⟨_, _, _, rfl, rfl, rfl, s, sz, x, ⟨a, op, .ifc c w b1 b2, told, opD x op, frs, l, i⟩, _, rfl, hp, hM, _, Mem.le_refl _, hg ⟨a, op, b2, told, opD x op, frs ++ [frame l (i + 1)], stm b2, 0⟩ ⟨⟨?_, hp.nd, hp.lt, hp.nm, hp.tl, hp.op_, rfl, ?_, hp.sl⟩, ?_, ?_⟩⟩
        · rw [← hi']
          exact hwf.2
        · show (frs ++ [frame l (i + 1)]).length + dp b2 ≤ 100
          omega
        · show _ = (if c ∈ op then (if x.getD c 0 = w then _ else _) else _)
          rw [if_pos m, if_neg m2]
          rfl
        · show bsz b2 < 1 + (bsz b1 + bsz b2)
          omega
    · have hv : val (opD x op) (Sum.inl (c : Int)) = none := by rw [val_opD, if_neg m]
      rw [hv]
      refine ⟨_, _, _, rfl, rfl, rfl, Nat.le_of_ble_eq_true rfl, M, Mem.le_refl _, ?_⟩
      have h3 : Q (deed (if c ∈ op then (if x.getD c 0 = w then tr x a op b1 else tr x a op b2) else .opn c (if x.getD c 0 = w then tr x a (op ++ [c]) b1 else tr x a (op ++ [c]) b2))) M := h1 m
      rw [if_neg m] at h3
      exact h3
  | _ => exact hi.elim
theorem r_State_init (Ds : List D) (M : Mem) (Q : D → Mem → Prop) (h : q_State_init Ds M Q) : Ds.length = 4 ∧ g_State_init q_State_go_on (endsD Q) (startD ["self", "told", "opened", "place"] Ds) M := by
  obtain ⟨s, sz, x, p, dn, dO, rfl, hp, hM, hn, ho, nn, no, h⟩ := h
  have A : ∀ {dn : D} {l : List (Key × D)} {o : MO}, dcts M dn = some l → dn ≠ .ptr s → dcts (M.set s o) dn = some l := by
    intro dn l o hn nn
    cases dn with
    | ptr a =>
      show (match (M.set s o) a with | some (.dic l) => some l | _ => none) = _
      rw [Mem.ne (fun e : a = s => nn (by rw [e]))]
      exact hn
    | _ => exact hn
  refine ⟨rfl, _, hn, s, _, _, rfl, hM, Nat.le_of_ble_eq_true rfl, _, A ho no, s, _, _, rfl, Mem.same, Nat.le_of_ble_eq_true rfl, s, _, _, rfl, Mem.same, Nat.le_of_ble_eq_true rfl, s, _, rfl, Mem.same, rfl, s, sz, x, p, rfl, hp, Mem.same, fun p' h1 h2 h3 => ⟨s, _, _, rfl, Mem.same, Nat.le_of_ble_eq_true rfl, _, ?_, h p' h1 h2 h3⟩⟩
  rw [Mem.set_set, Mem.set_set, Mem.set_set, Mem.set_set]
  exact Mem.le_refl _
end G
set_option Elab.async false
set_option linter.all false
set_option maxRecDepth 10000
namespace G
open PySem
theorem Sz.len {sz : List Nat} (h : Sz sz) : sz.length ≤ 3 := by rcases h with rfl | rfl | rfl | rfl <;> decide
theorem St_mk {sz x : List Nat} {p : Ps} {t : Tr} (h1 : p.Ok sz x) (h2 : p.Stopped) (e : p.tr x = t) : St sz x t (.obj .state (p.fs (deed (p.tr x)))) := by
  subst e
  exact ⟨p, h1, h2, rfl, rfl⟩
theorem r_begin (Ds : List D) (Q : D → Prop) (h : p_begin Ds Q) : Ds.length = 1 ∧ g_begin q_State_init (endsP Q) (startD ["program"] Ds) Mem.nil := by
  obtain ⟨sz, x, b, rfl, hg, h⟩ := h
  refine ⟨rfl, _, rfl, Nat.le_of_ble_eq_true rfl, Nat.le_of_ble_eq_true rfl, fun s hs => ⟨s, sz, x, ⟨0, [], b, [], [], [], stm b, 0⟩, _, _, rfl, ⟨hg.wf, List.nodup_nil, (fun c hc => by cases hc), rfl, .inl rfl, rfl, rfl, ?_, ?_⟩, Mem.same, rfl, rfl, nofun, nofun, fun p' h1 h2 h3 => ⟨rfl, _, Mem.same, h _ (St_mk h1 h2 ?_)⟩⟩⟩
  · have := hg.dp
    show 0 + dp b ≤ 100
    omega
  · have := hg.siz.len
    omega
  · rw [h3]
    rfl
theorem St_thr {sz x : List Nat} {n : Nat} {t : Nat → Tr} {d : D} (h : St sz x (.thr n t) d) : ∃ p r, Ps.Ok sz x p ∧ p.cur = .thr n r ∧ (∀ v, t v = tr x v p.op r) ∧ d = .obj .state (p.fs (.tup [.str "throw", di n])) := by
  obtain ⟨p, hp, hs, ht, rfl⟩ := h
  obtain ⟨a, op, cur, told, opened, frs, l, i⟩ := p
  cases cur with
  | «show» q => cases ht
  | opn c r =>
    have ht' : Tr.thr n t = if c ∈ op then tr x a op r else .opn c (tr x a (op ++ [c]) r) := ht
    rw [if_neg hs] at ht'
    cases ht'
  | thr n' r =>
    injection ht with e1 e2
    subst e1
    subst e2
    exact ⟨_, r, hp, rfl, fun v => rfl, rfl⟩
  | ifn _ _ _ => exact hs.elim
  | ifc c w b1 b2 =>
    have ht' : Tr.thr n t = if c ∈ op then (if x.getD c 0 = w then tr x a op b1 else tr x a op b2) else .opn c (if x.getD c 0 = w then tr x a (op ++ [c]) b1 else tr x a (op ++ [c]) b2) := ht
    rw [if_neg hs] at ht'
    cases ht'
theorem mem_ins (op : List Nat) (c : Nat) : c ∈ op ++ [c] := List.mem_append_right _ List.mem_cons_self
theorem ins_new {op : List Nat} {c : Nat} (h : c ∉ op) : ins op c = op ++ [c] := if_neg h
theorem ins_old {op : List Nat} {c : Nat} (h : c ∈ op) : ins op c = op := if_pos h
theorem St_opn {sz x : List Nat} {c : Nat} {t : Tr} {d : D} (h : St sz x (.opn c t) d) : ∃ p : Ps, Ps.Ok sz x p ∧ c ∉ p.op ∧ c < sz.length ∧ Wf sz (p.op ++ [c]) p.cur ∧ t = tr x p.a (p.op ++ [c]) p.cur ∧ d = .obj .state (p.fs (.tup [.str "open", di c])) := by
  obtain ⟨p, hp, hs, ht, rfl⟩ := h
  obtain ⟨a, op, cur, told, opened, frs, l, i⟩ := p
  have hwf : Wf sz op cur := hp.wf
  cases cur with
  | «show» q => cases ht
  | opn c' r =>
    have hs' : c' ∉ op := hs
    have ht' : Tr.opn c t = if c' ∈ op then tr x a op r else .opn c' (tr x a (op ++ [c']) r) := ht
    rw [if_neg hs'] at ht'
    injection ht' with e1 e2
    subst e1
    have hw := hwf.2
    rw [ins_new hs'] at hw
    refine ⟨_, hp, hs', hwf.1, ⟨hwf.1, ?_⟩, ?_, rfl⟩
    · rw [ins_old (mem_ins op c)]
      exact hw
    · show t = if c ∈ op ++ [c] then _ else _
      rw [if_pos (mem_ins op c)]
      exact e2
  | thr n' r => cases ht
  | ifn _ _ _ => exact hs.elim
  | ifc c' w b1 b2 =>
    have hs' : c' ∉ op := hs
    have ht' : Tr.opn c t = if c' ∈ op then (if x.getD c' 0 = w then tr x a op b1 else tr x a op b2) else .opn c' (if x.getD c' 0 = w then tr x a (op ++ [c']) b1 else tr x a (op ++ [c']) b2) := ht
    rw [if_neg hs'] at ht'
    injection ht' with e1 e2
    subst e1
    have hw := hwf.2
    rw [ins_new hs'] at hw
    refine ⟨_, hp, hs', hwf.1.1, ⟨hwf.1, ?_⟩, ?_, rfl⟩
    · rw [ins_old (mem_ins op c)]
      exact hw
    · show t = if c ∈ op ++ [c] then _ else _
      rw [if_pos (mem_ins op c)]
      exact e2
theorem St_show {sz x : List Nat} {q : List Nat} {d : D} (h : St sz x (.show q) d) : ∃ p : Ps, Ps.Ok sz x p ∧ q.Perm p.op ∧ q.Pairwise (· < ·) ∧ d = .obj .state (p.fs (.tup [.str "show", dis q])) := by
  obtain ⟨p, hp, hs, ht, rfl⟩ := h
  obtain ⟨a, op, cur, told, opened, frs, l, i⟩ := p
  have hwf : Wf sz op cur := hp.wf
  cases cur with
  | «show» q' =>
    injection ht with e1
    subst e1
    exact ⟨_, hp, hwf.1, hwf.2, rfl⟩
  | opn c' r =>
    have hs' : c' ∉ op := hs
    have ht' : Tr.show q = if c' ∈ op then tr x a op r else .opn c' (tr x a (op ++ [c']) r) := ht
    rw [if_neg hs'] at ht'
    cases ht'
  | thr n' r => cases ht
  | ifn _ _ _ => exact hs.elim
  | ifc c' w b1 b2 =>
    have hs' : c' ∉ op := hs
    have ht' : Tr.show q = if c' ∈ op then (if x.getD c' 0 = w then tr x a op b1 else tr x a op b2) else .opn c' (if x.getD c' 0 = w then tr x a (op ++ [c']) b1 else tr x a (op ++ [c']) b2) := ht
    rw [if_neg hs'] at ht'
    cases ht'
theorem put_opD {x op : List Nat} {c : Nat} (h : c ∉ op) : put (opD x op) (Sum.inl (c : Int)) (di (x.getD c 0)) = opD x (op ++ [c]) := by
  unfold put
  rw [if_neg]
  · unfold opD
    rw [List.map_append]
    rfl
  · intro hany
    rw [List.any_eq_true] at hany
    obtain ⟨kv, hkv, e⟩ := hany
    obtain ⟨c', hc', rfl⟩ := List.mem_map.mp hkv
    have e := of_decide_eq_true e
    injection e with e
    exact h ((by omega : c' = c) ▸ hc')
theorem opD_len (x op : List Nat) : (opD x op).length = op.length := List.length_map ..
theorem nodup_snoc {op : List Nat} {c : Nat} (h : op.Nodup) (hc : c ∉ op) : (op ++ [c]).Nodup := by
  rw [List.nodup_append]
  refine ⟨h, (by simp), fun a ha b hb => ?_⟩
  rcases List.mem_singleton.mp hb with rfl
  exact fun e => hc (e ▸ ha)
theorem r_after_open (Ds : List D) (Q : D → Prop) (h : p_after_open Ds Q) : Ds.length = 2 ∧ g_after_open q_State_init (endsP Q) (startD ["state", "worth", "opened"] Ds) Mem.nil := by
  obtain ⟨sz, x, st, c, t, rfl, hst, h⟩ := h
  obtain ⟨p, hp, hc, hl, hw, ht, rfl⟩ := St_opn hst
  obtain ⟨a, op, cur, told, opened, frs, l, i⟩ := p
  have hop : opened = opD x op := hp.op_
  subst hop
  refine ⟨rfl, _, rfl, _, rfl, fun q hq => ⟨_, rfl, _, _, _, rfl, rfl, rfl, q, _, _, rfl, Mem.same, rfl, ?_, _, rfl, _, rfl, fun s hs => ?_⟩⟩
  · have h1 : op.length ≤ sz.length := nodup_len hp.nd hp.lt
    have h2 := hp.sl
    rw [opD_len]
    unfold lim
    omega
  · rw [put_opD hc] at hs ⊢
    have hne : q ≠ s := by
      intro e
      subst e
      rw [Mem.same] at hs
      cases hs
    refine ⟨s, sz, x, ⟨a, op ++ [c], cur, told, opD x (op ++ [c]), frs, l, i⟩, _, _, rfl, ⟨hw, nodup_snoc hp.nd hc, fun c' hc' => ?_, hp.nm, hp.tl, rfl, hp.dr, hp.ln, hp.sl⟩, Mem.same, rfl, ?_, nofun, ?_, fun p' h1 h2 h3 => ⟨rfl, _, Mem.same, h _ (St_mk h1 h2 ?_)⟩⟩
    · rcases List.mem_append.mp hc' with m | m
      · exact hp.lt c' m
      · rcases List.mem_singleton.mp m with rfl
        exact hl
    · show (match (Mem.set _ s _) q with | some (.dic l) => some l | _ => none) = _
      rw [Mem.ne hne, Mem.same]
    · intro e
      injection e with e
      exact hne e
    · rw [h3, ht]
      rfl
theorem r_after_throw (Ds : List D) (Q : D → Prop) (h : p_after_throw Ds Q) : Ds.length = 2 ∧ g_after_throw q_State_init (endsP Q) (startD ["state", "value", "block", "at", "turns", "told"] Ds) Mem.nil := by
  obtain ⟨sz, x, st, n, t, v, rfl, hst, h⟩ := h
  obtain ⟨p, r, hp, hcur, ht, rfl⟩ := St_thr hst
  obtain ⟨a, op, cur, told, opened, frs, l, i⟩ := p
  have hcur : cur = .thr n r := hcur
  subst hcur
  have hop : opened = opD x op := hp.op_
  subst hop
  have ⟨h1, h2, h3⟩ := drop_cons hp.dr
  have hput : (put told (Sum.inr "a") (di v)) = [((Sum.inr "a" : Key), di v)] := by
    rcases hp.tl with e | ⟨d, e⟩
    · have e : told = [] := e
      subst e
      rfl
    · have e : told = [((Sum.inr "a" : Key), d)] := e
      subst e
      rfl
  refine ⟨rfl, _, rfl, _, _, _, rfl, rfl, atI_last _ _, rfl, rfl, _, rfl, _, rfl, fun q hq => ⟨_, _, _, rfl, rfl, atI_nat h1, _, _, _, rfl, rfl, rfl, q, _, _, rfl, Mem.same, rfl, ?_, _, rfl, _, rfl, Nat.le_of_ble_eq_true rfl, Nat.le_of_ble_eq_true rfl, ?_, fun s hs => ?_⟩⟩
  · rcases hp.tl with e | ⟨d, e⟩
    · have e : told = [] := e
      subst e
      exact Nat.le_of_ble_eq_true rfl
    · have e : told = [((Sum.inr "a" : Key), d)] := e
      subst e
      exact Nat.le_of_ble_eq_true rfl
  · have e := cut_last frs (frame l i)
    have := hp.ln
    show (cut (frs ++ [frame l i]) none (some (-1))).length + 1 ≤ lim
    rw [e]
    have : frs.length + dp r ≤ 100 := hp.ln
    unfold lim
    omega
  · have hne : q ≠ s := by
      intro e
      subst e
      rw [Mem.same] at hs
      cases hs
    refine ⟨s, sz, x, ⟨v, op, r, [((Sum.inr "a" : Key), di v)], opD x op, frs, l, i + 1⟩, .ptr q, .dic (opD x op), congrArg (fun z => [D.ptr s, D.ptr q, D.dic (opD x op), .tup (z ++ [frame l (i + 1)])]) (cut_last frs (frame l i)), ⟨hp.wf.2, hp.nd, hp.lt, rfl, .inr ⟨_, rfl⟩, rfl, h3, hp.ln, hp.sl⟩, Mem.same, ?_, rfl, ?_, nofun, fun p' h1 h2 h3 => ⟨rfl, _, Mem.same, h _ (St_mk h1 h2 ?_)⟩⟩
    · show (match (Mem.set _ s _) q with | some (.dic l) => some l | _ => none) = _
      rw [Mem.ne hne, Mem.same]
      exact congrArg some hput
    · intro e
      injection e with e
      exact hne e
    · rw [h3, ht]
      rfl
end G
set_option Elab.async false
set_option linter.all false
set_option maxRecDepth 10000
namespace G
open PySem
/-! trees in general -/
def tsz : Tr → Nat
  | .show _ => 1
  | .opn _ t => 1 + tsz t
  | .thr n k => 1 + ((List.range n).map fun v => tsz (k v)).sum
def Fair : Tr → Prop
  | .show _ => True
  | .opn _ t => Fair t
  | .thr n k => (1 ≤ n ∧ n ≤ 12) ∧ ∀ v, Fair (k v)
theorem leaves_pos : ∀ (t : Tr) (th : List Nat), Fair t → 1 ≤ (leaves t th).length
  | .show _, _, _ => Nat.le_refl _
  | .opn _ t, th, h => leaves_pos t th h
  | .thr n k, th, h => by
    obtain ⟨⟨h1, _⟩, h2⟩ := h
    show 1 ≤ ((List.range n).flatMap fun v => leaves (k v) (th ++ [v])).length
    obtain ⟨m, rfl⟩ : ∃ m, n = m + 1 := ⟨n - 1, by omega⟩
    rw [List.range_succ_eq_map, List.flatMap_cons, List.length_append]
    have := leaves_pos (k 0) (th ++ [0]) (h2 0)
    omega
theorem leaves_len : ∀ (t : Tr) (th th' : List Nat), (leaves t th).length = (leaves t th').length
  | .show _, _, _ => rfl
  | .opn _ t, th, th' => leaves_len t th th'
  | .thr n k, th, th' => by
    show ((List.range n).flatMap fun v => leaves (k v) (th ++ [v])).length = ((List.range n).flatMap fun v => leaves (k v) (th' ++ [v])).length
    rw [List.length_flatMap, List.length_flatMap]
    congr 1
    congr 1
    funext v
    exact leaves_len (k v) _ _
theorem flat_le {f : Nat → List (List Nat × List Nat)} {b : Nat} (n : Nat) (h : ∀ v, (f v).length ≤ b) : ((List.range n).flatMap f).length ≤ n * b := by
  induction n with
  | zero => simp
  | succ n ih =>
    rw [List.range_succ, List.flatMap_append, List.length_append, List.flatMap_cons, List.flatMap_nil, List.append_nil, Nat.succ_mul]
    have := h n
    omega
theorem pow3_le {a b : Nat} (h : a ≤ b) : 3 ^ a ≤ 3 ^ b := Nat.pow_le_pow_right (by decide) h
theorem leaves_le {sz x : List Nat} : ∀ (b : Blk) (a : Nat) (op th : List Nat), Wf sz op b → (leaves (tr x a op b) th).length ≤ 3 ^ thrs b
  | .show p, a, op, th, _ => Nat.le_refl _
  | .opn c r, a, op, th, h => by
    show (leaves (if c ∈ op then tr x a op r else .opn c (tr x a (op ++ [c]) r)) th).length ≤ 3 ^ thrs r
    have h2 := h.2
    by_cases m : c ∈ op
    · rw [ins_old m] at h2
      rw [if_pos m]
      exact leaves_le r a op th h2
    · rw [ins_new m] at h2
      rw [if_neg m]
      exact leaves_le r a (op ++ [c]) th h2
  | .thr n r, a, op, th, h => by
    show ((List.range n).flatMap fun v => leaves (tr x v op r) (th ++ [v])).length ≤ 3 ^ (1 + thrs r)
    have := flat_le (f := fun v => leaves (tr x v op r) (th ++ [v])) (b := 3 ^ thrs r) n (fun v => leaves_le r v op _ h.2)
    have h1 := h.1.2
    rw [Nat.add_comm, Nat.pow_succ]
    have : n * 3 ^ thrs r ≤ 3 * 3 ^ thrs r := Nat.mul_le_mul_right _ h1
    omega
  | .ifn v b1 b2, a, op, th, h => by
    show (leaves (if a = v then tr x a op b1 else tr x a op b2) th).length ≤ 3 ^ (thrs b1 + thrs b2)
    by_cases m : a = v
    · rw [if_pos m]
      exact Nat.le_trans (leaves_le b1 a op th h.1) (pow3_le (by omega))
    · rw [if_neg m]
      exact Nat.le_trans (leaves_le b2 a op th h.2) (pow3_le (by omega))
  | .ifc c w b1 b2, a, op, th, h => by
    show (leaves (if c ∈ op then (if x.getD c 0 = w then tr x a op b1 else tr x a op b2) else .opn c (if x.getD c 0 = w then tr x a (op ++ [c]) b1 else tr x a (op ++ [c]) b2)) th).length ≤ 3 ^ (thrs b1 + thrs b2)
    have h2 := h.2
    by_cases m : c ∈ op
    · rw [ins_old m] at h2
      rw [if_pos m]
      by_cases m2 : x.getD c 0 = w
      · rw [if_pos m2]
        exact Nat.le_trans (leaves_le b1 a op th h2.1) (pow3_le (by omega))
      · rw [if_neg m2]
        exact Nat.le_trans (leaves_le b2 a op th h2.2) (pow3_le (by omega))
    · rw [ins_new m] at h2
      rw [if_neg m]
      by_cases m2 : x.getD c 0 = w
      · rw [if_pos m2]
        exact Nat.le_trans (leaves_le b1 a (op ++ [c]) th h2.1) (pow3_le (by omega))
      · rw [if_neg m2]
        exact Nat.le_trans (leaves_le b2 a (op ++ [c]) th h2.2) (pow3_le (by omega))
/-- a property of trees that are grown from blocks; so many throws one behind another -/
inductive Grown (sz x : List Nat) : Nat → Tr → Prop
  | show {h : Nat} {p : List Nat} : p.Pairwise (· < ·) → (∀ c ∈ p, c < sz.length) → Grown sz x h (.show p)
  | opn {h c : Nat} {t : Tr} : c < sz.length → Grown sz x h t → Grown sz x h (.opn c t)
  | thr {h n : Nat} {k : Nat → Tr} : 2 ≤ n → n ≤ 3 → (∀ v, Grown sz x h (k v)) → Grown sz x (h + 1) (.thr n k)
theorem Grown.mono {sz x : List Nat} {h : Nat} {t : Tr} (g : Grown sz x h t) : ∀ {h' : Nat}, h ≤ h' → Grown sz x h' t := by
  induction g with
  | «show» h1 h2 => exact fun _ => .show h1 h2
  | opn h1 _ ih => exact fun hh => .opn h1 (ih hh)
  | thr h1 h2 _ ih =>
    intro h' hh
    obtain ⟨m, rfl⟩ : ∃ m, h' = m + 1 := ⟨h' - 1, by omega⟩
    exact .thr h1 h2 fun v => ih v (by omega)
theorem grown {sz x : List Nat} : ∀ (b : Blk) (a : Nat) (op : List Nat), Wf sz op b → (∀ c ∈ op, c < sz.length) → Grown sz x (thrs b) (tr x a op b)
  | .show p, a, op, h, ho => .show h.2 fun c hc => ho c (h.1.mem_iff.mp hc)
  | .opn c r, a, op, h, ho => by
    show Grown sz x (thrs r) (if c ∈ op then tr x a op r else .opn c (tr x a (op ++ [c]) r))
    have h2 := h.2
    by_cases m : c ∈ op
    · rw [ins_old m] at h2
      rw [if_pos m]
      exact grown r a op h2 ho
    · rw [ins_new m] at h2
      rw [if_neg m]
      refine .opn h.1 (grown r a (op ++ [c]) h2 fun c' hc' => ?_)
      rcases List.mem_append.mp hc' with m | m
      · exact ho c' m
      · rcases List.mem_singleton.mp m with rfl
        exact h.1
  | .thr n r, a, op, h, ho => by
    show Grown sz x (1 + thrs r) _
    rw [Nat.add_comm]
    exact .thr h.1.1 h.1.2 fun v => grown r v op h.2 ho
  | .ifn v b1 b2, a, op, h, ho => by
    show Grown sz x (thrs b1 + thrs b2) (if a = v then tr x a op b1 else tr x a op b2)
    by_cases m : a = v
    · rw [if_pos m]
      exact (grown b1 a op h.1 ho).mono (by omega)
    · rw [if_neg m]
      exact (grown b2 a op h.2 ho).mono (by omega)
  | .ifc c w b1 b2, a, op, h, ho => by
    show Grown sz x (thrs b1 + thrs b2) (if c ∈ op then (if x.getD c 0 = w then tr x a op b1 else tr x a op b2) else .opn c (if x.getD c 0 = w then tr x a (op ++ [c]) b1 else tr x a (op ++ [c]) b2))
    have h2 := h.2
    by_cases m : c ∈ op
    · rw [ins_old m] at h2
      rw [if_pos m]
      by_cases m2 : x.getD c 0 = w
      · rw [if_pos m2]
        exact (grown b1 a op h2.1 ho).mono (by omega)
      · rw [if_neg m2]
        exact (grown b2 a op h2.2 ho).mono (by omega)
    · rw [ins_new m] at h2
      rw [if_neg m]
      have ho' : ∀ c' ∈ op ++ [c], c' < sz.length := fun c' hc' => by
        rcases List.mem_append.mp hc' with m | m
        · exact ho c' m
        · rcases List.mem_singleton.mp m with rfl
          exact h.1.1
      by_cases m2 : x.getD c 0 = w
      · rw [if_pos m2]
        exact .opn h.1.1 ((grown b1 a (op ++ [c]) h2.1 ho').mono (by omega))
      · rw [if_neg m2]
        exact .opn h.1.1 ((grown b2 a (op ++ [c]) h2.2 ho').mono (by omega))
theorem Grown.fair {sz x : List Nat} {h : Nat} {t : Tr} (g : Grown sz x h t) : Fair t := by
  induction g with
  | «show» => trivial
  | opn _ _ ih => exact ih
  | thr h1 h2 _ ih => exact ⟨⟨by omega, by omega⟩, ih⟩
theorem Good.grown {sz x : List Nat} {b : Blk} (h : Good sz b) : Grown sz x 2 (root x b) := (G.grown b 0 [] h.wf nofun).mono h.thrs
/-! the runs -/
def itm (st : D) (m : Int) (th : List Nat) : D := .tup [st, .tup [.int 1, .int m], dis th]
inductive Stk (sz x : List Nat) : List D → List (List Nat × List Nat) → Nat → Prop
  | nil : Stk sz x [] [] 0
  | push {ws : List D} {pend : List (List Nat × List Nat)} {n h : Nat} {t : Tr} {st : D} {m : Int} {th : List Nat} : Stk sz x ws pend n → St sz x t st → Grown sz x h t → 1 ≤ m → th.length + h ≤ 10 → Stk sz x (ws ++ [itm st m th]) (leaves t th ++ pend) (n + tsz t)
theorem Stk.len {sz x : List Nat} {ws : List D} {pend : List (List Nat × List Nat)} {n : Nat} (h : Stk sz x ws pend n) : ws.length ≤ pend.length := by
  induction h with
  | nil => exact Nat.le_refl _
  | push _ _ hg _ _ ih =>
    rw [List.length_append, List.length_append, List.length_singleton]
    have := leaves_pos _ ‹List Nat› hg.fair
    omega
theorem range_rev (n : Nat) : downTo ((n : Int) - 1) n = ((List.range n).reverse).map di := by
  unfold downTo
  apply List.ext_getElem
  · simp
  · intro i h1 h2
    simp at h1
    rw [List.getElem_map, List.getElem_map, List.getElem_range, List.getElem_reverse, List.getElem_range, List.length_range]
    show D.int _ = D.int _
    congr 1
    omega
theorem rangerev_succ (n : Nat) : ((List.range (n + 1)).reverse).map di = di n :: ((List.range n).reverse).map di := by
  rw [List.range_succ, List.reverse_append, List.reverse_singleton, List.singleton_append, List.map_cons]
theorem dis_atD {l : List Nat} {i : Nat} (h : i < l.length) : atI (l.map di) (i : Int) = some (di (l.getD i 0)) := by
  rw [dis_at h, List.getD_eq_getElem?_getD, List.getElem?_eq_getElem h]
  rfl
theorem all2_snoc {α β : Type} {R : α → β → Prop} {l : List α} {r : List β} {a : α} {b : β} (h : All2 R l r) (h2 : R a b) : All2 R (l ++ [a]) (r ++ [b]) := by
  induction h with
  | nil => exact .cons h2 .nil
  | cons h _ ih => exact .cons h ih
theorem All2.len {α β : Type} {R : α → β → Prop} {l : List α} {r : List β} (h : All2 R l r) : l.length = r.length := by
  induction h with
  | nil => rfl
  | cons _ _ ih => rw [List.length_cons, List.length_cons, ih]
end G
set_option Elab.async false
set_option linter.all false
set_option maxRecDepth 10000
namespace G
open PySem
theorem Stk.inv {sz x : List Nat} {ws : List D} {pend : List (List Nat × List Nat)} {n : Nat} (h : Stk sz x ws pend n) : (ws = [] ∧ pend = []) ∨ ∃ ws' pend' n' h t st m th, ws = ws' ++ [itm st m th] ∧ pend = leaves t th ++ pend' ∧ n = n' + tsz t ∧ Stk sz x ws' pend' n' ∧ St sz x t st ∧ Grown sz x h t ∧ 1 ≤ m ∧ th.length + h ≤ 10 := by
  cases h with
  | nil => exact .inl ⟨rfl, rfl⟩
  | push h1 h2 h3 h4 h5 => exact .inr ⟨_, _, _, _, _, _, _, _, rfl, rfl, rfl, h1, h2, h3, h4, h5⟩
/-- the openings before the next throw or showing -/
def peel : Tr → Tr
  | .opn _ t => peel t
  | t => t
def odep : Tr → Nat
  | .opn _ t => 1 + odep t
  | _ => 0
theorem itM {M : Mem} {a : Addr} {l : List D} (h : M a = some (.lst l)) : items M (.ptr a) = some l := by
  show (match M a with | some (.lst l) => some l | _ => none) = _
  rw [h]
theorem r_outcomes (Ds : List D) (Q : D → Prop) (h : p_outcomes Ds Q) : Ds.length = 2 ∧ g_outcomes p_begin p_after_open p_made p_times p_after_throw (endsP Q) (startD ["program", "content", "found", "waiting", "state", "share", "throws", "part", "value"] Ds) Mem.nil := by
  obtain ⟨sz, x, b, rfl, hg, hx, h⟩ := h
  have hgr : Grown sz x 2 (root x b) := hg.grown
  have hlen : (leaves (root x b) []).length ≤ 9 := Nat.le_trans (leaves_le b 0 [] [] hg.wf) (Nat.le_trans (pow3_le hg.thrs) (by decide))
  refine ⟨rfl, Nat.le_of_ble_eq_true rfl, fun f _ => ?_⟩
  refine ⟨sz, x, b, rfl, hg, fun st hst => ⟨Nat.le_of_ble_eq_true rfl, Nat.le_of_ble_eq_true rfl, Nat.le_of_ble_eq_true rfl, fun w hw => ?_⟩⟩
  have hwf : w ≠ f := fun e => by subst e; rw [Mem.same] at hw; cases hw
  refine sWhile_of (fun n Γ M => ∃ F done ws pend n' o4 o5 o6 o7 o8, n' < n ∧ Γ = [some (prD sz b), some (dis x), some (.ptr f), some (.ptr w), o4, o5, o6, o7, o8] ∧ M f = some (.lst F) ∧ M w = some (.lst ws) ∧ Stk sz x ws pend n' ∧ All2 OutD F done ∧ done ++ pend = leaves (root x b) []) ?_ ?_ (tsz (root x b) + 1) _ _ ⟨[], [], [itm st 1 []], leaves (root x b) [] ++ [], 0 + tsz (root x b), none, none, none, none, none, by omega, rfl, (by rw [Mem.ne hwf.symm, Mem.same]), Mem.same, .push .nil hst hgr (by decide) (by decide), .nil, List.append_nil _⟩
  · rintro Γ M ⟨_, _, _, _, _, _, _, _, _, _, h, _⟩
    omega
  · rintro n R _ M hR ⟨F, done, ws, pend, n', o4, o5, o6, o7, o8, hn, rfl, hF, hW, hS, hA, hD⟩
    rcases hS.inv with ⟨rfl, rfl⟩ | ⟨ws', pend', n1, hh, t, st, m, th, rfl, rfl, rfl, hS', hst, hgt, hm, hth⟩
    · refine ⟨[], ?_, ?_⟩
      · exact itM hW
      · refine ⟨f, rfl, .inl ⟨F, hF, h F ?_⟩⟩
        rw [← hD, List.append_nil]
        exact hA
    · refine ⟨ws' ++ [itm st m th], ?_, ?_⟩
      · exact itM hW
      · conv => whnf
        rw [decide_eq_true (show (0 : Int) < ((ws' ++ [itm st m th]).length : Int) by rw [List.length_append, List.length_singleton]; omega)]
        refine ⟨w, ws', itm st m th, rfl, hW, rfl, rfl, ?_⟩
        refine sWhile_of (fun k Γ M' => ∃ t' st', odep t' < k ∧ M' = M.set w (.lst ws') ∧ Γ = [some (prD sz b), some (dis x), some (.ptr f), some (.ptr w), some st', some (.tup [.int 1, .int m]), some (dis th), o7, o8] ∧ St sz x t' st' ∧ Grown sz x hh t' ∧ leaves t' th = leaves t th ∧ tsz t' ≤ tsz t) ?_ ?_ (odep t + 1) _ _ ⟨t, st, by omega, rfl, rfl, hst, hgt, rfl, Nat.le_refl _⟩
        · rintro Γ M ⟨_, _, h, _⟩
          omega
        · rintro k R' _ _ hR' ⟨t', st', hk, rfl, rfl, hst', hgt', hlv, htz⟩
          cases hgt' with
          | opn hc hgt2 =>
            rename_i c t2
            obtain ⟨p, hp, hc', _, _, _, rfl⟩ := St_opn hst'
            refine ⟨_, rfl, _, _, _, rfl, rfl, rfl, _, rfl, _, _, _, rfl, rfl, rfl, _, _, _, rfl, rfl, dis_atD (by rw [hx.1]; exact hc), sz, x, _, c, t2, rfl, hst', fun st2 hst2 => hR' _ _ ⟨t2, st2, ?_, rfl, rfl, hst2, hgt2, hlv, ?_⟩⟩
            · have : odep (.opn c t2) = 1 + odep t2 := rfl
              omega
            · have : tsz (.opn c t2) = 1 + tsz t2 := rfl
              omega
          | «show» hp1 hp2 =>
            rename_i q
            obtain ⟨p, hp, hpq, _, rfl⟩ := St_show hst'
            have hlv' : leaves t th = [(q, th)] := hlv.symm
            refine ⟨_, rfl, _, _, _, rfl, rfl, rfl, _, rfl, _, _, _, rfl, rfl, rfl, f, F, rfl, (by rw [Mem.ne hwf.symm]; exact hF), _, rfl, _, _, _, rfl, rfl, rfl, _, rfl, _, rfl, Nat.le_of_ble_eq_true rfl, F, (by rw [Mem.ne hwf.symm]; exact hF), ?_, ?_⟩
            · have := hA.len
              have h9 : (done ++ (leaves t th ++ pend')).length ≤ 9 := hD ▸ hlen
              rw [List.length_append] at h9
              exact lim_of (show F.length + 1 ≤ 1000 by omega) (by decide)
            · refine ⟨_, itM Mem.same, ws', itM (by rw [Mem.ne hwf, Mem.same]), ?_⟩
              have e1 := hA.len
              have e2 := hS'.len
              have h9 : (done ++ (leaves t th ++ pend')).length ≤ 9 := hD ▸ hlen
              rw [hlv', List.length_append, List.length_append, List.length_singleton] at h9
              conv => whnf
              rw [List.length_append, List.length_singleton, decide_eq_false (by omega)]
              have htz' : 1 ≤ tsz t := htz
              refine hR _ _ ⟨_, done ++ [(q, th)], ws', pend', n1, _, _, _, _, _, by omega, rfl, Mem.same, (by rw [Mem.ne hwf, Mem.same]), hS', all2_snoc hA ⟨_, _, rfl, ?_⟩, ?_⟩
              · have h1 : p.opened = opD x p.op := hp.op_
                show (p.opened.map _).length = q.length
                rw [List.length_map, h1, opD_len, hpq.length_eq]
              · rw [← hD, hlv', List.append_assoc]
          | thr h2 h3 hgk =>
            rename_i hh n3 k3
            obtain ⟨p, r, hp, hcur, hk3, rfl⟩ := St_thr hst'
            have hdf : f ≠ w := hwf.symm
            refine ⟨_, rfl, _, _, _, rfl, rfl, rfl, _, rfl, _, _, _, rfl, rfl, rfl, _, rfl, _, _, _, rfl, rfl, rfl, n3, rfl, (by omega), m, n3, rfl, hm, ⟨by omega, by omega⟩, _, rfl, _, _, _, rfl, rfl, rfl, rfl, ⟨by omega, by omega, by decide, by decide⟩, ?_⟩
            have e0 : ((n3 : Int) - 1 - -1).toNat = n3 := by omega
            rw [show ((n3 : Int) - 1 - -1).toNat = n3 by omega, range_rev]
            have hlv' : leaves t th = (List.range n3).flatMap fun v => leaves (k3 v) (th ++ [v]) := hlv.symm
            refine for_of (fun ds Γ M' => ∃ j ws'' pend'' n'' o8, j ≤ n3 ∧ ds = ((List.range j).reverse).map di ∧ Γ = [some (prD sz b), some (dis x), some (.ptr f), some (.ptr w), some (D.obj .state (p.fs (.tup [.str "throw", di n3]))), some (.tup [.int 1, .int m]), some (dis th), some (.tup [.int 1, .int (m * n3)]), o8] ∧ M' f = some (.lst F) ∧ M' w = some (.lst ws'') ∧ Stk sz x ws'' pend'' n'' ∧ leaves t th ++ pend' = ((List.range j).flatMap fun v => leaves (k3 v) (th ++ [v])) ++ pend'' ∧ n'' + ((List.range j).map fun v => tsz (k3 v)).sum < n1 + tsz t) ?_ ?_ _ _ (M.set w (.lst ws')) ⟨n3, ws', pend', n1, _, Nat.le_refl _, rfl, rfl, (by rw [Mem.ne hdf]; exact hF), Mem.same, hS', by rw [hlv'], ?_⟩
            · rintro Γ M' ⟨j, ws'', pend'', n'', o8, _, hj, rfl, hF', hW', hS'', hE, hN⟩
              have hj0 : j = 0 := by
                cases j with
                | zero => rfl
                | succ j => rw [rangerev_succ] at hj; cases hj
              subst hj0
              have hE' : leaves t th ++ pend' = pend'' := hE
              subst hE'
              refine ⟨F, itM hF', ws'', itM hW', ?_⟩
              have e1 := hA.len
              have e2 := hS''.len
              have h9 : (done ++ (leaves t th ++ pend')).length ≤ 9 := hD ▸ hlen
              rw [List.length_append] at h9
              conv => whnf
              rw [decide_eq_false (by omega)]
              refine hR _ _ ⟨F, done, ws'', _, n'', _, _, _, _, _, ?_, rfl, hF', hW', hS'', hA, hD⟩
              have : n'' + 0 < n1 + tsz t := hN
              omega
            · rintro d ds R2 _ M' hR2 ⟨j, ws'', pend'', n'', o8, hj3, hj, rfl, hF', hW', hS'', hE, hN⟩
              obtain ⟨i, rfl⟩ : ∃ i, j = i + 1 := by
                cases j with
                | zero => cases hj
                | succ i => exact ⟨i, rfl⟩
              rw [rangerev_succ] at hj
              injection hj with hd hds
              subst hd
              refine ⟨w, ws'', rfl, hW', sz, x, _, n3, k3, i, rfl, hst', fun st2 hst2 => ⟨Nat.le_of_ble_eq_true rfl, ?_, Nat.le_of_ble_eq_true rfl, ws'', hW', ?_, ?_⟩⟩
              · rw [List.length_map]
                exact lim_of (show th.length + 1 ≤ 1000 by omega) (by decide)
              · have e2 := hS''.len
                have h9 : (done ++ (leaves t th ++ pend')).length ≤ 9 := hD ▸ hlen
                rw [hE, List.length_append, List.length_append] at h9
                exact lim_of (show ws''.length + 1 ≤ 1000 by omega) (by decide)
              · have hpush := Stk.push hS'' hst2 (hgk i) (show 1 ≤ m * (n3 : Int) from Int.mul_le_mul hm (show (1 : Int) ≤ (n3 : Int) by omega) (by decide) (by omega)) (show (th ++ [i]).length + hh ≤ 10 by rw [List.length_append, List.length_singleton]; omega)
                have he : itm st2 (m * n3) (th ++ [i]) = .tup [st2, .tup [.int 1, .int (m * n3)], .tup (th.map di ++ [di i])] := by
                  show D.tup [_, _, D.tup ((th ++ [i]).map di)] = _
                  rw [List.map_append]
                  rfl
                rw [he] at hpush
                refine hR2 _ _ ⟨i, _, _, _, some (di i), by omega, hds, rfl, (by rw [Mem.ne hdf]; exact hF'), Mem.same, hpush, ?_, ?_⟩
                · rw [hE, List.range_succ, List.flatMap_append, List.flatMap_cons, List.flatMap_nil, List.append_nil, List.append_assoc]
                · rw [List.range_succ, List.map_append, List.sum_append, List.map_cons, List.map_nil, List.sum_cons, List.sum_nil] at hN
                  omega
            · show n1 + ((List.range n3).map fun v => tsz (k3 v)).sum < n1 + tsz t
              have : 1 + ((List.range n3).map fun v => tsz (k3 v)).sum ≤ tsz t := htz
              omega
end G
set_option Elab.async false
set_option linter.all false
set_option maxRecDepth 10000
namespace G
open PySem
/-- a comprehension whose elements are known up to a relation -/
theorem cm_rel {α : Type} {a : DG} {ge : DE} {vs : List Nat} {Γ : Slots} {M : Mem} (f : α → D) {Rel : D → α → Prop} : ∀ (xs : List α) (acc : List D) {Q : List D → Mem → Prop}, acc.length + xs.length ≤ lim →
    (∀ x, x ∈ xs → ∀ R : D → Mem → Prop, (∀ y, Rel y x → R y M) → a (f x) (wipe Γ vs) M fun Γ1 M1 => wipe Γ1 vs = wipe Γ vs ∧ ge Γ1 M1 R) →
    (∀ ys, All2 Rel ys xs → Q (acc ++ ys) M) → cmD a tYes ge vs Γ (xs.map f) acc M Q
  | [], acc, Q, _, _, q => by have := q [] .nil; rw [List.append_nil] at this; exact this
  | x :: r, acc, Q, hl, he, q => by
    rw [List.length_cons] at hl
    refine he x List.mem_cons_self (fun y M3 => acc.length < lim ∧ cmD a tYes ge vs Γ (r.map f) (acc ++ [y]) M3 Q) fun y hy => ⟨by omega, ?_⟩
    refine cm_rel f r _ (by rw [List.length_append, List.length_singleton]; omega) (fun x hx => he x (List.mem_cons_of_mem _ hx)) fun ys hys => ?_
    rw [List.append_assoc]
    exact q (y :: ys) (.cons hy hys)
instance (sz x : List Nat) : Decidable (Cont sz x) := by unfold Cont; exact inferInstance
theorem cont_of {sz x : List Nat} (hs : Sz sz) (h : x ∈ contents sz) : Cont sz x := by
  rcases hs with rfl | rfl | rfl | rfl
  · exact (show ∀ x ∈ contents [2, 2], Cont [2, 2] x by decide) x h
  · exact (show ∀ x ∈ contents [3, 2], Cont [3, 2] x by decide) x h
  · exact (show ∀ x ∈ contents [2, 2, 2], Cont [2, 2, 2] x by decide) x h
  · exact (show ∀ x ∈ contents [2], Cont [2] x by decide) x h
theorem contents_len {sz : List Nat} (hs : Sz sz) : (contents sz).length ≤ 8 := by rcases hs with rfl | rfl | rfl | rfl <;> decide
theorem r_all_outcomes (Ds : List D) (Q : D → Prop) (h : p_all_outcomes Ds Q) : Ds.length = 1 ∧ g_all_outcomes p_raw_contents p_outcomes (endsP Q) (startD ["program", "content"] Ds) Mem.nil := by
  obtain ⟨sz, b, rfl, hg, h⟩ := h
  refine ⟨rfl, _, rfl, sz, rfl, hg.siz, ?_⟩
  refine cm_rel dis (contents sz) [] ?_ (fun x hx R hR => ⟨rfl, sz, x, b, rfl, hg, cont_of hg.siz hx, fun l hl => hR _ ⟨l, rfl, hl⟩⟩) fun ys hys => h ys hys
  have := contents_len hg.siz
  exact lim_of (show 0 + _ ≤ 10 by omega) (by decide)
theorem All2.mem {α β : Type} {R : α → β → Prop} {l : List α} {r : List β} (h : All2 R l r) : ∀ a ∈ l, ∃ b ∈ r, R a b := by
  induction h with
  | nil => exact nofun
  | cons h _ ih =>
    intro a ha
    rcases List.mem_cons.mp ha with rfl | ha
    · exact ⟨_, List.mem_cons_self, h⟩
    · obtain ⟨b, hb, hr⟩ := ih a ha
      exact ⟨b, List.mem_cons_of_mem _ hb, hr⟩
theorem leaves9 {sz x : List Nat} {b : Blk} (hg : Good sz b) : (leaves (root x b) []).length ≤ 9 := Nat.le_trans (leaves_le b 0 [] [] hg.wf) (Nat.le_trans (pow3_le hg.thrs) (by decide))
theorem r_raw_is_blind (Ds : List D) (Q : D → Prop) (h : p_raw_is_blind Ds Q) : Ds.length = 1 ∧ g_raw_is_blind p_all_outcomes (endsP Q) (startD ["program", "flags", "runs", "share", "pattern", "order", "throws"] Ds) Mem.nil := by
  obtain ⟨sz, b, rfl, hg, h⟩ := h
  refine ⟨rfl, Nat.le_of_ble_eq_true rfl, fun f _ => ⟨sz, b, rfl, hg, fun ll hll => ?_⟩⟩
  have h8 := contents_len hg.siz
  refine for_of (fun ds Γ M => ∃ bs o2 o3 o4 o5 o6, Γ = [some (prD sz b), some (.ptr f), o2, o3, o4, o5, o6] ∧ (∀ d ∈ ds, ∃ x l, d = .lst l ∧ All2 OutD l (leaves (root x b) [])) ∧ M f = some (.lst bs) ∧ (∀ d ∈ bs, d = .bl true) ∧ bs.length + 9 * ds.length ≤ 100) ?_ ?_ _ _ _ ⟨[], none, none, none, none, none, rfl, fun d hd => ?_, Mem.same, nofun, ?_⟩
  · rintro Γ M ⟨bs, _, _, _, _, _, rfl, _, hM, hb, _⟩
    refine ⟨rfl, bs, _, itM hM, all_true hb, ?_⟩
    rw [all_rep]
    exact h
  · rintro d ds R _ M hR ⟨bs, o2, o3, o4, o5, o6, rfl, hd, hM, hb, hl⟩
    obtain ⟨x, l, rfl, hA⟩ := hd d List.mem_cons_self
    have h9 : l.length ≤ 9 := by rw [hA.len]; exact leaves9 hg
    rw [List.length_cons] at hl
    refine ⟨f, bs, rfl, hM, ?_⟩
    refine cm_map (fun _ => .bl true) l [] (lim_of (show 0 + _ ≤ 10 by omega) (by decide)) (fun d hd R hR => ?_) ⟨bs, _, hM, rfl, ?_, ?_⟩
    · obtain ⟨q, _, sh, od, rfl, ho⟩ := hA.mem d hd
      refine ⟨rfl, rfl, rfl, od, rfl, q.1.map di, rfl, ?_⟩
      conv => whnf
      rw [List.length_map, decide_eq_true (by omega)]
      exact hR
    · rw [List.nil_append, List.length_map]
      exact lim_of (show bs.length + l.length ≤ 1000 by omega) (by decide)
    · refine hR _ _ ⟨_, _, _, _, _, _, rfl, fun d hd' => hd d (List.mem_cons_of_mem _ hd'), Mem.same, fun d hd' => ?_, ?_⟩
      · rcases List.mem_append.mp hd' with m | m
        · exact hb d m
        · rw [List.nil_append] at m
          obtain ⟨_, _, e⟩ := List.mem_map.mp m
          exact e.symm
      · rw [List.length_append, List.nil_append, List.length_map]
        omega
  · obtain ⟨x, _, l, rfl, hA⟩ := hll.mem d hd
    exact ⟨x, l, rfl, hA⟩
  · rw [hll.len]
    show 0 + _ ≤ _
    omega
theorem r_check_blind (Ds : List D) (Q : D → Prop) (h : p_check_blind Ds Q) : Ds.length = 2 ∧ g_check_blind p_raw_is_blind p_check_policy (endsP Q) (startD ["program", "policy", "blind"] Ds) Mem.nil := by
  obtain ⟨sz, b, pol, rfl, hg, h⟩ := h
  exact ⟨rfl, sz, b, rfl, hg, pol, rfl, h⟩
/-! moves -/
theorem mvs_len {x pat : List Nat} : ∀ (b : Blk) (a : Nat) (op th : List Nat), (mvs (tr x a op b) th pat).length ≤ bsz b
  | .show p, a, op, th => Nat.le_refl _
  | .opn c r, a, op, th => by
    show (mvs (if c ∈ op then tr x a op r else .opn c (tr x a (op ++ [c]) r)) th pat).length ≤ 1 + bsz r
    by_cases m : c ∈ op
    · rw [if_pos m]
      have := mvs_len (pat := pat) (x := x) r a op th
      omega
    · rw [if_neg m]
      have := mvs_len (pat := pat) (x := x) r a (op ++ [c]) th
      show (if c ∈ pat then Mv.go :: mvs _ th pat else [.go]).length ≤ _
      by_cases m2 : c ∈ pat
      · rw [if_pos m2, List.length_cons]
        omega
      · rw [if_neg m2, List.length_singleton]
        omega
  | .thr n r, a, op, [] => Nat.zero_le _
  | .thr n r, a, op, v :: th => by
    have := mvs_len (pat := pat) (x := x) r v op th
    show (mvs (tr x v op r) th pat).length + 1 ≤ 1 + bsz r
    omega
  | .ifn v b1 b2, a, op, th => by
    show (mvs (if a = v then tr x a op b1 else tr x a op b2) th pat).length ≤ 1 + (bsz b1 + bsz b2)
    have h1 := mvs_len (pat := pat) (x := x) b1 a op th
    have h2 := mvs_len (pat := pat) (x := x) b2 a op th
    by_cases m : a = v
    · rw [if_pos m]; omega
    · rw [if_neg m]; omega
  | .ifc c w b1 b2, a, op, th => by
    show (mvs (if c ∈ op then (if x.getD c 0 = w then tr x a op b1 else tr x a op b2) else .opn c (if x.getD c 0 = w then tr x a (op ++ [c]) b1 else tr x a (op ++ [c]) b2)) th pat).length ≤ 1 + (bsz b1 + bsz b2)
    have h1 := mvs_len (pat := pat) (x := x) b1 a op th
    have h2 := mvs_len (pat := pat) (x := x) b2 a op th
    have h3 := mvs_len (pat := pat) (x := x) b1 a (op ++ [c]) th
    have h4 := mvs_len (pat := pat) (x := x) b2 a (op ++ [c]) th
    by_cases m : c ∈ op
    · rw [if_pos m]
      by_cases m2 : x.getD c 0 = w
      · rw [if_pos m2]; omega
      · rw [if_neg m2]; omega
    · rw [if_neg m]
      show (if c ∈ pat then Mv.go :: mvs _ th pat else [.go]).length ≤ _
      by_cases m3 : c ∈ pat
      · rw [if_pos m3, List.length_cons]
        by_cases m2 : x.getD c 0 = w
        · rw [if_pos m2]; omega
        · rw [if_neg m2]; omega
      · rw [if_neg m3, List.length_singleton]
        omega
theorem bsz_cnt : ∀ b : Blk, bsz b = cnt b
  | .show _ => rfl
  | .opn _ r => congrArg (1 + ·) (bsz_cnt r)
  | .thr _ r => congrArg (1 + ·) (bsz_cnt r)
  | .ifn _ a b => by show 1 + (bsz a + bsz b) = 1 + (cnt a + cnt b); rw [bsz_cnt a, bsz_cnt b]
  | .ifc _ _ a b => by show 1 + (bsz a + bsz b) = 1 + (cnt a + cnt b); rw [bsz_cnt a, bsz_cnt b]
theorem mvs60 {sz x : List Nat} {b : Blk} (hg : Good sz b) (th pat : List Nat) : (mvs (root x b) th pat).length ≤ 60 := by
  have := mvs_len (pat := pat) (x := x) b 0 [] th
  rw [bsz_cnt] at this
  exact Nat.le_trans this hg.cnt
theorem flat_dis (p : List Nat) : (p.map di).all flat = true := by
  rw [List.all_eq_true]
  intro d hd
  obtain ⟨c, _, rfl⟩ := List.mem_map.mp hd
  rfl
theorem deq_di (a b : Nat) : deq (di a) (di b) = decide (a = b) := by
  show ((a : Int) == (b : Int)) = _
  rw [Bool.eq_iff_iff, beq_iff_eq, decide_eq_true_iff]
  omega
theorem any_dis (p : List Nat) (c : Nat) : ((p.map di).any fun z => deq z (di c)) = decide (c ∈ p) := by
  rw [Bool.eq_iff_iff, List.any_eq_true, decide_eq_true_iff]
  constructor
  · rintro ⟨d, hd, e⟩
    obtain ⟨c', hc, rfl⟩ := List.mem_map.mp hd
    rw [deq_di, decide_eq_true_iff] at e
    exact e ▸ hc
  · intro h
    exact ⟨di c, List.mem_map_of_mem h, by rw [deq_di, decide_eq_true_iff]⟩
theorem tsz_thr {n v : Nat} {k : Nat → Tr} (h : v < n) : tsz (k v) < tsz (.thr n k) := by
  show _ < 1 + ((List.range n).map fun v => tsz (k v)).sum
  have : tsz (k v) ≤ ((List.range n).map fun v => tsz (k v)).sum := by
    induction n with
    | zero => omega
    | succ n ih =>
      rw [List.range_succ, List.map_append, List.sum_append, List.map_cons, List.map_nil, List.sum_cons, List.sum_nil]
      by_cases e : v = n
      · subst e
        omega
      · have := ih (by omega)
        omega
  omega
theorem r_moves_until (Ds : List D) (Q : D → Prop) (h : p_moves_until Ds Q) : Ds.length = 4 ∧ g_moves_until p_begin p_after_throw p_after_open (endsP Q) (startD ["program", "content", "throws", "pattern", "state", "found", "used", "c"] Ds) Mem.nil := by
  obtain ⟨sz, x, b, th, pat, rfl, hg, hx, hv, h⟩ := h
  have h60 : (mvs (root x b) th pat).length ≤ 60 := mvs60 hg th pat
  refine ⟨rfl, sz, x, b, rfl, hg, fun st hst => ⟨Nat.le_of_ble_eq_true rfl, ?_⟩⟩
  refine sWhile_of (fun n Γ M => ∃ t st u th' done o7, tsz t < n ∧ Γ = [some (prD sz b), some (dis x), some (dis th), some (dis pat), some st, some (.tup (done.map mvD)), some (di u), o7] ∧ St sz x t st ∧ Grown sz x 2 t ∧ Valid t th' ∧ th.drop u = th' ∧ done ++ mvs t th' pat = mvs (root x b) th pat) ?_ ?_ (tsz (root x b) + 1) _ _ ⟨root x b, st, 0, th, [], none, by omega, rfl, hst, hg.grown, hv, rfl, rfl⟩
  · rintro Γ M ⟨_, _, _, _, _, _, h, _⟩
    omega
  · rintro n R _ M hR ⟨t, st, u, th', done, o7, hn, rfl, hst, hgt, hv, hu, hd⟩
    have hl : done.length + (mvs t th' pat).length ≤ 60 := by rw [← List.length_append, hd]; exact h60
    cases hgt with
    | «show» h1 h2 =>
      rename_i q
      obtain ⟨p, hp, _, _, rfl⟩ := St_show hst
      have hl' : done.length + 1 ≤ 60 := hl
      refine ⟨_, rfl, _, _, _, rfl, rfl, rfl, Nat.le_of_ble_eq_true rfl, Nat.le_of_ble_eq_true rfl, lim_of (n := (done.map mvD).length + 1) (by rw [List.length_map]; exact hl') (by decide), ?_⟩
      have hd' : done ++ [.go] = mvs (root x b) th pat := hd
      rw [← hd', List.map_append] at h
      exact h
    | opn hc hg2 =>
      rename_i c t2
      obtain ⟨p, hp, _, _, _, _, rfl⟩ := St_opn hst
      have hl2 : done.length + (if c ∈ pat then Mv.go :: mvs t2 th' pat else [.go]).length ≤ 60 := hl
      have hl' : done.length + 1 ≤ 60 := by
        by_cases m : c ∈ pat
        · rw [if_pos m, List.length_cons] at hl2; omega
        · rw [if_neg m] at hl2; exact hl2
      refine ⟨_, rfl, _, _, _, rfl, rfl, rfl, _, rfl, _, _, _, rfl, rfl, rfl, Nat.le_of_ble_eq_true rfl, Nat.le_of_ble_eq_true rfl, lim_of (n := (done.map mvD).length + 1) (by rw [List.length_map]; exact hl') (by decide), _, rfl, _, _, _, rfl, rfl, rfl, _, rfl, .inl ⟨rfl, flat_dis pat⟩, ?_⟩
      conv => whnf
      have e := any_dis pat c
      rw [e]
      have hd2 : done ++ (if c ∈ pat then Mv.go :: mvs t2 th' pat else [.go]) = mvs (root x b) th pat := hd
      by_cases m : c ∈ pat
      · rw [decide_eq_true m]
        rw [if_pos m] at hd2
        refine ⟨_, _, _, rfl, rfl, dis_atD (by rw [hx.1]; exact hc), sz, x, _, c, t2, rfl, hst, fun st2 hst2 => hR _ _ ⟨t2, st2, u, th', done ++ [.go], some (di c), ?_, ?_, hst2, hg2, hv, hu, ?_⟩⟩
        · have : tsz (.opn c t2) = 1 + tsz t2 := rfl
          omega
        · rw [List.map_append]
          rfl
        · rw [List.append_assoc]
          exact hd2
      · rw [decide_eq_false m]
        rw [if_neg m] at hd2
        rw [← hd2, List.map_append] at h
        exact h
    | thr h2 h3 hgk =>
      rename_i hh n3 k3
      obtain ⟨p, r, hp, hcur, hk3, rfl⟩ := St_thr hst
      match th', hv with
      | v :: th2, hv =>
        have ⟨hu1, hu2, hu3⟩ := drop_cons hu
        have hat : atI (th.map di) (u : Int) = some (di v) := atI_nat (by rw [List.getElem?_map, hu1]; rfl)
        have hl' : done.length + 1 ≤ 60 := by
          have : done.length + ((mvs (k3 v) th2 pat).length + 1) ≤ 60 := hl
          omega
        refine ⟨_, rfl, _, _, _, rfl, rfl, rfl, _, rfl, _, _, _, rfl, rfl, rfl, _, _, _, rfl, rfl, hat, Nat.le_of_ble_eq_true rfl, Nat.le_of_ble_eq_true rfl, lim_of (n := (done.map mvD).length + 1) (by rw [List.length_map]; exact hl') (by decide), _, _, _, rfl, rfl, hat, sz, x, _, n3, k3, v, rfl, hst, fun st2 hst2 => ⟨(u : Int), rfl, hR _ _ ⟨k3 v, st2, u + 1, th2, done ++ [.thr v], o7, ?_, ?_, hst2, (hgk v).mono (by omega), hv.2, hu3, ?_⟩⟩⟩
        · have := tsz_thr (k := k3) hv.1
          omega
        · rw [List.map_append]
          rfl
        · rw [List.append_assoc]
          exact hd
      | [], hv => exact hv.elim
end G
set_option Elab.async false
set_option linter.all false
set_option maxRecDepth 10000
namespace G
open PySem
/-! breaches -/
theorem leaves_valid : ∀ (t : Tr) (th0 : List Nat) (q th : List Nat), (q, th) ∈ leaves t th0 → ∃ th', th = th0 ++ th' ∧ Valid t th'
  | .show p, th0, q, th, h => by
    rcases List.mem_singleton.mp h with e
    injection e with e1 e2
    exact ⟨[], by rw [List.append_nil, e2], rfl⟩
  | .opn _ t, th0, q, th, h => leaves_valid t th0 q th h
  | .thr n k, th0, q, th, h => by
    obtain ⟨v, hv, h'⟩ := List.mem_flatMap.mp h
    obtain ⟨th', rfl, hv'⟩ := leaves_valid (k v) (th0 ++ [v]) q th h'
    exact ⟨v :: th', by rw [List.append_assoc]; rfl, List.mem_range.mp hv, hv'⟩
theorem valid_of {t : Tr} {q th : List Nat} (h : (q, th) ∈ leaves t []) : Valid t th := by
  obtain ⟨th', e, hv⟩ := leaves_valid t [] q th h
  rw [e]
  exact hv
def two (d : D) : D := match d with
  | .tup [_, p, _, t] => .tup [p, t]
  | _ => .non
def prs (q : List Nat × List Nat) : D := .tup [dis q.1, dis q.2]
theorem all2_two {l : List D} {r : List (List Nat × List Nat)} (h : All2 OutD l r) : l.map two = r.map prs := by
  induction h with
  | nil => rfl
  | cons h _ ih =>
    obtain ⟨_, _, rfl, _⟩ := h
    rw [List.map_cons, List.map_cons, ih]
    rfl
theorem plain_dis (n : Nat) (p : List Nat) : plain (n + 1) (dis p) = true := by
  show plainL n (p.map di) = true
  induction p with
  | nil => rfl
  | cons c r ih =>
    show (plain n (di c) && plainL n (r.map di)) = true
    rw [ih]
    cases n <;> rfl
theorem deq_dis (p q : List Nat) : deq (dis p) (dis q) = decide (p = q) := by
  show deqL (p.map di) (q.map di) = _
  induction p generalizing q with
  | nil => cases q <;> rfl
  | cons a r ih =>
    cases q with
    | nil => rfl
    | cons b s =>
      show (deq (di a) (di b) && deqL (r.map di) (s.map di)) = _
      rw [deq_di, ih, Bool.eq_iff_iff, Bool.and_eq_true, decide_eq_true_iff, decide_eq_true_iff, decide_eq_true_iff, List.cons.injEq]
theorem wide_len (other pat : List Nat) : decide ((0 : Int) < (((other.map di).filter fun d => match d with | .int i => !(pat.map di).any fun z => deq z (.int i) | _ => false).map id).length) = other.any fun c => !decide (c ∈ pat) := by
  rw [List.map_id]
  induction other with
  | nil => rfl
  | cons c r ih =>
    rw [List.map_cons, List.any_cons, ← ih]
    have e : (match di c with | .int i => !(pat.map di).any fun z => deq z (.int i) | _ => false) = !decide (c ∈ pat) := by
      show (!(pat.map di).any fun z => deq z (di c)) = _
      rw [any_dis]
    by_cases m : c ∈ pat
    · rw [List.filter_cons_of_neg (by rw [e, decide_eq_true m]; decide), decide_eq_true m]
      rfl
    · rw [List.filter_cons_of_pos (by rw [e, decide_eq_false m]; rfl), decide_eq_false m, List.length_cons, decide_eq_true (by omega)]
      rfl
theorem leaves_pat {sz x : List Nat} {h : Nat} {t : Tr} (g : Grown sz x h t) : ∀ (th0 : List Nat) (q th : List Nat), (q, th) ∈ leaves t th0 → q.Pairwise (· < ·) ∧ ∀ c ∈ q, c < sz.length := by
  induction g with
  | «show» h1 h2 =>
    intro th0 q th h
    rcases List.mem_singleton.mp h with e
    injection e with e1 e2
    subst e1
    exact ⟨h1, h2⟩
  | opn _ _ ih => exact fun th0 q th h => ih th0 q th h
  | thr h1 h2 _ ih =>
    intro th0 q th h
    obtain ⟨v, hv, h'⟩ := List.mem_flatMap.mp h
    exact ih v _ q th h'
theorem asc_nodup {q : List Nat} (h : q.Pairwise (· < ·)) : q.Nodup := h.imp fun h => Nat.ne_of_lt h
theorem pat_len {sz x : List Nat} {b : Blk} (hg : Good sz b) {q th : List Nat} (h : (q, th) ∈ leaves (root x b) []) : q.length ≤ 3 := by
  have ⟨h1, h2⟩ := leaves_pat (x := x) hg.grown [] q th h
  exact Nat.le_trans (nodup_len (asc_nodup h1) h2) hg.siz.len
theorem r_breach_of (Ds : List D) (Q : D → Prop) (h : p_breach_of Ds Q) : Ds.length = 2 ∧ g_breach_of p_outcomes p_moves_until (endsP Q) (startD ["program", "content", "runs", "pattern", "throws", "other", "other_throws", "wide", "ahead", "share", "order", "c"] Ds) Mem.nil := by
  obtain ⟨sz, x, b, rfl, hg, hx, h⟩ := h
  have h9 := leaves9 (x := x) hg
  refine ⟨rfl, sz, x, b, rfl, hg, hx, fun l hl => ?_⟩
  refine cm_map two l [] (by rw [hl.len]; exact lim_of (show 0 + _ ≤ 9 by omega) (by decide)) (fun d hd R hR => ?_) ?_
  · obtain ⟨q, _, sh, od, rfl, ho⟩ := hl.mem d hd
    refine ⟨rfl, rfl, ?_⟩
    refine ⟨?_, ?_⟩
    · show wipe _ _ = _
      simp [wipe, startD]
    · exact ⟨Nat.le_of_ble_eq_true rfl, hR⟩
  · rw [List.nil_append, all2_two hl]
    have hsome : ∀ q ∈ leaves (root x b) [], Valid (root x b) q.2 ∧ q.1.length ≤ 3 := fun q hq => ⟨valid_of (q := q.1) (th := q.2) hq, pat_len hg (x := x) (q := q.1) (th := q.2) hq⟩
    have hpos := leaves_pos (root x b) [] hg.grown.fair
    have hbr : brT (root x b) = match leaves (root x b) [] with | [] => none | (pat, th) :: r => brOf (root x b) pat th ((pat, th) :: r) := rfl
    generalize hL : leaves (root x b) [] = L at hsome hpos hbr
    match L, hpos with
    | (pat, th) :: r, _ =>
      rw [hbr] at h
      have hth := hsome _ List.mem_cons_self
      refine ⟨_, 0, prs (pat, th), rfl, rfl, atI_nat (j := 0) rfl, rfl, rfl, ?_⟩
      refine for_of (fun ds Γ M => ∃ rem o5 o6 o7 o8 o9 o10 o11, ds = rem.map prs ∧ Γ = [some (prD sz b), some (dis x), some (.lst (((pat, th) :: r).map prs)), some (dis pat), some (dis th), o5, o6, o7, o8, o9, o10, o11] ∧ (∀ q ∈ rem, Valid (root x b) q.2 ∧ q.1.length ≤ 3) ∧ Q (optD (brOf (root x b) pat th rem))) ?_ ?_ _ _ _ ⟨(pat, th) :: r, none, none, none, none, none, none, none, rfl, rfl, hsome, h⟩
      · rintro Γ M ⟨rem, _, _, _, _, _, _, _, hr, rfl, _, h⟩
        cases rem with
        | nil => exact h
        | cons q s => cases hr
      · rintro d ds R _ M hR ⟨rem, o5, o6, o7, o8, o9, o10, o11, hr, rfl, hs, h⟩
        cases rem with
        | nil => cases hr
        | cons q s =>
          injection hr with e1 e2
          subst e1
          subst e2
          obtain ⟨other, oth⟩ := q
          have hoth := hs _ List.mem_cons_self
          refine ⟨rfl, rfl, ?_⟩
          refine cm_filter (fun d => match d with | .int i => !(pat.map di).any fun z => deq z (.int i) | _ => false) id (other.map di) [] ?_ (fun d hd R1 R2 hR1 hR2 => ?_) ?_
          · rw [List.length_map]
            have : other.length ≤ 3 := hoth.2
            exact lim_of (show 0 + _ ≤ 9 by omega) (by decide)
          · obtain ⟨c, hc, rfl⟩ := List.mem_map.mp hd
            refine ⟨rfl, pat.map di, rfl, .inl ⟨rfl, flat_dis pat⟩, ?_⟩
            conv => whnf
            cases e : !(pat.map di).any fun z => deq z (di c) with
            | true => exact hR1 e
            | false => exact hR2 e
          · refine ⟨_, rfl, ?_⟩
            conv => whnf
            rw [List.nil_append, wide_len]
            cases e : other.any fun c => !decide (c ∈ pat) with
            | true =>
              have hb : brOf (root x b) pat th ((other, oth) :: s) = some (mvs (root x b) oth pat ++ .fall :: mvs (root x b) th pat) := by
                show (if other.any (fun c => !decide (c ∈ pat)) then _ else _) = _
                rw [e]
                rfl
              rw [hb] at h
              have l1 := mvs60 hg (x := x) oth pat
              have l2 := mvs60 hg (x := x) th pat
              refine ⟨sz, x, b, oth, pat, rfl, hg, hx, hoth.1, Nat.le_of_ble_eq_true rfl, Nat.le_of_ble_eq_true rfl, ?_, sz, x, b, th, pat, rfl, hg, hx, hth.1, ?_, ?_⟩
              · rw [List.length_map]
                exact lim_of (show _ + 1 ≤ 100 by omega) (by decide)
              · rw [List.length_append, List.length_map, List.length_map]
                exact lim_of (show _ + 1 + _ ≤ 200 by omega) (by decide)
              · have h' : Q (.tup ((mvs (root x b) oth pat ++ .fall :: mvs (root x b) th pat).map mvD)) := h
                rw [List.map_append, List.map_cons, List.append_cons] at h'
                exact h'
            | false =>
              have hb : brOf (root x b) pat th ((other, oth) :: s) = if other = pat then brOf (root x b) pat th s else some (mvs (root x b) th other ++ .fall :: mvs (root x b) oth other) := by
                show (if other.any (fun c => !decide (c ∈ pat)) then _ else _) = _
                rw [e]
                rfl
              rw [hb] at h
              refine ⟨⟨plain_dis 59 other, plain_dis 59 pat⟩, ?_⟩
              conv => whnf
              have hq : deq (und M (dis other)) (und M (dis pat)) = decide (other = pat) := deq_dis other pat
              rw [hq]
              by_cases m : other = pat
              · rw [if_pos m] at h
                rw [decide_eq_true m]
                exact hR _ _ ⟨s, _, _, _, _, _, _, _, rfl, rfl, fun q hq => hs q (List.mem_cons_of_mem _ hq), h⟩
              · rw [if_neg m] at h
                rw [decide_eq_false m]
                have l1 := mvs60 hg (x := x) th other
                have l2 := mvs60 hg (x := x) oth other
                refine ⟨sz, x, b, th, other, rfl, hg, hx, hth.1, Nat.le_of_ble_eq_true rfl, Nat.le_of_ble_eq_true rfl, ?_, sz, x, b, oth, other, rfl, hg, hx, hoth.1, ?_, ?_⟩
                · rw [List.length_map]
                  exact lim_of (show _ + 1 ≤ 100 by omega) (by decide)
                · rw [List.length_append, List.length_map, List.length_map]
                  exact lim_of (show _ + 1 + _ ≤ 200 by omega) (by decide)
                · have h' : Q (.tup ((mvs (root x b) th other ++ .fall :: mvs (root x b) oth other).map mvD)) := h
                  rw [List.map_append, List.map_cons, List.append_cons] at h'
                  exact h'
theorem r_breach (Ds : List D) (Q : D → Prop) (h : p_breach Ds Q) : Ds.length = 2 ∧ g_breach p_check_blind p_raw_contents p_breach_of (endsP Q) (startD ["program", "policy", "content", "moves"] Ds) Mem.nil := by
  obtain ⟨sz, b, pol, rfl, hg, h⟩ := h
  refine ⟨rfl, sz, b, pol, rfl, hg, _, [pol.1, pol.2], rfl, rfl, ?_⟩
  conv => whnf
  cases e : pol.1 || pol.2 with
  | true =>
    have e2 : [pol.1, pol.2].any id = true := by rw [← e]; cases pol.1 <;> cases pol.2 <;> rfl
    rw [e2]
    have hb : brP sz b pol = none := by unfold brP; rw [e]; rfl
    rw [hb] at h
    exact h
  | false =>
    have e2 : [pol.1, pol.2].any id = false := by rw [← e]; cases pol.1 <;> cases pol.2 <;> rfl
    rw [e2]
    have hb : brP sz b pol = brAll b (contents sz) := by unfold brP; rw [e]; rfl
    rw [hb] at h
    refine ⟨_, rfl, sz, rfl, hg.siz, ?_⟩
    refine for_of (fun ds Γ M => ∃ rem o2 o3, ds = rem.map dis ∧ Γ = [some (prD sz b), some (plD pol), o2, o3] ∧ (∀ x ∈ rem, Cont sz x) ∧ Q (brD (brAll b rem))) ?_ ?_ _ _ _ ⟨contents sz, none, none, rfl, rfl, fun x hx => cont_of hg.siz hx, h⟩
    · rintro Γ M ⟨rem, _, _, hr, rfl, _, h⟩
      cases rem with
      | nil => exact h
      | cons q s => cases hr
    · rintro d ds R _ M hR ⟨rem, o2, o3, hr, rfl, hs, h⟩
      cases rem with
      | nil => cases hr
      | cons x s =>
        injection hr with e1 e2
        subst e1
        subst e2
        have hx := hs _ List.mem_cons_self
        refine ⟨sz, x, b, rfl, hg, hx, ?_⟩
        have hb : brAll b (x :: s) = match brT (root x b) with | some ms => some (x, ms) | none => brAll b s := rfl
        rw [hb] at h
        cases e3 : brT (root x b) with
        | none =>
          rw [e3] at h
          exact hR _ _ ⟨s, _, _, rfl, rfl, fun q hq => hs q (List.mem_cons_of_mem _ hq), h⟩
        | some ms =>
          rw [e3] at h
          exact ⟨Nat.le_of_ble_eq_true rfl, h⟩
end G
set_option Elab.async false
set_option linter.all false
set_option maxRecDepth 10000
namespace G
open PySem
/-! the keeper -/
def kfs (P pol : D) (a1 a2 a3 a4 a5 : Addr) (L S : D) : List (Str × D) := [("program", P), ("policy", pol), ("contents_put", .ptr a1), ("columns_seen", .ptr a2), ("patterns_told", .ptr a3), ("sure_lines", .ptr a4), ("loose_lines", .ptr a5), ("live", L), ("sure", S)]
def lv (b : Bool) (st : D) : D := .tup [.bl b, st]
structure KV where
  a1 : Addr
  a2 : Addr
  a3 : Addr
  a4 : Addr
  a5 : Addr
  cp : List D
  cs : List D
  pt : List D
  sl : List D
  ll : List D
  L : D
  S : D
structure KB (P pol : D) (k : Addr) (v : KV) (M : Mem) : Prop where
  k : M k = some (.ins .keeper (kfs P pol v.a1 v.a2 v.a3 v.a4 v.a5 v.L v.S))
  m1 : M v.a1 = some (.lst v.cp)
  m2 : M v.a2 = some (.lst v.cs)
  m3 : M v.a3 = some (.lst v.pt)
  m4 : M v.a4 = some (.lst v.sl)
  m5 : M v.a5 = some (.lst v.ll)
  n12 : v.a1 ≠ v.a2
  n13 : v.a1 ≠ v.a3
  n14 : v.a1 ≠ v.a4
  n15 : v.a1 ≠ v.a5
  n23 : v.a2 ≠ v.a3
  n24 : v.a2 ≠ v.a4
  n25 : v.a2 ≠ v.a5
  n34 : v.a3 ≠ v.a4
  n35 : v.a3 ≠ v.a5
  n45 : v.a4 ≠ v.a5
section
variable {P pol : D} {k : Addr} {v : KV} {M : Mem}
theorem KB.k1 (h : KB P pol k v M) : v.a1 ≠ k := fun e => by have := h.k; rw [← e, h.m1] at this; cases this
theorem KB.k2 (h : KB P pol k v M) : v.a2 ≠ k := fun e => by have := h.k; rw [← e, h.m2] at this; cases this
theorem KB.k3 (h : KB P pol k v M) : v.a3 ≠ k := fun e => by have := h.k; rw [← e, h.m3] at this; cases this
theorem KB.k4 (h : KB P pol k v M) : v.a4 ≠ k := fun e => by have := h.k; rw [← e, h.m4] at this; cases this
theorem KB.k5 (h : KB P pol k v M) : v.a5 ≠ k := fun e => by have := h.k; rw [← e, h.m5] at this; cases this
/-- the lines that are loose, longer or anew -/
theorem KB.setL (h : KB P pol k v M) (L : D) : KB P pol k { v with L := L } (M.set k (.ins .keeper (kfs P pol v.a1 v.a2 v.a3 v.a4 v.a5 L v.S))) :=
  ⟨Mem.same, (Mem.ne h.k1).trans h.m1, (Mem.ne h.k2).trans h.m2, (Mem.ne h.k3).trans h.m3, (Mem.ne h.k4).trans h.m4, (Mem.ne h.k5).trans h.m5, h.n12, h.n13, h.n14, h.n15, h.n23, h.n24, h.n25, h.n34, h.n35, h.n45⟩
theorem KB.setS (h : KB P pol k v M) (S : D) : KB P pol k { v with S := S } (M.set k (.ins .keeper (kfs P pol v.a1 v.a2 v.a3 v.a4 v.a5 v.L S))) :=
  ⟨Mem.same, (Mem.ne h.k1).trans h.m1, (Mem.ne h.k2).trans h.m2, (Mem.ne h.k3).trans h.m3, (Mem.ne h.k4).trans h.m4, (Mem.ne h.k5).trans h.m5, h.n12, h.n13, h.n14, h.n15, h.n23, h.n24, h.n25, h.n34, h.n35, h.n45⟩
theorem KB.set1 (h : KB P pol k v M) (l : List D) : KB P pol k { v with cp := l } (M.set v.a1 (.lst l)) :=
  ⟨(Mem.ne h.k1.symm).trans h.k, Mem.same, (Mem.ne h.n12.symm).trans h.m2, (Mem.ne h.n13.symm).trans h.m3, (Mem.ne h.n14.symm).trans h.m4, (Mem.ne h.n15.symm).trans h.m5, h.n12, h.n13, h.n14, h.n15, h.n23, h.n24, h.n25, h.n34, h.n35, h.n45⟩
theorem KB.set2 (h : KB P pol k v M) (l : List D) : KB P pol k { v with cs := l } (M.set v.a2 (.lst l)) :=
  ⟨(Mem.ne h.k2.symm).trans h.k, (Mem.ne h.n12).trans h.m1, Mem.same, (Mem.ne h.n23.symm).trans h.m3, (Mem.ne h.n24.symm).trans h.m4, (Mem.ne h.n25.symm).trans h.m5, h.n12, h.n13, h.n14, h.n15, h.n23, h.n24, h.n25, h.n34, h.n35, h.n45⟩
theorem KB.set3 (h : KB P pol k v M) (l : List D) : KB P pol k { v with pt := l } (M.set v.a3 (.lst l)) :=
  ⟨(Mem.ne h.k3.symm).trans h.k, (Mem.ne h.n13).trans h.m1, (Mem.ne h.n23).trans h.m2, Mem.same, (Mem.ne h.n34.symm).trans h.m4, (Mem.ne h.n35.symm).trans h.m5, h.n12, h.n13, h.n14, h.n15, h.n23, h.n24, h.n25, h.n34, h.n35, h.n45⟩
theorem KB.set4 (h : KB P pol k v M) (l : List D) : KB P pol k { v with sl := l } (M.set v.a4 (.lst l)) :=
  ⟨(Mem.ne h.k4.symm).trans h.k, (Mem.ne h.n14).trans h.m1, (Mem.ne h.n24).trans h.m2, (Mem.ne h.n34).trans h.m3, Mem.same, (Mem.ne h.n45.symm).trans h.m5, h.n12, h.n13, h.n14, h.n15, h.n23, h.n24, h.n25, h.n34, h.n35, h.n45⟩
theorem KB.set5 (h : KB P pol k v M) (l : List D) : KB P pol k { v with ll := l } (M.set v.a5 (.lst l)) :=
  ⟨(Mem.ne h.k5.symm).trans h.k, (Mem.ne h.n15).trans h.m1, (Mem.ne h.n25).trans h.m2, (Mem.ne h.n35).trans h.m3, (Mem.ne h.n45).trans h.m4, Mem.same, h.n12, h.n13, h.n14, h.n15, h.n23, h.n24, h.n25, h.n34, h.n35, h.n45⟩
/-- a new list of loose lines -/
theorem KB.new5 (h : KB P pol k v M) {p : Addr} (hp : M p = none) : KB P pol k { v with a5 := p, ll := [] } ((M.set p (.lst [])).set k (.ins .keeper (kfs P pol v.a1 v.a2 v.a3 v.a4 p v.L v.S))) := by
  have a {q : Addr} {o : MO} (h : M q = some o) : q ≠ p := Mem.apart h hp
  exact ⟨Mem.same, (Mem.ne h.k1).trans ((Mem.ne (a h.m1)).trans h.m1), (Mem.ne h.k2).trans ((Mem.ne (a h.m2)).trans h.m2), (Mem.ne h.k3).trans ((Mem.ne (a h.m3)).trans h.m3), (Mem.ne h.k4).trans ((Mem.ne (a h.m4)).trans h.m4), (Mem.ne (a h.k).symm).trans Mem.same, h.n12, h.n13, h.n14, a h.m1, h.n23, h.n24, a h.m2, h.n34, a h.m3, a h.m4⟩
end
/-! the methods' promises -/
def KV.n (v : KV) : Nat := v.sl.length + v.ll.length
def q_Keeper_next_row : DSp := fun Ds M P => ∃ k fs sz x b, Ds = [.ptr k] ∧ Good sz b ∧ M k = some (.ins .keeper fs) ∧ fs.lookup ("program" : Str) = some (prD sz b) ∧ fs.length < 100 ∧ ∀ st, St sz x (root x b) st → P .non (M.set k (.ins .keeper (putF "sure" (lv false st) (putF "live" (lv false st) fs))))
def q_Keeper_init : DSp := fun Ds M P => ∃ k sz x b pol, Ds = [.ptr k, prD sz b, plD pol] ∧ Good sz b ∧ M k = some (.ins .keeper []) ∧ ∀ v M' st, St sz x (root x b) st → KB (prD sz b) (plD pol) k v M' → v.cp = [] → v.cs = [] → v.pt = [] → v.n = 0 → v.L = lv false st → v.S = lv false st → P .non M'
def q_Keeper_row_now : DSp := fun Ds M P => ∃ k p pol v, Ds = [.ptr k] ∧ KB p pol k v M ∧ P (di v.pt.length) M
def q_Keeper_put : DSp := fun Ds M P => ∃ k sz b pol v d, Ds = [.ptr k, d] ∧ KB (prD sz b) pol k v M ∧ clean d = true ∧ Good sz b ∧ isContent sz d = true ∧ v.cp = [] ∧ v.cs = [] ∧ ∀ M', KB (prD sz b) pol k { v with cp := [d], cs := [.tup []] } M' → P (.int 0) M'
def q_Keeper_due : DSp := fun Ds M P => ∃ k p pol v lb fs d, Ds = [.ptr k] ∧ KB p pol k v M ∧ v.L = .tup [lb, .obj .state fs] ∧ fs.lookup ("deed" : Str) = some d ∧ (if v.pt.length = v.cp.length then P .non M else P d M)
def q_Keeper_begin_row : DSp := fun Ds M P => ∃ k p pol v lb st, Ds = [.ptr k] ∧ KB p pol k v M ∧ v.L = lv lb st ∧ v.n ≤ 5000 ∧ ∀ M' ll, KB p pol k { v with ll := ll, L := lv true st } M' → v.sl.length + ll.length ≤ v.n + 1 → P .non M'
def q_Keeper_make_sure : DSp := fun Ds M P => ∃ k p pol v, Ds = [.ptr k] ∧ KB p pol k v M ∧ v.n ≤ 5000 ∧ ∀ M' a5, KB p pol k { v with a5 := a5, sl := v.sl ++ v.ll, ll := [], S := v.L } M' → P .non M'
theorem lookup_putF (f : Str) (v : D) (fs : List (Str × D)) : (putF f v fs).lookup f = some v := by
  induction fs with
  | nil => show (match f == f with | true => some v | false => none) = _; rw [beq_self_eq_true]
  | cons a r ih =>
    obtain ⟨g, x⟩ := a
    show List.lookup f (if g = f then (g, v) :: r else (g, x) :: putF f v r) = _
    by_cases e : g = f
    · rw [if_pos e, List.lookup_cons, e, beq_self_eq_true]
    · rw [if_neg e, List.lookup_cons, beq_false_of_ne (Ne.symm e)]
      exact ih
theorem putF_len (f : Str) (v : D) (fs : List (Str × D)) : (putF f v fs).length ≤ fs.length + 1 := by
  induction fs with
  | nil => exact Nat.le_refl _
  | cons a r ih =>
    obtain ⟨g, x⟩ := a
    show (if g = f then (g, v) :: r else (g, x) :: putF f v r).length ≤ _
    by_cases e : g = f
    · rw [if_pos e, List.length_cons, List.length_cons]; omega
    · rw [if_neg e, List.length_cons, List.length_cons]; omega
theorem r_Keeper_next_row (Ds : List D) (M : Mem) (Q : D → Mem → Prop) (h : q_Keeper_next_row Ds M Q) : Ds.length = 1 ∧ g_Keeper_next_row p_begin (endsD Q) (startD ["self"] Ds) M := by
  obtain ⟨k, fs, sz, x, b, rfl, hg, hk, hl, hn, h⟩ := h
  refine ⟨rfl, _, _, _, hk, hl, sz, x, b, rfl, hg, fun st hst => ⟨Nat.le_of_ble_eq_true rfl, k, _, _, rfl, hk, by omega, _, _, _, Mem.same, lookup_putF _ _ _, k, _, _, rfl, Mem.same, ?_, _, ?_, h st hst⟩⟩
  · have := putF_len "live" (lv false st) fs
    exact Nat.lt_of_le_of_lt this (by omega)
  · rw [Mem.set_set]
    exact Mem.le_refl _
theorem r_Keeper_row_now (Ds : List D) (M : Mem) (Q : D → Mem → Prop) (h : q_Keeper_row_now Ds M Q) : Ds.length = 1 ∧ g_Keeper_row_now (endsD Q) (startD ["self"] Ds) M := by
  obtain ⟨k, p, pol, v, rfl, hv, h⟩ := h
  exact ⟨rfl, _, _, _, hv.k, rfl, v.pt, itM hv.m3, M, Mem.le_refl _, h⟩
theorem r_Keeper_due (Ds : List D) (M : Mem) (Q : D → Mem → Prop) (h : q_Keeper_due Ds M Q) : Ds.length = 1 ∧ g_Keeper_due q_Keeper_row_now (endsD Q) (startD ["self"] Ds) M := by
  obtain ⟨k, p, pol, v, lb, fs, d, rfl, hv, hL, hd, h⟩ := h
  refine ⟨rfl, k, _, rfl, hv.k, rfl, k, p, pol, v, rfl, hv, _, _, _, hv.k, rfl, v.cp, itM hv.m1, ?_⟩
  conv => whnf
  by_cases e : v.pt.length = v.cp.length
  · rw [if_pos e] at h
    rw [decide_eq_true (by omega)]
    exact ⟨M, Mem.le_refl _, h⟩
  · rw [if_neg e] at h
    rw [decide_eq_false (by omega)]
    have hk := hv.k
    rw [hL] at hk
    exact ⟨_, _, _, hk, rfl, _, _, _, rfl, rfl, rfl, d, hd, M, Mem.le_refl _, h⟩
theorem r_Keeper_begin_row (Ds : List D) (M : Mem) (Q : D → Mem → Prop) (h : q_Keeper_begin_row Ds M Q) : Ds.length = 1 ∧ g_Keeper_begin_row q_Keeper_row_now (endsD Q) (startD ["self"] Ds) M := by
  obtain ⟨k, p, pol, v, lb, st, rfl, hv, hL, hn, h⟩ := h
  have hk := hv.k
  rw [hL] at hk
  refine ⟨rfl, _, _, _, hk, rfl, _, _, _, rfl, rfl, rfl, ?_⟩
  cases lb with
  | true =>
    refine ⟨M, Mem.le_refl _, h M v.ll ?_ (Nat.le_succ _)⟩
    have := hv
    rw [show v = { v with ll := v.ll, L := lv true st } by rw [← hL]] at this
    exact this
  | false =>
    have h5 := hv.set5 (v.ll ++ [.tup [.str "row", di v.pt.length]])
    have hk5 := h5.k
    rw [show ({ v with ll := v.ll ++ [.tup [.str "row", di v.pt.length]] } : KV).L = lv false st from hL] at hk5
    refine ⟨_, _, _, hk, rfl, _, _, rfl, hv.m5, k, _, rfl, hk, rfl, k, p, pol, v, rfl, hv, Nat.le_of_ble_eq_true rfl, _, hv.m5, ?_, _, _, _, hk5, rfl, _, _, _, rfl, rfl, rfl, Nat.le_of_ble_eq_true rfl, k, _, _, rfl, hk5, Nat.le_of_ble_eq_true rfl, _, Mem.le_refl _, h _ _ (h5.setL (lv true st)) ?_⟩
    · have : v.sl.length + v.ll.length ≤ 5000 := hn
      unfold lim
      omega
    · show _ ≤ v.sl.length + v.ll.length + 1
      rw [List.length_append, List.length_singleton]
      omega
theorem r_Keeper_make_sure (Ds : List D) (M : Mem) (Q : D → Mem → Prop) (h : q_Keeper_make_sure Ds M Q) : Ds.length = 1 ∧ g_Keeper_make_sure (endsD Q) (startD ["self"] Ds) M := by
  obtain ⟨k, p, pol, v, rfl, hv, hn, h⟩ := h
  have h4 := hv.set4 (v.sl ++ v.ll)
  refine ⟨rfl, _, _, _, hv.k, rfl, _, _, rfl, hv.m4, _, _, _, hv.k, rfl, _, _, hv.m4, itM hv.m5, ?_, Nat.le_of_ble_eq_true rfl, fun q hq => ?_⟩
  · have : v.sl.length + v.ll.length ≤ 5000 := hn
    unfold lim
    omega
  · have h5 := h4.new5 hq
    have h6 := h5.setS v.L
    rw [Mem.set_set] at h6
    have hkq : k ≠ q := Mem.apart h4.k hq
    refine ⟨k, _, _, rfl, (Mem.ne hkq).trans h4.k, Nat.le_of_ble_eq_true rfl, _, _, _, Mem.same, rfl, k, _, _, rfl, Mem.same, Nat.le_of_ble_eq_true rfl, _, ?_, h _ q h6⟩
    rw [Mem.set_set]
    exact Mem.le_refl _
end G
set_option Elab.async false
set_option linter.all false
set_option maxRecDepth 10000
namespace G
open PySem
def shownD : Option (List Nat) → List D
  | none => []
  | some p => [dis p]
structure KI (sz x : List Nat) (s : KS) (n : Nat) (v : KV) : Prop where
  cp : v.cp = [dis x]
  cs : ∃ lk, v.cs = [dis lk] ∧ lk.Nodup ∧ (∀ c ∈ lk, c < sz.length) ∧ ∀ c, c ∈ lk ↔ c ∈ s.looked
  pt : v.pt = shownD s.shown
  L : ∃ lb d, v.L = lv lb d ∧ St sz x s.cur d
  S : ∃ lb d, v.S = lv lb d ∧ St sz x s.sure d
  n : v.n ≤ n
/-- a keeper of one row stands so -/
def KM (sz x : List Nat) (b : Blk) (pol : Bool × Bool) (k : Addr) (s : KS) (n : Nat) (M : Mem) : Prop := ∃ v, KB (prD sz b) (plD pol) k v M ∧ KI sz x s n v
def q_Keeper_throw : DSp := fun Ds M P => ∃ k sz x b pol s n w m kk, Ds = [.ptr k, di w] ∧ Good sz b ∧ KM sz x b pol k s n M ∧ n ≤ 4000 ∧ s.shown = none ∧ s.cur = .thr m kk ∧ w < m ∧ ∀ M', KM sz x b pol k { s with cur := kk w, sure := if pol.1 then kk w else s.sure } (n + 2) M' → P .non M'
def q_Keeper_open_column : DSp := fun Ds M P => ∃ k sz x b pol s n c t, Ds = [.ptr k, di c] ∧ Good sz b ∧ Cont sz x ∧ KM sz x b pol k s n M ∧ n ≤ 4000 ∧ s.shown = none ∧ s.cur = .opn c t ∧ ∀ M', KM sz x b pol k { s with cur := t, sure := if pol.2 then s.cur else s.sure, looked := ins s.looked c } (n + 2) M' → P .non M'
def q_Keeper_show_pattern : DSp := fun Ds M P => ∃ k sz x b pol s n p, Ds = [.ptr k, dis p] ∧ Good sz b ∧ KM sz x b pol k s n M ∧ n ≤ 4000 ∧ s.shown = none ∧ s.cur = .show p ∧ ∀ M', KM sz x b pol k { s with cur := root x b, sure := root x b, shown := some p } (n + 2) M' → P .non M'
def q_Keeper_go : DSp := fun Ds M P => ∃ k sz x b pol s n s', Ds = [.ptr k] ∧ Good sz b ∧ Cont sz x ∧ KM sz x b pol k s n M ∧ n ≤ 4000 ∧ kstep pol (root x b) s .go = some s' ∧ ∀ M', KM sz x b pol k s' (n + 2) M' → P .non M'
def q_Keeper_fall : DSp := fun Ds M P => ∃ k sz x b pol s n, Ds = [.ptr k] ∧ KM sz x b pol k s n M ∧ ∀ M', KM sz x b pol k { s with cur := s.sure } (n + 2) M' → P .non M'
def q_Keeper_peeked : DSp := fun Ds M P => ∃ k sz x b pol s n, Ds = [.ptr k] ∧ sz.length ≤ 10 ∧ KM sz x b pol k s n M ∧ ∀ M' m, decide ((0 : Int) < m) = s.bad → P (.int m) M'
theorem r_Keeper_fall (Ds : List D) (M : Mem) (Q : D → Mem → Prop) (h : q_Keeper_fall Ds M Q) : Ds.length = 1 ∧ g_Keeper_fall (endsD Q) (startD ["self"] Ds) M := by
  obtain ⟨k, sz, x, b, pol, s, n, rfl, ⟨v, hv, hi⟩, h⟩ := h
  refine ⟨rfl, Nat.le_of_ble_eq_true rfl, fun q hq => ?_⟩
  have h5 := hv.new5 hq
  have h6 := h5.setL v.S
  rw [Mem.set_set] at h6
  refine ⟨k, _, _, rfl, (Mem.ne (Mem.apart hv.k hq)).trans hv.k, Nat.le_of_ble_eq_true rfl, _, _, _, Mem.same, rfl, k, _, _, rfl, Mem.same, Nat.le_of_ble_eq_true rfl, _, ?_, h _ ⟨_, h6, ⟨hi.cp, hi.cs, hi.pt, hi.S, hi.S, ?_⟩⟩⟩
  · rw [Mem.set_set]
    exact Mem.le_refl _
  · have := hi.n
    have h2 : v.sl.length + v.ll.length ≤ n := this
    show v.sl.length + 0 ≤ n + 2
    omega
theorem r_Keeper_throw (Ds : List D) (M : Mem) (Q : D → Mem → Prop) (h : q_Keeper_throw Ds M Q) : Ds.length = 2 ∧ g_Keeper_throw q_Keeper_due p_is_within q_Keeper_begin_row p_after_throw q_Keeper_make_sure (endsD Q) (startD ["self", "value", "deed"] Ds) M := by
  obtain ⟨k, sz, x, b, pol, s, n, w, m, kk, rfl, hg, ⟨v, hv, hi⟩, hn, hsh, hcur, hw, h⟩ := h
  obtain ⟨lb, live, hL, hst⟩ := hi.L
  rw [hcur] at hst
  obtain ⟨p, r, hp, hpc, hkk, rfl⟩ := St_thr hst
  have hpt : ¬ v.pt.length = v.cp.length := by rw [hi.pt, hi.cp, hsh]; exact Nat.ne_of_lt Nat.zero_lt_one
  have hvn : v.sl.length + v.ll.length ≤ n := hi.n
  refine ⟨rfl, k, _, rfl, hv.k, rfl, k, _, _, v, _, _, _, rfl, hv, hL, rfl, ?_⟩
  rw [if_neg hpt]
  refine ⟨_, _, _, rfl, rfl, rfl, _, _, _, rfl, rfl, rfl, _, _, _, rfl, rfl, ?_⟩
  have hin : isWithin (di w) 0 ((m : Int) - 1) = true := by
    show (decide ((0 : Int) ≤ (w : Int)) && decide ((w : Int) ≤ (m : Int) - 1)) = true
    rw [decide_eq_true (by omega), decide_eq_true (by omega)]; rfl
  rw [hin]
  refine ⟨k, _, rfl, hv.k, rfl, k, _, _, v, _, _, rfl, hv, hL, by show _ + _ ≤ _; omega, fun M1 ll h1 hl => ?_⟩
  have hl' : v.sl.length + ll.length ≤ n + 1 := Nat.le_trans hl (by show v.sl.length + v.ll.length + 1 ≤ _; omega)
  have h2 := h1.set5 (ll ++ [.tup [.str "throw", di w]])
  refine ⟨_, _, _, h1.k, rfl, _, _, rfl, h1.m5, Nat.le_of_ble_eq_true rfl, _, h1.m5, ?_, _, _, _, h2.k, rfl, _, _, _, rfl, rfl, rfl, sz, x, _, m, kk, w, rfl, hst, fun st2 hst2 => ⟨Nat.le_of_ble_eq_true rfl, k, _, _, rfl, h2.k, Nat.le_of_ble_eq_true rfl, ?_⟩⟩
  · show ll.length < lim
    unfold lim
    omega
  · have h3 := h2.setL (lv true st2)
    have hlen : (ll ++ [D.tup [.str "throw", di w]]).length = ll.length + 1 := by rw [List.length_append, List.length_singleton]
    refine ⟨_, _, _, h3.k, rfl, _, _, _, rfl, rfl, rfl, ?_⟩
    obtain ⟨p1, p2⟩ := pol
    cases p1 with
    | true =>
      refine ⟨k, _, rfl, h3.k, rfl, k, _, _, _, rfl, h3, ?_, fun M4 a5 h4 => ⟨M4, Mem.le_refl _, h M4 ⟨_, h4, hi.cp, hi.cs, hi.pt, ⟨true, st2, rfl, hst2⟩, ⟨true, st2, rfl, hst2⟩, ?_⟩⟩⟩
      · show v.sl.length + (ll ++ [D.tup [.str "throw", di w]]).length ≤ 5000
        omega
      · show (v.sl ++ (ll ++ [D.tup [.str "throw", di w]])).length + 0 ≤ n + 2
        rw [List.length_append]
        omega
    | false =>
      refine ⟨_, Mem.le_refl _, h _ ⟨_, h3, hi.cp, hi.cs, hi.pt, ⟨true, st2, rfl, hst2⟩, hi.S, ?_⟩⟩
      show v.sl.length + (ll ++ [D.tup [.str "throw", di w]]).length ≤ n + 2
      omega
theorem r_Keeper_show_pattern (Ds : List D) (M : Mem) (Q : D → Mem → Prop) (h : q_Keeper_show_pattern Ds M Q) : Ds.length = 2 ∧ g_Keeper_show_pattern q_Keeper_begin_row q_Keeper_make_sure q_Keeper_next_row (endsD Q) (startD ["self", "pattern"] Ds) M := by
  obtain ⟨k, sz, x, b, pol, s, n, q, rfl, hg, ⟨v, hv, hi⟩, hn, hsh, hcur, h⟩ := h
  obtain ⟨lb, live, hL, hst⟩ := hi.L
  have hvn : v.sl.length + v.ll.length ≤ n := hi.n
  refine ⟨rfl, k, _, rfl, hv.k, rfl, k, _, _, v, _, _, rfl, hv, hL, by show _ + _ ≤ _; omega, fun M1 ll h1 hl => ?_⟩
  have hl' : v.sl.length + ll.length ≤ n + 1 := Nat.le_trans hl (by show v.sl.length + v.ll.length + 1 ≤ _; omega)
  have h2 := h1.set5 (ll ++ [.tup [.str "show", dis q]])
  have hlen : (ll ++ [D.tup [.str "show", dis q]]).length = ll.length + 1 := by rw [List.length_append, List.length_singleton]
  have hpt : v.pt = [] := by rw [hi.pt, hsh]; rfl
  refine ⟨_, _, _, h1.k, rfl, _, _, rfl, h1.m5, Nat.le_of_ble_eq_true rfl, _, h1.m5, ?_, k, _, rfl, h2.k, rfl, k, _, _, _, rfl, h2, ?_, fun M3 a5 h3 => ⟨_, _, _, h3.k, rfl, _, _, rfl, h3.m3, _, h3.m3, ?_, ?_⟩⟩
  · show ll.length < lim
    unfold lim
    omega
  · show v.sl.length + (ll ++ [D.tup [.str "show", dis q]]).length ≤ 5000
    omega
  · show v.pt.length < lim
    rw [hpt]
    exact Nat.le_of_ble_eq_true rfl
  · have h4 := h3.set3 (v.pt ++ [dis q])
    refine ⟨k, _, rfl, h4.k, rfl, k, _, sz, x, b, rfl, hg, h4.k, rfl, Nat.le_of_ble_eq_true rfl, fun st hst2 => ⟨_, ?_, h _ ⟨_, (h4.setL (lv false st)).setS (lv false st), hi.cp, hi.cs, ?_, ⟨false, st, rfl, hst2⟩, ⟨false, st, rfl, hst2⟩, ?_⟩⟩⟩
    · rw [Mem.set_set]
      exact Mem.le_refl _
    · show v.pt ++ [dis q] = [dis q]
      rw [hpt]
      rfl
    · show (v.sl ++ (ll ++ [D.tup [.str "show", dis q]])).length + 0 ≤ n + 2
      rw [List.length_append]
      omega
def g_oc2 (q_Keeper_begin_row : DSp) (q_Keeper_row_now : DSp) (p_after_open : PSp) : DS := (sSeq (sDrop (gMeth .keeper "begin_row" q_Keeper_begin_row (gVar 0) gNil)) (sSeq (sAsg (gMeth .keeper "row_now" q_Keeper_row_now (gVar 0) gNil) (aName 2)) (sSeq (sAsg (gOp dIx (gOp dIx (gFld (gVar 0) "contents_put") (gVar 2)) (gVar 1)) (aName 3)) (sSeq (sDrop (gAppend (gFld (gVar 0) "loose_lines") (gTup (gCons (gC (.str "open")) (gCons (gVar 1) (gCons (gVar 3) gNil)))))) (sSeq (sIf (tE (gOp dNotIn (gVar 1) (gOp dIx (gFld (gVar 0) "columns_seen") (gVar 2)))) (sIx (gFld (gVar 0) "columns_seen") (gVar 2) (gB dTupleOf (gB dSorted (gOp dAdd (gOp dIx (gFld (gVar 0) "columns_seen") (gVar 2)) (gTup (gCons (gVar 1) gNil)))))) sNext) (sFld (gVar 0) (gTup (gCons (gC (.bl true)) (gCons (gPure p_after_open (gCons (gOp dIx (gFld (gVar 0) "live") (gC (.int 1))) (gCons (gVar 3) gNil))) gNil))) "live"))))))
theorem ints_dis (l : List Nat) : intsOf (l.map di) = some (l.map fun (c : Nat) => (c : Int)) := by
  induction l with
  | nil => rfl
  | cons a r ih =>
    show (intsOf (r.map di)).map ((a : Int) :: ·) = _
    rw [ih]
    rfl
theorem perm_nat {ns : List Int} {l : List Nat} (h : ns.Perm (l.map fun (c : Nat) => (c : Int))) : ∃ l' : List Nat, l'.Perm l ∧ ns = l'.map fun (c : Nat) => (c : Int) := by
  refine ⟨ns.map Int.toNat, ?_, ?_⟩
  · have := h.map Int.toNat
    rw [List.map_map] at this
    have e : (Int.toNat ∘ fun (c : Nat) => (c : Int)) = id := by funext c; exact Int.toNat_natCast c
    rw [e, List.map_id] at this
    exact this
  · rw [List.map_map]
    have : ns.map id = ns.map ((fun (c : Nat) => (c : Int)) ∘ Int.toNat) := by
      apply List.map_congr_left
      intro i hi
      obtain ⟨c, _, rfl⟩ := List.mem_map.mp (h.mem_iff.mp hi)
      show (c : Int) = (((c : Int)).toNat : Int)
      rw [Int.toNat_natCast]
    rw [List.map_id] at this
    exact this
theorem mem_ins_iff {op : List Nat} {c d : Nat} : d ∈ ins op c ↔ d ∈ op ∨ d = c := by
  by_cases m : c ∈ op
  · rw [ins_old m]
    constructor
    · exact .inl
    · rintro (h | rfl)
      · exact h
      · exact m
  · rw [ins_new m, List.mem_append, List.mem_singleton]
theorem r_Keeper_open_column (Ds : List D) (M : Mem) (Q : D → Mem → Prop) (h : q_Keeper_open_column Ds M Q) : Ds.length = 2 ∧ g_Keeper_open_column q_Keeper_make_sure q_Keeper_begin_row q_Keeper_row_now p_after_open (endsD Q) (startD ["self", "c", "row", "worth"] Ds) M := by
  obtain ⟨k, sz, x, b, pol, s, n, c, t, rfl, hg, hx, ⟨v, hv, hi⟩, hn, hsh, hcur, h⟩ := h
  have hsz := hg.siz.len
  have tail : ∀ v M s0, KB (prD sz b) (plD pol) k v M → KI sz x s0 n v → s0.shown = none → s0.cur = .opn c t → (∀ M', KM sz x b pol k { s0 with cur := t, looked := ins s0.looked c } (n + 2) M' → Q .non M') → g_oc2 q_Keeper_begin_row q_Keeper_row_now p_after_open (endsD Q) [some (.ptr k), some (di c), none, none] M := by
    intro v M s hv hi hsh hcur h
    obtain ⟨lb, live, hL, hst⟩ := hi.L
    rw [hcur] at hst
    obtain ⟨p, hp, hcn, hcl, _, _, hlive⟩ := St_opn hst
    have hvn : v.sl.length + v.ll.length ≤ n := hi.n
    have hpt : v.pt = [] := by rw [hi.pt, hsh]; rfl
    obtain ⟨lk, hcs, hnd, hlt, hmem⟩ := hi.cs
    have hlk : lk.length ≤ sz.length := nodup_len hnd hlt
    refine ⟨k, _, rfl, hv.k, rfl, k, _, _, v, _, _, rfl, hv, hL, by show _ + _ ≤ _; omega, fun M1 ll h1 hl => ?_⟩
    have hl' : v.sl.length + ll.length ≤ n + 1 := Nat.le_trans hl (by show v.sl.length + v.ll.length + 1 ≤ _; omega)
    have h2 := h1.set5 (ll ++ [.tup [.str "open", di c, di (x.getD c 0)]])
    have hlen : (ll ++ [D.tup [.str "open", di c, di (x.getD c 0)]]).length = ll.length + 1 := by rw [List.length_append, List.length_singleton]
    refine ⟨k, _, rfl, h1.k, rfl, k, _, _, _, rfl, h1, _, _, _, h1.k, rfl, _, _, dis x, itM h1.m1, rfl, ?_, _, _, _, rfl, rfl, dis_atD (by rw [hx.1]; exact hcl), _, _, _, h1.k, rfl, _, _, rfl, h1.m5, Nat.le_of_ble_eq_true rfl, _, h1.m5, ?_, _, _, _, h2.k, rfl, _, _, dis lk, itM h2.m2, rfl, ?_, lk.map di, rfl, .inl ⟨rfl, flat_dis lk⟩, ?_⟩
    · show atI v.cp (v.pt.length : Int) = _
      rw [hi.cp, hpt]
      rfl
    · show ll.length < lim
      unfold lim
      omega
    · show atI v.cs (v.pt.length : Int) = _
      rw [hcs, hpt]
      rfl
    · have e := any_dis lk c
      conv => whnf
      rw [e]
      by_cases m : c ∈ lk
      · rw [decide_eq_true m]
        refine ⟨_, _, _, h2.k, rfl, _, _, live, rfl, rfl, rfl, sz, x, _, c, t, rfl, hst, fun st2 hst2 => ⟨Nat.le_of_ble_eq_true rfl, k, _, _, rfl, h2.k, Nat.le_of_ble_eq_true rfl, _, Mem.le_refl _, ?_⟩⟩
        refine h _ ⟨_, h2.setL (lv true st2), hi.cp, ⟨lk, hcs, hnd, hlt, fun d => ?_⟩, hi.pt, ⟨true, st2, rfl, hst2⟩, hi.S, ?_⟩
        · rw [hmem]
          show _ ↔ d ∈ ins s.looked c
          rw [mem_ins_iff]
          constructor
          · exact .inl
          · rintro (h | rfl)
            · exact h
            · exact (hmem d).mp m
        · show v.sl.length + (ll ++ [D.tup [.str "open", di c, di (x.getD c 0)]]).length ≤ n + 2
          omega
      · rw [decide_eq_false m]
        refine ⟨_, _, _, h2.k, rfl, _, _, dis lk, itM h2.m2, rfl, ?_, Nat.le_of_ble_eq_true rfl, ?_, _, (lk ++ [c]).map fun (c : Nat) => (c : Int), rfl, ?_, ?_, fun ns' hp hs => ⟨_, rfl, _, _, _, h2.k, rfl, _, _, _, 0, rfl, rfl, h2.m2, ?_, ?_⟩⟩
        · show atI v.cs (v.pt.length : Int) = _
          rw [hcs, hpt]
          rfl
        · rw [List.length_map]
          exact lim_of (show lk.length + 1 ≤ 10 by omega) (by decide)
        · have := ints_dis (lk ++ [c])
          rw [List.map_append] at this
          exact this
        · rw [List.length_map, List.length_append, List.length_singleton]
          omega
        · show ixN v.cs.length (v.pt.length : Int) = _
          rw [hcs, hpt]
          rfl
        · obtain ⟨lk', hlk', rfl⟩ := perm_nat hp
          have h3 := h2.set2 (v.cs.set 0 (.tup ((lk'.map fun (c : Nat) => (c : Int)).map D.int)))
          refine ⟨_, _, _, h3.k, rfl, _, _, live, rfl, rfl, rfl, sz, x, _, c, t, rfl, hst, fun st2 hst2 => ⟨Nat.le_of_ble_eq_true rfl, k, _, _, rfl, h3.k, Nat.le_of_ble_eq_true rfl, _, Mem.le_refl _, ?_⟩⟩
          refine h _ ⟨_, h3.setL (lv true st2), hi.cp, ⟨lk', ?_, hlk'.nodup_iff.mpr (nodup_snoc hnd m), fun d hd => ?_, fun d => ?_⟩, hi.pt, ⟨true, st2, rfl, hst2⟩, hi.S, ?_⟩
          · show v.cs.set 0 _ = _
            rw [hcs, List.map_map]
            rfl
          · rcases List.mem_append.mp (hlk'.mem_iff.mp hd) with h | h
            · exact hlt d h
            · rcases List.mem_singleton.mp h with rfl
              exact hcl
          · show _ ↔ d ∈ ins s.looked c
            rw [hlk'.mem_iff, mem_ins_iff, List.mem_append, List.mem_singleton, hmem]
          · show v.sl.length + (ll ++ [D.tup [.str "open", di c, di (x.getD c 0)]]).length ≤ n + 2
            omega
  refine ⟨rfl, _, _, _, hv.k, rfl, _, _, _, rfl, rfl, rfl, ?_⟩
  obtain ⟨p1, p2⟩ := pol
  have hvn : v.sl.length + v.ll.length ≤ n := hi.n
  cases p2 with
  | true =>
    refine ⟨k, _, rfl, hv.k, rfl, k, _, _, v, rfl, hv, by show _ + _ ≤ _; omega, fun M1 a5 h1 => ?_⟩
    refine tail _ M1 { s with sure := s.cur } h1 ⟨hi.cp, hi.cs, hi.pt, hi.L, hi.L, ?_⟩ hsh hcur h
    show (v.sl ++ v.ll).length + 0 ≤ n
    rw [List.length_append]
    exact hvn
  | false => exact tail v M s hv hi hsh hcur h
theorem r_Keeper_go (Ds : List D) (M : Mem) (Q : D → Mem → Prop) (h : q_Keeper_go Ds M Q) : Ds.length = 1 ∧ g_Keeper_go q_Keeper_due q_Keeper_open_column q_Keeper_show_pattern (endsD Q) (startD ["self", "deed"] Ds) M := by
  obtain ⟨k, sz, x, b, pol, s, n, s', rfl, hg, hx, hkm, hn, hs, h⟩ := h
  obtain ⟨v, hv, hi⟩ := id hkm
  obtain ⟨cur, sure, shown, looked⟩ := s
  cases shown with
  | some p => cases hs
  | none =>
    have hpt : ¬ v.pt.length = v.cp.length := by rw [hi.pt, hi.cp]; exact Nat.ne_of_lt Nat.zero_lt_one
    obtain ⟨lb, live, hL, hst⟩ := hi.L
    cases cur with
    | thr m kk => cases hs
    | «show» q =>
      injection hs with hs
      subst hs
      obtain ⟨p, hp, _, _, hlive⟩ := St_show hst
      subst hlive
      refine ⟨rfl, k, _, rfl, hv.k, rfl, k, _, _, v, _, _, _, rfl, hv, hL, rfl, ?_⟩
      rw [if_neg hpt]
      exact ⟨_, _, _, rfl, rfl, rfl, _, _, _, rfl, rfl, rfl, k, _, rfl, hv.k, rfl, _, _, _, rfl, rfl, rfl, k, sz, x, b, pol, _, n, q, rfl, hg, hkm, hn, rfl, rfl, fun M' hM' => ⟨M', Mem.le_refl _, h M' hM'⟩⟩
    | opn c t =>
      injection hs with hs
      subst hs
      obtain ⟨p, hp, _, _, _, _, hlive⟩ := St_opn hst
      subst hlive
      refine ⟨rfl, k, _, rfl, hv.k, rfl, k, _, _, v, _, _, _, rfl, hv, hL, rfl, ?_⟩
      rw [if_neg hpt]
      exact ⟨_, _, _, rfl, rfl, rfl, _, _, _, rfl, rfl, rfl, k, _, rfl, hv.k, rfl, _, _, _, rfl, rfl, rfl, k, sz, x, b, pol, _, n, c, t, rfl, hg, hx, hkm, hn, rfl, rfl, fun M' hM' => ⟨M', Mem.le_refl _, h M' hM'⟩⟩
theorem r_Keeper_put (Ds : List D) (M : Mem) (Q : D → Mem → Prop) (h : q_Keeper_put Ds M Q) : Ds.length = 2 ∧ g_Keeper_put p_check_content (endsD Q) (startD ["self", "content"] Ds) M := by
  obtain ⟨k, sz, b, pol, v, d, rfl, hv, hd, hg, hc, h1, h2, h⟩ := h
  have h3 := hv.set1 (v.cp ++ [d])
  have h4 := h3.set2 (v.cs ++ [.tup []])
  refine ⟨rfl, _, _, _, hv.k, rfl, _, rfl, sz, d, rfl, hd, Nat.le_trans hg.siz.len (by decide), hc, _, _, _, hv.k, rfl, _, _, rfl, hv.m1, _, hv.m1, ?_, _, _, _, h3.k, rfl, _, _, rfl, h3.m2, Nat.le_of_ble_eq_true rfl, _, h3.m2, ?_, _, _, _, h4.k, rfl, _, itM h4.m1, _, Mem.le_refl _, ?_⟩
  · rw [h1]; exact Nat.le_of_ble_eq_true rfl
  · show v.cs.length < lim
    rw [h2]; exact Nat.le_of_ble_eq_true rfl
  · have e1 : v.cp ++ [d] = [d] := by rw [h1]; rfl
    have e2 : v.cs ++ [.tup []] = [.tup []] := by rw [h2]; rfl
    have := h _ (by rw [← e1, ← e2]; exact h4)
    have e3 : ((v.cp ++ [d]).length : Int) - 1 = 0 := by rw [e1]; rfl
    show Q (.int (((v.cp ++ [d]).length : Int) - 1)) _
    rw [e3]
    exact this
theorem new_field {f : Str} {E : DEnds} {Γ : Slots} {M : Mem} {k : Addr} {c : Cl} {fs : List (Str × D)} (hΓ : Γ[0]? = some (some (.ptr k))) (hk : M k = some (.ins c fs)) (hl : fs.length < 1000)
    (h : ∀ p M', M' k = some (.ins c (putF f (.ptr p) fs)) → M' p = some (.lst []) → (∀ q l, M q = some (.lst l) → M' q = some (.lst l) ∧ q ≠ p) → E.nx Γ M') : sFld (gVar 0) (gLst gNil) f E Γ M := by
  refine ⟨Nat.le_of_ble_eq_true rfl, fun p hp => ?_⟩
  have hkp : k ≠ p := Mem.apart hk hp
  have hk' : (M.set p (.lst [])) k = some (.ins c fs) := (Mem.ne hkp).trans hk
  show gVar 0 Γ _ _
  unfold gVar
  rw [hΓ]
  refine ⟨k, c, fs, rfl, hk', hl, h p _ Mem.same ((Mem.ne hkp.symm).trans Mem.same) fun q l hq => ?_⟩
  have h1 : q ≠ k := fun e => by rw [e, hk] at hq; cases hq
  have h2 : q ≠ p := Mem.apart hq hp
  exact ⟨(Mem.ne h1).trans ((Mem.ne h2).trans hq), h2⟩
theorem r_Keeper_init (Ds : List D) (M : Mem) (Q : D → Mem → Prop) (h : q_Keeper_init Ds M Q) : Ds.length = 3 ∧ g_Keeper_init p_check_policy q_Keeper_next_row (endsD Q) (startD ["self", "program", "policy"] Ds) M := by
  obtain ⟨k, sz, x, b, pol, rfl, hg, hk, h⟩ := h
  refine ⟨rfl, pol, rfl, k, _, _, rfl, hk, Nat.le_of_ble_eq_true rfl, k, _, _, rfl, Mem.same, Nat.le_of_ble_eq_true rfl, ?_⟩
  refine new_field rfl Mem.same (Nat.le_of_ble_eq_true rfl) fun p1 M1 k1 f1 c1 => ?_
  refine new_field rfl k1 (Nat.le_of_ble_eq_true rfl) fun p2 M2 k2 f2 c2 => ?_
  refine new_field rfl k2 (Nat.le_of_ble_eq_true rfl) fun p3 M3 k3 f3 c3 => ?_
  refine new_field rfl k3 (Nat.le_of_ble_eq_true rfl) fun p4 M4 k4 f4 c4 => ?_
  refine new_field rfl k4 (Nat.le_of_ble_eq_true rfl) fun p5 M5 k5 f5 c5 => ?_
  have f12 := c2 _ _ f1
  have f13 := c3 _ _ f12.1
  have f14 := c4 _ _ f13.1
  have f15 := c5 _ _ f14.1
  have f23 := c3 _ _ f2
  have f24 := c4 _ _ f23.1
  have f25 := c5 _ _ f24.1
  have f34 := c4 _ _ f3
  have f35 := c5 _ _ f34.1
  have f45 := c5 _ _ f4
  have ck : ∀ {q l}, M5 q = some (.lst l) → q ≠ k := fun hq e => by rw [e, k5] at hq; cases hq
  refine ⟨k, _, rfl, k5, rfl, k, _, sz, x, b, rfl, hg, k5, rfl, Nat.le_of_ble_eq_true rfl, fun st hst => ⟨_, Mem.le_refl _, h ⟨p1, p2, p3, p4, p5, [], [], [], [], [], lv false st, lv false st⟩ _ st hst ⟨Mem.same, (Mem.ne (ck f15.1)).trans f15.1, (Mem.ne (ck f25.1)).trans f25.1, (Mem.ne (ck f35.1)).trans f35.1, (Mem.ne (ck f45.1)).trans f45.1, (Mem.ne (ck f5)).trans f5, f12.2, f13.2, f14.2, f15.2, f23.2, f24.2, f25.2, f34.2, f35.2, f45.2⟩ rfl rfl rfl rfl rfl rfl⟩⟩
theorem r_Keeper_peeked (Ds : List D) (M : Mem) (Q : D → Mem → Prop) (h : q_Keeper_peeked Ds M Q) : Ds.length = 1 ∧ g_Keeper_peeked (endsD Q) (startD ["self", "found", "pattern", "columns", "c"] Ds) M := by
  obtain ⟨k, sz, x, b, pol, s, n, rfl, hsz, ⟨v, hv, hi⟩, h⟩ := h
  obtain ⟨lk, hcs, hnd, hlt, hmem⟩ := hi.cs
  have hlk : lk.length ≤ sz.length := nodup_len hnd hlt
  have hk2 : (M.del v.a3) k = some (.ins .keeper (kfs (prD sz b) (plD pol) v.a1 v.a2 v.a3 v.a4 v.a5 v.L v.S)) := (Mem.dne hv.k3.symm).trans hv.k
  refine ⟨rfl, _, _, _, hv.k, rfl, _, rfl, .inl ⟨v.pt, hv.m3, _, _, _, hk2, rfl, _, rfl, .inl ⟨v.cs, (Mem.dne hv.n23).trans hv.m2, ?_⟩⟩⟩
  have hpt := hi.pt
  cases hsh : s.shown with
  | none =>
    rw [hsh] at hpt
    rw [hpt]
    refine ⟨_, Mem.le_refl _, h _ 0 ?_⟩
    unfold KS.bad
    rw [hsh]
    rfl
  | some p =>
    rw [hsh] at hpt
    rw [hpt, hcs]
    refine ⟨rfl, rfl, 0, rfl, ?_⟩
    refine cm_filter (fun d => match d with | .int i => !(p.map di).any fun z => deq z (.int i) | _ => false) id (lk.map di) [] ?_ (fun d hd R1 R2 hR1 hR2 => ?_) ?_
    · rw [List.length_map]
      exact lim_of (show 0 + _ ≤ 10 by omega) (by decide)
    · obtain ⟨c, hc, rfl⟩ := List.mem_map.mp hd
      refine ⟨rfl, p.map di, rfl, .inl ⟨rfl, flat_dis p⟩, ?_⟩
      conv => whnf
      cases e : !(p.map di).any fun z => deq z (di c) with
      | true => exact hR1 e
      | false => exact hR2 e
    · refine ⟨_, rfl, _, Mem.le_refl _, h _ _ ?_⟩
      rw [List.nil_append, Int.zero_add]
      refine (wide_len lk p).trans ?_
      unfold KS.bad
      rw [hsh]
      show lk.any _ = s.looked.any _
      rw [Bool.eq_iff_iff, List.any_eq_true, List.any_eq_true]
      constructor
      · rintro ⟨c, hc, e⟩
        exact ⟨c, (hmem c).mp hc, e⟩
      · rintro ⟨c, hc, e⟩
        exact ⟨c, (hmem c).mpr hc, e⟩
end G
set_option Elab.async false
set_option linter.all false
set_option maxRecDepth 10000
namespace G
open PySem
/-- what a keeper does with a thing that may be a move -/
def kdo (pol : Bool × Bool) (r : Tr) (s : KS) (d : D) : Option KS := match mvOf d with
  | some m => kstep pol r s m
  | none => none
def q_is_done : DSp := fun Ds M P => ∃ k sz x b pol s n d, Ds = [.ptr k, d] ∧ clean d = true ∧ Good sz b ∧ Cont sz x ∧ KM sz x b pol k s n M ∧ n ≤ 4000 ∧
  (∀ s' M', kdo pol (root x b) s d = some s' → KM sz x b pol k s' (n + 2) M' → P (.bl true) M') ∧ (kdo pol (root x b) s d = none → P (.bl false) M)
theorem isStr_true {z : Str} {d : D} (h : isStr z d = true) : d = .str z := by
  cases d with
  | str y => exact congrArg D.str (of_decide_eq_true h)
  | _ => cases h
theorem isStr1_true {z : Str} {d : D} (h : isStr1 z d = true) : d = .tup [.str z] := by
  cases d with
  | tup l =>
    match l, h with
    | [e], h => rw [isStr_true h]
    | [], h => cases h
    | _ :: _ :: _, h => cases h
  | _ => cases h
theorem isPair_true {d : D} (h : isPair d = true) : ∃ a b, d = .tup [a, b] := by
  cases d with
  | tup l =>
    match l, h with
    | [a, b], _ => exact ⟨a, b, rfl⟩
    | [], h => cases h
    | [_], h => cases h
    | _ :: _ :: _ :: _, h => cases h
  | _ => cases h
theorem isWithin_true {d : D} {lo hi : Int} (h : isWithin d lo hi = true) : ∃ i, d = .int i ∧ lo ≤ i ∧ i ≤ hi := by
  cases d with
  | int i =>
    have h' : (decide (lo ≤ i) && decide (i ≤ hi)) = true := h
    rw [Bool.and_eq_true] at h'
    exact ⟨i, rfl, of_decide_eq_true h'.1, of_decide_eq_true h'.2⟩
  | _ => cases h
/-- which moves there are -/
theorem mvOf_some {d : D} {m : Mv} (h : mvOf d = some m) : d = mvD m := by
  unfold mvOf at h
  split at h
  · rename_i z
    by_cases e : z = "go"
    · rw [if_pos e] at h
      injection h with h
      subst h
      subst e
      rfl
    · rw [if_neg e] at h
      by_cases e2 : z = "fall"
      · rw [if_pos e2] at h
        injection h with h
        subst h
        subst e2
        rfl
      · rw [if_neg e2] at h
        cases h
  · rename_i z v
    by_cases e : z = "throw"
    · rw [if_pos e] at h
      by_cases e2 : 0 ≤ v
      · rw [if_pos e2] at h
        injection h with h
        subst h
        subst e
        show D.tup [_, .int v] = D.tup [_, .int ((v.toNat : Nat) : Int)]
        rw [Int.toNat_of_nonneg e2]
      · rw [if_neg e2] at h
        cases h
    · rw [if_neg e] at h
      cases h
  · cases h
theorem mvOf_mvD (m : Mv) : mvOf (mvD m) = some m := by
  cases m with
  | go => rfl
  | fall => rfl
  | thr v =>
    show (if ("throw" : Str) = "throw" then (if (0 : Int) ≤ (v : Int) then some (Mv.thr ((v : Int)).toNat) else none) else none) = _
    rw [if_pos rfl, if_pos (by omega), Int.toNat_natCast]
theorem kdo_none {pol : Bool × Bool} {r : Tr} {s : KS} {d : D} (h : ∀ m, d = mvD m → kstep pol r s m = none) : kdo pol r s d = none := by
  unfold kdo
  split
  · rename_i m e
    exact h m (mvOf_some e)
  · rfl
theorem kdo_mvD (pol : Bool × Bool) (r : Tr) (s : KS) (m : Mv) : kdo pol r s (mvD m) = kstep pol r s m := by
  unfold kdo
  rw [mvOf_mvD]
theorem r_is_done (Ds : List D) (M : Mem) (Q : D → Mem → Prop) (h : q_is_done Ds M Q) : Ds.length = 2 ∧ g_is_done (p_is_alike 2) q_Keeper_fall q_Keeper_due p_is_pair p_is_within q_Keeper_throw q_Keeper_go (endsD Q) (startD ["keeper", "move", "deed"] Ds) M := by
  obtain ⟨k, sz, x, b, pol, s, n, d, rfl, hd, hg, hx, hkm, hn, ht, hf⟩ := h
  obtain ⟨v, hv, hi⟩ := id hkm
  refine ⟨rfl, Nat.le_of_ble_eq_true rfl, Or.inr ⟨d, "fall", rfl, hd, ?_⟩⟩
  have hnp : noPtr d = true := by cases d <;> first | rfl | exact hd
  conv => whnf
  cases e1 : isStr1 "fall" d with
  | true =>
    have := isStr1_true e1
    subst this
    refine ⟨k, _, rfl, hv.k, rfl, k, sz, x, b, pol, s, n, rfl, hkm, fun M' hM' => ⟨M', Mem.le_refl _, ht _ M' ?_ hM'⟩⟩
    exact kdo_mvD pol (root x b) s .fall
  | false =>
    obtain ⟨lb, live, hL, hst⟩ := hi.L
    have nofall : ∀ m, d = mvD m → m ≠ .fall := fun m e em => by
      subst em
      subst e
      cases e1
    have hdeed : ∃ fs, live = .obj .state fs ∧ fs.lookup ("deed" : Str) = some (deed s.cur) := by
      obtain ⟨p, _, _, _, rfl⟩ := hst
      exact ⟨_, rfl, rfl⟩
    obtain ⟨fs, hlive, hfs⟩ := hdeed
    subst hlive
    refine ⟨k, _, rfl, hv.k, rfl, k, _, _, v, _, fs, deed s.cur, rfl, hv, hL, hfs, ?_⟩
    cases hsh : s.shown with
    | some p =>
      rw [if_pos (by rw [hi.pt, hi.cp, hsh]; rfl)]
      refine ⟨M, Mem.le_refl _, hf (kdo_none fun m e => ?_)⟩
      unfold kstep
      rw [hsh]
      cases m with
      | fall => exact absurd rfl (nofall _ e)
      | _ => rfl
    | none =>
      rw [if_neg (by rw [hi.pt, hi.cp, hsh]; exact Nat.ne_of_lt Nat.zero_lt_one)]
      have go : (∀ m kk, s.cur ≠ .thr m kk) → (∀ v, kstep pol (root x b) s (.thr v) = none) ∧ ∃ s', kstep pol (root x b) s .go = some s' := by
        intro hc
        unfold kstep
        rw [hsh]
        cases hcur : s.cur with
        | thr m kk => exact absurd hcur (hc m kk)
        | «show» q => exact ⟨fun v => rfl, _, rfl⟩
        | opn c t => exact ⟨fun v => rfl, _, rfl⟩
      cases hcur : s.cur with
      | thr m kk =>
        refine ⟨_, _, _, rfl, rfl, rfl, d, rfl, hnp, ?_⟩
        conv => whnf
        cases e2 : isPair d with
        | false =>
          refine ⟨M, Mem.le_refl _, hf (kdo_none fun m e => ?_)⟩
          subst e
          cases m with
          | fall => exact absurd rfl (nofall _ rfl)
          | go => unfold kstep; rw [hsh, hcur]
          | thr v => cases e2
        | true =>
          obtain ⟨a1, a2, rfl⟩ := isPair_true e2
          have hc1 : noPtr a1 = true := clean_tup hd List.mem_cons_self
          have hc2 : noPtr a2 = true := clean_tup hd (List.mem_cons_of_mem _ List.mem_cons_self)
          refine ⟨_, _, _, rfl, rfl, rfl, Or.inl ⟨a1, "throw", rfl, hc1, ?_⟩⟩
          conv => whnf
          cases e3 : isStr "throw" a1 with
          | false =>
            refine ⟨M, Mem.le_refl _, hf (kdo_none fun m e => ?_)⟩
            cases m with
            | fall => cases e
            | go => cases e
            | thr v => injection e with e; injection e with e _; subst e; cases e3
          | true =>
            have := isStr_true e3
            subst this
            refine ⟨_, _, _, rfl, rfl, rfl, _, _, _, rfl, rfl, rfl, a2, _, _, rfl, hc2, ?_⟩
            conv => whnf
            cases e4 : isWithin a2 0 ((m : Int) - 1) with
            | false =>
              refine ⟨M, Mem.le_refl _, hf (kdo_none fun m' e => ?_)⟩
              cases m' with
              | fall => cases e
              | go => cases e
              | thr v =>
                injection e with e
                injection e with _ e
                injection e with e _
                subst e
                unfold kstep
                rw [hsh, hcur]
                show (if v < m then _ else _) = none
                rw [if_neg]
                intro hvm
                have : isWithin (di v) 0 ((m : Int) - 1) = true := by
                  show (decide ((0 : Int) ≤ (v : Int)) && decide ((v : Int) ≤ (m : Int) - 1)) = true
                  rw [decide_eq_true (by omega), decide_eq_true (by omega)]; rfl
                rw [this] at e4
                cases e4
            | true =>
              obtain ⟨i, rfl, hi0, hi1⟩ := isWithin_true e4
              obtain ⟨w, rfl⟩ := Int.eq_ofNat_of_zero_le hi0
              refine ⟨k, _, rfl, hv.k, rfl, _, _, _, rfl, rfl, rfl, k, sz, x, b, pol, s, n, w, m, kk, rfl, hg, hkm, hn, hsh, hcur, by omega, fun M' hM' => ⟨M', Mem.le_refl _, ht _ M' ?_ hM'⟩⟩
              refine (kdo_mvD pol (root x b) s (.thr w)).trans ?_
              unfold kstep
              rw [hsh, hcur]
              show (if w < m then _ else _) = _
              rw [if_pos (by omega)]
      | «show» q =>
        obtain ⟨hgo1, s', hgo2⟩ := go (fun m kk e => by rw [hcur] at e; cases e)
        refine ⟨_, _, _, rfl, rfl, rfl, Nat.le_of_ble_eq_true rfl, Or.inr ⟨d, "go", rfl, hd, ?_⟩⟩
        conv => whnf
        cases e2 : isStr1 "go" d with
        | false =>
          refine ⟨M, Mem.le_refl _, hf (kdo_none fun m e => ?_)⟩
          cases m with
          | fall => exact absurd rfl (nofall _ e)
          | go => subst e; cases e2
          | thr v => exact hgo1 v
        | true =>
          have := isStr1_true e2
          subst this
          refine ⟨k, _, rfl, hv.k, rfl, k, sz, x, b, pol, s, n, s', rfl, hg, hx, hkm, hn, hgo2, fun M' hM' => ⟨M', Mem.le_refl _, ht _ M' ?_ hM'⟩⟩
          exact (kdo_mvD pol (root x b) s .go).trans hgo2
      | opn c t =>
        obtain ⟨hgo1, s', hgo2⟩ := go (fun m kk e => by rw [hcur] at e; cases e)
        refine ⟨_, _, _, rfl, rfl, rfl, Nat.le_of_ble_eq_true rfl, Or.inr ⟨d, "go", rfl, hd, ?_⟩⟩
        conv => whnf
        cases e2 : isStr1 "go" d with
        | false =>
          refine ⟨M, Mem.le_refl _, hf (kdo_none fun m e => ?_)⟩
          cases m with
          | fall => exact absurd rfl (nofall _ e)
          | go => subst e; cases e2
          | thr v => exact hgo1 v
        | true =>
          have := isStr1_true e2
          subst this
          refine ⟨k, _, rfl, hv.k, rfl, k, sz, x, b, pol, s, n, s', rfl, hg, hx, hkm, hn, hgo2, fun M' hM' => ⟨M', Mem.le_refl _, ht _ M' ?_ hM'⟩⟩
          exact (kdo_mvD pol (root x b) s .go).trans hgo2
end G
set_option Elab.async false
set_option linter.all false
set_option maxRecDepth 10000
namespace G
open PySem
theorem plain_noPtr {n : Nat} {d : D} (h : plain n d = true) : noPtr d = true := by
  cases d with
  | ptr _ => cases n <;> cases h
  | scr _ => cases n <;> cases h
  | obj _ _ => cases n <;> cases h
  | _ => rfl
theorem plainL_mem {n : Nat} {l : List D} (h : plainL n l = true) : ∀ d ∈ l, plain n d = true := by
  induction l with
  | nil => exact nofun
  | cons a r ih =>
    have h' : (plain n a && plainL n r) = true := h
    rw [Bool.and_eq_true] at h'
    intro d hd
    rcases List.mem_cons.mp hd with rfl | hd
    · exact h'.1
    · exact ih h'.2 d hd
theorem plain_clean {n : Nat} {d : D} (h : plain (n + 1) d = true) : clean d = true := by
  cases d with
  | tup l => exact List.all_eq_true.mpr fun d hd => plain_noPtr (plainL_mem (show plainL n l = true from h) d hd)
  | lst l => exact List.all_eq_true.mpr fun d hd => plain_noPtr (plainL_mem (show plainL n l = true from h) d hd)
  | ptr _ => cases h
  | scr _ => cases h
  | obj _ _ => cases h
  | _ => rfl
theorem nats_of : ∀ (xs : List D) (sz : List Nat), withinAll xs sz = true → ∃ x, xs = x.map di ∧ natsOf xs = some x ∧ Cont sz x
  | [], [], _ => ⟨[], rfl, rfl, rfl, fun i h => absurd h (Nat.not_lt_zero i)⟩
  | d :: ds, s :: ss, h => by
    have h' : (isWithin d 0 ((s : Int) - 1) && withinAll ds ss) = true := h
    rw [Bool.and_eq_true] at h'
    obtain ⟨i, rfl, h0, h1⟩ := isWithin_true h'.1
    obtain ⟨x, rfl, hn, hc⟩ := nats_of ds ss h'.2
    obtain ⟨w, rfl⟩ := Int.eq_ofNat_of_zero_le h0
    refine ⟨w :: x, rfl, ?_, by rw [List.length_cons, List.length_cons, hc.1], fun i hi => ?_⟩
    · show (if (0 : Int) ≤ (w : Int) then (natsOf (x.map di)).map (((w : Int)).toNat :: ·) else none) = _
      rw [if_pos h0, hn, Int.toNat_natCast]
      rfl
    · cases i with
      | zero => show w < s; omega
      | succ i => exact hc.2 i (Nat.lt_of_succ_lt_succ hi)
  | [], _ :: _, h => by cases h
  | _ :: _, [], h => by cases h
/-- the keeper behind things that may be moves -/
def kall (pol : Bool × Bool) (r : Tr) (s : KS) : List D → Option KS
  | [] => some s
  | d :: ds => match kdo pol r s d with
    | some s' => kall pol r s' ds
    | none => none
theorem kall_eq (pol : Bool × Bool) (r : Tr) : ∀ (ds : List D) (s : KS), kall pol r s ds = match mvsOf ds with | some m => kruns pol r s m | none => none
  | [], s => rfl
  | d :: ds, s => by
    show (match kdo pol r s d with | some s' => kall pol r s' ds | none => none) = (match (match mvOf d, mvsOf ds with | some m, some ms => some (m :: ms) | _, _ => none) with | some m => kruns pol r s m | none => none)
    unfold kdo
    cases e : mvOf d with
    | none => rfl
    | some m =>
      show (match kstep pol r s m with | some s' => kall pol r s' ds | none => none) = _
      cases e3 : mvsOf ds with
      | none =>
        show _ = none
        cases e2 : kstep pol r s m with
        | none => rfl
        | some s' =>
          show kall pol r s' ds = none
          rw [kall_eq pol r ds s', e3]
      | some ms =>
        show _ = (match kstep pol r s m with | some s' => kruns pol r s' ms | none => none)
        cases e2 : kstep pol r s m with
        | none => rfl
        | some s' =>
          show kall pol r s' ds = _
          rw [kall_eq pol r ds s', e3]
def badO : Option KS → Bool
  | some s => s.bad
  | none => false
theorem isBr_tup {sz : List Nat} {b : Blk} {pol : Bool × Bool} {xs ms : List D} {x : List Nat} (h : isContent sz (.tup xs) = true) (hx : natsOf xs = some x) : isBr sz b pol (.tup [.tup xs, .tup ms]) = badO (kall pol (root x b) (KS.start (root x b)) ms) := by
  show (if isContent sz (.tup xs) then _ else _) = _
  rw [if_pos h, kall_eq, hx]
  cases mvsOf ms with
  | none => rfl
  | some m =>
    show (match kruns pol (root x b) (KS.start (root x b)) m with | some s => s.bad | none => false) = badO (kruns pol (root x b) (KS.start (root x b)) m)
    cases kruns pol (root x b) (KS.start (root x b)) m <;> rfl
theorem r_is_breach (Ds : List D) (Q : D → Prop) (h : p_is_breach Ds Q) : Ds.length = 3 ∧ g_is_breach p_check_blind p_is_pair p_is_content p_is_row q_Keeper_init q_Keeper_put q_is_done q_Keeper_peeked (endsP Q) (startD ["program", "policy", "thing", "keeper", "move"] Ds) Mem.nil := by
  obtain ⟨sz, b, pol, th, rfl, hg, hth, h⟩ := h
  have hnp : noPtr th = true := by
    rcases hth.1 with rfl | h
    · rfl
    · exact plain_noPtr h
  refine ⟨rfl, sz, b, pol, rfl, hg, th, rfl, hnp, ?_⟩
  conv => whnf
  cases e1 : isPair th with
  | false =>
    have hb : isBr sz b pol th = false := by
      unfold isBr
      split
      · cases e1
      · rfl
    rw [hb] at h
    exact h
  | true =>
    obtain ⟨c, r, rfl⟩ := isPair_true e1
    have hpl : plainL 49 [c, r] = true := by
      rcases hth.1 with h | h
      · cases h
      · exact h
    have hpc := plainL_mem hpl c List.mem_cons_self
    have hpr := plainL_mem hpl r (List.mem_cons_of_mem _ List.mem_cons_self)
    refine ⟨_, rfl, _, _, _, rfl, rfl, rfl, sz, c, rfl, plain_clean (n := 48) hpc, Nat.le_trans hg.siz.len (by decide), ?_⟩
    conv => whnf
    cases e2 : isContent sz c with
    | false =>
      have hb : isBr sz b pol (.tup [c, r]) = false := by
        unfold isBr
        split
        · rename_i xs ms e
          injection e with e
          injection e with e _
          subst e
          rw [if_neg (by rw [e2]; exact Bool.false_ne_true)]
        · rfl
      rw [hb] at h
      exact h
    | true =>
      refine ⟨_, _, _, rfl, rfl, rfl, r, rfl, plain_noPtr hpr, ?_⟩
      conv => whnf
      cases e3 : isI .seq r with
      | false =>
        have hb : isBr sz b pol (.tup [c, r]) = false := by
          unfold isBr
          split
          · rename_i xs ms e
            injection e with e
            injection e with _ e
            injection e with e _
            subst e
            cases e3
          · rfl
        rw [hb] at h
        exact h
      | true =>
        obtain ⟨ms, rfl⟩ : ∃ ms, r = .tup ms := by
          cases r with
          | tup ms => exact ⟨ms, rfl⟩
          | lst ms => exact (hth.2.1 _ rfl c ms rfl).elim
          | _ => cases e3
        obtain ⟨xs, rfl⟩ : ∃ xs, c = .tup xs := by
          cases c with
          | tup xs => exact ⟨xs, rfl⟩
          | _ => cases e2
        obtain ⟨x, rfl, hnx, hx⟩ := nats_of xs sz e2
        rw [isBr_tup e2 hnx] at h
        have hml : ms.length ≤ 800 := (hth.2.2 _ rfl _ ms rfl).1
        refine fun k hk => ⟨k, sz, x, b, pol, rfl, hg, Mem.same, fun v M1 st hst hv hcp hcs hpt hn hL hS => ⟨rfl, k, _, rfl, hv.k, rfl, _, _, _, rfl, rfl, rfl, k, sz, b, _, v, _, rfl, hv, plain_clean (n := 48) hpc, hg, e2, hcp, hcs, fun M2 hv2 => ⟨_, _, _, rfl, rfl, rfl, ?_⟩⟩⟩
        refine for_of (fun ds Γ M => ∃ s n o4, Γ = [some (prD sz b), some (plD pol), some (.tup [.tup (x.map di), .tup ms]), some (.ptr k), o4] ∧ (∀ d ∈ ds, clean d = true) ∧ KM sz x b pol k s n M ∧ n + 2 * ds.length ≤ 3000 ∧ Q (.bl (badO (kall pol (root x b) s ds)))) ?_ ?_ _ _ _ ⟨KS.start (root x b), 0, none, rfl, fun d hd => plain_clean (n := 47) (plainL_mem (show plainL 48 ms = true from hpr) d hd), ⟨_, hv2, ⟨rfl, ⟨[], rfl, List.nodup_nil, nofun, fun c => Iff.rfl⟩, hpt, ⟨false, st, hL, hst⟩, ⟨false, st, hS, hst⟩, Nat.le_of_eq hn⟩⟩, by omega, h⟩
        · rintro Γ M ⟨s, n, o4, rfl, _, hkm, _, h⟩
          obtain ⟨v, hv, hi⟩ := id hkm
          refine ⟨k, _, rfl, hv.k, rfl, k, sz, x, b, pol, s, n, rfl, Nat.le_trans hg.siz.len (by decide), hkm, fun M' m hm => ?_⟩
          conv => whnf
          rw [hm]
          exact h
        · rintro d ds R _ M hR ⟨s, n, o4, rfl, hcl, hkm, hn, h⟩
          rw [List.length_cons] at hn
          refine ⟨k, sz, x, b, pol, s, n, d, rfl, hcl d List.mem_cons_self, hg, hx, hkm, by omega, fun s' M' hs' hM' => ?_, fun hs' => ?_⟩
          · refine hR _ _ ⟨s', n + 2, _, rfl, fun d hd => hcl d (List.mem_cons_of_mem _ hd), hM', by omega, ?_⟩
            have e : kall pol (root x b) s (d :: ds) = kall pol (root x b) s' ds := by
              show (match kdo pol (root x b) s d with | some s' => kall pol (root x b) s' ds | none => none) = _
              rw [hs']
            rw [e] at h
            exact h
          · have e : kall pol (root x b) s (d :: ds) = none := by
              show (match kdo pol (root x b) s d with | some s' => kall pol (root x b) s' ds | none => none) = _
              rw [hs']
            rw [e] at h
            exact h
end G
set_option Elab.async false
set_option linter.all false
set_option maxRecDepth 10000
namespace G
open PySem
/-! making a program -/
def TOk (sz : List Nat) (t : D) : Prop := (∃ v : Nat, t = .tup [.str "name", .str "a", di v]) ∨ ∃ c w, t = .tup [.str "cell", di c, di w] ∧ c < sz.length ∧ w < sz.getD c 0
def SOk (sz : List Nat) (s : D) : Prop := (∃ c, s = .tup [.str "open", di c] ∧ c < sz.length) ∨ (∃ p, s = .tup [.str "show", dis p] ∧ p.Pairwise (· < ·) ∧ (∀ c ∈ p, c < sz.length) ∧ p.length ≤ 10) ∨
  (∃ n : Nat, s = .tup [.str "throw", .str "a", di n] ∧ 2 ≤ n ∧ n ≤ 12) ∨ ∃ t x y, s = .tup [.str "if", t, x, y] ∧ TOk sz t
def binD : D → List D
  | .tup [_, _, x, y] => [x, y]
  | _ => []
def kids : Blk → List Blk
  | .show _ => []
  | .opn _ r => kids r
  | .thr _ r => kids r
  | .ifn _ a b => [a, b]
  | .ifc _ _ a b => [a, b]
theorem kids_stm : ∀ b : Blk, (stm b).flatMap binD = (kids b).map fun b => dB b
  | .show _ => rfl
  | .opn _ r => kids_stm r
  | .thr _ r => kids_stm r
  | .ifn _ a b => rfl
  | .ifc _ _ a b => rfl
theorem wi {i : Int} {lo hi : Int} (h1 : lo ≤ i) (h2 : i ≤ hi) : isWithin (.int i) lo hi = true := by
  show (decide (lo ≤ i) && decide (i ≤ hi)) = true
  rw [decide_eq_true h1, decide_eq_true h2]; rfl
def p_is_test : PSp := fun Ds k => ∃ sz t, Ds = [dis sz, t] ∧ TOk sz t ∧ k (.bl true)
def p_is_statement : PSp := fun Ds k => ∃ sz s, Ds = [dis sz, s] ∧ SOk sz s ∧ k (.bl true)
def p_blocks_in : PSp := fun Ds k => ∃ sz s, Ds = [s] ∧ SOk sz s ∧ k (.tup (binD s))
def p_measured : PSp := fun Ds k => ∃ sz b, Ds = [dis sz, dB b] ∧ Sz sz ∧ Wf sz [] b ∧ cnt b ≤ 60 ∧ dp b ≤ 6 ∧ k (.tup [di (cnt b), di (dp b)])
def q_Program_keep : DSp := fun Ds M P => ∃ a x y, Ds = [.ptr a, x, y] ∧ M a = some (.ins .prog []) ∧ P .non (M.set a (.ins .prog [("sizes", x), ("block", y)]))
def q_Program_init : DSp := fun Ds M P => ∃ a sz b, Ds = [.ptr a, dis sz, dB b] ∧ Good sz b ∧ M a = some (.ins .prog []) ∧ P .non (M.set a (.ins .prog [("sizes", dis sz), ("block", dB b)]))
theorem r_Program_keep (Ds : List D) (M : Mem) (Q : D → Mem → Prop) (h : q_Program_keep Ds M Q) : Ds.length = 3 ∧ g_Program_keep (endsD Q) (startD ["self", "sizes", "block"] Ds) M := by
  obtain ⟨a, x, y, rfl, ha, h⟩ := h
  refine ⟨rfl, a, _, _, rfl, ha, Nat.le_of_ble_eq_true rfl, a, _, _, rfl, Mem.same, Nat.le_of_ble_eq_true rfl, _, ?_, h⟩
  rw [Mem.set_set]
  exact Mem.le_refl _
theorem r_Program_init (Ds : List D) (M : Mem) (Q : D → Mem → Prop) (h : q_Program_init Ds M Q) : Ds.length = 3 ∧ g_Program_init p_are_sizes p_measured q_Program_keep (endsD Q) (startD ["self", "sizes", "block", "told"] Ds) M := by
  obtain ⟨a, sz, b, rfl, hg, ha, h⟩ := h
  have h1 := hg.cnt
  have h2 := hg.dp
  refine ⟨rfl, sz, rfl, hg.siz, sz, b, rfl, hg.siz, hg.wf, h1, h2, _, _, _, rfl, rfl, rfl, ?_⟩
  conv => whnf
  rw [decide_eq_false (show ¬ (60 : Int) < (cnt b : Int) by omega)]
  refine ⟨_, _, _, rfl, rfl, rfl, ?_⟩
  conv => whnf
  rw [decide_eq_false (show ¬ (6 : Int) < (dp b : Int) by omega)]
  exact ⟨a, _, rfl, ha, rfl, a, _, _, rfl, ha, _, Mem.le_refl _, h⟩
theorem dis_atD' {l : List Nat} {i : Nat} (h : i < l.length) : atI (l.map di) (i : Int) = some (di (l.getD i 0)) := by
  rw [dis_at h, List.getD_eq_getElem?_getD, List.getElem?_eq_getElem h]
  rfl
theorem r_is_test (Ds : List D) (Q : D → Prop) (h : p_is_test Ds Q) : Ds.length = 2 ∧ g_is_test p_is_within p_is_name p_is_number (endsP Q) (startD ["sizes", "thing"] Ds) Mem.nil := by
  obtain ⟨sz, t, rfl, ht, h⟩ := h
  rcases ht with ⟨v, rfl⟩ | ⟨c, w, rfl, hc, hw⟩
  · refine ⟨rfl, rfl, _, rfl, _, _, _, rfl, rfl, rfl, rfl, _, _, _, rfl, rfl, rfl, _, _, _, rfl, rfl, rfl, _, _, _, rfl, rfl, rfl, rfl, _, _, _, rfl, rfl, rfl, _, rfl, rfl, ?_⟩
    have : isNum (di v) = true := decide_eq_true (show (0 : Int) ≤ (v : Int) by omega)
    rw [this]
    exact h
  · refine ⟨rfl, rfl, _, rfl, _, _, _, rfl, rfl, rfl, rfl, _, _, _, rfl, rfl, rfl, _, _, _, rfl, rfl, rfl, _, rfl, _, _, _, rfl, rfl, ?_⟩
    rw [wi (by omega) (by rw [List.length_map]; omega)]
    refine ⟨_, _, _, rfl, rfl, rfl, _, _, _, rfl, rfl, rfl, _, _, _, rfl, rfl, dis_atD' hc, _, _, _, rfl, rfl, ?_⟩
    rw [wi (by omega) (by omega)]
    exact h
theorem r_is_statement (Ds : List D) (Q : D → Prop) (h : p_is_statement Ds Q) : Ds.length = 2 ∧ g_is_statement p_is_pair p_is_within p_is_pattern p_is_name p_is_test (endsP Q) (startD ["sizes", "thing"] Ds) Mem.nil := by
  obtain ⟨sz, t, rfl, ht, h⟩ := h
  rcases ht with ⟨c, rfl, hc⟩ | ⟨p, rfl, hp, hl, hn⟩ | ⟨n, rfl, h2, h3⟩ | ⟨t, x, y, rfl, ht⟩
  · refine ⟨rfl, rfl, _, rfl, _, _, _, rfl, rfl, rfl, rfl, _, _, _, rfl, rfl, rfl, _, rfl, rfl, _, _, _, rfl, rfl, rfl, _, rfl, _, _, _, rfl, rfl, ?_⟩
    rw [wi (by omega) (by rw [List.length_map]; omega)]
    exact h
  · refine ⟨rfl, rfl, _, rfl, _, _, _, rfl, rfl, rfl, rfl, _, _, _, rfl, rfl, rfl, _, _, _, rfl, rfl, rfl, _, rfl, rfl, _, rfl, _, _, _, rfl, rfl, rfl, sz.length, p, ?_, hp, hl, hn, h⟩
    rw [List.length_map]
  · refine ⟨rfl, rfl, _, rfl, _, _, _, rfl, rfl, rfl, rfl, _, _, _, rfl, rfl, rfl, _, _, _, rfl, rfl, rfl, _, _, _, rfl, rfl, rfl, _, rfl, _, _, _, rfl, rfl, rfl, rfl, _, _, _, rfl, rfl, rfl, _, _, _, rfl, rfl, ?_⟩
    rw [wi (by omega) (by omega)]
    exact h
  · exact ⟨rfl, rfl, _, rfl, _, _, _, rfl, rfl, rfl, rfl, _, _, _, rfl, rfl, rfl, _, _, _, rfl, rfl, rfl, _, _, _, rfl, rfl, rfl, _, _, _, rfl, rfl, rfl, _, _, _, rfl, rfl, rfl, _, _, _, rfl, rfl, rfl, _, rfl, _, _, _, rfl, rfl, rfl, sz, t, rfl, ht, h⟩
theorem r_blocks_in (Ds : List D) (Q : D → Prop) (h : p_blocks_in Ds Q) : Ds.length = 1 ∧ g_blocks_in (endsP Q) (startD ["statement"] Ds) Mem.nil := by
  obtain ⟨sz, t, rfl, ht, h⟩ := h
  rcases ht with ⟨c, rfl, hc⟩ | ⟨p, rfl, hp, hl, hn⟩ | ⟨n, rfl, h2, h3⟩ | ⟨t, x, y, rfl, ht⟩
  · exact ⟨rfl, _, _, _, rfl, rfl, rfl, _, _, _, rfl, rfl, rfl, Nat.le_of_ble_eq_true rfl, h⟩
  · exact ⟨rfl, _, _, _, rfl, rfl, rfl, _, _, _, rfl, rfl, rfl, Nat.le_of_ble_eq_true rfl, h⟩
  · exact ⟨rfl, _, _, _, rfl, rfl, rfl, _, _, _, rfl, rfl, rfl, Nat.le_of_ble_eq_true rfl, h⟩
  · exact ⟨rfl, _, _, _, rfl, rfl, rfl, h⟩
end G
set_option Elab.async false
set_option linter.all false
set_option maxRecDepth 10000
namespace G
open PySem
theorem stm_ok {sz : List Nat} (hs : sz.length ≤ 3) : ∀ (b : Blk) (op : List Nat), Wf sz op b → op.Nodup → (∀ c ∈ op, c < sz.length) → ∀ s ∈ stm b, SOk sz s
  | .show p, op, h, hn, ho, s, hm => by
    rcases List.mem_singleton.mp hm with rfl
    refine .inr (.inl ⟨p, rfl, h.2, fun c hc => ho c (h.1.mem_iff.mp hc), ?_⟩)
    rw [h.1.length_eq]
    have := nodup_len hn ho
    omega
  | .opn c r, op, h, hn, ho, s, hm => by
    rcases List.mem_cons.mp hm with rfl | hm
    · exact .inl ⟨c, rfl, h.1⟩
    · have h2 := h.2
      by_cases m : c ∈ op
      · rw [ins_old m] at h2
        exact stm_ok hs r op h2 hn ho s hm
      · rw [ins_new m] at h2
        refine stm_ok hs r _ h2 (nodup_snoc hn m) (fun c' hc' => ?_) s hm
        rcases List.mem_append.mp hc' with m | m
        · exact ho c' m
        · rcases List.mem_singleton.mp m with rfl
          exact h.1
  | .thr n r, op, h, hn, ho, s, hm => by
    rcases List.mem_cons.mp hm with rfl | hm
    · exact .inr (.inr (.inl ⟨n, rfl, h.1.1, by have := h.1.2; omega⟩))
    · exact stm_ok hs r op h.2 hn ho s hm
  | .ifn v a b, op, h, hn, ho, s, hm => by
    rcases List.mem_singleton.mp hm with rfl
    exact .inr (.inr (.inr ⟨_, _, _, rfl, .inl ⟨v, rfl⟩⟩))
  | .ifc c w a b, op, h, hn, ho, s, hm => by
    rcases List.mem_singleton.mp hm with rfl
    exact .inr (.inr (.inr ⟨_, _, _, rfl, .inr ⟨c, w, rfl, h.1.1, h.1.2⟩⟩))
/-- a block of such sizes, somewhere within a program -/
def BOk (sz : List Nat) (b : Blk) : Prop := ∃ op, Wf sz op b ∧ op.Nodup ∧ ∀ c ∈ op, c < sz.length
theorem kids_ok {sz : List Nat} : ∀ (b : Blk), BOk sz b → ∀ c ∈ kids b, BOk sz c
  | .show p, _, c, hc => by cases hc
  | .opn c r, ⟨op, h, hn, ho⟩, d, hd => by
    have h2 := h.2
    by_cases m : c ∈ op
    · rw [ins_old m] at h2
      exact kids_ok r ⟨op, h2, hn, ho⟩ d hd
    · rw [ins_new m] at h2
      refine kids_ok r ⟨_, h2, nodup_snoc hn m, fun c' hc' => ?_⟩ d hd
      rcases List.mem_append.mp hc' with m | m
      · exact ho c' m
      · rcases List.mem_singleton.mp m with rfl
        exact h.1
  | .thr n r, ⟨op, h, hn, ho⟩, d, hd => kids_ok r ⟨op, h.2, hn, ho⟩ d hd
  | .ifn v a b, ⟨op, h, hn, ho⟩, d, hd => by
    rcases List.mem_cons.mp hd with rfl | hd
    · exact ⟨op, h.1, hn, ho⟩
    · rcases List.mem_singleton.mp hd with rfl
      exact ⟨op, h.2, hn, ho⟩
  | .ifc c w a b, ⟨op, h, hn, ho⟩, d, hd => by
    have h2 := h.2
    have key : (ins op c).Nodup ∧ ∀ d ∈ ins op c, d < sz.length := by
      by_cases m : c ∈ op
      · rw [ins_old m]
        exact ⟨hn, ho⟩
      · rw [ins_new m]
        refine ⟨nodup_snoc hn m, fun c' hc' => ?_⟩
        rcases List.mem_append.mp hc' with m | m
        · exact ho c' m
        · rcases List.mem_singleton.mp m with rfl
          exact h.1.1
    rcases List.mem_cons.mp hd with rfl | hd
    · exact ⟨_, h2.1, key⟩
    · rcases List.mem_singleton.mp hd with rfl
      exact ⟨_, h2.2, key⟩
def sumN (f : Blk → Nat) (L : List Blk) : Nat := (L.map f).sum
def maxD (L : List Blk) : Nat := L.foldr (fun b m => max (dp b) m) 0
theorem cnt_kids : ∀ b : Blk, cnt b = (stm b).length + sumN cnt (kids b)
  | .show _ => rfl
  | .opn _ r => by show 1 + cnt r = (stm r).length + 1 + _; rw [cnt_kids r]; show _ = _ + sumN cnt (kids r); omega
  | .thr _ r => by show 1 + cnt r = (stm r).length + 1 + _; rw [cnt_kids r]; show _ = _ + sumN cnt (kids r); omega
  | .ifn _ a b => by show 1 + (cnt a + cnt b) = 1 + (cnt a + (cnt b + 0)); omega
  | .ifc _ _ a b => by show 1 + (cnt a + cnt b) = 1 + (cnt a + (cnt b + 0)); omega
theorem dp_kids : ∀ b : Blk, dp b = 1 + maxD (kids b)
  | .show _ => rfl
  | .opn _ r => dp_kids r
  | .thr _ r => dp_kids r
  | .ifn _ a b => by show 1 + max (dp a) (dp b) = 1 + max (dp a) (max (dp b) 0); omega
  | .ifc _ _ a b => by show 1 + max (dp a) (dp b) = 1 + max (dp a) (max (dp b) 0); omega
theorem maxD_app (L K : List Blk) : maxD (L ++ K) = max (maxD L) (maxD K) := by
  induction L with
  | nil => show _ = max 0 _; rw [Nat.zero_max]; rfl
  | cons b r ih =>
    show max (dp b) (maxD (r ++ K)) = max (max (dp b) (maxD r)) (maxD K)
    rw [ih]
    omega
theorem maxD_kids (L : List Blk) (h : L ≠ []) : maxD L = 1 + maxD (L.flatMap kids) := by
  induction L with
  | nil => exact absurd rfl h
  | cons b r ih =>
    show max (dp b) (maxD r) = 1 + maxD (kids b ++ r.flatMap kids)
    rw [maxD_app, dp_kids]
    cases r with
    | nil => show max (1 + maxD (kids b)) 0 = 1 + max (maxD (kids b)) 0; omega
    | cons c s => rw [ih (by simp)]; omega
theorem sumN_cons (f : Blk → Nat) (b : Blk) (L : List Blk) : sumN f (b :: L) = f b + sumN f L := rfl
theorem sumN_app (f : Blk → Nat) (L K : List Blk) : sumN f (L ++ K) = sumN f L + sumN f K := by
  unfold sumN
  rw [List.map_append, List.sum_append]
theorem len_le_sum (L : List Blk) : L.length ≤ sumN cnt L := by
  induction L with
  | nil => exact Nat.le_refl _
  | cons b r ih =>
    rw [sumN_cons, List.length_cons]
    have : 1 ≤ cnt b := by cases b <;> (first | exact Nat.le_refl _ | (show 1 ≤ 1 + _; omega))
    omega
theorem stm_pos (b : Blk) : 0 < (stm b).length := by cases b <;> exact Nat.zero_lt_succ _
theorem r_measured (Ds : List D) (Q : D → Prop) (h : p_measured Ds Q) : Ds.length = 2 ∧ g_measured p_is_statement p_blocks_in (endsP Q) (startD ["sizes", "block", "layer", "many", "deep", "longer", "here", "statement"] Ds) Mem.nil := by
  obtain ⟨sz, b, rfl, hs, hw, hc, hd, h⟩ := h
  have hs3 := hs.len
  refine ⟨rfl, Nat.le_of_ble_eq_true rfl, ?_⟩
  refine sWhile_of (fun n Γ M => ∃ L many deep o5 o6 o7, maxD L < n ∧ Γ = [some (dis sz), some (dB b), some (.lst (L.map fun b => dB b)), some (di many), some (di deep), o5, o6, o7] ∧ (∀ b ∈ L, BOk sz b) ∧ many + sumN cnt L = cnt b ∧ deep + maxD L = dp b) ?_ ?_ (maxD [b] + 1) _ _ ⟨[b], 0, 0, none, none, none, Nat.lt_succ_self _, rfl, fun c hc => ?_, ?_, ?_⟩
  · rintro Γ M ⟨_, _, _, _, _, _, h, _⟩
    omega
  · rintro n R _ M hR ⟨L, many, deep, o5, o6, o7, hn, rfl, hL, hm, hd2⟩
    have hLl := len_le_sum L
    refine ⟨_, rfl, ?_⟩
    conv => whnf
    rw [List.length_map]
    cases hLe : L with
    | nil =>
      subst hLe
      refine ⟨Nat.le_of_ble_eq_true rfl, ?_⟩
      have e1 : many + 0 = cnt b := hm
      have e2 : deep + 0 = dp b := hd2
      rw [← e1, ← e2] at h
      exact h
    | cons b0 r0 =>
      rw [← hLe, decide_eq_true (show (0 : Int) < (L.length : Int) by rw [hLe, List.length_cons]; omega)]
      have hLne : L ≠ [] := by rw [hLe]; exact List.cons_ne_nil _ _
      refine ⟨Nat.le_of_ble_eq_true rfl, fun p hp => ?_⟩
      refine for_of (fun ds Γ M => ∃ K J many' o6 o7, ds = K.map (fun b => dB b) ∧ Γ = [some (dis sz), some (dB b), some (.lst (L.map fun b => dB b)), some (di many'), some (di deep), some (.ptr p), o6, o7] ∧ (∀ b ∈ K, BOk sz b) ∧ (∀ b ∈ J, BOk sz b) ∧ M p = some (.lst (J.map fun b => dB b)) ∧ many' + sumN cnt K + sumN cnt J = cnt b ∧ J ++ K.flatMap kids = L.flatMap kids) ?_ ?_ _ _ _ ⟨L, [], many, o6, o7, rfl, rfl, hL, nofun, Mem.same, by show many + _ + 0 = _; omega, rfl⟩
      · rintro Γ M' ⟨K, J, many', o6, o7, hK, rfl, _, hJ, hM', hm', hfl⟩
        have hK0 : K = [] := by
          cases K with
          | nil => rfl
          | cons a b => cases hK
        subst hK0
        refine cm_map (fun _ => .bl true) (L.map fun b => dB b) [] ?_ (fun d hd R hR => ?_) ⟨_, List.replicate L.length true, rfl, ?_, ?_⟩
        · rw [List.length_map]
          exact lim_of (show 0 + _ ≤ 60 by omega) (by decide)
        · obtain ⟨c, hc, rfl⟩ := List.mem_map.mp hd
          refine ⟨rfl, _, rfl, ?_⟩
          have := stm_pos c
          conv => whnf
          rw [decide_eq_true (by omega)]
          exact hR
        · rw [List.nil_append, List.map_map, hLe]
          have := all_true (l := List.map (fun _ => D.bl true) (b0 :: r0)) (fun d hd => by obtain ⟨_, _, e⟩ := List.mem_map.mp hd; exact e.symm)
          rw [List.length_map] at this
          exact this
        · rw [hLe, List.length_cons, List.replicate_succ]
          refine ⟨_, rfl, p, rfl, .inl ⟨_, hM', ?_⟩⟩
          have hJ' : J = L.flatMap kids := by rw [← hfl]; exact (List.append_nil J).symm
          have hmk := maxD_kids L hLne
          rw [← hJ'] at hmk
          refine hR _ _ ⟨J, many', deep + 1, _, _, _, ?_, rfl, hJ, hm', ?_⟩
          · omega
          · omega
      · rintro d ds R2 _ M' hR2 ⟨K, J, many', o6, o7, hK, rfl, hKo, hJ, hM', hm', hfl⟩
        cases K with
        | nil => cases hK
        | cons c K' =>
          injection hK with e1 e2
          subst e1
          subst e2
          obtain ⟨op, hw', hnd, hlt⟩ := hKo c List.mem_cons_self
          have hst := stm_ok hs3 c op hw' hnd hlt
          rw [sumN_cons, cnt_kids] at hm'
          have hlen : (stm c).length ≤ 60 := by omega
          refine ⟨rfl, ?_⟩
          refine cm_map (fun _ => .bl true) (stm c) [] (lim_of (show 0 + _ ≤ 60 by omega) (by decide)) (fun d hd R hR => ⟨rfl, sz, d, rfl, hst d hd, hR⟩) ⟨rfl, _, _, rfl, all_true (fun d hd => ?_), ?_⟩
          · rw [List.nil_append] at hd
            obtain ⟨_, _, e⟩ := List.mem_map.mp hd
            exact e.symm
          · rw [all_rep]
            refine ⟨(many' : Int), rfl, _, rfl, ?_⟩
            refine for_of (fun ds Γ M => ∃ l o7, Γ = [some (dis sz), some (dB b), some (.lst (L.map fun b => dB b)), some (.int ((many' : Int) + ((stm c).length : Int))), some (di deep), some (.ptr p), some (dB c), o7] ∧ (∀ d ∈ ds, SOk sz d) ∧ M p = some (.lst l) ∧ l ++ ds.flatMap binD = (J ++ kids c).map fun b => dB b) ?_ ?_ _ _ _ ⟨J.map fun b => dB b, o7, rfl, hst, hM', by rw [kids_stm, List.map_append]⟩
            · rintro Γ M2 ⟨l, o7, rfl, _, hM2, hl⟩
              have hl' : l = (J ++ kids c).map fun b => dB b := by rw [← hl]; exact (List.append_nil l).symm
              subst hl'
              refine hR2 _ _ ⟨K', J ++ kids c, many' + (stm c).length, _, _, rfl, rfl, fun d hd => hKo d (List.mem_cons_of_mem _ hd), fun d hd => ?_, hM2, ?_, ?_⟩
              · rcases List.mem_append.mp hd with m | m
                · exact hJ d m
                · exact kids_ok c ⟨op, hw', hnd, hlt⟩ d m
              · rw [sumN_app]
                omega
              · rw [← hfl, List.flatMap_cons, List.append_assoc]
            · rintro d ds R3 _ M2 hR3 ⟨l, o7, rfl, hds, hM2, hl⟩
              have hJl := len_le_sum (J ++ kids c)
              rw [sumN_app] at hJl
              have hll : l.length + (binD d).length ≤ 60 := by
                have := congrArg List.length hl
                rw [List.flatMap_cons, List.length_append, List.length_append, List.length_map] at this
                omega
              refine ⟨p, l, rfl, hM2, sz, d, rfl, hds d List.mem_cons_self, l, binD d, hM2, rfl, lim_of hll (by decide), hR3 _ _ ⟨_, _, rfl, fun d hd => hds d (List.mem_cons_of_mem _ hd), Mem.same, ?_⟩⟩
              rw [List.append_assoc]
              exact hl
  · rcases List.mem_singleton.mp hc with rfl
    exact ⟨[], hw, List.nodup_nil, nofun⟩
  · show 0 + (cnt b + 0) = cnt b
    omega
  · show 0 + max (dp b) 0 = dp b
    omega
end G
set_option Elab.async false
set_option linter.all false
set_option maxRecDepth 10000
namespace G
open PySem
/-! the law's own hand -/
def HandL (l : List D) : Prop := ∃ (cells : List Int) (i d s c : Int), l = [.lst (cells.map D.int), .int i, .int d, .int s, .int c] ∧ (∀ x ∈ cells, 0 ≤ x) ∧ 0 ≤ i ∧ 0 ≤ d
def q_l_hand : DSp := fun Ds M P => ∃ ns, Ds = [.scr ns] ∧ ∀ p l, M p = none → HandL l → P (.ptr p) (M.set p (.lst l))
def q_l_draw : DSp := fun Ds M P => ∃ g l m, Ds = [.ptr g, .int m] ∧ M g = some (.lst l) ∧ HandL l ∧ 1 ≤ m ∧ m ≤ 1000 ∧ ∀ l' r, HandL l' → 0 ≤ r → r < m → P (.int r) (M.set g (.lst l'))
def g_draw2 : DS := (sSeq (sIf (tE (gOp dGt (gOp dIx (gVar 0) (gC (.int 2))) (gC (.int 0)))) (sSeq (sAsg (gOp dMod (gB dInt (gOp dIx (gVar 0) (gC (.int 2)))) (gVar 1)) (aName 3)) (sSeq (sIx (gVar 0) (gC (.int 2)) (gOp dDiv (gOp dIx (gVar 0) (gC (.int 2))) (gVar 1))) (sRet (gVar 3)))) sNext) (sSeq (sIx (gVar 0) (gC (.int 4)) (gOp dAdd (gOp dIx (gVar 0) (gC (.int 4))) (gC (.int 1)))) (sSeq (sAsg (gOp dMod (gB dInt (gOp dMul (gB dInt (gOp dAdd (gOp dIx (gVar 0) (gC (.int 3))) (gOp dMul (gC (.int 7919)) (gOp dIx (gVar 0) (gC (.int 4)))))) (gC (.int 48271)))) (gC (.int 2147483647))) (aName 4)) (sSeq (sAsg (gOp dMod (gB dInt (gOp dMul (gVar 4) (gOp dAdd (gOp dDiv (gVar 4) (gC (.int 1009))) (gC (.int 69621))))) (gC (.int 2147483647))) (aName 4)) (sSeq (sAsg (gOp dMod (gB dInt (gOp dMul (gVar 4) (gOp dAdd (gOp dDiv (gVar 4) (gC (.int 2003))) (gC (.int 40692))))) (gC (.int 2147483399))) (aName 4)) (sRet (gOp dMod (gB dInt (gOp dDiv (gVar 4) (gC (.int 16)))) (gVar 1))))))))
def g_draw3 : DS := (sSeq (sIx (gVar 0) (gC (.int 4)) (gOp dAdd (gOp dIx (gVar 0) (gC (.int 4))) (gC (.int 1)))) (sSeq (sAsg (gOp dMod (gB dInt (gOp dMul (gB dInt (gOp dAdd (gOp dIx (gVar 0) (gC (.int 3))) (gOp dMul (gC (.int 7919)) (gOp dIx (gVar 0) (gC (.int 4)))))) (gC (.int 48271)))) (gC (.int 2147483647))) (aName 4)) (sSeq (sAsg (gOp dMod (gB dInt (gOp dMul (gVar 4) (gOp dAdd (gOp dDiv (gVar 4) (gC (.int 1009))) (gC (.int 69621))))) (gC (.int 2147483647))) (aName 4)) (sSeq (sAsg (gOp dMod (gB dInt (gOp dMul (gVar 4) (gOp dAdd (gOp dDiv (gVar 4) (gC (.int 2003))) (gC (.int 40692))))) (gC (.int 2147483399))) (aName 4)) (sRet (gOp dMod (gB dInt (gOp dDiv (gVar 4) (gC (.int 16)))) (gVar 1)))))))
theorem cut_le {α : Type} (xs : List α) : (cut xs none (some 63)).length ≤ 63 := by
  show ((xs.drop 0).take ((if (63 : Int) < 0 then ((63 : Int) + (xs.length : Nat)).toNat else min (63 : Int).toNat xs.length) - 0)).length ≤ 63
  rw [if_neg (by decide), List.length_take]
  have : (63 : Int).toNat = 63 := rfl
  omega
theorem r_l_hand (Ds : List D) (M : Mem) (Q : D → Mem → Prop) (h : q_l_hand Ds M Q) : Ds.length = 1 ∧ g_l_hand (endsD Q) (startD ["script", "cells", "cell"] Ds) M := by
  obtain ⟨ns, rfl, h⟩ := h
  have hl := cut_le ns
  refine ⟨rfl, ?_⟩
  refine cm_map (fun d => match d with | .int i => .int (if i < 0 then -i else i) | d => d) ((cut ns none (some 63)).map D.int) [] (by rw [List.length_map]; exact lim_of (show 0 + _ ≤ 63 by omega) (by decide)) (fun d hd R hR => ?_) ?_
  · obtain ⟨i, _, rfl⟩ := List.mem_map.mp hd
    exact ⟨rfl, hR⟩
  · have e : ([] : List D) ++ ((cut ns none (some 63)).map D.int).map (fun d => match d with | .int i => .int (if i < 0 then -i else i) | d => d) = ((cut ns none (some 63)).map fun i => if i < 0 then -i else i).map D.int := by
      rw [List.nil_append, List.map_map, List.map_map]
      rfl
    rw [e]
    refine ⟨_, rfl, Nat.le_of_ble_eq_true rfl, fun p hp => ⟨_, Mem.le_refl _, h p _ hp ⟨_, 0, 0, _, 0, rfl, fun x hx => ?_, by decide, by decide⟩⟩⟩
    obtain ⟨i, _, rfl⟩ := List.mem_map.mp hx
    by_cases m : i < 0
    · rw [if_pos m]; omega
    · rw [if_neg m]; omega
theorem modb (a : Int) : -(2 ^ 64) < a % 2147483647 ∧ a % 2147483647 < 2 ^ 64 := by omega
theorem r_l_draw (Ds : List D) (M : Mem) (Q : D → Mem → Prop) (h : q_l_draw Ds M Q) : Ds.length = 2 ∧ g_l_draw (endsD Q) (startD ["hand", "many", "cell", "digit", "number"] Ds) M := by
  obtain ⟨g, l, m, rfl, hM, hl, hm1, hm2, h⟩ := h
  have t3 : ∀ (M1 : Mem) (o2 o3 o4 : Option D) (cells : List Int) (i d s c : Int), M1 g = some (.lst [.lst (cells.map D.int), .int i, .int d, .int s, .int c]) → (∀ x ∈ cells, (0 : Int) ≤ x) → 0 ≤ i → 0 ≤ d → (∀ l' r, HandL l' → 0 ≤ r → r < m → Q (.int r) (M1.set g (.lst l'))) → g_draw3 (endsD Q) [some (.ptr g), some (.int m), o2, o3, o4] M1 := by
    intro M1 o2 o3 o4 cells i d s c hM hc hi hd h
    refine ⟨_, _, _, itM hM, rfl, rfl, _, _, 4, _, rfl, rfl, hM, rfl, _, _, _, itM Mem.same, rfl, rfl, _, _, _, itM Mem.same, rfl, rfl, Or.inl ⟨by decide, by decide⟩, Or.inr ⟨by decide, by decide⟩, by decide, ⟨by decide, by decide⟩, Or.inl (modb _), by decide, ⟨by decide, by decide⟩, Or.inl (modb _), by decide, ⟨by decide, by decide⟩, by omega, _, Mem.le_refl _, h _ _ ⟨cells, i, d, s, c + 1, rfl, hc, hi, hd⟩ (Int.emod_nonneg _ (by omega)) (Int.emod_lt_of_pos _ (by omega))⟩
  have t2 : ∀ (M1 : Mem) (o2 o3 o4 : Option D) (cells : List Int) (i d s c : Int), M1 g = some (.lst [.lst (cells.map D.int), .int i, .int d, .int s, .int c]) → (∀ x ∈ cells, (0 : Int) ≤ x) → 0 ≤ i → 0 ≤ d → (∀ l' r, HandL l' → 0 ≤ r → r < m → Q (.int r) (M1.set g (.lst l'))) → g_draw2 (endsD Q) [some (.ptr g), some (.int m), o2, o3, o4] M1 := by
    intro M1 o2 o3 o4 cells i d s c hM hc hi hd h
    refine ⟨_, _, _, itM hM, rfl, rfl, ?_⟩
    conv => whnf
    by_cases hd0 : 0 < d
    · rw [decide_eq_true hd0]
      refine ⟨_, _, _, itM hM, rfl, rfl, by omega, _, _, _, itM hM, rfl, rfl, ⟨by omega, by omega⟩, _, _, 2, _, rfl, rfl, hM, rfl, _, Mem.le_refl _, h _ _ ⟨cells, i, d / m, s, c, rfl, hc, hi, Int.ediv_nonneg hd (by omega)⟩ (Int.emod_nonneg _ (by omega)) (Int.emod_lt_of_pos _ (by omega))⟩
    · rw [decide_eq_false hd0]
      exact t3 M1 o2 o3 o4 cells i d s c hM hc hi hd h
  obtain ⟨cells, i, d, s, c, rfl, hc, hi, hd⟩ := hl
  refine ⟨rfl, _, _, _, itM hM, rfl, rfl, ?_⟩
  conv => whnf
  by_cases hd0 : d = 0
  · rw [decide_eq_true hd0]
    refine ⟨_, _, _, itM hM, rfl, rfl, _, _, _, itM hM, rfl, rfl, _, rfl, ?_⟩
    conv => whnf
    rw [List.length_map]
    by_cases hi2 : i < (cells.length : Int)
    · rw [decide_eq_true hi2]
      obtain ⟨j, rfl⟩ := Int.eq_ofNat_of_zero_le hi
      have hj : j < cells.length := by omega
      have hat : atI (cells.map D.int) (j : Int) = some (.int cells[j]) := atI_nat (by rw [List.getElem?_map, List.getElem?_eq_getElem hj]; rfl)
      have hcj := hc _ (List.getElem_mem hj)
      refine ⟨_, _, _, itM hM, rfl, rfl, _, _, _, itM hM, rfl, rfl, _, _, _, rfl, rfl, hat, _, _, _, itM hM, rfl, rfl, _, _, 1, _, rfl, rfl, hM, rfl, _, _, _, itM Mem.same, rfl, rfl, Or.inr ⟨by decide, by decide⟩, by decide, _, _, 3, _, rfl, rfl, Mem.same, rfl, ⟨by decide, by decide, by decide⟩, ?_⟩
      rw [Mem.set_set]
      conv => whnf
      by_cases hbig : (10 : Int) ^ 18 ≤ cells[j]
      · rw [decide_eq_true (show (10 : Int) ^ (18 : Int).toNat ≤ cells[j] from hbig)]
        refine ⟨_, _, 2, _, rfl, rfl, Mem.same, rfl, ?_⟩
        rw [Mem.set_set]
        refine t2 _ _ _ _ cells _ _ _ _ Mem.same hc (by omega) hcj fun l' r h1 h2 h3 => ?_
        rw [Mem.set_set]
        exact h l' r h1 h2 h3
      · rw [decide_eq_false (show ¬ (10 : Int) ^ (18 : Int).toNat ≤ cells[j] from hbig)]
        refine t2 _ _ _ _ cells _ _ _ _ Mem.same hc (by omega) hd fun l' r h1 h2 h3 => ?_
        rw [Mem.set_set]
        exact h l' r h1 h2 h3
    · rw [decide_eq_false hi2]
      exact t2 M _ _ _ cells i d s c hM hc hi hd h
  · rw [decide_eq_false hd0]
    exact t2 M _ _ _ cells i d s c hM hc hi hd h
def p_l_contents : PSp := p_raw_contents
def grow (acc : List (List Nat)) (s : Nat) : List (List Nat) := acc.flatMap fun c => (List.range s).map fun w => c ++ [w]
theorem grow_len (acc : List (List Nat)) (s : Nat) : (grow acc s).length = acc.length * s := by
  unfold grow
  induction acc with
  | nil => simp
  | cons c r ih => rw [List.flatMap_cons, List.length_append, ih, List.length_map, List.length_range, List.length_cons, Nat.succ_mul, Nat.add_comm]
def growD (s : Nat) (d : D) : List D := match d with
  | .tup l => (List.range s).map fun w => .tup (l ++ [di w])
  | _ => []
theorem growD_eq (acc : List (List Nat)) (s : Nat) : (acc.map dis).flatMap (growD s) = (grow acc s).map dis := by
  unfold grow
  induction acc with
  | nil => rfl
  | cons c r ih =>
    rw [List.map_cons, List.flatMap_cons, List.flatMap_cons, List.map_append, ih]
    congr 1
    show (List.range s).map _ = _
    rw [List.map_map]
    congr 1
    funext w
    show D.tup _ = D.tup _
    rw [List.map_append]
    rfl
theorem r_l_contents (Ds : List D) (Q : D → Prop) (h : p_l_contents Ds Q) : Ds.length = 1 ∧ g_l_contents (endsP Q) (startD ["sizes", "found", "size", "longer", "content", "worth"] Ds) Mem.nil := by
  obtain ⟨sz, rfl, hs, h⟩ := h
  have hs3 : sz.length ≤ 3 ∧ ∀ s ∈ sz, s ≤ 3 := by rcases hs with rfl | rfl | rfl | rfl <;> decide
  refine ⟨rfl, Nat.le_of_ble_eq_true rfl, Nat.le_of_ble_eq_true rfl, ?_⟩
  refine for_of (fun ds Γ M => ∃ rem acc o2 o3 o4 o5, ds = rem.map di ∧ Γ = [some (dis sz), some (.lst (acc.map dis)), o2, o3, o4, o5] ∧ (∀ s ∈ rem, s ≤ 3) ∧ acc.length * 3 ^ rem.length ≤ 27 ∧ (∀ c ∈ acc, c.length + rem.length ≤ 3) ∧ rem.foldl grow acc = contents sz) ?_ ?_ _ _ _ ⟨sz, [[]], none, none, none, none, rfl, rfl, hs3.2, ?_, fun c hc => ?_, rfl⟩
  · rintro Γ M ⟨rem, acc, _, _, _, _, hr, rfl, _, _, _, hf⟩
    cases rem with
    | nil =>
      have hf' : acc = contents sz := hf
      rw [← hf'] at h
      exact h
    | cons a b => cases hr
  · rintro d ds R _ M hR ⟨rem, acc, o2, o3, o4, o5, hr, rfl, hs, hl, hc, hf⟩
    cases rem with
    | nil => cases hr
    | cons s rem =>
      injection hr with e1 e2
      subst e1
      subst e2
      have hs' := hs s List.mem_cons_self
      have hgl : (grow acc s).length * 3 ^ rem.length ≤ 27 := by
        rw [grow_len]
        rw [List.length_cons, Nat.pow_succ] at hl
        have : acc.length * s * 3 ^ rem.length ≤ acc.length * 3 * 3 ^ rem.length := Nat.mul_le_mul_right _ (Nat.mul_le_mul_left _ hs')
        have e : acc.length * 3 * 3 ^ rem.length = acc.length * (3 ^ rem.length * 3) := by rw [Nat.mul_assoc, Nat.mul_comm 3]
        omega
      have hgl2 : (grow acc s).length ≤ 27 := by
        have : (grow acc s).length * 1 ≤ (grow acc s).length * 3 ^ rem.length := Nat.mul_le_mul_left _ (Nat.pow_pos (by decide))
        omega
      refine ⟨Nat.le_of_ble_eq_true rfl, fun p hp => ?_⟩
      refine for_of (fun ds Γ M => ∃ K l o4 o5, ds = K.map dis ∧ Γ = [some (dis sz), some (.lst (acc.map dis)), some (di s), some (.ptr p), o4, o5] ∧ M p = some (.lst l) ∧ (∀ c ∈ K, c ∈ acc) ∧ l ++ (K.map dis).flatMap (growD s) = (grow acc s).map dis) ?_ ?_ _ _ _ ⟨acc, [], o4, o5, rfl, rfl, Mem.same, fun c h => h, growD_eq acc s⟩
      · rintro Γ M' ⟨K, l, o4, o5, hK, rfl, hM', _, hl'⟩
        cases K with
        | nil =>
          have hl2 : l = (grow acc s).map dis := by rw [← hl']; exact (List.append_nil l).symm
          subst hl2
          refine ⟨p, rfl, .inl ⟨_, hM', hR _ _ ⟨rem, grow acc s, _, _, _, _, rfl, rfl, fun t ht => hs t (List.mem_cons_of_mem _ ht), hgl, fun c hc' => ?_, hf⟩⟩⟩
          obtain ⟨c0, hc0, hc1⟩ := List.mem_flatMap.mp hc'
          obtain ⟨w, _, rfl⟩ := List.mem_map.mp hc1
          have := hc c0 hc0
          rw [List.length_append, List.length_singleton]
          rw [List.length_cons] at this
          omega
        | cons a b => cases hK
      · rintro d ds R2 _ M' hR2 ⟨K, l, o4, o5, hK, rfl, hM', hKa, hl'⟩
        cases K with
        | nil => cases hK
        | cons c K =>
          injection hK with e1 e2
          subst e1
          subst e2
          have hcl := hc c (hKa c List.mem_cons_self)
          rw [List.map_cons, List.flatMap_cons] at hl'
          have hll : l.length + (growD s (dis c)).length ≤ 27 := by
            have := congrArg List.length hl'
            rw [List.length_append, List.length_append, List.length_map] at this
            omega
          have hgd : (growD s (dis c)).length = s := by show ((List.range s).map _).length = s; rw [List.length_map, List.length_range]
          refine ⟨p, l, rfl, hM', ⟨by omega, by omega⟩, ?_⟩
          refine cm_map (fun e => .tup (c.map di ++ [e])) _ [] ?_ (fun e he R hR => ⟨rfl, Nat.le_of_ble_eq_true rfl, ?_, hR⟩) ⟨l, growD s (dis c), hM', ?_, lim_of hll (by decide), hR2 _ _ ⟨K, _, _, _, rfl, rfl, Mem.same, fun d hd => hKa d (List.mem_cons_of_mem _ hd), ?_⟩⟩
          · show 0 + (upTo 0 ((s : Int)).toNat).length ≤ _
            unfold upTo
            rw [List.length_map, List.length_range]
            exact lim_of (show 0 + ((s : Int)).toNat ≤ 3 by omega) (by decide)
          · rw [List.length_map]
            exact lim_of (show c.length + 1 ≤ 10 by omega) (by decide)
          · show some ([] ++ (upTo 0 ((s : Int)).toNat).map _) = _
            unfold upTo
            rw [List.nil_append, List.map_map]
            have : ((s : Int)).toNat = s := by omega
            rw [this]
            show _ = some ((List.range s).map _)
            congr 2
            funext w
            show D.tup (c.map di ++ [D.int (0 + (w : Int))]) = D.tup (c.map di ++ [D.int (w : Int)])
            rw [Int.zero_add]
          · rw [List.append_assoc]
            exact hl'
  · show 1 * 3 ^ sz.length ≤ 27
    have := pow3_le hs3.1
    omega
  · rcases List.mem_singleton.mp hc with rfl
    show 0 + _ ≤ 3
    omega
def p_l_is_int : PSp := p_is_integer
theorem r_l_is_int (Ds : List D) (Q : D → Prop) (h : p_l_is_int Ds Q) : Ds.length = 1 ∧ g_l_is_int (endsP Q) (startD ["thing"] Ds) Mem.nil := r_is_integer Ds Q h
end G
set_option Elab.async false
set_option linter.all false
set_option maxRecDepth 10000
namespace G
open PySem
/-! the law's own walk -/
def oline (x : List Nat) (c : Nat) : D := .tup [.str "open", di c, di (x.getD c 0)]
def tline (v : Nat) : D := .tup [.str "throw", di v]
def sline (p : List Nat) : D := .tup [.str "show", dis p]
def kline (n : Nat) : D := .tup [.str "lacking", di n]
def lines (x : List Nat) : Tr → List Nat → List D
  | .show p, _ => [sline p]
  | .opn c t, th => oline x c :: lines x t th
  | .thr n _, [] => [kline n]
  | .thr _ k, v :: th => tline v :: lines x (k v) th
structure WV where
  an : Addr
  al : Addr
  ao : Addr
  names : List (Key × D)
  lines : List D
  op : List Nat
  used : Nat
  over : Bool
def WV.kvs (w : WV) : List (Key × D) := [(Sum.inr "names", .ptr w.an), (Sum.inr "lines", .ptr w.al), (Sum.inr "opened", .ptr w.ao), (Sum.inr "used", di w.used), (Sum.inr "over", .bl w.over)]
structure WM (st : Addr) (w : WV) (M : Mem) : Prop where
  hs : M st = some (.dic w.kvs)
  hn : M w.an = some (.dic w.names)
  hl : M w.al = some (.lst w.lines)
  ho : M w.ao = some (.lst (w.op.map di))
  ns : w.an ≠ st
  lo : w.al ≠ w.ao
section
variable {st : Addr} {w : WV} {M : Mem}
theorem WM.ls (h : WM st w M) : w.al ≠ st := fun e => by have := h.hs; rw [← e, h.hl] at this; cases this
theorem WM.os (h : WM st w M) : w.ao ≠ st := fun e => by have := h.hs; rw [← e, h.ho] at this; cases this
theorem WM.ln (h : WM st w M) : w.al ≠ w.an := fun e => by have := h.hn; rw [← e, h.hl] at this; cases this
theorem WM.on (h : WM st w M) : w.ao ≠ w.an := fun e => by have := h.hn; rw [← e, h.ho] at this; cases this
theorem WM.setl (h : WM st w M) (ls : List D) : WM st { w with lines := ls } (M.set w.al (.lst ls)) :=
  ⟨(Mem.ne h.ls.symm).trans h.hs, (Mem.ne h.ln.symm).trans h.hn, Mem.same, (Mem.ne h.lo.symm).trans h.ho, h.ns, h.lo⟩
theorem WM.seto (h : WM st w M) (op : List Nat) : WM st { w with op := op } (M.set w.ao (.lst (op.map di))) :=
  ⟨(Mem.ne h.os.symm).trans h.hs, (Mem.ne h.on.symm).trans h.hn, (Mem.ne h.lo).trans h.hl, Mem.same, h.ns, h.lo⟩
theorem WM.setn (h : WM st w M) (ns : List (Key × D)) : WM st { w with names := ns } (M.set w.an (.dic ns)) :=
  ⟨(Mem.ne h.ns.symm).trans h.hs, Mem.same, (Mem.ne h.ln).trans h.hl, (Mem.ne h.on).trans h.ho, h.ns, h.lo⟩
theorem WM.setu (h : WM st w M) (u : Nat) (o : Bool) : WM st { w with used := u, over := o } (M.set st (.dic { w with used := u, over := o : WV }.kvs)) :=
  ⟨Mem.same, (Mem.ne h.ns).trans h.hn, (Mem.ne h.ls).trans h.hl, (Mem.ne h.os).trans h.ho, h.ns, h.lo⟩
end
theorem dcM {M : Mem} {a : Addr} {l : List (Key × D)} (h : M a = some (.dic l)) : dcts M (.ptr a) = some l := by
  show (match M a with | some (.dic l) => some l | _ => none) = _
  rw [h]
/-- seeing a column -/
def WV.see (w : WV) (x : List Nat) (c : Nat) : WV := if c ∈ w.op then w else { w with op := w.op ++ [c], lines := w.lines ++ [oline x c] }
def q_l_see : DSp := fun Ds M P => ∃ st c x w, Ds = [di c, dis x, .ptr st] ∧ c < x.length ∧ WM st w M ∧ w.op.length ≤ 1000 ∧ w.lines.length ≤ 1000 ∧ ∀ M', WM st (w.see x c) M' → P .non M'
theorem r_l_see (Ds : List D) (M : Mem) (Q : D → Mem → Prop) (h : q_l_see Ds M Q) : Ds.length = 3 ∧ g_l_see (endsD Q) (startD ["c", "content", "state"] Ds) M := by
  obtain ⟨st, c, x, w, rfl, hc, hw, ho, hl, h⟩ := h
  refine ⟨rfl, _, _, _, dcM hw.hs, rfl, rfl, _, itM hw.ho, .inl ⟨rfl, flat_dis w.op⟩, ?_⟩
  have e := any_dis w.op c
  conv => whnf
  rw [e]
  by_cases m : c ∈ w.op
  · rw [decide_eq_true m]
    refine ⟨M, Mem.le_refl _, h M ?_⟩
    unfold WV.see
    rw [if_pos m]
    exact hw
  · rw [decide_eq_false m]
    have e2 : w.op.map di ++ [di c] = (w.op ++ [c]).map di := by rw [List.map_append]; rfl
    have h1 := hw.seto (w.op ++ [c])
    have h2 := h1.setl (w.lines ++ [oline x c])
    have hs : w.see x c = { w with op := w.op ++ [c], lines := w.lines ++ [oline x c] } := if_neg m
    rw [hs] at h
    refine ⟨_, _, _, dcM hw.hs, rfl, rfl, w.ao, _, rfl, hw.ho, _, hw.ho, ?_, ?_⟩
    · rw [List.length_map]
      exact lim_of ho (by decide) |> fun _ => by unfold lim; omega
    · rw [e2]
      refine ⟨_, _, _, dcM h1.hs, rfl, rfl, w.al, _, rfl, h1.hl, _, _, _, rfl, rfl, dis_atD hc, Nat.le_of_ble_eq_true rfl, _, h1.hl, ?_, _, Mem.le_refl _, h _ h2⟩
      show w.lines.length < lim
      unfold lim
      omega
/-- running a block -/
def IsSeq (d : D) (l : List D) : Prop := d = .tup l ∨ d = .lst l
theorem IsSeq.it {d : D} {l : List D} (h : IsSeq d l) (M : Mem) : items M d = some l := by rcases h with rfl | rfl <;> rfl
def NmOk (names : List (Key × D)) (a : Nat) : Prop := (names = [] ∧ a = 0) ∨ names = [((Sum.inr "a" : Key), di a)]
def q_l_do (n : Nat) : DSp := fun Ds M P => ∃ (st : Addr) (b : Blk) (x : List Nat) (thD : D) (th sz : List Nat) (w : WV) (a : Nat), Ds = [dB b, dis x, thD, .ptr st] ∧ dp b ≤ n ∧ Wf sz w.op b ∧ sz.length ≤ 10 ∧ w.op.Nodup ∧ (∀ c ∈ w.op, c < sz.length) ∧ x.length = sz.length ∧ IsSeq thD (th.map di) ∧ WM st w M ∧ w.over = false ∧ NmOk w.names a ∧ w.used ≤ th.length ∧ w.lines.length + bsz b ≤ 900 ∧
  ∀ M' w', WM st w' M' → w'.over = true → w'.lines = w.lines ++ lines x (tr x a w.op b) (th.drop w.used) → P .non M'
theorem r_l_do (n : Nat) (Ds : List D) (M : Mem) (Q : D → Mem → Prop) (h : q_l_do (n + 1) Ds M Q) : Ds.length = 4 ∧ g_l_do q_l_see (q_l_do n) (endsD Q) (startD ["block", "content", "throws", "state", "statement", "word", "turn", "c", "test", "is_so"] Ds) M := by
  obtain ⟨st, b0, x, thD, th, sz, w, a, rfl, hd, hwf, hsz, hnd, hlt, hx, hth, hw, hov, hnm, hu, hll, h⟩ := h
  refine ⟨rfl, ?_⟩
  refine for_of (fun ds Γ M => ∃ w o4 o5 o6 o7 o8 o9, Γ = [some (dB b0), some (dis x), some thD, some (.ptr st), o4, o5, o6, o7, o8, o9] ∧ WM st w M ∧
    ((w.over = true ∧ ∀ M' w', WM st w' M' → w'.over = true → w'.lines = w.lines → Q .non M') ∨
     (∃ b a, ds = stm b ∧ dp b ≤ n + 1 ∧ Wf sz w.op b ∧ w.op.Nodup ∧ (∀ c ∈ w.op, c < sz.length) ∧ w.over = false ∧ NmOk w.names a ∧ w.used ≤ th.length ∧ w.lines.length + bsz b ≤ 900 ∧
       ∀ M' w', WM st w' M' → w'.over = true → w'.lines = w.lines ++ lines x (tr x a w.op b) (th.drop w.used) → Q .non M'))) ?_ ?_ _ _ _ ⟨w, none, none, none, none, none, none, rfl, hw, .inr ⟨b0, a, rfl, hd, hwf, hnd, hlt, hov, hnm, hu, hll, h⟩⟩
  · rintro Γ M ⟨w, _, _, _, _, _, _, rfl, hw, ⟨hov, h⟩ | ⟨b, a, hb, _⟩⟩
    · exact ⟨M, Mem.le_refl _, h M w hw hov rfl⟩
    · obtain ⟨_, _, e⟩ := stm_ne b
      rw [e] at hb
      cases hb
  · rintro d ds R _ M hR ⟨w, o4, o5, o6, o7, o8, o9, rfl, hw, hcase⟩
    rcases hcase with ⟨hov, h⟩ | ⟨b, a, hb, hd, hwf, hnd, hlt, hov, hnm, hu, hll, h⟩
    · refine ⟨_, _, _, dcM hw.hs, rfl, rfl, ?_⟩
      rw [hov]
      exact ⟨M, Mem.le_refl _, h M w hw hov rfl⟩
    · have hop : w.op.length ≤ sz.length := nodup_len hnd hlt
      refine ⟨_, _, _, dcM hw.hs, rfl, rfl, ?_⟩
      rw [hov]
      cases b with
      | «show» p =>
        injection hb with e1 e2
        subst e1
        have hl1 : w.lines.length + 1 ≤ 900 := hll
        refine ⟨_, _, _, rfl, rfl, rfl, _, _, _, rfl, rfl, rfl, ?_⟩
        refine for_of (fun ds Γ M' => ∃ rem o7, ds = rem.map di ∧ Γ = [some (dB b0), some (dis x), some thD, some (.ptr st), some (sline p), some (.str "show"), o6, o7, o8, o9] ∧ WM st w M' ∧ ∀ c ∈ rem, c ∈ w.op) ?_ ?_ _ _ _ ⟨p, o7, rfl, rfl, hw, fun c hc => hwf.1.mem_iff.mp hc⟩
        · rintro Γ M' ⟨rem, o7, hr, rfl, hw, _⟩
          have h1 := hw.setl (w.lines ++ [sline p])
          refine ⟨_, _, _, dcM hw.hs, rfl, rfl, w.al, _, rfl, hw.hl, _, hw.hl, ?_, st, _, _, rfl, h1.hs, rfl, Nat.le_of_ble_eq_true rfl, hR _ _ ⟨_, _, _, _, _, _, _, rfl, h1.setu w.used true, .inl ⟨rfl, fun M' w' a1 a2 a3 => h M' w' a1 a2 a3⟩⟩⟩
          unfold lim
          omega
        · rintro d ds R2 _ M' hR2 ⟨rem, o7, hr, rfl, hw, hrem⟩
          cases rem with
          | nil => cases hr
          | cons c rem =>
            injection hr with e1 e2
            subst e1
            subst e2
            have hc := hrem c List.mem_cons_self
            have hs : w.see x c = w := if_pos hc
            refine ⟨st, c, x, w, rfl, by rw [hx]; exact hlt c hc, hw, by omega, by omega, fun M' hw' => ?_⟩
            rw [hs] at hw'
            exact hR2 _ _ ⟨rem, _, rfl, rfl, hw', fun c hc => hrem c (List.mem_cons_of_mem _ hc)⟩
      | opn c r =>
        injection hb with e1 e2
        subst e1
        have hcl : c < x.length := by rw [hx]; exact hwf.1
        have hl1 : w.lines.length + (1 + bsz r) ≤ 900 := hll
        refine ⟨_, _, _, rfl, rfl, rfl, _, _, _, rfl, rfl, rfl, st, c, x, w, rfl, hcl, hw, by omega, by omega, fun M' hw' => ?_⟩
        refine hR _ _ ⟨_, _, _, _, _, _, _, rfl, hw', .inr ⟨r, a, e2, hd, ?_⟩⟩
        have h' : ∀ M' w', WM st w' M' → w'.over = true → w'.lines = w.lines ++ lines x (if c ∈ w.op then tr x a w.op r else .opn c (tr x a (w.op ++ [c]) r)) (th.drop w.used) → Q .non M' := h
        have hwf2 := hwf.2
        by_cases m : c ∈ w.op
        · have hs : w.see x c = w := if_pos m
          rw [ins_old m] at hwf2
          rw [hs]
          rw [if_pos m] at h'
          exact ⟨hwf2, hnd, hlt, hov, hnm, hu, by omega, h'⟩
        · have hs : w.see x c = { w with op := w.op ++ [c], lines := w.lines ++ [oline x c] } := if_neg m
          rw [ins_new m] at hwf2
          rw [hs]
          rw [if_neg m] at h'
          refine ⟨hwf2, nodup_snoc hnd m, fun c' hc' => ?_, hov, hnm, hu, ?_, fun M' w' h1 h2 h3 => h' M' w' h1 h2 ?_⟩
          · rcases List.mem_append.mp hc' with m | m
            · exact hlt c' m
            · rcases List.mem_singleton.mp m with rfl
              exact hwf.1
          · show (w.lines ++ [oline x c]).length + bsz r ≤ 900
            rw [List.length_append, List.length_singleton]
            omega
          · rw [h3, List.append_assoc]
            rfl
      | thr n2 r =>
        injection hb with e1 e2
        subst e1
        have hl1 : w.lines.length + (1 + bsz r) ≤ 900 := hll
        have h' : ∀ M' w', WM st w' M' → w'.over = true → w'.lines = w.lines ++ lines x (.thr n2 fun v => tr x v w.op r) (th.drop w.used) → Q .non M' := h
        have hth0 := hth
        rcases hth with e | e
        all_goals
          subst e
          refine ⟨_, _, _, rfl, rfl, rfl, _, _, _, dcM hw.hs, rfl, rfl, _, rfl, ?_⟩
          conv => whnf
          rw [List.length_map]
          by_cases m : w.used = th.length
          · rw [decide_eq_true (show (w.used : Int) = (th.length : Int) by omega)]
            have h1 := hw.setl (w.lines ++ [kline n2])
            refine ⟨_, _, _, dcM hw.hs, rfl, rfl, w.al, _, rfl, hw.hl, _, _, _, rfl, rfl, rfl, Nat.le_of_ble_eq_true rfl, _, hw.hl, ?_, st, _, _, rfl, h1.hs, rfl, Nat.le_of_ble_eq_true rfl, hR _ _ ⟨_, _, _, _, _, _, _, rfl, h1.setu w.used true, .inl ⟨rfl, fun M' w' a1 a2 a3 => h' M' w' a1 a2 ?_⟩⟩⟩
            · unfold lim
              omega
            · rw [a3, List.drop_eq_nil_of_le (by omega)]
              rfl
          · rw [decide_eq_false (show ¬ (w.used : Int) = (th.length : Int) by omega)]
            have hut : w.used < th.length := by omega
            have hdrop : th.drop w.used = th[w.used] :: th.drop (w.used + 1) := List.drop_eq_getElem_cons hut
            have hat : atI (th.map di) (w.used : Int) = some (di th[w.used]) := dis_at hut
            have hput : put w.names (Sum.inr "a") (di th[w.used]) = [((Sum.inr "a" : Key), di th[w.used])] := by
              rcases hnm with ⟨e, _⟩ | e
              · rw [e]; rfl
              · rw [e]; rfl
            have hnl : w.names.length < lim := by
              rcases hnm with ⟨e, _⟩ | e
              · rw [e]; exact Nat.le_of_ble_eq_true rfl
              · rw [e]; exact Nat.le_of_ble_eq_true rfl
            have h1 := hw.setn (put w.names (Sum.inr "a") (di th[w.used]))
            have h2 := h1.setl (w.lines ++ [tline th[w.used]])
            have h3 := h2.setu (w.used + 1) w.over
            refine ⟨_, _, _, dcM hw.hs, rfl, rfl, _, _, _, hth0.it _, rfl, hat, _, _, _, dcM hw.hs, rfl, rfl, _, _, _, rfl, rfl, rfl, w.an, _, _, rfl, hw.hn, rfl, hnl, _, _, _, dcM h1.hs, rfl, rfl, w.al, _, rfl, h1.hl, _, _, _, dcM h1.hs, rfl, rfl, _, _, _, hth0.it _, rfl, hat, Nat.le_of_ble_eq_true rfl, _, h1.hl, ?_, _, _, _, dcM h2.hs, rfl, rfl, st, _, _, rfl, h2.hs, rfl, Nat.le_of_ble_eq_true rfl, hR _ _ ⟨_, _, _, _, _, _, _, rfl, h3, .inr ⟨r, th[w.used], e2, hd, hwf.2, hnd, hlt, hov, .inr hput, hut, ?_, fun M' w' a1 a2 a3 => h' M' w' a1 a2 ?_⟩⟩⟩
            · show w.lines.length < lim
              unfold lim
              omega
            · show (w.lines ++ [tline th[w.used]]).length + bsz r ≤ 900
              rw [List.length_append, List.length_singleton]
              omega
            · rw [a3, hdrop, List.append_assoc]
              rfl
      | ifn v b1 b2 =>
        injection hb with e1 e2
        subst e1
        have hn0 : (val w.names (Sum.inr "a")).getD (.int 0) = di a := by
          rcases hnm with ⟨e, rfl⟩ | e
          · rw [e]; rfl
          · rw [e]; rfl
        have hl1 : w.lines.length + (1 + (bsz b1 + bsz b2)) ≤ 900 := hll
        have hd1 : 1 + max (dp b1) (dp b2) ≤ n + 1 := hd
        refine ⟨_, _, _, rfl, rfl, rfl, _, _, _, rfl, rfl, rfl, _, _, _, rfl, rfl, rfl, _, _, _, dcM hw.hs, rfl, rfl, _, dcM hw.hn, _, _, _, rfl, rfl, rfl, _, _, dcM hw.hn, rfl, ?_⟩
        rw [hn0]
        refine ⟨_, _, _, rfl, rfl, rfl, ?_⟩
        conv => whnf
        have h' : ∀ M' w', WM st w' M' → w'.over = true → w'.lines = w.lines ++ lines x (if a = v then tr x a w.op b1 else tr x a w.op b2) (th.drop w.used) → Q .non M' := h
        by_cases m : a = v
        · rw [decide_eq_true (show (a : Int) = (v : Int) by omega)]
          rw [if_pos m] at h'
          exact ⟨_, _, _, rfl, rfl, rfl, st, b1, x, thD, th, sz, w, a, rfl, by omega, hwf.1, hsz, hnd, hlt, hx, hth, hw, hov, hnm, hu, by omega, fun M' w' h1 h2 h3 => hR _ _ ⟨w', _, _, _, _, _, _, rfl, h1, .inl ⟨h2, fun M'' w'' a1 a2 a3 => h' M'' w'' a1 a2 (a3.trans h3)⟩⟩⟩
        · rw [decide_eq_false (show ¬ (a : Int) = (v : Int) by omega)]
          rw [if_neg m] at h'
          exact ⟨_, _, _, rfl, rfl, rfl, st, b2, x, thD, th, sz, w, a, rfl, by omega, hwf.2, hsz, hnd, hlt, hx, hth, hw, hov, hnm, hu, by omega, fun M' w' h1 h2 h3 => hR _ _ ⟨w', _, _, _, _, _, _, rfl, h1, .inl ⟨h2, fun M'' w'' a1 a2 a3 => h' M'' w'' a1 a2 (a3.trans h3)⟩⟩⟩
      | ifc c v b1 b2 =>
        injection hb with e1 e2
        subst e1
        have hl1 : w.lines.length + (1 + (bsz b1 + bsz b2)) ≤ 900 := hll
        have hd1 : 1 + max (dp b1) (dp b2) ≤ n + 1 := hd
        have hcl : c < x.length := by rw [hx]; exact hwf.1.1
        refine ⟨_, _, _, rfl, rfl, rfl, _, _, _, rfl, rfl, rfl, _, _, _, rfl, rfl, rfl, _, _, _, rfl, rfl, rfl, st, c, x, w, rfl, hcl, hw, by omega, by omega, fun M' hw' => ?_⟩
        refine ⟨_, _, _, rfl, rfl, rfl, _, _, _, rfl, rfl, dis_atD hcl, _, _, _, rfl, rfl, rfl, ?_⟩
        conv => whnf
        have h' : ∀ M' w', WM st w' M' → w'.over = true → w'.lines = w.lines ++ lines x (if c ∈ w.op then (if x.getD c 0 = v then tr x a w.op b1 else tr x a w.op b2) else .opn c (if x.getD c 0 = v then tr x a (w.op ++ [c]) b1 else tr x a (w.op ++ [c]) b2)) (th.drop w.used) → Q .non M' := h
        obtain ⟨w2, hw2, hwf2, hnd2, hlt2, hov2, hnm2, hu2, hll2, h2⟩ : ∃ w2 : WV, WM st w2 M' ∧ (Wf sz w2.op b1 ∧ Wf sz w2.op b2) ∧ w2.op.Nodup ∧ (∀ c ∈ w2.op, c < sz.length) ∧ w2.over = false ∧ NmOk w2.names a ∧ w2.used ≤ th.length ∧ w2.lines.length + (bsz b1 + bsz b2) ≤ 900 ∧ (∀ M' w', WM st w' M' → w'.over = true → w'.lines = w2.lines ++ lines x (if x.getD c 0 = v then tr x a w2.op b1 else tr x a w2.op b2) (th.drop w2.used) → Q .non M') := by
          have hwf2 := hwf.2
          by_cases m : c ∈ w.op
          · have hs : w.see x c = w := if_pos m
            rw [hs] at hw'
            rw [ins_old m] at hwf2
            rw [if_pos m] at h'
            exact ⟨w, hw', hwf2, hnd, hlt, hov, hnm, hu, by omega, h'⟩
          · have hs : w.see x c = { w with op := w.op ++ [c], lines := w.lines ++ [oline x c] } := if_neg m
            rw [hs] at hw'
            rw [ins_new m] at hwf2
            rw [if_neg m] at h'
            refine ⟨_, hw', hwf2, nodup_snoc hnd m, fun c' hc' => ?_, hov, hnm, hu, ?_, fun M' w' h1 h2 h3 => h' M' w' h1 h2 ?_⟩
            · rcases List.mem_append.mp hc' with m | m
              · exact hlt c' m
              · rcases List.mem_singleton.mp m with rfl
                exact hwf.1.1
            · show (w.lines ++ [oline x c]).length + (bsz b1 + bsz b2) ≤ 900
              rw [List.length_append, List.length_singleton]
              omega
            · rw [h3, List.append_assoc]
              rfl
        by_cases m2 : x.getD c 0 = v
        · rw [decide_eq_true (show ((x.getD c 0 : Nat) : Int) = (v : Int) by omega)]
          rw [if_pos m2] at h2
          exact ⟨_, _, _, rfl, rfl, rfl, st, b1, x, thD, th, sz, w2, a, rfl, by omega, hwf2.1, hsz, hnd2, hlt2, hx, hth, hw2, hov2, hnm2, hu2, by omega, fun M' w' h1 h3 h4 => hR _ _ ⟨w', _, _, _, _, _, _, rfl, h1, .inl ⟨h3, fun M'' w'' a1 a2 a3 => h2 M'' w'' a1 a2 (a3.trans h4)⟩⟩⟩
        · rw [decide_eq_false (show ¬ ((x.getD c 0 : Nat) : Int) = (v : Int) by omega)]
          rw [if_neg m2] at h2
          exact ⟨_, _, _, rfl, rfl, rfl, st, b2, x, thD, th, sz, w2, a, rfl, by omega, hwf2.2, hsz, hnd2, hlt2, hx, hth, hw2, hov2, hnm2, hu2, by omega, fun M' w' h1 h3 h4 => hR _ _ ⟨w', _, _, _, _, _, _, rfl, h1, .inl ⟨h3, fun M'' w'' a1 a2 a3 => h2 M'' w'' a1 a2 (a3.trans h4)⟩⟩⟩
end G
set_option Elab.async false
set_option linter.all false
set_option maxRecDepth 10000
namespace G
open PySem
def p_l_walk : PSp := fun Ds k => ∃ (sz x : List Nat) (b : Blk) (thD : D) (th : List Nat), Ds = [dB b, dis x, thD] ∧ Good sz b ∧ Cont sz x ∧ IsSeq thD (th.map di) ∧ k (.lst (lines x (root x b) th))
theorem r_l_walk (Ds : List D) (Q : D → Prop) (h : p_l_walk Ds Q) : Ds.length = 3 ∧ g_l_walk (q_l_do 6) (endsP Q) (startD ["block", "content", "throws", "state"] Ds) Mem.nil := by
  obtain ⟨sz, x, b, thD, th, rfl, hg, hx, hth, h⟩ := h
  refine ⟨rfl, fun a ha => ⟨Nat.le_of_ble_eq_true rfl, fun l hl => ⟨Nat.le_of_ble_eq_true rfl, fun o ho => ⟨rfl, fun st hst => ?_⟩⟩⟩⟩
  have h1 : a ≠ l := Mem.apart Mem.same hl
  have e1 : ((Mem.nil.set a (.dic [])).set l (.lst [])) a = some (.dic []) := (Mem.ne h1).trans Mem.same
  have h2 : a ≠ o := Mem.apart e1 ho
  have h3 : l ≠ o := Mem.apart Mem.same ho
  have e2 := (Mem.ne (o := .lst []) h2).trans e1
  have e3 : (((Mem.nil.set a (.dic [])).set l (.lst [])).set o (.lst [])) l = some (.lst []) := (Mem.ne h3).trans Mem.same
  have h4 : a ≠ st := Mem.apart e2 hst
  have h5 : l ≠ st := Mem.apart e3 hst
  have h6 : o ≠ st := Mem.apart Mem.same hst
  have hsz := hg.siz.len
  have hcnt := hg.cnt
  refine ⟨st, b, x, thD, th, sz, ⟨a, l, o, [], [], [], 0, false⟩, 0, rfl, hg.dp, hg.wf, by omega, List.nodup_nil, nofun, hx.1, hth, ⟨Mem.same, (Mem.ne h4).trans e2, (Mem.ne h5).trans e3, (Mem.ne h6).trans Mem.same, h4, h3⟩, rfl, .inl ⟨rfl, rfl⟩, Nat.zero_le _, ?_, fun M' w' hw' hov hls => ?_⟩
  · rw [bsz_cnt]
    show 0 + cnt b ≤ 900
    omega
  · refine ⟨_, _, _, dcM hw'.hs, rfl, rfl, ?_⟩
    rw [hov]
    refine ⟨_, _, _, dcM hw'.hs, rfl, rfl, w'.al, rfl, .inl ⟨_, hw'.hl, ?_⟩⟩
    rw [hls]
    exact h
inductive Path (x : List Nat) (t0 : Tr) : List D → List Nat → Tr → Prop
  | nil : Path x t0 [] [] t0
  | opn {dn : List D} {vs : List Nat} {c : Nat} {t : Tr} : Path x t0 dn vs (.opn c t) → Path x t0 (dn ++ [oline x c]) vs t
  | thr {dn : List D} {vs : List Nat} {n : Nat} {k : Nat → Tr} (v : Nat) : Path x t0 dn vs (.thr n k) → Path x t0 (dn ++ [tline v]) (vs ++ [v]) (k v)
theorem Path.lines {x : List Nat} {t0 t : Tr} {dn : List D} {vs : List Nat} (h : Path x t0 dn vs t) : ∀ more, lines x t0 (vs ++ more) = dn ++ lines x t more := by
  induction h with
  | nil => exact fun more => rfl
  | opn _ ih => intro more; rw [ih, List.append_assoc]; rfl
  | thr v _ ih => intro more; rw [List.append_assoc, ih, List.append_assoc]; rfl
def isThrow : D → Bool
  | .tup [_, _] => true
  | _ => false
def sec : D → D
  | .tup [_, d] => d
  | _ => .non
theorem Path.throws {x : List Nat} {t0 t : Tr} {dn : List D} {vs : List Nat} (h : Path x t0 dn vs t) : (dn.filter isThrow).map sec = vs.map di := by
  induction h with
  | nil => rfl
  | opn _ ih => rw [List.filter_append, List.map_append, ih]; exact List.append_nil _
  | thr v _ ih => rw [List.filter_append, List.map_append, ih, List.map_append]; rfl
theorem Path.mem {x : List Nat} {t0 t : Tr} {dn : List D} {vs : List Nat} (h : Path x t0 dn vs t) : ∀ d ∈ dn, (∃ c, d = oline x c) ∨ ∃ v, d = tline v := by
  induction h with
  | nil => exact nofun
  | opn _ ih =>
    intro d hd
    rcases List.mem_append.mp hd with m | m
    · exact ih d m
    · exact .inl ⟨_, List.mem_singleton.mp m⟩
  | thr v _ ih =>
    intro d hd
    rcases List.mem_append.mp hd with m | m
    · exact ih d m
    · exact .inr ⟨_, List.mem_singleton.mp m⟩
def dueD (x : List Nat) : Tr → D
  | .show p => sline p
  | .opn c _ => oline x c
  | .thr n _ => kline n
theorem lines_due (x : List Nat) (t : Tr) : ∃ r, lines x t [] = dueD x t :: r := by cases t <;> exact ⟨_, rfl⟩
def p_l_due : PSp := fun Ds k => ∃ (sz x : List Nat) (b : Blk) (dn : List D) (vs : List Nat) (t : Tr), Ds = [dB b, dis x, .lst dn] ∧ Good sz b ∧ Cont sz x ∧ Path x (root x b) dn vs t ∧ dn.length ≤ 900 ∧ k (dueD x t)
theorem r_l_due (Ds : List D) (Q : D → Prop) (h : p_l_due Ds Q) : Ds.length = 3 ∧ g_l_due p_l_walk (endsP Q) (startD ["block", "content", "done", "throws", "lines", "line"] Ds) Mem.nil := by
  obtain ⟨sz, x, b, dn, vs, t, rfl, hg, hx, hp, hl, h⟩ := h
  refine ⟨rfl, ?_⟩
  refine cm_filter isThrow sec dn [] (lim_of (show 0 + _ ≤ 900 by omega) (by decide)) (fun d hd R R' hR hR' => ?_) ?_
  · rcases hp.mem d hd with ⟨c, rfl⟩ | ⟨v, rfl⟩
    · exact ⟨rfl, _, _, _, rfl, rfl, rfl, hR' rfl⟩
    · exact ⟨rfl, _, _, _, rfl, rfl, rfl, _, _, _, rfl, rfl, rfl, hR rfl⟩
  · rw [List.nil_append, hp.throws]
    refine ⟨sz, x, b, _, vs, rfl, hg, hx, .inr rfl, dn, rfl, _, _, dueD x t, rfl, rfl, ?_, h⟩
    have e := hp.lines []
    rw [List.append_nil] at e
    obtain ⟨r, er⟩ := lines_due x t
    rw [e, er]
    exact atI_nat (by rw [List.getElem?_append_right (Nat.le_refl _), Nat.sub_self]; rfl)
def shD : Option (List Nat) → D
  | none => .non
  | some p => dis p
def movD : Option KS → D
  | none => .non
  | some s => .tup [shD s.shown, .lst (s.looked.map di)]
def p_l_moved : PSp := fun Ds k => ∃ (sz x : List Nat) (b : Blk) (pol : Bool × Bool) (ms : List Mv), Ds = [dB b, dis x, plD pol, .tup (ms.map mvD)] ∧ Good sz b ∧ Cont sz x ∧ ms.length ≤ 800 ∧ k (movD (kruns pol (root x b) (KS.start (root x b)) ms))
theorem cut_take {α : Type} (xs : List α) (n : Nat) (h : n ≤ xs.length) : cut xs none (some (n : Int)) = xs.take n := by
  show ((xs.drop 0).take ((if (n : Int) < 0 then ((n : Int) + (xs.length : Nat)).toNat else min (n : Int).toNat xs.length) - 0)) = _
  rw [if_neg (by omega)]
  have : (n : Int).toNat = n := by omega
  rw [this, Nat.min_eq_left h]
  rfl
theorem pl_fall : plain 60 (.tup [.str "fall"]) = true := by decide +kernel
theorem pl_go : plain 60 (.tup [.str "go"]) = true := by decide +kernel
theorem pl_throw : plain 59 (.str "throw") = true := by decide +kernel
theorem pl_thr (v : Nat) : plain 60 (.tup [.str "throw", di v]) = true := by
  show (plain 59 (.str "throw") && (plain 59 (di v) && true)) = true
  rw [pl_throw]
  rfl
theorem r_l_moved (Ds : List D) (Q : D → Prop) (h : p_l_moved Ds Q) : Ds.length = 4 ∧ g_l_moved p_l_due (endsP Q) (startD ["block", "content", "policy", "moves", "done", "sure", "shown", "looked", "move", "line"] Ds) Mem.nil := by
  obtain ⟨sz, x, b, pol, ms, rfl, hg, hx, hm, h⟩ := h
  refine ⟨rfl, Nat.le_of_ble_eq_true rfl, Nat.le_of_ble_eq_true rfl, fun p hp => ?_⟩
  refine for_of (fun ds Γ M => ∃ rem s dn su o8 o9, ds = rem.map mvD ∧ Γ = [some (dB b), some (dis x), some (plD pol), some (.tup (ms.map mvD)), some (.lst dn), some (di su), some (shD s.shown), some (.ptr p), o8, o9] ∧ M p = some (.lst (s.looked.map di)) ∧ su ≤ dn.length ∧ dn.length + rem.length ≤ 850 ∧ s.looked.length + rem.length ≤ 850 ∧ (s.shown = none → ∃ vs vs', Path x (root x b) dn vs s.cur ∧ Path x (root x b) (dn.take su) vs' s.sure) ∧ Q (movD (kruns pol (root x b) s rem))) ?_ ?_ _ _ _ ⟨ms, KS.start (root x b), [], 0, none, none, rfl, rfl, Mem.same, Nat.le_refl _, by show 0 + _ ≤ _; omega, by show 0 + _ ≤ _; omega, fun _ => ⟨[], [], .nil, .nil⟩, h⟩
  · rintro Γ M ⟨rem, s, dn, su, o8, o9, hr, rfl, hM, _, _, _, _, h⟩
    cases rem with
    | nil => exact ⟨p, rfl, .inl ⟨_, hM, Nat.le_of_ble_eq_true rfl, h⟩⟩
    | cons a b => cases hr
  · rintro d ds R _ M hR ⟨rem, s, dn, su, o8, o9, hr, rfl, hM, hsu, hdl, hll, hpath, h⟩
    cases rem with
    | nil => cases hr
    | cons m rem =>
      injection hr with e1 e2
      subst e1
      subst e2
      rw [List.length_cons] at hdl hll
      cases m with
      | fall =>
        refine ⟨Nat.le_of_ble_eq_true rfl, ⟨pl_fall, pl_fall⟩, hR _ _ ⟨rem, { s with cur := s.sure }, dn.take su, su, some (mvD .fall), o9, rfl, ?_, hM, ?_, ?_, by show s.looked.length + _ ≤ _; omega, fun hs => ?_, h⟩⟩
        · rw [← cut_take dn su hsu]
          rfl
        · rw [List.length_take]; omega
        · rw [List.length_take]; omega
        · obtain ⟨vs, vs', h1, h2⟩ := hpath hs
          refine ⟨vs', vs', h2, ?_⟩
          rw [List.take_take, Nat.min_self]
          exact h2
      | go =>
        obtain ⟨cur, sure, shown, looked⟩ := s
        cases shown with
        | some q => exact ⟨Nat.le_of_ble_eq_true rfl, ⟨pl_go, pl_fall⟩, h⟩
        | none =>
          obtain ⟨vs, vs', h1, h2⟩ := hpath rfl
          have hl : dn.length + (rem.length + 1) ≤ 850 := hdl
          have hll' : looked.length + (rem.length + 1) ≤ 850 := hll
          refine ⟨Nat.le_of_ble_eq_true rfl, ⟨pl_go, pl_fall⟩, sz, x, b, dn, vs, cur, rfl, hg, hx, h1, by omega, ?_⟩
          cases cur with
          | thr n kk => exact ⟨_, _, _, rfl, rfl, rfl, _, _, _, rfl, rfl, rfl, h⟩
          | «show» q =>
            refine ⟨_, _, _, rfl, rfl, rfl, _, _, _, rfl, rfl, rfl, _, _, _, rfl, rfl, rfl, Nat.le_of_ble_eq_true rfl, lim_of (show dn.length + 1 ≤ 900 by omega) (by decide), _, rfl, _, _, _, rfl, rfl, rfl, hR _ _ ⟨rem, ⟨root x b, root x b, some q, looked⟩, dn ++ [sline q], (dn ++ [sline q]).length, _, _, rfl, rfl, hM, Nat.le_refl _, ?_, by show looked.length + _ ≤ _; omega, nofun, h⟩⟩
            rw [List.length_append, List.length_singleton]
            omega
          | opn c t =>
            have h3 := h1.opn
            have e : (dn ++ [oline x c]).length = dn.length + 1 := by rw [List.length_append, List.length_singleton]
            have h' : Q (movD (kruns pol (root x b) ⟨t, if pol.2 then .opn c t else sure, none, ins looked c⟩ rem)) := h
            have hil : (ins looked c).length ≤ looked.length + 1 := by
              by_cases m : c ∈ looked
              · rw [ins_old m]; omega
              · rw [ins_new m, List.length_append, List.length_singleton]; omega
            have ea := any_dis looked c
            obtain ⟨p1, p2⟩ := pol
            cases p2 with
            | true =>
              refine ⟨_, _, _, rfl, rfl, rfl, _, _, _, rfl, rfl, rfl, _, _, _, rfl, rfl, rfl, _, _, _, rfl, rfl, rfl, _, rfl, Nat.le_of_ble_eq_true rfl, lim_of (show dn.length + 1 ≤ 900 by omega) (by decide), _, _, _, rfl, rfl, rfl, _, itM hM, .inl ⟨rfl, flat_dis looked⟩, ?_⟩
              conv => whnf
              rw [ea]
              by_cases m : c ∈ looked
              · rw [decide_eq_true m]
                rw [ins_old m] at h'
                refine hR _ _ ⟨rem, ⟨t, .opn c t, none, looked⟩, dn ++ [oline x c], dn.length, _, _, rfl, rfl, hM, by omega, by omega, by show looked.length + _ ≤ _; omega, fun _ => ⟨vs, vs, h3, ?_⟩, h'⟩
                rw [List.take_append_of_le_length (Nat.le_refl _), List.take_of_length_le (Nat.le_refl _)]
                exact h1
              · rw [decide_eq_false m]
                rw [ins_new m] at h' hil
                refine ⟨p, _, rfl, hM, _, _, _, rfl, rfl, rfl, _, hM, ?_, hR _ _ ⟨rem, ⟨t, .opn c t, none, looked ++ [c]⟩, dn ++ [oline x c], dn.length, _, _, rfl, rfl, ?_, by omega, by omega, ?_, fun _ => ⟨vs, vs, h3, ?_⟩, h'⟩⟩
                · rw [List.length_map]
                  exact lim_of (show looked.length + 1 ≤ 900 by omega) (by decide)
                · show (M.set p _) p = some (.lst ((looked ++ [c]).map di))
                  rw [Mem.same, List.map_append]
                  rfl
                · show (looked ++ [c]).length + _ ≤ _
                  omega
                · rw [List.take_append_of_le_length (Nat.le_refl _), List.take_of_length_le (Nat.le_refl _)]
                  exact h1
            | false =>
              refine ⟨_, _, _, rfl, rfl, rfl, _, _, _, rfl, rfl, rfl, _, _, _, rfl, rfl, rfl, _, _, _, rfl, rfl, rfl, Nat.le_of_ble_eq_true rfl, lim_of (show dn.length + 1 ≤ 900 by omega) (by decide), _, _, _, rfl, rfl, rfl, _, itM hM, .inl ⟨rfl, flat_dis looked⟩, ?_⟩
              conv => whnf
              rw [ea]
              by_cases m : c ∈ looked
              · rw [decide_eq_true m]
                rw [ins_old m] at h'
                refine hR _ _ ⟨rem, ⟨t, sure, none, looked⟩, dn ++ [oline x c], su, _, _, rfl, rfl, hM, by omega, by omega, by show looked.length + _ ≤ _; omega, fun _ => ⟨vs, vs', h3, ?_⟩, h'⟩
                rw [List.take_append_of_le_length hsu]
                exact h2
              · rw [decide_eq_false m]
                rw [ins_new m] at h' hil
                refine ⟨p, _, rfl, hM, _, _, _, rfl, rfl, rfl, _, hM, ?_, hR _ _ ⟨rem, ⟨t, sure, none, looked ++ [c]⟩, dn ++ [oline x c], su, _, _, rfl, rfl, ?_, by omega, by omega, ?_, fun _ => ⟨vs, vs', h3, ?_⟩, h'⟩⟩
                · rw [List.length_map]
                  exact lim_of (show looked.length + 1 ≤ 900 by omega) (by decide)
                · show (M.set p _) p = some (.lst ((looked ++ [c]).map di))
                  rw [Mem.same, List.map_append]
                  rfl
                · show (looked ++ [c]).length + _ ≤ _
                  omega
                · rw [List.take_append_of_le_length hsu]
                  exact h2
      | thr v =>
        obtain ⟨cur, sure, shown, looked⟩ := s
        cases shown with
        | some q => exact ⟨Nat.le_of_ble_eq_true rfl, ⟨pl_thr v, pl_fall⟩, h⟩
        | none =>
          obtain ⟨vs, vs', h1, h2⟩ := hpath rfl
          have hl : dn.length + (rem.length + 1) ≤ 850 := hdl
          have hll' : looked.length + (rem.length + 1) ≤ 850 := hll
          refine ⟨Nat.le_of_ble_eq_true rfl, ⟨pl_thr v, pl_fall⟩, sz, x, b, dn, vs, cur, rfl, hg, hx, h1, by omega, ?_⟩
          cases cur with
          | opn c t => exact ⟨_, _, _, rfl, rfl, rfl, _, _, _, rfl, rfl, rfl, h⟩
          | «show» q => exact ⟨_, _, _, rfl, rfl, rfl, _, _, _, rfl, rfl, rfl, h⟩
          | thr n kk =>
            refine ⟨_, _, _, rfl, rfl, rfl, _, _, _, rfl, rfl, rfl, _, _, _, rfl, rfl, rfl, _, _, _, rfl, rfl, rfl, ?_⟩
            conv => whnf
            have hk : kruns pol (root x b) ⟨.thr n kk, sure, none, looked⟩ (.thr v :: rem) = if v < n then kruns pol (root x b) ⟨kk v, if pol.1 then kk v else sure, none, looked⟩ rem else none := by
              show (match (if v < n then some _ else none) with | some s' => kruns pol (root x b) s' rem | none => none) = _
              by_cases m : v < n
              · rw [if_pos m, if_pos m]
              · rw [if_neg m, if_neg m]
            rw [hk] at h
            by_cases m : v < n
            · rw [if_pos m] at h
              rw [decide_eq_true (show (v : Int) < (n : Int) by omega)]
              have h3 := h1.thr v
              have e : (dn ++ [tline v]).length = dn.length + 1 := by rw [List.length_append, List.length_singleton]
              refine ⟨_, _, _, rfl, rfl, rfl, Nat.le_of_ble_eq_true rfl, Nat.le_of_ble_eq_true rfl, lim_of (show dn.length + 1 ≤ 900 by omega) (by decide), _, _, _, rfl, rfl, rfl, ?_⟩
              obtain ⟨p1, p2⟩ := pol
              cases p1 with
              | true =>
                refine ⟨_, rfl, hR _ _ ⟨rem, ⟨kk v, kk v, none, looked⟩, dn ++ [tline v], (dn ++ [tline v]).length, _, _, rfl, rfl, hM, Nat.le_refl _, by omega, by show looked.length + _ ≤ _; omega, fun _ => ⟨vs ++ [v], vs ++ [v], h3, ?_⟩, h⟩⟩
                rw [List.take_of_length_le (Nat.le_refl _)]
                exact h3
              | false =>
                refine hR _ _ ⟨rem, ⟨kk v, sure, none, looked⟩, dn ++ [tline v], su, _, _, rfl, rfl, hM, by omega, by omega, by show looked.length + _ ≤ _; omega, fun _ => ⟨vs ++ [v], vs', h3, ?_⟩, h⟩
                rw [List.take_append_of_le_length hsu]
                exact h2
            · rw [if_neg m] at h
              rw [decide_eq_false (show ¬ (v : Int) < (n : Int) by omega)]
              exact h
end G
set_option Elab.async false
set_option linter.all false
set_option maxRecDepth 10000
namespace G
open PySem
/-! the patterns that are shown -/
def pats : Tr → List (List Nat)
  | .show p => [p]
  | .opn _ t => pats t
  | .thr n k => (List.range n).flatMap fun v => pats (k v)
theorem pats_leaves : ∀ (t : Tr) (th : List Nat), (leaves t th).map (·.1) = pats t
  | .show _, _ => rfl
  | .opn _ t, th => pats_leaves t th
  | .thr n k, th => by
    show ((List.range n).flatMap fun v => leaves (k v) (th ++ [v])).map _ = (List.range n).flatMap fun v => pats (k v)
    rw [List.map_flatMap]
    congr 1
    funext v
    exact pats_leaves (k v) _
def wsz : Tr → Nat
  | .show _ => 1
  | .opn _ t => wsz t
  | .thr n k => 1 + ((List.range n).map fun v => wsz (k v)).sum
theorem wsz_pos : ∀ t : Tr, 1 ≤ wsz t
  | .show _ => Nat.le_refl _
  | .opn _ t => wsz_pos t
  | .thr n k => by show 1 ≤ 1 + _; omega
theorem sum_le {f : Nat → Nat} {b : Nat} (n : Nat) (h : ∀ v, f v ≤ b) : ((List.range n).map f).sum ≤ n * b := by
  induction n with
  | zero => simp
  | succ n ih =>
    rw [List.range_succ, List.map_append, List.sum_append, List.map_cons, List.map_nil, List.sum_cons, List.sum_nil, Nat.succ_mul]
    have := h n
    omega
theorem wsz_le {sz x : List Nat} {h : Nat} {t : Tr} (g : Grown sz x h t) : wsz t ≤ 4 ^ h := by
  induction g with
  | «show» => exact Nat.pow_pos (by decide)
  | opn _ _ ih => exact ih
  | thr h1 h2 _ ih =>
    rename_i h n k _
    show 1 + ((List.range n).map fun v => wsz (k v)).sum ≤ 4 ^ (h + 1)
    have a := sum_le (f := fun v => wsz (k v)) n ih
    have b : n * 4 ^ h ≤ 3 * 4 ^ h := Nat.mul_le_mul_right _ h2
    have c : 1 ≤ 4 ^ h := Nat.pow_pos (by decide)
    rw [Nat.pow_succ]
    omega
theorem peel_pats : ∀ t : Tr, pats (peel t) = pats t
  | .show _ => rfl
  | .opn _ t => peel_pats t
  | .thr _ _ => rfl
theorem peel_wsz : ∀ t : Tr, wsz (peel t) = wsz t
  | .show _ => rfl
  | .opn _ t => peel_wsz t
  | .thr _ _ => rfl
theorem peel_grown {sz x : List Nat} {h : Nat} {t : Tr} (g : Grown sz x h t) : Grown sz x h (peel t) := by
  induction g with
  | «show» a b => exact .show a b
  | opn _ _ ih => exact ih
  | thr a b c _ => exact .thr a b c
theorem peel_not : ∀ (t : Tr) (c : Nat) (u : Tr), peel t ≠ .opn c u
  | .show _, _, _, h => by cases h
  | .opn _ t, c, u, h => peel_not t c u h
  | .thr _ _, _, _, h => by cases h
def Fol (x : List Nat) (t0 : Tr) (th : List Nat) (t : Tr) : Prop := ∀ more, ∃ pre, lines x t0 (th ++ more) = pre ++ lines x t more
theorem fol_peel (x : List Nat) : ∀ (t : Tr) (more : List Nat), ∃ pre, lines x t more = pre ++ lines x (peel t) more
  | .show _, _ => ⟨[], rfl⟩
  | .opn c t, more => by
    obtain ⟨pre, h⟩ := fol_peel x t more
    exact ⟨oline x c :: pre, by show oline x c :: lines x t more = _; rw [h]; rfl⟩
  | .thr _ _, _ => ⟨[], rfl⟩
theorem Fol.peel {x : List Nat} {t0 : Tr} {th : List Nat} {t : Tr} (h : Fol x t0 th t) : Fol x t0 th (peel t) := by
  intro more
  obtain ⟨p1, h1⟩ := h more
  obtain ⟨p2, h2⟩ := fol_peel x t more
  exact ⟨p1 ++ p2, by rw [h1, h2, List.append_assoc]⟩
theorem Fol.thr {x : List Nat} {t0 : Tr} {th : List Nat} {n : Nat} {k : Nat → Tr} (h : Fol x t0 th (.thr n k)) (v : Nat) : Fol x t0 (th ++ [v]) (k v) := by
  intro more
  obtain ⟨p, hp⟩ := h (v :: more)
  exact ⟨p ++ [tline v], by rw [List.append_assoc, List.append_assoc]; exact hp⟩
theorem any_dis2 (F : List (List Nat)) (p : List Nat) : ((F.map dis).any fun z => deq z (dis p)) = decide (p ∈ F) := by
  rw [Bool.eq_iff_iff, List.any_eq_true, decide_eq_true_iff]
  constructor
  · rintro ⟨d, hd, e⟩
    obtain ⟨c', hc, rfl⟩ := List.mem_map.mp hd
    rw [deq_dis, decide_eq_true_iff] at e
    exact e ▸ hc
  · intro h
    exact ⟨dis p, List.mem_map_of_mem h, by rw [deq_dis, decide_eq_true_iff]⟩
theorem plainL_dis (n : Nat) (F : List (List Nat)) : plainL (n + 1) (F.map dis) = true := by
  induction F with
  | nil => rfl
  | cons p r ih =>
    show (plain (n + 1) (dis p) && plainL (n + 1) (r.map dis)) = true
    rw [ih, plain_dis]
    rfl
theorem undM {M : Mem} {a : Addr} {l : List D} (h : M a = some (.lst l)) : und M (.ptr a) = .lst l := by
  show (match M a with | some (MO.lst l) => D.lst l | _ => D.ptr a) = _
  rw [h]
theorem upTo_length (lo : Int) (n : Nat) : (upTo lo n).length = n := by unfold upTo; rw [List.length_map, List.length_range]
def p_l_shows : PSp := fun Ds k => ∃ (sz x : List Nat) (b : Blk), Ds = [dB b, dis x] ∧ Good sz b ∧ Cont sz x ∧ ∀ F : List (List Nat), F.Nodup → (∀ q, q ∈ F ↔ q ∈ pats (root x b)) → k (.lst (F.map dis))
theorem r_l_shows (Ds : List D) (Q : D → Prop) (h : p_l_shows Ds Q) : Ds.length = 2 ∧ g_l_shows p_l_walk (endsP Q) (startD ["block", "content", "found", "waiting", "turn", "throws", "last", "value"] Ds) Mem.nil := by
  obtain ⟨sz, x, b, rfl, hg, hx, h⟩ := h
  refine ⟨rfl, Nat.le_of_ble_eq_true rfl, fun f _ => ⟨Nat.le_of_ble_eq_true rfl, Nat.le_of_ble_eq_true rfl, fun w hw => ⟨⟨by decide, by decide⟩, ?_⟩⟩⟩
  have hfw : f ≠ w := Mem.apart Mem.same hw
  have fin : ∀ (M : Mem) (F : List (List Nat)) (o4 o5 o6 o7 : Option D), M f = some (.lst (F.map dis)) → F.Nodup → (∀ q, q ∈ F ↔ q ∈ pats (root x b)) → (sRet (gFz (gVar 2))) (endsP Q) [some (dB b), some (dis x), some (.ptr f), some (.ptr w), o4, o5, o6, o7] M := by
    intro M F o4 o5 o6 o7 hM hn hF
    exact ⟨f, rfl, .inl ⟨_, hM, h F hn hF⟩⟩
  refine for_of (fun ds Γ M => ∃ (F : List (List Nat)) (S : List (List Nat × Tr)) (o4 o5 o6 o7 : Option D), Γ = [some (dB b), some (dis x), some (.ptr f), some (.ptr w), o4, o5, o6, o7] ∧ M f = some (.lst (F.map dis)) ∧ M w = some (.lst ((S.map (·.1)).map dis)) ∧ (∀ e ∈ S, Fol x (root x b) e.1 e.2 ∧ ∃ h, Grown sz x h e.2 ∧ e.1.length + h ≤ 10) ∧ (S.map fun e => wsz e.2).sum ≤ ds.length ∧ F.Nodup ∧ F.length + ds.length ≤ 3000 ∧ ds.length ≤ 3000 ∧ ∀ q, (q ∈ F ∨ ∃ e ∈ S, q ∈ pats e.2) ↔ q ∈ pats (root x b)) ?_ ?_ _ _ _ ⟨[], [([], root x b)], none, none, none, none, rfl, (Mem.ne hfw).trans Mem.same, Mem.same, fun e he => ?_, ?_, List.nodup_nil, ?_, ?_, fun q => ?_⟩
  · rintro Γ M ⟨F, S, o4, o5, o6, o7, rfl, hF, hW, hS, hsum, hnd, _, _, hq⟩
    have hS0 : S = [] := by
      cases S with
      | nil => rfl
      | cons e r =>
        have := wsz_pos e.2
        rw [List.map_cons, List.sum_cons, List.length_nil] at hsum
        omega
    subst hS0
    exact fin M F o4 o5 o6 o7 hF hnd fun q => ⟨fun m => (hq q).mp (.inl m), fun m => ((hq q).mpr m).elim id fun ⟨e, he, _⟩ => by cases he⟩
  · rintro d ds R _ M hR ⟨F, S, o4, o5, o6, o7, rfl, hF, hW, hS, hsum, hnd, hFl, hdl, hq⟩
    have hu := undM hW
    refine ⟨Nat.le_of_ble_eq_true rfl, ⟨?_, rfl⟩, ?_⟩
    · rw [hu]
      exact plainL_dis 58 _
    · rcases List.eq_nil_or_concat S with rfl | ⟨S', e, rfl⟩
      · conv => whnf
        rw [hu]
        exact fin M F (some d) o5 o6 o7 hF hnd fun q => ⟨fun m => (hq q).mp (.inl m), fun m => ((hq q).mpr m).elim id fun ⟨e, he, _⟩ => by cases he⟩
      · rw [List.concat_eq_append] at hW hS hsum hq hu
        obtain ⟨th, t⟩ := e
        have hne : deq (und M (.ptr w)) (und M (.lst [])) = false := by
          rw [hu, List.map_append, List.map_append]
          show deqL _ [] = false
          cases (S'.map (·.1)).map dis <;> rfl
        conv => whnf
        rw [hne]
        rw [List.map_append, List.map_append] at hW
        obtain ⟨hfol, hh, hgr, hlen⟩ := hS (th, t) (List.mem_append_right _ List.mem_cons_self)
        have hS' : ∀ e ∈ S', Fol x (root x b) e.1 e.2 ∧ ∃ h, Grown sz x h e.2 ∧ e.1.length + h ≤ 10 := fun e he => hS e (List.mem_append_left _ he)
        rw [List.map_append, List.sum_append, List.map_cons, List.map_nil, List.sum_cons, List.sum_nil, List.length_cons] at hsum
        rw [List.length_cons] at hFl hdl
        have hsum2 : (S'.map fun e => wsz e.2).sum + (wsz t + 0) ≤ ds.length + 1 := hsum
        have hsl : S'.length ≤ (S'.map fun e => wsz e.2).sum := by
          clear hS hsum hsum2 hq hS' hW hu hne
          induction S' with
          | nil => exact Nat.le_refl _
          | cons a r ih =>
            have := wsz_pos a.2
            rw [List.length_cons, List.map_cons, List.sum_cons]
            omega
        have hlen2 : th.length + hh ≤ 10 := hlen
        have hfp := hfol.peel
        have hgp := peel_grown hgr
        have hpp := peel_pats t
        have hwp := peel_wsz t
        have hnp := peel_not t
        obtain ⟨pre, hpre⟩ := hfp []
        rw [List.append_nil] at hpre
        refine ⟨w, _, dis th, rfl, hW, sz, x, b, dis th, th, rfl, hg, hx, .inl rfl, _, -1, dueD x (peel t), rfl, rfl, ?_, ?_⟩
        · rw [hpre]
          cases hpt : peel t with
          | «show» p => exact atI_last _ _
          | thr n k => exact atI_last _ _
          | opn c u => exact absurd hpt (hnp c u)
        · cases hpt : peel t with
          | opn c u => exact absurd hpt (hnp c u)
          | «show» p =>
            rw [hpt] at hpp hwp
            have hp1 : pats t = [p] := hpp.symm
            have hw1 : wsz t = 1 := hwp.symm
            have hFw : (M.set w (.lst ((S'.map (·.1)).map dis))) f = some (.lst (F.map dis)) := (Mem.ne hfw).trans hF
            refine ⟨_, _, _, rfl, rfl, rfl, _, _, _, rfl, rfl, rfl, _, itM hFw, .inr ⟨plain_dis 59 p, plainL_dis 58 F, rfl⟩, ?_⟩
            have ea := any_dis2 F p
            conv => whnf
            rw [ea]
            by_cases m : p ∈ F
            · rw [decide_eq_true m]
              refine hR _ _ ⟨F, S', _, _, _, _, rfl, hFw, Mem.same, hS', by omega, hnd, by omega, by omega, fun q => ?_⟩
              rw [← hq q]
              constructor
              · rintro (a | ⟨e, he, a⟩)
                · exact .inl a
                · exact .inr ⟨e, List.mem_append_left _ he, a⟩
              · rintro (a | ⟨e, he, a⟩)
                · exact .inl a
                · rcases List.mem_append.mp he with m2 | m2
                  · exact .inr ⟨e, m2, a⟩
                  · rcases List.mem_singleton.mp m2 with rfl
                    rw [hp1] at a
                    rcases List.mem_singleton.mp a with rfl
                    exact .inl m
            · rw [decide_eq_false m]
              refine ⟨f, _, rfl, hFw, _, _, _, rfl, rfl, rfl, _, hFw, ?_, hR _ _ ⟨F ++ [p], S', _, _, _, _, rfl, ?_, (Mem.ne hfw.symm).trans Mem.same, hS', by omega, ?_, ?_, by omega, fun q => ?_⟩⟩
              · rw [List.length_map]
                unfold lim
                omega
              · rw [Mem.same, List.map_append]
                rfl
              · rw [List.nodup_append]
                refine ⟨hnd, by simp, fun a ha b hb => ?_⟩
                rcases List.mem_singleton.mp hb with rfl
                exact fun e => m (e ▸ ha)
              · rw [List.length_append, List.length_singleton]
                omega
              · rw [← hq q]
                constructor
                · rintro (a | ⟨e, he, a⟩)
                  · rcases List.mem_append.mp a with m2 | m2
                    · exact .inl m2
                    · refine .inr ⟨(th, t), List.mem_append_right _ List.mem_cons_self, ?_⟩
                      rw [hp1]
                      exact m2
                  · exact .inr ⟨e, List.mem_append_left _ he, a⟩
                · rintro (a | ⟨e, he, a⟩)
                  · exact .inl (List.mem_append_left _ a)
                  · rcases List.mem_append.mp he with m2 | m2
                    · exact .inr ⟨e, m2, a⟩
                    · rcases List.mem_singleton.mp m2 with rfl
                      rw [hp1] at a
                      exact .inl (List.mem_append_right _ a)
          | thr n k =>
            rw [hpt] at hpp hwp hgp hfp
            have hp1 : pats t = (List.range n).flatMap fun v => pats (k v) := hpp.symm
            have hw1 : wsz t = 1 + ((List.range n).map fun v => wsz (k v)).sum := hwp.symm
            have hFw : (M.set w (.lst ((S'.map (·.1)).map dis))) f = some (.lst (F.map dis)) := (Mem.ne hfw).trans hF
            cases hgp with
            | thr hn2 hn3 hgk =>
            rename_i hh
            refine ⟨_, _, _, rfl, rfl, rfl, w, _, rfl, Mem.same, _, _, _, rfl, rfl, rfl, ⟨by omega, by omega⟩, ?_⟩
            have hmap : ((upTo 0 ((n : Int)).toNat).map fun e => D.tup (th.map di ++ [e])) = (((List.range n).map fun v => (th ++ [v], k v)).map (·.1)).map dis := by
              unfold upTo
              have : ((n : Int)).toNat = n := by omega
              rw [this, List.map_map, List.map_map, List.map_map]
              congr 1
              funext v
              show D.tup (th.map di ++ [.int (0 + (v : Int))]) = D.tup ((th ++ [v]).map di)
              rw [Int.zero_add, List.map_append]
              rfl
            refine cm_map (fun e => .tup (th.map di ++ [e])) _ [] ?_ (fun e he R hR => ⟨rfl, Nat.le_of_ble_eq_true rfl, ?_, hR⟩) ⟨_, (((List.range n).map fun v => (th ++ [v], k v)).map (·.1)).map dis, Mem.same, ?_, ?_, hR _ _ ⟨F, S' ++ (List.range n).map fun v => (th ++ [v], k v), _, _, _, _, rfl, ?_, ?_, fun e he => ?_, ?_, hnd, by omega, by omega, fun q => ?_⟩⟩
            · unfold upTo
              rw [List.length_map, List.length_range]
              exact lim_of (show 0 + ((n : Int)).toNat ≤ 10 by omega) (by decide)
            · rw [List.length_map]
              exact lim_of (show th.length + 1 ≤ 100 by omega) (by decide)
            · rw [List.nil_append, hmap]
              rfl
            · rw [List.length_map, List.length_map, List.length_map, List.length_map, List.length_map, List.length_range]
              unfold lim
              omega
            · rw [Mem.ne hfw]
              exact hFw
            · rw [Mem.same, List.map_append, List.map_append]
            · rcases List.mem_append.mp he with m2 | m2
              · exact hS' e m2
              · obtain ⟨v, hv, rfl⟩ := List.mem_map.mp m2
                refine ⟨hfp.thr v, hh, hgk v, ?_⟩
                show (th ++ [v]).length + hh ≤ 10
                rw [List.length_append, List.length_singleton]
                omega
            · rw [List.map_append, List.sum_append, List.map_map]
              show _ + ((List.range n).map fun v => wsz (k v)).sum ≤ _
              omega
            · rw [← hq q]
              constructor
              · rintro (a | ⟨e, he, a⟩)
                · exact .inl a
                · rcases List.mem_append.mp he with m2 | m2
                  · exact .inr ⟨e, List.mem_append_left _ m2, a⟩
                  · obtain ⟨v, hv, rfl⟩ := List.mem_map.mp m2
                    refine .inr ⟨(th, t), List.mem_append_right _ List.mem_cons_self, ?_⟩
                    rw [hp1]
                    exact List.mem_flatMap.mpr ⟨v, hv, a⟩
              · rintro (a | ⟨e, he, a⟩)
                · exact .inl a
                · rcases List.mem_append.mp he with m2 | m2
                  · exact .inr ⟨e, List.mem_append_left _ m2, a⟩
                  · rcases List.mem_singleton.mp m2 with rfl
                    rw [hp1] at a
                    obtain ⟨v, hv, a'⟩ := List.mem_flatMap.mp a
                    exact .inr ⟨(th ++ [v], k v), List.mem_append_right _ (List.mem_map.mpr ⟨v, hv, rfl⟩), a'⟩
  · rcases List.mem_singleton.mp he with rfl
    exact ⟨fun more => ⟨[], rfl⟩, 2, hg.grown, Nat.le_of_ble_eq_true rfl⟩
  · have := wsz_le (hg.grown (x := x))
    rw [upTo_length]
    show wsz (root x b) + 0 ≤ 3000
    have e : 4 ^ 2 = 16 := rfl
    omega
  · rw [upTo_length]
    show 0 + 3000 ≤ 3000
    omega
  · rw [upTo_length]
    show 3000 ≤ 3000
    omega
  · constructor
    · rintro (a | ⟨e, he, a⟩)
      · cases a
      · rcases List.mem_singleton.mp he with rfl
        exact a
    · exact fun a => .inr ⟨_, List.mem_cons_self, a⟩
end G
set_option Elab.async false
set_option linter.all false
set_option maxRecDepth 10000
namespace G
open PySem
theorem plain_up : ∀ (n : Nat) (d : D), plain n d = true → plain (n + 1) d = true
  | n, .non, _ => rfl
  | n, .bl _, _ => rfl
  | n, .int _, _ => rfl
  | n, .str x, h => by cases n <;> exact h
  | n, .dic _, h => by cases n <;> cases h
  | n, .obj _ _, h => by cases n <;> cases h
  | n, .ptr _, h => by cases n <;> cases h
  | n, .scr _, h => by cases n <;> cases h
  | 0, .lst l, h => by cases h
  | 0, .tup l, h => by cases h
  | n + 1, .lst l, h => by
    show plainL (n + 1) l = true
    have h' : plainL n l = true := h
    clear h
    induction l with
    | nil => rfl
    | cons a r ih =>
      have h2 : (plain n a && plainL n r) = true := h'
      rw [Bool.and_eq_true] at h2
      show (plain (n + 1) a && plainL (n + 1) r) = true
      rw [plain_up n a h2.1, ih h2.2]
      rfl
  | n + 1, .tup l, h => by
    show plainL (n + 1) l = true
    have h' : plainL n l = true := h
    clear h
    induction l with
    | nil => rfl
    | cons a r ih =>
      have h2 : (plain n a && plainL n r) = true := h'
      rw [Bool.and_eq_true] at h2
      show (plain (n + 1) a && plainL (n + 1) r) = true
      rw [plain_up n a h2.1, ih h2.2]
      rfl
theorem plain_le {n m : Nat} {d : D} (h : plain n d = true) (hm : n ≤ m) : plain m d = true := by
  induction hm with
  | refl => exact h
  | step _ ih => exact plain_up _ d ih
theorem plainL_of {n : Nat} {l : List D} (h : ∀ d ∈ l, plain n d = true) : plainL n l = true := by
  induction l with
  | nil => rfl
  | cons a r ih =>
    show (plain n a && plainL n r) = true
    rw [h a List.mem_cons_self, ih fun d hd => h d (List.mem_cons_of_mem _ hd)]
    rfl
def p_l_is_move : PSp := fun Ds k => ∃ d, Ds = [d] ∧ plain 49 d = true ∧ k (.bl (mvOf d).isSome)
theorem und_plain {M : Mem} {n : Nat} {d : D} (h : plain n d = true) : und M d = d := by
  cases d with
  | ptr a => cases n <;> cases h
  | _ => rfl
theorem pls : plain 60 (.str "throw") = true := by decide +kernel
theorem deq_throw {d : D} {n : Nat} (h : plain n d = true) : deq d (.str "throw") = isStr "throw" d := by
  cases d <;> rfl
/-- is a thing the word 'throw'? -/
theorem dEq_throw {M : Mem} {d : D} {k : D → Prop} (h : plain 60 d = true) (hk : k (.bl (isStr "throw" d))) : dEq M d (.str "throw") k := by
  have e := und_plain (M := M) h
  cases d with
  | str y => exact hk
  | int i => exact ⟨⟨h, pls⟩, hk⟩
  | bl c => exact ⟨⟨h, pls⟩, hk⟩
  | non => exact ⟨⟨h, pls⟩, hk⟩
  | tup l => exact ⟨⟨h, pls⟩, hk⟩
  | lst l => exact ⟨⟨h, pls⟩, hk⟩
  | _ => cases h
theorem pl_list : plainL 59 [.tup [.str "go"], .tup [.str "fall"]] = true := by decide +kernel
theorem mvOf3 (a v u : D) (r : List D) : mvOf (.tup (a :: v :: u :: r)) = none := by cases a <;> cases v <;> rfl
theorem r_l_is_move (Ds : List D) (Q : D → Prop) (h : p_l_is_move Ds Q) : Ds.length = 1 ∧ g_l_is_move p_l_is_int (endsP Q) (startD ["thing"] Ds) Mem.nil := by
  obtain ⟨d, rfl, hp, h⟩ := h
  refine ⟨rfl, plain_noPtr hp, ?_⟩
  have h60 : plain 60 d = true := plain_le hp (by decide)
  cases d with
  | tup l =>
    have hl : plainL 48 l = true := hp
    refine ⟨Nat.le_of_ble_eq_true rfl, ⟨h60, rfl⟩, ?_⟩
    cases l with
    | nil => exact h
    | cons a r =>
      have ha := plainL_mem hl a List.mem_cons_self
      have ha60 : plain 60 a = true := plain_le ha (by decide)
      cases e : isStr "throw" a with
      | true =>
        have := isStr_true e
        subst this
        refine ⟨_, 0, _, rfl, rfl, atI_nat (j := 0) rfl, ?_⟩
        cases r with
        | nil => exact ⟨_, rfl, h⟩
        | cons v r =>
          cases r with
          | nil =>
            have hv := plainL_mem hl v (List.mem_cons_of_mem _ List.mem_cons_self)
            refine ⟨_, rfl, _, _, _, rfl, rfl, rfl, v, rfl, plain_noPtr hv, ?_⟩
            cases v with
            | int i =>
              refine ⟨_, _, _, rfl, rfl, rfl, ?_⟩
              have h' : Q (.bl (if (0 : Int) ≤ i then some (Mv.thr i.toNat) else none).isSome) := h
              show Q (.bl (decide ((0 : Int) ≤ i)))
              by_cases m : (0 : Int) ≤ i
              · rw [if_pos m] at h'
                rw [decide_eq_true m]
                exact h'
              · rw [if_neg m] at h'
                rw [decide_eq_false m]
                exact h'
            | _ => exact h
          | cons u r =>
            rw [mvOf3] at h
            exact ⟨_, rfl, h⟩
      | false =>
        have key : (List.any [D.tup [.str "go"], .tup [.str "fall"]] fun z => deq z (.tup (a :: r))) = (mvOf (.tup (a :: r))).isSome := by
          show ((deq (.str "go") a && deqL [] r) || ((deq (.str "fall") a && deqL [] r) || false)) = _
          cases r with
          | nil =>
            show ((deq (.str "go") a && true) || ((deq (.str "fall") a && true) || false)) = _
            cases a with
            | str z =>
              show ((decide (("go" : Str) = z) && true) || ((decide (("fall" : Str) = z) && true) || false)) = (if z = "go" then some Mv.go else if z = "fall" then some .fall else none).isSome
              by_cases m1 : z = "go"
              · subst m1; rfl
              · rw [if_neg m1, decide_eq_false (fun e => m1 e.symm)]
                by_cases m2 : z = "fall"
                · subst m2; rfl
                · rw [if_neg m2, decide_eq_false (fun e => m2 e.symm)]; rfl
            | _ => rfl
          | cons v s =>
            show ((deq (.str "go") a && false) || ((deq (.str "fall") a && false) || false)) = _
            rw [Bool.and_false, Bool.and_false]
            cases s with
            | nil =>
              cases a with
              | str z =>
                have hz : ¬ z = "throw" := of_decide_eq_false e
                cases v with
                | int i =>
                  show _ = (if z = "throw" then (if (0 : Int) ≤ i then some (Mv.thr i.toNat) else none) else none).isSome
                  rw [if_neg hz]
                  rfl
                | _ => rfl
              | _ => rfl
            | cons _ _ => rw [mvOf3]; rfl
        have rest : (sRet (gOp dIn (gVar 0) (gLstF (gCons (gTup (gCons (gC (.str "go")) gNil)) (gCons (gTup (gCons (gC (.str "fall")) gNil)) gNil))))) (endsP Q) [some (.tup (a :: r))] Mem.nil := by
          refine ⟨Nat.le_of_ble_eq_true rfl, Nat.le_of_ble_eq_true rfl, Nat.le_of_ble_eq_true rfl, _, rfl, .inr ⟨h60, pl_list, rfl⟩, ?_⟩
          conv => whnf
          rw [key]
          exact h
        refine ⟨_, 0, a, rfl, rfl, atI_nat (j := 0) rfl, ?_⟩
        cases a with
        | str y =>
          conv => whnf
          rw [show decide (y = "throw") = false from e]
          exact rest
        | ptr _ => cases ha60
        | scr _ => cases ha60
        | obj _ _ => cases ha60
        | dic _ => cases ha60
        | _ => exact ⟨⟨ha60, pls⟩, rest⟩
  | _ => exact h
end G
set_option Elab.async false
set_option linter.all false
set_option maxRecDepth 10000
namespace G
open PySem
def p_l_is_breach : PSp := fun Ds k => ∃ (sz : List Nat) (b : Blk) (pol : Bool × Bool) (th : D), Ds = [dis sz, dB b, plD pol, th] ∧ Good sz b ∧ Thing th ∧ k (.bl (isBr sz b pol th))
theorem isBr_tail {sz : List Nat} {b : Blk} {pol : Bool × Bool} {th : D} (h : ∀ xs ms, th = .tup [.tup xs, .tup ms] → isContent sz (.tup xs) = true → mvsOf ms ≠ none → False) : isBr sz b pol th = false := by
  unfold isBr
  split
  · rename_i xs ms
    by_cases e : isContent sz (.tup xs) = true
    · rw [if_pos e]
      split
      · rename_i x m h1 h2
        exact (h xs ms rfl e (by rw [h2]; exact nofun)).elim
      · rfl
    · rw [if_neg e]
  · rfl
theorem content_ints {sz : List Nat} : ∀ {xs : List D}, withinAll xs sz = true → ∀ d ∈ xs, isInt d = true := by
  intro xs h d hd
  obtain ⟨x, rfl, _, _⟩ := nats_of xs sz h
  obtain ⟨c, _, rfl⟩ := List.mem_map.mp hd
  rfl
theorem ints_list {xs : List D} (h : ∀ d ∈ xs, isInt d = true) : ∃ ns : List Int, xs = ns.map D.int := by
  induction xs with
  | nil => exact ⟨[], rfl⟩
  | cons d r ih =>
    obtain ⟨ns, rfl⟩ := ih fun d hd => h d (List.mem_cons_of_mem _ hd)
    have := h d List.mem_cons_self
    cases d with
    | int i => exact ⟨i :: ns, rfl⟩
    | _ => cases this
theorem deq_ints : ∀ (x : List Nat) (ns : List Int), deqL (x.map di) (ns.map D.int) = true → ns.map D.int = x.map di
  | [], [], _ => rfl
  | a :: x, i :: ns, h => by
    have h' : ((a : Int) == i && deqL (x.map di) (ns.map D.int)) = true := h
    rw [Bool.and_eq_true, beq_iff_eq] at h'
    rw [List.map_cons, List.map_cons, deq_ints x ns h'.2, ← h'.1]
  | [], _ :: _, h => by cases h
  | _ :: _, [], h => by cases h
theorem two_lt {n : Nat} (h : n < 2) : n = 0 ∨ n = 1 := by omega
theorem three_lt {n : Nat} (h : n < 3) : n = 0 ∨ n = 1 ∨ n = 2 := by omega
theorem contents_all {sz x : List Nat} (hs : Sz sz) (h : Cont sz x) : x ∈ contents sz := by
  obtain ⟨hl, hc⟩ := h
  rcases hs with rfl | rfl | rfl | rfl
  · match x, hl with
    | [a, b], _ =>
      have h0 : a < 2 := hc 0 (by decide)
      have h1 : b < 2 := hc 1 (by decide)
      rcases two_lt h0 with rfl | rfl <;> rcases two_lt h1 with rfl | rfl <;> decide
  · match x, hl with
    | [a, b], _ =>
      have h0 : a < 3 := hc 0 (by decide)
      have h1 : b < 2 := hc 1 (by decide)
      rcases three_lt h0 with rfl | rfl | rfl <;> rcases two_lt h1 with rfl | rfl <;> decide
  · match x, hl with
    | [a, b, c], _ =>
      have h0 : a < 2 := hc 0 (by decide)
      have h1 : b < 2 := hc 1 (by decide)
      have h2 : c < 2 := hc 2 (by decide)
      rcases two_lt h0 with rfl | rfl <;> rcases two_lt h1 with rfl | rfl <;> rcases two_lt h2 with rfl | rfl <;> decide
  · match x, hl with
    | [a], _ =>
      have h0 : a < 2 := hc 0 (by decide)
      rcases two_lt h0 with rfl | rfl <;> decide
theorem cont_within : ∀ (x sz : List Nat), Cont sz x → withinAll (x.map di) sz = true
  | [], [], _ => rfl
  | a :: x, s :: sz, h => by
    have h0 : a < s := h.2 0 (Nat.zero_lt_succ _)
    show (isWithin (di a) 0 ((s : Int) - 1) && withinAll (x.map di) sz) = true
    have e : isWithin (di a) 0 ((s : Int) - 1) = true := by
      show (decide ((0 : Int) ≤ (a : Int)) && decide ((a : Int) ≤ (s : Int) - 1)) = true
      rw [decide_eq_true (by omega), decide_eq_true (by omega)]; rfl
    rw [e, cont_within x sz ⟨Nat.succ.inj h.1, fun i hi => h.2 (i + 1) (Nat.succ_lt_succ hi)⟩]
    rfl
  | [], _ :: _, h => by cases h.1
  | _ :: _, [], h => by cases h.1
theorem any_contents {sz : List Nat} (hs : Sz sz) (ns : List Int) : (((contents sz).map dis).any fun z => deq z (.tup (ns.map D.int))) = isContent sz (.tup (ns.map D.int)) := by
  rw [Bool.eq_iff_iff, List.any_eq_true]
  constructor
  · rintro ⟨d, hd, e⟩
    obtain ⟨x, hx, rfl⟩ := List.mem_map.mp hd
    have e2 := deq_ints x ns e
    show withinAll (ns.map D.int) sz = true
    rw [e2]
    exact cont_within x sz (cont_of hs hx)
  · intro h
    obtain ⟨x, e, _, hc⟩ := nats_of _ sz (show withinAll (ns.map D.int) sz = true from h)
    refine ⟨dis x, List.mem_map_of_mem (contents_all hs hc), ?_⟩
    rw [e]
    exact (deq_dis x x).trans (decide_eq_true rfl)
theorem mvs_all : ∀ (ms : List D), (∀ d ∈ ms, (mvOf d).isSome = true) → ∃ m : List Mv, ms = m.map mvD ∧ mvsOf ms = some m
  | [], _ => ⟨[], rfl, rfl⟩
  | d :: r, h => by
    obtain ⟨m, rfl, hm⟩ := mvs_all r fun d hd => h d (List.mem_cons_of_mem _ hd)
    obtain ⟨v, hv⟩ := Option.isSome_iff_exists.mp (h d List.mem_cons_self)
    refine ⟨v :: m, by rw [mvOf_some hv]; rfl, ?_⟩
    show (match mvOf d, mvsOf (m.map mvD) with | some m, some ms => some (m :: ms) | _, _ => none) = _
    rw [hv, hm]
theorem mvs_none : ∀ (ms : List D) (d : D), d ∈ ms → (mvOf d).isSome = false → mvsOf ms = none
  | e :: r, d, hd, h => by
    show (match mvOf e, mvsOf r with | some m, some ms => some (m :: ms) | _, _ => none) = _
    rcases List.mem_cons.mp hd with rfl | hd
    · cases e2 : mvOf d with
      | none => rfl
      | some m => rw [e2] at h; cases h
    · rw [mvs_none r d hd h]
      cases mvOf e <;> rfl
theorem all_false {l : List Bool} (h : l.all id = false) : ∃ b ∈ l, b = false := by
  induction l with
  | nil => cases h
  | cons a r ih =>
    cases a with
    | false => exact ⟨false, List.mem_cons_self, rfl⟩
    | true =>
      obtain ⟨b, hb, e⟩ := ih h
      exact ⟨b, List.mem_cons_of_mem _ hb, e⟩
theorem all_id {l : List Bool} (h : l.all id = true) : ∀ b ∈ l, b = true := fun b hb => List.all_eq_true.mp h b hb
theorem kstep_looked {pol : Bool × Bool} {r : Tr} {s s' : KS} {m : Mv} (h : kstep pol r s m = some s') : s'.looked.length ≤ s.looked.length + 1 := by
  obtain ⟨cur, sure, shown, looked⟩ := s
  cases m with
  | fall =>
    injection h with h
    subst h
    exact Nat.le_succ _
  | go =>
    cases shown with
    | some p => cases h
    | none =>
      cases cur with
      | «show» p =>
        injection h with h
        subst h
        exact Nat.le_succ _
      | opn c t =>
        injection h with h
        subst h
        show (ins looked c).length ≤ looked.length + 1
        by_cases m : c ∈ looked
        · rw [ins_old m]; omega
        · rw [ins_new m, List.length_append, List.length_singleton]; omega
      | thr n k => cases h
  | thr v =>
    cases shown with
    | some p => cases h
    | none =>
      cases cur with
      | thr n k =>
        have h' : (if v < n then some (⟨k v, if pol.1 then k v else sure, none, looked⟩ : KS) else none) = some s' := h
        by_cases m : v < n
        · rw [if_pos m] at h'
          injection h' with h'
          subst h'
          exact Nat.le_succ _
        · rw [if_neg m] at h'
          cases h'
      | opn c t => cases h
      | «show» p => cases h
theorem kruns_looked {pol : Bool × Bool} {r : Tr} : ∀ (ms : List Mv) {s s' : KS}, kruns pol r s ms = some s' → s'.looked.length ≤ s.looked.length + ms.length
  | [], s, s', h => by injection h with h; subst h; exact Nat.le_refl _
  | m :: ms, s, s', h => by
    have h' : (match kstep pol r s m with | some s1 => kruns pol r s1 ms | none => none) = some s' := h
    cases e : kstep pol r s m with
    | none => rw [e] at h'; cases h'
    | some s1 =>
      rw [e] at h'
      have a := kstep_looked e
      have b := kruns_looked ms h'
      rw [List.length_cons]
      omega
theorem r_l_is_breach (Ds : List D) (Q : D → Prop) (h : p_l_is_breach Ds Q) : Ds.length = 4 ∧ g_l_is_breach p_l_is_int p_l_contents p_l_is_move p_l_moved (endsP Q) (startD ["sizes", "block", "policy", "thing", "told", "worth", "move", "c"] Ds) Mem.nil := by
  obtain ⟨sz, b, pol, th, rfl, hg, hth, h⟩ := h
  have hnp : noPtr th = true := by
    rcases hth.1 with rfl | h
    · rfl
    · exact plain_noPtr h
  refine ⟨rfl, hnp, ?_⟩
  cases th with
  | tup l =>
    have hpl : plainL 49 l = true := by
      rcases hth.1 with h | h
      · cases h
      · exact h
    refine ⟨l, rfl, ?_⟩
    conv => whnf
    by_cases hl2 : l.length = 2
    · match l, hl2 with
      | [c, r], _ =>
        have hpc := plainL_mem hpl c List.mem_cons_self
        have hpr := plainL_mem hpl r (List.mem_cons_of_mem _ List.mem_cons_self)
        refine ⟨_, _, _, rfl, rfl, rfl, plain_noPtr hpr, ?_⟩
        cases r with
        | tup ms =>
          refine ⟨_, _, _, rfl, rfl, rfl, plain_noPtr hpc, ?_⟩
          have hml : ms.length ≤ 800 := (hth.2.2 _ rfl _ ms rfl).1
          have hpms : plainL 48 ms = true := hpr
          cases c with
          | tup xs =>
            have hpxs : plainL 48 xs = true := hpc
            have hxl : xs.length ≤ 800 := (hth.2.2 _ rfl _ ms rfl).2 xs rfl
            refine ⟨_, _, _, rfl, rfl, rfl, ?_⟩
            refine cm_map (fun d => .bl (isInt d)) xs [] (lim_of (show 0 + _ ≤ 800 by omega) (by decide)) (fun d hd R hR => ⟨rfl, d, rfl, plain_noPtr (plainL_mem hpxs d hd), hR⟩) ⟨rfl, _, _, rfl, all_bl xs isInt, ?_⟩
            conv => whnf
            cases e1 : (xs.map isInt).all id with
            | false =>
              obtain ⟨_, hb, rfl⟩ := all_false e1
              obtain ⟨d, hd, e2⟩ := List.mem_map.mp hb
              rw [isBr_tail (fun xs' ms' e hc _ => by
                injection e with e; injection e with e _; injection e with e; subst e
                rw [content_ints (show withinAll xs sz = true from hc) d hd] at e2
                cases e2)] at h
              exact h
            | true =>
              obtain ⟨ns, rfl⟩ := ints_list fun d hd => all_id e1 _ (List.mem_map_of_mem hd)
              refine ⟨_, _, _, rfl, rfl, rfl, sz, rfl, hg.siz, _, rfl, .inr ⟨plain_le (n := 49) hpc (by decide), plainL_dis 58 _, rfl⟩, ?_⟩
              have ea := any_contents hg.siz ns
              conv => whnf
              rw [ea]
              cases e2 : isContent sz (.tup (ns.map D.int)) with
              | false =>
                rw [isBr_tail (fun xs' ms' e hc _ => by
                  injection e with e; injection e with e _; injection e with e; subst e
                  rw [e2] at hc
                  cases hc)] at h
                exact h
              | true =>
                refine ⟨_, _, _, rfl, rfl, rfl, ?_⟩
                refine cm_map (fun d => .bl (mvOf d).isSome) ms [] (lim_of (show 0 + _ ≤ 800 by omega) (by decide)) (fun d hd R hR => ⟨rfl, d, rfl, plain_le (plainL_mem hpms d hd) (by decide), hR⟩) ⟨rfl, _, _, rfl, all_bl ms fun d => (mvOf d).isSome, ?_⟩
                conv => whnf
                cases e3 : (ms.map fun d => (mvOf d).isSome).all id with
                | false =>
                  obtain ⟨_, hb, rfl⟩ := all_false e3
                  obtain ⟨d, hd, e4⟩ := List.mem_map.mp hb
                  rw [isBr_tail (fun xs' ms' e _ hm => by
                    injection e with e; injection e with _ e; injection e with e _; injection e with e; subst e
                    exact hm (mvs_none ms d hd e4))] at h
                  exact h
                | true =>
                  obtain ⟨m, rfl, hm⟩ := mvs_all ms fun d hd => all_id e3 _ (List.mem_map_of_mem hd)
                  obtain ⟨x, ex, hnx, hx⟩ := nats_of _ sz (show withinAll (ns.map D.int) sz = true from e2)
                  rw [isBr_tup e2 hnx, kall_eq, hm] at h
                  rw [List.length_map] at hml
                  refine ⟨_, _, _, rfl, rfl, rfl, _, _, _, rfl, rfl, rfl, sz, x, b, pol, m, by rw [ex], hg, hx, hml, ?_⟩
                  have h' : Q (.bl (badO (kruns pol (root x b) (KS.start (root x b)) m))) := h
                  cases e5 : kruns pol (root x b) (KS.start (root x b)) m with
                  | none =>
                    rw [e5] at h'
                    exact h'
                  | some s =>
                    rw [e5] at h'
                    obtain ⟨cur, sure, shown, looked⟩ := s
                    cases shown with
                    | none => exact ⟨_, _, _, rfl, rfl, rfl, h'⟩
                    | some p =>
                      refine ⟨_, _, _, rfl, rfl, rfl, _, _, _, rfl, rfl, rfl, ?_⟩
                      have hlk : looked.length ≤ 0 + m.length := kruns_looked m e5
                      refine cm_map (fun d => .bl (!(p.map di).any fun z => deq z d)) (looked.map di) [] (by rw [List.length_map]; exact lim_of (show 0 + _ ≤ 900 by omega) (by decide)) (fun d hd R hR => ?_) ⟨_, _, rfl, all_bl (looked.map di) fun d => !(p.map di).any fun z => deq z d, ?_⟩
                      · obtain ⟨c, _, rfl⟩ := List.mem_map.mp hd
                        exact ⟨rfl, _, _, _, rfl, rfl, rfl, p.map di, rfl, .inl ⟨rfl, flat_dis p⟩, hR⟩
                      · have e6 : ((looked.map di).map fun d => !(p.map di).any fun z => deq z d).any id = looked.any fun c => !decide (c ∈ p) := by
                          rw [List.map_map, List.any_map]
                          congr 1
                          funext c
                          show (!(p.map di).any fun z => deq z (di c)) = _
                          rw [any_dis]
                        rw [e6]
                        exact h'
          | _ =>
            rw [isBr_tail (fun xs ms e _ _ => by injection e with e; injection e with e _; cases e)] at h
            exact h
        | _ =>
          rw [isBr_tail (fun xs ms e _ _ => by injection e with e; injection e with _ e; injection e with e _; cases e)] at h
          exact h
    · rw [decide_eq_false (show ¬ (l.length : Int) = 2 by omega)]
      rw [isBr_tail (fun xs ms e _ _ => by injection e with e; subst e; exact hl2 rfl)] at h
      exact h
  | _ =>
    rw [isBr_tail (fun xs ms e _ _ => by cases e)] at h
    exact h
end G
set_option Elab.async false
set_option linter.all false
set_option maxRecDepth 10000
namespace G
open PySem
def q_l_some_moves : DSp := fun Ds M P => ∃ (g : Addr) (l : List D) (sz x : List Nat) (b : Blk) (pol : Bool × Bool), Ds = [.ptr g, dB b, dis x, plD pol] ∧ M g = some (.lst l) ∧ HandL l ∧ Good sz b ∧ Cont sz x ∧ ∀ l' (m : List Mv), HandL l' → m.length ≤ 20 → P (.tup (m.map mvD)) (M.set g (.lst l'))
theorem r_l_some_moves (Ds : List D) (M : Mem) (Q : D → Mem → Prop) (h : q_l_some_moves Ds M Q) : Ds.length = 4 ∧ g_l_some_moves q_l_draw p_l_moved (endsD Q) (startD ["hand", "block", "content", "policy", "moves", "turn", "told", "way", "move"] Ds) M := by
  obtain ⟨g, l, sz, x, b, pol, rfl, hM, hl, hg, hx, h⟩ := h
  refine ⟨rfl, Nat.le_of_ble_eq_true rfl, g, l, 8, rfl, hM, hl, by decide, by decide, fun l1 r1 hl1 hr0 hr8 => ⟨⟨by omega, by omega⟩, ?_⟩⟩
  refine for_of (fun ds Γ M' => ∃ (m : List Mv) (l' : List D) (o5 o6 o7 o8 : Option D), Γ = [some (.ptr g), some (dB b), some (dis x), some (plD pol), some (.tup (m.map mvD)), o5, o6, o7, o8] ∧ M' = M.set g (.lst l') ∧ HandL l' ∧ m.length + ds.length ≤ 20) ?_ ?_ _ _ _ ⟨[], l1, none, none, none, none, rfl, rfl, hl1, ?_⟩
  · rintro Γ _ ⟨m, l', _, _, _, _, rfl, rfl, hl', hm⟩
    exact ⟨_, Mem.le_refl _, h l' m hl' hm⟩
  · rintro d ds R _ _ hR ⟨m, l', o5, o6, o7, o8, rfl, rfl, hl', hm⟩
    rw [List.length_cons] at hm
    refine ⟨sz, x, b, pol, m, rfl, hg, hx, by omega, ?_⟩
    have rest : (sSeq (sAsg (gCall q_l_draw (gCons (gVar 0) (gCons (gC (.int 6)) gNil))) (aName 7)) (sSeq (sAsg (gTup (gCons (gC (.str "fall")) gNil)) (aName 8)) (sSeq (sIf (tE (gOp dGt (gVar 7) (gC (.int 1)))) (sSeq (sAsg (gTup (gCons (gC (.str "go")) gNil)) (aName 8)) (sIf (tE (gIsN (gPure p_l_moved (gCons (gVar 1) (gCons (gVar 2) (gCons (gVar 3) (gCons (gOp dAdd (gVar 4) (gTup (gCons (gVar 8) gNil))) gNil))))))) (sAsg (gTup (gCons (gC (.str "throw")) (gCons (gCall q_l_draw (gCons (gVar 0) (gCons (gC (.int 3)) gNil))) gNil))) (aName 8)) sNext)) sNext) (sAsg (gOp dAdd (gVar 4) (gTup (gCons (gVar 8) gNil))) (aName 4))))) { endsD Q with nx := R, ct := R, bk := (sRet (gVar 4)) (endsD Q) } [some (.ptr g), some (dB b), some (dis x), some (plD pol), some (.tup (m.map mvD)), some d, some (movD (kruns pol (root x b) (KS.start (root x b)) m)), o7, o8] (M.set g (.lst l')) := by
      refine ⟨g, l', 6, rfl, Mem.same, hl', by decide, by decide, fun l2 r2 hl2 hr20 hr26 => ⟨Nat.le_of_ble_eq_true rfl, ?_⟩⟩
      rw [Mem.set_set]
      have hlim : (m.map mvD).length + 1 ≤ lim := by rw [List.length_map]; exact lim_of (show m.length + 1 ≤ 100 by omega) (by decide)
      have fin : ∀ (v : Mv) (l3 : List D) (o6 o7 : Option D), HandL l3 → R [some (.ptr g), some (dB b), some (dis x), some (plD pol), some (.tup (m.map mvD ++ [mvD v])), some d, o6, o7, some (mvD v)] (M.set g (.lst l3)) := by
        intro v l3 o6 o7 hl3
        refine hR _ _ ⟨m ++ [v], l3, some d, o6, o7, some (mvD v), ?_, rfl, hl3, ?_⟩
        · rw [List.map_append]
          rfl
        · rw [List.length_append, List.length_singleton]
          omega
      conv => whnf
      by_cases m1 : 1 < r2
      · rw [decide_eq_true m1]
        refine ⟨Nat.le_of_ble_eq_true rfl, Nat.le_of_ble_eq_true rfl, hlim, sz, x, b, pol, m ++ [.go], ?_, hg, hx, ?_, ?_⟩
        · rw [List.map_append]
          rfl
        · rw [List.length_append, List.length_singleton]
          omega
        · cases e : kruns pol (root x b) (KS.start (root x b)) (m ++ [.go]) with
          | some s => exact ⟨Nat.le_of_ble_eq_true rfl, hlim, fin .go l2 _ _ hl2⟩
          | none =>
            refine ⟨g, l2, 3, rfl, Mem.same, hl2, by decide, by decide, fun l3 r3 hl3 hr30 hr33 => ⟨Nat.le_of_ble_eq_true rfl, Nat.le_of_ble_eq_true rfl, hlim, ?_⟩⟩
            rw [Mem.set_set]
            obtain ⟨w, rfl⟩ := Int.eq_ofNat_of_zero_le hr30
            exact fin (.thr w) l3 _ _ hl3
      · rw [decide_eq_false m1]
        exact ⟨Nat.le_of_ble_eq_true rfl, hlim, fin .fall l2 _ _ hl2⟩
    have out : ∃ M', M'.le (M.set g (.lst l')) ∧ Q (.tup (m.map mvD)) M' := ⟨_, Mem.le_refl _, h l' m hl' (by omega)⟩
    cases e : kruns pol (root x b) (KS.start (root x b)) m with
    | none => exact out
    | some s =>
      rw [e] at rest
      obtain ⟨cur, sure, shown, looked⟩ := s
      cases shown with
      | some p => exact ⟨_, _, _, rfl, rfl, rfl, out⟩
      | none => exact ⟨_, _, _, rfl, rfl, rfl, rest⟩
  · rw [upTo_length]
    show 0 + _ ≤ _
    omega
/-! bent things -/
theorem cut_mem {α : Type} {l : List α} {lo hi : Option Int} {d : α} (h : d ∈ cut l lo hi) : d ∈ l := List.mem_of_mem_drop (List.mem_of_mem_take h)
theorem cut_len {α : Type} (l : List α) (lo hi : Option Int) : (cut l lo hi).length ≤ l.length := by
  show ((l.drop _).take _).length ≤ _
  rw [List.length_take, List.length_drop]
  omega
def q_l_bent : DSp := fun Ds M P => ∃ (g : Addr) (l : List D) (x : List Nat) (m : List Mv), Ds = [.ptr g, .tup [dis x, .tup (m.map mvD)]] ∧ M g = some (.lst l) ∧ HandL l ∧ x.length ≤ 10 ∧ m.length ≤ 200 ∧ ∀ l' th, HandL l' → Thing th → P th (M.set g (.lst l'))
theorem plain_mvD (m : Mv) : plain 48 (mvD m) = true := by
  cases m with
  | go => decide +kernel
  | fall => decide +kernel
  | thr v =>
    show (plain 47 (.str "throw") && (plain 47 (di v) && true)) = true
    rw [show plain 47 (.str "throw") = true by decide +kernel]
    rfl
theorem thing_pair {c : D} {r : List D} (h1 : plain 49 c = true) (h2 : ∀ d ∈ r, plain 48 d = true) (h3 : r.length ≤ 800) (h4 : ∀ xs, c = .tup xs → xs.length ≤ 800) : Thing (.tup [c, .tup r]) := by
  refine ⟨.inr ?_, fun l e c' r' e2 => ?_, fun l e c' r' e2 => ?_⟩
  · show (plain 49 c && (plainL 48 r && true)) = true
    rw [h1, plainL_of h2]
    rfl
  · injection e with e
    subst e
    injection e2 with _ e2
    injection e2 with e2 _
    cases e2
  · injection e with e
    subst e
    injection e2 with e1 e2
    injection e2 with e2 _
    injection e2 with e2
    subst e1
    subst e2
    exact ⟨h3, h4⟩
theorem thing_other {th : D} (h : th = .dic [] ∨ plain 50 th = true) (h2 : ∀ c r, th = .tup [c, .lst r] → False) (h3 : ∀ c r, th = .tup [c, .tup r] → False) : Thing th :=
  ⟨h, fun l e c r e2 => h2 c r (by rw [e, e2]), fun l e c r e2 => (h3 c r (by rw [e, e2])).elim⟩
end G
set_option Elab.async false
set_option linter.all false
set_option maxRecDepth 10000
namespace G
open PySem
theorem atI_mem {l : List D} {r : Int} (h0 : 0 ≤ r) (h1 : r < (l.length : Int)) : ∃ d, atI l r = some d ∧ d ∈ l := by
  obtain ⟨j, rfl⟩ := Int.eq_ofNat_of_zero_le h0
  have hj : j < l.length := by omega
  exact ⟨l[j], atI_nat (List.getElem?_eq_getElem hj), List.getElem_mem hj⟩
def odd : List D := [.tup [.str "go"], .tup [.str "fall"], .tup [.str "throw", .int 0], .tup [.str "throw", .int 1], .tup [.str "throw", .bl true], .tup [.str "throw"], .lst [.str "go"], .non, .str "go", .tup [.str "stop"]]
theorem odd_plain : plainL 48 odd = true := by decide +kernel
def odd2 : List D := [.int 0, .int 1, .bl true, .int 9, .non]
theorem odd2_plain : plainL 48 odd2 = true := by decide +kernel
theorem r_l_bent (Ds : List D) (M : Mem) (Q : D → Mem → Prop) (h : q_l_bent Ds M Q) : Ds.length = 2 ∧ g_l_bent q_l_draw (endsD Q) (startD ["hand", "thing", "content", "moves", "at", "odd", "way", "wrong"] Ds) M := by
  obtain ⟨g, l, x, m, rfl, hM, hl, hx, hm, h⟩ := h
  have hms : ∀ d ∈ m.map mvD, plain 48 d = true := fun d hd => by
    obtain ⟨v, _, rfl⟩ := List.mem_map.mp hd
    exact plain_mvD v
  have hml : (m.map mvD).length ≤ 200 := by rw [List.length_map]; exact hm
  have hpx : plain 49 (dis x) = true := plain_dis 48 x
  have hxl : ∀ xs, dis x = .tup xs → xs.length ≤ 800 := fun xs e => by injection e with e; subst e; rw [List.length_map]; omega
  generalize hms2 : m.map mvD = ms at hms hml
  have L {n : Nat} (h : n ≤ 1000) : n ≤ lim := lim_of h (by decide)
  refine ⟨rfl, rfl, rfl, ms, rfl, g, l, _, rfl, hM, hl, by omega, by omega, fun l1 at_ hl1 ha0 ha1 => ⟨Nat.le_of_ble_eq_true rfl, Nat.le_of_ble_eq_true rfl, Nat.le_of_ble_eq_true rfl, Nat.le_of_ble_eq_true rfl, Nat.le_of_ble_eq_true rfl, Nat.le_of_ble_eq_true rfl, Nat.le_of_ble_eq_true rfl, Nat.le_of_ble_eq_true rfl, Nat.le_of_ble_eq_true rfl, g, l1, 6, rfl, Mem.same, hl1, by decide, by decide, fun l2 way hl2 hw0 hw6 => ?_⟩⟩
  rw [Mem.set_set]
  have c1 := cut_len ms none (some at_)
  have c2 := cut_len ms (some (at_ + 1)) none
  have c3 := cut_len ms (some at_) none
  have fin : ∀ (l' : List D) (th : D), HandL l' → Thing th → ∃ M', M'.le (M.set g (.lst l')) ∧ Q th M' := fun l' th a b => ⟨_, Mem.le_refl _, h l' th a b⟩
  conv => whnf
  by_cases w0 : way = 0
  · rw [decide_eq_true w0]
    refine ⟨L (by omega), Nat.le_of_ble_eq_true rfl, fin l2 _ hl2 (thing_pair hpx (fun d hd => ?_) (by rw [List.length_append]; omega) hxl)⟩
    rcases List.mem_append.mp hd with a | a
    · exact hms d (cut_mem a)
    · exact hms d (cut_mem a)
  · rw [decide_eq_false w0]
    conv => whnf
    by_cases w3 : way < 3
    · rw [decide_eq_true w3]
      refine ⟨g, l2, 10, rfl, Mem.same, hl2, by decide, by decide, fun l3 r hl3 hr0 hr10 => ?_⟩
      obtain ⟨d0, hd0, hmem⟩ := atI_mem (l := odd) hr0 hr10
      refine ⟨odd, r, d0, rfl, rfl, hd0, Nat.le_of_ble_eq_true rfl, L (show (cut ms none (some at_)).length + 1 ≤ 1000 by omega), L ?_, Nat.le_of_ble_eq_true rfl, ?_⟩
      · rw [List.length_append, List.length_singleton]
        omega
      · rw [Mem.set_set]
        refine fin l3 _ hl3 (thing_pair hpx (fun d hd => ?_) ?_ hxl)
        · rcases List.mem_append.mp hd with a | a
          · rcases List.mem_append.mp a with a | a
            · exact hms d (cut_mem a)
            · rcases List.mem_singleton.mp a with rfl
              exact plainL_mem odd_plain d hmem
          · exact hms d (cut_mem a)
        · rw [List.length_append, List.length_append, List.length_singleton]
          omega
    · rw [decide_eq_false w3]
      conv => whnf
      by_cases w4 : way = 3
      · rw [decide_eq_true w4]
        refine ⟨Nat.le_of_ble_eq_true rfl, g, l2, 5, rfl, Mem.same, hl2, by decide, by decide, fun l3 r hl3 hr0 hr5 => ?_⟩
        obtain ⟨d0, hd0, hmem⟩ := atI_mem (l := odd2) hr0 hr5
        have c4 := cut_len (x.map di) none (some (-1))
        rw [List.length_map] at c4
        refine ⟨odd2, r, d0, rfl, rfl, hd0, Nat.le_of_ble_eq_true rfl, L (show (cut (x.map di) none (some (-1))).length + 1 ≤ 1000 by omega), Nat.le_of_ble_eq_true rfl, ?_⟩
        rw [Mem.set_set]
        refine fin l3 _ hl3 (thing_pair (show plainL 48 _ = true from plainL_of fun d hd => ?_) hms (by omega) fun xs e => ?_)
        · rcases List.mem_append.mp hd with a | a
          · obtain ⟨c, _, rfl⟩ := List.mem_map.mp (cut_mem a)
            rfl
          · rcases List.mem_singleton.mp a with rfl
            exact plainL_mem odd2_plain d hmem
        · injection e with e
          subst e
          rw [List.length_append, List.length_singleton]
          have : (cut (x.map di) none (some (-1))).length ≤ x.length := c4
          show (cut (x.map di) none (some (-1))).length + 1 ≤ 800
          omega
      · rw [decide_eq_false w4]
        refine ⟨_, rfl, Nat.le_of_ble_eq_true rfl, _, rfl, Nat.le_of_ble_eq_true rfl, Nat.le_of_ble_eq_true rfl, Nat.le_of_ble_eq_true rfl, Nat.le_of_ble_eq_true rfl, ?_⟩
        conv => whnf
        have hp2 : ∀ n, 48 ≤ n → plainL n ms = true := fun n hn => plainL_of fun d hd => plain_le (hms d hd) hn
        by_cases w5 : way = 4
        · rw [decide_eq_true w5]
          refine ⟨g, l2, 7, rfl, Mem.same, hl2, by decide, by decide, fun l3 r hl3 hr0 hr7 => ?_⟩
          obtain ⟨d0, hd0, hmem⟩ := atI_mem (l := [.lst [dis x, .tup ms], .tup [dis x, .non], .tup [.lst (x.map di), .tup ms], .tup [dis x], .non, .tup [dis x, .tup ms, .int 0], .dic []]) hr0 hr7
          refine ⟨_, r, d0, rfl, rfl, hd0, ?_⟩
          rw [Mem.set_set]
          refine fin l3 _ hl3 ?_
          have px : ∀ n, plain (n + 1) (dis x) = true := fun n => plain_dis n x
          simp only [List.mem_cons, List.not_mem_nil, or_false] at hmem
          rcases hmem with rfl | rfl | rfl | rfl | rfl | rfl | rfl
          · refine thing_other (.inr ?_) (fun c r e => by cases e) (fun c r e => by cases e)
            show (plain 49 (dis x) && (plainL 48 ms && true)) = true
            rw [px, hp2 48 (by decide)]; rfl
          · refine thing_other (.inr ?_) (fun c r e => by injection e with e; injection e with _ e; injection e with e _; cases e) (fun c r e => by injection e with e; injection e with _ e; injection e with e _; cases e)
            show (plain 49 (dis x) && true) = true
            rw [px]; rfl
          · refine thing_pair ?_ hms (by omega) (fun xs e => by cases e)
            exact px 48
          · refine thing_other (.inr ?_) (fun c r e => by injection e with e; injection e with _ e; cases e) (fun c r e => by injection e with e; injection e with _ e; cases e)
            show (plain 49 (dis x) && true) = true
            rw [px]; rfl
          · exact thing_other (.inr rfl) (fun c r e => by cases e) (fun c r e => by cases e)
          · refine thing_other (.inr ?_) (fun c r e => by injection e with e; injection e with _ e; injection e with _ e; cases e) (fun c r e => by injection e with e; injection e with _ e; injection e with _ e; cases e)
            show (plain 49 (dis x) && (plainL 48 ms && true)) = true
            rw [px, hp2 48 (by decide)]; rfl
          · exact thing_other (.inl rfl) (fun c r e => by cases e) (fun c r e => by cases e)
        · rw [decide_eq_false w5]
          exact fin l2 _ hl2 (thing_pair hpx hms (by omega) hxl)
end G
set_option Elab.async false
set_option linter.all false
set_option maxRecDepth 10000
namespace G
open PySem
def ex (L : Int) : Nat := L.toNat / 2
def W (sz op : List Nat) : Nat := if sz = [3, 2] then (if 0 ∈ op then 0 else if 1 ∈ op then 1 else 2) else 0
theorem W_le (sz op : List Nat) : W sz op ≤ 2 := by
  unfold W
  split
  · split
    · decide
    · split <;> decide
  · decide
structure Res (sz op : List Nat) (w k t : Nat) (L : Int) (room : Nat) (b : Blk) (t' : Nat) (L' : Int) : Prop where
  hwf : Wf sz op b
  hdp : dp b ≤ room + 1 + k
  ht : t' ≤ t
  hth : thrs b ≤ t - t'
  hex : ex L' ≤ ex L
  hcnt : cnt b ≤ (2 * k + 1) + 2 * (ex L - ex L') + 3 * (t - t') + 2 * (w * (k + 1 + 2 * (t - t')))
theorem W_cell {sz op : List Nat} {c : Nat} (hs : Sz sz) (hc : c ∉ op) (hl : c < sz.length) : (sz.getD c 0 = 2 ∧ (W sz (op ++ [c]) = 0 ∨ (W sz (op ++ [c]) = 1 ∧ W sz op = 2))) ∨ (sz.getD c 0 = 3 ∧ W sz (op ++ [c]) = 0 ∧ 1 ≤ W sz op) := by
  rcases hs with rfl | rfl | rfl | rfl
  · left
    refine ⟨?_, .inl (if_neg (by decide))⟩
    have : c = 0 ∨ c = 1 := by have : c < 2 := hl; omega
    rcases this with rfl | rfl <;> rfl
  · have : c = 0 ∨ c = 1 := by have : c < 2 := hl; omega
    have wd : ∀ o, W [3, 2] o = if 0 ∈ o then 0 else if 1 ∈ o then 1 else 2 := fun o => if_pos rfl
    rcases this with rfl | rfl
    · right
      refine ⟨rfl, ?_, ?_⟩
      · rw [wd, if_pos (List.mem_append_right _ List.mem_cons_self)]
      · rw [wd, if_neg hc]
        split <;> decide
    · left
      refine ⟨rfl, ?_⟩
      by_cases m : 0 ∈ op
      · left
        rw [wd, if_pos (List.mem_append_left _ m)]
      · right
        constructor
        · rw [wd, if_neg (by
            intro h
            rcases List.mem_append.mp h with h | h
            · exact m h
            · cases List.mem_singleton.mp h), if_pos (List.mem_append_right _ List.mem_cons_self)]
        · rw [wd, if_neg m, if_neg hc]
  · left
    refine ⟨?_, .inl (if_neg (by decide))⟩
    have : c = 0 ∨ c = 1 ∨ c = 2 := by have : c < 3 := hl; omega
    rcases this with rfl | rfl | rfl <;> rfl
  · left
    refine ⟨?_, .inl (if_neg (by decide))⟩
    have : c = 0 := by have : c < 1 := hl; omega
    subst this
    rfl
theorem three (w : Nat) (h : w ≤ 2) : w = 0 ∨ w = 1 ∨ w = 2 := by omega
/-- one more side -/
theorem Res.step {sz op : List Nat} {w k t t1 t2 room : Nat} {L L1 L2 : Int} {b d e : Blk} (h1 : Res sz op w k t L room b t1 L1) (h2 : Res sz op w 0 t1 L1 room d t2 L2) (hw : w ≤ 2) (wf : Wf sz op e) (hd : dp e = 1 + max (dp d) (dp b)) (hc : cnt e = 1 + (cnt d + cnt b)) (ht : thrs e = thrs d + thrs b) : Res sz op w (k + 1) t L room e t2 L2 := by
  obtain ⟨_, a2, a3, a4, a5, a6⟩ := h1
  obtain ⟨_, b2, b3, b4, b5, b6⟩ := h2
  refine ⟨wf, by omega, by omega, by omega, by omega, ?_⟩
  rcases three w hw with rfl | rfl | rfl <;> omega
theorem stm_len : ∀ b : Blk, (stm b).length ≤ cnt b
  | .show _ => Nat.le_refl _
  | .opn _ r => by have := stm_len r; show (stm r).length + 1 ≤ 1 + cnt r; omega
  | .thr _ r => by have := stm_len r; show (stm r).length + 1 ≤ 1 + cnt r; omega
  | .ifn _ a b => by show 1 ≤ 1 + _; omega
  | .ifc _ _ a b => by show 1 ≤ 1 + _; omega
theorem Res.lim {sz op : List Nat} {w k t t' room : Nat} {L L' : Int} {b : Blk} (h : Res sz op w k t L room b t' L') (hw : w ≤ 2) (ht : t ≤ 2) (he : ex L ≤ 15) (m : Nat) (hm : m ≤ 10) (hk : k ≤ 10 := by omega) : m + (stm b).length ≤ G.lim := by
  have h1 := stm_len b
  have h2 := h.hcnt
  unfold G.lim
  rcases three w hw with rfl | rfl | rfl <;> omega
theorem ex_live {L : Int} (h : 0 ≤ L - 2) : ex L = ex (L - 2) + 1 := by
  unfold ex
  omega
def q_l_blind_block (n : Nat) : DSp := fun Ds M P => ∃ (g lf : Addr) (l : List D) (sz op : List Nat) (t : Nat) (L : Int) (room : Nat), Ds = [.ptr g, dis sz, .lst (op.map di), .ptr lf, di room] ∧ M g = some (.lst l) ∧ HandL l ∧ M lf = some (.lst [di t, .int L]) ∧ Sz sz ∧ op.Nodup ∧ (∀ c ∈ op, c < sz.length) ∧ room ≤ 5 ∧ t ≤ 2 ∧ ex L ≤ 15 ∧ (sz.length - op.length) + t < n ∧
  ∀ M' l' b t' L', M' g = some (.lst l') → HandL l' → M' lf = some (.lst [di t', .int L']) → Res sz op (W sz op) 0 t L room b t' L' → P (dB b) M'
theorem closed_eq (n : Nat) (op : List Nat) : ((upTo 0 n).filter fun d => match d with | .int i => !(op.map di).any fun z => deq z (.int i) | _ => false).map id = ((List.range n).filter fun c => !decide (c ∈ op)).map di := by
  unfold upTo
  rw [List.map_id, List.filter_map]
  have e : ((fun d => match d with | .int i => !(op.map di).any fun z => deq z (.int i) | _ => false) ∘ fun (i : Nat) => D.int (0 + (i : Int))) = fun c => !decide (c ∈ op) := by
    funext c
    show (!(op.map di).any fun z => deq z (.int (0 + (c : Int)))) = _
    rw [Int.zero_add]
    have := any_dis op c
    rw [this]
  rw [e]
  congr 1
  funext c
  show D.int (0 + (c : Int)) = D.int (c : Int)
  rw [Int.zero_add]
theorem handNe {M : Mem} {g lf : Addr} {l : List D} {a b : D} (h1 : M g = some (.lst l)) (hl : HandL l) (h2 : M lf = some (.lst [a, b])) : lf ≠ g := by
  intro e
  subst e
  rw [h1] at h2
  obtain ⟨_, _, _, _, _, rfl, _⟩ := hl
  cases h2
theorem sorted_lt {op : List Nat} (hn : op.Nodup) (h : (op.map fun (c : Nat) => (c : Int)).Pairwise (· ≤ ·)) : op.Pairwise (· < ·) := by
  induction op with
  | nil => exact .nil
  | cons a r ih =>
    rw [List.map_cons, List.pairwise_cons] at h
    rw [List.nodup_cons] at hn
    rw [List.pairwise_cons]
    refine ⟨fun b hb => ?_, ih hn.2 h.2⟩
    have h1 := h.1 _ (List.mem_map_of_mem hb)
    have h2 : a ≠ b := fun e => hn.1 (e ▸ hb)
    omega
def g_bbR : DS := (sRet (gTup (gCons (gTup (gCons (gC (.str "show")) (gCons (gB dTupleOf (gB dSorted (gVar 2))) gNil))) gNil)))
def g_bbT (q_l_draw : DSp) (q_l_blind_block : DSp) : DS := (sSeq (sIx (gVar 3) (gC (.int 0)) (gOp dSub (gOp dIx (gVar 3) (gC (.int 0))) (gC (.int 1)))) (sSeq (sAsg (gOp dAdd (gC (.int 2)) (gCall q_l_draw (gCons (gVar 0) (gCons (gC (.int 2)) gNil)))) (aName 8)) (sSeq (sAsg (gCall q_l_blind_block (gCons (gVar 0) (gCons (gVar 1) (gCons (gVar 2) (gCons (gVar 3) (gCons (gOp dAdd (gOp dSub (gVar 4) (gVar 8)) (gC (.int 1))) gNil)))))) (aName 9)) (sSeq (sFor (iRng (gCons (gOp dSub (gVar 8) (gC (.int 1))) gNil)) (aName 10) (sSeq (sAsg (gCall q_l_blind_block (gCons (gVar 0) (gCons (gVar 1) (gCons (gVar 2) (gCons (gVar 3) (gCons (gOp dAdd (gOp dSub (gVar 4) (gVar 8)) (gC (.int 1))) gNil)))))) (aName 11)) (sAsg (gTup (gCons (gTup (gCons (gC (.str "if")) (gCons (gTup (gCons (gC (.str "name")) (gCons (gC (.str "a")) (gCons (gVar 10) gNil)))) (gCons (gVar 11) (gCons (gVar 9) gNil))))) gNil)) (aName 9)))) (sRet (gOp dAdd (gTup (gCons (gTup (gCons (gC (.str "throw")) (gCons (gC (.str "a")) (gCons (gVar 8) gNil)))) gNil)) (gVar 9)))))))
def g_bbL (q_l_blind_block : DSp) : DS := (sSeq (sAsg (gOp dAdd (gVar 2) (gLstF (gCons (gVar 7) gNil))) (aName 12)) (sSeq (sIf (tOr (tE (gOp dEq (gVar 6) (gC (.int 3)))) (tE (gOp dLt (gVar 4) (gOp dSub (gOp dIx (gVar 1) (gVar 7)) (gC (.int 1)))))) (sRet (gOp dAdd (gTup (gCons (gTup (gCons (gC (.str "open")) (gCons (gVar 7) gNil))) gNil)) (gCall q_l_blind_block (gCons (gVar 0) (gCons (gVar 1) (gCons (gVar 12) (gCons (gVar 3) (gCons (gVar 4) gNil)))))))) sNext) (sSeq (sAsg (gCall q_l_blind_block (gCons (gVar 0) (gCons (gVar 1) (gCons (gVar 12) (gCons (gVar 3) (gCons (gOp dAdd (gOp dSub (gVar 4) (gOp dIx (gVar 1) (gVar 7))) (gC (.int 1))) gNil)))))) (aName 9)) (sSeq (sFor (iRng (gCons (gOp dSub (gOp dIx (gVar 1) (gVar 7)) (gC (.int 1))) gNil)) (aName 13) (sSeq (sAsg (gCall q_l_blind_block (gCons (gVar 0) (gCons (gVar 1) (gCons (gVar 12) (gCons (gVar 3) (gCons (gOp dAdd (gOp dSub (gVar 4) (gOp dIx (gVar 1) (gVar 7))) (gC (.int 1))) gNil)))))) (aName 11)) (sAsg (gTup (gCons (gTup (gCons (gC (.str "if")) (gCons (gTup (gCons (gC (.str "cell")) (gCons (gVar 7) (gCons (gVar 13) gNil)))) (gCons (gVar 11) (gCons (gVar 9) gNil))))) gNil)) (aName 9)))) (sRet (gVar 9))))))
theorem bb_later (n : Nat) (M : Mem) (Q : D → Mem → Prop) (g lf : Addr) (l : List D) (sz op cl : List Nat) (t room c : Nat) (L way : Int) (o8 o9 o10 o11 o12 o13 : Option D)
    (hg : M g = some (.lst l)) (hl : HandL l) (hlf : M lf = some (.lst [di t, .int (L - 2)])) (hs : Sz sz) (hnd : op.Nodup) (hlt : ∀ c ∈ op, c < sz.length) (hroom : room ≤ 5) (ht2 : t ≤ 2) (hex15 : ex L ≤ 15) (hn : (sz.length - op.length) + t < n + 1) (hc : c < sz.length) (hco : c ∉ op) (hL : 0 ≤ L - 2)
    (h : ∀ M' l' b t' L', M' g = some (.lst l') → HandL l' → M' lf = some (.lst [di t', .int L']) → Res sz op (W sz op) 0 t L room b t' L' → Q (dB b) M') :
    g_bbL (q_l_blind_block n) (endsD Q) [some (.ptr g), some (dis sz), some (.lst (op.map di)), some (.ptr lf), some (di room), some (.lst (cl.map di)), some (.int way), some (di c), o8, o9, o10, o11, o12, o13] M := by
  have hs3 := hs.len
  have hol : op.length ≤ sz.length := nodup_len hnd hlt
  have hnd' := nodup_snoc hnd hco
  have hlt' : ∀ d ∈ op ++ [c], d < sz.length := fun d hd => by
    rcases List.mem_append.mp hd with m | m
    · exact hlt d m
    · rcases List.mem_singleton.mp m with rfl
      exact hc
  have hol' : (op ++ [c]).length ≤ sz.length := nodup_len hnd' hlt'
  have hlen : (op ++ [c]).length = op.length + 1 := by rw [List.length_append, List.length_singleton]
  have emap : op.map di ++ [di c] = (op ++ [c]).map di := by rw [List.map_append]; rfl
  have hw := W_cell hs hco hc
  have hw2 := W_le sz op
  have hw2' := W_le sz (op ++ [c])
  have hexL := ex_live hL
  refine ⟨Nat.le_of_ble_eq_true rfl, lim_of (show (op.map di).length + 1 ≤ 100 by rw [List.length_map]; omega) (by decide), ?_⟩
  rw [emap]
  have hopen : ∀ (o10 o11 o13 : Option D), (sRet (gOp dAdd (gTup (gCons (gTup (gCons (gC (.str "open")) (gCons (gVar 7) gNil))) gNil)) (gCall (q_l_blind_block n) (gCons (gVar 0) (gCons (gVar 1) (gCons (gVar 12) (gCons (gVar 3) (gCons (gVar 4) gNil)))))))) (endsD Q) [some (.ptr g), some (dis sz), some (.lst (op.map di)), some (.ptr lf), some (di room), some (.lst (cl.map di)), some (.int way), some (di c), o8, o9, o10, o11, some (.lst ((op ++ [c]).map di)), o13] M := by
    intro o10 o11 o13
    refine ⟨Nat.le_of_ble_eq_true rfl, Nat.le_of_ble_eq_true rfl, g, lf, l, sz, op ++ [c], t, L - 2, room, rfl, hg, hl, hlf, hs, hnd', hlt', hroom, ht2, by omega, by omega, fun M' l' b t' L' a1 a2 a3 a4 => ⟨?_, M', Mem.le_refl _, h M' l' (.opn c b) t' L' a1 a2 a3 ?_⟩⟩
    · exact a4.lim hw2' ht2 (by omega) 1 (by decide)
    · obtain ⟨r1, r2, r3, r4, r5, r6⟩ := a4
      refine ⟨⟨hc, by rw [ins_new hco]; exact r1⟩, r2, r3, r4, by omega, ?_⟩
      show 1 + cnt b ≤ _
      rcases hw with ⟨_, e | ⟨e, e2⟩⟩ | ⟨_, e, e2⟩
      · rw [e] at r6
        omega
      · rw [e] at r6
        rw [e2]
        omega
      · rw [e] at r6
        omega
  conv => whnf
  by_cases hw3 : way = 3
  · rw [decide_eq_true hw3]
    exact hopen _ _ _
  · rw [decide_eq_false hw3]
    refine ⟨_, _, _, rfl, rfl, dis_atD hc, ?_⟩
    conv => whnf
    by_cases hr : (room : Int) < ((sz.getD c 0 : Nat) : Int) - 1
    · rw [decide_eq_true hr]
      exact hopen _ _ _
    · rw [decide_eq_false hr]
      have hsz : 2 ≤ sz.getD c 0 ∧ sz.getD c 0 ≤ 3 := by rcases hw with ⟨e, _⟩ | ⟨e, _⟩ <;> omega
      have er : (room : Int) - ((sz.getD c 0 : Nat) : Int) + 1 = ((room + 1 - sz.getD c 0 : Nat) : Int) := by omega
      have earg := congrArg (fun z : Int => [D.ptr g, dis sz, .lst ((op ++ [c]).map di), .ptr lf, .int z]) er
      refine ⟨_, _, _, rfl, rfl, dis_atD hc, g, lf, l, sz, op ++ [c], t, L - 2, room + 1 - sz.getD c 0, earg, hg, hl, hlf, hs, hnd', hlt', by omega, ht2, by omega, by omega, fun M' l' b t' L' a1 a2 a3 a4 => ⟨_, _, _, rfl, rfl, dis_atD hc, ⟨by omega, by omega⟩, ?_⟩⟩
      refine for_of (fun ds Γ M => ∃ k b t1 L1 l1 o11 o13, Γ = [some (.ptr g), some (dis sz), some (.lst (op.map di)), some (.ptr lf), some (di room), some (.lst (cl.map di)), some (.int way), some (di c), o8, some (dB b), o10, o11, some (.lst ((op ++ [c]).map di)), o13] ∧ ds.length + k + 1 = sz.getD c 0 ∧ (∀ d ∈ ds, ∃ w : Nat, d = di w ∧ w < sz.getD c 0) ∧ M g = some (.lst l1) ∧ HandL l1 ∧ M lf = some (.lst [di t1, .int L1]) ∧ Res sz (op ++ [c]) (W sz (op ++ [c])) k t (L - 2) (room + 1 - sz.getD c 0) b t1 L1 ∧ (0 < k → ∃ w x y, b = .ifc c w x y)) ?_ ?_ _ _ _ ⟨0, b, t', L', l', _, _, rfl, ?_, fun d hd => ?_, a1, a2, a3, a4, fun h0 => absurd h0 (Nat.lt_irrefl 0)⟩
      · rintro Γ M2 ⟨k, b, t1, L1, l1, o11, o13, rfl, hk, _, b1, b2, b3, b4, b5⟩
        have hk' : k + 1 = sz.getD c 0 := by rw [List.length_nil] at hk; omega
        obtain ⟨w, x, y, rfl⟩ := b5 (by omega)
        refine ⟨M2, Mem.le_refl _, h M2 l1 _ t1 L1 b1 b2 b3 ?_⟩
        obtain ⟨r1, r2, r3, r4, r5, r6⟩ := b4
        refine ⟨?_, by omega, r3, r4, by omega, ?_⟩
        · have r1' := r1
          obtain ⟨⟨q1, q2⟩, q3, q4⟩ := r1'
          rw [ins_old (mem_ins op c)] at q3 q4
          exact ⟨⟨q1, q2⟩, by rw [ins_new hco]; exact q3, by rw [ins_new hco]; exact q4⟩
        · rcases hw with ⟨e3, e | ⟨e, e2⟩⟩ | ⟨e3, e, e2⟩
          · rw [e] at r6
            omega
          · rw [e] at r6
            rw [e2]
            have : k = 1 := by omega
            subst this
            omega
          · rw [e] at r6
            have : k = 2 := by omega
            subst this
            rcases three (W sz op) hw2 with e4 | e4 | e4
            · omega
            · rw [e4]; omega
            · rw [e4]; omega
      · rintro d ds R _ M2 hR ⟨k, b, t1, L1, l1, o11, o13, rfl, hk, hds, b1, b2, b3, b4, b5⟩
        obtain ⟨w, rfl, hw3⟩ := hds d List.mem_cons_self
        rw [List.length_cons] at hk
        have b4' := b4
        obtain ⟨r1, r2, r3, r4, r5, r6⟩ := b4'
        refine ⟨_, _, _, rfl, rfl, dis_atD hc, g, lf, l1, sz, op ++ [c], t1, L1, room + 1 - sz.getD c 0, earg, b1, b2, b3, hs, hnd', hlt', by omega, by omega, by omega, by omega, fun M3 l3 b3' t3 L3 c1 c2 c3 c4 => ⟨Nat.le_of_ble_eq_true rfl, Nat.le_of_ble_eq_true rfl, Nat.le_of_ble_eq_true rfl, ?_⟩⟩
        refine hR _ _ ⟨k + 1, .ifc c w b3' b, t3, L3, l3, _, _, rfl, by omega, fun d hd => hds d (List.mem_cons_of_mem _ hd), c1, c2, c3, b4.step c4 hw2' ?_ rfl rfl rfl, fun _ => ⟨_, _, _, rfl⟩⟩
        refine ⟨⟨hc, hw3⟩, ?_, ?_⟩
        · rw [ins_old (mem_ins op c)]
          exact c4.hwf
        · rw [ins_old (mem_ins op c)]
          exact r1
      · rw [upTo_length]
        omega
      · unfold upTo at hd
        obtain ⟨i, hi, rfl⟩ := List.mem_map.mp hd
        rw [List.mem_range] at hi
        exact ⟨i, by rw [Int.zero_add], by omega⟩
theorem bb_throw (n : Nat) (M : Mem) (Q : D → Mem → Prop) (g lf : Addr) (l : List D) (sz op cl : List Nat) (t room : Nat) (L way : Int) (o7 o8 o9 o10 o11 o12 o13 : Option D)
    (hg : M g = some (.lst l)) (hl : HandL l) (hlf : M lf = some (.lst [di (t + 1), .int (L - 2)])) (hs : Sz sz) (hnd : op.Nodup) (hlt : ∀ c ∈ op, c < sz.length) (hroom : room ≤ 5) (hroom2 : 2 ≤ room) (ht2 : t + 1 ≤ 2) (hex15 : ex L ≤ 15) (hn : (sz.length - op.length) + (t + 1) < n + 1) (hL : 0 ≤ L - 2)
    (h : ∀ M' l' b t' L', M' g = some (.lst l') → HandL l' → M' lf = some (.lst [di t', .int L']) → Res sz op (W sz op) 0 (t + 1) L room b t' L' → Q (dB b) M') {E : DEnds} (hE : E.rt = (endsD Q).rt) :
    g_bbT q_l_draw (q_l_blind_block n) E [some (.ptr g), some (dis sz), some (.lst (op.map di)), some (.ptr lf), some (di room), some (.lst (cl.map di)), some (.int way), o7, o8, o9, o10, o11, o12, o13] M := by
  have hne := handNe hg hl hlf
  have hs3 := hs.len
  have hol : op.length ≤ sz.length := nodup_len hnd hlt
  have hw2 := W_le sz op
  have hexL := ex_live hL
  have et : ((t + 1 : Nat) : Int) - 1 = (t : Int) := by omega
  refine ⟨_, _, _, itM hlf, rfl, rfl, lf, _, 0, 0, rfl, rfl, hlf, rfl, ?_⟩
  refine ⟨g, l, 2, rfl, (Mem.ne hne.symm).trans hg, hl, by decide, by decide, fun l2 r hl2 hr0 hr2 => ?_⟩
  obtain ⟨r, rfl⟩ := Int.eq_ofNat_of_zero_le hr0
  have er : (room : Int) - (2 + (r : Int)) + 1 = ((room - 1 - r : Nat) : Int) := by omega
  have earg := congrArg (fun z : Int => [D.ptr g, dis sz, .lst (op.map di), .ptr lf, .int z]) er
  refine ⟨g, lf, l2, sz, op, t, L - 2, room - 1 - r, earg, Mem.same, hl2, (Mem.ne hne).trans (Mem.same.trans (congrArg (fun z => some (MO.lst [D.int z, .int (L - 2)])) et)), hs, hnd, hlt, by omega, by omega, by omega, by omega, fun M' l' b t' L' a1 a2 a3 a4 => ⟨⟨by omega, by omega⟩, ?_⟩⟩
  refine for_of (fun ds Γ M => ∃ k b t1 L1 l1 o10 o11, Γ = [some (.ptr g), some (dis sz), some (.lst (op.map di)), some (.ptr lf), some (di room), some (.lst (cl.map di)), some (.int way), o7, some (.int (2 + (r : Int))), some (dB b), o10, o11, o12, o13] ∧ ds.length + k = 1 + r ∧ (∀ d ∈ ds, ∃ w : Nat, d = di w) ∧ M g = some (.lst l1) ∧ HandL l1 ∧ M lf = some (.lst [di t1, .int L1]) ∧ Res sz op (W sz op) k t (L - 2) (room - 1 - r) b t1 L1) ?_ ?_ _ _ _ ⟨0, b, t', L', l', _, _, rfl, ?_, fun d hd => ?_, a1, a2, a3, a4⟩
  · rintro Γ M2 ⟨k, b, t1, L1, l1, o10, o11, rfl, hk, _, b1, b2, b3, b4⟩
    have hk' : k = 1 + r := by rw [List.length_nil] at hk; omega
    refine ⟨Nat.le_of_ble_eq_true rfl, Nat.le_of_ble_eq_true rfl, b4.lim hw2 (by omega) (by omega) 1 (by decide), ?_⟩
    rw [hE]
    refine ⟨M2, Mem.le_refl _, ?_⟩
    have e8 : 2 + (r : Int) = ((2 + r : Nat) : Int) := by omega
    rw [e8]
    refine h M2 l1 (.thr (2 + r) b) t1 L1 b1 b2 b3 ?_
    obtain ⟨r1, r2, r3, r4, r5, r6⟩ := b4
    refine ⟨⟨⟨by omega, by omega⟩, r1⟩, by show dp b ≤ _; omega, by omega, by show 1 + thrs b ≤ _; omega, by omega, ?_⟩
    show 1 + cnt b ≤ _
    have : r = 0 ∨ r = 1 := by omega
    rcases this with rfl | rfl
    · subst hk'
      rcases three (W sz op) hw2 with e4 | e4 | e4 <;> (rw [e4] at r6 ⊢; omega)
    · subst hk'
      rcases three (W sz op) hw2 with e4 | e4 | e4 <;> (rw [e4] at r6 ⊢; omega)
  · rintro d ds R _ M2 hR ⟨k, b, t1, L1, l1, o10, o11, rfl, hk, hds, b1, b2, b3, b4⟩
    obtain ⟨w, rfl⟩ := hds d List.mem_cons_self
    rw [List.length_cons] at hk
    have b4' := b4
    obtain ⟨r1, r2, r3, r4, r5, r6⟩ := b4'
    refine ⟨g, lf, l1, sz, op, t1, L1, room - 1 - r, earg, b1, b2, b3, hs, hnd, hlt, by omega, by omega, by omega, by omega, fun M3 l3 b3' t3 L3 c1 c2 c3 c4 => ⟨Nat.le_of_ble_eq_true rfl, Nat.le_of_ble_eq_true rfl, Nat.le_of_ble_eq_true rfl, ?_⟩⟩
    exact hR _ _ ⟨k + 1, .ifn w b3' b, t3, L3, l3, _, _, rfl, by omega, fun d hd => hds d (List.mem_cons_of_mem _ hd), c1, c2, c3, b4.step c4 hw2 ⟨c4.hwf, r1⟩ rfl rfl rfl⟩
  · rw [upTo_length]
    omega
  · unfold upTo at hd
    obtain ⟨i, hi, rfl⟩ := List.mem_map.mp hd
    exact ⟨i, by rw [Int.zero_add]⟩
theorem r_l_blind_block (n : Nat) (Ds : List D) (M : Mem) (Q : D → Mem → Prop) (h : q_l_blind_block (n + 1) Ds M Q) : Ds.length = 5 ∧ g_l_blind_block q_l_draw (q_l_blind_block n) (endsD Q) (startD ["hand", "sizes", "opened", "left", "room", "closed", "way", "c", "sides", "block", "value", "there", "later", "worth"] Ds) M := by
  obtain ⟨g, lf, l, sz, op, t, L, room, rfl, hg, hl, hlf, hs, hnd, hlt, hroom, ht2, hex15, hn, h⟩ := h
  have hne := handNe hg hl hlf
  have hs3 := hs.len
  have hol : op.length ≤ sz.length := nodup_len hnd hlt
  refine ⟨rfl, _, rfl, ⟨by rw [List.length_map]; omega, by rw [List.length_map]; omega⟩, ?_⟩
  refine cm_filter (fun d => match d with | .int i => !(op.map di).any fun z => deq z (.int i) | _ => false) id _ [] (by rw [upTo_length, List.length_map]; exact lim_of (show 0 + _ ≤ 10 by omega) (by decide)) (fun d hd R1 R2 hR1 hR2 => ?_) ?_
  · unfold upTo at hd
    obtain ⟨c, hc, rfl⟩ := List.mem_map.mp hd
    refine ⟨rfl, op.map di, rfl, .inl ⟨rfl, flat_dis op⟩, ?_⟩
    conv => whnf
    cases e : !(op.map di).any fun z => deq z (.int (0 + (c : Int))) with
    | true => exact hR1 e
    | false => exact hR2 e
  · have ecl : ([] : List D) ++ ((upTo 0 (((sz.map di).length : Int)).toNat).filter fun d => match d with | .int i => !(op.map di).any fun z => deq z (.int i) | _ => false).map id = ((List.range sz.length).filter fun c => !decide (c ∈ op)).map di := by
      have e1 : (((sz.map di).length : Int)).toNat = sz.length := by rw [List.length_map]; omega
      rw [e1, List.nil_append]
      exact closed_eq sz.length op
    rw [ecl]
    generalize hcl : ((List.range sz.length).filter fun c => !decide (c ∈ op)) = cl
    have hclm : ∀ c ∈ cl, c < sz.length ∧ c ∉ op := by
      intro c hc
      rw [← hcl, List.mem_filter] at hc
      refine ⟨List.mem_range.mp hc.1, fun m => ?_⟩
      have := hc.2
      rw [decide_eq_true m] at this
      cases this
    have hcll : cl.length ≤ 3 := by
      rw [← hcl]
      have := List.length_filter_le (fun c => !decide (c ∈ op)) (List.range sz.length)
      rw [List.length_range] at this
      omega
    refine ⟨g, l, 6, rfl, hg, hl, by decide, by decide, fun l1 way hl1 hw0 hw6 => ?_⟩
    have hlf1 : (M.set g (.lst l1)) lf = some (.lst [di t, .int L]) := (Mem.ne hne).trans hlf
    refine ⟨_, _, _, itM hlf1, rfl, rfl, lf, _, 1, 1, rfl, rfl, hlf1, rfl, ?_⟩
    have hg2 : ((M.set g (.lst l1)).set lf (.lst [di t, .int (L - 2)])) g = some (.lst l1) := (Mem.ne hne.symm).trans Mem.same
    have hlf2 : ((M.set g (.lst l1)).set lf (.lst [di t, .int (L - 2)])) lf = some (.lst [di t, .int (L - 2)]) := Mem.same
    have hS : ∀ (o7 o8 o9 o10 o11 o12 o13 : Option D) (E : DEnds), E.rt = (endsD Q).rt → g_bbR E [some (.ptr g), some (dis sz), some (.lst (op.map di)), some (.ptr lf), some (di room), some (.lst (cl.map di)), some (.int way), o7, o8, o9, o10, o11, o12, o13] ((M.set g (.lst l1)).set lf (.lst [di t, .int (L - 2)])) := by
      intro o7 o8 o9 o10 o11 o12 o13 E hE
      refine ⟨_, _, rfl, ints_dis op, by rw [List.length_map]; omega, fun ns' hp hs => ⟨_, rfl, Nat.le_of_ble_eq_true rfl, Nat.le_of_ble_eq_true rfl, ?_⟩⟩
      rw [hE]
      obtain ⟨op', hop', rfl⟩ := perm_nat hp
      have e1 : (op'.map fun (c : Nat) => (c : Int)).map D.int = op'.map di := by rw [List.map_map]; rfl
      rw [e1]
      refine ⟨_, Mem.le_refl _, h _ l1 (.show op') t (L - 2) hg2 hl1 hlf2 ⟨⟨hop', sorted_lt (hop'.nodup_iff.mpr hnd) hs⟩, ?_, Nat.le_refl _, Nat.zero_le _, ?_, ?_⟩⟩
      · show 1 ≤ room + 1 + 0
        omega
      · unfold ex
        omega
      · show 1 ≤ 2 * 0 + 1 + _ + _ + _
        omega
    refine ⟨Nat.le_of_ble_eq_true rfl, ⟨plain_dis 59 cl, rfl⟩, ?_⟩
    cases cl with
    | nil => exact hS _ _ _ _ _ _ _ _ rfl
    | cons c0 cr =>
      refine ⟨_, _, _, itM hlf2, rfl, rfl, ?_⟩
      conv => whnf
      by_cases hLn : L - 2 < 0
      · rw [decide_eq_true hLn]
        exact hS _ _ _ _ _ _ _ _ rfl
      · rw [decide_eq_false hLn]
        conv => whnf
        by_cases hw : way = 0
        · rw [decide_eq_true hw]
          exact hS _ _ _ _ _ _ _ _ rfl
        · rw [decide_eq_false hw]
          generalize hcl2 : c0 :: cr = cl2 at *
          have hclp : 1 ≤ cl2.length := by rw [← hcl2, List.length_cons]; omega
          refine ⟨_, rfl, g, l1, _, rfl, hg2, hl1, by rw [List.length_map]; omega, by rw [List.length_map]; omega, fun l2 r hl2 hr0 hr1 => ?_⟩
          rw [List.length_map] at hr1
          obtain ⟨j, rfl⟩ := Int.eq_ofNat_of_zero_le hr0
          have hj : j < cl2.length := by omega
          obtain ⟨hcs, hco⟩ := hclm _ (List.getElem_mem hj)
          refine ⟨_, _, di cl2[j], rfl, rfl, dis_at hj, ?_⟩
          have hlf3 : (((M.set g (.lst l1)).set lf (.lst [di t, .int (L - 2)])).set g (.lst l2)) lf = some (.lst [di t, .int (L - 2)]) := (Mem.ne hne).trans hlf2
          have hlat := fun (o8 o9 o10 o11 o12 o13 : Option D) => bb_later n _ Q g lf l2 sz op cl2 t room cl2[j] L way o8 o9 o10 o11 o12 o13 Mem.same hl2 hlf3 hs hnd hlt hroom ht2 hex15 hn hcs hco (by omega) h
          conv => whnf
          by_cases hw3 : way < 3
          · rw [decide_eq_true hw3]
            refine ⟨_, _, _, itM hlf3, rfl, rfl, ?_⟩
            conv => whnf
            cases t with
            | zero => exact hlat _ _ _ _ _ _
            | succ t =>
              rw [decide_eq_true (show (0 : Int) < ((t + 1 : Nat) : Int) by omega)]
              conv => whnf
              by_cases hr2 : (1 : Int) < (room : Int)
              · rw [decide_eq_true hr2]
                exact bb_throw n _ Q g lf l2 sz op cl2 t room L way _ _ _ _ _ _ _ Mem.same hl2 hlf3 hs hnd hlt hroom (by omega) ht2 hex15 hn (by omega) h rfl
              · rw [decide_eq_false hr2]
                exact hlat _ _ _ _ _ _
          · rw [decide_eq_false hw3]
            exact hlat _ _ _ _ _ _
end G
set_option Elab.async false
set_option linter.all false
set_option maxRecDepth 10000
namespace G
open PySem
/-! the plain law -/
inductive Shn : List Nat → Tr → Prop
  | show {op p : List Nat} : (∀ c, c ∈ p ↔ c ∈ op) → Shn op (.show p)
  | opn {op : List Nat} {c : Nat} {t : Tr} : Shn (op ++ [c]) t → Shn op (.opn c t)
  | thr {op : List Nat} {n : Nat} {k : Nat → Tr} : (∀ v, Shn op (k v)) → Shn op (.thr n k)
theorem shn {sz x : List Nat} : ∀ (b : Blk) (a : Nat) (op : List Nat), Wf sz op b → Shn op (tr x a op b)
  | .show p, a, op, h => .show fun c => h.1.mem_iff
  | .opn c r, a, op, h => by
    show Shn op (if c ∈ op then tr x a op r else .opn c (tr x a (op ++ [c]) r))
    have h2 := h.2
    by_cases m : c ∈ op
    · rw [ins_old m] at h2
      rw [if_pos m]
      exact shn r a op h2
    · rw [ins_new m] at h2
      rw [if_neg m]
      exact .opn (shn r a _ h2)
  | .thr n r, a, op, h => .thr fun v => shn r v op h.2
  | .ifn v b1 b2, a, op, h => by
    show Shn op (if a = v then tr x a op b1 else tr x a op b2)
    by_cases m : a = v
    · rw [if_pos m]
      exact shn b1 a op h.1
    · rw [if_neg m]
      exact shn b2 a op h.2
  | .ifc c w b1 b2, a, op, h => by
    show Shn op (if c ∈ op then (if x.getD c 0 = w then tr x a op b1 else tr x a op b2) else .opn c (if x.getD c 0 = w then tr x a (op ++ [c]) b1 else tr x a (op ++ [c]) b2))
    have h2 := h.2
    by_cases m : c ∈ op
    · rw [ins_old m] at h2
      rw [if_pos m]
      by_cases m2 : x.getD c 0 = w
      · rw [if_pos m2]
        exact shn b1 a op h2.1
      · rw [if_neg m2]
        exact shn b2 a op h2.2
    · rw [ins_new m] at h2
      rw [if_neg m]
      by_cases m2 : x.getD c 0 = w
      · rw [if_pos m2]
        exact .opn (shn b1 a _ h2.1)
      · rw [if_neg m2]
        exact .opn (shn b2 a _ h2.2)
inductive Lf : Tr → List Nat → List Nat → Prop
  | show {p : List Nat} : Lf (.show p) p []
  | opn {c : Nat} {t : Tr} {p th : List Nat} : Lf t p th → Lf (.opn c t) p th
  | thr {n v : Nat} {k : Nat → Tr} {p th : List Nat} : v < n → Lf (k v) p th → Lf (.thr n k) p (v :: th)
theorem leaves_lf : ∀ (t : Tr) (th0 p th : List Nat), (p, th) ∈ leaves t th0 → ∃ th', th = th0 ++ th' ∧ Lf t p th'
  | .show p, th0, q, th, h => by
    rcases List.mem_singleton.mp h with e
    injection e with e1 e2
    subst e1
    exact ⟨[], by rw [List.append_nil, e2], .show⟩
  | .opn _ t, th0, q, th, h => by
    obtain ⟨th', e, h'⟩ := leaves_lf t th0 q th h
    exact ⟨th', e, .opn h'⟩
  | .thr n k, th0, q, th, h => by
    obtain ⟨v, hv, h'⟩ := List.mem_flatMap.mp h
    obtain ⟨th', rfl, hv'⟩ := leaves_lf (k v) (th0 ++ [v]) q th h'
    exact ⟨v :: th', by rw [List.append_assoc]; rfl, .thr (List.mem_range.mp hv) hv'⟩
theorem lf_of {t : Tr} {p th : List Nat} (h : (p, th) ∈ leaves t []) : Lf t p th := by
  obtain ⟨th', e, hv⟩ := leaves_lf t [] p th h
  rw [e]
  exact hv
theorem lf_sup {t : Tr} {p th : List Nat} (h : Lf t p th) : ∀ {op : List Nat}, Shn op t → ∀ c ∈ op, c ∈ p := by
  induction h with
  | «show» => intro op hs c hc; cases hs with | «show» h => exact (h c).mpr hc
  | opn _ ih => intro op hs c hc; cases hs with | opn h => exact ih h c (List.mem_append_left _ hc)
  | thr _ _ ih => intro op hs c hc; cases hs with | thr h => exact ih (h _) c hc
abbrev FF : Bool × Bool := (false, false)
theorem run_B {r t : Tr} {p th : List Nat} (h : Lf t p th) : ∀ {op : List Nat}, Shn op t → ∀ s : KS, s.cur = t → s.shown = none → ∃ s', kruns FF r s (mvs t th p) = some s' ∧ s'.shown = some p ∧ ∀ c ∈ s.looked, c ∈ s'.looked := by
  induction h with
  | «show» =>
    rintro op hs ⟨cur, sure, shown, looked⟩ e1 e2
    subst e1
    subst e2
    exact ⟨_, rfl, rfl, fun c hc => hc⟩
  | opn hl ih =>
    rename_i c t p th
    rintro op hs ⟨cur, sure, shown, looked⟩ e1 e2
    subst e1
    subst e2
    cases hs with
    | opn hs =>
      have hc : c ∈ p := lf_sup hl hs c (mem_ins op c)
      obtain ⟨s', h1, h2, h3⟩ := ih hs ⟨t, sure, none, ins looked c⟩ rfl rfl
      refine ⟨s', ?_, h2, fun d hd => h3 d (mem_ins_iff.mpr (.inl hd))⟩
      show kruns FF r _ (if c ∈ p then .go :: mvs t th p else [.go]) = _
      rw [if_pos hc]
      exact h1
  | thr hv hl ih =>
    rename_i n v k p th
    rintro op hs ⟨cur, sure, shown, looked⟩ e1 e2
    subst e1
    subst e2
    cases hs with
    | thr hs =>
      obtain ⟨s', h1, h2, h3⟩ := ih (hs v) ⟨k v, sure, none, looked⟩ rfl rfl
      refine ⟨s', ?_, h2, h3⟩
      show (match (if v < n then some _ else none) with | some s' => kruns FF r s' _ | none => none) = _
      rw [if_pos hv]
      exact h1
theorem run_A {r t : Tr} {p th pat : List Nat} (h : Lf t p th) : ∀ {op : List Nat}, Shn op t → (∀ c ∈ op, c ∈ pat) → (∃ c ∈ p, c ∉ pat) → ∀ s : KS, s.cur = t → s.shown = none → ∃ s', (∀ rest, kruns FF r s (mvs t th pat ++ rest) = kruns FF r s' rest) ∧ s'.shown = none ∧ s'.sure = s.sure ∧ ∃ c ∈ s'.looked, c ∉ pat := by
  induction h with
  | «show» =>
    rintro op hs ho ⟨c, hc, hn⟩ s e1 e2
    cases hs with
    | «show» h => exact absurd (ho c ((h c).mp hc)) hn
  | opn hl ih =>
    rename_i c t p th
    rintro op hs ho hex ⟨cur, sure, shown, looked⟩ e1 e2
    subst e1
    subst e2
    cases hs with
    | opn hs =>
      by_cases m : c ∈ pat
      · obtain ⟨s', h1, h2, h3, h4⟩ := ih hs (fun d hd => by
          rcases List.mem_append.mp hd with m2 | m2
          · exact ho d m2
          · rcases List.mem_singleton.mp m2 with rfl
            exact m) hex ⟨t, sure, none, ins looked c⟩ rfl rfl
        refine ⟨s', fun rest => ?_, h2, h3, h4⟩
        show kruns FF r _ ((if c ∈ pat then .go :: mvs t th pat else [.go]) ++ rest) = _
        rw [if_pos m]
        exact h1 rest
      · refine ⟨⟨t, sure, none, ins looked c⟩, fun rest => ?_, rfl, rfl, c, mem_ins_iff.mpr (.inr rfl), m⟩
        show kruns FF r _ ((if c ∈ pat then .go :: mvs t th pat else [.go]) ++ rest) = _
        rw [if_neg m]
        rfl
  | thr hv hl ih =>
    rename_i n v k p th
    rintro op hs ho hex ⟨cur, sure, shown, looked⟩ e1 e2
    subst e1
    subst e2
    cases hs with
    | thr hs =>
      obtain ⟨s', h1, h2, h3, h4⟩ := ih (hs v) ho hex ⟨k v, sure, none, looked⟩ rfl rfl
      refine ⟨s', fun rest => ?_, h2, h3, h4⟩
      show (match (if v < n then some _ else none) with | some s' => kruns FF r s' _ | none => none) = _
      rw [if_pos hv]
      exact h1 rest
theorem run_AB {t : Tr} {p1 th1 p2 th2 : List Nat} (hs : Shn [] t) (h1 : Lf t p1 th1) (h2 : Lf t p2 th2) (h : ∃ c ∈ p1, c ∉ p2) : badO (kruns FF t (KS.start t) (mvs t th1 p2 ++ .fall :: mvs t th2 p2)) = true := by
  obtain ⟨s', a1, a2, a3, c, hc, hn⟩ := run_A (r := t) h1 hs nofun h (KS.start t) rfl rfl
  rw [a1]
  show badO (kruns FF t { s' with cur := s'.sure } (mvs t th2 p2)) = true
  obtain ⟨s2, b1, b2, b3⟩ := run_B (r := t) h2 hs { s' with cur := s'.sure } a3 a2
  rw [b1]
  show s2.bad = true
  unfold KS.bad
  rw [b2]
  show (s2.looked.any fun c => !decide (c ∈ p2)) = true
  rw [List.any_eq_true]
  exact ⟨c, b3 c hc, by rw [decide_eq_false hn]; rfl⟩
theorem asc_ext : ∀ {p q : List Nat}, p.Pairwise (· < ·) → q.Pairwise (· < ·) → (∀ c, c ∈ p ↔ c ∈ q) → p = q
  | [], [], _, _, _ => rfl
  | [], b :: q, _, _, h => by have := (h b).mpr List.mem_cons_self; cases this
  | a :: p, [], _, _, h => by have := (h a).mp List.mem_cons_self; cases this
  | a :: p, b :: q, hp, hq, h => by
    rw [List.pairwise_cons] at hp hq
    have hab : a = b := by
      rcases List.mem_cons.mp ((h a).mp List.mem_cons_self) with e | e
      · exact e
      · rcases List.mem_cons.mp ((h b).mpr List.mem_cons_self) with e2 | e2
        · exact e2.symm
        · have := hp.1 b e2
          have := hq.1 a e
          omega
    subst hab
    rw [asc_ext hp.2 hq.2 fun c => ?_]
    constructor
    · intro hc
      rcases List.mem_cons.mp ((h c).mp (List.mem_cons_of_mem _ hc)) with e | e
      · have := hp.1 c hc
        omega
      · exact e
    · intro hc
      rcases List.mem_cons.mp ((h c).mpr (List.mem_cons_of_mem _ hc)) with e | e
      · have := hq.1 c hc
        omega
      · exact e
theorem brOf_some {t : Tr} {pat th : List Nat} (hs : Shn [] t) (hl : Lf t pat th) (hp : pat.Pairwise (· < ·)) : ∀ (L : List (List Nat × List Nat)) (ms : List Mv), (∀ q ∈ L, Lf t q.1 q.2 ∧ q.1.Pairwise (· < ·)) → brOf t pat th L = some ms → badO (kruns FF t (KS.start t) ms) = true
  | [], ms, _, h => by cases h
  | (q, th') :: r, ms, hL, h => by
    have ⟨hq, hqa⟩ := hL _ List.mem_cons_self
    have h' : (if q.any (fun c => !decide (c ∈ pat)) then some (mvs t th' pat ++ .fall :: mvs t th pat) else if q = pat then brOf t pat th r else some (mvs t th q ++ .fall :: mvs t th' q)) = some ms := h
    cases e : q.any (fun c => !decide (c ∈ pat)) with
    | true =>
      rw [e, if_pos rfl] at h'
      injection h' with h'
      subst h'
      rw [List.any_eq_true] at e
      obtain ⟨c, hc, e⟩ := e
      refine run_AB hs hq hl ⟨c, hc, fun m => ?_⟩
      rw [decide_eq_true m] at e
      cases e
    | false =>
      rw [e, if_neg Bool.false_ne_true] at h'
      by_cases m : q = pat
      · rw [if_pos m] at h'
        exact brOf_some hs hl hp r ms (fun q hq => hL q (List.mem_cons_of_mem _ hq)) h'
      · rw [if_neg m] at h'
        injection h' with h'
        subst h'
        refine run_AB hs hl hq (Classical.byContradiction fun hno => m (asc_ext hqa hp fun c => ⟨fun hc => ?_, fun hc => ?_⟩))
        · refine Classical.byContradiction fun hcn => ?_
          have : q.any (fun c => !decide (c ∈ pat)) = true := List.any_eq_true.mpr ⟨c, hc, by rw [decide_eq_false hcn]; rfl⟩
          rw [e] at this
          cases this
        · exact Classical.byContradiction fun hcn => hno ⟨c, hc, hcn⟩
theorem brOf_none {t : Tr} {pat th : List Nat} : ∀ (L : List (List Nat × List Nat)), brOf t pat th L = none ↔ ∀ q ∈ L, q.1 = pat
  | [] => ⟨fun _ => nofun, fun _ => rfl⟩
  | (q, th') :: r => by
    show (if q.any (fun c => !decide (c ∈ pat)) then some (mvs t th' pat ++ .fall :: mvs t th pat) else if q = pat then brOf t pat th r else some (mvs t th q ++ .fall :: mvs t th' q)) = none ↔ _
    by_cases m : q = pat
    · subst m
      have e : q.any (fun c => !decide (c ∈ q)) = false := by
        rw [List.any_eq_false]
        intro c hc
        rw [decide_eq_true hc]
        decide
      rw [e, if_neg Bool.false_ne_true, if_pos rfl, brOf_none r]
      constructor
      · intro h q' hq'
        rcases List.mem_cons.mp hq' with rfl | hq'
        · rfl
        · exact h q' hq'
      · exact fun h q' hq' => h q' (List.mem_cons_of_mem _ hq')
    · rw [if_neg m]
      constructor
      · intro h
        cases e : q.any (fun c => !decide (c ∈ pat)) with
        | true => rw [e] at h; cases h
        | false => rw [e] at h; cases h
      · exact fun h => absurd (h _ List.mem_cons_self) m
theorem brT_none {sz x : List Nat} {b : Blk} (hg : Good sz b) : brT (root x b) = none ↔ ∀ q ∈ pats (root x b), ∀ q' ∈ pats (root x b), q = q' := by
  have hpos := leaves_pos (root x b) [] hg.grown.fair
  have hp := pats_leaves (root x b) []
  unfold brT
  generalize hL : leaves (root x b) [] = L at hpos hp
  match L, hpos with
  | (pat, th) :: r, _ =>
    show brOf (root x b) pat th ((pat, th) :: r) = none ↔ _
    rw [brOf_none, ← hp]
    constructor
    · intro h q hq q' hq'
      obtain ⟨a, ha, rfl⟩ := List.mem_map.mp hq
      obtain ⟨a', ha', rfl⟩ := List.mem_map.mp hq'
      rw [h a ha, h a' ha']
    · exact fun h q hq => h _ (List.mem_map_of_mem hq) _ (List.mem_map_of_mem (f := (·.1)) (List.mem_cons_self (a := (pat, th)) (l := r)))
theorem few {F P : List (List Nat)} (hn : F.Nodup) (hF : ∀ q, q ∈ F ↔ q ∈ P) : F.length < 2 ↔ ∀ q ∈ P, ∀ q' ∈ P, q = q' := by
  constructor
  · intro h q hq q' hq'
    have a := (hF q).mpr hq
    have a' := (hF q').mpr hq'
    match F, h with
    | [c], _ => rw [List.mem_singleton.mp a, List.mem_singleton.mp a']
    | [], _ => cases a
    | _ :: _ :: _, h => exact absurd h (by rw [List.length_cons, List.length_cons]; omega)
  · intro h
    match F, hn, hF with
    | [], _, _ => decide
    | [c], _, _ => exact Nat.lt_succ_self 1
    | c :: d :: r, hn, hF =>
      have e := h c ((hF c).mp List.mem_cons_self) d ((hF d).mp (List.mem_cons_of_mem _ List.mem_cons_self))
      rw [List.nodup_cons] at hn
      exact absurd (e ▸ List.mem_cons_self) hn.1
theorem brAll_none {b : Blk} : ∀ xs : List (List Nat), brAll b xs = none ↔ ∀ x ∈ xs, brT (root x b) = none
  | [] => ⟨fun _ => nofun, fun _ => rfl⟩
  | x :: r => by
    show (match brT (root x b) with | some ms => some (x, ms) | none => brAll b r) = none ↔ _
    cases e : brT (root x b) with
    | some ms =>
      constructor
      · intro h; cases h
      · intro h
        have := h x List.mem_cons_self
        rw [e] at this
        cases this
    | none =>
      show brAll b r = none ↔ _
      rw [brAll_none r]
      constructor
      · intro h y hy
        rcases List.mem_cons.mp hy with rfl | hy
        · exact e
        · exact h y hy
      · exact fun h y hy => h y (List.mem_cons_of_mem _ hy)
theorem brAll_some {b : Blk} : ∀ {xs : List (List Nat)} {x : List Nat} {ms : List Mv}, brAll b xs = some (x, ms) → x ∈ xs ∧ brT (root x b) = some ms
  | [], x, ms, h => by cases h
  | y :: r, x, ms, h => by
    have h' : (match brT (root y b) with | some ms => some (y, ms) | none => brAll b r) = some (x, ms) := h
    cases e : brT (root y b) with
    | some ms' =>
      rw [e] at h'
      injection h' with h'
      injection h' with h1 h2
      subst h1
      subst h2
      exact ⟨List.mem_cons_self, e⟩
    | none =>
      rw [e] at h'
      have := brAll_some h'
      exact ⟨List.mem_cons_of_mem _ this.1, this.2⟩
theorem mvsOf_map (ms : List Mv) : mvsOf (ms.map mvD) = some ms := by
  induction ms with
  | nil => rfl
  | cons m r ih =>
    show (match mvOf (mvD m), mvsOf (r.map mvD) with | some m, some ms => some (m :: ms) | _, _ => none) = _
    rw [mvOf_mvD, ih]
theorem natsOf_map (x : List Nat) : natsOf (x.map di) = some x := by
  induction x with
  | nil => rfl
  | cons a r ih =>
    show (if (0 : Int) ≤ (a : Int) then (natsOf (r.map di)).map (((a : Int)).toNat :: ·) else none) = _
    rw [if_pos (by omega), ih, Int.toNat_natCast]
    rfl
theorem brT_bad {sz x : List Nat} {b : Blk} (hg : Good sz b) {ms : List Mv} (h : brT (root x b) = some ms) : badO (kruns FF (root x b) (KS.start (root x b)) ms) = true := by
  have hs := shn (x := x) b 0 [] hg.wf
  have hall : ∀ q ∈ leaves (root x b) [], Lf (root x b) q.1 q.2 ∧ q.1.Pairwise (· < ·) := fun q hq => ⟨lf_of (p := q.1) (th := q.2) hq, (leaves_pat (x := x) hg.grown [] q.1 q.2 hq).1⟩
  unfold brT at h
  generalize leaves (root x b) [] = L at h hall
  cases L with
  | nil => cases h
  | cons a r =>
    obtain ⟨pat, th⟩ := a
    have ha := hall _ List.mem_cons_self
    exact brOf_some hs ha.1 ha.2 _ ms hall h
theorem brT_len {sz x : List Nat} {b : Blk} (hg : Good sz b) {ms : List Mv} (h : brT (root x b) = some ms) : ms.length ≤ 200 := by
  have key : ∀ (pat th : List Nat) (L : List (List Nat × List Nat)), brOf (root x b) pat th L = some ms → ms.length ≤ 200 := by
    intro pat th L
    induction L with
    | nil => intro h; cases h
    | cons a r ih =>
      obtain ⟨q, th'⟩ := a
      intro h
      have h' : (if q.any (fun c => !decide (c ∈ pat)) then some (mvs (root x b) th' pat ++ .fall :: mvs (root x b) th pat) else if q = pat then brOf (root x b) pat th r else some (mvs (root x b) th q ++ .fall :: mvs (root x b) th' q)) = some ms := h
      have l1 := mvs60 hg (x := x) th' pat
      have l2 := mvs60 hg (x := x) th pat
      have l3 := mvs60 hg (x := x) th q
      have l4 := mvs60 hg (x := x) th' q
      split at h'
      · injection h' with h'
        subst h'
        rw [List.length_append, List.length_cons]
        omega
      · split at h'
        · exact ih h'
        · injection h' with h'
          subst h'
          rw [List.length_append, List.length_cons]
          omega
  unfold brT at h
  split at h
  · cases h
  · exact key _ _ _ h
/-- what breach tells is judged a breach -/
theorem told_ok {sz : List Nat} {b : Blk} (hg : Good sz b) {x : List Nat} {ms : List Mv} (h : brP sz b FF = some (x, ms)) : Cont sz x ∧ ms.length ≤ 200 ∧ isBr sz b FF (.tup [dis x, mvsD ms]) = true := by
  have h' : brAll b (contents sz) = some (x, ms) := h
  obtain ⟨hx, hb⟩ := brAll_some h'
  have hc := cont_of hg.siz hx
  refine ⟨hc, brT_len hg hb, ?_⟩
  show isBr sz b FF (.tup [.tup (x.map di), .tup (ms.map mvD)]) = true
  rw [isBr_tup (xs := x.map di) (ms := ms.map mvD) (x := x) (cont_within x sz hc) (natsOf_map x), kall_eq, mvsOf_map]
  exact brT_bad hg hb
end G
set_option Elab.async false
set_option linter.all false
set_option maxRecDepth 10000
namespace G
open PySem
def g_lwF (p_is_breach : PSp) (p_l_is_breach : PSp) : DS := (sSeq (sAsg (gPure p_is_breach (gCons (gVar 5) (gCons (gVar 7) (gCons (gVar 11) gNil)))) (aName 12)) (sIf (tOr (tNot (tE (gB (dIsI .bool) (gVar 12)))) (tE (gOp dNe (gVar 12) (gPure p_l_is_breach (gCons (gVar 3) (gCons (gVar 4) (gCons (gVar 7) (gCons (gVar 11) gNil)))))))) (sRet (gC (.bl false))) sNext))
def g_lwB (q_l_draw : DSp) (q_l_bent : DSp) (p_is_breach : PSp) (p_l_is_breach : PSp) : DS := (sSeq (sIf (tE (gOp dEq (gCall q_l_draw (gCons (gVar 1) (gCons (gC (.int 2)) gNil))) (gC (.int 0)))) (sAsg (gCall q_l_bent (gCons (gVar 1) (gCons (gVar 11) gNil))) (aName 11)) sNext) (sSeq (sAsg (gPure p_is_breach (gCons (gVar 5) (gCons (gVar 7) (gCons (gVar 11) gNil)))) (aName 12)) (sIf (tOr (tNot (tE (gB (dIsI .bool) (gVar 12)))) (tE (gOp dNe (gVar 12) (gPure p_l_is_breach (gCons (gVar 3) (gCons (gVar 4) (gCons (gVar 7) (gCons (gVar 11) gNil)))))))) (sRet (gC (.bl false))) sNext)))
def g_lwC (q_l_draw : DSp) (q_l_bent : DSp) (p_is_breach : PSp) (p_l_is_breach : PSp) : DS := (sSeq (sIf (tAnd (tE (gNotN (gVar 8))) (tE (gOp dEq (gCall q_l_draw (gCons (gVar 1) (gCons (gC (.int 2)) gNil))) (gC (.int 0))))) (sAsg (gVar 8) (aName 11)) sNext) (sSeq (sIf (tE (gOp dEq (gCall q_l_draw (gCons (gVar 1) (gCons (gC (.int 2)) gNil))) (gC (.int 0)))) (sAsg (gCall q_l_bent (gCons (gVar 1) (gCons (gVar 11) gNil))) (aName 11)) sNext) (sSeq (sAsg (gPure p_is_breach (gCons (gVar 5) (gCons (gVar 7) (gCons (gVar 11) gNil)))) (aName 12)) (sIf (tOr (tNot (tE (gB (dIsI .bool) (gVar 12)))) (tE (gOp dNe (gVar 12) (gPure p_l_is_breach (gCons (gVar 3) (gCons (gVar 4) (gCons (gVar 7) (gCons (gVar 11) gNil)))))))) (sRet (gC (.bl false))) sNext))))
def g_lwE (q_l_draw : DSp) (p_l_contents : PSp) (q_l_some_moves : DSp) (q_l_bent : DSp) (p_is_breach : PSp) (p_l_is_breach : PSp) : DS := (sSeq (sAsg (gPure p_l_contents (gCons (gVar 3) gNil)) (aName 9)) (sSeq (sAsg (gOp dIx (gVar 9) (gCall q_l_draw (gCons (gVar 1) (gCons (gB dLen (gVar 9)) gNil)))) (aName 10)) (sSeq (sAsg (gTup (gCons (gVar 10) (gCons (gCall q_l_some_moves (gCons (gVar 1) (gCons (gVar 4) (gCons (gVar 10) (gCons (gVar 7) gNil))))) gNil))) (aName 11)) (sSeq (sIf (tAnd (tE (gNotN (gVar 8))) (tE (gOp dEq (gCall q_l_draw (gCons (gVar 1) (gCons (gC (.int 2)) gNil))) (gC (.int 0))))) (sAsg (gVar 8) (aName 11)) sNext) (sSeq (sIf (tE (gOp dEq (gCall q_l_draw (gCons (gVar 1) (gCons (gC (.int 2)) gNil))) (gC (.int 0)))) (sAsg (gCall q_l_bent (gCons (gVar 1) (gCons (gVar 11) gNil))) (aName 11)) sNext) (sSeq (sAsg (gPure p_is_breach (gCons (gVar 5) (gCons (gVar 7) (gCons (gVar 11) gNil)))) (aName 12)) (sIf (tOr (tNot (tE (gB (dIsI .bool) (gVar 12)))) (tE (gOp dNe (gVar 12) (gPure p_l_is_breach (gCons (gVar 3) (gCons (gVar 4) (gCons (gVar 7) (gCons (gVar 11) gNil)))))))) (sRet (gC (.bl false))) sNext)))))))
abbrev pr (x : List Nat) (m : List Mv) : D := .tup [dis x, .tup (m.map mvD)]
theorem thing_pr {x : List Nat} {m : List Mv} (hx : x.length ≤ 10) (hm : m.length ≤ 200) : Thing (pr x m) :=
  thing_pair (plain_dis 48 x) (fun d hd => by obtain ⟨v, _, rfl⟩ := List.mem_map.mp hd; exact plain_mvD v) (by rw [List.length_map]; omega) (fun xs e => by injection e with e; subst e; rw [List.length_map]; omega)
abbrev GL (sz : List Nat) (b : Blk) (pol : Bool × Bool) (g : Addr) (o0 o2 o6 o8 o9 o10 o11 o12 : Option D) : Slots := [o0, some (.ptr g), o2, some (dis sz), some (dB b), some (prD sz b), o6, some (plD pol), o8, o9, o10, o11, o12]
theorem lwF {sz : List Nat} {b : Blk} {pol : Bool × Bool} {g : Addr} {o0 o2 o6 o8 o9 o10 o12 : Option D} {th : D} {E : DEnds} {M : Mem} (hg : Good sz b) (hth : Thing th) (h : ∀ o12, E.nx (GL sz b pol g o0 o2 o6 o8 o9 o10 (some th) o12) M) : g_lwF p_is_breach p_l_is_breach E (GL sz b pol g o0 o2 o6 o8 o9 o10 (some th) o12) M := by
  refine ⟨sz, b, pol, th, rfl, hg, hth, rfl, sz, b, pol, th, rfl, hg, hth, ?_⟩
  conv => whnf
  rw [decide_eq_true rfl]
  exact h _
theorem lwB {sz : List Nat} {b : Blk} {pol : Bool × Bool} {g : Addr} {o0 o2 o6 o8 o9 o10 o12 : Option D} {x : List Nat} {m : List Mv} {l : List D} {E : DEnds} {M : Mem} (hg : Good sz b) (hx : x.length ≤ 10) (hm : m.length ≤ 200) (hM : M g = some (.lst l)) (hl : HandL l) (h : ∀ o11 o12 l', HandL l' → E.nx (GL sz b pol g o0 o2 o6 o8 o9 o10 o11 o12) (M.set g (.lst l'))) : g_lwB q_l_draw q_l_bent p_is_breach p_l_is_breach E (GL sz b pol g o0 o2 o6 o8 o9 o10 (some (pr x m)) o12) M := by
  refine ⟨g, l, 2, rfl, hM, hl, by decide, by decide, fun l1 r hl1 _ _ => ?_⟩
  conv => whnf
  by_cases hr : r = 0
  · rw [decide_eq_true hr]
    refine ⟨g, l1, x, m, rfl, Mem.same, hl1, hx, hm, fun l2 th hl2 hth => ?_⟩
    rw [Mem.set_set]
    exact lwF hg hth fun o12 => h _ _ l2 hl2
  · rw [decide_eq_false hr]
    exact lwF hg (thing_pr hx hm) fun o12 => h _ _ l1 hl1
theorem lwC {sz : List Nat} {b : Blk} {pol : Bool × Bool} {g : Addr} {o0 o2 o6 o9 o10 o12 : Option D} {br : Option (List Nat × List Mv)} {x : List Nat} {m : List Mv} {l : List D} {E : DEnds} {M : Mem} (hg : Good sz b) (hbr : ∀ x ms, br = some (x, ms) → x.length ≤ 10 ∧ ms.length ≤ 200) (hx : x.length ≤ 10) (hm : m.length ≤ 200) (hM : M g = some (.lst l)) (hl : HandL l) (h : ∀ o11 o12 l', HandL l' → E.nx (GL sz b pol g o0 o2 o6 (some (brD br)) o9 o10 o11 o12) (M.set g (.lst l'))) : g_lwC q_l_draw q_l_bent p_is_breach p_l_is_breach E (GL sz b pol g o0 o2 o6 (some (brD br)) o9 o10 (some (pr x m)) o12) M := by
  cases br with
  | none => exact lwB hg hx hm hM hl h
  | some xm =>
    obtain ⟨x2, ms⟩ := xm
    have ⟨h1, h2⟩ := hbr x2 ms rfl
    refine ⟨g, l, 2, rfl, hM, hl, by decide, by decide, fun l1 r hl1 _ _ => ?_⟩
    have h' : ∀ o11 o12 l', HandL l' → E.nx (GL sz b pol g o0 o2 o6 (some (brD (some (x2, ms)))) o9 o10 o11 o12) ((M.set g (.lst l1)).set g (.lst l')) := fun o11 o12 l' hl' => by rw [Mem.set_set]; exact h o11 o12 l' hl'
    conv => whnf
    by_cases hr : r = 0
    · rw [decide_eq_true hr]
      exact lwB (x := x2) (m := ms) hg h1 h2 Mem.same hl1 h'
    · rw [decide_eq_false hr]
      exact lwB hg hx hm Mem.same hl1 h'
theorem lwE {sz : List Nat} {b : Blk} {pol : Bool × Bool} {g : Addr} {o0 o2 o6 o9 o10 o11 o12 : Option D} {br : Option (List Nat × List Mv)} {l : List D} {E : DEnds} {M : Mem} (hg : Good sz b) (hbr : ∀ x ms, br = some (x, ms) → x.length ≤ 10 ∧ ms.length ≤ 200) (hM : M g = some (.lst l)) (hl : HandL l) (h : ∀ o9 o10 o11 o12 l', HandL l' → E.nx (GL sz b pol g o0 o2 o6 (some (brD br)) o9 o10 o11 o12) (M.set g (.lst l'))) : g_lwE q_l_draw p_l_contents q_l_some_moves q_l_bent p_is_breach p_l_is_breach E (GL sz b pol g o0 o2 o6 (some (brD br)) o9 o10 o11 o12) M := by
  have hcl := contents_len hg.siz
  have hcp : 1 ≤ (contents sz).length := by rcases hg.siz with rfl | rfl | rfl | rfl <;> decide
  have hs3 := hg.siz.len
  refine ⟨sz, rfl, hg.siz, _, rfl, g, l, _, rfl, hM, hl, by rw [List.length_map]; omega, by rw [List.length_map]; omega, fun l1 r hl1 hr0 hr1 => ?_⟩
  rw [List.length_map] at hr1
  obtain ⟨j, rfl⟩ := Int.eq_ofNat_of_zero_le hr0
  have hj : j < (contents sz).length := by omega
  have hat : atI ((contents sz).map dis) (j : Int) = some (dis (contents sz)[j]) := atI_nat (by rw [List.getElem?_map, List.getElem?_eq_getElem hj]; rfl)
  have hx := cont_of hg.siz (List.getElem_mem hj)
  refine ⟨_, _, _, rfl, rfl, hat, g, l1, sz, (contents sz)[j], b, pol, rfl, Mem.same, hl1, hg, hx, fun l2 m hl2 hm => ⟨Nat.le_of_ble_eq_true rfl, ?_⟩⟩
  rw [Mem.set_set]
  refine lwC hg hbr (by rw [hx.1]; omega) (by omega) Mem.same hl2 fun o11 o12 l' hl' => ?_
  rw [Mem.set_set]
  exact h _ _ _ _ l' hl'
def p_law : PSp := fun Ds k => ∃ ns, Ds = [.scr ns] ∧ k (.bl true)
theorem many_of {b : Blk} : ∀ (xs : List (List Nat)) (ys : List D), All2 (fun y x => ∃ F : List (List Nat), y = .int F.length ∧ F.Nodup ∧ ∀ q, q ∈ F ↔ q ∈ pats (root x b)) ys xs → ∃ ns : List Int, intsOf ys = some ns ∧ ns.length = xs.length ∧ (∀ n ∈ ns, ∃ x ∈ xs, ∃ F : List (List Nat), n = F.length ∧ F.Nodup ∧ ∀ q, q ∈ F ↔ q ∈ pats (root x b)) ∧ (∀ x ∈ xs, ∃ n ∈ ns, ∃ F : List (List Nat), n = F.length ∧ F.Nodup ∧ ∀ q, q ∈ F ↔ q ∈ pats (root x b))
  | [], ys, h => by
    cases h
    exact ⟨[], rfl, rfl, nofun, nofun⟩
  | x :: xs, ys, h => by
    cases h with
    | cons h1 h2 =>
      obtain ⟨F, rfl, hn, hF⟩ := h1
      obtain ⟨ns, e, hl, ha, hb⟩ := many_of xs _ h2
      refine ⟨(F.length : Int) :: ns, ?_, by rw [List.length_cons, List.length_cons, hl], fun n hn' => ?_, fun y hy => ?_⟩
      · show (intsOf _).map _ = _
        rw [e]
        rfl
      · rcases List.mem_cons.mp hn' with rfl | hn'
        · exact ⟨x, List.mem_cons_self, F, rfl, hn, hF⟩
        · obtain ⟨y, hy, h⟩ := ha n hn'
          exact ⟨y, List.mem_cons_of_mem _ hy, h⟩
      · rcases List.mem_cons.mp hy with rfl | hy
        · exact ⟨_, List.mem_cons_self, F, rfl, hn, hF⟩
        · obtain ⟨n, hn', h⟩ := hb y hy
          exact ⟨n, List.mem_cons_of_mem _ hn', h⟩
theorem r_law (Ds : List D) (Q : D → Prop) (h : p_law Ds Q) : Ds.length = 1 ∧ g_law q_l_hand q_l_draw (q_l_blind_block 6) q_Program_init p_l_contents p_l_shows p_breach p_l_is_breach p_is_breach q_l_some_moves q_l_bent (endsP Q) (startD ["script", "hand", "turn", "sizes", "block", "program", "many", "policy", "told", "every", "content", "thing", "flag"] Ds) Mem.nil := by
  obtain ⟨ns, rfl, h⟩ := h
  refine ⟨rfl, ns, rfl, fun g l _ hl => ⟨⟨by decide, by decide⟩, ?_⟩⟩
  refine for_of (fun ds Γ M => ∃ l o2 o3 o4 o5 o6 o7 o8 o9 o10 o11 o12, Γ = [some (.scr ns), some (.ptr g), o2, o3, o4, o5, o6, o7, o8, o9, o10, o11, o12] ∧ M g = some (.lst l) ∧ HandL l) ?_ ?_ _ _ _ ⟨l, none, none, none, none, none, none, none, none, none, none, none, rfl, Mem.same, hl⟩
  · rintro Γ M ⟨l, _, _, _, _, _, _, _, _, _, _, _, rfl, _, _⟩
    exact h
  · rintro d ds R _ M hR ⟨l, o2, o3, o4, o5, o6, o7, o8, o9, o10, o11, o12, rfl, hM, hl⟩
    refine ⟨Nat.le_of_ble_eq_true rfl, Nat.le_of_ble_eq_true rfl, Nat.le_of_ble_eq_true rfl, Nat.le_of_ble_eq_true rfl, Nat.le_of_ble_eq_true rfl, g, l, 4, rfl, hM, hl, by decide, by decide, fun l1 r hl1 hr0 hr4 => ?_⟩
    obtain ⟨sz, hs, hat⟩ : ∃ sz, Sz sz ∧ atI [dis [2, 2], dis [3, 2], dis [2, 2, 2], dis [2]] r = some (dis sz) := by
      have : r = 0 ∨ r = 1 ∨ r = 2 ∨ r = 3 := by omega
      rcases this with rfl | rfl | rfl | rfl
      · exact ⟨[2, 2], .inl rfl, rfl⟩
      · exact ⟨[3, 2], .inr (.inl rfl), rfl⟩
      · exact ⟨[2, 2, 2], .inr (.inr (.inl rfl)), rfl⟩
      · exact ⟨[2], .inr (.inr (.inr rfl)), rfl⟩
    have hs3 := hs.len
    refine ⟨_, r, dis sz, rfl, rfl, hat, Nat.le_of_ble_eq_true rfl, Nat.le_of_ble_eq_true rfl, fun lf hlf => ?_⟩
    have hglf : g ≠ lf := Mem.apart Mem.same hlf
    refine ⟨g, lf, l1, sz, [], 2, 30, 5, rfl, (Mem.ne hglf).trans Mem.same, hl1, Mem.same, hs, List.nodup_nil, nofun, by decide, by decide, by decide, ?_, fun M1 l2 b t' L' hg1 hl2 _ res => ?_⟩
    · show sz.length - 0 + 2 < 6
      omega
    · have hgood : Good sz b := by
        obtain ⟨r1, r2, r3, r4, r5, r6⟩ := res
        refine ⟨hs, r1, by omega, ?_, by omega⟩
        have e30 : ex 30 = 15 := rfl
        rw [e30] at r6
        rcases three (W sz []) (W_le sz []) with e | e | e <;> (rw [e] at r6; omega)
      refine fun a ha => ⟨a, sz, b, rfl, hgood, Mem.same, rfl, _, Mem.same, ?_⟩
      have hga : g ≠ a := Mem.apart hg1 ha
      have hg2 : (((M1.set a (.ins .prog [])).set a (.ins .prog [("sizes", dis sz), ("block", dB b)])).del a) g = some (.lst l2) := (Mem.dne hga).trans ((Mem.ne hga).trans ((Mem.ne hga).trans hg1))
      refine ⟨sz, rfl, hs, ?_⟩
      refine cm_rel (Rel := fun y x => ∃ F : List (List Nat), y = .int F.length ∧ F.Nodup ∧ ∀ q, q ∈ F ↔ q ∈ pats (root x b)) dis (contents sz) [] (by have := contents_len hs; exact lim_of (show 0 + _ ≤ 10 by omega) (by decide)) (fun x hx R hR => ⟨rfl, sz, x, b, rfl, hgood, cont_of hs hx, fun F hn hF => ⟨_, rfl, hR _ ⟨F, by rw [List.length_map], hn, hF⟩⟩⟩) fun ys hys => ?_
      obtain ⟨nl, hnl, hlen, hna, hnb⟩ := many_of _ _ hys
      have hcp : 1 ≤ (contents sz).length := by rcases hs with rfl | rfl | rfl | rfl <;> decide
      refine ⟨rfl, _, nl, rfl, hnl, by omega, fun m hm hmax => ?_⟩
      have key : m < 2 ↔ ∀ x ∈ contents sz, brT (root x b) = none := by
        constructor
        · intro hm2 x hx
          obtain ⟨n, hn, F, rfl, hnd, hF⟩ := hnb x hx
          have := hmax _ hn
          rw [brT_none hgood, ← few hnd hF]
          omega
        · intro hall
          obtain ⟨x, hx, F, rfl, hnd, hF⟩ := hna m hm
          have := (few hnd hF).mpr ((brT_none hgood).mp (hall x hx))
          omega
      rw [← brAll_none] at key
      refine ⟨Nat.le_of_ble_eq_true rfl, Nat.le_of_ble_eq_true rfl, Nat.le_of_ble_eq_true rfl, Nat.le_of_ble_eq_true rfl, Nat.le_of_ble_eq_true rfl, ?_⟩
      refine for_of (fun ds Γ M => ∃ l o7 o8 o9 o10 o11 o12, Γ = [some (.scr ns), some (.ptr g), some d, some (dis sz), some (dB b), some (prD sz b), some (.int m), o7, o8, o9, o10, o11, o12] ∧ M g = some (.lst l) ∧ HandL l ∧ ∀ d ∈ ds, ∃ pol, d = plD pol) ?_ ?_ _ _ _ ⟨l2, o7, o8, o9, o10, o11, o12, rfl, hg2, hl2, fun d hd => ?_⟩
      · rintro Γ M ⟨l, _, _, _, _, _, _, rfl, hM, hl, _⟩
        exact hR _ _ ⟨l, _, _, _, _, _, _, _, _, _, _, _, rfl, hM, hl⟩
      · rintro d2 ds2 R2 _ M hR2 ⟨l, o7, o8, o9, o10, o11, o12, rfl, hM, hl, hds⟩
        obtain ⟨pol, rfl⟩ := hds d2 List.mem_cons_self
        refine ⟨sz, b, pol, rfl, hgood, ?_⟩
        have tl : ∀ br : Option (List Nat × List Mv), (∀ x ms, br = some (x, ms) → x.length ≤ 10 ∧ ms.length ≤ 200) → ∀ E : DEnds, E.nx = R2 → g_lwE q_l_draw p_l_contents q_l_some_moves q_l_bent p_is_breach p_l_is_breach E (GL sz b pol g (some (.scr ns)) (some d) (some (.int m)) (some (brD br)) o9 o10 o11 o12) M := by
          intro br hbr E hE
          refine lwE hgood hbr hM hl fun o9 o10 o11 o12 l' hl' => ?_
          rw [hE]
          exact hR2 _ _ ⟨l', _, _, _, _, _, _, rfl, Mem.same, hl', fun d hd => hds d (List.mem_cons_of_mem _ hd)⟩
        obtain ⟨p1, p2⟩ := pol
        have hno : ∀ q1 q2 : Bool, (q1 || q2) = true → brP sz b (q1, q2) = none := fun q1 q2 hq => if_pos hq
        cases p1 with
        | true =>
          rw [hno true p2 rfl]
          refine ⟨_, rfl, .inl ⟨rfl, ?_⟩, ?_⟩
          · cases p2 <;> rfl
          · cases p2 <;> exact tl none nofun _ rfl
        | false =>
          cases p2 with
          | true =>
            rw [hno false true rfl]
            exact ⟨_, rfl, .inl ⟨rfl, rfl⟩, tl none nofun _ rfl⟩
          | false =>
            refine ⟨_, rfl, .inl ⟨rfl, rfl⟩, ?_⟩
            have hP : brP sz b (false, false) = brAll b (contents sz) := rfl
            have tl' := tl (brP sz b (false, false)) fun x ms e => by
              have ⟨a1, a2, _⟩ := told_ok hgood e
              exact ⟨by rw [a1.1]; omega, a2⟩
            cases e : brP sz b (false, false) with
            | none =>
              have hm2 : m < 2 := key.mpr (hP ▸ e)
              conv => whnf
              rw [decide_eq_true hm2]
              rw [e] at tl'
              exact tl' _ rfl
            | some xm =>
              obtain ⟨x, ms⟩ := xm
              have hm2 : ¬ m < 2 := fun hm2 => by
                have := key.mp hm2
                rw [← hP, e] at this
                cases this
              have ⟨a1, a2, a3⟩ := told_ok hgood e
              have hth : Thing (.tup [dis x, mvsD ms]) := thing_pr (by rw [a1.1]; omega) a2
              conv => whnf
              rw [decide_eq_false hm2]
              rw [e] at tl'
              refine ⟨sz, b, FF, .tup [dis x, mvsD ms], rfl, hgood, hth, ?_⟩
              rw [a3]
              refine ⟨sz, b, FF, .tup [dis x, mvsD ms], rfl, hgood, hth, ?_⟩
              rw [a3]
              exact tl' _ rfl
      · simp only [List.mem_cons, List.not_mem_nil, or_false] at hd
        rcases hd with rfl | rfl | rfl | rfl
        · exact ⟨(false, false), rfl⟩
        · exact ⟨(false, true), rfl⟩
        · exact ⟨(true, false), rfl⟩
        · exact ⟨(true, true), rfl⟩
end G
set_option Elab.async false
set_option linter.all false
set_option maxRecDepth 100000
set_option maxHeartbeats 2000000
namespace G
open PySem PySem.Spec PyProof.Rows
open L2 (V Hp HO upd SqL SqT Same)
theorem MtG.mono {ca : Cl → Addr} {P : Program} {w : World} {K : PySem.W.Frag} {mg : Str → Option Value} {base : Heap} {c : Cl} {x : Str} {j k : Nat} {ds : DSp} (F : MtG ca P w K mg base c x j ds) (h : j ≤ k) : MtG ca P w K mg base c x k ds := by
  obtain ⟨f, fd, ps, h1, h2⟩ := F.ex
  exact ⟨f, fd, ps, h1.mono h, h2⟩
theorem MkG.mono {ca : Cl → Addr} {P : Program} {w : World} {K : PySem.W.Frag} {mg : Str → Option Value} {base : Heap} {c : Cl} {x : Str} {j k : Nat} {ds : DSp} (F : MkG ca P w K mg base c x j ds) (h : j ≤ k) : MkG ca P w K mg base c x k ds := by
  obtain ⟨f, fd, ps, h1, h2⟩ := F.ex
  exact ⟨f, fd, ps, h1.mono h, h2⟩
def caK (K : PySem.W.Frag) : Cl → Addr
  | .state => He.ga K "State"
  | .keeper => He.ga K "Keeper"
  | .prog => He.ga K "Program"
section
variable {P : Program} {w : World} {K : PySem.W.Frag} {mg : Str → Option Value} {base h : Heap} {k : Nat}
theorem none_ok {ca : Cl → Addr} {x qual : Str} {args : Arguments} {body : List Stmt} {scope : Scope} {fa : Addr} {fd : FuncData} {N ps : List Str} {ds : DSp} (F : L2.FunD K x qual args body scope [] [] fa fd) (S : L2.FnScope N ps scope)
    (hf : ∀ Ds M Q, ds Ds M Q → False) : L2.FnOk P w K mg base L2.CX0 (k + 1) fa fd ps (spOf K ca ds) := by
  refine F.ok S (fun vs H Q E h => ?_) (fun cdv A outer s H vs Q E hro h => ?_)
  · obtain ⟨G, Ds, M, P, m, r, q, _⟩ := h
    exact (hf _ _ _ q).elim
  · obtain ⟨G, Ds, M, P, m, r, q, _⟩ := h
    exact (hf _ _ _ q).elim
theorem dp_pos (b : Blk) : 1 ≤ dp b := by
  rw [dp_kids]
  omega
theorem no_is_alike (Ds : List D) (M : Mem) (Q : D → Mem → Prop) (h : liftP (p_is_alike 0) Ds M Q) : False := h
theorem no_l_do (Ds : List D) (M : Mem) (Q : D → Mem → Prop) (h : q_l_do 0 Ds M Q) : False := by
  obtain ⟨_, b, _, _, _, _, _, _, _, hd, _⟩ := h
  have := dp_pos b
  omega
theorem no_l_blind_block (Ds : List D) (M : Mem) (Q : D → Mem → Prop) (h : q_l_blind_block 0 Ds M Q) : False := by
  obtain ⟨_, _, _, _, _, _, _, _, _, _, _, _, _, _, _, _, _, _, hn, _⟩ := h
  exact Nat.not_lt_zero _ hn
theorem tx (X : K.In h) (N : h.Ns mainGlobals mg) (c : He.SaysD Hd.fa Hd.fn K) (o : He.tupB K "ONE" [.int 1, .int 1] = true) : Tx K mg (caK K) := by
  refine ⟨(fun c' => by
    cases c' with
    | state => exact He.cls_ok (c.fact 78 (f := .cls "State") rfl)
    | keeper => exact He.cls_ok (c.fact 112 (f := .cls "Keeper") rfl)
    | prog => exact He.cls_ok (c.fact 95 (f := .cls "Program") rfl))
    , (fun c' => by
    cases c' with
    | state => exact He.noat_ok (c.fact 80 (f := .noat "State" "told") rfl)
    | keeper => exact He.noat_ok (c.fact 114 (f := .noat "Keeper" "told") rfl)
    | prog => exact He.noat_ok (c.fact 97 (f := .noat "Program" "told") rfl))
    , (fun c' => by
    cases c' with
    | state => exact He.noat_ok (c.fact 81 (f := .noat "State" "opened") rfl)
    | keeper => exact He.noat_ok (c.fact 115 (f := .noat "Keeper" "opened") rfl)
    | prog => exact He.noat_ok (c.fact 98 (f := .noat "Program" "opened") rfl))
    , (fun c' => by
    cases c' with
    | state => exact He.noat_ok (c.fact 82 (f := .noat "State" "place") rfl)
    | keeper => exact He.noat_ok (c.fact 116 (f := .noat "Keeper" "place") rfl)
    | prog => exact He.noat_ok (c.fact 99 (f := .noat "Program" "place") rfl))
    , (fun c' => by
    cases c' with
    | state => exact He.noat_ok (c.fact 83 (f := .noat "State" "deed") rfl)
    | keeper => exact He.noat_ok (c.fact 117 (f := .noat "Keeper" "deed") rfl)
    | prog => exact He.noat_ok (c.fact 100 (f := .noat "Program" "deed") rfl))
    , (fun c' => by
    cases c' with
    | state => exact He.noat_ok (c.fact 84 (f := .noat "State" "sizes") rfl)
    | keeper => exact He.noat_ok (c.fact 118 (f := .noat "Keeper" "sizes") rfl)
    | prog => exact He.noat_ok (c.fact 101 (f := .noat "Program" "sizes") rfl))
    , (fun c' => by
    cases c' with
    | state => exact He.noat_ok (c.fact 85 (f := .noat "State" "block") rfl)
    | keeper => exact He.noat_ok (c.fact 119 (f := .noat "Keeper" "block") rfl)
    | prog => exact He.noat_ok (c.fact 102 (f := .noat "Program" "block") rfl))
    , (fun c' => by
    cases c' with
    | state => exact He.noat_ok (c.fact 86 (f := .noat "State" "program") rfl)
    | keeper => exact He.noat_ok (c.fact 120 (f := .noat "Keeper" "program") rfl)
    | prog => exact He.noat_ok (c.fact 103 (f := .noat "Program" "program") rfl))
    , (fun c' => by
    cases c' with
    | state => exact He.noat_ok (c.fact 87 (f := .noat "State" "policy") rfl)
    | keeper => exact He.noat_ok (c.fact 121 (f := .noat "Keeper" "policy") rfl)
    | prog => exact He.noat_ok (c.fact 104 (f := .noat "Program" "policy") rfl))
    , (fun c' => by
    cases c' with
    | state => exact He.noat_ok (c.fact 88 (f := .noat "State" "contents_put") rfl)
    | keeper => exact He.noat_ok (c.fact 122 (f := .noat "Keeper" "contents_put") rfl)
    | prog => exact He.noat_ok (c.fact 105 (f := .noat "Program" "contents_put") rfl))
    , (fun c' => by
    cases c' with
    | state => exact He.noat_ok (c.fact 89 (f := .noat "State" "columns_seen") rfl)
    | keeper => exact He.noat_ok (c.fact 123 (f := .noat "Keeper" "columns_seen") rfl)
    | prog => exact He.noat_ok (c.fact 106 (f := .noat "Program" "columns_seen") rfl))
    , (fun c' => by
    cases c' with
    | state => exact He.noat_ok (c.fact 90 (f := .noat "State" "patterns_told") rfl)
    | keeper => exact He.noat_ok (c.fact 124 (f := .noat "Keeper" "patterns_told") rfl)
    | prog => exact He.noat_ok (c.fact 107 (f := .noat "Program" "patterns_told") rfl))
    , (fun c' => by
    cases c' with
    | state => exact He.noat_ok (c.fact 91 (f := .noat "State" "sure_lines") rfl)
    | keeper => exact He.noat_ok (c.fact 125 (f := .noat "Keeper" "sure_lines") rfl)
    | prog => exact He.noat_ok (c.fact 108 (f := .noat "Program" "sure_lines") rfl))
    , (fun c' => by
    cases c' with
    | state => exact He.noat_ok (c.fact 92 (f := .noat "State" "loose_lines") rfl)
    | keeper => exact He.noat_ok (c.fact 126 (f := .noat "Keeper" "loose_lines") rfl)
    | prog => exact He.noat_ok (c.fact 109 (f := .noat "Program" "loose_lines") rfl))
    , (fun c' => by
    cases c' with
    | state => exact He.noat_ok (c.fact 93 (f := .noat "State" "live") rfl)
    | keeper => exact He.noat_ok (c.fact 127 (f := .noat "Keeper" "live") rfl)
    | prog => exact He.noat_ok (c.fact 110 (f := .noat "Program" "live") rfl))
    , (fun c' => by
    cases c' with
    | state => exact He.noat_ok (c.fact 94 (f := .noat "State" "sure") rfl)
    | keeper => exact He.noat_ok (c.fact 128 (f := .noat "Keeper" "sure") rfl)
    | prog => exact He.noat_ok (c.fact 111 (f := .noat "Program" "sure") rfl))
    , He.free_ok X N (c.fact 56 (f := .free "isinstance") rfl)
    , He.free_ok X N (c.fact 57 (f := .free "len") rfl)
    , He.free_ok X N (c.fact 58 (f := .free "all") rfl)
    , He.free_ok X N (c.fact 59 (f := .free "any") rfl)
    , He.free_ok X N (c.fact 60 (f := .free "range") rfl)
    , He.free_ok X N (c.fact 61 (f := .free "int") rfl)
    , He.free_ok X N (c.fact 62 (f := .free "bool") rfl)
    , He.free_ok X N (c.fact 63 (f := .free "str") rfl)
    , He.free_ok X N (c.fact 64 (f := .free "tuple") rfl)
    , He.free_ok X N (c.fact 65 (f := .free "list") rfl)
    , He.free_ok X N (c.fact 66 (f := .free "dict") rfl)
    , He.free_ok X N (c.fact 67 (f := .free "sorted") rfl)
    , He.free_ok X N (c.fact 68 (f := .free "abs") rfl)
    , He.free_ok X N (c.fact 69 (f := .free "max") rfl)
    , He.free_ok X N (c.fact 70 (f := .free "zip") rfl)
    , He.int_ok X N (c.fact 71 (f := .int "MOST_COLUMNS" 5) rfl)
    , He.int_ok X N (c.fact 72 (f := .int "MOST_CONTENTS" 256) rfl)
    , He.int_ok X N (c.fact 73 (f := .int "MOST_RUNS" 2000) rfl)
    , He.int_ok X N (c.fact 74 (f := .int "MOST_STATEMENTS" 60) rfl)
    , He.int_ok X N (c.fact 75 (f := .int "MOST_DEEP" 6) rfl)
    , He.int_ok X N (c.fact 76 (f := .int "MOST_SIDES" 12) rfl)
    , He.int_ok X N (c.fact 77 (f := .int "MOST_TIMES" 8) rfl)
    , ⟨He.ga K "ONE", He.glo_ok X N (c.fact 54 (f := .glo "ONE") rfl), fun G => .tup (He.tupB_ok o G) (.cons (.int 1) (.cons (.int 1) .nil))⟩⟩
theorem A_l_hand (X : K.In h) (N : h.Ns mainGlobals mg) (c : He.SaysD Hd.fa Hd.fn K) (T : Tx K mg (caK K))  : FnG (caK K) P w K mg base "_law_hand" (k + 2) q_l_hand := by
  obtain ⟨fd, F⟩ := c.def_ 58 (d := Hd.d_l_hand) rfl
  exact ⟨_, fd, _, def_ok F sc_l_hand (fun cdv A outer s H E hr => dv_l_hand T hr) (r_l_hand), He.glo_ok X N (c.fact 35 (f := .glo "_law_hand") rfl), F.kp, F.bindsN fun _ _ _ _ _ _ us hl => match us, hl with | [_], _ => rfl⟩
theorem A_l_draw (X : K.In h) (N : h.Ns mainGlobals mg) (c : He.SaysD Hd.fa Hd.fn K) (T : Tx K mg (caK K))  : FnG (caK K) P w K mg base "_law_draw" (k + 2) q_l_draw := by
  obtain ⟨fd, F⟩ := c.def_ 59 (d := Hd.d_l_draw) rfl
  exact ⟨_, fd, _, def_ok F sc_l_draw (fun cdv A outer s H E hr => dv_l_draw T hr) (r_l_draw), He.glo_ok X N (c.fact 36 (f := .glo "_law_draw") rfl), F.kp, F.bindsN fun _ _ _ _ _ _ us hl => match us, hl with | [_, _], _ => rfl⟩
theorem A_l_blind_block0 (X : K.In h) (N : h.Ns mainGlobals mg) (c : He.SaysD Hd.fa Hd.fn K) (T : Tx K mg (caK K)) : FnG (caK K) P w K mg base "_law_blind_block" (k + 1) (q_l_blind_block 0) := by
  obtain ⟨fd, F⟩ := c.def_ 67 (d := Hd.d_l_blind_block) rfl
  exact ⟨_, fd, _, none_ok F sc_l_blind_block no_l_blind_block, He.glo_ok X N (c.fact 44 (f := .glo "_law_blind_block") rfl), F.kp, F.bindsN fun _ _ _ _ _ _ us hl => match us, hl with | [_, _, _, _, _], _ => rfl⟩
theorem A_l_blind_block (X : K.In h) (N : h.Ns mainGlobals mg) (c : He.SaysD Hd.fa Hd.fn K) (T : Tx K mg (caK K)) (n : Nat) (F_l_draw : FnG (caK K) P w K mg base "_law_draw" k q_l_draw) (F_l_blind_block : FnG (caK K) P w K mg base "_law_blind_block" k (q_l_blind_block n)) : FnG (caK K) P w K mg base "_law_blind_block" (k + 2) (q_l_blind_block (n + 1)) := by
  obtain ⟨fd, F⟩ := c.def_ 67 (d := Hd.d_l_blind_block) rfl
  exact ⟨_, fd, _, def_ok F sc_l_blind_block (fun cdv A outer s H E hr => dv_l_blind_block T F_l_draw F_l_blind_block hr) (r_l_blind_block n), He.glo_ok X N (c.fact 44 (f := .glo "_law_blind_block") rfl), F.kp, F.bindsN fun _ _ _ _ _ _ us hl => match us, hl with | [_, _, _, _, _], _ => rfl⟩
theorem A_is_integer (X : K.In h) (N : h.Ns mainGlobals mg) (c : He.SaysD Hd.fa Hd.fn K) (T : Tx K mg (caK K))  : FnG (caK K) P w K mg base "is_integer" (k + 2) (liftP p_is_integer) := by
  obtain ⟨fd, F⟩ := c.def_ 0 (d := Hd.d_is_integer) rfl
  exact ⟨_, fd, _, def_pure F sc_is_integer (fun cdv A outer s H E hr => dv_is_integer T hr) (r_is_integer), He.glo_ok X N (c.fact 0 (f := .glo "is_integer") rfl), F.kp, F.bindsN fun _ _ _ _ _ _ us hl => match us, hl with | [_], _ => rfl⟩
theorem A_is_within (X : K.In h) (N : h.Ns mainGlobals mg) (c : He.SaysD Hd.fa Hd.fn K) (T : Tx K mg (caK K)) (F_is_integer : FnG (caK K) P w K mg base "is_integer" k (liftP p_is_integer)) : FnG (caK K) P w K mg base "is_within" (k + 2) (liftP p_is_within) := by
  obtain ⟨fd, F⟩ := c.def_ 1 (d := Hd.d_is_within) rfl
  exact ⟨_, fd, _, def_pure F sc_is_within (fun cdv A outer s H E hr => dv_is_within T F_is_integer hr) (r_is_within), He.glo_ok X N (c.fact 1 (f := .glo "is_within") rfl), F.kp, F.bindsN fun _ _ _ _ _ _ us hl => match us, hl with | [_, _, _], _ => rfl⟩
theorem A_many_contents (X : K.In h) (N : h.Ns mainGlobals mg) (c : He.SaysD Hd.fa Hd.fn K) (T : Tx K mg (caK K))  : FnG (caK K) P w K mg base "many_contents" (k + 2) (liftP p_many_contents) := by
  obtain ⟨fd, F⟩ := c.def_ 11 (d := Hd.d_many_contents) rfl
  exact ⟨_, fd, _, def_pure F sc_many_contents (fun cdv A outer s H E hr => dv_many_contents T hr) (r_many_contents), He.glo_ok X N (c.fact 11 (f := .glo "many_contents") rfl), F.kp, F.bindsN fun _ _ _ _ _ _ us hl => match us, hl with | [_], _ => rfl⟩
theorem A_are_sizes (X : K.In h) (N : h.Ns mainGlobals mg) (c : He.SaysD Hd.fa Hd.fn K) (T : Tx K mg (caK K)) (F_is_within : FnG (caK K) P w K mg base "is_within" k (liftP p_is_within)) (F_many_contents : FnG (caK K) P w K mg base "many_contents" k (liftP p_many_contents)) : FnG (caK K) P w K mg base "are_sizes" (k + 2) (liftP p_are_sizes) := by
  obtain ⟨fd, F⟩ := c.def_ 10 (d := Hd.d_are_sizes) rfl
  exact ⟨_, fd, _, def_pure F sc_are_sizes (fun cdv A outer s H E hr => dv_are_sizes T F_is_within F_many_contents hr) (r_are_sizes), He.glo_ok X N (c.fact 10 (f := .glo "are_sizes") rfl), F.kp, F.bindsN fun _ _ _ _ _ _ us hl => match us, hl with | [_], _ => rfl⟩
theorem A_is_pair (X : K.In h) (N : h.Ns mainGlobals mg) (c : He.SaysD Hd.fa Hd.fn K) (T : Tx K mg (caK K))  : FnG (caK K) P w K mg base "is_pair" (k + 2) (liftP p_is_pair) := by
  obtain ⟨fd, F⟩ := c.def_ 3 (d := Hd.d_is_pair) rfl
  exact ⟨_, fd, _, def_pure F sc_is_pair (fun cdv A outer s H E hr => dv_is_pair T hr) (r_is_pair), He.glo_ok X N (c.fact 3 (f := .glo "is_pair") rfl), F.kp, F.bindsN fun _ _ _ _ _ _ us hl => match us, hl with | [_], _ => rfl⟩
theorem A_are_ascending (X : K.In h) (N : h.Ns mainGlobals mg) (c : He.SaysD Hd.fa Hd.fn K) (T : Tx K mg (caK K))  : FnG (caK K) P w K mg base "are_ascending" (k + 2) (liftP p_are_ascending) := by
  obtain ⟨fd, F⟩ := c.def_ 5 (d := Hd.d_are_ascending) rfl
  exact ⟨_, fd, _, def_pure F sc_are_ascending (fun cdv A outer s H E hr => dv_are_ascending T hr) (r_are_ascending), He.glo_ok X N (c.fact 5 (f := .glo "are_ascending") rfl), F.kp, F.bindsN fun _ _ _ _ _ _ us hl => match us, hl with | [_], _ => rfl⟩
theorem A_is_pattern (X : K.In h) (N : h.Ns mainGlobals mg) (c : He.SaysD Hd.fa Hd.fn K) (T : Tx K mg (caK K)) (F_is_within : FnG (caK K) P w K mg base "is_within" k (liftP p_is_within)) (F_are_ascending : FnG (caK K) P w K mg base "are_ascending" k (liftP p_are_ascending)) : FnG (caK K) P w K mg base "is_pattern" (k + 2) (liftP p_is_pattern) := by
  obtain ⟨fd, F⟩ := c.def_ 13 (d := Hd.d_is_pattern) rfl
  exact ⟨_, fd, _, def_pure F sc_is_pattern (fun cdv A outer s H E hr => dv_is_pattern T F_is_within F_are_ascending hr) (r_is_pattern), He.glo_ok X N (c.fact 13 (f := .glo "is_pattern") rfl), F.kp, F.bindsN fun _ _ _ _ _ _ us hl => match us, hl with | [_, _], _ => rfl⟩
theorem A_is_name (X : K.In h) (N : h.Ns mainGlobals mg) (c : He.SaysD Hd.fa Hd.fn K) (T : Tx K mg (caK K))  : FnG (caK K) P w K mg base "is_name" (k + 2) (liftP p_is_name) := by
  obtain ⟨fd, F⟩ := c.def_ 6 (d := Hd.d_is_name) rfl
  exact ⟨_, fd, _, def_pure F sc_is_name (fun cdv A outer s H E hr => dv_is_name T hr) (r_is_name), He.glo_ok X N (c.fact 6 (f := .glo "is_name") rfl), F.kp, F.bindsN fun _ _ _ _ _ _ us hl => match us, hl with | [_], _ => rfl⟩
theorem A_is_number (X : K.In h) (N : h.Ns mainGlobals mg) (c : He.SaysD Hd.fa Hd.fn K) (T : Tx K mg (caK K)) (F_is_integer : FnG (caK K) P w K mg base "is_integer" k (liftP p_is_integer)) : FnG (caK K) P w K mg base "is_number" (k + 2) (liftP p_is_number) := by
  obtain ⟨fd, F⟩ := c.def_ 2 (d := Hd.d_is_number) rfl
  exact ⟨_, fd, _, def_pure F sc_is_number (fun cdv A outer s H E hr => dv_is_number T F_is_integer hr) (r_is_number), He.glo_ok X N (c.fact 2 (f := .glo "is_number") rfl), F.kp, F.bindsN fun _ _ _ _ _ _ us hl => match us, hl with | [_], _ => rfl⟩
theorem A_is_test (X : K.In h) (N : h.Ns mainGlobals mg) (c : He.SaysD Hd.fa Hd.fn K) (T : Tx K mg (caK K)) (F_is_within : FnG (caK K) P w K mg base "is_within" k (liftP p_is_within)) (F_is_name : FnG (caK K) P w K mg base "is_name" k (liftP p_is_name)) (F_is_number : FnG (caK K) P w K mg base "is_number" k (liftP p_is_number)) : FnG (caK K) P w K mg base "is_test" (k + 2) (liftP p_is_test) := by
  obtain ⟨fd, F⟩ := c.def_ 52 (d := Hd.d_is_test) rfl
  exact ⟨_, fd, _, def_pure F sc_is_test (fun cdv A outer s H E hr => dv_is_test T F_is_within F_is_name F_is_number hr) (r_is_test), He.glo_ok X N (c.fact 31 (f := .glo "is_test") rfl), F.kp, F.bindsN fun _ _ _ _ _ _ us hl => match us, hl with | [_, _], _ => rfl⟩
theorem A_is_statement (X : K.In h) (N : h.Ns mainGlobals mg) (c : He.SaysD Hd.fa Hd.fn K) (T : Tx K mg (caK K)) (F_is_pair : FnG (caK K) P w K mg base "is_pair" k (liftP p_is_pair)) (F_is_within : FnG (caK K) P w K mg base "is_within" k (liftP p_is_within)) (F_is_pattern : FnG (caK K) P w K mg base "is_pattern" k (liftP p_is_pattern)) (F_is_name : FnG (caK K) P w K mg base "is_name" k (liftP p_is_name)) (F_is_test : FnG (caK K) P w K mg base "is_test" k (liftP p_is_test)) : FnG (caK K) P w K mg base "is_statement" (k + 2) (liftP p_is_statement) := by
  obtain ⟨fd, F⟩ := c.def_ 53 (d := Hd.d_is_statement) rfl
  exact ⟨_, fd, _, def_pure F sc_is_statement (fun cdv A outer s H E hr => dv_is_statement T F_is_pair F_is_within F_is_pattern F_is_name F_is_test hr) (r_is_statement), He.glo_ok X N (c.fact 32 (f := .glo "is_statement") rfl), F.kp, F.bindsN fun _ _ _ _ _ _ us hl => match us, hl with | [_, _], _ => rfl⟩
theorem A_blocks_in (X : K.In h) (N : h.Ns mainGlobals mg) (c : He.SaysD Hd.fa Hd.fn K) (T : Tx K mg (caK K))  : FnG (caK K) P w K mg base "blocks_in" (k + 2) (liftP p_blocks_in) := by
  obtain ⟨fd, F⟩ := c.def_ 54 (d := Hd.d_blocks_in) rfl
  exact ⟨_, fd, _, def_pure F sc_blocks_in (fun cdv A outer s H E hr => dv_blocks_in T hr) (r_blocks_in), He.glo_ok X N (c.fact 33 (f := .glo "blocks_in") rfl), F.kp, F.bindsN fun _ _ _ _ _ _ us hl => match us, hl with | [_], _ => rfl⟩
theorem A_measured (X : K.In h) (N : h.Ns mainGlobals mg) (c : He.SaysD Hd.fa Hd.fn K) (T : Tx K mg (caK K)) (F_is_statement : FnG (caK K) P w K mg base "is_statement" k (liftP p_is_statement)) (F_blocks_in : FnG (caK K) P w K mg base "blocks_in" k (liftP p_blocks_in)) : FnG (caK K) P w K mg base "measured" (k + 2) (liftP p_measured) := by
  obtain ⟨fd, F⟩ := c.def_ 55 (d := Hd.d_measured) rfl
  exact ⟨_, fd, _, def_pure F sc_measured (fun cdv A outer s H E hr => dv_measured T F_is_statement F_blocks_in hr) (r_measured), He.glo_ok X N (c.fact 34 (f := .glo "measured") rfl), F.kp, F.bindsN fun _ _ _ _ _ _ us hl => match us, hl with | [_, _], _ => rfl⟩
theorem A_Program_keep (X : K.In h) (N : h.Ns mainGlobals mg) (c : He.SaysD Hd.fa Hd.fn K) (T : Tx K mg (caK K))  : MtG (caK K) P w K mg base .prog "keep" (k + 2) q_Program_keep := by
  obtain ⟨fd, F⟩ := c.def_ 57 (d := Hd.d_Program_keep) rfl
  exact ⟨_, fd, _, def_ok F sc_Program_keep (fun cdv A outer s H E hr => dv_Program_keep T hr) (r_Program_keep), He.meth_ok (c.fact 148 (f := .meth "Program" "keep") rfl), F.bindsN fun _ _ _ _ _ _ us hl => match us, hl with | [_, _, _], _ => rfl⟩
theorem A_Program_init (X : K.In h) (N : h.Ns mainGlobals mg) (c : He.SaysD Hd.fa Hd.fn K) (T : Tx K mg (caK K)) (F_are_sizes : FnG (caK K) P w K mg base "are_sizes" k (liftP p_are_sizes)) (F_measured : FnG (caK K) P w K mg base "measured" k (liftP p_measured)) (F_Program_keep : MtG (caK K) P w K mg base .prog "keep" k q_Program_keep) : MkG (caK K) P w K mg base .prog "Program" (k + 2) q_Program_init := by
  obtain ⟨fd, F⟩ := c.def_ 56 (d := Hd.d_Program_init) rfl
  exact ⟨_, fd, _, def_ok F sc_Program_init (fun cdv A outer s H E hr => dv_Program_init T F_are_sizes F_measured F_Program_keep hr) (r_Program_init), He.mkr_ok (c.fact 96 (f := .mkr "Program") rfl), He.glo_ok X N (c.fact 53 (f := .glo "Program") rfl), F.bindsN fun _ _ _ _ _ _ us hl => match us, hl with | [_, _, _], _ => rfl⟩
theorem A_l_contents (X : K.In h) (N : h.Ns mainGlobals mg) (c : He.SaysD Hd.fa Hd.fn K) (T : Tx K mg (caK K))  : FnG (caK K) P w K mg base "_law_contents" (k + 2) (liftP p_l_contents) := by
  obtain ⟨fd, F⟩ := c.def_ 60 (d := Hd.d_l_contents) rfl
  exact ⟨_, fd, _, def_pure F sc_l_contents (fun cdv A outer s H E hr => dv_l_contents T hr) (r_l_contents), He.glo_ok X N (c.fact 37 (f := .glo "_law_contents") rfl), F.kp, F.bindsN fun _ _ _ _ _ _ us hl => match us, hl with | [_], _ => rfl⟩
theorem A_l_see (X : K.In h) (N : h.Ns mainGlobals mg) (c : He.SaysD Hd.fa Hd.fn K) (T : Tx K mg (caK K))  : FnG (caK K) P w K mg base "_law_see" (k + 2) q_l_see := by
  obtain ⟨fd, F⟩ := c.def_ 62 (d := Hd.d_l_see) rfl
  exact ⟨_, fd, _, def_ok F sc_l_see (fun cdv A outer s H E hr => dv_l_see T hr) (r_l_see), He.glo_ok X N (c.fact 39 (f := .glo "_law_see") rfl), F.kp, F.bindsN fun _ _ _ _ _ _ us hl => match us, hl with | [_, _, _], _ => rfl⟩
theorem A_l_do0 (X : K.In h) (N : h.Ns mainGlobals mg) (c : He.SaysD Hd.fa Hd.fn K) (T : Tx K mg (caK K)) : FnG (caK K) P w K mg base "_law_do" (k + 1) (q_l_do 0) := by
  obtain ⟨fd, F⟩ := c.def_ 63 (d := Hd.d_l_do) rfl
  exact ⟨_, fd, _, none_ok F sc_l_do no_l_do, He.glo_ok X N (c.fact 40 (f := .glo "_law_do") rfl), F.kp, F.bindsN fun _ _ _ _ _ _ us hl => match us, hl with | [_, _, _, _], _ => rfl⟩
theorem A_l_do (X : K.In h) (N : h.Ns mainGlobals mg) (c : He.SaysD Hd.fa Hd.fn K) (T : Tx K mg (caK K)) (n : Nat) (F_l_see : FnG (caK K) P w K mg base "_law_see" k q_l_see) (F_l_do : FnG (caK K) P w K mg base "_law_do" k (q_l_do n)) : FnG (caK K) P w K mg base "_law_do" (k + 2) (q_l_do (n + 1)) := by
  obtain ⟨fd, F⟩ := c.def_ 63 (d := Hd.d_l_do) rfl
  exact ⟨_, fd, _, def_ok F sc_l_do (fun cdv A outer s H E hr => dv_l_do T F_l_see F_l_do hr) (r_l_do n), He.glo_ok X N (c.fact 40 (f := .glo "_law_do") rfl), F.kp, F.bindsN fun _ _ _ _ _ _ us hl => match us, hl with | [_, _, _, _], _ => rfl⟩
theorem A_l_walk (X : K.In h) (N : h.Ns mainGlobals mg) (c : He.SaysD Hd.fa Hd.fn K) (T : Tx K mg (caK K)) (F_l_do : FnG (caK K) P w K mg base "_law_do" k (q_l_do 6)) : FnG (caK K) P w K mg base "_law_walk" (k + 2) (liftP p_l_walk) := by
  obtain ⟨fd, F⟩ := c.def_ 61 (d := Hd.d_l_walk) rfl
  exact ⟨_, fd, _, def_pure F sc_l_walk (fun cdv A outer s H E hr => dv_l_walk T F_l_do hr) (r_l_walk), He.glo_ok X N (c.fact 38 (f := .glo "_law_walk") rfl), F.kp, F.bindsN fun _ _ _ _ _ _ us hl => match us, hl with | [_, _, _], _ => rfl⟩
theorem A_l_shows (X : K.In h) (N : h.Ns mainGlobals mg) (c : He.SaysD Hd.fa Hd.fn K) (T : Tx K mg (caK K)) (F_l_walk : FnG (caK K) P w K mg base "_law_walk" k (liftP p_l_walk)) : FnG (caK K) P w K mg base "_law_shows" (k + 2) (liftP p_l_shows) := by
  obtain ⟨fd, F⟩ := c.def_ 66 (d := Hd.d_l_shows) rfl
  exact ⟨_, fd, _, def_pure F sc_l_shows (fun cdv A outer s H E hr => dv_l_shows T F_l_walk hr) (r_l_shows), He.glo_ok X N (c.fact 43 (f := .glo "_law_shows") rfl), F.kp, F.bindsN fun _ _ _ _ _ _ us hl => match us, hl with | [_, _], _ => rfl⟩
theorem A_raw_contents (X : K.In h) (N : h.Ns mainGlobals mg) (c : He.SaysD Hd.fa Hd.fn K) (T : Tx K mg (caK K))  : FnG (caK K) P w K mg base "raw_contents" (k + 2) (liftP p_raw_contents) := by
  obtain ⟨fd, F⟩ := c.def_ 12 (d := Hd.d_raw_contents) rfl
  exact ⟨_, fd, _, def_pure F sc_raw_contents (fun cdv A outer s H E hr => dv_raw_contents T hr) (r_raw_contents), He.glo_ok X N (c.fact 12 (f := .glo "raw_contents") rfl), F.kp, F.bindsN fun _ _ _ _ _ _ us hl => match us, hl with | [_], _ => rfl⟩
theorem A_State_statement (X : K.In h) (N : h.Ns mainGlobals mg) (c : He.SaysD Hd.fa Hd.fn K) (T : Tx K mg (caK K))  : MtG (caK K) P w K mg base .state "statement" (k + 2) q_State_statement := by
  obtain ⟨fd, F⟩ := c.def_ 17 (d := Hd.d_State_statement) rfl
  exact ⟨_, fd, _, def_ok F sc_State_statement (fun cdv A outer s H E hr => dv_State_statement T hr) (r_State_statement), He.meth_ok (c.fact 129 (f := .meth "State" "statement") rfl), F.bindsN fun _ _ _ _ _ _ us hl => match us, hl with | [_], _ => rfl⟩
theorem A_State_step (X : K.In h) (N : h.Ns mainGlobals mg) (c : He.SaysD Hd.fa Hd.fn K) (T : Tx K mg (caK K))  : MtG (caK K) P w K mg base .state "step" (k + 2) q_State_step := by
  obtain ⟨fd, F⟩ := c.def_ 18 (d := Hd.d_State_step) rfl
  exact ⟨_, fd, _, def_ok F sc_State_step (fun cdv A outer s H E hr => dv_State_step T hr) (r_State_step), He.meth_ok (c.fact 130 (f := .meth "State" "step") rfl), F.bindsN fun _ _ _ _ _ _ us hl => match us, hl with | [_], _ => rfl⟩
theorem A_State_enter (X : K.In h) (N : h.Ns mainGlobals mg) (c : He.SaysD Hd.fa Hd.fn K) (T : Tx K mg (caK K)) (F_State_step : MtG (caK K) P w K mg base .state "step" k q_State_step) : MtG (caK K) P w K mg base .state "enter" (k + 2) q_State_enter := by
  obtain ⟨fd, F⟩ := c.def_ 20 (d := Hd.d_State_enter) rfl
  exact ⟨_, fd, _, def_ok F sc_State_enter (fun cdv A outer s H E hr => dv_State_enter T F_State_step hr) (r_State_enter), He.meth_ok (c.fact 132 (f := .meth "State" "enter") rfl), F.bindsN fun _ _ _ _ _ _ us hl => match us, hl with | [_, _, _], _ => rfl⟩
theorem A_State_tested (X : K.In h) (N : h.Ns mainGlobals mg) (c : He.SaysD Hd.fa Hd.fn K) (T : Tx K mg (caK K)) (F_State_enter : MtG (caK K) P w K mg base .state "enter" k q_State_enter) : MtG (caK K) P w K mg base .state "tested" (k + 2) q_State_tested := by
  obtain ⟨fd, F⟩ := c.def_ 23 (d := Hd.d_State_tested) rfl
  exact ⟨_, fd, _, def_ok F sc_State_tested (fun cdv A outer s H E hr => dv_State_tested T F_State_enter hr) (r_State_tested), He.meth_ok (c.fact 135 (f := .meth "State" "tested") rfl), F.bindsN fun _ _ _ _ _ _ us hl => match us, hl with | [_, _], _ => rfl⟩
theorem A_State_met (X : K.In h) (N : h.Ns mainGlobals mg) (c : He.SaysD Hd.fa Hd.fn K) (T : Tx K mg (caK K)) (F_State_step : MtG (caK K) P w K mg base .state "step" k q_State_step) (F_State_tested : MtG (caK K) P w K mg base .state "tested" k q_State_tested) : MtG (caK K) P w K mg base .state "met" (k + 2) q_State_met := by
  obtain ⟨fd, F⟩ := c.def_ 22 (d := Hd.d_State_met) rfl
  exact ⟨_, fd, _, def_ok F sc_State_met (fun cdv A outer s H E hr => dv_State_met T F_State_step F_State_tested hr) (r_State_met), He.meth_ok (c.fact 134 (f := .meth "State" "met") rfl), F.bindsN fun _ _ _ _ _ _ us hl => match us, hl with | [_, _], _ => rfl⟩
theorem A_State_go_on (X : K.In h) (N : h.Ns mainGlobals mg) (c : He.SaysD Hd.fa Hd.fn K) (T : Tx K mg (caK K)) (F_State_statement : MtG (caK K) P w K mg base .state "statement" k q_State_statement) (F_State_met : MtG (caK K) P w K mg base .state "met" k q_State_met) : MtG (caK K) P w K mg base .state "go_on" (k + 2) q_State_go_on := by
  obtain ⟨fd, F⟩ := c.def_ 21 (d := Hd.d_State_go_on) rfl
  exact ⟨_, fd, _, def_ok F sc_State_go_on (fun cdv A outer s H E hr => dv_State_go_on T F_State_statement F_State_met hr) (r_State_go_on), He.meth_ok (c.fact 133 (f := .meth "State" "go_on") rfl), F.bindsN fun _ _ _ _ _ _ us hl => match us, hl with | [_], _ => rfl⟩
theorem A_State_init (X : K.In h) (N : h.Ns mainGlobals mg) (c : He.SaysD Hd.fa Hd.fn K) (T : Tx K mg (caK K)) (F_State_go_on : MtG (caK K) P w K mg base .state "go_on" k q_State_go_on) : MkG (caK K) P w K mg base .state "State" (k + 2) q_State_init := by
  obtain ⟨fd, F⟩ := c.def_ 16 (d := Hd.d_State_init) rfl
  exact ⟨_, fd, _, def_ok F sc_State_init (fun cdv A outer s H E hr => dv_State_init T F_State_go_on hr) (r_State_init), He.mkr_ok (c.fact 79 (f := .mkr "State") rfl), He.glo_ok X N (c.fact 51 (f := .glo "State") rfl), F.bindsN fun _ _ _ _ _ _ us hl => match us, hl with | [_, _, _, _], _ => rfl⟩
theorem A_begin (X : K.In h) (N : h.Ns mainGlobals mg) (c : He.SaysD Hd.fa Hd.fn K) (T : Tx K mg (caK K)) (F_State_init : MkG (caK K) P w K mg base .state "State" k q_State_init) : FnG (caK K) P w K mg base "begin" (k + 2) (liftP p_begin) := by
  obtain ⟨fd, F⟩ := c.def_ 24 (d := Hd.d_begin) rfl
  exact ⟨_, fd, _, def_pure F sc_begin (fun cdv A outer s H E hr => dv_begin T F_State_init hr) (r_begin), He.glo_ok X N (c.fact 16 (f := .glo "begin") rfl), F.kp, F.bindsN fun _ _ _ _ _ _ us hl => match us, hl with | [_], _ => rfl⟩
theorem A_after_open (X : K.In h) (N : h.Ns mainGlobals mg) (c : He.SaysD Hd.fa Hd.fn K) (T : Tx K mg (caK K)) (F_State_init : MkG (caK K) P w K mg base .state "State" k q_State_init) : FnG (caK K) P w K mg base "after_open" (k + 2) (liftP p_after_open) := by
  obtain ⟨fd, F⟩ := c.def_ 26 (d := Hd.d_after_open) rfl
  exact ⟨_, fd, _, def_pure F sc_after_open (fun cdv A outer s H E hr => dv_after_open T F_State_init hr) (r_after_open), He.glo_ok X N (c.fact 18 (f := .glo "after_open") rfl), F.kp, F.bindsN fun _ _ _ _ _ _ us hl => match us, hl with | [_, _], _ => rfl⟩
theorem A_common_divisor (X : K.In h) (N : h.Ns mainGlobals mg) (c : He.SaysD Hd.fa Hd.fn K) (T : Tx K mg (caK K))  : FnG (caK K) P w K mg base "common_divisor" (k + 2) (liftP p_common_divisor) := by
  obtain ⟨fd, F⟩ := c.def_ 7 (d := Hd.d_common_divisor) rfl
  exact ⟨_, fd, _, def_pure F sc_common_divisor (fun cdv A outer s H E hr => dv_common_divisor T hr) (r_common_divisor), He.glo_ok X N (c.fact 7 (f := .glo "common_divisor") rfl), F.kp, F.bindsN fun _ _ _ _ _ _ us hl => match us, hl with | [_, _], _ => rfl⟩
theorem A_made (X : K.In h) (N : h.Ns mainGlobals mg) (c : He.SaysD Hd.fa Hd.fn K) (T : Tx K mg (caK K)) (F_common_divisor : FnG (caK K) P w K mg base "common_divisor" k (liftP p_common_divisor)) : FnG (caK K) P w K mg base "made" (k + 2) (liftP p_made) := by
  obtain ⟨fd, F⟩ := c.def_ 8 (d := Hd.d_made) rfl
  exact ⟨_, fd, _, def_pure F sc_made (fun cdv A outer s H E hr => dv_made T F_common_divisor hr) (r_made), He.glo_ok X N (c.fact 8 (f := .glo "made") rfl), F.kp, F.bindsN fun _ _ _ _ _ _ us hl => match us, hl with | [_, _], _ => rfl⟩
theorem A_times (X : K.In h) (N : h.Ns mainGlobals mg) (c : He.SaysD Hd.fa Hd.fn K) (T : Tx K mg (caK K)) (F_made : FnG (caK K) P w K mg base "made" k (liftP p_made)) : FnG (caK K) P w K mg base "times" (k + 2) (liftP p_times) := by
  obtain ⟨fd, F⟩ := c.def_ 9 (d := Hd.d_times) rfl
  exact ⟨_, fd, _, def_pure F sc_times (fun cdv A outer s H E hr => dv_times T F_made hr) (r_times), He.glo_ok X N (c.fact 9 (f := .glo "times") rfl), F.kp, F.bindsN fun _ _ _ _ _ _ us hl => match us, hl with | [_, _], _ => rfl⟩
theorem A_after_throw (X : K.In h) (N : h.Ns mainGlobals mg) (c : He.SaysD Hd.fa Hd.fn K) (T : Tx K mg (caK K)) (F_State_init : MkG (caK K) P w K mg base .state "State" k q_State_init) : FnG (caK K) P w K mg base "after_throw" (k + 2) (liftP p_after_throw) := by
  obtain ⟨fd, F⟩ := c.def_ 25 (d := Hd.d_after_throw) rfl
  exact ⟨_, fd, _, def_pure F sc_after_throw (fun cdv A outer s H E hr => dv_after_throw T F_State_init hr) (r_after_throw), He.glo_ok X N (c.fact 17 (f := .glo "after_throw") rfl), F.kp, F.bindsN fun _ _ _ _ _ _ us hl => match us, hl with | [_, _], _ => rfl⟩
theorem A_outcomes (X : K.In h) (N : h.Ns mainGlobals mg) (c : He.SaysD Hd.fa Hd.fn K) (T : Tx K mg (caK K)) (F_begin : FnG (caK K) P w K mg base "begin" k (liftP p_begin)) (F_after_open : FnG (caK K) P w K mg base "after_open" k (liftP p_after_open)) (F_made : FnG (caK K) P w K mg base "made" k (liftP p_made)) (F_times : FnG (caK K) P w K mg base "times" k (liftP p_times)) (F_after_throw : FnG (caK K) P w K mg base "after_throw" k (liftP p_after_throw)) : FnG (caK K) P w K mg base "outcomes" (k + 2) (liftP p_outcomes) := by
  obtain ⟨fd, F⟩ := c.def_ 27 (d := Hd.d_outcomes) rfl
  exact ⟨_, fd, _, def_pure F sc_outcomes (fun cdv A outer s H E hr => dv_outcomes T F_begin F_after_open F_made F_times F_after_throw hr) (r_outcomes), He.glo_ok X N (c.fact 19 (f := .glo "outcomes") rfl), F.kp, F.bindsN fun _ _ _ _ _ _ us hl => match us, hl with | [_, _], _ => rfl⟩
theorem A_all_outcomes (X : K.In h) (N : h.Ns mainGlobals mg) (c : He.SaysD Hd.fa Hd.fn K) (T : Tx K mg (caK K)) (F_raw_contents : FnG (caK K) P w K mg base "raw_contents" k (liftP p_raw_contents)) (F_outcomes : FnG (caK K) P w K mg base "outcomes" k (liftP p_outcomes)) : FnG (caK K) P w K mg base "all_outcomes" (k + 2) (liftP p_all_outcomes) := by
  obtain ⟨fd, F⟩ := c.def_ 28 (d := Hd.d_all_outcomes) rfl
  exact ⟨_, fd, _, def_pure F sc_all_outcomes (fun cdv A outer s H E hr => dv_all_outcomes T F_raw_contents F_outcomes hr) (r_all_outcomes), He.glo_ok X N (c.fact 20 (f := .glo "all_outcomes") rfl), F.kp, F.bindsN fun _ _ _ _ _ _ us hl => match us, hl with | [_], _ => rfl⟩
theorem A_raw_is_blind (X : K.In h) (N : h.Ns mainGlobals mg) (c : He.SaysD Hd.fa Hd.fn K) (T : Tx K mg (caK K)) (F_all_outcomes : FnG (caK K) P w K mg base "all_outcomes" k (liftP p_all_outcomes)) : FnG (caK K) P w K mg base "raw_is_blind" (k + 2) (liftP p_raw_is_blind) := by
  obtain ⟨fd, F⟩ := c.def_ 29 (d := Hd.d_raw_is_blind) rfl
  exact ⟨_, fd, _, def_pure F sc_raw_is_blind (fun cdv A outer s H E hr => dv_raw_is_blind T F_all_outcomes hr) (r_raw_is_blind), He.glo_ok X N (c.fact 21 (f := .glo "raw_is_blind") rfl), F.kp, F.bindsN fun _ _ _ _ _ _ us hl => match us, hl with | [_], _ => rfl⟩
theorem A_is_policy (X : K.In h) (N : h.Ns mainGlobals mg) (c : He.SaysD Hd.fa Hd.fn K) (T : Tx K mg (caK K)) (F_is_pair : FnG (caK K) P w K mg base "is_pair" k (liftP p_is_pair)) : FnG (caK K) P w K mg base "is_policy" (k + 2) (liftP p_is_policy) := by
  obtain ⟨fd, F⟩ := c.def_ 30 (d := Hd.d_is_policy) rfl
  exact ⟨_, fd, _, def_pure F sc_is_policy (fun cdv A outer s H E hr => dv_is_policy T F_is_pair hr) (r_is_policy), He.glo_ok X N (c.fact 22 (f := .glo "is_policy") rfl), F.kp, F.bindsN fun _ _ _ _ _ _ us hl => match us, hl with | [_], _ => rfl⟩
theorem A_check_policy (X : K.In h) (N : h.Ns mainGlobals mg) (c : He.SaysD Hd.fa Hd.fn K) (T : Tx K mg (caK K)) (F_is_policy : FnG (caK K) P w K mg base "is_policy" k (liftP p_is_policy)) : FnG (caK K) P w K mg base "check_policy" (k + 2) (liftP p_check_policy) := by
  obtain ⟨fd, F⟩ := c.def_ 31 (d := Hd.d_check_policy) rfl
  exact ⟨_, fd, _, def_pure F sc_check_policy (fun cdv A outer s H E hr => dv_check_policy T F_is_policy hr) (r_check_policy), He.glo_ok X N (c.fact 23 (f := .glo "check_policy") rfl), F.kp, F.bindsN fun _ _ _ _ _ _ us hl => match us, hl with | [_], _ => rfl⟩
theorem A_check_blind (X : K.In h) (N : h.Ns mainGlobals mg) (c : He.SaysD Hd.fa Hd.fn K) (T : Tx K mg (caK K)) (F_raw_is_blind : FnG (caK K) P w K mg base "raw_is_blind" k (liftP p_raw_is_blind)) (F_check_policy : FnG (caK K) P w K mg base "check_policy" k (liftP p_check_policy)) : FnG (caK K) P w K mg base "check_blind" (k + 2) (liftP p_check_blind) := by
  obtain ⟨fd, F⟩ := c.def_ 46 (d := Hd.d_check_blind) rfl
  exact ⟨_, fd, _, def_pure F sc_check_blind (fun cdv A outer s H E hr => dv_check_blind T F_raw_is_blind F_check_policy hr) (r_check_blind), He.glo_ok X N (c.fact 25 (f := .glo "check_blind") rfl), F.kp, F.bindsN fun _ _ _ _ _ _ us hl => match us, hl with | [_, _], _ => rfl⟩
theorem A_moves_until (X : K.In h) (N : h.Ns mainGlobals mg) (c : He.SaysD Hd.fa Hd.fn K) (T : Tx K mg (caK K)) (F_begin : FnG (caK K) P w K mg base "begin" k (liftP p_begin)) (F_after_throw : FnG (caK K) P w K mg base "after_throw" k (liftP p_after_throw)) (F_after_open : FnG (caK K) P w K mg base "after_open" k (liftP p_after_open)) : FnG (caK K) P w K mg base "moves_until" (k + 2) (liftP p_moves_until) := by
  obtain ⟨fd, F⟩ := c.def_ 47 (d := Hd.d_moves_until) rfl
  exact ⟨_, fd, _, def_pure F sc_moves_until (fun cdv A outer s H E hr => dv_moves_until T F_begin F_after_throw F_after_open hr) (r_moves_until), He.glo_ok X N (c.fact 26 (f := .glo "moves_until") rfl), F.kp, F.bindsN fun _ _ _ _ _ _ us hl => match us, hl with | [_, _, _, _], _ => rfl⟩
theorem A_breach_of (X : K.In h) (N : h.Ns mainGlobals mg) (c : He.SaysD Hd.fa Hd.fn K) (T : Tx K mg (caK K)) (F_outcomes : FnG (caK K) P w K mg base "outcomes" k (liftP p_outcomes)) (F_moves_until : FnG (caK K) P w K mg base "moves_until" k (liftP p_moves_until)) : FnG (caK K) P w K mg base "breach_of" (k + 2) (liftP p_breach_of) := by
  obtain ⟨fd, F⟩ := c.def_ 48 (d := Hd.d_breach_of) rfl
  exact ⟨_, fd, _, def_pure F sc_breach_of (fun cdv A outer s H E hr => dv_breach_of T F_outcomes F_moves_until hr) (r_breach_of), He.glo_ok X N (c.fact 27 (f := .glo "breach_of") rfl), F.kp, F.bindsN fun _ _ _ _ _ _ us hl => match us, hl with | [_, _], _ => rfl⟩
theorem A_breach (X : K.In h) (N : h.Ns mainGlobals mg) (c : He.SaysD Hd.fa Hd.fn K) (T : Tx K mg (caK K)) (F_check_blind : FnG (caK K) P w K mg base "check_blind" k (liftP p_check_blind)) (F_raw_contents : FnG (caK K) P w K mg base "raw_contents" k (liftP p_raw_contents)) (F_breach_of : FnG (caK K) P w K mg base "breach_of" k (liftP p_breach_of)) : FnG (caK K) P w K mg base "breach" (k + 2) (liftP p_breach) := by
  obtain ⟨fd, F⟩ := c.def_ 49 (d := Hd.d_breach) rfl
  exact ⟨_, fd, _, def_pure F sc_breach (fun cdv A outer s H E hr => dv_breach T F_check_blind F_raw_contents F_breach_of hr) (r_breach), He.glo_ok X N (c.fact 28 (f := .glo "breach") rfl), F.kp, F.bindsN fun _ _ _ _ _ _ us hl => match us, hl with | [_, _], _ => rfl⟩
theorem A_l_is_int (X : K.In h) (N : h.Ns mainGlobals mg) (c : He.SaysD Hd.fa Hd.fn K) (T : Tx K mg (caK K))  : FnG (caK K) P w K mg base "_law_is_int" (k + 2) (liftP p_l_is_int) := by
  obtain ⟨fd, F⟩ := c.def_ 68 (d := Hd.d_l_is_int) rfl
  exact ⟨_, fd, _, def_pure F sc_l_is_int (fun cdv A outer s H E hr => dv_l_is_int T hr) (r_l_is_int), He.glo_ok X N (c.fact 45 (f := .glo "_law_is_int") rfl), F.kp, F.bindsN fun _ _ _ _ _ _ us hl => match us, hl with | [_], _ => rfl⟩
theorem A_l_is_move (X : K.In h) (N : h.Ns mainGlobals mg) (c : He.SaysD Hd.fa Hd.fn K) (T : Tx K mg (caK K)) (F_l_is_int : FnG (caK K) P w K mg base "_law_is_int" k (liftP p_l_is_int)) : FnG (caK K) P w K mg base "_law_is_move" (k + 2) (liftP p_l_is_move) := by
  obtain ⟨fd, F⟩ := c.def_ 69 (d := Hd.d_l_is_move) rfl
  exact ⟨_, fd, _, def_pure F sc_l_is_move (fun cdv A outer s H E hr => dv_l_is_move T F_l_is_int hr) (r_l_is_move), He.glo_ok X N (c.fact 46 (f := .glo "_law_is_move") rfl), F.kp, F.bindsN fun _ _ _ _ _ _ us hl => match us, hl with | [_], _ => rfl⟩
theorem A_l_due (X : K.In h) (N : h.Ns mainGlobals mg) (c : He.SaysD Hd.fa Hd.fn K) (T : Tx K mg (caK K)) (F_l_walk : FnG (caK K) P w K mg base "_law_walk" k (liftP p_l_walk)) : FnG (caK K) P w K mg base "_law_due" (k + 2) (liftP p_l_due) := by
  obtain ⟨fd, F⟩ := c.def_ 64 (d := Hd.d_l_due) rfl
  exact ⟨_, fd, _, def_pure F sc_l_due (fun cdv A outer s H E hr => dv_l_due T F_l_walk hr) (r_l_due), He.glo_ok X N (c.fact 41 (f := .glo "_law_due") rfl), F.kp, F.bindsN fun _ _ _ _ _ _ us hl => match us, hl with | [_, _, _], _ => rfl⟩
theorem A_l_moved (X : K.In h) (N : h.Ns mainGlobals mg) (c : He.SaysD Hd.fa Hd.fn K) (T : Tx K mg (caK K)) (F_l_due : FnG (caK K) P w K mg base "_law_due" k (liftP p_l_due)) : FnG (caK K) P w K mg base "_law_moved" (k + 2) (liftP p_l_moved) := by
  obtain ⟨fd, F⟩ := c.def_ 65 (d := Hd.d_l_moved) rfl
  exact ⟨_, fd, _, def_pure F sc_l_moved (fun cdv A outer s H E hr => dv_l_moved T F_l_due hr) (r_l_moved), He.glo_ok X N (c.fact 42 (f := .glo "_law_moved") rfl), F.kp, F.bindsN fun _ _ _ _ _ _ us hl => match us, hl with | [_, _, _, _], _ => rfl⟩
theorem A_l_is_breach (X : K.In h) (N : h.Ns mainGlobals mg) (c : He.SaysD Hd.fa Hd.fn K) (T : Tx K mg (caK K)) (F_l_is_int : FnG (caK K) P w K mg base "_law_is_int" k (liftP p_l_is_int)) (F_l_contents : FnG (caK K) P w K mg base "_law_contents" k (liftP p_l_contents)) (F_l_is_move : FnG (caK K) P w K mg base "_law_is_move" k (liftP p_l_is_move)) (F_l_moved : FnG (caK K) P w K mg base "_law_moved" k (liftP p_l_moved)) : FnG (caK K) P w K mg base "_law_is_breach" (k + 2) (liftP p_l_is_breach) := by
  obtain ⟨fd, F⟩ := c.def_ 70 (d := Hd.d_l_is_breach) rfl
  exact ⟨_, fd, _, def_pure F sc_l_is_breach (fun cdv A outer s H E hr => dv_l_is_breach T F_l_is_int F_l_contents F_l_is_move F_l_moved hr) (r_l_is_breach), He.glo_ok X N (c.fact 47 (f := .glo "_law_is_breach") rfl), F.kp, F.bindsN fun _ _ _ _ _ _ us hl => match us, hl with | [_, _, _, _], _ => rfl⟩
theorem A_is_content (X : K.In h) (N : h.Ns mainGlobals mg) (c : He.SaysD Hd.fa Hd.fn K) (T : Tx K mg (caK K)) (F_is_within : FnG (caK K) P w K mg base "is_within" k (liftP p_is_within)) : FnG (caK K) P w K mg base "is_content" (k + 2) (liftP p_is_content) := by
  obtain ⟨fd, F⟩ := c.def_ 14 (d := Hd.d_is_content) rfl
  exact ⟨_, fd, _, def_pure F sc_is_content (fun cdv A outer s H E hr => dv_is_content T F_is_within hr) (r_is_content), He.glo_ok X N (c.fact 14 (f := .glo "is_content") rfl), F.kp, F.bindsN fun _ _ _ _ _ _ us hl => match us, hl with | [_, _], _ => rfl⟩
theorem A_is_row (X : K.In h) (N : h.Ns mainGlobals mg) (c : He.SaysD Hd.fa Hd.fn K) (T : Tx K mg (caK K))  : FnG (caK K) P w K mg base "is_row" (k + 2) (liftP p_is_row) := by
  obtain ⟨fd, F⟩ := c.def_ 4 (d := Hd.d_is_row) rfl
  exact ⟨_, fd, _, def_pure F sc_is_row (fun cdv A outer s H E hr => dv_is_row T hr) (r_is_row), He.glo_ok X N (c.fact 4 (f := .glo "is_row") rfl), F.kp, F.bindsN fun _ _ _ _ _ _ us hl => match us, hl with | [_], _ => rfl⟩
theorem A_Keeper_next_row (X : K.In h) (N : h.Ns mainGlobals mg) (c : He.SaysD Hd.fa Hd.fn K) (T : Tx K mg (caK K)) (F_begin : FnG (caK K) P w K mg base "begin" k (liftP p_begin)) : MtG (caK K) P w K mg base .keeper "next_row" (k + 2) q_Keeper_next_row := by
  obtain ⟨fd, F⟩ := c.def_ 34 (d := Hd.d_Keeper_next_row) rfl
  exact ⟨_, fd, _, def_ok F sc_Keeper_next_row (fun cdv A outer s H E hr => dv_Keeper_next_row T F_begin hr) (r_Keeper_next_row), He.meth_ok (c.fact 136 (f := .meth "Keeper" "next_row") rfl), F.bindsN fun _ _ _ _ _ _ us hl => match us, hl with | [_], _ => rfl⟩
theorem A_Keeper_init (X : K.In h) (N : h.Ns mainGlobals mg) (c : He.SaysD Hd.fa Hd.fn K) (T : Tx K mg (caK K)) (F_check_policy : FnG (caK K) P w K mg base "check_policy" k (liftP p_check_policy)) (F_Keeper_next_row : MtG (caK K) P w K mg base .keeper "next_row" k q_Keeper_next_row) : MkG (caK K) P w K mg base .keeper "Keeper" (k + 2) q_Keeper_init := by
  obtain ⟨fd, F⟩ := c.def_ 33 (d := Hd.d_Keeper_init) rfl
  exact ⟨_, fd, _, def_ok F sc_Keeper_init (fun cdv A outer s H E hr => dv_Keeper_init T F_check_policy F_Keeper_next_row hr) (r_Keeper_init), He.mkr_ok (c.fact 113 (f := .mkr "Keeper") rfl), He.glo_ok X N (c.fact 52 (f := .glo "Keeper") rfl), F.bindsN fun _ _ _ _ _ _ us hl => match us, hl with | [_, _, _], _ => rfl⟩
theorem A_check_content (X : K.In h) (N : h.Ns mainGlobals mg) (c : He.SaysD Hd.fa Hd.fn K) (T : Tx K mg (caK K)) (F_is_content : FnG (caK K) P w K mg base "is_content" k (liftP p_is_content)) : FnG (caK K) P w K mg base "check_content" (k + 2) (liftP p_check_content) := by
  obtain ⟨fd, F⟩ := c.def_ 15 (d := Hd.d_check_content) rfl
  exact ⟨_, fd, _, def_pure F sc_check_content (fun cdv A outer s H E hr => dv_check_content T F_is_content hr) (r_check_content), He.glo_ok X N (c.fact 15 (f := .glo "check_content") rfl), F.kp, F.bindsN fun _ _ _ _ _ _ us hl => match us, hl with | [_, _], _ => rfl⟩
theorem A_Keeper_put (X : K.In h) (N : h.Ns mainGlobals mg) (c : He.SaysD Hd.fa Hd.fn K) (T : Tx K mg (caK K)) (F_check_content : FnG (caK K) P w K mg base "check_content" k (liftP p_check_content)) : MtG (caK K) P w K mg base .keeper "put" (k + 2) q_Keeper_put := by
  obtain ⟨fd, F⟩ := c.def_ 36 (d := Hd.d_Keeper_put) rfl
  exact ⟨_, fd, _, def_ok F sc_Keeper_put (fun cdv A outer s H E hr => dv_Keeper_put T F_check_content hr) (r_Keeper_put), He.meth_ok (c.fact 138 (f := .meth "Keeper" "put") rfl), F.bindsN fun _ _ _ _ _ _ us hl => match us, hl with | [_, _], _ => rfl⟩
theorem A_is_alike0 (X : K.In h) (N : h.Ns mainGlobals mg) (c : He.SaysD Hd.fa Hd.fn K) (T : Tx K mg (caK K)) : FnG (caK K) P w K mg base "is_alike" (k + 1) (liftP (p_is_alike 0)) := by
  obtain ⟨fd, F⟩ := c.def_ 32 (d := Hd.d_is_alike) rfl
  exact ⟨_, fd, _, none_ok F sc_is_alike no_is_alike, He.glo_ok X N (c.fact 24 (f := .glo "is_alike") rfl), F.kp, F.bindsN fun _ _ _ _ _ _ us hl => match us, hl with | [_, _], _ => rfl⟩
theorem A_is_alike (X : K.In h) (N : h.Ns mainGlobals mg) (c : He.SaysD Hd.fa Hd.fn K) (T : Tx K mg (caK K)) (n : Nat) (F_is_alike : FnG (caK K) P w K mg base "is_alike" k (liftP (p_is_alike n))) (F_is_integer : FnG (caK K) P w K mg base "is_integer" k (liftP p_is_integer)) : FnG (caK K) P w K mg base "is_alike" (k + 2) (liftP (p_is_alike (n + 1))) := by
  obtain ⟨fd, F⟩ := c.def_ 32 (d := Hd.d_is_alike) rfl
  exact ⟨_, fd, _, def_pure F sc_is_alike (fun cdv A outer s H E hr => dv_is_alike T F_is_alike F_is_integer hr) (r_is_alike n), He.glo_ok X N (c.fact 24 (f := .glo "is_alike") rfl), F.kp, F.bindsN fun _ _ _ _ _ _ us hl => match us, hl with | [_, _], _ => rfl⟩
theorem A_Keeper_fall (X : K.In h) (N : h.Ns mainGlobals mg) (c : He.SaysD Hd.fa Hd.fn K) (T : Tx K mg (caK K))  : MtG (caK K) P w K mg base .keeper "fall" (k + 2) q_Keeper_fall := by
  obtain ⟨fd, F⟩ := c.def_ 44 (d := Hd.d_Keeper_fall) rfl
  exact ⟨_, fd, _, def_ok F sc_Keeper_fall (fun cdv A outer s H E hr => dv_Keeper_fall T hr) (r_Keeper_fall), He.meth_ok (c.fact 146 (f := .meth "Keeper" "fall") rfl), F.bindsN fun _ _ _ _ _ _ us hl => match us, hl with | [_], _ => rfl⟩
theorem A_Keeper_row_now (X : K.In h) (N : h.Ns mainGlobals mg) (c : He.SaysD Hd.fa Hd.fn K) (T : Tx K mg (caK K))  : MtG (caK K) P w K mg base .keeper "row_now" (k + 2) q_Keeper_row_now := by
  obtain ⟨fd, F⟩ := c.def_ 35 (d := Hd.d_Keeper_row_now) rfl
  exact ⟨_, fd, _, def_ok F sc_Keeper_row_now (fun cdv A outer s H E hr => dv_Keeper_row_now T hr) (r_Keeper_row_now), He.meth_ok (c.fact 137 (f := .meth "Keeper" "row_now") rfl), F.bindsN fun _ _ _ _ _ _ us hl => match us, hl with | [_], _ => rfl⟩
theorem A_Keeper_due (X : K.In h) (N : h.Ns mainGlobals mg) (c : He.SaysD Hd.fa Hd.fn K) (T : Tx K mg (caK K)) (F_Keeper_row_now : MtG (caK K) P w K mg base .keeper "row_now" k q_Keeper_row_now) : MtG (caK K) P w K mg base .keeper "due" (k + 2) q_Keeper_due := by
  obtain ⟨fd, F⟩ := c.def_ 37 (d := Hd.d_Keeper_due) rfl
  exact ⟨_, fd, _, def_ok F sc_Keeper_due (fun cdv A outer s H E hr => dv_Keeper_due T F_Keeper_row_now hr) (r_Keeper_due), He.meth_ok (c.fact 139 (f := .meth "Keeper" "due") rfl), F.bindsN fun _ _ _ _ _ _ us hl => match us, hl with | [_], _ => rfl⟩
theorem A_Keeper_begin_row (X : K.In h) (N : h.Ns mainGlobals mg) (c : He.SaysD Hd.fa Hd.fn K) (T : Tx K mg (caK K)) (F_Keeper_row_now : MtG (caK K) P w K mg base .keeper "row_now" k q_Keeper_row_now) : MtG (caK K) P w K mg base .keeper "begin_row" (k + 2) q_Keeper_begin_row := by
  obtain ⟨fd, F⟩ := c.def_ 38 (d := Hd.d_Keeper_begin_row) rfl
  exact ⟨_, fd, _, def_ok F sc_Keeper_begin_row (fun cdv A outer s H E hr => dv_Keeper_begin_row T F_Keeper_row_now hr) (r_Keeper_begin_row), He.meth_ok (c.fact 140 (f := .meth "Keeper" "begin_row") rfl), F.bindsN fun _ _ _ _ _ _ us hl => match us, hl with | [_], _ => rfl⟩
theorem A_Keeper_make_sure (X : K.In h) (N : h.Ns mainGlobals mg) (c : He.SaysD Hd.fa Hd.fn K) (T : Tx K mg (caK K))  : MtG (caK K) P w K mg base .keeper "make_sure" (k + 2) q_Keeper_make_sure := by
  obtain ⟨fd, F⟩ := c.def_ 39 (d := Hd.d_Keeper_make_sure) rfl
  exact ⟨_, fd, _, def_ok F sc_Keeper_make_sure (fun cdv A outer s H E hr => dv_Keeper_make_sure T hr) (r_Keeper_make_sure), He.meth_ok (c.fact 141 (f := .meth "Keeper" "make_sure") rfl), F.bindsN fun _ _ _ _ _ _ us hl => match us, hl with | [_], _ => rfl⟩
theorem A_Keeper_throw (X : K.In h) (N : h.Ns mainGlobals mg) (c : He.SaysD Hd.fa Hd.fn K) (T : Tx K mg (caK K)) (F_Keeper_due : MtG (caK K) P w K mg base .keeper "due" k q_Keeper_due) (F_is_within : FnG (caK K) P w K mg base "is_within" k (liftP p_is_within)) (F_Keeper_begin_row : MtG (caK K) P w K mg base .keeper "begin_row" k q_Keeper_begin_row) (F_after_throw : FnG (caK K) P w K mg base "after_throw" k (liftP p_after_throw)) (F_Keeper_make_sure : MtG (caK K) P w K mg base .keeper "make_sure" k q_Keeper_make_sure) : MtG (caK K) P w K mg base .keeper "throw" (k + 2) q_Keeper_throw := by
  obtain ⟨fd, F⟩ := c.def_ 40 (d := Hd.d_Keeper_throw) rfl
  exact ⟨_, fd, _, def_ok F sc_Keeper_throw (fun cdv A outer s H E hr => dv_Keeper_throw T F_Keeper_due F_is_within F_Keeper_begin_row F_after_throw F_Keeper_make_sure hr) (r_Keeper_throw), He.meth_ok (c.fact 142 (f := .meth "Keeper" "throw") rfl), F.bindsN fun _ _ _ _ _ _ us hl => match us, hl with | [_, _], _ => rfl⟩
theorem A_Keeper_open_column (X : K.In h) (N : h.Ns mainGlobals mg) (c : He.SaysD Hd.fa Hd.fn K) (T : Tx K mg (caK K)) (F_Keeper_make_sure : MtG (caK K) P w K mg base .keeper "make_sure" k q_Keeper_make_sure) (F_Keeper_begin_row : MtG (caK K) P w K mg base .keeper "begin_row" k q_Keeper_begin_row) (F_Keeper_row_now : MtG (caK K) P w K mg base .keeper "row_now" k q_Keeper_row_now) (F_after_open : FnG (caK K) P w K mg base "after_open" k (liftP p_after_open)) : MtG (caK K) P w K mg base .keeper "open_column" (k + 2) q_Keeper_open_column := by
  obtain ⟨fd, F⟩ := c.def_ 42 (d := Hd.d_Keeper_open_column) rfl
  exact ⟨_, fd, _, def_ok F sc_Keeper_open_column (fun cdv A outer s H E hr => dv_Keeper_open_column T F_Keeper_make_sure F_Keeper_begin_row F_Keeper_row_now F_after_open hr) (r_Keeper_open_column), He.meth_ok (c.fact 144 (f := .meth "Keeper" "open_column") rfl), F.bindsN fun _ _ _ _ _ _ us hl => match us, hl with | [_, _], _ => rfl⟩
theorem A_Keeper_show_pattern (X : K.In h) (N : h.Ns mainGlobals mg) (c : He.SaysD Hd.fa Hd.fn K) (T : Tx K mg (caK K)) (F_Keeper_begin_row : MtG (caK K) P w K mg base .keeper "begin_row" k q_Keeper_begin_row) (F_Keeper_make_sure : MtG (caK K) P w K mg base .keeper "make_sure" k q_Keeper_make_sure) (F_Keeper_next_row : MtG (caK K) P w K mg base .keeper "next_row" k q_Keeper_next_row) : MtG (caK K) P w K mg base .keeper "show_pattern" (k + 2) q_Keeper_show_pattern := by
  obtain ⟨fd, F⟩ := c.def_ 43 (d := Hd.d_Keeper_show_pattern) rfl
  exact ⟨_, fd, _, def_ok F sc_Keeper_show_pattern (fun cdv A outer s H E hr => dv_Keeper_show_pattern T F_Keeper_begin_row F_Keeper_make_sure F_Keeper_next_row hr) (r_Keeper_show_pattern), He.meth_ok (c.fact 145 (f := .meth "Keeper" "show_pattern") rfl), F.bindsN fun _ _ _ _ _ _ us hl => match us, hl with | [_, _], _ => rfl⟩
theorem A_Keeper_go (X : K.In h) (N : h.Ns mainGlobals mg) (c : He.SaysD Hd.fa Hd.fn K) (T : Tx K mg (caK K)) (F_Keeper_due : MtG (caK K) P w K mg base .keeper "due" k q_Keeper_due) (F_Keeper_open_column : MtG (caK K) P w K mg base .keeper "open_column" k q_Keeper_open_column) (F_Keeper_show_pattern : MtG (caK K) P w K mg base .keeper "show_pattern" k q_Keeper_show_pattern) : MtG (caK K) P w K mg base .keeper "go" (k + 2) q_Keeper_go := by
  obtain ⟨fd, F⟩ := c.def_ 41 (d := Hd.d_Keeper_go) rfl
  exact ⟨_, fd, _, def_ok F sc_Keeper_go (fun cdv A outer s H E hr => dv_Keeper_go T F_Keeper_due F_Keeper_open_column F_Keeper_show_pattern hr) (r_Keeper_go), He.meth_ok (c.fact 143 (f := .meth "Keeper" "go") rfl), F.bindsN fun _ _ _ _ _ _ us hl => match us, hl with | [_], _ => rfl⟩
theorem A_is_done (X : K.In h) (N : h.Ns mainGlobals mg) (c : He.SaysD Hd.fa Hd.fn K) (T : Tx K mg (caK K)) (F_is_alike : FnG (caK K) P w K mg base "is_alike" k (liftP (p_is_alike 2))) (F_Keeper_fall : MtG (caK K) P w K mg base .keeper "fall" k q_Keeper_fall) (F_Keeper_due : MtG (caK K) P w K mg base .keeper "due" k q_Keeper_due) (F_is_pair : FnG (caK K) P w K mg base "is_pair" k (liftP p_is_pair)) (F_is_within : FnG (caK K) P w K mg base "is_within" k (liftP p_is_within)) (F_Keeper_throw : MtG (caK K) P w K mg base .keeper "throw" k q_Keeper_throw) (F_Keeper_go : MtG (caK K) P w K mg base .keeper "go" k q_Keeper_go) : FnG (caK K) P w K mg base "is_done" (k + 2) q_is_done := by
  obtain ⟨fd, F⟩ := c.def_ 50 (d := Hd.d_is_done) rfl
  exact ⟨_, fd, _, def_ok F sc_is_done (fun cdv A outer s H E hr => dv_is_done T F_is_alike F_Keeper_fall F_Keeper_due F_is_pair F_is_within F_Keeper_throw F_Keeper_go hr) (r_is_done), He.glo_ok X N (c.fact 29 (f := .glo "is_done") rfl), F.kp, F.bindsN fun _ _ _ _ _ _ us hl => match us, hl with | [_, _], _ => rfl⟩
theorem A_Keeper_peeked (X : K.In h) (N : h.Ns mainGlobals mg) (c : He.SaysD Hd.fa Hd.fn K) (T : Tx K mg (caK K))  : MtG (caK K) P w K mg base .keeper "peeked" (k + 2) q_Keeper_peeked := by
  obtain ⟨fd, F⟩ := c.def_ 45 (d := Hd.d_Keeper_peeked) rfl
  exact ⟨_, fd, _, def_ok F sc_Keeper_peeked (fun cdv A outer s H E hr => dv_Keeper_peeked T hr) (r_Keeper_peeked), He.meth_ok (c.fact 147 (f := .meth "Keeper" "peeked") rfl), F.bindsN fun _ _ _ _ _ _ us hl => match us, hl with | [_], _ => rfl⟩
theorem A_is_breach (X : K.In h) (N : h.Ns mainGlobals mg) (c : He.SaysD Hd.fa Hd.fn K) (T : Tx K mg (caK K)) (F_check_blind : FnG (caK K) P w K mg base "check_blind" k (liftP p_check_blind)) (F_is_pair : FnG (caK K) P w K mg base "is_pair" k (liftP p_is_pair)) (F_is_content : FnG (caK K) P w K mg base "is_content" k (liftP p_is_content)) (F_is_row : FnG (caK K) P w K mg base "is_row" k (liftP p_is_row)) (F_Keeper_init : MkG (caK K) P w K mg base .keeper "Keeper" k q_Keeper_init) (F_Keeper_put : MtG (caK K) P w K mg base .keeper "put" k q_Keeper_put) (F_is_done : FnG (caK K) P w K mg base "is_done" k q_is_done) (F_Keeper_peeked : MtG (caK K) P w K mg base .keeper "peeked" k q_Keeper_peeked) : FnG (caK K) P w K mg base "is_breach" (k + 2) (liftP p_is_breach) := by
  obtain ⟨fd, F⟩ := c.def_ 51 (d := Hd.d_is_breach) rfl
  exact ⟨_, fd, _, def_pure F sc_is_breach (fun cdv A outer s H E hr => dv_is_breach T F_check_blind F_is_pair F_is_content F_is_row F_Keeper_init F_Keeper_put F_is_done F_Keeper_peeked hr) (r_is_breach), He.glo_ok X N (c.fact 30 (f := .glo "is_breach") rfl), F.kp, F.bindsN fun _ _ _ _ _ _ us hl => match us, hl with | [_, _, _], _ => rfl⟩
theorem A_l_some_moves (X : K.In h) (N : h.Ns mainGlobals mg) (c : He.SaysD Hd.fa Hd.fn K) (T : Tx K mg (caK K)) (F_l_draw : FnG (caK K) P w K mg base "_law_draw" k q_l_draw) (F_l_moved : FnG (caK K) P w K mg base "_law_moved" k (liftP p_l_moved)) : FnG (caK K) P w K mg base "_law_some_moves" (k + 2) q_l_some_moves := by
  obtain ⟨fd, F⟩ := c.def_ 71 (d := Hd.d_l_some_moves) rfl
  exact ⟨_, fd, _, def_ok F sc_l_some_moves (fun cdv A outer s H E hr => dv_l_some_moves T F_l_draw F_l_moved hr) (r_l_some_moves), He.glo_ok X N (c.fact 48 (f := .glo "_law_some_moves") rfl), F.kp, F.bindsN fun _ _ _ _ _ _ us hl => match us, hl with | [_, _, _, _], _ => rfl⟩
theorem A_l_bent (X : K.In h) (N : h.Ns mainGlobals mg) (c : He.SaysD Hd.fa Hd.fn K) (T : Tx K mg (caK K)) (F_l_draw : FnG (caK K) P w K mg base "_law_draw" k q_l_draw) : FnG (caK K) P w K mg base "_law_bent" (k + 2) q_l_bent := by
  obtain ⟨fd, F⟩ := c.def_ 72 (d := Hd.d_l_bent) rfl
  exact ⟨_, fd, _, def_ok F sc_l_bent (fun cdv A outer s H E hr => dv_l_bent T F_l_draw hr) (r_l_bent), He.glo_ok X N (c.fact 49 (f := .glo "_law_bent") rfl), F.kp, F.bindsN fun _ _ _ _ _ _ us hl => match us, hl with | [_, _], _ => rfl⟩
theorem law_ok (X : K.In h) (N : h.Ns mainGlobals mg) (c : He.SaysD Hd.fa Hd.fn K) (o : He.tupB K "ONE" [.int 1, .int 1] = true) {fd : FuncData} (F : L2.FunD K Hd.d_law.name Hd.d_law.qual Hd.d_law.params Hd.d_law.body Hd.d_law.scope (Hd.d_law.dvs K) (Hd.d_law.kws K) (He.fAd K Hd.d_law.at_) fd) :
    L2.FnOk P w K mg base L2.CX0 26 (He.fAd K Hd.d_law.at_) fd ["_law_script"] (spOf K (caK K) (liftP p_law)) := by
  have T := tx X N c o
  have F_l_hand := A_l_hand (P := P) (w := w) (base := base) (k := 0) X N c T 
  have F_l_draw := A_l_draw (P := P) (w := w) (base := base) (k := 0) X N c T 
  have F_l_blind_block_0 := A_l_blind_block0 (P := P) (w := w) (base := base) (k := 0) X N c T
  have F_l_blind_block_1 := A_l_blind_block (P := P) (w := w) (base := base) (k := 2) X N c T 0 (F_l_draw.mono (by decide)) (F_l_blind_block_0.mono (by decide))
  have F_l_blind_block_2 := A_l_blind_block (P := P) (w := w) (base := base) (k := 4) X N c T 1 (F_l_draw.mono (by decide)) (F_l_blind_block_1.mono (by decide))
  have F_l_blind_block_3 := A_l_blind_block (P := P) (w := w) (base := base) (k := 6) X N c T 2 (F_l_draw.mono (by decide)) (F_l_blind_block_2.mono (by decide))
  have F_l_blind_block_4 := A_l_blind_block (P := P) (w := w) (base := base) (k := 8) X N c T 3 (F_l_draw.mono (by decide)) (F_l_blind_block_3.mono (by decide))
  have F_l_blind_block_5 := A_l_blind_block (P := P) (w := w) (base := base) (k := 10) X N c T 4 (F_l_draw.mono (by decide)) (F_l_blind_block_4.mono (by decide))
  have F_l_blind_block := A_l_blind_block (P := P) (w := w) (base := base) (k := 12) X N c T 5 (F_l_draw.mono (by decide)) (F_l_blind_block_5.mono (by decide))
  have F_is_integer := A_is_integer (P := P) (w := w) (base := base) (k := 0) X N c T 
  have F_is_within := A_is_within (P := P) (w := w) (base := base) (k := 2) X N c T (F_is_integer.mono (by decide))
  have F_many_contents := A_many_contents (P := P) (w := w) (base := base) (k := 0) X N c T 
  have F_are_sizes := A_are_sizes (P := P) (w := w) (base := base) (k := 4) X N c T (F_is_within.mono (by decide)) (F_many_contents.mono (by decide))
  have F_is_pair := A_is_pair (P := P) (w := w) (base := base) (k := 0) X N c T 
  have F_are_ascending := A_are_ascending (P := P) (w := w) (base := base) (k := 0) X N c T 
  have F_is_pattern := A_is_pattern (P := P) (w := w) (base := base) (k := 4) X N c T (F_is_within.mono (by decide)) (F_are_ascending.mono (by decide))
  have F_is_name := A_is_name (P := P) (w := w) (base := base) (k := 0) X N c T 
  have F_is_number := A_is_number (P := P) (w := w) (base := base) (k := 2) X N c T (F_is_integer.mono (by decide))
  have F_is_test := A_is_test (P := P) (w := w) (base := base) (k := 4) X N c T (F_is_within.mono (by decide)) (F_is_name.mono (by decide)) (F_is_number.mono (by decide))
  have F_is_statement := A_is_statement (P := P) (w := w) (base := base) (k := 6) X N c T (F_is_pair.mono (by decide)) (F_is_within.mono (by decide)) (F_is_pattern.mono (by decide)) (F_is_name.mono (by decide)) (F_is_test.mono (by decide))
  have F_blocks_in := A_blocks_in (P := P) (w := w) (base := base) (k := 0) X N c T 
  have F_measured := A_measured (P := P) (w := w) (base := base) (k := 8) X N c T (F_is_statement.mono (by decide)) (F_blocks_in.mono (by decide))
  have F_Program_keep := A_Program_keep (P := P) (w := w) (base := base) (k := 0) X N c T 
  have F_Program_init := A_Program_init (P := P) (w := w) (base := base) (k := 10) X N c T (F_are_sizes.mono (by decide)) (F_measured.mono (by decide)) (F_Program_keep.mono (by decide))
  have F_l_contents := A_l_contents (P := P) (w := w) (base := base) (k := 0) X N c T 
  have F_l_see := A_l_see (P := P) (w := w) (base := base) (k := 0) X N c T 
  have F_l_do_0 := A_l_do0 (P := P) (w := w) (base := base) (k := 0) X N c T
  have F_l_do_1 := A_l_do (P := P) (w := w) (base := base) (k := 2) X N c T 0 (F_l_see.mono (by decide)) (F_l_do_0.mono (by decide))
  have F_l_do_2 := A_l_do (P := P) (w := w) (base := base) (k := 4) X N c T 1 (F_l_see.mono (by decide)) (F_l_do_1.mono (by decide))
  have F_l_do_3 := A_l_do (P := P) (w := w) (base := base) (k := 6) X N c T 2 (F_l_see.mono (by decide)) (F_l_do_2.mono (by decide))
  have F_l_do_4 := A_l_do (P := P) (w := w) (base := base) (k := 8) X N c T 3 (F_l_see.mono (by decide)) (F_l_do_3.mono (by decide))
  have F_l_do_5 := A_l_do (P := P) (w := w) (base := base) (k := 10) X N c T 4 (F_l_see.mono (by decide)) (F_l_do_4.mono (by decide))
  have F_l_do := A_l_do (P := P) (w := w) (base := base) (k := 12) X N c T 5 (F_l_see.mono (by decide)) (F_l_do_5.mono (by decide))
  have F_l_walk := A_l_walk (P := P) (w := w) (base := base) (k := 14) X N c T (F_l_do.mono (by decide))
  have F_l_shows := A_l_shows (P := P) (w := w) (base := base) (k := 16) X N c T (F_l_walk.mono (by decide))
  have F_raw_contents := A_raw_contents (P := P) (w := w) (base := base) (k := 0) X N c T 
  have F_State_statement := A_State_statement (P := P) (w := w) (base := base) (k := 0) X N c T 
  have F_State_step := A_State_step (P := P) (w := w) (base := base) (k := 0) X N c T 
  have F_State_enter := A_State_enter (P := P) (w := w) (base := base) (k := 2) X N c T (F_State_step.mono (by decide))
  have F_State_tested := A_State_tested (P := P) (w := w) (base := base) (k := 4) X N c T (F_State_enter.mono (by decide))
  have F_State_met := A_State_met (P := P) (w := w) (base := base) (k := 6) X N c T (F_State_step.mono (by decide)) (F_State_tested.mono (by decide))
  have F_State_go_on := A_State_go_on (P := P) (w := w) (base := base) (k := 8) X N c T (F_State_statement.mono (by decide)) (F_State_met.mono (by decide))
  have F_State_init := A_State_init (P := P) (w := w) (base := base) (k := 10) X N c T (F_State_go_on.mono (by decide))
  have F_begin := A_begin (P := P) (w := w) (base := base) (k := 12) X N c T (F_State_init.mono (by decide))
  have F_after_open := A_after_open (P := P) (w := w) (base := base) (k := 12) X N c T (F_State_init.mono (by decide))
  have F_common_divisor := A_common_divisor (P := P) (w := w) (base := base) (k := 0) X N c T 
  have F_made := A_made (P := P) (w := w) (base := base) (k := 2) X N c T (F_common_divisor.mono (by decide))
  have F_times := A_times (P := P) (w := w) (base := base) (k := 4) X N c T (F_made.mono (by decide))
  have F_after_throw := A_after_throw (P := P) (w := w) (base := base) (k := 12) X N c T (F_State_init.mono (by decide))
  have F_outcomes := A_outcomes (P := P) (w := w) (base := base) (k := 14) X N c T (F_begin.mono (by decide)) (F_after_open.mono (by decide)) (F_made.mono (by decide)) (F_times.mono (by decide)) (F_after_throw.mono (by decide))
  have F_all_outcomes := A_all_outcomes (P := P) (w := w) (base := base) (k := 16) X N c T (F_raw_contents.mono (by decide)) (F_outcomes.mono (by decide))
  have F_raw_is_blind := A_raw_is_blind (P := P) (w := w) (base := base) (k := 18) X N c T (F_all_outcomes.mono (by decide))
  have F_is_policy := A_is_policy (P := P) (w := w) (base := base) (k := 2) X N c T (F_is_pair.mono (by decide))
  have F_check_policy := A_check_policy (P := P) (w := w) (base := base) (k := 4) X N c T (F_is_policy.mono (by decide))
  have F_check_blind := A_check_blind (P := P) (w := w) (base := base) (k := 20) X N c T (F_raw_is_blind.mono (by decide)) (F_check_policy.mono (by decide))
  have F_moves_until := A_moves_until (P := P) (w := w) (base := base) (k := 14) X N c T (F_begin.mono (by decide)) (F_after_throw.mono (by decide)) (F_after_open.mono (by decide))
  have F_breach_of := A_breach_of (P := P) (w := w) (base := base) (k := 16) X N c T (F_outcomes.mono (by decide)) (F_moves_until.mono (by decide))
  have F_breach := A_breach (P := P) (w := w) (base := base) (k := 22) X N c T (F_check_blind.mono (by decide)) (F_raw_contents.mono (by decide)) (F_breach_of.mono (by decide))
  have F_l_is_int := A_l_is_int (P := P) (w := w) (base := base) (k := 0) X N c T 
  have F_l_is_move := A_l_is_move (P := P) (w := w) (base := base) (k := 2) X N c T (F_l_is_int.mono (by decide))
  have F_l_due := A_l_due (P := P) (w := w) (base := base) (k := 16) X N c T (F_l_walk.mono (by decide))
  have F_l_moved := A_l_moved (P := P) (w := w) (base := base) (k := 18) X N c T (F_l_due.mono (by decide))
  have F_l_is_breach := A_l_is_breach (P := P) (w := w) (base := base) (k := 20) X N c T (F_l_is_int.mono (by decide)) (F_l_contents.mono (by decide)) (F_l_is_move.mono (by decide)) (F_l_moved.mono (by decide))
  have F_is_content := A_is_content (P := P) (w := w) (base := base) (k := 4) X N c T (F_is_within.mono (by decide))
  have F_is_row := A_is_row (P := P) (w := w) (base := base) (k := 0) X N c T 
  have F_Keeper_next_row := A_Keeper_next_row (P := P) (w := w) (base := base) (k := 14) X N c T (F_begin.mono (by decide))
  have F_Keeper_init := A_Keeper_init (P := P) (w := w) (base := base) (k := 16) X N c T (F_check_policy.mono (by decide)) (F_Keeper_next_row.mono (by decide))
  have F_check_content := A_check_content (P := P) (w := w) (base := base) (k := 6) X N c T (F_is_content.mono (by decide))
  have F_Keeper_put := A_Keeper_put (P := P) (w := w) (base := base) (k := 8) X N c T (F_check_content.mono (by decide))
  have F_is_alike_0 := A_is_alike0 (P := P) (w := w) (base := base) (k := 0) X N c T
  have F_is_alike_1 := A_is_alike (P := P) (w := w) (base := base) (k := 2) X N c T 0 (F_is_alike_0.mono (by decide)) (F_is_integer.mono (by decide))
  have F_is_alike := A_is_alike (P := P) (w := w) (base := base) (k := 4) X N c T 1 (F_is_alike_1.mono (by decide)) (F_is_integer.mono (by decide))
  have F_Keeper_fall := A_Keeper_fall (P := P) (w := w) (base := base) (k := 0) X N c T 
  have F_Keeper_row_now := A_Keeper_row_now (P := P) (w := w) (base := base) (k := 0) X N c T 
  have F_Keeper_due := A_Keeper_due (P := P) (w := w) (base := base) (k := 2) X N c T (F_Keeper_row_now.mono (by decide))
  have F_Keeper_begin_row := A_Keeper_begin_row (P := P) (w := w) (base := base) (k := 2) X N c T (F_Keeper_row_now.mono (by decide))
  have F_Keeper_make_sure := A_Keeper_make_sure (P := P) (w := w) (base := base) (k := 0) X N c T 
  have F_Keeper_throw := A_Keeper_throw (P := P) (w := w) (base := base) (k := 14) X N c T (F_Keeper_due.mono (by decide)) (F_is_within.mono (by decide)) (F_Keeper_begin_row.mono (by decide)) (F_after_throw.mono (by decide)) (F_Keeper_make_sure.mono (by decide))
  have F_Keeper_open_column := A_Keeper_open_column (P := P) (w := w) (base := base) (k := 14) X N c T (F_Keeper_make_sure.mono (by decide)) (F_Keeper_begin_row.mono (by decide)) (F_Keeper_row_now.mono (by decide)) (F_after_open.mono (by decide))
  have F_Keeper_show_pattern := A_Keeper_show_pattern (P := P) (w := w) (base := base) (k := 16) X N c T (F_Keeper_begin_row.mono (by decide)) (F_Keeper_make_sure.mono (by decide)) (F_Keeper_next_row.mono (by decide))
  have F_Keeper_go := A_Keeper_go (P := P) (w := w) (base := base) (k := 18) X N c T (F_Keeper_due.mono (by decide)) (F_Keeper_open_column.mono (by decide)) (F_Keeper_show_pattern.mono (by decide))
  have F_is_done := A_is_done (P := P) (w := w) (base := base) (k := 20) X N c T (F_is_alike.mono (by decide)) (F_Keeper_fall.mono (by decide)) (F_Keeper_due.mono (by decide)) (F_is_pair.mono (by decide)) (F_is_within.mono (by decide)) (F_Keeper_throw.mono (by decide)) (F_Keeper_go.mono (by decide))
  have F_Keeper_peeked := A_Keeper_peeked (P := P) (w := w) (base := base) (k := 0) X N c T 
  have F_is_breach := A_is_breach (P := P) (w := w) (base := base) (k := 22) X N c T (F_check_blind.mono (by decide)) (F_is_pair.mono (by decide)) (F_is_content.mono (by decide)) (F_is_row.mono (by decide)) (F_Keeper_init.mono (by decide)) (F_Keeper_put.mono (by decide)) (F_is_done.mono (by decide)) (F_Keeper_peeked.mono (by decide))
  have F_l_some_moves := A_l_some_moves (P := P) (w := w) (base := base) (k := 20) X N c T (F_l_draw.mono (by decide)) (F_l_moved.mono (by decide))
  have F_l_bent := A_l_bent (P := P) (w := w) (base := base) (k := 2) X N c T (F_l_draw.mono (by decide))
  exact def_pure (k := 25) F sc_law (fun cdv A outer s H E hr => dv_law T (F_l_hand.mono (by decide)) (F_l_draw.mono (by decide)) (F_l_blind_block.mono (by decide)) (F_Program_init.mono (by decide)) (F_l_contents.mono (by decide)) (F_l_shows.mono (by decide)) (F_breach.mono (by decide)) (F_l_is_breach.mono (by decide)) (F_is_breach.mono (by decide)) (F_l_some_moves.mono (by decide)) (F_l_bent.mono (by decide)) hr) r_law
theorem facts {f : Addr} (X : K.In h) (N : h.Ns mainGlobals mg) (hfa : mg ("law" : Str) = some (.ref f)) (c : Hd.obsO K = Hd.valO) :
    ∃ fd : FuncData, (∀ (s : Shared) (v : Value), BindsTo s fd ⟨[v], []⟩ [("_law_script", v)]) ∧ ∀ base : Heap, K.In base → base.Ns mainGlobals mg → L2.FnOk P w K mg base L2.CX0 26 f fd ["_law_script"] (spOf K (caK K) (liftP p_law)) := by
  have c1 : He.SaysD Hd.fa Hd.fn K := congrArg (fun z : Hd.AlO => z.1) c
  have c2 : He.tupB K "ONE" [.int 1, .int 1] = true := congrArg (fun z : Hd.AlO => z.2) c
  obtain ⟨fd, F⟩ := c1.def_ 73 (d := Hd.d_law) rfl
  have e := hfa.symm.trans (He.glo_ok X N (c1.fact 50 (f := .glo "law") rfl))
  cases e
  have b := L2.FunD.bindsA (ps := ["_law_script"]) F fun _ _ _ _ _ _ us hl => match us, hl with | [_], _ => rfl
  exact ⟨fd, fun s v => b s [v] rfl, fun base _ _ => law_ok X N c1 c2 F⟩
theorem law_sp (H : Hp) (a : Addr) (ns : List Int) (hS : SqL K H a (ns.map V.int)) : spOf K (caK K) (liftP p_law) [.ref a] H (fun v _ => v = .bl true) (fun _ _ _ => False) := by
  refine ⟨H, [.scr ns], Mem.nil, fun d _ => d = .bl true, ⟨fun _ _ e => e, fun a o e => nomatch (show (none : Option MO) = some o from e)⟩, .cons (.scr hS) .nil, ⟨ns, rfl, rfl⟩, fun v H' hq => ?_⟩
  obtain ⟨G', d, M', _, _, r, e⟩ := hq
  subst e
  cases r
  rfl
end
end G
open PySem PySem.W PySem.Calls PyProof.Rows
theorem PySem.Challenge.cw_fairmasks_k56_whole_breaches_by_falls_holds : PySem.Challenge.rw_fairmasks_k56_whole_breaches_by_falls.Holds := by
  w_on; o_law
  refine HandSHeadRun.head_any (r := OpenLaw.row PySem.Challenge.rw_fairmasks_k56_whole_breaches_by_falls) (q := view (OpenLaw.row PySem.Challenge.rw_fairmasks_k56_whole_breaches_by_falls).prog [79]) (H := Hd.hk) (ob := Hd.ob) (M := 6000) (loose := Hd.looseN) (d := HandSHeadRun.topDef (OpenLaw.row PySem.Challenge.rw_fairmasks_k56_whole_breaches_by_falls).prog 79) (kwd := []) Hd.ob_eq
    (by kernel_rfl) (fun s => by kernel_rfl) Hd.run (by kernel_rfl) (by kernel_rfl) (by kernel_rfl) (by rfl) (by first | assumption | decide +kernel) (by decide +kernel) ⟨rfl, rfl, rfl, rfl, rfl, by decide +kernel⟩ ?hw ?hc
  case hw => w_witness2
  case hc =>
    refine L2.walk_ofE (l := PySem.Challenge.rw_fairmasks_k56_whole_breaches_by_falls) (n := 63) (k := 26) (x := "_law_script") (CX := L2.CX0) rfl (by decide) (by kernel_rfl) ⟨rfl, by decide, by decide⟩ ?F (fun _ _ _ _ z => z)
    intro w mg fa h Y NS hmg0
    obtain ⟨K, KX, c⟩ := Y
    have hmg : mg ("law" : PySem.Str) = some (.ref fa) := by
      have e : (HandSHeadRun.topDef (OpenLaw.row PySem.Challenge.rw_fairmasks_k56_whole_breaches_by_falls).prog 79).name = ("law" : PySem.Str) := by kernel_rfl
      rw [← e]
      exact hmg0
    obtain ⟨fd, hb, hF⟩ := G.facts (P := (PySem.Challenge.rw_fairmasks_k56_whole_breaches_by_falls).prog) (w := w) KX NS hmg c
    exact ⟨K, fd, _, KX, hb, fun H a ns hl _ hS => G.law_sp H a ns hS, hF⟩
